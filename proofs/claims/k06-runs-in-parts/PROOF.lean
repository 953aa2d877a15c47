import PyProof.Rows.All
import PySem.Challenge.RW_piecetold_k06_whole_runs_in_parts
import HandS.ForMost
import HandS.ForExc
import HandS.Deep
import HandS.TupAny
import HandS.TupMul
import HandS.TupLe
import HandS.IsInst
import HandS.NoneIn
import HandS.Style
import HandS.Flow
import HandS.Conv
import HandS.Sort
import KE.KDictKeyed
import HandS.CallSlots
import HandS.AnyAll
import HandS.Strs
import HandS.Comp
import HandS.Zip
import KE.GoesMore
import KE.GoesEnum
import HandS.ReCall
import KE.KAssignIn
import HandS.DictComp
import HandS.GenOver
import PyProof.GenQ
import HandS.GenList
import HandS.More
import HandS.WordsExc
import HandS.Defaults
import KE.KStateDown
import HandS.Ends
import HandS.Head0
import HandS.Head1
import HandS.Head2
import HandS.HeadEnd
import HandS.HeadHook1
import HandS.HeadHook2
import HandS.HeadWalk
import HandS.NestedK
set_option Elab.async false
set_option linter.all false
set_option maxRecDepth 100000
set_option maxHeartbeats 0
section
namespace PM
open PySem

inductive PV where
  | non | bl (b : Bool) | int (i : Int) | str (x : Str)
  | tup (xs : List PV) | lst (xs : List PV) | ro (xs : List PV) | obj (c : Nat) (ns : List Nat) (xs : List PV)
  | loc (l : Nat)

mutual
def PV.beq : PV → PV → Bool
  | .non, y => match y with | .non => true | _ => false
  | .bl a, y => match y with | .bl b => a == b | _ => false
  | .int a, y => match y with | .int b => decide (a = b) | _ => false
  | .str a, y => match y with | .str b => decide (a = b) | _ => false
  | .tup a, y => match y with | .tup b => PV.beqs a b | _ => false
  | .lst a, y => match y with | .lst b => PV.beqs a b | _ => false
  | .ro a, y => match y with | .ro b => PV.beqs a b | _ => false
  | .obj c n a, y => match y with | .obj d m b => decide (c = d) && decide (n = m) && PV.beqs a b | _ => false
  | .loc a, y => match y with | .loc b => decide (a = b) | _ => false
def PV.beqs : List PV → List PV → Bool
  | [], ys => match ys with | [] => true | _ :: _ => false
  | x :: xs, ys => match ys with | [] => false | y :: ys => PV.beq x y && PV.beqs xs ys
end
mutual
theorem PV.beq_self : ∀ x : PV, PV.beq x x = true
  | .non => rfl
  | .bl b => by cases b <;> rfl
  | .int a => by simp [PV.beq]
  | .str a => by simp [PV.beq]
  | .tup a => by simp [PV.beq, PV.beqs_self a]
  | .lst a => by simp [PV.beq, PV.beqs_self a]
  | .ro a => by simp [PV.beq, PV.beqs_self a]
  | .obj c n a => by simp [PV.beq, PV.beqs_self a]
  | .loc a => by simp [PV.beq]
theorem PV.beqs_self : ∀ xs : List PV, PV.beqs xs xs = true
  | [] => rfl
  | x :: xs => by simp [PV.beqs, PV.beq_self x, PV.beqs_self xs]
end
mutual
theorem PV.eq_of_beq : ∀ x y : PV, PV.beq x y = true → x = y
  | .non, y, h => by cases y <;> simp [PV.beq] at h <;> rfl
  | .bl a, y, h => by cases y <;> simp [PV.beq] at h <;> rw [h]
  | .int a, y, h => by cases y <;> simp [PV.beq] at h <;> rw [h]
  | .str a, y, h => by cases y <;> simp [PV.beq] at h <;> rw [h]
  | .tup a, y, h => by cases y <;> simp [PV.beq] at h <;> rw [PV.eq_of_beqs a _ h]
  | .lst a, y, h => by cases y <;> simp [PV.beq] at h <;> rw [PV.eq_of_beqs a _ h]
  | .ro a, y, h => by cases y <;> simp [PV.beq] at h <;> rw [PV.eq_of_beqs a _ h]
  | .obj c n a, y, h => by
    cases y <;> simp [PV.beq] at h
    rw [PV.eq_of_beqs a _ h.2, h.1.1, h.1.2]
  | .loc a, y, h => by cases y <;> simp [PV.beq] at h <;> rw [h]
theorem PV.eq_of_beqs : ∀ xs ys : List PV, PV.beqs xs ys = true → xs = ys
  | [], ys, h => by cases ys <;> simp [PV.beqs] at h <;> rfl
  | x :: xs, ys, h => by
    cases ys <;> simp [PV.beqs] at h
    rw [PV.eq_of_beq x _ h.1, PV.eq_of_beqs xs _ h.2]
end
instance : DecidableEq PV := fun a b => if h : PV.beq a b = true then isTrue (PV.eq_of_beq a b h) else isFalse fun e => h (e ▸ PV.beq_self a)

inductive MO where
  | lst (xs : List PV) | dic (kvs : List (PV × PV)) | dkn (kvs : List (PV × PV)) | ins (c : Nat) (fs : List (Nat × PV))
  deriving DecidableEq
abbrev Sto := List MO
inductive Res (α : Type) where
  | ok (a : α) (S : Sto) | exc (c : Nat) (S : Sto) | bad
abbrev Env := List (Option PV)

@[inline] def Res.bind {α β : Type} (m : Res α) (f : α → Sto → Res β) : Res β := match m with
  | .ok a S => f a S
  | .exc c S => .exc c S
  | .bad => .bad
theorem Res.bind_ok {α β : Type} (a : α) (S : Sto) (f : α → Sto → Res β) : (Res.ok a S).bind f = f a S := rfl
theorem Res.bind_exc {α β : Type} (c : Nat) (S : Sto) (f : α → Sto → Res β) : (Res.exc c S : Res α).bind f = .exc c S := rfl
theorem Res.bind_bad {α β : Type} (f : α → Sto → Res β) : (Res.bad : Res α).bind f = .bad := rfl
@[inline] def Res.need {α : Type} (b : Bool) (m : Res α) : Res α := if b = true then m else .bad
@[inline] def Res.opt {α β : Type} (o : Option α) (f : α → Res β) : Res β := match o with
  | some a => f a
  | none => .bad

def LIM : Nat := 16777216
theorem lim_eq : LIM = sizeLine := sizeLine_eq.symm

def trk (S : Sto) : PV → Option (List PV)
  | .lst xs => some xs
  | .loc l => match S[l]? with
    | some (.lst xs) => some xs
    | _ => none
  | _ => none
def lstOf (S : Sto) : PV → Option (List PV)
  | .lst xs => some xs
  | .ro xs => some xs
  | .loc l => match S[l]? with
    | some (.lst xs) => some xs
    | _ => none
  | _ => none
def seqOf (S : Sto) : PV → Option (List PV)
  | .tup xs => some xs
  | x => lstOf S x
def new (S : Sto) (o : MO) : Res PV := .ok (.loc S.length) (S ++ [o])

mutual
def toDw (g : Nat → Option PyData) : PV → Option PyData
  | .non => some .none
  | .bl b => some (.bool b)
  | .int i => some (.int i)
  | .str x => some (.str x)
  | .tup xs => (toDws g xs).map .tuple
  | .lst xs => (toDws g xs).map .list
  | .ro xs => (toDws g xs).map .list
  | .obj _ _ _ => none
  | .loc l => g l
def toDws (g : Nat → Option PyData) : List PV → Option (List PyData)
  | [] => some []
  | x :: xs => match toDw g x, toDws g xs with
    | some d, some ds => some (d :: ds)
    | _, _ => none
end
def toDL (S : Sto) : Nat → Nat → Option PyData
  | 0 => fun _ => none
  | k + 1 => fun l => match S[l]? with
    | some (.lst xs) => (toDws (toDL S k) xs).map .list
    | _ => none
def toD (S : Sto) (v : PV) : Option PyData := toDw (toDL S 6) v
def eqS (S : Sto) (v w : PV) : Option Bool := match toD S v, toD S w with
  | some d, some e => if SeqAt.shaped d = true ∧ SeqAt.shaped e = true then some (PyData.eqv d e) else none
  | _, _ => none

mutual
def sbst (g : Nat → Option PV) : PV → Option PV
  | .non => some .non
  | .bl b => some (.bl b)
  | .int i => some (.int i)
  | .str x => some (.str x)
  | .tup xs => (sbsts g xs).map .tup
  | .lst xs => (sbsts g xs).map .lst
  | .ro xs => (sbsts g xs).map .ro
  | .obj c n xs => (sbsts g xs).map (.obj c n)
  | .loc l => g l
def sbsts (g : Nat → Option PV) : List PV → Option (List PV)
  | [] => some []
  | x :: xs => match sbst g x, sbsts g xs with
    | some d, some ds => some (d :: ds)
    | _, _ => none
end
def frzL (n : Nat) (S : Sto) : Nat → Nat → Option PV
  | 0 => fun _ => none
  | k + 1 => fun l => if l < n then some (.loc l) else match S[l]? with
    | some (.lst xs) => (sbsts (frzL n S k) xs).map .lst
    | some (.ins c fs) => (sbsts (frzL n S k) (fs.map (·.2))).map (.obj c (fs.map (·.1)))
    | _ => none
def frz (n : Nat) (S : Sto) (v : PV) : Option PV := sbst (frzL n S 8) v
mutual
def pur : PV → Bool
  | .tup xs => purs xs
  | .lst xs => purs xs
  | .ro xs => purs xs
  | .obj _ _ xs => purs xs
  | .loc _ => false
  | _ => true
def purs : List PV → Bool
  | [] => true
  | x :: xs => pur x && purs xs
end
mutual
theorem sbst_pur (g : Nat → Option PV) : ∀ v : PV, pur v = true → sbst g v = some v
  | .non, _ => rfl
  | .bl _, _ => rfl
  | .int _, _ => rfl
  | .str _, _ => rfl
  | .tup xs, h => by simp only [pur] at h; simp [sbst, sbsts_pur g xs h]
  | .lst xs, h => by simp only [pur] at h; simp [sbst, sbsts_pur g xs h]
  | .ro xs, h => by simp only [pur] at h; simp [sbst, sbsts_pur g xs h]
  | .obj c n xs, h => by simp only [pur] at h; simp [sbst, sbsts_pur g xs h]
  | .loc _, h => by simp [pur] at h
theorem sbsts_pur (g : Nat → Option PV) : ∀ xs : List PV, purs xs = true → sbsts g xs = some xs
  | [], _ => rfl
  | x :: xs, h => by
    simp only [purs, Bool.and_eq_true] at h
    simp [sbsts, sbst_pur g x h.1, sbsts_pur g xs h.2]
end

def isTx : PV → Bool
  | .str _ => true
  | _ => false
def nmC (xs : List PV) : Bool := !xs.isEmpty && xs.all isTx
inductive BOp where | add | sub | mul | fdiv | mod
  deriving DecidableEq
inductive COp where | eq | ne | lt | le | gt | ge | isin | nin | is | isnt
  deriving DecidableEq
def addV (S : Sto) (x y : PV) : Res PV := match x, y with
  | .int i, .int j => .ok (.int (i + j)) S
  | .str a, .str b => .need (decide (a.length + b.length ≤ LIM)) (.ok (.str (a ++ b)) S)
  | .tup a, .tup b => .need (decide (a.length + b.length ≤ LIM) && !nmC (a ++ b)) (.ok (.tup (a ++ b)) S)
  | x, y => .opt (trk S x) fun a => .opt (trk S y) fun b => .need (decide (a.length + b.length ≤ LIM)) (new S (.lst (a ++ b)))
def subV (S : Sto) (x y : PV) : Res PV := match x, y with
  | .int i, .int j => .ok (.int (i - j)) S
  | _, _ => .bad
def small (i : Int) : Bool := decide (-18446744073709551616 < i) && decide (i < 18446744073709551616)
def mulV (S : Sto) (x y : PV) : Res PV := match x, y with
  | .int i, .int j => .need (small i || small j) (.ok (.int (i * j)) S)
  | .tup a, .int k => .need (!a.isEmpty && decide (2 ≤ k) && decide (k ≤ 1000) && decide (a.length ≤ 1000) && !nmC (List.replicate k.toNat a).flatten) (.ok (.tup (List.replicate k.toNat a).flatten) S)
  | x, .int k => .opt (trk S x) fun a => .need (decide (-1000000 ≤ k) && decide (k ≤ 1000000) && decide (a.length * k.toNat ≤ LIM)) (new S (.lst (List.replicate k.toNat a).flatten))
  | _, _ => .bad
def fdivV (S : Sto) (x y : PV) : Res PV := match x, y with
  | .int i, .int j => .need (decide (0 < j) && decide (j < 1073741824)) (.ok (.int (i / j)) S)
  | _, _ => .bad
def modV (S : Sto) (x y : PV) : Res PV := match x, y with
  | .int i, .int j => .need (decide (0 < j)) (.ok (.int (i % j)) S)
  | _, _ => .bad
def bopV : BOp → Sto → PV → PV → Res PV
  | .add => addV | .sub => subV | .mul => mulV | .fdiv => fdivV | .mod => modV

def ordV (p : Int → Int → Bool) (x y : PV) : Option Bool := match x, y with
  | .int i, .int j => some (p i j)
  | _, _ => none
def anyEq (S : Sto) (x : PV) (ys : List PV) : Option Bool := match toD S x, toDws (toDL S 6) ys with
  | some d, some ds => if SeqAt.shaped d = true ∧ SeqAt.shaped (.list ds) = true then some (ds.any fun z => PyData.eqv z d) else none
  | _, _ => none
def keyF : PV → Option L2.Key
  | .int i => some (.inl i)
  | .str x => some (.inr x)
  | _ => none
mutual
def keyN : PV → Option NestedKey
  | .non => some .none
  | .bl b => some (.num (if b then 1 else 0))
  | .int i => some (.num i)
  | .str x => some (.text x)
  | .tup xs => (keyNs xs).map .tup
  | _ => none
def keyNs : List PV → Option (List NestedKey)
  | [] => some []
  | x :: xs => match keyN x, keyNs xs with
    | some d, some ds => some (d :: ds)
    | _, _ => none
end
def keyT (v : PV) : Option NestedKey := match v with
  | .tup xs => match (keyNs xs).map NestedKey.tup with
    | some k => if k.depth ≤ 8 then some k else none
    | none => none
  | _ => none
def findF (kvs : List (PV × PV)) (k : L2.Key) : Option PV := (kvs.find? fun p => decide (keyF p.1 = some k)).map (·.2)
def findT (kvs : List (PV × PV)) (k : NestedKey) : Option PV := (kvs.find? fun p => decide (keyT p.1 = some k)).map (·.2)
def dfind (S : Sto) (l : Nat) (k : PV) : Option (Option PV) := match S[l]? with
  | some (.dic kvs) => (keyF k).map (findF kvs)
  | some (.dkn kvs) => (keyT k).map (findT kvs)
  | _ => none
def inV (S : Sto) (x y : PV) : Option Bool := match y with
  | .str z => match x with
    | .str t => match t.cps.toList with
      | [c] => some (decide (c ∈ z.cps.toList))
      | _ => none
    | _ => none
  | .tup ys => anyEq S x ys
  | .lst ys => anyEq S x ys
  | .ro ys => anyEq S x ys
  | .loc l => match S[l]? with
    | some (.lst ys) => anyEq S x ys
    | _ => (dfind S l x).map (·.isSome)
  | _ => none
def isV (x y : PV) : Option Bool := match x, y with
  | .bl a, .bl b => some (decide (a = b))
  | x, .non => some (decide (x = .non))
  | _, _ => none
def cmpV : COp → Sto → PV → PV → Option Bool
  | .eq => eqS
  | .ne => fun S x y => (eqS S x y).map (!·)
  | .lt => fun _ => ordV fun i j => decide (i < j)
  | .le => fun _ => ordV fun i j => decide (i ≤ j)
  | .gt => fun _ => ordV fun i j => decide (j < i)
  | .ge => fun _ => ordV fun i j => decide (j ≤ i)
  | .isin => inV
  | .nin => fun S x y => (inV S x y).map (!·)
  | .is => fun _ => isV
  | .isnt => fun _ x y => (isV x y).map (!·)
def truth (S : Sto) : PV → Option Bool
  | .non => some false
  | .bl b => some b
  | .int i => some (i != 0)
  | .str x => if x.length ≤ LIM then some (x.length != 0) else none
  | .tup xs => some (!xs.isEmpty)
  | .lst xs => some (!xs.isEmpty)
  | .ro xs => some (!xs.isEmpty)
  | .loc l => match S[l]? with
    | some (.lst xs) => some (!xs.isEmpty)
    | _ => none
  | .obj _ _ _ => none
def ixV (S : Sto) (x i : PV) : Option PV := match x, i with
  | .str z, .int i => if z.length ≤ LIM then (L2.atI z.cps.toList i).map fun c => .str ⟨#[c]⟩ else none
  | .loc l, i => match S[l]?, i with
    | some (.lst xs), .int i => L2.atI xs i
    | _, i => (dfind S l i).bind id
  | x, .int i => (seqOf S x).bind fun xs => L2.atI xs i
  | _, _ => none
def cutP (xs : List PV) (lo hi : Option Int) : List PV := (xs.drop (HT.sIx xs.length 0 lo)).take (HT.sIx xs.length xs.length hi - HT.sIx xs.length 0 lo)
def slV (S : Sto) (x : PV) (lo hi : Option Int) : Res PV := match x with
  | .tup xs => .ok (.tup (cutP xs lo hi)) S
  | x => .opt (lstOf S x) fun xs => new S (.lst (cutP xs lo hi))
def revV (S : Sto) (x : PV) : Res PV := .opt (lstOf S x) fun xs => new S (.lst xs.reverse)
def fldV (S : Sto) (x : PV) (f : Nat) : Option PV := match x with
  | .obj _ ns xs => (ns.zip xs).lookup f
  | .loc l => match S[l]? with
    | some (.ins _ fs) => fs.lookup f
    | _ => none
  | _ => none
inductive KN where | int | bool | str | list | tuple | cls (c : Nat)
  deriving DecidableEq
end PM
end
section
namespace PM
open PySem

inductive BI where
  | len | int | list | tuple | sorted | min2 | min1 | max1 | sum | str | repr | listR1 | tupR1 | tupR2 | bool
  deriving DecidableEq
inductive LM where
  | append | pop0 | popk | popd | get1 | get2 | index
  deriving DecidableEq

mutual
inductive CE where
  | cst (v : PV) | var (i : Nat) | glo (x : Str) (v : PV) | pow (i j : Nat)
  | bop (o : BOp) (a b : CE) | cmp (o : COp) (a b : CE) | cmp2 (o o' : COp) (a b c : CE)
  | and (a b : CE) | or (a b : CE) | not (a : CE) | neg (a : CE) | ife (t a b : CE)
  | tup (es : CEs) | lst (es : CEs) | dnew (n : Bool)
  | ix (a i : CE) | sl (a : CE) (lo hi : CEo) | rev (a : CE)
  | fld (a : CE) (f : Nat)
  | call (f : Nat) (es : CEs) | make (c f : Nat) (es : CEs) (dv : List PV) | meth (c f : Nat) (o : CE) (es : CEs)
  | bi (b : BI) (es : CEs) | isi (e : CE) (ks : List KN) | lm (m : LM) (o : CE) (es : CEs)
  | comp (elt : CE) (own : List Nat) (tg : CT) (it : CI) (cond : CEo)
  | gen (all : Bool) (elt : CE) (own : List Nat) (tg : CT) (it : CI)
  | dcomp (nest : Bool) (k v : CE) (own : List Nat) (tg : CT) (it : CI)
  | dcomp2 (k v : CE) (own own2 : List Nat) (tg : CT) (it : CI) (tg2 : CT) (it2 : CI)
  | fz (e : CE) | nev
inductive CEs where | nil | cons (e : CE) (es : CEs)
inductive CEo where | none | some (e : CE)
inductive CI where | seq (e : CE) | rng1 (e : CE) | rng2 (a b : CE) | enum (e : CE) | zip (a b : CE)
inductive CT where | var (i : Nat) | fld (o : CE) (f : Nat) | sub (o i : CE) | tup (ts : CTs)
inductive CTs where | nil | cons (t : CT) (ts : CTs)
end

inductive CSs where
  | nil | asg (t : CT) (e : CE) (r : CSs) | par (is : List Nat) (es : CEs) (r : CSs) | aug (i : Nat) (o : BOp) (e : CE) (r : CSs) | ex (e : CE) (r : CSs)
  | ret (e : CE) | retN | iff (c : CE) (a b r : CSs) | for (t : CT) (it : CI) (body r : CSs) | wh (n : Nat) (c : CE) (body r : CSs)
  | raise (c : Nat) | try1 (body : CSs) (c : Nat) (n : Option Nat) (suite r : CSs) | pass (r : CSs) | nev

inductive RS where
  | nx (ρ : Env) (S : Sto) | ret (v : PV) (S : Sto) | exc (c : Nat) (ρ : Env) (S : Sto) | bad
def RS.seq (q : RS) (f : Env → Sto → RS) : RS := match q with
  | .nx ρ S => f ρ S
  | r => r
def RS.fst {β : Type} (ρ : Env) (m : Res β) (f : β → Sto → RS) : RS := match m with
  | .ok v S => f v S
  | .exc c S => .exc c ρ S
  | .bad => .bad
abbrev RT := Option (Env × Sto)

structure Cf where
  fn : Nat → List PV → Sto → Res PV
  sub : Nat → Nat → Bool

@[inline] def Res.bnd {α β : Type} (m : Res α) (f : α → Sto → Res β) : Res β := match m with
  | .ok a S => f a S
  | _ => .bad
def intsV : List PV → Option (List Int)
  | [] => some []
  | x :: xs => match x, intsV xs with
    | .int i, some is => some (i :: is)
    | _, _ => none
def insI (i : Int) : List Int → List Int
  | [] => [i]
  | j :: r => if i ≤ j then i :: j :: r else j :: insI i r
def sortI : List Int → List Int
  | [] => []
  | i :: r => insI i (sortI r)
def minI : Int → List Int → Int
  | m, [] => m
  | m, j :: r => minI (if j < m then j else m) r
def maxI : Int → List Int → Int
  | m, [] => m
  | m, j :: r => maxI (if m < j then j else m) r
def keysOf (S : Sto) : PV → Option (List PV)
  | .loc l => match S[l]? with
    | some (.dic kvs) => some (kvs.map (·.1))
    | _ => none
  | _ => none
def rngL (lo hi : Int) : List PV := (List.range (hi - lo).toNat).map fun i => .int (lo + (i : Nat))
def okR (lo hi : Int) : Bool := decide (-1000000000 ≤ lo) && decide (lo ≤ 1000000000) && decide (-1000000000 ≤ hi) && decide (hi ≤ 1000000000) && decide ((hi - lo).toNat ≤ LIM)
def lenV (S : Sto) : PV → Option Nat
  | .str x => if x.length ≤ LIM then some x.length else none
  | .loc l => match S[l]? with
    | some (.lst xs) => some xs.length
    | some (.dic kvs) => some kvs.length
    | _ => none
  | x => (seqOf S x).map (·.length)
def b1 (f : PV → Res PV) : List PV → Res PV
  | [x] => f x
  | _ => .bad
def b2 (f : PV → PV → Res PV) : List PV → Res PV
  | [x, y] => f x y
  | _ => .bad
def intB (S : Sto) : PV → Res PV
  | .int i => .ok (.int i) S
  | .bl k => .ok (.int (if k then 1 else 0)) S
  | _ => .bad
def listB (S : Sto) (x : PV) : Res PV := match keysOf S x with
  | some ks => new S (.lst ks)
  | none => .opt (seqOf S x) fun xs => new S (.lst xs)
def tupB (S : Sto) (x : PV) : Res PV := match x with
  | .tup xs => .ok (.tup xs) S
  | x => .opt (lstOf S x) fun xs => .ok (.tup xs) S
def sortB (S : Sto) (x : PV) : Res PV := match keysOf S x with
  | some ks => .opt (intsV ks) fun is => .need (decide (is.length < 64)) (new S (.lst ((sortI is).map .int)))
  | none => .opt ((lstOf S x).bind intsV) fun is => .need (decide (is.length < 64)) (new S (.lst ((sortI is).map .int)))
def min2B (S : Sto) (x y : PV) : Res PV := match x, y with
  | .int i, .int j => .ok (.int (if j < i then j else i)) S
  | _, _ => .bad
def sumB (S : Sto) (x : PV) : Res PV := .opt ((lstOf S x).bind intsV) fun is => .ok (.int is.sum) S
def strB (S : Sto) (x : PV) : Res PV := match x with
  | .int i => .need (decide (i.natAbs < 1000000000)) (.ok (.str (toString i)) S)
  | _ => .bad
def listR1B (S : Sto) (x : PV) : Res PV := match x with
  | .int n => .need (okR 0 n) (new S (.lst (rngL 0 n)))
  | _ => .bad
def tupR1B (S : Sto) (x : PV) : Res PV := match x with
  | .int n => .need (okR 0 n) (.ok (.tup (rngL 0 n)) S)
  | _ => .bad
def tupR2B (S : Sto) (x y : PV) : Res PV := match x, y with
  | .int m, .int n => .need (okR m n) (.ok (.tup (rngL m n)) S)
  | _, _ => .bad
def biV (b : BI) (S : Sto) : List PV → Res PV := match b with
  | .len => b1 fun x => .opt (lenV S x) fun n => .ok (.int n) S
  | .int => b1 (intB S)
  | .list => b1 (listB S)
  | .tuple => b1 (tupB S)
  | .sorted => b1 (sortB S)
  | .min2 => b2 (min2B S)
  | .sum => b1 (sumB S)
  | .str => b1 (strB S)
  | .listR1 => b1 (listR1B S)
  | .tupR1 => b1 (tupR1B S)
  | .tupR2 => b2 (tupR2B S)
  | _ => fun _ => .bad
def isiV (S : Sto) (cf : Cf) (x : PV) (ks : List KN) : Option Bool := match x with
  | .non => some false
  | .bl _ => some (ks.contains .bool || ks.contains .int)
  | .int _ => some (ks.contains .int)
  | .str _ => some (ks.contains .str)
  | .tup _ => some (ks.contains .tuple)
  | .lst _ => some (ks.contains .list)
  | .ro _ => some (ks.contains .list)
  | .obj c _ _ => some (ks.contains (.cls c))
  | .loc l => match S[l]? with
    | some (.lst _) => some (ks.contains .list)
    | some (.ins c _) => some (ks.contains (.cls c))
    | _ => none
def setF (kvs : List (PV × PV)) (k : PV) (kk : L2.Key) (v : PV) : List (PV × PV) :=
  if kvs.any fun p => decide (keyF p.1 = some kk) then kvs.map fun p => if keyF p.1 = some kk then (p.1, v) else p else kvs ++ [(k, v)]
def setT (kvs : List (PV × PV)) (k : PV) (kk : NestedKey) (v : PV) : List (PV × PV) :=
  if kvs.any fun p => decide (keyT p.1 = some kk) then kvs.map fun p => if keyT p.1 = some kk then (p.1, v) else p else kvs ++ [(k, v)]
def put (S : Sto) (l : Nat) (o : MO) (v : PV) : Res PV := .ok v (S.set l o)
def setV (S : Sto) (o i v : PV) : Option Sto := match o with
  | .loc l => match S[l]?, i with
    | some (.lst xs), .int k => (L2.ixN xs.length k).map fun j => S.set l (.lst (xs.set j v))
    | some (.dic kvs), i => (keyF i).bind fun kk => if kvs.length < LIM then some (S.set l (.dic (setF kvs i kk v))) else none
    | some (.dkn kvs), i => (keyT i).bind fun kk => if kvs.length < LIM then some (S.set l (.dkn (setT kvs i kk v))) else none
    | _, _ => none
  | _ => none
def putP (f : Nat) (v : PV) : List (Nat × PV) → List (Nat × PV)
  | [] => [(f, v)]
  | (g, w) :: r => if f = g then (g, v) :: r else (g, w) :: putP f v r
def setFld (S : Sto) (o : PV) (f : Nat) (v : PV) : Option Sto := match o with
  | .loc l => match S[l]? with
    | some (.ins c fs) => if fs.length < 1000 then some (S.set l (.ins c (putP f v fs))) else none
    | _ => none
  | _ => none
def lmK (m : LM) (S : Sto) (o : PV) : Bool := match m with
  | .index => match o with
    | .tup xs => nmC xs
    | _ => false
  | .append | .pop0 => match o with
    | .loc l => match S[l]? with
      | some (.lst _) => true
      | _ => false
    | _ => false
  | _ => match o with
    | .loc l => match S[l]? with
      | some (.dic _) => true
      | some (.dkn _) => true
      | _ => false
    | _ => false
def lmV (m : LM) (S : Sto) (o : PV) (vs : List PV) : Res PV := match m, o, vs with
  | .append, .loc l, [v] => match S[l]? with
    | some (.lst xs) => .need (decide (xs.length < LIM)) (put S l (.lst (xs ++ [v])) .non)
    | _ => .bad
  | .pop0, .loc l, [] => match S[l]? with
    | some (.lst xs) => .opt xs[xs.length - 1]? fun y => put S l (.lst xs.dropLast) y
    | _ => .bad
  | .get1, .loc l, [k] => .opt (dfind S l k) fun r => .ok (r.getD .non) S
  | .get2, .loc l, [k, d] => .opt (dfind S l k) fun r => .ok (r.getD d) S
  | .popk, .loc l, [k] => match S[l]? with
    | some (.dkn kvs) => .opt (keyT k) fun kk => .opt (findT kvs kk) fun v => put S l (.dkn (kvs.filter fun p => decide (keyT p.1 ≠ some kk))) v
    | _ => .bad
  | .popd, .loc l, [k, d] => match S[l]? with
    | some (.dkn kvs) => .opt (keyT k) fun kk => match findT kvs kk with
      | some v => put S l (.dkn (kvs.filter fun p => decide (keyT p.1 ≠ some kk))) v
      | none => .ok d S
    | _ => .bad
  | .index, .tup xs, [.str x] => .opt (xs.findIdx? fun y => decide (y = .str x)) fun j => .need (xs.all isTx) (.ok (.int j) S)
  | _, _, _ => .bad
def fzR (S : Sto) : Res PV → Res PV
  | .ok v S' => if S'.take S.length = S then .opt (frz S.length S' v) fun t => .ok t S else .bad
  | .exc c S' => if S'.take S.length = S then .exc c S else .exc c S'
  | .bad => .bad
def wipe (ρ : Env) : List Nat → Env
  | [] => ρ
  | v :: vs => (wipe ρ vs).set v none
def compL (l0 : Nat) (same : Sto → Bool) (asg : PV → Sto → RT) (cond : Env → Sto → Res Bool) (elt : Env → Sto → Res PV) : List PV → Sto → Res PV
  | [], S => .need (same S) (.ok (.loc l0) S)
  | x :: xs, S => .need (same S) (match asg x S with
    | some (ρ, S0) => (cond ρ S0).bnd fun b S1 => if b = true then (elt ρ S1).bnd fun y S2 => match S2[l0]? with
        | some (.lst acc) => .need (decide (acc.length < LIM)) (compL l0 same asg cond elt xs (S2.set l0 (.lst (acc ++ [y]))))
        | _ => .bad
      else compL l0 same asg cond elt xs S1
    | none => .bad)
def genL (k : Bool) (same : Sto → Bool) (asg : PV → Sto → RT) (elt : Env → Sto → Res PV) : List PV → Sto → Res Bool
  | [], S => .need (same S) (.ok k S)
  | x :: xs, S => .need (same S) (match asg x S with
    | some (ρ, S0) => (elt ρ S0).bnd fun y S1 => match y with
      | .bl b => if b = k then genL k same asg elt xs S1 else .ok (!k) S1
      | _ => .bad
    | none => .bad)
def insO (o : Option MO) (k v : PV) : Option MO := match o with
  | some (.dic kvs) => (keyF k).bind fun kk => if kvs.length < LIM then some (.dic (setF kvs k kk v)) else none
  | some (.dkn kvs) => (keyT k).bind fun kk => if kvs.length < LIM then some (.dkn (setT kvs k kk v)) else none
  | _ => none
def dcL (l0 : Nat) (same : Sto → Bool) (asg : PV → Sto → RT) (key val : Env → Sto → Res PV) : List PV → Sto → Res PV
  | [], S => .need (same S) (.ok (.loc l0) S)
  | x :: xs, S => .need (same S) (match asg x S with
    | some (ρ, S0) => (key ρ S0).bnd fun k S1 => (val ρ S1).bnd fun v S2 => .opt (insO S2[l0]? k v) fun o => dcL l0 same asg key val xs (S2.set l0 o)
    | none => .bad)
def newD (n : Bool) : MO := if n = true then .dkn [] else .dic []
def forL (same : Sto → Bool) (asg : PV → Env → Sto → RT) (body : Env → Sto → RS) : List PV → Env → Sto → RS
  | [], ρ, S => if same S = true then .nx ρ S else .bad
  | x :: xs, ρ, S => if same S = true then (match asg x ρ S with
    | some (ρ', S') => match body ρ' S' with
      | .nx ρ2 S2 => forL same asg body xs ρ2 S2
      | r => r
    | none => .bad) else .bad
def whL (c : Env → Sto → Res Bool) (body : Env → Sto → RS) : Nat → Env → Sto → RS
  | 0, _, _ => .bad
  | n + 1, ρ, S => match c ρ S with
    | .ok true S' => match body ρ S' with
      | .nx ρ2 S2 => whL c body n ρ2 S2
      | r => r
    | .ok false S' => .nx ρ S'
    | .exc x S' => .exc x ρ S'
    | .bad => .bad
structure Itm where
  xs : List PV
  same : Sto → Bool
def signs (z : Str) : List PV := z.cps.toList.map fun c => .str ⟨#[c]⟩
def seqI (S : Sto) (v : PV) : Option Itm := match v with
  | .str z => some ⟨signs z, fun _ => true⟩
  | v => match keysOf S v with
    | some _ => none
    | none => (seqOf S v).map fun xs => ⟨xs, fun S' => decide (seqOf S' v = some xs)⟩

def augV (o : BOp) (S : Sto) (x y : PV) : Res PV := match x, y with
  | .int _, .int _ => bopV o S x y
  | _, _ => .bad
def par2 : List Nat → List PV → Env → Option Env
  | [], [], ρ => some ρ
  | i :: is, v :: vs, ρ => par2 is vs (ρ.set i (some v))
  | _, _, _ => none
section
variable (cf : Cf)
def zipK : PV → PV → Bool
  | .tup _, .tup _ => true
  | .tup _, _ => false
  | _, .tup _ => false
  | _, _ => true
mutual
def ev : CE → Env → Sto → Res PV
  | .cst v => fun _ S => .ok v S
  | .var i => fun ρ S => match ρ[i]? with
    | some (some v) => .ok v S
    | _ => .bad
  | .glo _ v => fun _ S => .ok v S
  | .pow i j => fun _ S => .ok (.int ((i : Int) ^ j)) S
  | .bop o a b => fun ρ S => (ev a ρ S).bind fun x S1 => (ev b ρ S1).bind fun y S2 => bopV o S2 x y
  | .cmp o a b => fun ρ S => (ev a ρ S).bind fun x S1 => (ev b ρ S1).bind fun y S2 => .opt (cmpV o S2 x y) fun k => .ok (.bl k) S2
  | .cmp2 o o' a b c => fun ρ S => (ev a ρ S).bind fun x S1 => (ev b ρ S1).bind fun y S2 => .opt (cmpV o S2 x y) fun k =>
      if k = true then (ev c ρ S2).bind fun z S3 => .opt (cmpV o' S3 y z) fun k' => .ok (.bl k') S3 else .ok (.bl false) S2
  | .and a b => fun ρ S => (ev a ρ S).bind fun x S1 => match x with
    | .bl true => ev b ρ S1
    | .bl false => .ok (.bl false) S1
    | _ => .bad
  | .or a b => fun ρ S => (ev a ρ S).bind fun x S1 => match x with
    | .bl false => ev b ρ S1
    | .bl true => .ok (.bl true) S1
    | _ => .bad
  | .not a => fun ρ S => (ev a ρ S).bind fun x S1 => .opt (truth S1 x) fun k => .ok (.bl (!k)) S1
  | .neg a => fun ρ S => (ev a ρ S).bind fun x S1 => match x with
    | .int i => .ok (.int (-i)) S1
    | _ => .bad
  | .ife t a b => fun ρ S => (ev t ρ S).bind fun x S1 => .opt (truth S1 x) fun k => if k = true then ev a ρ S1 else ev b ρ S1
  | .tup es => fun ρ S => (evs es ρ S).bind fun vs S1 => .need (decide (vs.length ≤ LIM)) (.ok (.tup vs) S1)
  | .lst es => fun ρ S => (evs es ρ S).bind fun vs S1 => .need (decide (vs.length ≤ LIM)) (new S1 (.lst vs))
  | .dnew n => fun _ S => if n = true then new S (.dkn []) else new S (.dic [])
  | .ix a i => fun ρ S => (ev a ρ S).bind fun x S1 => (ev i ρ S1).bind fun y S2 => .opt (ixV S2 x y) fun v => .ok v S2
  | .sl a lo hi => fun ρ S => (ev a ρ S).bind fun x S1 => (evo lo ρ S1).bind fun l S2 => (evo hi ρ S2).bind fun h S3 => slV S3 x l h
  | .rev a => fun ρ S => (ev a ρ S).bind fun x S1 => revV S1 x
  | .fld a f => fun ρ S => (ev a ρ S).bind fun x S1 => .opt (fldV S1 x f) fun v => .ok v S1
  | .call f es => fun ρ S => (evs es ρ S).bind fun vs S1 => cf.fn f vs S1
  | .make c f es dv => fun ρ S => (evs es ρ S).bind fun vs S1 => (cf.fn f (.loc S1.length :: (vs ++ dv)) (S1 ++ [.ins c []])).bind fun r S2 => .need (decide (r = .non)) (.ok (.loc S1.length) S2)
  | .meth c f o es => fun ρ S => (ev o ρ S).bind fun x S1 => match x with
    | .loc l => match S1[l]? with
      | some (.ins c' _) => .need (decide (c = c')) ((evs es ρ S1).bind fun vs S2 => cf.fn f (x :: vs) S2)
      | _ => .bad
    | _ => .bad
  | .bi b es => fun ρ S => (evs es ρ S).bind fun vs S1 => biV b S1 vs
  | .isi e ks => fun ρ S => (ev e ρ S).bind fun x S1 => .opt (isiV S1 cf x ks) fun k => .ok (.bl k) S1
  | .lm m o es => fun ρ S => (ev o ρ S).bind fun x S1 => .need (lmK m S1 x) ((evs es ρ S1).bind fun vs S2 => lmV m S2 x vs)
  | .comp elt own tg it cond => fun ρ S => (evi it ρ S).bind fun J S1 => compL S1.length J.same (fun x S => evt tg x (wipe ρ own) S) (fun ρ S => evb cond ρ S) (fun ρ S => ev elt ρ S) J.xs (S1 ++ [.lst []])
  | .gen k elt own tg it => fun ρ S => (evi it ρ S).bind fun J S1 => (genL k J.same (fun x S => evt tg x (wipe ρ own) S) (fun ρ S => ev elt ρ S) J.xs S1).bnd fun b S2 => .ok (.bl b) S2
  | .dcomp n k v own tg it => fun ρ S => (evi it ρ S).bind fun J S1 => dcL S1.length J.same (fun x S => evt tg x (wipe ρ own) S) (fun ρ S => ev k ρ S) (fun ρ S => ev v ρ S) J.xs (S1 ++ [newD n])
  | .dcomp2 k v own own2 tg it tg2 it2 => fun _ _ => .bad
  | .fz e => fun ρ S => fzR S (ev e ρ S)
  | .nev => fun _ _ => .bad
def evs : CEs → Env → Sto → Res (List PV)
  | .nil => fun _ S => .ok [] S
  | .cons e es => fun ρ S => (ev e ρ S).bind fun v S1 => (evs es ρ S1).bind fun vs S2 => .ok (v :: vs) S2
def evo : CEo → Env → Sto → Res (Option Int)
  | .none => fun _ S => .ok none S
  | .some e => fun ρ S => (ev e ρ S).bind fun v S1 => match v with
    | .int i => .ok (some i) S1
    | _ => .bad
def evb : CEo → Env → Sto → Res Bool
  | .none => fun _ S => .ok true S
  | .some e => fun ρ S => (ev e ρ S).bind fun v S1 => .opt (truth S1 v) fun k => .ok k S1
def evi : CI → Env → Sto → Res Itm
  | .seq e => fun ρ S => (ev e ρ S).bind fun v S1 => .opt (seqI S1 v) fun J => .ok J S1
  | .rng1 e => fun ρ S => (ev e ρ S).bind fun v S1 => match v with
    | .int n => .need (okR 0 n) (.ok ⟨rngL 0 n, fun _ => true⟩ S1)
    | _ => .bad
  | .rng2 a b => fun ρ S => (ev a ρ S).bind fun v S1 => (ev b ρ S1).bind fun u S2 => match v, u with
    | .int m, .int n => .need (okR m n) (.ok ⟨rngL m n, fun _ => true⟩ S2)
    | _, _ => .bad
  | .enum e => fun ρ S => (ev e ρ S).bind fun v S1 => .opt (seqOf S1 v) fun xs => .ok ⟨xs.zipIdx.map fun p => .tup [.int p.2, p.1], fun S' => decide (seqOf S' v = some xs)⟩ S1
  | .zip a b => fun ρ S => (ev a ρ S).bind fun v S1 => (ev b ρ S1).bind fun u S2 => .need (zipK v u) <| .opt (seqOf S2 v) fun xs => .opt (seqOf S2 u) fun ys => .need ((xs.zip ys).all fun p => !nmC [p.1, p.2]) <|
      .ok ⟨(xs.zip ys).map fun p => .tup [p.1, p.2], fun S' => decide (seqOf S' v = some xs) && decide (seqOf S' u = some ys)⟩ S2
def evt : CT → PV → Env → Sto → RT
  | .var i => fun v ρ S => some (ρ.set i (some v), S)
  | .fld o f => fun v ρ S => match ev o ρ S with
    | .ok x S1 => (setFld S1 x f v).map fun S2 => (ρ, S2)
    | _ => none
  | .sub o i => fun v ρ S => match ev o ρ S with
    | .ok x S1 => match ev i ρ S1 with
      | .ok y S2 => (setV S2 x y v).map fun S3 => (ρ, S3)
      | _ => none
    | _ => none
  | .tup ts => fun v ρ S => match seqOf S v with
    | some vs => evts ts vs ρ S
    | none => none
def evts : CTs → List PV → Env → Sto → RT
  | .nil => fun vs ρ S => match vs with
    | [] => some (ρ, S)
    | _ :: _ => none
  | .cons t ts => fun vs ρ S => match vs with
    | [] => none
    | v :: r => match evt t v ρ S with
      | some (ρ', S') => evts ts r ρ' S'
      | none => none
end
def evB (e : CE) : Env → Sto → Res Bool := fun ρ S => (ev cf e ρ S).bind fun v S1 => .opt (truth S1 v) fun k => .ok k S1
def ex : CSs → Env → Sto → RS
  | .nil => fun ρ S => .nx ρ S
  | .pass r => fun ρ S => ex r ρ S
  | .nev => fun _ _ => .bad
  | .asg t e r => fun ρ S => RS.fst ρ (ev cf e ρ S) fun v S1 => match evt cf t v ρ S1 with
    | some (ρ', S2) => ex r ρ' S2
    | none => .bad
  | .par is es r => fun ρ S => RS.fst ρ (evs cf es ρ S) fun vs S1 => match par2 is vs ρ with
    | some ρ' => ex r ρ' S1
    | none => .bad
  | .aug i o e r => fun ρ S => match ρ[i]? with
    | some (some x) => RS.fst ρ ((ev cf e ρ S).bind fun y S1 => augV o S1 x y) fun z S2 => ex r (ρ.set i (some z)) S2
    | _ => .bad
  | .ex e r => fun ρ S => RS.fst ρ (ev cf e ρ S) fun _ S1 => ex r ρ S1
  | .ret e => fun ρ S => RS.fst ρ (ev cf e ρ S) fun v S1 => .ret v S1
  | .retN => fun _ S => .ret .non S
  | .iff c a b r => fun ρ S => RS.fst ρ (evB cf c ρ S) fun k S1 => (if k = true then ex a ρ S1 else ex b ρ S1).seq (ex r)
  | .for t it body r => fun ρ S => RS.fst ρ (evi cf it ρ S) fun J S1 => (forL J.same (evt cf t) (ex body) J.xs ρ S1).seq (ex r)
  | .wh n c body r => fun ρ S => (whL (evB cf c) (ex body) n ρ S).seq (ex r)
  | .raise c => fun ρ S => .exc c ρ S
  | .try1 body c n suite r => fun ρ S => match ex body ρ S with
    | .exc x ρ1 S1 => if cf.sub x c = true then (match ex suite (match n with | some i => ρ1.set i none | none => ρ1) S1 with
        | .nx ρ2 S2 => ex r (match n with | some i => ρ2.set i none | none => ρ2) S2
        | q => q) else .exc x ρ1 S1
    | .nx ρ2 S2 => ex r ρ2 S2
    | q => q
end
structure Fn where
  n : Nat
  np : Nat
  body : CSs
def startE (n : Nat) (vs : List PV) : Env := vs.map some ++ List.replicate (n - vs.length) none
def runF (cf : Cf) (f : Fn) (vs : List PV) (S : Sto) : Res PV := .need (decide (vs.length = f.np)) (match ex cf f.body (startE f.n vs) S with
  | .nx _ S' => .ok .non S'
  | .ret v S' => .ok v S'
  | .exc c _ S' => .exc c S'
  | .bad => .bad)
def run (tab : Nat → Option Fn) (sub : Nat → Nat → Bool) : Nat → Nat → List PV → Sto → Res PV
  | 0 => fun _ _ _ => .bad
  | k + 1 => fun f vs S => match tab f with
    | some d => runF ⟨run tab sub k, sub⟩ d vs S
    | none => .bad
end PM
end
section
namespace PM
open PySem L2 PySem.Spec PyProof.Rows

structure Cfg where
  K : PySem.W.Frag
  cls : Nat → Addr
  nc : Nat
  fld : List Str
  xc : Nat → Addr
  tabs : List Addr
  hot : Option (Addr × Nat) := none
  fnd : fld.Nodup
  wo : World

structure ClsF (E : Cfg) (c : Nat) : Prop where
  cl : Cls E.K (E.cls c)
  ha : PySem.W.findIn E.K (.ref (E.cls c)) "__class__" = some (some (.builtin "object.__class__"))
  hn : PySem.W.specialIn E.K (.builtin "object.__class__") "__get__" = some (some (.builtin "getset_descriptor.__get__"))
  htk : PySem.W.takesIn E.K (.builtin "object.__class__") = some true
  hm : PySem.W.mroIn E.K (E.cls c) (.type "object") = some true
  ty : ∀ T ∈ ["int", "bool", "str", "list", "tuple"], PySem.W.kitOne E.K (.ref (E.cls c)) (.type T) = some false
  rev : ∀ T ∈ ["NoneType", "int", "bool", "str", "list", "tuple"], PySem.W.kitOne E.K (.type T) (.ref (E.cls c)) = some false
  own : ∀ d, d < E.nc → PySem.W.kitOne E.K (.ref (E.cls c)) (.ref (E.cls d)) = some (decide (c = d))
  noa : ∀ f ∈ E.fld, NoAttr E.K (E.cls c) f
def DnOk (w : World) (d : Addr) (ks : List (NestedKey × Addr × V)) (h : Heap) : Prop := ks.length ≤ sizeLine ∧ (d == sysModules) = false ∧ ∃ us : List (NestedKey × Addr × Value),
  Paired (fun (p : NestedKey × Addr × V) (q : NestedKey × Addr × Value) => p.1 = q.1 ∧ p.2.1 = q.2.1 ∧ RelV p.2.2 q.2.2) ks us ∧
  ∃ o es ep, h.get? d = some o ∧ o.ExactDict ∧ o.data = .dict es ep ∧ es.toList = us.map (fun x => (⟨x.1.hash w, .ref x.2.1, x.2.2⟩ : DictEntry)) ∧ (us.map (·.1)).Nodup
def dnO (w : World) (d : Addr) (ks : List (NestedKey × Addr × V)) : HO := .ext (DnOk w d ks)
def NsR (E : Cfg) (ns : List Nat) (fs : List (Str × V)) : Prop := ns.map (E.fld[·]?) = fs.map fun p => some p.1

def SqZ (K : PySem.W.Frag) (α : Nat → Addr) (n : Nat) (H : Hp) (a : Addr) (xs : List V) : Prop := (H a = some (.lst xs) ∧ ∀ l, l < n → α l ≠ a) ∨ (∃ o, H a = some (.frz o (.lst xs))) ∨
  ∃ (o : Obj) (its : Array Value) (n : Nat), K.lookup a = some o ∧ o.cls = .type "list" ∧ o.dict = none ∧ o.data = .seq its n ∧ its.size ≤ sizeLine ∧ Vals xs its.toList
theorem SqZ.sq {K : PySem.W.Frag} {α : Nat → Addr} {n : Nat} {H : Hp} {a : Addr} {xs : List V} (h : SqZ K α n H a xs) : SqL K H a xs := by
  rcases h with ⟨e, _⟩ | ⟨o, e⟩ | h
  · exact .of e
  · exact .inl (.inr ⟨o, e⟩)
  · exact .inr h
theorem SqZ.low {K : PySem.W.Frag} {α : Nat → Addr} {n m : Nat} {H : Hp} {a : Addr} {xs : List V} (hnm : n ≤ m) (h : SqZ K α m H a xs) : SqZ K α n H a xs := by
  rcases h with ⟨e, q⟩ | h
  · exact .inl ⟨e, fun l hl => q l (Nat.lt_of_lt_of_le hl hnm)⟩
  · exact .inr h
def isTv : V → Bool
  | .str _ => true
  | _ => false
def nmX (xs : List V) : Bool := !xs.isEmpty && xs.all isTv
def SqD (K : PySem.W.Frag) (H : Hp) (a : Addr) (xs : List V) : Prop := SqT K H a xs ∧ (nmX xs = true → ∃ o u, H a = some (.frz o u) ∧ o.dict = none)
section
variable (E : Cfg) (α : Nat → Addr) (n : Nat) (H : Hp)
mutual
def Rp : PV → V → Prop
  | .non, x => x = .non
  | .bl b, x => x = .bl b
  | .int i, x => x = .int i
  | .str s, x => x = .str s
  | .tup vs, x => ∃ a xs, x = .ref a ∧ SqD E.K H a xs ∧ RpL vs xs
  | .lst vs, x => ∃ a xs, x = .ref a ∧ H a = some (.lst xs) ∧ (∀ l, l < n → α l ≠ a) ∧ RpL vs xs
  | .ro vs, x => ∃ a xs, x = .ref a ∧ SqZ E.K α n H a xs ∧ RpL vs xs
  | .obj c ns vs, x => ∃ a dx fs, x = .ref a ∧ H a = some (.ins (E.cls c) dx fs) ∧ (∀ l, l < n → α l ≠ a) ∧ NsR E ns fs ∧ RpL vs (fs.map (·.2)) ∧ ClsF E c
  | .loc l, x => l < n ∧ x = .ref (α l)
def RpL : List PV → List V → Prop
  | [], xs => xs = []
  | v :: vs, xs => ∃ y ys, xs = y :: ys ∧ Rp v y ∧ RpL vs ys
end
def DF : List (PV × PV) → List (Key × V) → Prop
  | [], ks => ks = []
  | p :: r, ks => ∃ k y ks', ks = (k, y) :: ks' ∧ keyF p.1 = some k ∧ Rp E α n H p.2 y ∧ DF r ks'
def DN : List (PV × PV) → List (NestedKey × Addr × V) → Prop
  | [], ks => ks = []
  | p :: r, ks => ∃ k b y ks', ks = (k, b, y) :: ks' ∧ keyT p.1 = some k ∧ Rp E α n H p.1 (.ref b) ∧ Rp E α n H p.2 y ∧ DN r ks'
def OR (a : Addr) : MO → Prop
  | .lst vs => ∃ xs, H a = some (.lst xs) ∧ RpL E α n H vs xs
  | .dic kvs => ∃ ks, H a = some (.dK ks) ∧ DF E α n H kvs ks
  | .dkn kvs => ∃ ks, H a = some (dnO E.wo a ks) ∧ DN E α n H kvs ks
  | .ins c fs => ∃ dx gs, H a = some (.ins (E.cls c) dx gs) ∧ NsR E (fs.map (·.1)) gs ∧ RpL E α n H (fs.map (·.2)) (gs.map (·.2)) ∧ ClsF E c
end

structure Rel (E : Cfg) (α : Nat → Addr) (S : Sto) (H : Hp) : Prop where
  tab : ∀ P ∈ E.tabs, GxR.TabG H P
  inj : ∀ i j, i < S.length → j < S.length → α i = α j → i = j
  obj : ∀ l o, S[l]? = some o → OR E α S.length H (α l) o
structure Ext (α : Nat → Addr) (S : Sto) (H : Hp) (α' : Nat → Addr) (S' : Sto) (H' : Hp) : Prop where
  len : S.length ≤ S'.length
  same : ∀ l, l < S.length → α' l = α l
  keep : ∀ a o, H a = some o → (∀ ps, o ≠ .tbl ps) → (∀ l, l < S.length → α l ≠ a) → H' a = some o
  tup : ∀ a xs, H a = some (.tup xs) → H' a = some (.tup xs)
  frz : ∀ a o u, H a = some (.frz o u) → H' a = some (.frz o u)
  dom : ∀ a, H' a = none → H a = none
  new : ∀ l, S.length ≤ l → l < S'.length → H (α' l) = none
theorem Ext.refl {α : Nat → Addr} {S : Sto} {H : Hp} : Ext α S H α S H :=
  ⟨Nat.le_refl _, fun _ _ => rfl, fun _ _ e _ _ => e, fun _ _ e => e, fun _ _ _ e => e, fun _ e => e, fun l h1 h2 => absurd h2 (Nat.not_lt.mpr h1)⟩
theorem Ext.trans {α α1 α2 : Nat → Addr} {S S1 S2 : Sto} {H H1 H2 : Hp} (x : Ext α S H α1 S1 H1) (y : Ext α1 S1 H1 α2 S2 H2) : Ext α S H α2 S2 H2 where
  len := Nat.le_trans x.len y.len
  same := fun l h => (y.same l (Nat.lt_of_lt_of_le h x.len)).trans (x.same l h)
  keep := fun a o e nt h => by
    refine y.keep a o (x.keep a o e nt h) nt fun l hl z => ?_
    by_cases hs : l < S.length
    · exact h l hs ((x.same l hs).symm.trans z)
    · have q := x.new l (Nat.not_lt.mp hs) hl
      rw [z, e] at q; cases q
  tup := fun a xs e => y.tup a xs (x.tup a xs e)
  frz := fun a o u e => y.frz a o u (x.frz a o u e)
  dom := fun a e => x.dom a (y.dom a e)
  new := fun l h1 h2 => by
    by_cases hs : l < S1.length
    · rw [y.same l hs]; exact x.new l h1 hs
    · exact x.dom _ (y.new l (Nat.not_lt.mp hs) h2)

section
variable {E : Cfg} {α α' : Nat → Addr} {S S' : Sto} {H H' : Hp}
theorem SqT.ext (x : Ext α S H α' S' H') {a : Addr} {xs : List V} (h : SqT E.K H a xs) : SqT E.K H' a xs := by
  rcases h with (h | ⟨o, h⟩) | h
  · exact .inl (.inl (x.tup a xs h))
  · exact .inl (.inr ⟨o, x.frz a o _ h⟩)
  · exact .inr h
theorem SqD.ext (x : Ext α S H α' S' H') {a : Addr} {xs : List V} (h : SqD E.K H a xs) : SqD E.K H' a xs := ⟨SqT.ext x h.1, fun e => let ⟨o, u, e1, e2⟩ := h.2 e; ⟨o, u, x.frz a o u e1, e2⟩⟩
theorem SqL.ext (x : Ext α S H α' S' H') {a : Addr} {xs : List V} (h : SqL E.K H a xs) (nl : ∀ l, l < S.length → α l ≠ a) : SqL E.K H' a xs := by
  rcases h with (h | ⟨o, h⟩) | h
  · exact .inl (.inl (x.keep a _ h (fun ps z => by cases z) nl))
  · exact .inl (.inr ⟨o, x.frz a o _ h⟩)
  · exact .inr h
theorem Ext.nl (x : Ext α S H α' S' H') {a : Addr} (e : H a ≠ none) (h : ∀ l, l < S.length → α l ≠ a) : ∀ l, l < S'.length → α' l ≠ a := fun l hl z => by
  by_cases hs : l < S.length
  · exact h l hs ((x.same l hs).symm.trans z)
  · have q := x.new l (Nat.not_lt.mp hs) hl
    rw [z] at q; exact e q
theorem SqZ.ext (x : Ext α S H α' S' H') {a : Addr} {xs : List V} (h : SqZ E.K α S.length H a xs) : SqZ E.K α' S'.length H' a xs := by
  rcases h with ⟨e, q⟩ | ⟨o, e⟩ | h
  · exact .inl ⟨x.keep a _ e (fun ps z => by cases z) q, x.nl (by rw [e]; simp) q⟩
  · exact .inr (.inl ⟨o, x.frz a o _ e⟩)
  · exact .inr (.inr h)
theorem SqL.there {K : PySem.W.Frag} {a : Addr} {xs : List V} (h : SqL K H a xs) : H a ≠ none ∨ ∃ o its n, K.lookup a = some o ∧ o.cls = .type "list" ∧ o.dict = none ∧ o.data = .seq its n ∧ its.size ≤ sizeLine ∧ Vals xs its.toList := by
  rcases h with (h | ⟨o, h⟩) | h
  · exact .inl (by rw [h]; simp)
  · exact .inl (by rw [h]; simp)
  · exact .inr h
mutual
theorem Rp.ext (x : Ext α S H α' S' H') : ∀ (v : PV) (y : V), Rp E α S.length H v y → Rp E α' S'.length H' v y
  | .non, _, h => by simp only [Rp] at h ⊢; exact h
  | .bl _, _, h => by simp only [Rp] at h ⊢; exact h
  | .int _, _, h => by simp only [Rp] at h ⊢; exact h
  | .str _, _, h => by simp only [Rp] at h ⊢; exact h
  | .tup vs, _, h => by
    simp only [Rp] at h ⊢
    obtain ⟨a, xs, e, q, r⟩ := h
    exact ⟨a, xs, e, SqD.ext x q, RpL.ext x vs xs r⟩
  | .lst vs, _, h => by
    simp only [Rp] at h ⊢
    obtain ⟨a, xs, e, q, nl, r⟩ := h
    exact ⟨a, xs, e, x.keep a _ q (fun ps z => by cases z) nl, x.nl (by rw [q]; simp) nl, RpL.ext x vs xs r⟩
  | .ro vs, _, h => by
    simp only [Rp] at h ⊢
    obtain ⟨a, xs, e, q, r⟩ := h
    exact ⟨a, xs, e, q.ext x, RpL.ext x vs xs r⟩
  | .obj c ns vs, _, h => by
    simp only [Rp] at h ⊢
    obtain ⟨a, dx, fs, e, q, nl, hn, r, cf⟩ := h
    exact ⟨a, dx, fs, e, x.keep a _ q (fun ps z => by cases z) nl, x.nl (by rw [q]; simp) nl, hn, RpL.ext x vs _ r, cf⟩
  | .loc l, _, h => by
    simp only [Rp] at h ⊢
    exact ⟨Nat.lt_of_lt_of_le h.1 x.len, by rw [x.same l h.1]; exact h.2⟩
theorem RpL.ext (x : Ext α S H α' S' H') : ∀ (vs : List PV) (ys : List V), RpL E α S.length H vs ys → RpL E α' S'.length H' vs ys
  | [], _, h => by simp only [RpL] at h ⊢; exact h
  | v :: vs, _, h => by
    simp only [RpL] at h ⊢
    obtain ⟨y, ys, e, h1, h2⟩ := h
    exact ⟨y, ys, e, Rp.ext x v y h1, RpL.ext x vs ys h2⟩
end
end
end PM
end
section
namespace PM
open PySem L2 PySem.Spec PyProof.Rows
section
variable {E : Cfg} {α α' : Nat → Addr} {S S' : Sto} {H H' : Hp}
theorem DF.ext (x : Ext α S H α' S' H') : ∀ (kvs : List (PV × PV)) (ks : List (Key × V)), DF E α S.length H kvs ks → DF E α' S'.length H' kvs ks
  | [], _, h => h
  | p :: r, _, h => by
    obtain ⟨k, y, ks', e, h1, h2, h3⟩ := h
    exact ⟨k, y, ks', e, h1, h2.ext x, DF.ext x r ks' h3⟩
theorem DN.ext (x : Ext α S H α' S' H') : ∀ (kvs : List (PV × PV)) (ks : List (NestedKey × Addr × V)), DN E α S.length H kvs ks → DN E α' S'.length H' kvs ks
  | [], _, h => h
  | p :: r, _, h => by
    obtain ⟨k, b, y, ks', e, h1, h2, h3, h4⟩ := h
    exact ⟨k, b, y, ks', e, h1, h2.ext x, h3.ext x, DN.ext x r ks' h4⟩
theorem OR.ext (x : Ext α S H α' S' H') {b : Addr} (e : H' b = H b) : ∀ (o : MO), OR E α S.length H b o → OR E α' S'.length H' b o
  | .lst vs, h => by
    obtain ⟨xs, q, r⟩ := h
    exact ⟨xs, e.trans q, RpL.ext x vs xs r⟩
  | .dic kvs, h => by
    obtain ⟨ks, q, r⟩ := h
    exact ⟨ks, e.trans q, DF.ext x kvs ks r⟩
  | .dkn kvs, h => by
    obtain ⟨ks, q, r⟩ := h
    exact ⟨ks, e.trans q, DN.ext x kvs ks r⟩
  | .ins c fs, h => by
    obtain ⟨dx, gs, q, hn, r, cf⟩ := h
    exact ⟨dx, gs, e.trans q, hn, RpL.ext x _ _ r, cf⟩
theorem OR.there {n : Nat} {a : Addr} : ∀ {o : MO}, OR E α n H a o → H a ≠ none
  | .lst vs, ⟨xs, q, _⟩ => by rw [q]; simp
  | .dic kvs, ⟨ks, q, _⟩ => by rw [q]; simp
  | .dkn _, ⟨ks, q, _⟩ => by rw [q]; simp
  | .ins c fs, ⟨dx, gs, q, _⟩ => by rw [q]; simp
theorem OR.mut {n : Nat} {a : Addr} : ∀ {o : MO}, OR E α n H a o → (∀ xs, H a ≠ some (.tup xs)) ∧ (∀ o u, H a ≠ some (.frz o u)) ∧ (∀ ps, H a ≠ some (.tbl ps)) ∧ (∀ y, H a ≠ some (.own y))
  | .lst vs, ⟨xs, q, _⟩ => by rw [q]; simp
  | .dic kvs, ⟨ks, q, _⟩ => by rw [q]; simp
  | .dkn _, ⟨ks, q, _⟩ => by rw [q]; simp [dnO]
  | .ins c fs, ⟨dx, gs, q, _⟩ => by rw [q]; simp
theorem Rel.at (R : Rel E α S H) {l : Nat} (h : l < S.length) : ∃ o, S[l]? = some o ∧ OR E α S.length H (α l) o := ⟨S[l], by simp [h], R.obj l _ (by simp [h])⟩
theorem Rel.there (R : Rel E α S H) {l : Nat} (h : l < S.length) : H (α l) ≠ none := let ⟨_, _, q⟩ := R.at h; q.there
theorem Ext.fresh {p : Addr} {o : HO} (hp : H p = none) : Ext α S H α S (upd H p o) where
  len := Nat.le_refl _
  same := fun _ _ => rfl
  keep := fun a u e _ _ => by rw [upd_ne (ne_of_none e hp)]; exact e
  tup := fun a xs e => by rw [upd_ne (ne_of_none e hp)]; exact e
  frz := fun a u v e => by rw [upd_ne (ne_of_none e hp)]; exact e
  dom := fun a e => by
    by_cases h : a = p
    · rw [h]; exact hp
    · rw [upd_ne h] at e; exact e
  new := fun l h1 h2 => absurd h2 (Nat.not_lt.mpr h1)

theorem tab_keep {P : Addr} (t : GxR.TabG H P) (h : H' P = H P) : GxR.TabG H' P := let ⟨ps, e, r⟩ := t; ⟨ps, h.trans e, r⟩
theorem tab_ne {P p : Addr} (t : GxR.TabG H P) (hp : H p = none) : P ≠ p := let ⟨_, e, _⟩ := t; ne_of_none e hp
theorem Rel.still (R : Rel E α S H) (x : Ext α S H α S H') (k : ∀ l, l < S.length → H' (α l) = H (α l)) (kt : ∀ P ∈ E.tabs, GxR.TabG H' P) : Rel E α S H' :=
  ⟨kt, R.inj, fun l o e => (R.obj l o e).ext x (k l (List.getElem?_eq_some_iff.mp e).1)⟩
theorem Rel.nl (R : Rel E α S H) {p : Addr} (hp : H p = none) : ∀ l, l < S.length → α l ≠ p := fun l h z => R.there h (by rw [z]; exact hp)
theorem Rel.fresh (R : Rel E α S H) {p : Addr} {o : HO} (hp : H p = none) : Rel E α S (upd H p o) :=
  R.still (Ext.fresh hp) (fun l h => upd_ne (R.nl hp l h)) fun P hP => tab_keep (R.tab P hP) (upd_ne (tab_ne (R.tab P hP) hp))
def put1 (α : Nat → Addr) (n : Nat) (p : Addr) : Nat → Addr := fun l => if l = n then p else α l
theorem put1_same {n : Nat} {p : Addr} : put1 α n p n = p := by simp [put1]
theorem put1_ne {n l : Nat} {p : Addr} (h : l ≠ n) : put1 α n p l = α l := by simp [put1, h]
theorem Ext.laid {p : Addr} {o : HO} {m : MO} (hp : H p = none) : Ext α S H (put1 α S.length p) (S ++ [m]) (upd H p o) where
  len := by simp
  same := fun l h => put1_ne (Nat.ne_of_lt h)
  keep := (Ext.fresh (α := α) (S := S) hp).keep
  tup := (Ext.fresh (α := α) (S := S) hp).tup
  frz := (Ext.fresh (α := α) (S := S) hp).frz
  dom := (Ext.fresh (α := α) (S := S) hp).dom
  new := fun l h1 h2 => by
    have e : l = S.length := by simp at h2; omega
    rw [e, put1_same]; exact hp
theorem Rel.laid (R : Rel E α S H) {p : Addr} {o : HO} {m : MO} (hp : H p = none) (h : OR E (put1 α S.length p) (S.length + 1) (upd H p o) p m) : Rel E (put1 α S.length p) (S ++ [m]) (upd H p o) where
  tab := fun P hP => tab_keep (R.tab P hP) (upd_ne (tab_ne (R.tab P hP) hp))
  inj := fun i j hi hj e => by
    simp at hi hj
    by_cases h1 : i = S.length
    · by_cases h2 : j = S.length
      · rw [h1, h2]
      · rw [h1, put1_same, put1_ne h2] at e
        exact absurd e.symm (R.nl hp j (by omega))
    · by_cases h2 : j = S.length
      · rw [h2, put1_same, put1_ne h1] at e
        exact absurd e (R.nl hp i (by omega))
      · rw [put1_ne h1, put1_ne h2] at e
        exact R.inj i j (by omega) (by omega) e
  obj := fun l u e => by
    by_cases hl : l = S.length
    · subst hl
      simp at e
      subst e
      rw [put1_same]
      simpa using h
    · have hlt : l < S.length := by
        have := (List.getElem?_eq_some_iff.mp e).1
        simp at this; omega
      rw [List.getElem?_append_left hlt] at e
      rw [put1_ne hl]
      exact OR.ext (Ext.laid hp) (upd_ne (R.nl hp l hlt)) u (R.obj l u e)
theorem Ext.wrote (R : Rel E α S H) {l : Nat} {o : HO} {m : MO} (hl : l < S.length) : Ext α S H α (S.set l m) (upd H (α l) o) where
  len := by simp
  same := fun _ _ => rfl
  keep := fun a u e _ nl => by rw [upd_ne (Ne.symm (nl l hl))]; exact e
  tup := fun a xs e => by
    obtain ⟨m', _, q⟩ := R.at hl
    rw [upd_ne (fun (z : a = α l) => q.mut.1 xs (by rw [← z]; exact e))]; exact e
  frz := fun a ob u e => by
    obtain ⟨m', _, q⟩ := R.at hl
    rw [upd_ne (fun (z : a = α l) => q.mut.2.1 ob u (by rw [← z]; exact e))]; exact e
  dom := fun a e => by
    by_cases h : a = α l
    · rw [h, upd_same] at e; cases e
    · rw [upd_ne h] at e; exact e
  new := fun j h1 h2 => by simp at h2; omega
theorem Rel.wrote (R : Rel E α S H) {l : Nat} {o : HO} {m : MO} (hl : l < S.length) (h : OR E α S.length (upd H (α l) o) (α l) m) : Rel E α (S.set l m) (upd H (α l) o) where
  tab := fun P hP => by
    obtain ⟨ps, e, r⟩ := R.tab P hP
    obtain ⟨m', _, q⟩ := R.at hl
    exact ⟨ps, by rw [upd_ne (fun z => q.mut.2.2.1 ps (by rw [← z]; exact e))]; exact e, r⟩
  inj := fun i j hi hj e => by simp at hi hj; exact R.inj i j hi hj e
  obj := fun j u e => by
    by_cases hj : j = l
    · subst hj
      simp [hl] at e
      subst e
      simpa using h
    · rw [List.getElem?_set_ne (Ne.symm hj)] at e
      have hlt := (List.getElem?_eq_some_iff.mp e).1
      have z := OR.ext (Ext.wrote (o := o) (m := m) R hl) (upd_ne (fun (z : α j = α l) => hj (R.inj j l hlt hl z))) u (R.obj j u e)
      simpa using z

structure EnvR (E : Cfg) (α : Nat → Addr) (n : Nat) (H : Hp) (ρ : Env) (σ : L2.St) : Prop where
  len : ρ.length = σ.length
  at_ : ∀ (i : Nat) (v : PV), ρ[i]? = some (some v) → ∃ x, σ[i]? = some (some x) ∧ Rp E α n H v x
theorem EnvR.ext (x : Ext α S H α' S' H') {ρ : Env} {σ : L2.St} (h : EnvR E α S.length H ρ σ) : EnvR E α' S'.length H' ρ σ :=
  ⟨h.len, fun i v e => let ⟨y, e2, r⟩ := h.at_ i v e; ⟨y, e2, r.ext x⟩⟩
theorem EnvR.set {n : Nat} {ρ : Env} {σ : L2.St} (h : EnvR E α n H ρ σ) {i : Nat} {v : PV} {x : V} (r : Rp E α n H v x) : EnvR E α n H (ρ.set i (some v)) (σ.set i (some x)) :=
  ⟨by simp [h.len], fun j w e => by
    by_cases hj : i = j
    · subst hj
      by_cases hi : i < ρ.length
      · rw [List.getElem?_set_self hi] at e
        cases e
        exact ⟨x, List.getElem?_set_self (h.len ▸ hi), r⟩
      · rw [List.getElem?_eq_none (by simpa using hi)] at e; cases e
    · rw [List.getElem?_set_ne hj] at e ⊢
      exact h.at_ j w e⟩
theorem EnvR.wipe {n : Nat} {ρ : Env} {σ : L2.St} (h : EnvR E α n H ρ σ) : ∀ own : List Nat, EnvR E α n H (wipe ρ own) (L2.wipe σ own)
  | [] => h
  | i :: own => by
    have q := EnvR.wipe h own
    refine ⟨by simp only [PM.wipe, L2.wipe, List.length_set, q.len], fun j w e => ?_⟩
    simp only [PM.wipe, L2.wipe] at e ⊢
    by_cases hj : i = j
    · subst hj
      by_cases hi : i < (PM.wipe ρ own).length
      · rw [List.getElem?_set_self hi] at e; cases e
      · rw [List.getElem?_eq_none (by simpa using hi)] at e; cases e
    · rw [List.getElem?_set_ne hj] at e ⊢
      exact q.at_ j w e
end

section
variable (E : Cfg) (W : WX)
def Kt {β γ : Type} (R : (Nat → Addr) → Nat → Hp → β → γ → Prop) (α : Nat → Addr) (S : Sto) (σ : L2.St) (H : Hp) : Res β → (γ → Hp → Prop) → Prop
  | .ok v S', Q => ∀ α' x H', Ext α S H α' S' H' → Rel E α' S' H' → R α' S'.length H' v x → Q x H'
  | .exc c S', _ => ∀ α' H', Ext α S H α' S' H' → Rel E α' S' H' → W (.ref (E.xc c)) none σ H'
  | .bad, _ => False
def tG {β γ : Type} (R : (Nat → Addr) → Nat → Hp → β → γ → Prop) (m : Env → Sto → Res β) (σ : L2.St) (H : Hp) (Q : γ → Hp → Prop) : Prop :=
  ∃ α ρ S, Rel E α S H ∧ EnvR E α S.length H ρ σ ∧ Kt E W R α S σ H (m ρ S) Q
abbrev tE (m : Env → Sto → Res PV) : TE := tG E W (Rp E) m
abbrev tA (m : Env → Sto → Res (List PV)) : TA := tG E W (RpL E) m
def RB : (Nat → Addr) → Nat → Hp → Bool → Bool → Prop := fun _ _ _ b k => k = b
abbrev tB (m : Env → Sto → Res Bool) : TT := tG E W RB m
def RO : (Nat → Addr) → Nat → Hp → Option Int → Option Int → Prop := fun _ _ _ b k => k = b
abbrev tO (m : Env → Sto → Res (Option Int)) : TO := tG E W RO m
end
section
variable {E : Cfg} {W : WX} {β γ δ ε : Type} {R : (Nat → Addr) → Nat → Hp → β → γ → Prop} {R' : (Nat → Addr) → Nat → Hp → δ → ε → Prop} {α α1 : Nat → Addr} {S S1 : Sto} {σ : L2.St} {H H1 : Hp}
theorem Kt.move (x : Ext α S H α1 S1 H1) {r : Res β} {Q : γ → Hp → Prop} (h : Kt E W R α S σ H r Q) : Kt E W R α1 S1 σ H1 r Q := by
  cases r with
  | ok v S' => exact fun α' y H' e => h α' y H' (x.trans e)
  | exc c S' => exact fun α' H' e => h α' H' (x.trans e)
  | bad => exact h
theorem Kt.bind {m : Res δ} {f : δ → Sto → Res β} {Q : γ → Hp → Prop} {P : ε → Hp → Prop} (h : Kt E W R α S σ H (m.bind f) Q)
    (k : ∀ v S1 α1 x H1, Ext α S H α1 S1 H1 → Rel E α1 S1 H1 → R' α1 S1.length H1 v x → Kt E W R α1 S1 σ H1 (f v S1) Q → P x H1) : Kt E W R' α S σ H m P := by
  cases m with
  | ok v S' => exact fun α' y H' e r q => k v S' α' y H' e r q (h.move e)
  | exc c S' => exact h
  | bad => exact h
theorem tG.first {ma : Env → Sto → Res δ} {f : δ → Env → Sto → Res β} {Q : γ → Hp → Prop} {P : ε → Hp → Prop} (h : tG E W R (fun ρ S => (ma ρ S).bind fun v S1 => f v ρ S1) σ H Q)
    (k : ∀ α ρ S v x H1, Rel E α S H1 → EnvR E α S.length H1 ρ σ → R' α S.length H1 v x → Kt E W R α S σ H1 (f v ρ S) Q → P x H1) : tG E W R' ma σ H P := by
  obtain ⟨α, ρ, S, r, en, q⟩ := h
  exact ⟨α, ρ, S, r, en, q.bind fun v S1 α1 x H1 e r1 rv kt => k α1 ρ S1 v x H1 r1 (en.ext e) rv kt⟩
theorem Kt.need {b : Bool} {m : Res β} {Q : γ → Hp → Prop} (h : Kt E W R α S σ H (Res.need b m) Q) : b = true ∧ Kt E W R α S σ H m Q := by
  cases b with
  | true => exact ⟨rfl, h⟩
  | false => exact h.elim
theorem Kt.opt {o : Option δ} {f : δ → Res β} {Q : γ → Hp → Prop} (h : Kt E W R α S σ H (Res.opt o f) Q) : ∃ a, o = some a ∧ Kt E W R α S σ H (f a) Q := by
  cases o with
  | some a => exact ⟨a, rfl, h⟩
  | none => exact h.elim
theorem Kt.here {v : β} {x : γ} {Q : γ → Hp → Prop} (h : Kt E W R α S σ H (.ok v S) Q) (r : Rel E α S H) (rv : R α S.length H v x) : Q x H := h α x H Ext.refl r rv
end

section
variable {X : Cx}
theorem PE.imp {e : Expr} {t t' : TE} (h : PE X e t) (k : ∀ σ H Q, t' σ H Q → t σ H Q) : PE X e t' := ⟨fun pins s σ H Q I q => h.run pins s σ H Q I (k σ H Q q)⟩
theorem PT.imp {e : Expr} {t t' : TT} (h : PT X e t) (k : ∀ σ H Q, t' σ H Q → t σ H Q) : PT X e t' := ⟨fun pins s σ H Q I q => h.run pins s σ H Q I (k σ H Q q)⟩
theorem PA.imp {e : List Expr} {t t' : TA} (h : PA X e t) (k : ∀ σ H Q, t' σ H Q → t σ H Q) : PA X e t' := ⟨fun pos pins s σ H Q I q => h.run pos pins s σ H Q I (k σ H Q q)⟩
theorem PS.imp {e : Stmt} {t t' : TS} (h : PS X e t) (k : ∀ D σ H, t' D σ H → t D σ H) : PS X e t' := ⟨fun pins s σ H D I q => h.run pins s σ H D I (k D σ H q)⟩
theorem PSs.imp {e : List Stmt} {t t' : TS} (h : PSs X e t) (k : ∀ D σ H, t' D σ H → t D σ H) : PSs X e t' := ⟨fun pins s σ H D I q => h.run pins s σ H D I (k D σ H q)⟩
def Szs (H : Hp) : Prop := ∀ a, (∀ xs, H a = some (.lst xs) → xs.length ≤ sizeLine) ∧ (∀ xs, H a = some (.tup xs) → xs.length ≤ sizeLine) ∧ (∀ ks, H a = some (.dK ks) → ks.length ≤ sizeLine)
theorem Inv.szs {pins : List (Addr × Obj)} {σ : L2.St} {H : Hp} {s : Shared} (I : Inv X pins σ H s) : Szs H := fun a => ⟨fun xs e => (I.hok a _ e).1, fun xs e => (I.hok a _ e).1, fun ks e => (I.hok a _ e).1⟩
theorem PE.szs {e : Expr} {t : TE} (h : PE X e t) : PE X e (fun σ H Q => Szs H → t σ H fun x H1 => Szs H1 → Q x H1) := ⟨fun pins s σ H Q I q =>
  wpAny_mono (h.run pins s σ H _ I (q (Inv.szs I))) (fun u s' ⟨v, H', I', r, q'⟩ => ⟨v, H', I', r, q' (Inv.szs I')⟩) fun _ _ z => z⟩
end
end PM
end
section
namespace PM
open PySem L2 PySem.Spec PyProof.Rows
section
variable {E : Cfg} {α α' : Nat → Addr} {n : Nat} {S S' : Sto} {H H' : Hp}
theorem RpL.len : ∀ {vs : List PV} {xs : List V}, RpL E α n H vs xs → vs.length = xs.length
  | [], _, h => by simp only [RpL] at h; rw [h]; rfl
  | v :: vs, _, h => by
    simp only [RpL] at h
    obtain ⟨y, ys, e, _, h2⟩ := h
    rw [e, List.length_cons, List.length_cons, RpL.len h2]
theorem RpL.cons {v : PV} {x : V} {vs : List PV} {xs : List V} (a : Rp E α n H v x) (b : RpL E α n H vs xs) : RpL E α n H (v :: vs) (x :: xs) := by
  simp only [RpL]; exact ⟨x, xs, rfl, a, b⟩
theorem RpL.nil : RpL E α n H [] [] := by simp only [RpL]
theorem RpL.append : ∀ {vs ws : List PV} {xs ys : List V}, RpL E α n H vs xs → RpL E α n H ws ys → RpL E α n H (vs ++ ws) (xs ++ ys)
  | [], _, _, _, h, k => by simp only [RpL] at h; subst h; exact k
  | v :: vs, _, _, _, h, k => by
    simp only [RpL] at h
    obtain ⟨y, ys, e, h1, h2⟩ := h
    subst e
    exact RpL.cons h1 (RpL.append h2 k)
theorem RpL.drop : ∀ {vs : List PV} {xs : List V} (i : Nat), RpL E α n H vs xs → RpL E α n H (vs.drop i) (xs.drop i)
  | [], _, i, h => by simp only [RpL] at h; subst h; simp [RpL.nil]
  | v :: vs, _, 0, h => h
  | v :: vs, _, i + 1, h => by
    simp only [RpL] at h
    obtain ⟨y, ys, e, h1, h2⟩ := h
    subst e
    exact RpL.drop i h2
theorem RpL.take : ∀ {vs : List PV} {xs : List V} (i : Nat), RpL E α n H vs xs → RpL E α n H (vs.take i) (xs.take i)
  | [], _, i, h => by simp only [RpL] at h; subst h; simp [RpL.nil]
  | v :: vs, _, 0, h => by simp [RpL.nil]
  | v :: vs, _, i + 1, h => by
    simp only [RpL] at h
    obtain ⟨y, ys, e, h1, h2⟩ := h
    subst e
    exact RpL.cons h1 (RpL.take i h2)
theorem RpL.cut {vs : List PV} {xs : List V} (lo hi : Option Int) (h : RpL E α n H vs xs) : RpL E α n H (cutP vs lo hi) (cutV xs lo hi) := by
  unfold cutP cutV
  rw [h.len]
  exact RpL.take _ (RpL.drop _ h)
theorem RpL.get : ∀ {vs : List PV} {xs : List V} {i : Nat} {v : PV}, RpL E α n H vs xs → vs[i]? = some v → ∃ x, xs[i]? = some x ∧ Rp E α n H v x
  | [], _, _, _, _, e => by simp at e
  | v :: vs, _, 0, w, h, e => by
    simp only [RpL] at h
    obtain ⟨y, ys, e2, h1, h2⟩ := h
    subst e2
    simp at e
    subst e
    exact ⟨y, rfl, h1⟩
  | v :: vs, _, i + 1, w, h, e => by
    simp only [RpL] at h
    obtain ⟨y, ys, e2, h1, h2⟩ := h
    subst e2
    simpa using RpL.get h2 (by simpa using e)
theorem RpL.get' : ∀ {vs : List PV} {xs : List V} {i : Nat} {x : V}, RpL E α n H vs xs → xs[i]? = some x → ∃ v, vs[i]? = some v ∧ Rp E α n H v x := fun {vs xs i x} h e => by
  have hi : i < vs.length := by rw [h.len]; exact (List.getElem?_eq_some_iff.mp e).1
  obtain ⟨y, e2, r⟩ := h.get (List.getElem?_eq_getElem hi)
  rw [e] at e2; cases e2
  exact ⟨_, List.getElem?_eq_getElem hi, r⟩
theorem RpL.atI {vs : List PV} {xs : List V} {i : Int} {v : PV} (h : RpL E α n H vs xs) (e : L2.atI vs i = some v) : ∃ x, L2.atI xs i = some x ∧ Rp E α n H v x := by
  unfold L2.atI at e ⊢
  rw [← h.len]
  obtain ⟨j, e1, e2⟩ := Option.bind_eq_some_iff.mp e
  obtain ⟨x, e3, r⟩ := h.get e2
  exact ⟨x, by rw [e1]; exact e3, r⟩
theorem RpL.rep {vs : List PV} {xs : List V} (h : RpL E α n H vs xs) : ∀ k : Nat, RpL E α n H (List.replicate k vs).flatten (List.replicate k xs).flatten
  | 0 => by simp [RpL.nil]
  | k + 1 => by rw [List.replicate_succ, List.replicate_succ, List.flatten_cons, List.flatten_cons]; exact h.append (RpL.rep h k)
theorem RpL.rev : ∀ {vs : List PV} {xs : List V}, RpL E α n H vs xs → RpL E α n H vs.reverse xs.reverse
  | [], _, h => by simp only [RpL] at h; subst h; exact RpL.nil
  | v :: vs, _, h => by
    simp only [RpL] at h
    obtain ⟨y, ys, e, h1, h2⟩ := h
    subst e
    rw [List.reverse_cons, List.reverse_cons]
    exact (RpL.rev h2).append (RpL.cons h1 RpL.nil)
theorem RpL.dropLast : ∀ {vs : List PV} {xs : List V}, RpL E α n H vs xs → RpL E α n H vs.dropLast xs.dropLast := fun {vs xs} h => by
  rw [List.dropLast_eq_take, List.dropLast_eq_take, h.len]
  exact RpL.take _ h
theorem RpL.set : ∀ {vs : List PV} {xs : List V} (j : Nat) {v : PV} {x : V}, RpL E α n H vs xs → Rp E α n H v x → RpL E α n H (vs.set j v) (xs.set j x)
  | [], _, _, _, _, h, _ => by simp only [RpL] at h; subst h; exact RpL.nil
  | w :: vs, _, 0, v, x, h, r => by
    simp only [RpL] at h
    obtain ⟨y, ys, e, h1, h2⟩ := h
    subst e
    exact RpL.cons r h2
  | w :: vs, _, j + 1, v, x, h, r => by
    simp only [RpL] at h
    obtain ⟨y, ys, e, h1, h2⟩ := h
    subst e
    exact RpL.cons h1 (RpL.set j h2 r)
theorem RpL.intsV : ∀ {vs : List PV} {xs : List V} {is : List Int}, RpL E α n H vs xs → PM.intsV vs = some is → xs = is.map V.int
  | [], _, _, h, e => by
    simp only [RpL] at h; subst h
    simp only [PM.intsV, Option.some.injEq] at e; subst e; rfl
  | v :: vs, _, is, h, e => by
    simp only [RpL] at h
    obtain ⟨y, ys, e2, h1, h2⟩ := h
    subst e2
    unfold PM.intsV at e
    split at e
    · rename_i i is' e3
      cases e
      simp only [Rp] at h1
      rw [h1, RpL.intsV h2 e3]; rfl
    · cases e
theorem RpL.ofInts : ∀ is : List Int, RpL E α n H (is.map PV.int) (is.map V.int)
  | [] => RpL.nil
  | i :: is => RpL.cons (by simp only [Rp]) (RpL.ofInts is)

theorem rd_trk (R : Rel E α S H) {v : PV} {x : V} {vs : List PV} (r : Rp E α S.length H v x) (e : trk S v = some vs) : ∃ a xs, x = .ref a ∧ H a = some (.lst xs) ∧ RpL E α S.length H vs xs := by
  unfold trk at e
  split at e
  · cases e
    simp only [Rp] at r
    obtain ⟨a, xs, e1, e2, _, e3⟩ := r
    exact ⟨a, xs, e1, e2, e3⟩
  · rename_i l
    split at e
    · rename_i ys e4
      cases e
      simp only [Rp] at r
      obtain ⟨xs, e5, e6⟩ := R.obj l _ e4
      exact ⟨α l, xs, r.2, e5, e6⟩
    · cases e
  · cases e
theorem rd_lst (R : Rel E α S H) {v : PV} {x : V} {vs : List PV} (r : Rp E α S.length H v x) (e : lstOf S v = some vs) : ∃ a xs, x = .ref a ∧ SqL E.K H a xs ∧ RpL E α S.length H vs xs := by
  unfold lstOf at e
  split at e
  · cases e
    simp only [Rp] at r
    obtain ⟨a, xs, e1, e2, _, e3⟩ := r
    exact ⟨a, xs, e1, .of e2, e3⟩
  · cases e
    simp only [Rp] at r
    obtain ⟨a, xs, e1, e2, e3⟩ := r
    exact ⟨a, xs, e1, e2.sq, e3⟩
  · rename_i l
    split at e
    · rename_i ys e4
      cases e
      simp only [Rp] at r
      obtain ⟨xs, e5, e6⟩ := R.obj l _ e4
      exact ⟨α l, xs, r.2, .of e5, e6⟩
    · cases e
  · cases e
theorem rd_tup {vs : List PV} {x : V} (r : Rp E α n H (.tup vs) x) : ∃ a xs, x = .ref a ∧ SqT E.K H a xs ∧ RpL E α n H vs xs := by
  simp only [Rp] at r
  obtain ⟨a, xs, e, q, h⟩ := r
  exact ⟨a, xs, e, q.1, h⟩
theorem rd_tupD {vs : List PV} {x : V} (r : Rp E α n H (.tup vs) x) : ∃ a xs, x = .ref a ∧ SqD E.K H a xs ∧ RpL E α n H vs xs := by
  simp only [Rp] at r; exact r
theorem rd_seq (R : Rel E α S H) {v : PV} {x : V} {vs : List PV} (r : Rp E α S.length H v x) (e : seqOf S v = some vs) : ∃ a xs, x = .ref a ∧ (SqL E.K H a xs ∨ SqT E.K H a xs) ∧ RpL E α S.length H vs xs := by
  unfold seqOf at e
  split at e
  · cases e
    obtain ⟨a, xs, e1, e2, e3⟩ := rd_tup r
    exact ⟨a, xs, e1, .inr e2, e3⟩
  · obtain ⟨a, xs, e1, e2, e3⟩ := rd_lst R r e
    exact ⟨a, xs, e1, .inl e2, e3⟩
end

section
variable {E : Cfg} {W : WX} {α : Nat → Addr} {S : Sto} {σ : L2.St} {H : Hp} {Q : VK}
theorem mk_lst {vs : List PV} {xs : List V} (h : Kt E W (Rp E) α S σ H (new S (.lst vs)) Q) (R : Rel E α S H) (r : RpL E α S.length H vs xs) {p : Addr} (hp : H p = none) : Q (.ref p) (upd H p (.lst xs)) := by
  have x := Ext.laid (α := α) (S := S) (o := .lst xs) (m := .lst vs) hp
  have r' := RpL.ext x vs xs r
  refine h (put1 α S.length p) (.ref p) _ x (R.laid hp ⟨xs, upd_same, by simpa using r'⟩) ?_
  simp only [Rp]
  exact ⟨by simp, by rw [put1_same]⟩
theorem isTx_is {n : Nat} {v : PV} {x : V} (r : Rp E α n H v x) : isTx v = isTv x := by
  cases v <;> simp only [Rp] at r
  case non => rw [r]; rfl
  case bl => rw [r]; rfl
  case int => rw [r]; rfl
  case str => rw [r]; rfl
  case tup => obtain ⟨a, xs, e, _⟩ := r; rw [e]; rfl
  case lst => obtain ⟨a, xs, e, _⟩ := r; rw [e]; rfl
  case ro => obtain ⟨a, xs, e, _⟩ := r; rw [e]; rfl
  case obj => obtain ⟨a, dx, fs, e, _⟩ := r; rw [e]; rfl
  case loc => rw [r.2]; rfl
theorem RpL.nm {n : Nat} {vs : List PV} {xs : List V} (r : RpL E α n H vs xs) : nmC vs = nmX xs := by
  have h1 : ∀ (vs : List PV) (xs : List V), RpL E α n H vs xs → vs.all isTx = xs.all isTv := by
    intro vs
    induction vs with
    | nil => intro xs r; simp only [RpL] at r; subst r; rfl
    | cons v vs ih =>
      intro xs r
      simp only [RpL] at r
      obtain ⟨y, ys, rfl, h1, h2⟩ := r
      rw [List.all_cons, List.all_cons, isTx_is h1, ih ys h2]
  unfold nmC nmX
  rw [h1 vs xs r]
  cases vs with
  | nil => simp only [RpL] at r; subst r; rfl
  | cons v vs => simp only [RpL] at r; obtain ⟨y, ys, rfl, _⟩ := r; rfl
theorem mk_tupF {vs : List PV} {xs : List V} {o : Obj} (h : Kt E W (Rp E) α S σ H (.ok (.tup vs) S) Q) (R : Rel E α S H) (r : RpL E α S.length H vs xs) {p : Addr} (hp : H p = none) (ho : o.dict = none) : Q (.ref p) (upd H p (.frz o (.tup xs))) := by
  have x := Ext.fresh (α := α) (S := S) (o := .frz o (.tup xs)) hp
  refine h α (.ref p) _ x (R.fresh hp) ?_
  simp only [Rp]
  exact ⟨p, xs, rfl, ⟨.inl (.inr ⟨o, upd_same⟩), fun _ => ⟨o, _, upd_same, ho⟩⟩, RpL.ext x vs xs r⟩
theorem mk_tup {vs : List PV} {xs : List V} (nm : nmC vs = false) (h : Kt E W (Rp E) α S σ H (.ok (.tup vs) S) Q) (R : Rel E α S H) (r : RpL E α S.length H vs xs) {p : Addr} (hp : H p = none) : Q (.ref p) (upd H p (.tup xs)) := by
  have x := Ext.fresh (α := α) (S := S) (o := .tup xs) hp
  refine h α (.ref p) _ x (R.fresh hp) ?_
  simp only [Rp]
  exact ⟨p, xs, rfl, ⟨.of upd_same, fun z => by rw [← r.nm, nm] at z; cases z⟩, RpL.ext x vs xs r⟩
theorem is_tup {vs : List PV} {a : Addr} {xs : List V} (h : Kt E W (Rp E) α S σ H (.ok (.tup vs) S) Q) (R : Rel E α S H) (ha : SqD E.K H a xs) (r : RpL E α S.length H vs xs) : Q (.ref a) H := by
  refine h.here R ?_
  simp only [Rp]
  exact ⟨a, xs, rfl, ha, r⟩
theorem is_int {i : Int} (h : Kt E W (Rp E) α S σ H (.ok (.int i) S) Q) (R : Rel E α S H) : Q (.int i) H := h.here R (by simp only [Rp])
theorem is_bl {b : Bool} (h : Kt E W (Rp E) α S σ H (.ok (.bl b) S) Q) (R : Rel E α S H) : Q (.bl b) H := h.here R (by simp only [Rp])
theorem is_str {b : Str} (h : Kt E W (Rp E) α S σ H (.ok (.str b) S) Q) (R : Rel E α S H) : Q (.str b) H := h.here R (by simp only [Rp])
theorem is_non (h : Kt E W (Rp E) α S σ H (.ok .non S) Q) (R : Rel E α S H) : Q .non H := h.here R (by simp only [Rp])
end

section
variable {E : Cfg} {W : WX} {α : Nat → Addr} {S : Sto} {σ : L2.St} {H : Hp} {Q : VK} {X : Cx} {v w : PV} {x y : V}
def RAdd (K : PySem.W.Frag) : R2 := fun x y H Q => (rI0 fun i j => .int (i + j)) x y H Q ∨ (fun x y H Q => ∃ i j, x = .str i ∧ y = .str j ∧ i.length + j.length ≤ sizeLine ∧ Q (.str (i ++ j)) H : R2) x y H Q ∨ rCatA K x y H Q ∨ rCat x y H Q
theorem or_add : OpR X (binaryOp .Add) (RAdd X.K) := op_add.or (op_add_str.or (op_catA.or op_cat))
theorem lim_le {n : Nat} (h : decide (n ≤ LIM) = true) : n ≤ sizeLine := by
  rw [← lim_eq]; exact of_decide_eq_true h
theorem add_rd (R : Rel E α S H) (rv : Rp E α S.length H v x) (rw' : Rp E α S.length H w y) (h : Kt E W (Rp E) α S σ H (addV S v w) Q) : RAdd E.K x y H Q := by
  unfold addV at h
  split at h
  · simp only [Rp] at rv rw'
    exact .inl ⟨_, _, rv, rw', is_int h R⟩
  · simp only [Rp] at rv rw'
    obtain ⟨h1, h2⟩ := h.need
    exact .inr (.inl ⟨_, _, rv, rw', lim_le h1, is_str h2 R⟩)
  · obtain ⟨a, xs, rfl, ha, r1⟩ := rd_tupD rv
    obtain ⟨b, ys, rfl, hb, r2⟩ := rd_tupD rw'
    obtain ⟨h1, h2⟩ := h.need
    simp only [Bool.and_eq_true, Bool.not_eq_true'] at h1
    obtain ⟨h1, h3⟩ := h1
    refine .inr (.inr (.inl ⟨a, b, xs, ys, rfl, rfl, ha.1, hb.1, by rw [← r1.len, ← r2.len]; exact lim_le h1, fun e => ?_, fun e1 e2 => ?_, fun e1 e2 p hp => ?_⟩))
    · have q := is_tup (xs := xs ++ ys) (a := b) h2 R (by rw [e]; exact hb) (r1.append r2)
      exact q
    · exact is_tup (xs := xs ++ ys) (a := a) h2 R (by rw [e2, List.append_nil]; exact ha) (r1.append r2)
    · exact mk_tup h3 h2 R (r1.append r2) hp
  · obtain ⟨vs, e1, h⟩ := h.opt
    obtain ⟨ws, e2, h⟩ := h.opt
    obtain ⟨h1, h2⟩ := h.need
    obtain ⟨a, xs, rfl, ha, r1⟩ := rd_trk R rv e1
    obtain ⟨b, ys, rfl, hb, r2⟩ := rd_trk R rw' e2
    exact .inr (.inr (.inr ⟨a, b, xs, ys, rfl, rfl, ha, hb, by rw [← r1.len, ← r2.len]; exact lim_le h1, fun p hp => mk_lst h2 R (r1.append r2) hp⟩))
theorem sub_rd (R : Rel E α S H) (rv : Rp E α S.length H v x) (rw' : Rp E α S.length H w y) (h : Kt E W (Rp E) α S σ H (subV S v w) Q) : (rI0 fun i j => .int (i - j)) x y H Q := by
  unfold subV at h
  split at h
  · simp only [Rp] at rv rw'
    exact ⟨_, _, rv, rw', is_int h R⟩
  · exact h.elim
def RMul (K : PySem.W.Frag) : R2 := fun x y H Q => (rI CMul fun i j => .int (i * j)) x y H Q ∨ rRepT K x y H Q ∨ rRep x y H Q
theorem or_mul : OpR X (binaryOp .Mult) (RMul X.K) := op_mul.or (op_repT.or op_rep)
theorem mul_rd (R : Rel E α S H) (rv : Rp E α S.length H v x) (rw' : Rp E α S.length H w y) (h : Kt E W (Rp E) α S σ H (mulV S v w) Q) : RMul E.K x y H Q := by
  unfold mulV at h
  split at h
  · simp only [Rp] at rv rw'
    obtain ⟨h1, h2⟩ := h.need
    refine .inl ⟨_, _, rv, rw', ?_, is_int h2 R⟩
    simp only [small, Bool.or_eq_true, Bool.and_eq_true, decide_eq_true_eq] at h1
    unfold CMul
    omega
  · rename_i vs k
    obtain ⟨h1, h2⟩ := h.need
    simp only [Bool.and_eq_true, decide_eq_true_eq, Bool.not_eq_true'] at h1
    obtain ⟨⟨⟨⟨h3, h4⟩, h5⟩, h6⟩, h7⟩ := h1
    obtain ⟨a, xs, rfl, ha, r1⟩ := rd_tup rv
    simp only [Rp] at rw'
    refine .inr (.inl ⟨a, k, xs, rfl, rw', ha, fun e => ?_, h4, h5, by rw [← r1.len]; exact h6, fun p hp => mk_tup h7 h2 R (r1.rep _) hp⟩)
    have := r1.len
    rw [e] at this
    rw [List.length_eq_zero_iff.mp this] at h3
    cases h3
  · rename_i k _ _
    obtain ⟨vs, e1, h⟩ := h.opt
    obtain ⟨h1, h2⟩ := h.need
    simp only [Bool.and_eq_true, decide_eq_true_eq] at h1
    obtain ⟨⟨h3, h4⟩, h5⟩ := h1
    obtain ⟨a, xs, rfl, ha, r1⟩ := rd_trk R rv e1
    simp only [Rp] at rw'
    exact .inr (.inr ⟨a, k, xs, rfl, rw', ha, by omega, by omega, by rw [← r1.len, ← lim_eq]; exact h5, fun p hp => mk_lst h2 R (r1.rep _) hp⟩)
  · exact h.elim
theorem fdiv_rd (R : Rel E α S H) (rv : Rp E α S.length H v x) (rw' : Rp E α S.length H w y) (h : Kt E W (Rp E) α S σ H (fdivV S v w) Q) : (rI CDiv fun i j => .int (i / j)) x y H Q := by
  unfold fdivV at h
  split at h
  · simp only [Rp] at rv rw'
    obtain ⟨h1, h2⟩ := h.need
    simp only [Bool.and_eq_true, decide_eq_true_eq] at h1
    exact ⟨_, _, rv, rw', h1, is_int h2 R⟩
  · exact h.elim
theorem mod_rd (R : Rel E α S H) (rv : Rp E α S.length H v x) (rw' : Rp E α S.length H w y) (h : Kt E W (Rp E) α S σ H (modV S v w) Q) : (rI (fun _ j => 0 < j) fun i j => .int (i % j)) x y H Q := by
  unfold modV at h
  split at h
  · simp only [Rp] at rv rw'
    obtain ⟨h1, h2⟩ := h.need
    simp only [decide_eq_true_eq] at h1
    exact ⟨_, _, rv, rw', h1, is_int h2 R⟩
  · exact h.elim

mutual
theorem rd_toDw {g : Nat → Option PyData} (hg : ∀ l d, g l = some d → ∀ y, Rp E α S.length H (.loc l) y → Dp E.K H y d) : ∀ (v : PV) (x : V) (d : PyData), Rp E α S.length H v x → toDw g v = some d → Dp E.K H x d
  | .non, _, _, r, e => by simp only [Rp] at r; simp only [toDw, Option.some.injEq] at e; subst r e; exact .non
  | .bl _, _, _, r, e => by simp only [Rp] at r; simp only [toDw, Option.some.injEq] at e; subst r e; exact .bl _
  | .int _, _, _, r, e => by simp only [Rp] at r; simp only [toDw, Option.some.injEq] at e; subst r e; exact .int _
  | .str _, _, _, r, e => by simp only [Rp] at r; simp only [toDw, Option.some.injEq] at e; subst r e; exact .str _
  | .tup vs, _, _, r, e => by
    simp only [Rp] at r
    simp only [toDw] at e
    obtain ⟨ds, e1, e2⟩ := Option.map_eq_some_iff.mp e
    obtain ⟨a, xs, e3, e4, e5⟩ := r
    subst e2 e3
    exact .tup e4.1 (rd_toDws hg vs xs ds e5 e1)
  | .lst vs, _, _, r, e => by
    simp only [Rp] at r
    simp only [toDw] at e
    obtain ⟨ds, e1, e2⟩ := Option.map_eq_some_iff.mp e
    obtain ⟨a, xs, e3, e4, _, e5⟩ := r
    subst e2 e3
    exact .lst (.of e4) (rd_toDws hg vs xs ds e5 e1)
  | .ro vs, _, _, r, e => by
    simp only [Rp] at r
    simp only [toDw] at e
    obtain ⟨ds, e1, e2⟩ := Option.map_eq_some_iff.mp e
    obtain ⟨a, xs, e3, e4, e5⟩ := r
    subst e2 e3
    exact .lst e4.sq (rd_toDws hg vs xs ds e5 e1)
  | .obj _ _ _, _, _, _, e => by simp [toDw] at e
  | .loc l, x, d, r, e => hg l d (by simpa only [toDw] using e) x r
theorem rd_toDws {g : Nat → Option PyData} (hg : ∀ l d, g l = some d → ∀ y, Rp E α S.length H (.loc l) y → Dp E.K H y d) : ∀ (vs : List PV) (xs : List V) (ds : List PyData), RpL E α S.length H vs xs → toDws g vs = some ds → DpAll E.K H xs ds
  | [], _, _, r, e => by simp only [RpL] at r; simp only [toDws, Option.some.injEq] at e; subst r e; exact .nil
  | v :: vs, _, _, r, e => by
    simp only [RpL] at r
    obtain ⟨y, ys, e1, h1, h2⟩ := r
    subst e1
    simp only [toDws] at e
    split at e
    · rename_i d ds e2 e3
      cases e
      exact .cons (rd_toDw hg v y d h1 e2) (rd_toDws hg vs ys ds h2 e3)
    · cases e
end
theorem rd_toDL (R : Rel E α S H) : ∀ (k l : Nat) (d : PyData), toDL S k l = some d → ∀ y, Rp E α S.length H (.loc l) y → Dp E.K H y d
  | 0, _, _, e => by simp [toDL] at e
  | k + 1, l, d, e => by
    intro y r
    simp only [toDL] at e
    split at e
    · rename_i vs e1
      obtain ⟨ds, e2, e3⟩ := Option.map_eq_some_iff.mp e
      subst e3
      obtain ⟨xs, e4, e5⟩ := R.obj l _ e1
      simp only [Rp] at r
      rw [r.2]
      exact .lst (.of e4) (rd_toDws (rd_toDL R k) vs xs ds e5 e2)
    · cases e
theorem rd_toD (R : Rel E α S H) {d : PyData} (r : Rp E α S.length H v x) (e : toD S v = some d) : Dp E.K H x d := rd_toDw (rd_toDL R 6) v x d r e
theorem eq_rd (R : Rel E α S H) (rv : Rp E α S.length H v x) (rw' : Rp E α S.length H w y) {b : Bool} (e : eqS S v w = some b) : ∃ d e, Dp E.K H x d ∧ Dp E.K H y e ∧ SeqAt.shaped d = true ∧ SeqAt.shaped e = true ∧ b = PyData.eqv d e := by
  unfold eqS at e
  split at e
  · rename_i d e' e1 e2
    split at e
    · rename_i hs
      cases e
      exact ⟨d, e', rd_toD R rv e1, rd_toD R rw' e2, hs.1, hs.2, rfl⟩
    · cases e
  · cases e
end
end PM
end
section
namespace PM
open PySem L2 PySem.Spec PyProof.Rows
mutual
inductive NkV (K : PySem.W.Frag) (H : Hp) : NestedKey → V → Prop
  | non : NkV K H .none .non
  | bl (b : Bool) : NkV K H (.num (if b = true then 1 else 0)) (.bl b)
  | int (i : Int) : NkV K H (.num i) (.int i)
  | str (x : Str) : NkV K H (.text x) (.str x)
  | tup {a xs ks} : SqT K H a xs → NkVs K H ks xs → NkV K H (.tup ks) (.ref a)
inductive NkVs (K : PySem.W.Frag) (H : Hp) : List NestedKey → List V → Prop
  | nil : NkVs K H [] []
  | cons {k x ks xs} : NkV K H k x → NkVs K H ks xs → NkVs K H (k :: ks) (x :: xs)
end
section
variable {E : Cfg} {α : Nat → Addr} {n : Nat} {H : Hp}
mutual
theorem Rp.nk : ∀ (v : PV) (x : V) (k : NestedKey), Rp E α n H v x → keyN v = some k → NkV E.K H k x
  | .non, _, _, r, e => by simp only [Rp] at r; simp only [keyN, Option.some.injEq] at e; subst r e; exact .non
  | .bl b, _, _, r, e => by simp only [Rp] at r; simp only [keyN, Option.some.injEq] at e; subst r e; exact .bl b
  | .int i, _, _, r, e => by simp only [Rp] at r; simp only [keyN, Option.some.injEq] at e; subst r e; exact .int i
  | .str z, _, _, r, e => by simp only [Rp] at r; simp only [keyN, Option.some.injEq] at e; subst r e; exact .str z
  | .tup vs, _, _, r, e => by
    simp only [Rp] at r
    simp only [keyN] at e
    obtain ⟨ks, e1, e2⟩ := Option.map_eq_some_iff.mp e
    obtain ⟨a, xs, e3, e4, e5⟩ := r
    subst e2 e3
    exact .tup e4.1 (RpL.nk vs xs ks e5 e1)
  | .lst _, _, _, _, e => by simp [keyN] at e
  | .ro _, _, _, _, e => by simp [keyN] at e
  | .obj _ _ _, _, _, _, e => by simp [keyN] at e
  | .loc _, _, _, _, e => by simp [keyN] at e
theorem RpL.nk : ∀ (vs : List PV) (xs : List V) (ks : List NestedKey), RpL E α n H vs xs → keyNs vs = some ks → NkVs E.K H ks xs
  | [], _, _, r, e => by simp only [RpL] at r; simp only [keyNs, Option.some.injEq] at e; subst r e; exact .nil
  | v :: vs, _, _, r, e => by
    simp only [RpL] at r
    obtain ⟨y, ys, e1, h1, h2⟩ := r
    subst e1
    simp only [keyNs] at e
    split at e
    · rename_i d ds e2 e3
      cases e
      exact .cons (Rp.nk v y d h1 e2) (RpL.nk vs ys ds h2 e3)
    · cases e
end
theorem keyT_is {v : PV} {k : NestedKey} (e : keyT v = some k) : keyN v = some k ∧ k.depth ≤ 8 := by
  unfold keyT at e
  split at e
  · split at e
    · rename_i vs k' e1
      split at e
      · rename_i hd
        cases e
        exact ⟨by simp only [keyN]; exact e1, hd⟩
      · cases e
    · cases e
  · cases e
def KyOk (K : PySem.W.Frag) (H : Hp) (ks : List (NestedKey × Addr × V)) : Prop := ∀ e ∈ ks, NkV K H e.1 (.ref e.2.1) ∧ e.1.depth ≤ 8
theorem DN.keys : ∀ {kvs : List (PV × PV)} {ks : List (NestedKey × Addr × V)}, DN E α n H kvs ks → KyOk E.K H ks
  | [], _, h => by
    have h : _ = [] := h
    subst h
    exact fun e z => by cases z
  | p :: r, _, h => by
    obtain ⟨k, b, y, ks', e, h1, h2, h3, h4⟩ := h
    subst e
    obtain ⟨q1, q2⟩ := keyT_is h1
    intro e he
    rcases List.mem_cons.mp he with z | z
    · subst z; exact ⟨Rp.nk _ _ _ h2 q1, q2⟩
    · exact DN.keys h4 e z
def nlook (ks : List (NestedKey × Addr × V)) (k : NestedKey) : Option V := (ks.find? fun e => decide (e.1 = k)).map (·.2.2)
def nput (ks : List (NestedKey × Addr × V)) (k : NestedKey) (b : Addr) (y : V) : List (NestedKey × Addr × V) :=
  if (nlook ks k).isSome then ks.map (fun e => if e.1 = k then (e.1, e.2.1, y) else e) else ks ++ [(k, b, y)]
theorem DN.find : ∀ {kvs : List (PV × PV)} {ks : List (NestedKey × Addr × V)} (k : NestedKey), DN E α n H kvs ks → match findT kvs k with
    | some v => ∃ y, nlook ks k = some y ∧ Rp E α n H v y
    | none => nlook ks k = none
  | [], _, k, h => by
    have h : _ = [] := h
    subst h; rfl
  | p :: r, _, k, h => by
    obtain ⟨k', b, y, ks', e, h1, h2, h3, h4⟩ := h
    subst e
    by_cases hk : k' = k
    · subst hk
      have e1 : findT (p :: r) k' = some p.2 := by simp [findT, h1]
      rw [e1]
      exact ⟨y, by simp [nlook], h3⟩
    · have e1 : findT (p :: r) k = findT r k := by simp [findT, h1, hk]
      have e2 : nlook ((k', b, y) :: ks') k = nlook ks' k := by simp [nlook, hk]
      rw [e1, e2]
      exact DN.find k h4
theorem DN.any {kvs : List (PV × PV)} {ks : List (NestedKey × Addr × V)} (k : NestedKey) (h : DN E α n H kvs ks) : (kvs.any fun p => decide (keyT p.1 = some k)) = (nlook ks k).isSome := by
  have e1 : (kvs.any fun p => decide (keyT p.1 = some k)) = (findT kvs k).isSome := by
    unfold findT
    rw [Option.isSome_map, Bool.eq_iff_iff, List.find?_isSome, List.any_eq_true]
  rw [e1]
  have q := DN.find k h
  cases h2 : findT kvs k with
  | some v => rw [h2] at q; obtain ⟨y, q, _⟩ := q; rw [q]; rfl
  | none => rw [h2] at q; have q : nlook ks k = none := q; rw [q]; rfl
theorem DN.len : ∀ {kvs : List (PV × PV)} {ks : List (NestedKey × Addr × V)}, DN E α n H kvs ks → kvs.length = ks.length
  | [], _, h => by
    have h : _ = [] := h
    subst h; rfl
  | p :: r, _, h => by
    obtain ⟨k', b, y, ks', e, h1, h2, h3, h4⟩ := h
    subst e
    simp [DN.len h4]
theorem DN.map {k : NestedKey} {v : PV} {y : V} (rv : Rp E α n H v y) : ∀ {kvs : List (PV × PV)} {ks : List (NestedKey × Addr × V)}, DN E α n H kvs ks →
    DN E α n H (kvs.map fun p => if keyT p.1 = some k then (p.1, v) else p) (ks.map fun e => if e.1 = k then (e.1, e.2.1, y) else e)
  | [], _, h => by
    have h : _ = [] := h
    subst h; rfl
  | p :: r, _, h => by
    obtain ⟨k', b, y', ks', e, h1, h2, h3, h4⟩ := h
    subst e
    have ih := DN.map (k := k) rv h4
    by_cases hk : k' = k
    · subst hk
      refine ⟨k', b, y, _, by rw [List.map_cons, if_pos rfl], ?_, ?_, ?_, ih⟩
      · dsimp only; rw [if_pos h1]; exact h1
      · dsimp only; rw [if_pos h1]; exact h2
      · dsimp only; rw [if_pos h1]; exact rv
    · have hk' : ¬ keyT p.1 = some k := by rw [h1]; simpa using hk
      refine ⟨k', b, y', _, by rw [List.map_cons, if_neg hk], ?_, ?_, ?_, ih⟩
      · dsimp only; rw [if_neg hk']; exact h1
      · dsimp only; rw [if_neg hk']; exact h2
      · dsimp only; rw [if_neg hk']; exact h3
theorem DN.app {p : PV × PV} {k : NestedKey} {b : Addr} {y : V} (h1 : keyT p.1 = some k) (h2 : Rp E α n H p.1 (.ref b)) (h3 : Rp E α n H p.2 y) : ∀ {kvs : List (PV × PV)} {ks : List (NestedKey × Addr × V)}, DN E α n H kvs ks → DN E α n H (kvs ++ [p]) (ks ++ [(k, b, y)])
  | [], _, h => by
    have h : _ = [] := h
    subst h
    exact ⟨k, b, y, [], rfl, h1, h2, h3, rfl⟩
  | p' :: r, _, h => by
    obtain ⟨k', b', y', ks', e, g1, g2, g3, g4⟩ := h
    subst e
    exact ⟨k', b', y', _, rfl, g1, g2, g3, DN.app h1 h2 h3 g4⟩
theorem DN.put {kvs : List (PV × PV)} {ks : List (NestedKey × Addr × V)} {kv : PV} {k : NestedKey} {b : Addr} {v : PV} {y : V} (h1 : keyT kv = some k) (h2 : Rp E α n H kv (.ref b)) (h3 : Rp E α n H v y) (h : DN E α n H kvs ks) : DN E α n H (setT kvs kv k v) (nput ks k b y) := by
  unfold setT nput
  rw [DN.any k h]
  by_cases q : (nlook ks k).isSome = true
  · rw [if_pos q, if_pos q]; exact DN.map h3 h
  · rw [if_neg q, if_neg q]; exact DN.app h1 h2 h3 h
end
section
variable {X : Cx} {pins : List (Addr × Obj)} {σ : L2.St} {H : Hp} {s : Shared}
mutual
theorem nk_is (I : Inv X pins σ H s) : ∀ (k : NestedKey) (x : V) (u : Value), NkV X.K H k x → RelV x u → NestedIs s.heap k u
  | .none, _, _, h, r => by cases h; cases r; exact .none
  | .num i, _, _, h, r => by
    cases h with
    | bl b => cases r; exact .bool rfl
    | int _ => obtain ⟨t, rfl⟩ := r; exact .int _ t
  | .text z, _, _, h, r => by cases h; obtain ⟨t, rfl⟩ := r; exact .text _ t
  | .tup ks, _, _, h, r => by
    cases h with
    | tup hq hs =>
      cases r
      obtain ⟨its, rv, ⟨o, h1, h2, m, h3⟩, _⟩ := I.tuple hq
      exact .tup h1 h2 h3 (nks_is I ks _ its hs rv)
theorem nks_is (I : Inv X pins σ H s) : ∀ (ks : List NestedKey) (xs : List V) (us : List Value), NkVs X.K H ks xs → Vals xs us → NestedAll s.heap ks us
  | [], _, _, h, r => by cases h; cases r; exact .nil
  | k :: ks, _, _, h, r => by
    cases h with
    | cons h1 h2 =>
      cases r with
      | cons r1 r2 => exact .cons (nk_is I k _ _ h1 r1) (nks_is I ks _ _ h2 r2)
end
abbrev DRel : NestedKey × Addr × V → NestedKey × Addr × Value → Prop := fun p q => p.1 = q.1 ∧ p.2.1 = q.2.1 ∧ RelV p.2.2 q.2.2
theorem drel_mem {ks : List (NestedKey × Addr × V)} {us : List (NestedKey × Addr × Value)} (r : Paired DRel ks us) : ∀ u ∈ us, ∃ e ∈ ks, DRel e u := by
  induction r with
  | nil => exact fun u h => by cases h
  | cons h t ih =>
    intro u hu
    rcases List.mem_cons.mp hu with z | z
    · subst z; exact ⟨_, List.mem_cons_self, h⟩
    · obtain ⟨e, he, q⟩ := ih u z
      exact ⟨e, List.mem_cons_of_mem _ he, q⟩
theorem drel_find {ks : List (NestedKey × Addr × V)} {us : List (NestedKey × Addr × Value)} (r : Paired DRel ks us) (k : NestedKey) : match nlook ks k with
    | some y => ∃ p, atKey us k = some p ∧ RelV y p.2
    | none => atKey us k = none := by
  induction r with
  | nil => rfl
  | @cons a b ks us h t ih =>
    obtain ⟨h1, h2, h3⟩ := h
    by_cases hk : a.1 = k
    · have e1 : nlook (a :: ks) k = some a.2.2 := by simp [nlook, hk]
      rw [e1]
      exact ⟨b.2, by simp [atKey, ← h1, hk], h3⟩
    · have e1 : nlook (a :: ks) k = nlook ks k := by simp [nlook, hk]
      have e2 : atKey (b :: us) k = atKey us k := by simp [atKey, ← h1, hk]
      rw [e1, e2]
      exact ih
theorem drel_put {ks : List (NestedKey × Addr × V)} {us : List (NestedKey × Addr × Value)} (r : Paired DRel ks us) (k : NestedKey) (b : Addr) {y : V} {u : Value} (ry : RelV y u) : Paired DRel (nput ks k b y) (storedH us k b u) := by
  have q := drel_find r k
  have hs : (nlook ks k).isSome = (atKey us k).isSome := by
    cases h : nlook ks k with
    | some z => rw [h] at q; obtain ⟨p, q, _⟩ := q; rw [q]; rfl
    | none => rw [h] at q; have q : atKey us k = none := q; rw [q]; rfl
  unfold nput storedH
  rw [hs]
  have m1 : Paired DRel (ks.map fun e => if e.1 = k then (e.1, e.2.1, y) else e) (us.map (putAt k u)) := by
    clear q hs
    induction r with
    | nil => exact .nil
    | @cons a b _ _ h t ih =>
      obtain ⟨h1, h2, h3⟩ := h
      refine .cons ?_ ih
      unfold putAt
      rw [← h1]
      by_cases hk : a.1 = k
      · dsimp only; rw [if_pos hk, if_pos hk]; exact ⟨rfl, h2, ry⟩
      · dsimp only; rw [if_neg hk, if_neg hk]; exact ⟨h1, h2, h3⟩
  have m2 : Paired DRel (ks ++ [(k, b, y)]) (us ++ [(k, b, u)]) := by
    clear q hs m1
    induction r with
    | nil => exact .cons ⟨rfl, rfl, ry⟩ .nil
    | cons h t ih => exact .cons h ih
  by_cases h : (atKey us k).isSome = true
  · rw [if_pos h, if_pos h]; exact m1
  · rw [if_neg h, if_neg h]; exact m2
theorem dn_of {a : Addr} {ks : List (NestedKey × Addr × V)} (I : Inv X pins σ H s) (e : H a = some (dnO X.w a ks)) (hk : KyOk X.K H ks) :
    ks.length ≤ sizeLine ∧ (a == sysModules) = false ∧ ∃ us, Paired DRel ks us ∧ s.heap.DictOfH (nestedKind X.prog X.w) a us := by
  obtain ⟨⟨z, hd, us, r, o, es, ep, h1, h2, h3, h4, h5⟩, _⟩ := (show ObjOk X.prog X.w H s.heap a (.ext (DnOk X.w a ks)) from I.hok a _ e)
  refine ⟨z, hd, us, r, o, es, ep, h1, h2, h3, h4, fun u hu => ?_, h5⟩
  obtain ⟨e, he, q1, q2, _⟩ := drel_mem r u hu
  obtain ⟨n1, n2⟩ := hk e he
  rw [← q1, ← q2]
  exact ⟨nk_is I _ _ _ n1 rfl, n2⟩
theorem dn_new {a : Addr} {ks : List (NestedKey × Addr × V)} {H' : Hp} {h' : Heap} {us : List (NestedKey × Addr × Value)} (z : ks.length ≤ sizeLine) (hd : (a == sysModules) = false) (r : Paired DRel ks us) (d : h'.DictOfH (nestedKind X.prog X.w) a us) : ObjOk X.prog X.w H' h' a (dnO X.w a ks) := by
  obtain ⟨o, es, ep, h1, h2, h3, h4, _, h5⟩ := d
  refine ⟨⟨z, hd, us, r, o, es, ep, h1, h2, h3, h4, h5⟩, ⟨o, h1⟩, ?_⟩
  rintro g1 g2 ⟨_, _, us', r', o', es', ep', k1, k2, k3, k4, k5⟩ st
  exact ⟨z, hd, us', r', o', es', ep', st _ k1, k2, k3, k4, k5⟩
def DnGet (w : World) (K : PySem.W.Frag) (H : Hp) (a : Addr) (x : V) (r : Option V) : Prop := ∃ ks k b, H a = some (dnO w a ks) ∧ KyOk K H ks ∧ x = .ref b ∧ NkV K H k (.ref b) ∧ k.depth ≤ 8 ∧ r = nlook ks k
theorem op_nIn (hu : X.A.units + 65 < cLine) : OpR X (compareOp .In) fun x y H Q => ∃ a o, y = .ref a ∧ DnGet X.w X.K H a x o ∧ Q (.bl o.isSome) H := by
  intro pins s σ H x y v u Q I rx ry h
  obtain ⟨a, o, rfl, ⟨ks, k, b, e, hk, rfl, hb, hdp, rfl⟩, q⟩ := h
  cases rx
  cases ry
  obtain ⟨z, hd, us, r, D⟩ := dn_of I e hk
  have f := drel_find r k
  refine wpAny_in_heap (knd := nestedKind X.prog X.w) (k := k) (show X.A.in1.units + 8 < cLine by simp only [Around.in1_units]; omega) ⟨nk_is I _ _ _ hb rfl, hdp⟩ hd D ⟨.bl _, H, I.tok _, ?_, q⟩
  show Value.bool _ = Value.bool _
  congr 1
  cases h : nlook ks k with
  | some y => rw [h] at f; obtain ⟨p, f, _⟩ := f; rw [f]; rfl
  | none => rw [h] at f; have f : atKey us k = none := f; rw [f]; rfl
theorem op_nNin (hu : X.A.units + 65 < cLine) : OpR X (compareOp .NotIn) fun x y H Q => ∃ a o, y = .ref a ∧ DnGet X.w X.K H a x o ∧ Q (.bl !o.isSome) H := by
  intro pins s σ H x y v u Q I rx ry h
  obtain ⟨a, o, rfl, ⟨ks, k, b, e, hk, rfl, hb, hdp, rfl⟩, q⟩ := h
  cases rx
  cases ry
  obtain ⟨z, hd, us, r, D⟩ := dn_of I e hk
  have f := drel_find r k
  refine wpAny_notIn_heap (knd := nestedKind X.prog X.w) (k := k) (show X.A.in1.units + 8 < cLine by simp only [Around.in1_units]; omega) ⟨nk_is I _ _ _ hb rfl, hdp⟩ hd D ⟨.bl _, H, I.tok _, ?_, q⟩
  show Value.bool _ = Value.bool _
  congr 1
  cases h : nlook ks k with
  | some y => rw [h] at f; obtain ⟨p, f, _⟩ := f; rw [f]; rfl
  | none => rw [h] at f; have f : atKey us k = none := f; rw [f]; rfl
theorem dn_typeIs {a : Addr} {ks : List (NestedKey × Addr × V)} (I : Inv X pins σ H s) (e : H a = some (dnO X.w a ks)) : s.TypeIs (.ref a) "dict" := by
  obtain ⟨⟨z, hd, us, r, o, es, ep, h1, h2, h3, h4, h5⟩, _⟩ := (show ObjOk X.prog X.w H s.heap a (.ext (DnOk X.w a ks)) from I.hok a _ e)
  exact ⟨o, h1, h2.1⟩
theorem ix_nest (hu : X.A.units + 65 < cLine) : IxR X (fun x y H Q => ∃ a v, x = .ref a ∧ DnGet X.w X.K H a y (some v) ∧ Q v H) := by
  intro value slice pins s σ H x y v u Q I rx ry h hs
  obtain ⟨a, z, rfl, ⟨ks, k, b, e, hk, rfl, hb, hdp, hl⟩, q⟩ := h
  cases rx
  cases ry
  obtain ⟨hz, hd, us, r, D⟩ := dn_of I e hk
  have f := drel_find r k
  rw [← hl] at f
  obtain ⟨p, f, rp⟩ := f
  refine tail_any (ops := [.ref a, .ref b]) D.typeIs PySem.slot_dict_getitem.lookup (wpAny_getItem_heap (knd := nestedKind X.prog X.w) (k := k) (show X.A.in1.units + 8 < cLine by simp only [Around.in1_units]; omega) ⟨nk_is I _ _ _ hb rfl, hdp⟩ D f ⟨z, H, I.tok _, rp, q⟩) hs
theorem dn_dictSet {a b : Addr} {ks : List (NestedKey × Addr × V)} {k : NestedKey} {y : V} {u : Value} {Q : Unit → Shared → Prop} {Ex : Value → Shared → Prop} (hu : X.A.units + 65 < cLine) (I : Inv X pins σ H s) (e : H a = some (dnO X.w a ks)) (hk : KyOk X.K H ks) (hz : ks.length < sizeLine)
    (hb : NkV X.K H k (.ref b)) (hdp : k.depth ≤ 8) (ry : RelV y u) (h : ∀ s', Inv X pins σ (upd H a (dnO X.w a (nput ks k b y))) s' → Q () s') : wpAny (model X.prog X.w) X.A (dictSet a (.ref b) u) Q Ex s := by
  obtain ⟨z, hd, us, r, D⟩ := dn_of I e hk
  have hl : us.length ≤ sizeLine := by rw [← r.length]; exact z
  refine wpAny_dictSet_heap (hsz := hl) (knd := nestedKind X.prog X.w) (k := k) (show X.A.units + 8 < cLine by omega) ⟨nk_is I _ _ _ hb rfl, hdp⟩ D fun h' D' sb => h _ ?_
  have hlen : (nput ks k b y).length ≤ sizeLine := by
    unfold nput
    split
    · rw [List.length_map]; exact z
    · rw [List.length_append]; simp only [List.length_cons, List.length_nil]; omega
  obtain ⟨o, es, ep, h1, _⟩ := id D'
  exact d_write I (by rw [e]; exact True.intro) sb ⟨o, h1⟩ (dn_new hlen hd (drel_put r k b ry) D')
end
end PM
end
section
namespace PM
open PySem L2 PySem.Spec PyProof.Rows
section
variable {E : Cfg} {W : WX} {X : Cx} {σ : L2.St} {H : Hp} {Q : VK} {ma mb mc : Env → Sto → Res PV} {a b c : Expr} {pos : Pos}
theorem two {f : PV → PV → Sto → Res PV} (h : tE E W (fun ρ S => (ma ρ S).bind fun x S1 => (mb ρ S1).bind fun y S2 => f x y S2) σ H Q) {r : R2}
    (k : ∀ α S v w x y H, Rel E α S H → Rp E α S.length H v x → Rp E α S.length H w y → Kt E W (Rp E) α S σ H (f v w S) Q → r x y H Q) : tOp r (tE E W ma) (tE E W mb) σ H Q := by
  refine tG.first (R := Rp E) (f := fun x ρ S => (mb ρ S).bind fun y S2 => f x y S2) h fun α ρ S v x H1 R en rv kt => ?_
  refine ⟨α, ρ, S, R, en, Kt.bind kt fun w S1 α1 y H2 e R1 rw' kt => ?_⟩
  exact k α1 S1 v w x y H2 R1 (rv.ext e) rw' kt
theorem one {f : PV → Sto → Res PV} (h : tE E W (fun ρ S => (ma ρ S).bind fun x S1 => f x S1) σ H Q) {r : V → Hp → Prop}
    (k : ∀ α S v x H, Rel E α S H → Rp E α S.length H v x → Kt E W (Rp E) α S σ H (f v S) Q → r x H) : tE E W ma σ H r :=
  tG.first (R := Rp E) (f := fun x _ S => f x S) h fun α ρ S v x H1 R en rv kt => k α S v x H1 R rv kt
theorem many {ms : Env → Sto → Res (List PV)} {f : List PV → Sto → Res PV} (h : tE E W (fun ρ S => (ms ρ S).bind fun x S1 => f x S1) σ H Q) {r : List V → Hp → Prop}
    (k : ∀ α S vs xs H, Rel E α S H → RpL E α S.length H vs xs → Kt E W (Rp E) α S σ H (f vs S) Q → r xs H) : tA E W ms σ H r :=
  tG.first (R := Rp E) (f := fun x _ S => f x S) h fun α ρ S v x H1 R en rv kt => k α S v x H1 R rv kt

theorem s_int {i : Int} {j : Nat} {pos : Pos} : PE X (.Constant (.int i) j pos) (tE E W fun _ S => .ok (.int i) S) := PE.imp pe_int fun σ H Q ⟨α, ρ, S, R, _, kt⟩ => is_int kt R
theorem s_bl {i : Bool} {j : Nat} {pos : Pos} : PE X (.Constant (.bool i) j pos) (tE E W fun _ S => .ok (.bl i) S) := PE.imp pe_bl fun σ H Q ⟨α, ρ, S, R, _, kt⟩ => is_bl kt R
theorem s_str {i : Str} {j : Nat} {pos : Pos} : PE X (.Constant (.str i) j pos) (tE E W fun _ S => .ok (.str i) S) := PE.imp pe_str fun σ H Q ⟨α, ρ, S, R, _, kt⟩ => is_str kt R
theorem s_non {j : Nat} {pos : Pos} : PE X (.Constant .none j pos) (tE E W fun _ S => .ok .non S) := PE.imp pe_non fun σ H Q ⟨α, ρ, S, R, _, kt⟩ => is_non kt R
theorem s_var {i : Nat} {x : Str} {pos : Pos} (hN : X.N[i]? = some x) (hv : Vis X.env.scope x) (hd : (x == ("__debug__" : Str)) = false) (hcd : (x == ("__classdict__" : Str)) = false) :
    PE X (.Name x pos) (tE E W fun ρ S => match ρ[i]? with | some (some v) => .ok v S | _ => .bad) := PE.imp (pe_var hN hv hd hcd) fun σ H Q ⟨α, ρ, S, R, en, kt⟩ => by
  change Kt E W (Rp E) α S σ H (match ρ[i]? with | some (some v) => .ok v S | _ => .bad) Q at kt
  split at kt
  · rename_i v e
    obtain ⟨y, e2, r⟩ := en.at_ i v e
    exact ⟨y, e2, kt.here R r⟩
  · exact kt.elim
theorem s_pow {i j : Nat} {k k2 : Nat} {p1 p2 pos : Pos} (hi : i < 2 ^ 64) (hj : j ≤ 1000) : PE X (.BinOp (.Constant (.int i) k p1) .Pow (.Constant (.int j) k2 p2) pos) (tE E W fun _ S => .ok (.int ((i : Int) ^ j)) S) :=
  PE.imp (pe_op op_pow pe_int pe_int) fun σ H Q ⟨α, ρ, S, R, _, kt⟩ => ⟨_, _, rfl, rfl, ⟨by omega, by omega, by simpa using hi⟩, by
    have := is_int kt R
    simpa using this⟩

def opB : BOp → Operator | .add => .Add | .sub => .Sub | .mul => .Mult | .fdiv => .FloorDiv | .mod => .Mod
theorem s_bop {o : BOp} (ha : PE X a (tE E W ma)) (hb : PE X b (tE E W mb)) (hK : X.K = E.K) : PE X (.BinOp a (opB o) b pos) (tE E W fun ρ S => (ma ρ S).bind fun x S1 => (mb ρ S1).bind fun y S2 => bopV o S2 x y) := by
  cases o with
  | add => exact PE.imp (pe_op or_add ha hb) fun σ H Q h => two (f := fun x y S => addV S x y) h fun α S v w x y H R rv rw' kt => by rw [hK]; exact add_rd R rv rw' kt
  | sub => exact PE.imp (pe_op op_sub ha hb) fun σ H Q h => two (f := fun x y S => subV S x y) h fun α S v w x y H R rv rw' kt => sub_rd R rv rw' kt
  | mul => exact PE.imp (pe_op or_mul ha hb) fun σ H Q h => two (f := fun x y S => mulV S x y) h fun α S v w x y H R rv rw' kt => by rw [hK]; exact mul_rd R rv rw' kt
  | fdiv => exact PE.imp (pe_op op_fdiv ha hb) fun σ H Q h => two (f := fun x y S => fdivV S x y) h fun α S v w x y H R rv rw' kt => fdiv_rd R rv rw' kt
  | mod => exact PE.imp (pe_op op_mod ha hb) fun σ H Q h => two (f := fun x y S => modV S x y) h fun α S v w x y H R rv rw' kt => mod_rd R rv rw' kt

def rInT (K : PySem.W.Frag) : R2 := fun x y H Q => ∃ d ds, Dp K H x d ∧ Dp K H y (.tuple ds) ∧ SeqAt.shaped d = true ∧ SeqAt.shaped (.list ds) = true ∧ Q (.bl (ds.any fun z => PyData.eqv z d)) H
theorem op_inT (hu : X.A.units + 65 < cLine) : OpR X (compareOp .In) (rInT X.K) := by
  intro pins s σ H x y v u Q I rx ry h
  obtain ⟨d, ds, hd, he, sd, se, q⟩ := h
  obtain ⟨as, r1⟩ := Dp.reads I d x v hd rx
  obtain ⟨bs, r2⟩ := Dp.reads I (.tuple ds) y u he ry
  have hl : PyData.canLayAll0 ds = true := SeqAt.canLay_of_shaped se
  exact SeqAt.in_tuple_reads r2 r1 hl (SeqAt.canLay_of_shaped sd) (room_in_shaped sd hu) ⟨.bl _, H, I, rfl, q⟩
def rNinT (K : PySem.W.Frag) : R2 := fun x y H Q => ∃ d ds, Dp K H x d ∧ Dp K H y (.tuple ds) ∧ SeqAt.shaped d = true ∧ SeqAt.shaped (.list ds) = true ∧ Q (.bl (!ds.any fun z => PyData.eqv z d)) H
theorem op_ninT (hu : X.A.units + 65 < cLine) : OpR X (compareOp .NotIn) (rNinT X.K) := by
  intro pins s σ H x y v u Q I rx ry h
  obtain ⟨d, ds, hd, he, sd, se, q⟩ := h
  obtain ⟨as, r1⟩ := Dp.reads I d x v hd rx
  obtain ⟨bs, r2⟩ := Dp.reads I (.tuple ds) y u he ry
  have hl : PyData.canLayAll0 ds = true := SeqAt.canLay_of_shaped se
  exact SeqAt.notIn_tuple_reads r2 r1 hl (SeqAt.canLay_of_shaped sd) (room_in_shaped sd hu) ⟨.bl _, H, I, rfl, q⟩
def rSign (neg : Bool) : R2 := fun x y H Q => ∃ (c : Nat) (z : Str), x = .str ⟨#[c]⟩ ∧ y = .str z ∧ Q (.bl (if neg = true then !decide (c ∈ z.cps.toList) else decide (c ∈ z.cps.toList))) H
theorem op_sign : OpR X (compareOp .In) (rSign false) := op_in_sign
theorem op_nsign : OpR X (compareOp .NotIn) (rSign true) := op_notIn_sign
def rIsA : R2 := fun x y H Q => (∃ a b, x = .bl a ∧ y = .bl b ∧ Q (.bl (decide (a = b))) H) ∨ (y = .non ∧ Q (.bl (decide (x = .non))) H)
def rIsntA : R2 := fun x y H Q => (∃ a b, x = .bl a ∧ y = .bl b ∧ Q (.bl (!decide (a = b))) H) ∨ (y = .non ∧ Q (.bl (!decide (x = .non))) H)
theorem op_isA : OpR X (compareOp .Is) rIsA := op_is_bl.or op_isN
theorem op_isntA : OpR X (compareOp .IsNot) rIsntA := op_isnot_bl.or op_notN
def rDIn (neg : Bool) : R2 := fun x y H Q => ∃ a o, y = .ref a ∧ DGet H a x o ∧ Q (.bl (if neg = true then !o.isSome else o.isSome)) H
theorem op_dIn (hu : X.A.units + 1 < cLine) : OpR X (compareOp .In) (rDIn false) := by
  intro pins s σ H x y v u Q I rx ry h
  obtain ⟨a, o, rfl, g, q⟩ := h
  cases ry
  exact d_in hu I g rx fun s' I' => ⟨.bl _, H, I', rfl, by simpa using q⟩
theorem op_dNin (hu : X.A.units + 1 < cLine) : OpR X (compareOp .NotIn) (rDIn true) := by
  intro pins s σ H x y v u Q I rx ry h
  obtain ⟨a, o, rfl, g, q⟩ := h
  cases ry
  exact d_notIn hu I g rx fun s' I' => ⟨.bl _, H, I', rfl, by simpa using q⟩
def opC : COp → CmpOp | .eq => .Eq | .ne => .NotEq | .lt => .Lt | .le => .LtE | .gt => .Gt | .ge => .GtE | .isin => .In | .nin => .NotIn | .is => .Is | .isnt => .IsNot
def rNIn (w : World) (K : PySem.W.Frag) (neg : Bool) : R2 := fun x y H Q => ∃ a o, y = .ref a ∧ DnGet w K H a x o ∧ Q (.bl (if neg = true then !o.isSome else o.isSome)) H
theorem op_nIn' (hu : X.A.units + 65 < cLine) : OpR X (compareOp .In) (rNIn X.w X.K false) := op_nIn hu
theorem op_nNin' (hu : X.A.units + 65 < cLine) : OpR X (compareOp .NotIn) (rNIn X.w X.K true) := op_nNin hu
def rC (w : World) (K : PySem.W.Frag) : COp → R2
  | .eq => rEqD K
  | .ne => rNeD K
  | .lt => rI0 fun i j => .bl (decide (i < j))
  | .le => rI0 fun i j => .bl (decide (i ≤ j))
  | .gt => rI0 fun i j => .bl (decide (j < i))
  | .ge => rI0 fun i j => .bl (decide (j ≤ i))
  | .isin => fun x y H Q => rSign false x y H Q ∨ rInD K x y H Q ∨ rInT K x y H Q ∨ rDIn false x y H Q ∨ rNIn w K false x y H Q
  | .nin => fun x y H Q => rSign true x y H Q ∨ rNotInD K x y H Q ∨ rNinT K x y H Q ∨ rDIn true x y H Q ∨ rNIn w K true x y H Q
  | .is => rIsA
  | .isnt => rIsntA
theorem or_cmp (hu : X.A.units + 65 < cLine) : ∀ o : COp, OpR X (compareOp (opC o)) (rC X.w X.K o)
  | .eq => op_eqD (by omega)
  | .ne => op_neD (by omega)
  | .lt => op_lt
  | .le => op_le
  | .gt => op_gt
  | .ge => op_ge
  | .isin => op_sign.or ((op_inD hu).or ((op_inT hu).or ((op_dIn (by omega)).or (op_nIn' hu))))
  | .nin => op_nsign.or ((op_notInD hu).or ((op_ninT hu).or ((op_dNin (by omega)).or (op_nNin' hu))))
  | .is => op_isA
  | .isnt => op_isntA
section
variable {α : Nat → Addr} {S : Sto} {v w : PV} {x y : V}
theorem ord_rd {p : Int → Int → Bool} (R : Rel E α S H) (rv : Rp E α S.length H v x) (rw' : Rp E α S.length H w y) {k : Bool} (e : ordV p v w = some k) (q : Q (.bl k) H) : (rI0 fun i j => .bl (p i j)) x y H Q := by
  unfold ordV at e
  split at e
  · cases e
    simp only [Rp] at rv rw'
    exact ⟨_, _, rv, rw', q⟩
  · cases e
theorem any_rd (R : Rel E α S H) {ws : List PV} {ys : List V} (rv : Rp E α S.length H v x) (rw' : RpL E α S.length H ws ys) {k : Bool} (e : anyEq S v ws = some k) :
    ∃ d ds, Dp E.K H x d ∧ DpAll E.K H ys ds ∧ SeqAt.shaped d = true ∧ SeqAt.shaped (.list ds) = true ∧ k = ds.any fun z => PyData.eqv z d := by
  unfold anyEq at e
  split at e
  · rename_i d ds e1 e2
    split at e
    · rename_i hs
      cases e
      exact ⟨d, ds, rd_toD R rv e1, rd_toDws (rd_toDL R 6) ws ys ds rw' e2, hs.1, hs.2, rfl⟩
    · cases e
  · cases e
theorem in_rd (R : Rel E α S H) (rv : Rp E α S.length H v x) (rw' : Rp E α S.length H w y) {k : Bool} (e : inV S v w = some k) :
    (∃ (c : Nat) (z : Str), x = .str ⟨#[c]⟩ ∧ y = .str z ∧ k = decide (c ∈ z.cps.toList)) ∨ (∃ d ds, Dp E.K H x d ∧ (Dp E.K H y (.list ds) ∨ Dp E.K H y (.tuple ds)) ∧ SeqAt.shaped d = true ∧ SeqAt.shaped (.list ds) = true ∧ k = ds.any fun z => PyData.eqv z d) ∨ (∃ l, w = .loc l ∧ (∀ ys, S[l]? ≠ some (.lst ys)) ∧ (dfind S l v).map (·.isSome) = some k) := by
  unfold inV at e
  split at e
  · split at e
    · rename_i t
      split at e
      · rename_i c ec
        cases e
        simp only [Rp] at rv rw'
        refine .inl ⟨c, _, ?_, rw', rfl⟩
        obtain ⟨cps⟩ := t
        have : cps = #[c] := by
          have h2 : cps.toList = (#[c] : Array Nat).toList := ec
          exact Array.toList_inj.mp h2
        rw [rv, this]
      · cases e
    · cases e
  · obtain ⟨a, xs, rfl, ha, r1⟩ := rd_tup rw'
    obtain ⟨d, ds, h1, h2, h3, h4, h5⟩ := any_rd R rv r1 e
    exact .inr (.inl ⟨d, ds, h1, .inr (.tup ha h2), h3, h4, h5⟩)
  · simp only [Rp] at rw'
    obtain ⟨a, xs, rfl, ha, _, r1⟩ := rw'
    obtain ⟨d, ds, h1, h2, h3, h4, h5⟩ := any_rd R rv r1 e
    exact .inr (.inl ⟨d, ds, h1, .inl (.lst (.of ha) h2), h3, h4, h5⟩)
  · simp only [Rp] at rw'
    obtain ⟨a, xs, rfl, hz, r1⟩ := rw'
    have ha := hz.sq
    obtain ⟨d, ds, h1, h2, h3, h4, h5⟩ := any_rd R rv r1 e
    exact .inr (.inl ⟨d, ds, h1, .inl (.lst ha h2), h3, h4, h5⟩)
  · rename_i l
    split at e
    · rename_i ys e1
      obtain ⟨xs, ha, r1⟩ := R.obj l _ e1
      simp only [Rp] at rw'
      obtain ⟨d, ds, h1, h2, h3, h4, h5⟩ := any_rd R rv r1 e
      exact .inr (.inl ⟨d, ds, h1, .inl (by rw [rw'.2]; exact .lst (.of ha) h2), h3, h4, h5⟩)
    · rename_i hn
      exact .inr (.inr ⟨l, rfl, hn, e⟩)
  · cases e
theorem rp_non {n : Nat} (rv : Rp E α n H v x) : decide (v = .non) = decide (x = V.non) := by
  cases v <;> simp only [Rp] at rv
  case non => rw [rv]; rfl
  case bl => rw [rv]; rfl
  case int => rw [rv]; rfl
  case str => rw [rv]; rfl
  case tup => obtain ⟨a, xs, e, _⟩ := rv; rw [e]; rfl
  case lst => obtain ⟨a, xs, e, _⟩ := rv; rw [e]; rfl
  case ro => obtain ⟨a, xs, e, _⟩ := rv; rw [e]; rfl
  case obj => obtain ⟨a, dx, fs, e, _⟩ := rv; rw [e]; rfl
  case loc => rw [rv.2]; rfl
theorem is_rd (rv : Rp E α S.length H v x) (rw' : Rp E α S.length H w y) {k : Bool} (e : isV v w = some k) : (∃ a b, x = .bl a ∧ y = .bl b ∧ k = decide (a = b)) ∨ (y = .non ∧ k = decide (x = V.non)) := by
  unfold isV at e
  split at e
  · cases e
    simp only [Rp] at rv rw'
    exact .inl ⟨_, _, rv, rw', rfl⟩
  · cases e
    simp only [Rp] at rw'
    exact .inr ⟨rw', rp_non rv⟩
  · cases e
theorem rd_dic (R : Rel E α S H) {l : Nat} {kvs : List (PV × PV)} (e : S[l]? = some (.dic kvs)) : ∃ ks, H (α l) = some (.dK ks) ∧ DF E α S.length H kvs ks := R.obj l _ e
theorem keyF_kV {n : Nat} {k : Key} (rv : Rp E α n H v x) (e : keyF v = some k) : x = kV k := by
  unfold keyF at e
  split at e
  · cases e; simp only [Rp] at rv; exact rv
  · cases e; simp only [Rp] at rv; exact rv
  · cases e
theorem DF.find {n : Nat} : ∀ {kvs : List (PV × PV)} {ks : List (Key × V)} (k : Key), DF E α n H kvs ks → match findF kvs k with
    | some v => ∃ y, valV ks k = some y ∧ Rp E α n H v y
    | none => valV ks k = none
  | [], _, k, h => by
    have h : _ = [] := h
    subst h; rfl
  | p :: r, _, k, h => by
    obtain ⟨k', y, ks', e, h1, h2, h3⟩ := h
    subst e
    by_cases hk : k' = k
    · subst hk
      have e1 : findF (p :: r) k' = some p.2 := by simp [findF, h1]
      rw [e1]
      exact ⟨y, valV_pos rfl, h2⟩
    · have e1 : findF (p :: r) k = findF r k := by simp [findF, h1, hk]
      rw [e1, valV_neg (show ¬ (k', y).1 = k from hk)]
      exact DF.find k h3
theorem dfind_rd (R : Rel E α S H) {l : Nat} (rv : Rp E α S.length H v x) {o : Option PV} (e : dfind S l v = some o) : match o with
    | some z => ∃ y, (DGet H (α l) x (some y) ∨ DnGet E.wo E.K H (α l) x (some y)) ∧ Rp E α S.length H z y
    | none => DGet H (α l) x none ∨ DnGet E.wo E.K H (α l) x none := by
  unfold dfind at e
  split at e
  · rename_i kvs e1
    obtain ⟨ks, h1, h2⟩ := rd_dic R e1
    obtain ⟨k, e2, e3⟩ := Option.map_eq_some_iff.mp e
    have hx := keyF_kV rv e2
    subst hx
    have q := DF.find k h2
    rw [e3] at q
    cases o with
    | some z =>
      obtain ⟨y, q1, q2⟩ := q
      exact ⟨y, .inl (by rw [← q1]; exact DGet.k h1), q2⟩
    | none =>
      have q : valV ks k = none := q
      refine .inl ?_
      rw [← q]; exact DGet.k h1
  · rename_i kvs e1
    obtain ⟨ks, h1, h2⟩ := R.obj l _ e1
    obtain ⟨k, e2, e3⟩ := Option.map_eq_some_iff.mp e
    obtain ⟨q1, q2⟩ := keyT_is e2
    have nk := Rp.nk _ _ _ rv q1
    obtain ⟨b, rfl⟩ : ∃ b, x = .ref b := by
      unfold keyT at e2
      split at e2
      · obtain ⟨a, xs, e3, _⟩ := rd_tup rv
        exact ⟨a, e3⟩
      · cases e2
    have q := DN.find k h2
    rw [e3] at q
    cases o with
    | some z =>
      obtain ⟨y, g1, g2⟩ := q
      exact ⟨y, .inr ⟨ks, k, b, h1, h2.keys, rfl, nk, q2, g1.symm⟩, g2⟩
    | none =>
      have q : nlook ks k = none := q
      exact .inr ⟨ks, k, b, h1, h2.keys, rfl, nk, q2, q.symm⟩
  · cases e
theorem cmp_rd (R : Rel E α S H) (rv : Rp E α S.length H v x) (rw' : Rp E α S.length H w y) {o : COp} {k : Bool} (e : cmpV o S v w = some k) (q : Q (.bl k) H) : rC E.wo E.K o x y H Q := by
  cases o with
  | eq =>
    obtain ⟨d, e', h1, h2, h3, h4, h5⟩ := eq_rd R rv rw' e
    exact ⟨d, e', h1, h2, h3, h4, h5 ▸ q⟩
  | ne =>
    obtain ⟨b, e1, e2⟩ := Option.map_eq_some_iff.mp (show (eqS S v w).map (!·) = some k from e)
    obtain ⟨d, e', h1, h2, h3, h4, h5⟩ := eq_rd R rv rw' e1
    refine ⟨d, e', h1, h2, h3, h4, ?_⟩
    rw [← h5, e2]; exact q
  | lt => exact ord_rd R rv rw' e q
  | le => exact ord_rd R rv rw' e q
  | gt => exact ord_rd R rv rw' e q
  | ge => exact ord_rd R rv rw' e q
  | isin =>
    rcases in_rd R rv rw' e with ⟨c, z, h1, h2, h3⟩ | ⟨d, ds, h1, h2 | h2, h3, h4, h5⟩ | ⟨l, h1, h2, h3⟩
    · exact .inl ⟨c, z, h1, h2, by rw [if_neg (by decide)]; exact h3 ▸ q⟩
    · exact .inr (.inl ⟨d, ds, h1, h2, h3, h4, h5 ▸ q⟩)
    · exact .inr (.inr (.inl ⟨d, ds, h1, h2, h3, h4, h5 ▸ q⟩))
    · subst h1
      obtain ⟨o, e1, e2⟩ := Option.map_eq_some_iff.mp h3
      have g := dfind_rd R rv e1
      simp only [Rp] at rw'
      refine .inr (.inr (.inr ?_))
      cases o with
      | some z =>
        obtain ⟨y', g1 | g1, _⟩ := g
        · exact .inl ⟨_, _, rw'.2, g1, by rw [if_neg (by decide)]; rw [← e2] at q; exact q⟩
        · exact .inr ⟨_, _, rw'.2, g1, by rw [if_neg (by decide)]; rw [← e2] at q; exact q⟩
      | none =>
        rcases g with g | g
        · exact .inl ⟨_, _, rw'.2, g, by rw [if_neg (by decide)]; rw [← e2] at q; exact q⟩
        · exact .inr ⟨_, _, rw'.2, g, by rw [if_neg (by decide)]; rw [← e2] at q; exact q⟩
  | nin =>
    obtain ⟨b, e1, e2⟩ := Option.map_eq_some_iff.mp (show (inV S v w).map (!·) = some k from e)
    rcases in_rd R rv rw' e1 with ⟨c, z, h1, h2, h3⟩ | ⟨d, ds, h1, h2 | h2, h3, h4, h5⟩ | ⟨l, h1, h2, h3⟩
    · exact .inl ⟨c, z, h1, h2, by rw [if_pos rfl, ← h3, e2]; exact q⟩
    · exact .inr (.inl ⟨d, ds, h1, h2, h3, h4, by rw [← h5, e2]; exact q⟩)
    · exact .inr (.inr (.inl ⟨d, ds, h1, h2, h3, h4, by rw [← h5, e2]; exact q⟩))
    · subst h1
      obtain ⟨o, e3, e4⟩ := Option.map_eq_some_iff.mp h3
      have g := dfind_rd R rv e3
      simp only [Rp] at rw'
      refine .inr (.inr (.inr ?_))
      subst e4
      cases o with
      | some z =>
        obtain ⟨y', g1 | g1, _⟩ := g
        · exact .inl ⟨_, _, rw'.2, g1, by rw [if_pos rfl]; rw [← e2] at q; exact q⟩
        · exact .inr ⟨_, _, rw'.2, g1, by rw [if_pos rfl]; rw [← e2] at q; exact q⟩
      | none =>
        rcases g with g | g
        · exact .inl ⟨_, _, rw'.2, g, by rw [if_pos rfl]; rw [← e2] at q; exact q⟩
        · exact .inr ⟨_, _, rw'.2, g, by rw [if_pos rfl]; rw [← e2] at q; exact q⟩
  | is =>
    rcases is_rd rv rw' e with ⟨a, b, h1, h2, h3⟩ | ⟨h1, h2⟩
    · exact .inl ⟨a, b, h1, h2, h3 ▸ q⟩
    · exact .inr ⟨h1, h2 ▸ q⟩
  | isnt =>
    obtain ⟨b, e1, e2⟩ := Option.map_eq_some_iff.mp (show (isV v w).map (!·) = some k from e)
    rcases is_rd rv rw' e1 with ⟨a, b', h1, h2, h3⟩ | ⟨h1, h2⟩
    · exact .inl ⟨a, b', h1, h2, by rw [← h3, e2]; exact q⟩
    · exact .inr ⟨h1, by rw [← h2, e2]; exact q⟩
end
end
end PM
end
section
namespace PM
open PySem L2 PySem.Spec PyProof.Rows
section
variable {E : Cfg} {W : WX} {X : Cx} {σ : L2.St} {H : Hp} {Q : VK} {α : Nat → Addr} {S : Sto} {v w : PV} {x y : V}
theorem isE {vs : List PV} {xs : List V} {n : Nat} (r : RpL E α n H vs xs) : vs.isEmpty = xs.isEmpty := by
  cases vs with
  | nil => simp only [RpL] at r; rw [r]; rfl
  | cons a b => simp only [RpL] at r; obtain ⟨y, ys, e, _⟩ := r; rw [e]; rfl
theorem truth_rd (R : Rel E α S H) (rv : Rp E α S.length H v x) {k : Bool} (e : truth S v = some k) : TruV E.K x H k := by
  unfold truth at e
  split at e
  · cases e; simp only [Rp] at rv; subst rv; rfl
  · cases e; simp only [Rp] at rv; subst rv; rfl
  · cases e; simp only [Rp] at rv; subst rv; rfl
  · simp only [Rp] at rv; subst rv
    split at e
    · rename_i hl
      cases e
      refine ⟨by rw [← lim_eq]; exact hl, ?_⟩
      rename_i z
      cases hz : z.length with
      | zero => rfl
      | succ n =>
        show (n + 1 != 0) = (((n + 1 : Nat) : Int) != 0)
        rw [Bool.eq_iff_iff]
        simp only [bne_iff_ne, ne_eq]
        omega
    · cases e
  · cases e
    obtain ⟨a, xs, rfl, ha, r⟩ := rd_tup rv
    exact .inr (.inl ⟨xs, ha, by rw [isE r]⟩)
  · cases e
    simp only [Rp] at rv
    obtain ⟨a, xs, rfl, ha, _, r⟩ := rv
    exact .inl ⟨xs, .of ha, by rw [isE r]⟩
  · cases e
    simp only [Rp] at rv
    obtain ⟨a, xs, rfl, hz, r⟩ := rv
    have ha := hz.sq
    exact .inl ⟨xs, ha, by rw [isE r]⟩
  · split at e
    · rename_i e1
      cases e
      obtain ⟨xs, ha, r⟩ := R.obj _ _ e1
      simp only [Rp] at rv
      rw [rv.2]
      exact .inl ⟨xs, .of ha, by rw [isE r]⟩
    · cases e
  · cases e

def bV (m : Env → Sto → Res PV) : Env → Sto → Res Bool := fun ρ S => (m ρ S).bind fun v S1 => .opt (truth S1 v) fun k => .ok k S1
structure Snd (E : Cfg) (W : WX) (X : Cx) (e : Expr) (m : Env → Sto → Res PV) : Prop where
  pe : PE X e (tE E W m)
  pt : PT X e (tB E W (bV m))
def plainT : Expr → Bool
  | .UnaryOp .Not _ _ => false
  | .BoolOp _ _ _ => false
  | .IfExp _ _ _ _ => false
  | .Compare _ _ _ _ => false
  | _ => true
theorem plainT_is {e : Expr} {env : PySem.Env} (h : plainT e = true) : ∀ whole, isTrue e env whole = (do let v ← whole; standAt e.pos; holding [v] (truthy v)) := by
  intro whole
  cases e with
  | UnaryOp op a pos => cases op <;> first | rfl | simp [plainT] at h
  | BoolOp _ _ _ => simp [plainT] at h
  | IfExp _ _ _ _ => simp [plainT] at h
  | Compare _ _ _ _ => simp [plainT] at h
  | _ => rfl
theorem tB_of {m : Env → Sto → Res PV} {Q : Bool → Hp → Prop} (h : tB E W (bV m) σ H Q) : tE E W m σ H fun x H' => ∃ k, TruV E.K x H' k ∧ Q k H' := by
  refine tG.first (R := RB) (f := fun v _ S1 => .opt (truth S1 v) fun k => .ok k S1) h fun α ρ S v x H1 R en rv kt => ?_
  obtain ⟨k, e, kt⟩ := kt.opt
  exact ⟨k, truth_rd R rv e, kt.here R rfl⟩
theorem Snd.of {e : Expr} {m : Env → Sto → Res PV} (hK : X.K = E.K) (h : PE X e (tE E W m)) (p : plainT e = true) : Snd E W X e m :=
  ⟨h, PT.imp (pt_truth h (plainT_is p)) fun σ H Q q => by rw [hK]; exact tB_of q⟩

variable {ma mb mc : Env → Sto → Res PV} {a b c : Expr} {pos : Pos} {es : List Expr}
def andV (ma mb : Env → Sto → Res PV) : Env → Sto → Res PV := fun ρ S => (ma ρ S).bind fun x S1 => match x with
    | .bl true => mb ρ S1
    | .bl false => .ok (.bl false) S1
    | _ => .bad
def orV (ma mb : Env → Sto → Res PV) : Env → Sto → Res PV := fun ρ S => (ma ρ S).bind fun x S1 => match x with
    | .bl false => mb ρ S1
    | .bl true => .ok (.bl true) S1
    | _ => .bad
structure SndB (E : Cfg) (W : WX) (X : Cx) (op : BoolOp) (es : List Expr) (pos : Pos) (m : Env → Sto → Res PV) : Prop where
  pe : PE X (.BoolOp op es pos) (tE E W m)
  pw : PW X (.BoolOp op es pos) (tB E W (bV m))
theorem SndB.one {op : BoolOp} (h : Snd E W X a ma) : SndB E W X op [a] pos ma := ⟨pe_one h.pe, by cases op; exact pw_and1 h.pt; exact pw_or1 h.pt⟩
theorem SndB.snd {op : BoolOp} (h : SndB E W X op es pos ma) : Snd E W X (.BoolOp op es pos) ma := ⟨h.pe, h.pw.pt⟩
theorem PW.imp {e : Expr} {t t' : TT} (h : PW X e t) (k : ∀ σ H Q, t' σ H Q → t σ H Q) : PW X e t' := ⟨fun wh pins s σ H Q I q => h.run wh pins s σ H Q I (k σ H Q q)⟩
theorem Res.bind_assoc {α β γ : Type} (m : Res α) (f : α → Sto → Res β) (g : β → Sto → Res γ) : (m.bind f).bind g = m.bind fun a S => (f a S).bind g := by cases m <;> rfl
theorem bV_bind (f : PV → Env → Sto → Res PV) : bV (fun ρ S => (ma ρ S).bind fun x S1 => f x ρ S1) = fun ρ S => (ma ρ S).bind fun x S1 => bV (f x) ρ S1 := by
  funext ρ S
  unfold bV
  rw [Res.bind_assoc]
theorem SndB.and (ha : Snd E W X a ma) (hb : SndB E W X .And (b :: es) pos mb) : SndB E W X .And (a :: b :: es) pos (andV ma mb) where
  pe := PE.imp (pe_and ha.pe hb.pe) fun σ H Q h => by
    refine tG.first (R := Rp E) (f := fun x ρ S1 => match x with | .bl true => mb ρ S1 | .bl false => .ok (.bl false) S1 | _ => .bad) (show tE E W (fun ρ S => (ma ρ S).bind fun x S1 => match x with | .bl true => mb ρ S1 | .bl false => .ok (.bl false) S1 | _ => .bad) σ H Q from h) fun α ρ S v x H1 R en rv kt => ?_
    split at kt
    · simp only [Rp] at rv
      exact ⟨true, rv, by rw [if_pos rfl]; exact ⟨α, ρ, S, R, en, kt⟩⟩
    · simp only [Rp] at rv
      exact ⟨false, rv, by rw [if_neg (by decide)]; exact is_bl kt R⟩
    · exact kt.elim
  pw := PW.imp (pw_and ha.pt hb.pw) fun σ H Q h => by
    have e1 : bV (andV ma mb) = fun ρ S => (ma ρ S).bind fun x S1 => bV (fun ρ S1 => match x with | .bl true => mb ρ S1 | .bl false => .ok (.bl false) S1 | _ => .bad) ρ S1 := bV_bind (fun x ρ S1 => match x with | .bl true => mb ρ S1 | .bl false => .ok (.bl false) S1 | _ => .bad)
    rw [e1] at h
    have h2 : tB E W (fun ρ S => (bV ma ρ S).bind fun k S1 => if k = true then bV mb ρ S1 else .ok false S1) σ H Q := by
      obtain ⟨α, ρ, S, R, en, kt⟩ := h
      refine ⟨α, ρ, S, R, en, ?_⟩
      unfold bV
      dsimp only
      rw [Res.bind_assoc]
      dsimp only at kt
      cases hm : ma ρ S with
      | ok v S1 =>
        rw [hm] at kt
        simp only [Res.bind_ok] at kt ⊢
        cases v <;> first | exact kt.elim | skip
        rename_i k
        cases k <;> exact kt
      | exc c S1 => rw [hm] at kt; exact kt
      | bad => rw [hm] at kt; exact kt
    refine tG.first (R := RB) (f := fun k ρ S1 => if k = true then bV mb ρ S1 else .ok false S1) h2 fun α ρ S v k H1 R en rv kt => ?_
    have rv : k = v := rv
    subst rv
    cases k with
    | true => rw [if_pos rfl]; rw [if_pos rfl] at kt; exact ⟨α, ρ, S, R, en, kt⟩
    | false => rw [if_neg (by decide)]; rw [if_neg (by decide)] at kt; exact kt.here R rfl
theorem SndB.or (ha : Snd E W X a ma) (hb : SndB E W X .Or (b :: es) pos mb) : SndB E W X .Or (a :: b :: es) pos (orV ma mb) where
  pe := PE.imp (pe_or ha.pe hb.pe) fun σ H Q h => by
    refine tG.first (R := Rp E) (f := fun x ρ S1 => match x with | .bl false => mb ρ S1 | .bl true => .ok (.bl true) S1 | _ => .bad) (show tE E W (fun ρ S => (ma ρ S).bind fun x S1 => match x with | .bl false => mb ρ S1 | .bl true => .ok (.bl true) S1 | _ => .bad) σ H Q from h) fun α ρ S v x H1 R en rv kt => ?_
    split at kt
    · simp only [Rp] at rv
      exact ⟨false, rv, by rw [if_neg (by decide)]; exact ⟨α, ρ, S, R, en, kt⟩⟩
    · simp only [Rp] at rv
      exact ⟨true, rv, by rw [if_pos rfl]; exact is_bl kt R⟩
    · exact kt.elim
  pw := PW.imp (pw_or ha.pt hb.pw) fun σ H Q h => by
    have e1 : bV (orV ma mb) = fun ρ S => (ma ρ S).bind fun x S1 => bV (fun ρ S1 => match x with | .bl false => mb ρ S1 | .bl true => .ok (.bl true) S1 | _ => .bad) ρ S1 := bV_bind (fun x ρ S1 => match x with | .bl false => mb ρ S1 | .bl true => .ok (.bl true) S1 | _ => .bad)
    rw [e1] at h
    have h2 : tB E W (fun ρ S => (bV ma ρ S).bind fun k S1 => if k = true then .ok true S1 else bV mb ρ S1) σ H Q := by
      obtain ⟨α, ρ, S, R, en, kt⟩ := h
      refine ⟨α, ρ, S, R, en, ?_⟩
      unfold bV
      dsimp only
      rw [Res.bind_assoc]
      dsimp only at kt
      cases hm : ma ρ S with
      | ok v S1 =>
        rw [hm] at kt
        simp only [Res.bind_ok] at kt ⊢
        cases v <;> first | exact kt.elim | skip
        rename_i k
        cases k <;> exact kt
      | exc c S1 => rw [hm] at kt; exact kt
      | bad => rw [hm] at kt; exact kt
    refine tG.first (R := RB) (f := fun k ρ S1 => if k = true then .ok true S1 else bV mb ρ S1) h2 fun α ρ S v k H1 R en rv kt => ?_
    have rv : k = v := rv
    subst rv
    cases k with
    | true => rw [if_pos rfl]; rw [if_pos rfl] at kt; exact kt.here R rfl
    | false => rw [if_neg (by decide)]; rw [if_neg (by decide)] at kt; exact ⟨α, ρ, S, R, en, kt⟩
def notV (ma : Env → Sto → Res PV) : Env → Sto → Res PV := fun ρ S => (ma ρ S).bind fun x S1 => .opt (truth S1 x) fun k => .ok (.bl (!k)) S1
theorem s_not (hK : X.K = E.K) (ha : Snd E W X a ma) : Snd E W X (.UnaryOp .Not a pos) (notV ma) where
  pe := PE.imp (pe_notT ha.pe) fun σ H Q h => one (f := fun x S1 => .opt (truth S1 x) fun k => .ok (.bl (!k)) S1) h fun α S v x H R rv kt => by
    obtain ⟨k, e, kt⟩ := kt.opt
    exact ⟨k, by rw [hK]; exact truth_rd R rv e, is_bl kt R⟩
  pt := PT.imp (pt_not ha.pt) fun σ H Q h => by
    have h2 : tB E W (fun ρ S => (bV ma ρ S).bind fun k S1 => .ok (!k) S1) σ H Q := by
      obtain ⟨α, ρ, S, R, en, kt⟩ := h
      refine ⟨α, ρ, S, R, en, ?_⟩
      unfold bV notV at kt
      unfold bV
      dsimp only at kt ⊢
      rw [Res.bind_assoc] at kt ⊢
      cases hm : ma ρ S with
      | ok v S1 =>
        rw [hm] at kt
        simp only [Res.bind_ok] at kt ⊢
        cases ht : truth S1 v with
        | some k => rw [ht] at kt; exact kt
        | none => rw [ht] at kt; exact kt.elim
      | exc c S1 => rw [hm] at kt; exact kt
      | bad => rw [hm] at kt; exact kt
    refine tG.first (R := RB) (f := fun k ρ S1 => .ok (!k) S1) h2 fun α ρ S v k H1 R en rv kt => ?_
    have rv : k = v := rv
    subst rv
    exact kt.here R rfl
theorem s_neg (ha : PE X a (tE E W ma)) : PE X (.UnaryOp .USub a pos) (tE E W fun ρ S => (ma ρ S).bind fun x S1 => match x with | .int i => .ok (.int (-i)) S1 | _ => .bad) :=
  PE.imp (pe_un un_neg ha) fun σ H Q h => one (f := fun x S1 => match x with | .int i => .ok (.int (-i)) S1 | _ => .bad) h fun α S v x H R rv kt => by
    split at kt
    · simp only [Rp] at rv
      exact ⟨_, rv, is_int kt R⟩
    · exact kt.elim
def cmpM (o : COp) (ma mb : Env → Sto → Res PV) : Env → Sto → Res PV := fun ρ S => (ma ρ S).bind fun x S1 => (mb ρ S1).bind fun y S2 => .opt (cmpV o S2 x y) fun k => .ok (.bl k) S2
theorem cmpM_bl (o : COp) (ma mb : Env → Sto → Res PV) (ρ : Env) (S : Sto) : (∃ k S1, cmpM o ma mb ρ S = .ok (.bl k) S1) ∨ (∃ c S1, cmpM o ma mb ρ S = .exc c S1) ∨ cmpM o ma mb ρ S = .bad := by
  unfold cmpM
  cases ma ρ S with
  | bad => exact .inr (.inr rfl)
  | exc c S1 => exact .inr (.inl ⟨c, S1, rfl⟩)
  | ok v S1 =>
    rw [Res.bind_ok]
    cases mb ρ S1 with
    | bad => exact .inr (.inr rfl)
    | exc c S1 => exact .inr (.inl ⟨c, S1, rfl⟩)
    | ok w S2 =>
      rw [Res.bind_ok]
      cases cmpV o S2 v w with
      | none => exact .inr (.inr rfl)
      | some k => exact .inl ⟨k, S2, rfl⟩
theorem s_cmp {o : COp} (hK : X.K = E.K) (hw : X.w = E.wo) (hu : X.A.units + 65 < cLine) (ha : PE X a (tE E W ma)) (hb : PE X b (tE E W mb)) (hm : behindInMarks (opC o) b = false) : Snd E W X (.Compare a [opC o] [b] pos) (cmpM o ma mb) where
  pe := PE.imp (pe_cmpR (or_cmp hu o) ha hb hm) fun σ H Q h => two (f := fun x y S => .opt (cmpV o S x y) fun k => .ok (.bl k) S) h fun α S v w x y H R rv rw' kt => by
    obtain ⟨k, e, kt⟩ := kt.opt
    rw [hK, hw]; exact cmp_rd R rv rw' e (is_bl kt R)
  pt := PT.imp (pt_cmpR (or_cmp hu o) ha hb hm) fun σ H Q h => by
    have h2 : tE E W (fun ρ S => (ma ρ S).bind fun x S1 => (mb ρ S1).bind fun y S2 => .opt (cmpV o S2 x y) fun k => .ok (.bl k) S2) σ H (fun x H' => ∃ k, x = .bl k ∧ Q k H') := by
      obtain ⟨α, ρ, S, R, en, kt⟩ := h
      refine ⟨α, ρ, S, R, en, ?_⟩
      show Kt E W (Rp E) α S σ H (cmpM o ma mb ρ S) _
      have kt : Kt E W RB α S σ H ((cmpM o ma mb ρ S).bind fun v S1 => .opt (truth S1 v) fun k => .ok k S1) Q := kt
      rcases cmpM_bl o ma mb ρ S with ⟨k, S1, e⟩ | ⟨c, S1, e⟩ | e
      · rw [e] at kt ⊢
        exact fun α' x H' e1 R1 rv => ⟨k, by simpa only [Rp] using rv, kt α' k H' e1 R1 rfl⟩
      · rw [e] at kt ⊢; exact kt
      · rw [e] at kt; exact kt.elim
    exact two (f := fun x y S => .opt (cmpV o S x y) fun k => .ok (.bl k) S) h2 fun α S v w x y H R rv rw' kt => by
      obtain ⟨k, e, kt⟩ := kt.opt
      rw [hK, hw]; exact cmp_rd R rv rw' e (is_bl kt R)
end
end PM
end
section
namespace PM
open PySem L2 PySem.Spec PyProof.Rows
abbrev tupObj (its : List Value) : Obj := { cls := .type "tuple", data := .seq its.toArray }
section
variable {X : Cx} {pins : List (Addr × Obj)} {σ : L2.St} {H : Hp} {s : Shared} {es : List Expr} {pos : Pos} {t : TA}
theorem laidF (I : Inv X pins σ H s) {its : List Value} {xs : List V} (r : Vals xs its) (z : xs.length ≤ sizeLine) :
    Inv X pins σ (upd H s.heap.objs.size (.frz (tupObj its) (.tup xs))) { s with heap := s.heap.push (tupObj its) } := by
  have e : (s.heap.push (tupObj its)).get? s.heap.objs.size = some (tupObj its) := Heap.get?_push_size _ rfl
  exact I.laid (t' := s.toks) (fun b u q => Heap.get?_push_of_some _ q) (Nat.le_refl _) ⟨e, z, its, r, _, e, rfl, _, rfl⟩
def tTupF (t : TA) : TE := fun σ H Q => t σ H fun xs H1 => xs.length ≤ sizeLine ∧ ∀ p o, H1 p = none → o.dict = none → Q (.ref p) (upd H1 p (.frz o (.tup xs)))
theorem pe_tupF {k : Nat} (h : PA X es t) : PE X (.Tuple es k pos) (tTupF t) := ⟨fun pins s σ H Q I hq =>
  wpAny_Tuple_spliced (thn (h.run pos pins s σ H _ I hq) fun us s1 w => by
    obtain ⟨xs, H1, I1, r, z, q⟩ := w
    refine ⟨by rw [← r.length]; exact z, .ref s1.heap.objs.size, _, laidF I1 r z, rfl, q _ _ (I1.hok.fresh (Nat.le_refl _)) rfl⟩)⟩
def rSlF (K : PySem.W.Frag) : V → Option Int → Option Int → Hp → VK → Prop := fun x lo hi H Q => ∃ a xs, x = .ref a ∧ SqT K H a xs ∧
  ((HT.sIx xs.length 0 lo = 0 ∧ HT.sIx xs.length xs.length hi = xs.length) → Q (.ref a) H) ∧
  (¬(HT.sIx xs.length 0 lo = 0 ∧ HT.sIx xs.length xs.length hi = xs.length) → ∀ p o, H p = none → o.dict = none → Q (.ref p) (upd H p (.frz o (.tup (cutV xs lo hi)))))
theorem sl_tupF : SlR X (rSlF X.K) := by
  intro pins s σ H x v vl vu lo hi sl Q I rx hs pl pu ⟨a, xs, ex, hx, q1, q2⟩
  by_cases hw : HT.sIx xs.length 0 lo = 0 ∧ HT.sIx xs.length xs.length hi = xs.length
  · exact sl_tupA pins s σ H x v vl vu lo hi sl Q I rx hs pl pu ⟨a, xs, ex, hx, fun _ => q1 hw, fun z => absurd hw z⟩
  · subst ex
    cases rx
    obtain ⟨its, r, ht, hz⟩ := I.tuple hx
    have hlen : its.toArray.size = xs.length := (List.size_toArray ..).trans r.length.symm
    refine ⟨"tuple", _, PyProof.Rows.slot_tuple_getitem.lookup, ht.typeIs, HT.getItem_tuple_cut ht hs pl pu (hlen.symm ▸ hw) ?_ (hlen.symm ▸ hz)⟩
    rw [hlen]
    exact ⟨.ref s.heap.objs.size, _, laidF I ((r.drop _).take _) (Nat.le_trans (cutV_length xs lo hi) hz), rfl, q2 hw _ _ (I.hok.fresh (Nat.le_refl _)) rfl⟩
def rTupF (K : PySem.W.Frag) : List V → Hp → VK → Prop := fun xs H Q => ∃ p ys, xs = [.ref p] ∧ ((SqL K H p ys ∧ ∀ l o, H l = none → o.dict = none → Q (.ref l) (upd H l (.frz o (.tup ys)))) ∨ (SqT K H p ys ∧ Q (.ref p) H))
theorem call_tupleF : CallR X (.type "tuple") (rTupF X.K) := by
  intro pins s σ H xs us Q I r ⟨p, ys, ex, h⟩
  subst ex
  rcases h with ⟨hq, q⟩ | h
  · obtain ⟨u, eu, rx⟩ := vals1 r
    subst eu
    cases rx
    obtain ⟨its, r', pl, hz⟩ := I.list hq
    have hlen := r'.length
    refine call_tuple_list pl.isList (fun h' kp => ?_) (by rw [List.size_toArray, ← hlen]; exact hz)
    have I1 : Inv X pins σ H { s with heap := h' } := I.kept (t' := s.toks) kp
    exact ⟨.ref h'.objs.size, _, laidF I1 r' hz, rfl, q _ _ (I1.hok.fresh (Nat.le_refl _)) rfl⟩
  · exact call_tuple_of pins s σ H _ us Q I r ⟨p, ys, rfl, .inr h⟩
end
end PM
end
section
namespace PM
open PySem L2 PySem.Spec PyProof.Rows
section
variable {E : Cfg} {W : WX} {X : Cx} {σ : L2.St} {H : Hp} {Q : VK} {ma mb mc : Env → Sto → Res PV} {a b c : Expr} {pos : Pos}
def cmp2M (o o' : COp) (ma mb mc : Env → Sto → Res PV) : Env → Sto → Res PV := fun ρ S => (ma ρ S).bind fun x S1 => (mb ρ S1).bind fun y S2 => .opt (cmpV o S2 x y) fun k =>
      if k = true then (mc ρ S2).bind fun z S3 => .opt (cmpV o' S3 y z) fun k' => .ok (.bl k') S3 else .ok (.bl false) S2
theorem cmp2M_bl (o o' : COp) (ma mb mc : Env → Sto → Res PV) (ρ : Env) (S : Sto) : (∃ k S1, cmp2M o o' ma mb mc ρ S = .ok (.bl k) S1) ∨ (∃ c S1, cmp2M o o' ma mb mc ρ S = .exc c S1) ∨ cmp2M o o' ma mb mc ρ S = .bad := by
  unfold cmp2M
  cases ma ρ S with
  | bad => exact .inr (.inr rfl)
  | exc c S1 => exact .inr (.inl ⟨c, S1, rfl⟩)
  | ok v S1 =>
    rw [Res.bind_ok]
    cases mb ρ S1 with
    | bad => exact .inr (.inr rfl)
    | exc c S1 => exact .inr (.inl ⟨c, S1, rfl⟩)
    | ok w S2 =>
      rw [Res.bind_ok]
      cases cmpV o S2 v w with
      | none => exact .inr (.inr rfl)
      | some k =>
        cases k with
        | false => exact .inl ⟨false, S2, rfl⟩
        | true =>
          simp only [Res.opt, if_true]
          cases mc ρ S2 with
          | bad => exact .inr (.inr rfl)
          | exc c S1 => exact .inr (.inl ⟨c, S1, rfl⟩)
          | ok z S3 =>
            rw [Res.bind_ok]
            cases cmpV o' S3 w z with
            | none => exact .inr (.inr rfl)
            | some k => exact .inl ⟨k, S3, rfl⟩
theorem cmp2_pe {o o' : COp} {f : PV → PV → Sto → Res PV} (h : tE E W (cmp2M o o' ma mb mc) σ H Q) : tChain (rC E.wo E.K o) (rC E.wo E.K o') (tE E W ma) (tE E W mb) (tE E W mc) σ H Q := by
  refine tG.first (R := Rp E) (f := fun x ρ S1 => (mb ρ S1).bind fun y S2 => .opt (cmpV o S2 x y) fun k =>
      if k = true then (mc ρ S2).bind fun z S3 => .opt (cmpV o' S3 y z) fun k' => .ok (.bl k') S3 else .ok (.bl false) S2) h fun α ρ S v x H1 R en rv kt => ?_
  refine ⟨α, ρ, S, R, en, Kt.bind kt fun w S2 α2 y H2 e R2 rw' kt => ?_⟩
  obtain ⟨k, e1, kt⟩ := kt.opt
  refine cmp_rd R2 (rv.ext e) rw' e1 ⟨k, rfl, ?_⟩
  cases k with
  | false => rw [if_neg (by decide)]; exact is_bl kt R2
  | true =>
    rw [if_pos rfl]
    rw [if_pos rfl] at kt
    refine ⟨α2, ρ, S2, R2, en.ext e, Kt.bind (R' := Rp E) kt fun z S3 α3 z' H3 e3 R3 rz kt => ?_⟩
    obtain ⟨k, e1, kt⟩ := kt.opt
    exact cmp_rd R3 (rw'.ext e3) rz e1 (is_bl kt R3)
theorem s_cmp2 {o o' : COp} (hK : X.K = E.K) (hw : X.w = E.wo) (hu : X.A.units + 65 < cLine) (ha : PE X a (tE E W ma)) (hb : PE X b (tE E W mb)) (hc : PE X c (tE E W mc)) (hm : lastMarks [opC o, opC o'] [b, c] = false) : Snd E W X (.Compare a [opC o, opC o'] [b, c] pos) (cmp2M o o' ma mb mc) where
  pe := PE.imp (pe_chain (or_cmp hu o) (or_cmp hu o') ha hb hc hm) fun σ H Q h => by rw [hK, hw]; exact cmp2_pe (f := fun _ _ _ => .bad) h
  pt := PT.imp (pt_chain (or_cmp hu o) (or_cmp hu o') ha hb hc hm) fun σ H Q h => by
    rw [hK, hw]
    refine cmp2_pe (f := fun _ _ _ => .bad) (Q := fun x H' => ∃ k, x = .bl k ∧ Q k H') ?_
    obtain ⟨α, ρ, S, R, en, kt⟩ := h
    refine ⟨α, ρ, S, R, en, ?_⟩
    have kt : Kt E W RB α S σ H ((cmp2M o o' ma mb mc ρ S).bind fun v S1 => .opt (truth S1 v) fun k => .ok k S1) Q := kt
    rcases cmp2M_bl o o' ma mb mc ρ S with ⟨k, S1, e⟩ | ⟨c, S1, e⟩ | e
    · rw [e] at kt ⊢
      exact fun α' x H' e1 R1 rv => ⟨k, by simpa only [Rp] using rv, kt α' k H' e1 R1 rfl⟩
    · rw [e] at kt ⊢; exact kt
    · rw [e] at kt; exact kt.elim

def notStar : Expr → Bool
  | .Starred _ _ => false
  | _ => true
theorem star1 {e : Expr} {es : List Expr} {env : PySem.Env} (h : notStar e = true) : starEach (e :: es) env = (false, eval e env) :: starEach es env := by
  cases e <;> first | rfl | simp [notStar] at h
theorem stars {es : List Expr} {env : PySem.Env} {pos : Pos} (h : es.all notStar = true) : (backTo pos (starEach es env)).any (·.1) = false := by
  induction es with
  | nil => rfl
  | cons e es ih =>
    simp only [List.all_cons, Bool.and_eq_true] at h
    rw [star1 h.1]
    simp only [backTo, List.map_cons, List.any_cons, Bool.false_or]
    exact ih h.2
theorem a_nil : PA X [] (tA E W fun _ S => .ok [] S) := PA.imp pa_nil fun σ H Q ⟨α, ρ, S, R, _, kt⟩ => kt.here R RpL.nil
theorem a_cons {es : List Expr} {ms : Env → Sto → Res (List PV)} (h0 : notStar a = true) (ha : PE X a (tE E W ma)) (hs : PA X es (tA E W ms)) :
    PA X (a :: es) (tA E W fun ρ S => (ma ρ S).bind fun v S1 => (ms ρ S1).bind fun vs S2 => .ok (v :: vs) S2) := PA.imp (pa_cons ha hs (star1 h0)) fun σ H Q h => by
  refine tG.first (R := RpL E) (f := fun v ρ S1 => (ms ρ S1).bind fun vs S2 => .ok (v :: vs) S2) h fun α ρ S v x H1 R en rv kt => ?_
  refine ⟨α, ρ, S, R, en, Kt.bind kt fun vs S2 α2 ys H2 e R2 rs kt => ?_⟩
  exact kt.here R2 (RpL.cons (rv.ext e) rs)
variable {ms : Env → Sto → Res (List PV)} {es : List Expr}
theorem s_tup {k : Nat} (hs : PA X es (tA E W ms)) : PE X (.Tuple es k pos) (tE E W fun ρ S => (ms ρ S).bind fun vs S1 => .need (decide (vs.length ≤ LIM)) (.ok (.tup vs) S1)) :=
  PE.imp (pe_tupF hs) fun σ H Q h => many (f := fun vs S1 => .need (decide (vs.length ≤ LIM)) (.ok (.tup vs) S1)) h fun α S vs xs H R rs kt => by
    obtain ⟨h1, kt⟩ := kt.need
    exact ⟨by rw [← rs.len]; exact lim_le h1, fun p o hp ho => mk_tupF kt R rs hp ho⟩
theorem s_lst (hs : PA X es (tA E W ms)) : PE X (.List es pos) (tE E W fun ρ S => (ms ρ S).bind fun vs S1 => .need (decide (vs.length ≤ LIM)) (new S1 (.lst vs))) :=
  PE.imp (pe_lst hs) fun σ H Q h => many (f := fun vs S1 => .need (decide (vs.length ≤ LIM)) (new S1 (.lst vs))) h fun α S vs xs H R rs kt => by
    obtain ⟨h1, kt⟩ := kt.need
    exact ⟨by rw [← rs.len]; exact lim_le h1, fun p hp => mk_lst kt R rs hp⟩

def plainIx : Expr → Bool
  | .Slice _ _ _ _ => false
  | _ => true
theorem plainIx_is {e : Expr} (h : plainIx e = true) : ∀ o i, subscripted e false o i = operate [o, i] (getItem o i) := by
  intro o i
  cases e <;> first | rfl | simp [plainIx] at h
def rIxA (w : World) (K : PySem.W.Frag) : R2 := fun x y H Q => rIx K x y H Q ∨ (∃ a v, x = .ref a ∧ DGet H a y (some v) ∧ Q v H) ∨ (∃ a v, x = .ref a ∧ DnGet w K H a y (some v) ∧ Q v H)
theorem ix_dict (hu : X.A.units + 1 < cLine) : IxR X (fun x y H Q => ∃ a v, x = .ref a ∧ DGet H a y (some v) ∧ Q v H) := by
  intro value slice pins s σ H x y v u Q I rx ry h hs
  obtain ⟨a, z, rfl, g, q⟩ := h
  cases rx
  exact tail_any (ops := [.ref a, u]) (dict_typeIs I g) (PySem.slot_dict_getitem.lookup) (d_getItem hu I g ry fun w' s' I' r => ⟨z, H, I', r, q⟩) hs
theorem or_ix (hu : X.A.units + 65 < cLine) : IxR X (rIxA X.w X.K) := ix_seq.or ((ix_dict (by omega)).or (ix_nest hu))
theorem ix_rd {α : Nat → Addr} {S : Sto} {v w z : PV} {x y : V} (R : Rel E α S H) (rv : Rp E α S.length H v x) (rw' : Rp E α S.length H w y) (e : ixV S v w = some z) (kt : Kt E W (Rp E) α S σ H (.ok z S) Q) : rIxA E.wo E.K x y H Q := by
  unfold ixV at e
  split at e
  · split at e
    · rename_i hl
      obtain ⟨c, e1, e2⟩ := Option.map_eq_some_iff.mp e
      subst e2
      simp only [Rp] at rv rw'
      exact .inl (.inr (.inr ⟨_, _, c, rv, rw', by rw [← lim_eq]; exact hl, e1, is_str kt R⟩))
    · cases e
  · rename_i l
    split at e
    · rename_i xs j e1 
      obtain ⟨ys, h1, h2⟩ := R.obj l _ e1
      simp only [Rp] at rv rw'
      obtain ⟨y', e3, r⟩ := h2.atI e
      exact .inl (.inl ⟨α l, ys, j, y', rv.2, rw', .of h1, e3, kt.here R r⟩)
    · rename_i hn
      obtain ⟨o, e1, e2⟩ := Option.bind_eq_some_iff.mp e
      have g := dfind_rd R rw' e1
      have e2 : o = some z := e2
      subst e2
      obtain ⟨y', g1, r⟩ := g
      simp only [Rp] at rv
      rcases g1 with g1 | g1
      · exact .inr (.inl ⟨α l, y', rv.2, g1, kt.here R r⟩)
      · exact .inr (.inr ⟨α l, y', rv.2, g1, kt.here R r⟩)
  · obtain ⟨xs, e1, e2⟩ := Option.bind_eq_some_iff.mp e
    obtain ⟨a, ys, rfl, ha, r⟩ := rd_seq R rv e1
    simp only [Rp] at rw'
    obtain ⟨y', e3, r'⟩ := r.atI e2
    rcases ha with ha | ha
    · exact .inl (.inl ⟨a, ys, _, y', rfl, rw', ha, e3, kt.here R r'⟩)
    · exact .inl (.inr (.inl ⟨a, ys, _, y', rfl, rw', ha, e3, kt.here R r'⟩))
  · cases e
theorem s_ix (hK : X.K = E.K) (hw : X.w = E.wo) (hu : X.A.units + 65 < cLine) (h0 : plainIx b = true) (ha : PE X a (tE E W ma)) (hb : PE X b (tE E W mb)) :
    PE X (.Subscript a b pos) (tE E W fun ρ S => (ma ρ S).bind fun x S1 => (mb ρ S1).bind fun y S2 => .opt (ixV S2 x y) fun v => .ok v S2) :=
  PE.imp (pe_ix (or_ix hu) ha hb (plainIx_is h0)) fun σ H Q h => two (f := fun x y S => .opt (ixV S x y) fun v => .ok v S) h fun α S v w x y H R rv rw' kt => by
    obtain ⟨z, e, kt⟩ := kt.opt
    rw [hK, hw]; exact ix_rd R rv rw' e kt
variable {lo hi : Option Expr} {ml mh : Env → Sto → Res (Option Int)}
theorem o_none : PO X none (tO E W fun _ S => .ok none S) := ⟨fun pins s σ H Q I ⟨α, ρ, S, R, _, kt⟩ => po_none.run pins s σ H Q I (kt.here R rfl)⟩
theorem o_some (ha : PE X a (tE E W ma)) : PO X (some a) (tO E W fun ρ S => (ma ρ S).bind fun v S1 => match v with | .int i => .ok (some i) S1 | _ => .bad) :=
  ⟨fun pins s σ H Q I h => (po_some ha).run pins s σ H Q I (tG.first (R := RO) (f := fun v _ S1 => match v with | .int i => .ok (some i) S1 | _ => .bad) h fun α ρ S v x H1 R en rv kt => by
    split at kt
    · simp only [Rp] at rv
      exact ⟨_, rv, kt.here R rfl⟩
    · exact kt.elim)⟩
def rSlB (K : PySem.W.Frag) : V → Option Int → Option Int → Hp → VK → Prop := fun x lo hi H Q => rSlF K x lo hi H Q ∨ rSlL K x lo hi H Q
theorem or_sl : SlR X (rSlB X.K) := sl_tupF.or sl_list
theorem HT.whole {α : Type} {xs : List α} {lo hi : Option Int} (h : HT.sIx xs.length 0 lo = 0 ∧ HT.sIx xs.length xs.length hi = xs.length) : (xs.drop (HT.sIx xs.length 0 lo)).take (HT.sIx xs.length xs.length hi - HT.sIx xs.length 0 lo) = xs := by
  rw [h.1, h.2, List.drop_zero, Nat.sub_zero, List.take_length]
theorem s_sl {p2 : Pos} (hK : X.K = E.K) (ha : PE X a (tE E W ma)) (hl : PO X lo (tO E W ml)) (hh : PO X hi (tO E W mh)) :
    PE X (.Subscript a (.Slice lo hi none p2) pos) (tE E W fun ρ S => (ma ρ S).bind fun x S1 => (ml ρ S1).bind fun l S2 => (mh ρ S2).bind fun h S3 => slV S3 x l h) :=
  PE.imp (pe_slice or_sl ha hl hh) fun σ H Q h => by
    refine tG.first (R := Rp E) (f := fun x ρ S1 => (ml ρ S1).bind fun l S2 => (mh ρ S2).bind fun h S3 => slV S3 x l h) h fun α ρ S v x H1 R en rv kt => ?_
    refine ⟨α, ρ, S, R, en, Kt.bind kt fun l S2 α2 l' H2 e R2 rl kt => ?_⟩
    refine ⟨α2, ρ, S2, R2, en.ext e, Kt.bind kt fun h S3 α3 h' H3 e3 R3 rh kt => ?_⟩
    have rl : l' = l := rl
    have rh : h' = h := rh
    subst rl rh
    have rv := (rv.ext e).ext e3
    rw [hK]
    unfold slV at kt
    split at kt
    · obtain ⟨p, xs, rfl, hp, r⟩ := rd_tupD rv
      refine .inl ⟨p, xs, rfl, hp.1, fun hw => ?_, fun _ q o hq ho => mk_tupF kt R3 (r.cut _ _) hq ho⟩
      have := r.cut l' h'
      rw [show cutV xs l' h' = xs from HT.whole hw] at this
      exact is_tup kt R3 hp this
    · obtain ⟨vs, e1, kt⟩ := kt.opt
      obtain ⟨p, xs, rfl, hp, r⟩ := rd_lst R3 rv e1
      exact .inr ⟨p, xs, rfl, hp, fun q hq => mk_lst kt R3 (r.cut _ _) hq⟩
theorem s_rev {k : Nat} {p1 p2 p3 : Pos} (hK : X.K = E.K) (ha : PE X a (tE E W ma)) : PE X (.Subscript a (.Slice none none (some (.UnaryOp .USub (.Constant (.int 1) k p1) p2)) p3) pos) (tE E W fun ρ S => (ma ρ S).bind fun x S1 => revV S1 x) :=
  PE.imp (pe_revL ha) fun σ H Q h => one (f := fun x S1 => revV S1 x) h fun α S v x H R rv kt => by
    obtain ⟨vs, e1, kt⟩ := kt.opt
    obtain ⟨p, xs, rfl, hp, r⟩ := rd_lst R rv e1
    exact ⟨p, xs, rfl, by rw [hK]; exact hp, fun q hq => mk_lst kt R r.rev hq⟩
end
end PM
end
section
namespace PM
open PySem L2 PySem.Spec PyProof.Rows
section
variable {E : Cfg} {W : WX} {X : Cx} {σ : L2.St} {H : Hp} {Q : VK} {ma mb mc : Env → Sto → Res PV} {a b c e : Expr} {pos p : Pos} {es : List Expr} {ms : Env → Sto → Res (List PV)}
theorem s_callB {id : String} {x : Str} {r : List V → Hp → VK → Prop} {f : List PV → Sto → Res PV} (hc : CallR X (.builtin id) r) (hg : Gl X x) (hm : X.mg x = none) (hv : bootBuiltins x = some (.builtin id)) (h0 : (e :: es).all notStar = true) (ha : PA X (e :: es) (tA E W ms))
    (hn : x ≠ "__name__") (hdb : (x == ("__debug__" : Str)) = false) (k : ∀ α S σ vs xs H Q, Rel E α S H → RpL E α S.length H vs xs → Kt E W (Rp E) α S σ H (f vs S) Q → r xs H Q) :
    PE X (.Call (.Name x p) (e :: es) [] pos) (tE E W fun ρ S => (ms ρ S).bind fun vs S1 => f vs S1) := by
  simp only [List.all_cons, Bool.and_eq_true] at h0
  exact PE.imp (pe_callB hc hg hm hv ha hn hdb (star1 h0.1) (stars h0.2)) fun σ H Q h => many (f := f) h fun α S vs xs H R rs kt => k α S σ vs xs H Q R rs kt
theorem s_callT {T : String} {x : Str} {r : List V → Hp → VK → Prop} {f : List PV → Sto → Res PV} (hc : CallR X (.type T) r) (hg : Gl X x) (hm : X.mg x = none) (hv : bootBuiltins x = some (.type T)) (h0 : (e :: es).all notStar = true) (ha : PA X (e :: es) (tA E W ms))
    (hn : x ≠ "__name__") (hdb : (x == ("__debug__" : Str)) = false) (k : ∀ α S σ vs xs H Q, Rel E α S H → RpL E α S.length H vs xs → Kt E W (Rp E) α S σ H (f vs S) Q → r xs H Q) :
    PE X (.Call (.Name x p) (e :: es) [] pos) (tE E W fun ρ S => (ms ρ S).bind fun vs S1 => f vs S1) := by
  simp only [List.all_cons, Bool.and_eq_true] at h0
  exact PE.imp (pe_callTy hc hg hm hv ha hn hdb (star1 h0.1) (stars h0.2)) fun σ H Q h => many (f := f) h fun α S vs xs H R rs kt => k α S σ vs xs H Q R rs kt
theorem rl1 {α : Nat → Addr} {n : Nat} {v : PV} {xs : List V} (r : RpL E α n H [v] xs) : ∃ x, xs = [x] ∧ Rp E α n H v x := by
  simp only [RpL] at r
  obtain ⟨y, ys, e, h1, h2⟩ := r
  exact ⟨y, by rw [e, h2], h1⟩
theorem rl2 {α : Nat → Addr} {n : Nat} {v w : PV} {xs : List V} (r : RpL E α n H [v, w] xs) : ∃ x y, xs = [x, y] ∧ Rp E α n H v x ∧ Rp E α n H w y := by
  simp only [RpL] at r
  obtain ⟨y, ys, e, h1, z, zs, e2, h2, h3⟩ := r
  exact ⟨y, z, by rw [e, e2, h3], h1, h2⟩
def rLenD : List V → Hp → VK → Prop := fun xs H Q => ∃ a kvs, xs = [.ref a] ∧ H a = some (.dK kvs) ∧ Q (.int kvs.length) H
theorem call_lenK : CallR X (.builtin "len") rLenD := by
  intro pins s σ H xs us Q I r h
  obtain ⟨a, kvs, rfl, e, q⟩ := h
  have := Vals.ref1 r
  subst this
  exact d_len I (.inl e) fun t s' I' => ⟨.int kvs.length, H, I', ⟨t, rfl⟩, q⟩
def rLenA (K : PySem.W.Frag) : List V → Hp → VK → Prop := fun xs H Q => (∃ x n, xs = [x] ∧ LenV K x H n ∧ Q (.int n) H) ∨ rLenD xs H Q
theorem call_lenA : CallR X (.builtin "len") (rLenA X.K) := call_len.or call_lenK
theorem DF.len {α : Nat → Addr} {n : Nat} : ∀ {kvs : List (PV × PV)} {ks : List (Key × V)}, DF E α n H kvs ks → kvs.length = ks.length
  | [], _, h => by have h : _ = [] := h; rw [h]; rfl
  | p :: r, _, h => by
    obtain ⟨k, y, ks', e, _, _, h3⟩ := h
    rw [e, List.length_cons, List.length_cons, DF.len h3]
section
variable {α : Nat → Addr} {S : Sto} {v : PV} {xs : List V} {vs : List PV}
theorem Kt.b1 {f : PV → Res PV} (rs : RpL E α S.length H vs xs) (kt : Kt E W (Rp E) α S σ H (PM.b1 f vs) Q) : ∃ v x, xs = [x] ∧ Rp E α S.length H v x ∧ Kt E W (Rp E) α S σ H (f v) Q := by
  rcases vs with _ | ⟨v, _ | ⟨w, vs⟩⟩
  · exact (show False from kt).elim
  · obtain ⟨x, rfl, rv⟩ := rl1 rs
    exact ⟨v, x, rfl, rv, kt⟩
  · exact (show False from kt).elim
theorem Kt.b2 {f : PV → PV → Res PV} (rs : RpL E α S.length H vs xs) (kt : Kt E W (Rp E) α S σ H (PM.b2 f vs) Q) : ∃ v w x y, xs = [x, y] ∧ Rp E α S.length H v x ∧ Rp E α S.length H w y ∧ Kt E W (Rp E) α S σ H (f v w) Q := by
  rcases vs with _ | ⟨v, _ | ⟨w, _ | ⟨u, vs⟩⟩⟩
  · exact (show False from kt).elim
  · exact (show False from kt).elim
  · obtain ⟨x, y, rfl, rv, rw'⟩ := rl2 rs
    exact ⟨v, w, x, y, rfl, rv, rw', kt⟩
  · exact (show False from kt).elim
theorem len_rd (R : Rel E α S H) (rs : RpL E α S.length H vs xs) (kt : Kt E W (Rp E) α S σ H (biV .len S vs) Q) : rLenA E.K xs H Q := by
  obtain ⟨v, x, rfl, rv, kt⟩ := Kt.b1 rs kt
  obtain ⟨n, e, kt⟩ := kt.opt
  unfold lenV at e
  split at e
  · split at e
    · rename_i hl
      cases e
      simp only [Rp] at rv
      exact .inl ⟨x, _, rfl, by rw [rv]; exact ⟨by rw [← lim_eq]; exact hl, rfl⟩, is_int kt R⟩
    · cases e
  · rename_i l
    simp only [Rp] at rv
    split at e
    · rename_i ys e1
      cases e
      obtain ⟨zs, h1, h2⟩ := R.obj l _ e1
      exact .inl ⟨x, _, rfl, by rw [rv.2]; exact .inl ⟨zs, .of h1, h2.len⟩, is_int kt R⟩
    · rename_i kvs e1
      cases e
      obtain ⟨ks, h1, h2⟩ := rd_dic R e1
      exact .inr ⟨α l, ks, by rw [rv.2], h1, by rw [← h2.len]; exact is_int kt R⟩
    · cases e
  · obtain ⟨ys, e1, e2⟩ := Option.map_eq_some_iff.mp e
    subst e2
    obtain ⟨p, zs, rfl, hp, r⟩ := rd_seq R rv e1
    refine .inl ⟨_, _, rfl, ?_, is_int kt R⟩
    rcases hp with hp | hp
    · exact .inl ⟨zs, hp, r.len⟩
    · exact .inr ⟨zs, hp, r.len⟩
theorem int_rd (R : Rel E α S H) (rs : RpL E α S.length H vs xs) (kt : Kt E W (Rp E) α S σ H (biV .int S vs) Q) : (∃ i, xs = [.int i] ∧ Q (.int i) H) ∨ ∃ k, xs = [.bl k] ∧ Q (.int (if k then 1 else 0)) H := by
  obtain ⟨v, x, rfl, rv, kt⟩ := Kt.b1 rs kt
  unfold intB at kt
  split at kt
  · simp only [Rp] at rv
    exact .inl ⟨_, by rw [rv], is_int kt R⟩
  · simp only [Rp] at rv
    exact .inr ⟨_, by rw [rv], is_int kt R⟩
  · exact kt.elim
def rListA (K : PySem.W.Frag) : List V → Hp → VK → Prop := fun xs H Q => (∃ p ys, xs = [.ref p] ∧ (SqL K H p ys ∨ SqT K H p ys) ∧ ∀ l, H l = none → Q (.ref l) (upd H l (.lst ys))) ∨ rListD xs H Q
theorem call_listA (hc : X.calm = true) : CallR X (.type "list") (rListA X.K) := call_list_of.or (call_list_dK hc)
theorem DF.keys {n : Nat} : ∀ {kvs : List (PV × PV)} {ks : List (Key × V)}, DF E α n H kvs ks → RpL E α n H (kvs.map (·.1)) (ks.map fun kv => kV kv.1)
  | [], _, h => by have h : _ = [] := h; rw [h]; exact RpL.nil
  | p :: r, _, h => by
    obtain ⟨k, y, ks', e, h1, _, h3⟩ := h
    subst e
    refine RpL.cons ?_ (DF.keys h3)
    show Rp E α n H p.1 (kV k)
    unfold keyF at h1
    split at h1
    · rename_i e1; cases h1; rw [e1]; simp only [Rp]; rfl
    · rename_i e1; cases h1; rw [e1]; simp only [Rp]; rfl
    · cases h1
theorem rd_keys (R : Rel E α S H) {x : V} {ks : List PV} (rv : Rp E α S.length H v x) (e : keysOf S v = some ks) : ∃ a kvs, x = .ref a ∧ H a = some (.dK kvs) ∧ RpL E α S.length H ks (kvs.map fun kv => kV kv.1) := by
  unfold keysOf at e
  split at e
  · rename_i l
    split at e
    · rename_i kvs e1
      cases e
      obtain ⟨ks, h1, h2⟩ := rd_dic R e1
      simp only [Rp] at rv
      exact ⟨α l, ks, rv.2, h1, h2.keys⟩
    · cases e
  · cases e
theorem list_rd (R : Rel E α S H) (rs : RpL E α S.length H vs xs) (kt : Kt E W (Rp E) α S σ H (biV .list S vs) Q) : rListA E.K xs H Q := by
  obtain ⟨v, x, rfl, rv, kt⟩ := Kt.b1 rs kt
  unfold listB at kt
  split at kt
  · rename_i ks e
    obtain ⟨a, kvs, rfl, h1, h2⟩ := rd_keys R rv e
    exact .inr ⟨a, kvs, rfl, h1, fun q hq => mk_lst kt R h2 hq⟩
  · obtain ⟨ys, e, kt⟩ := kt.opt
    obtain ⟨p, zs, rfl, hp, r⟩ := rd_seq R rv e
    exact .inl ⟨p, zs, rfl, hp, fun q hq => mk_lst kt R r hq⟩
theorem tuple_rd (R : Rel E α S H) (rs : RpL E α S.length H vs xs) (kt : Kt E W (Rp E) α S σ H (biV .tuple S vs) Q) :
    rTupF E.K xs H Q := by
  obtain ⟨v, x, rfl, rv, kt⟩ := Kt.b1 rs kt
  unfold tupB at kt
  split at kt
  · obtain ⟨p, zs, rfl, hp, r⟩ := rd_tupD rv
    exact ⟨p, zs, rfl, .inr ⟨hp.1, is_tup kt R hp r⟩⟩
  · obtain ⟨ys, e, kt⟩ := kt.opt
    obtain ⟨p, zs, rfl, hp, r⟩ := rd_lst R rv e
    exact ⟨p, zs, rfl, .inl ⟨hp, fun q o hq ho => mk_tupF kt R r hq ho⟩⟩
theorem min2_rd (R : Rel E α S H) (rs : RpL E α S.length H vs xs) (kt : Kt E W (Rp E) α S σ H (biV .min2 S vs) Q) : ∃ i j, xs = [.int i, .int j] ∧ Q (.int (if j < i then j else i)) H := by
  obtain ⟨v, w, x, y, rfl, r1, r2, kt⟩ := Kt.b2 rs kt
  unfold min2B at kt
  split at kt
  · simp only [Rp] at r1 r2
    exact ⟨_, _, by rw [r1, r2], is_int kt R⟩
  · exact kt.elim
theorem str_rd (R : Rel E α S H) (rs : RpL E α S.length H vs xs) (kt : Kt E W (Rp E) α S σ H (biV .str S vs) Q) : ∃ i : Int, xs = [.int i] ∧ i.natAbs.log2 < 1920 ∧ Q (.str (toString i)) H := by
  obtain ⟨v, x, rfl, r1, kt⟩ := Kt.b1 rs kt
  unfold strB at kt
  split at kt
  · rename_i i
    obtain ⟨h1, kt⟩ := kt.need
    simp only [Rp] at r1
    refine ⟨i, by rw [r1], ?_, is_str kt R⟩
    have h1 : i.natAbs < 1000000000 := of_decide_eq_true h1
    by_cases h0 : i.natAbs = 0
    · rw [h0]; decide
    · exact Nat.lt_of_lt_of_le ((Nat.log2_lt h0).mpr (show i.natAbs < 2 ^ 30 by omega)) (by omega)
  · exact kt.elim
theorem sum_rd (R : Rel E α S H) (rs : RpL E α S.length H vs xs) (kt : Kt E W (Rp E) α S σ H (biV .sum S vs) Q) : rSum E.K xs H Q := by
  obtain ⟨v, x, rfl, rv, kt⟩ := Kt.b1 rs kt
  obtain ⟨is, e, kt⟩ := kt.opt
  obtain ⟨ys, e1, e2⟩ := Option.bind_eq_some_iff.mp e
  obtain ⟨p, zs, rfl, hp, r⟩ := rd_lst R rv e1
  have := r.intsV e2
  subst this
  exact ⟨p, is, rfl, hp, is_int kt R⟩
end

def knV : KN → Cfg → V
  | .int, _ => .ty "int"
  | .bool, _ => .ty "bool"
  | .str, _ => .ty "str"
  | .list, _ => .ty "list"
  | .tuple, _ => .ty "tuple"
  | .cls c, E => .ref (E.cls c)
def knU : KN → Cfg → Value
  | .int, _ => .type "int"
  | .bool, _ => .type "bool"
  | .str, _ => .type "str"
  | .list, _ => .type "list"
  | .tuple, _ => .type "tuple"
  | .cls c, E => .ref (E.cls c)
theorem kn_cls (k : KN) : ClsV (knV k E) (knU k E) := by cases k <;> first | exact .ty _ | exact .own _
def tyU (S : Sto) (E : Cfg) : PV → Value
  | .non => .type "NoneType"
  | .bl _ => .type "bool"
  | .int _ => .type "int"
  | .str _ => .type "str"
  | .tup _ => .type "tuple"
  | .lst _ => .type "list"
  | .ro _ => .type "list"
  | .obj c _ _ => .ref (E.cls c)
  | .loc l => match S[l]? with
    | some (.lst _) => .type "list"
    | some (.ins c _) => .ref (E.cls c)
    | _ => .none
section
variable {α : Nat → Addr} {S : Sto} {v : PV} {x : V} {cf : Cf}
theorem ty_tup {a : Addr} {xs : List V} (h : SqT E.K H a xs) : TyX E.K H (.ref a) (.type "tuple") := by
  rcases h with (h | ⟨o, h⟩) | ⟨o, its, n, hk, hc, _⟩
  · exact .base (.tup h)
  · exact .fTuple h
  · exact .kTuple hk hc
theorem ty_lst {a : Addr} {xs : List V} (h : SqL E.K H a xs) : TyX E.K H (.ref a) (.type "list") := by
  rcases h with (h | ⟨o, h⟩) | ⟨o, its, n, hk, hc, _⟩
  · exact .base (.lst h)
  · exact .base (.frz h)
  · exact .kList hk hc
theorem ty_rd (R : Rel E α S H) (rv : Rp E α S.length H v x) {ks : List KN} {b : Bool} (e : isiV S cf v ks = some b) : TyX E.K H x (tyU S E v) := by
  cases v with
  | non => simp only [Rp] at rv; subst rv; exact .base .non
  | bl k => simp only [Rp] at rv; subst rv; exact .base (.bl k)
  | int i => simp only [Rp] at rv; subst rv; exact .base (.int i)
  | str i => simp only [Rp] at rv; subst rv; exact .base (.str i)
  | tup vs => obtain ⟨a, xs, rfl, ha, _⟩ := rd_tup rv; exact ty_tup ha
  | lst vs => simp only [Rp] at rv; obtain ⟨a, xs, rfl, ha, _⟩ := rv; exact .base (.lst ha)
  | ro vs => simp only [Rp] at rv; obtain ⟨a, xs, rfl, ha, _⟩ := rv; exact ty_lst ha.sq
  | obj c ns vs => simp only [Rp] at rv; obtain ⟨a, dx, fs, rfl, ha, _, _, _, cf⟩ := rv; exact .base (.ins ha cf.cl cf.ha cf.hn cf.htk cf.hm)
  | loc l =>
    simp only [Rp] at rv
    rw [rv.2]
    simp only [isiV] at e
    simp only [tyU]
    cases hs : S[l]? with
    | none => rw [hs] at e; cases e
    | some o =>
      rw [hs] at e
      have q := R.obj l _ hs
      cases o with
      | lst ys => obtain ⟨zs, h1, _⟩ := q; exact .base (.lst h1)
      | ins c fs => obtain ⟨dx, gs, h1, _, _, cf⟩ := q; exact .base (.ins h1 cf.cl cf.ha cf.hn cf.htk cf.hm)
      | dic _ => cases e
      | dkn _ => cases e
def kitV (nc : Nat) (S : Sto) (v : PV) (k : KN) : Option Bool := match k with
  | .cls d => if d < nc then (match v with
    | .obj c _ _ => some (decide (c = d))
    | .loc l => match S[l]? with
      | some (.ins c _) => some (decide (c = d))
      | _ => some false
    | _ => some false) else none
  | k => match v with
    | .bl _ => some (k == .bool || k == .int)
    | .int _ => some (k == .int)
    | .str _ => some (k == .str)
    | .tup _ => some (k == .tuple)
    | .lst _ => some (k == .list)
    | .ro _ => some (k == .list)
    | .loc l => match S[l]? with
      | some (.lst _) => some (k == .list)
      | _ => some false
    | _ => some false
end
end
end PM
end
section
namespace PM
open PySem L2 PySem.Spec PyProof.Rows
theorem insI_perm (i : Int) : ∀ l : List Int, (insI i l).Perm (i :: l)
  | [] => List.Perm.refl _
  | j :: r => by
    unfold insI
    split
    · exact List.Perm.refl _
    · exact ((insI_perm i r).cons j).trans (List.Perm.swap i j r)
theorem sortI_perm : ∀ l : List Int, (sortI l).Perm l
  | [] => List.Perm.refl _
  | i :: r => (insI_perm i (sortI r)).trans ((sortI_perm r).cons i)
theorem insI_sorted (i : Int) : ∀ l : List Int, l.Pairwise (· ≤ ·) → (insI i l).Pairwise (· ≤ ·)
  | [], _ => by simp [insI]
  | j :: r, h => by
    have hr := List.pairwise_cons.mp h
    unfold insI
    split
    · rename_i hij
      refine List.pairwise_cons.mpr ⟨fun z hz => ?_, h⟩
      rcases List.mem_cons.mp hz with e | e
      · rw [e]; exact hij
      · exact Int.le_trans hij (hr.1 z e)
    · rename_i hij
      refine List.pairwise_cons.mpr ⟨fun z hz => ?_, insI_sorted i r hr.2⟩
      rcases List.mem_cons.mp ((insI_perm i r).mem_iff.mp hz) with e | e
      · rw [e]; omega
      · exact hr.1 z e
theorem sortI_sorted : ∀ l : List Int, (sortI l).Pairwise (· ≤ ·)
  | [] => List.Pairwise.nil
  | i :: r => insI_sorted i _ (sortI_sorted r)
theorem sorted_eq : ∀ (a b : List Int), a.Perm b → a.Pairwise (· ≤ ·) → b.Pairwise (· ≤ ·) → a = b
  | [], b, p, _, _ => (List.nil_perm.mp p).symm
  | x :: a, [], p, _, _ => absurd p.length_eq (by simp)
  | x :: a, y :: b, p, h1, h2 => by
    have h1' := List.pairwise_cons.mp h1
    have h2' := List.pairwise_cons.mp h2
    have e : x = y := by
      have m1 : x ∈ y :: b := p.mem_iff.mp List.mem_cons_self
      have m2 : y ∈ x :: a := p.mem_iff.mpr List.mem_cons_self
      rcases List.mem_cons.mp m1 with e | e
      · exact e
      · rcases List.mem_cons.mp m2 with e2 | e2
        · exact e2.symm
        · have := h2'.1 x e
          have := h1'.1 y e2
          omega
    subst e
    rw [sorted_eq a b (List.Perm.cons_inv p) h1'.2 h2'.2]
theorem sortI_of {a b : List Int} (p : a.Perm b) (h : a.Pairwise (· ≤ ·)) : a = sortI b := sorted_eq _ _ (p.trans (sortI_perm b).symm) h (sortI_sorted b)

section
variable {E : Cfg} {W : WX} {X : Cx} {σ : L2.St} {H : Hp} {Q : VK} {ma mb mc : Env → Sto → Res PV} {a b c e : Expr} {pos p : Pos} {es : List Expr} {ms : Env → Sto → Res (List PV)}
section
variable {α : Nat → Addr} {S : Sto} {v : PV} {x : V} {xs : List V} {vs : List PV} {cf : Cf}
def rSortDI : List V → Hp → VK → Prop := fun xs H Q => ∃ (a : Addr) (kvs : List (Key × V)) (ks : List Int), xs = [.ref a] ∧ Rd H a (.dK kvs) ∧ kvs.map (·.1) = ks.map Sum.inl ∧ ks.length < 64 ∧ ∀ (ns' : List Int) (p : Addr), ns'.Perm ks → ns'.Pairwise (· ≤ ·) → H p = none → Q (.ref p) (upd H p (.lst (ns'.map V.int)))
def rSortA (K : PySem.W.Frag) : List V → Hp → VK → Prop := fun xs H Q => rSorted K xs H Q ∨ rSortDI xs H Q
theorem DF.ints {n : Nat} : ∀ {kvs : List (PV × PV)} {ks : List (Key × V)} {is : List Int}, DF E α n H kvs ks → intsV (kvs.map (·.1)) = some is → ks.map (·.1) = is.map Sum.inl
  | [], _, is, h, e => by
    have h : _ = [] := h
    subst h
    simp only [List.map_nil, intsV, Option.some.injEq] at e
    subst e; rfl
  | q :: r, _, is, h, e => by
    obtain ⟨k, y, ks', e1, h1, _, h3⟩ := h
    subst e1
    simp only [List.map_cons, intsV] at e
    split at e
    · rename_i i is' e2 e3
      cases e
      rw [e2] at h1
      simp only [keyF, Option.some.injEq] at h1
      subst h1
      rw [List.map_cons, List.map_cons, DF.ints h3 e3]
    · cases e
theorem sort_rd (R : Rel E α S H) (rs : RpL E α S.length H vs xs) (kt : Kt E W (Rp E) α S σ H (biV .sorted S vs) Q) : rSortA E.K xs H Q := by
  obtain ⟨v, x, rfl, rv, kt⟩ := Kt.b1 rs kt
  unfold sortB at kt
  split at kt
  · rename_i ks e
    obtain ⟨is, e1, kt1⟩ := kt.opt
    obtain ⟨hl, kt2⟩ := kt1.need
    clear kt kt1
    unfold keysOf at e
    split at e
    · rename_i l
      split at e
      · rename_i kvs e2
        cases e
        obtain ⟨ks', h1, h2⟩ := rd_dic R e2
        simp only [Rp] at rv
        refine .inr ⟨α l, ks', is, by rw [rv.2], .inl h1, h2.ints e1, of_decide_eq_true hl, fun ns' q p1 p2 hq => ?_⟩
        rw [sortI_of p1 p2]
        exact mk_lst kt2 R (RpL.ofInts _) hq
      · cases e
    · cases e
  · obtain ⟨is, e, kt⟩ := kt.opt
    obtain ⟨hl, kt⟩ := kt.need
    obtain ⟨ys, e1, e2⟩ := Option.bind_eq_some_iff.mp e
    obtain ⟨p, zs, rfl, hp, r⟩ := rd_lst R rv e1
    have := r.intsV e2
    subst this
    refine .inl ⟨p, is, rfl, hp, of_decide_eq_true hl, fun ns' q p1 p2 hq => ?_⟩
    rw [sortI_of p1 p2]
    exact mk_lst kt R (RpL.ofInts _) hq

theorem kit_b {T : String} {k : KN} (hc : ∀ d, d < E.nc → ClsF E d) (hk : ∀ d, k = .cls d → d < E.nc) (hT : T ∈ ["NoneType", "int", "bool", "str", "list", "tuple"]) {r : Bool}
    (h : (match k with | .int => kitB T "int" | .bool => kitB T "bool" | .str => kitB T "str" | .list => kitB T "list" | .tuple => kitB T "tuple" | .cls _ => some false) = some r) : PySem.W.kitOne E.K (.type T) (knU k E) = some r := by
  cases k with
  | cls d =>
    cases h
    exact (hc d (hk d rfl)).rev T hT
  | int => exact kit_ty h
  | bool => exact kit_ty h
  | str => exact kit_ty h
  | list => exact kit_ty h
  | tuple => exact kit_ty h
theorem kit1 (R : Rel E α S H) (rv : Rp E α S.length H v x) (hc : ∀ d, d < E.nc → ClsF E d) {k : KN} (hk : ∀ d, k = .cls d → d < E.nc) {r : Bool} (h : isiV S cf v [k] = some r) : PySem.W.kitOne E.K (tyU S E v) (knU k E) = some r := by
  have fin : ∀ c, ClsF E c → PySem.W.kitOne E.K (.ref (E.cls c)) (knU k E) = some (([k] : List KN).contains (.cls c)) := fun c cf => by
    cases k with
    | cls d =>
      show PySem.W.kitOne E.K (.ref (E.cls c)) (.ref (E.cls d)) = _
      rw [cf.own d (hk d rfl)]
      congr 1
      by_cases hc : c = d
      · subst hc; simp
      · have : ¬ (KN.cls c = KN.cls d) := fun z => hc (by injection z)
        simp [hc, this]
    | int => exact cf.ty "int" (by simp)
    | bool => exact cf.ty "bool" (by simp)
    | str => exact cf.ty "str" (by simp)
    | list => exact cf.ty "list" (by simp)
    | tuple => exact cf.ty "tuple" (by simp)
  have lst : ([k] : List KN).contains .list = r → PySem.W.kitOne E.K (.type "list") (knU k E) = some r := fun h => by
    refine kit_b hc hk (by simp) ?_
    subst h
    cases k <;> first | decide +kernel | rfl
  cases v with
  | obj c ns ws =>
    simp only [Rp] at rv
    obtain ⟨_, _, _, _, _, _, _, _, cf⟩ := rv
    simp only [isiV] at h
    cases h
    exact fin c cf
  | loc l =>
    simp only [isiV] at h
    simp only [tyU]
    cases hs : S[l]? with
    | none => rw [hs] at h; cases h
    | some o =>
      rw [hs] at h
      cases o with
      | ins c fs =>
        obtain ⟨dx, gs, h1, _, _, cf⟩ := R.obj l _ hs
        cases h
        exact fin c cf
      | lst ys => exact lst (Option.some.inj h)
      | dic _ => cases h
      | dkn _ => cases h
  | lst ws => exact lst (Option.some.inj h)
  | ro ws => exact lst (Option.some.inj h)
  | non => cases h; exact kit_b hc hk (by simp) (by cases k <;> first | decide +kernel | rfl)
  | bl b => cases h; exact kit_b hc hk (by simp) (by cases k <;> first | decide +kernel | rfl)
  | int i => cases h; exact kit_b hc hk (by simp) (by cases k <;> first | decide +kernel | rfl)
  | str i => cases h; exact kit_b hc hk (by simp) (by cases k <;> first | decide +kernel | rfl)
  | tup ws => cases h; exact kit_b hc hk (by simp) (by cases k <;> first | decide +kernel | rfl)
theorem kit2 (R : Rel E α S H) (rv : Rp E α S.length H v x) (hc : ∀ d, d < E.nc → ClsF E d) {r : Bool} (h : isiV S cf v [.list, .tuple] = some r) : PySem.W.kitAny E.K (tyU S E v) [.type "list", .type "tuple"] = some r := by
  obtain ⟨r1, h1⟩ : ∃ r1, isiV S cf v [.list] = some r1 := by
    cases v with
    | loc l =>
      simp only [isiV] at h ⊢
      cases hs : S[l]? with
      | none => rw [hs] at h; cases h
      | some o => rw [hs] at h; cases o <;> first | exact ⟨_, rfl⟩ | cases h
    | _ => exact ⟨_, rfl⟩
  obtain ⟨r2, h2⟩ : ∃ r2, isiV S cf v [.tuple] = some r2 := by
    cases v with
    | loc l =>
      simp only [isiV] at h ⊢
      cases hs : S[l]? with
      | none => rw [hs] at h; cases h
      | some o => rw [hs] at h; cases o <;> first | exact ⟨_, rfl⟩ | cases h
    | _ => exact ⟨_, rfl⟩
  have e : r = (r1 || r2) := by
    cases v with
    | loc l =>
      simp only [isiV] at h h1 h2
      cases hs : S[l]? with
      | none => rw [hs] at h; cases h
      | some o =>
        rw [hs] at h h1 h2
        cases o with
        | lst ys => cases h; cases h1; cases h2; rfl
        | ins c fs => cases h; cases h1; cases h2; rfl
        | dic _ => cases h
        | dkn _ => cases h
    | _ => cases h; cases h1; cases h2; rfl
  have k1 : PySem.W.kitOne E.K (tyU S E v) (.type "list") = some r1 := kit1 R rv hc (k := .list) (fun _ z => nomatch z) h1
  have k2 : PySem.W.kitOne E.K (tyU S E v) (.type "tuple") = some r2 := kit1 R rv hc (k := .tuple) (fun _ z => nomatch z) h2
  unfold PySem.W.kitAny
  rw [k1]
  cases r1 with
  | true => rw [e]; rfl
  | false =>
    show PySem.W.kitAny E.K (tyU S E v) [.type "tuple"] = some r
    unfold PySem.W.kitAny
    rw [k2, e]
    cases r2 <;> rfl
end
structure KnOk (E : Cfg) (X : Cx) (k : KN) (e : Expr) : Prop where
  pe : PE X e (tC (knV k E))
  ns : notStar e = true
def isiM (cf : Cf) (ks : List KN) (ma : Env → Sto → Res PV) : Env → Sto → Res PV := fun ρ S => (ma ρ S).bind fun x S1 => .opt (isiV S1 cf x ks) fun k => .ok (.bl k) S1
theorem s_isi {cf : Cf} {k : KN} (hK : X.K = E.K) (hg : Gl X "isinstance") (hm : X.mg "isinstance" = none) (hc : ∀ d, d < E.nc → ClsF E d) (hk : ∀ d, k = .cls d → d < E.nc) (h0 : notStar a = true) (ha : PE X a (tE E W ma)) (hb : KnOk E X k b) :
    PE X (.Call (.Name "isinstance" p) [a, b] [] pos) (tE E W (isiM cf [k] ma)) := by
  refine PE.imp (pe_callB call_isi hg hm PyProof.Rows.boot_isinstance (pa_cons ha (pa_cons hb.pe pa_nil (star1 hb.ns)) (star1 h0)) (by decide) (by decide) (star1 h0) (stars (by simp [hb.ns]))) fun σ H Q h => ?_
  refine one (f := fun x S1 => .opt (isiV S1 cf x [k]) fun k => .ok (.bl k) S1) h fun α S v x H R rv kt => ?_
  obtain ⟨r, e, kt⟩ := kt.opt
  show rIsi X.K [x, knV k E] H Q
  rw [hK]
  exact ⟨x, knV k E, _, _, r, rfl, kn_cls k, ty_rd R rv e, kit1 R rv hc hk e, is_bl kt R⟩
theorem s_isi2 {cf : Cf} {b1 b2 : Expr} {j : Nat} {p2 : Pos} (hK : X.K = E.K) (hg : Gl X "isinstance") (hm : X.mg "isinstance" = none) (hc : ∀ d, d < E.nc → ClsF E d) (h0 : notStar a = true) (ha : PE X a (tE E W ma)) (hb1 : KnOk E X .list b1) (hb2 : KnOk E X .tuple b2) :
    PE X (.Call (.Name "isinstance" p) [a, .Tuple [b1, b2] j p2] [] pos) (tE E W (isiM cf [.list, .tuple] ma)) := by
  refine PE.imp (pe_callB call_isiT hg hm PyProof.Rows.boot_isinstance (pa_cons ha (pa_cons (pe_tup (pa_cons hb1.pe (pa_cons hb2.pe pa_nil (star1 hb2.ns)) (star1 hb1.ns))) pa_nil (star1 rfl)) (star1 h0)) (by decide) (by decide) (star1 h0) (stars rfl)) fun σ H Q h => ?_
  refine one (f := fun x S1 => .opt (isiV S1 cf x [.list, .tuple]) fun k => .ok (.bl k) S1) h fun α S v x H R rv kt => ?_
  obtain ⟨r, e, kt⟩ := kt.opt
  refine ⟨by show 2 ≤ sizeLine; rw [sizeLine_eq]; decide, fun q hq => ?_⟩
  show rIsiT X.K [x, .ref q] _ Q
  rw [hK]
  have x1 := Ext.fresh (α := α) (S := S) (o := .tup [V.ty "list", V.ty "tuple"]) hq
  exact ⟨x, q, _, _, [.type "list", .type "tuple"], r, rfl, upd_same, .cons (.ty _) (.cons (.ty _) .nil), ty_rd (R.fresh hq) (rv.ext x1) e, kit2 R rv hc e, is_bl (kt.move x1) (R.fresh hq)⟩
end
end PM
end
section
namespace PM
open PySem L2 PySem.Spec PyProof.Rows
def spF (E : Cfg) (cf : Cf) (f : Nat) : Sp := fun vs H Q Ex => ∃ α S args, Rel E α S H ∧ RpL E α S.length H args vs ∧ Kt E (fun cls d _ H => Ex cls d H) (Rp E) α S [] H (cf.fn f args S) Q
structure FnIn (E : Cfg) (cf : Cf) (X : Cx) (k : Nat) (f : Nat) (a : Addr) : Prop where
  kp : PySem.W.keepIn X.K (.ref a) = true
  ok : ∃ (fd : FuncData) (ps : List Str), Binds X.K fd ps [] ∧ FnOk X.prog X.w X.K X.mg X.base (L2.CX X.prog X.w) k a fd ps (spF E cf f)
def EmpK (K : PySem.W.Frag) (u : Addr) : Prop := ∃ (o : Obj) (its : Array Value) (n : Nat), K.lookup u = some o ∧ o.cls = .type "tuple" ∧ o.data = .seq its n ∧ its.size ≤ sizeLine ∧ Vals [] its.toList
structure FnD (E : Cfg) (cf : Cf) (X : Cx) (k : Nat) (f : Nat) (a : Addr) : Prop where
  kp : PySem.W.keepIn X.K (.ref a) = true
  ok : ∃ (fd : FuncData) (ps : List Str) (u : Addr), Binds X.K fd ps [.ref u] ∧ EmpK X.K u ∧ FnOk X.prog X.w X.K X.mg X.base (L2.CX X.prog X.w) k a fd ps (spF E cf f)
section
variable {E : Cfg} {W : WX} {X : Cx} {σ : L2.St} {H : Hp} {Q : VK} {ma mb mc : Env → Sto → Res PV} {a b c e : Expr} {pos p : Pos} {es : List Expr} {ms : Env → Sto → Res (List PV)} {cf : Cf} {f k : Nat} {x : Str} {fa : Addr}
theorem Kt.cast {α : Nat → Addr} {S : Sto} {r : Res PV} (kt : Kt E W (Rp E) α S σ H r Q) : Kt E (fun cls d _ H => WE W σ cls d H) (Rp E) α S [] H r Q := by
  cases r with
  | ok v S' => exact kt
  | exc c S' => exact kt
  | bad => exact kt
theorem s_call (F : FnIn E cf X k f fa) (hr : Room k X.A) (hg : Gl X x) (hm : X.mg x = some (.ref fa)) (tk : Takes X W) (h0 : (e :: es).all notStar = true) (ha : PA X (e :: es) (tA E W ms)) (hdb : (x == ("__debug__" : Str)) = false) :
    PE X (.Call (.Name x p) (e :: es) [] pos) (tE E W fun ρ S => (ms ρ S).bind fun vs S1 => cf.fn f vs S1) := by
  obtain ⟨kp, fd, ps, hb, ok⟩ := F
  simp only [List.all_cons, Bool.and_eq_true] at h0
  refine PE.imp (pe_callSD (E := WE W) (dvs := []) (ds := []) ok hr hg hm kp hb .nil (passAt tk) ha hdb (star1 h0.1) (stars h0.2)) fun σ H Q h => ?_
  refine many (f := fun vs S1 => cf.fn f vs S1) h fun α S vs xs H R rs kt => ?_
  rw [List.append_nil]
  exact ⟨α, S, vs, R, rs, kt.cast⟩
theorem s_call0 (F : FnIn E cf X k f fa) (hr : Room k X.A) (hg : Gl X x) (hm : X.mg x = some (.ref fa)) (tk : Takes X W) (hdb : (x == ("__debug__" : Str)) = false) :
    PE X (.Call (.Name x p) [] [] pos) (tE E W fun ρ S => cf.fn f [] S) := by
  obtain ⟨kp, fd, ps, hb, ok⟩ := F
  refine ⟨fun pins s σ H Q I h => ?_⟩
  obtain ⟨α, ρ, S, R, en, kt⟩ := h
  refine wpAny_Call_Name_kw (ld_glob I hg hm ?_ hdb)
  exact PySem.W.callWith_K0 I.kIn kp (run_fnSD (us := []) (vs := []) (dvs := []) (ds := []) (E := WE W) ok hr hb .nil (passAt tk σ) I .nil ⟨α, S, [], R, RpL.nil, kt.cast⟩)
mutual
def bd (n : Nat) : PV → Bool
  | .tup xs => bds n xs
  | .lst xs => bds n xs
  | .ro xs => bds n xs
  | .obj _ _ xs => bds n xs
  | .loc l => decide (l < n)
  | _ => true
def bds (n : Nat) : List PV → Bool
  | [] => true
  | x :: xs => bd n x && bds n xs
end
variable {α : Nat → Addr} {n m : Nat} {S S' : Sto}
mutual
theorem Rp.bd : ∀ (v : PV) (x : V), Rp E α n H v x → PM.bd n v = true
  | .non, _, _ => rfl
  | .bl _, _, _ => rfl
  | .int _, _, _ => rfl
  | .str _, _, _ => rfl
  | .tup vs, _, h => by simp only [Rp] at h; obtain ⟨a, xs, _, _, r⟩ := h; exact RpL.bd vs xs r
  | .lst vs, _, h => by simp only [Rp] at h; obtain ⟨a, xs, _, _, _, r⟩ := h; exact RpL.bd vs xs r
  | .ro vs, _, h => by simp only [Rp] at h; obtain ⟨a, xs, _, _, r⟩ := h; exact RpL.bd vs xs r
  | .obj c ns vs, _, h => by simp only [Rp] at h; obtain ⟨a, dx, fs, _, _, _, _, r, _⟩ := h; exact RpL.bd vs _ r
  | .loc l, _, h => by simp only [Rp] at h; simp only [PM.bd, decide_eq_true_eq]; exact h.1
theorem RpL.bd : ∀ (vs : List PV) (xs : List V), RpL E α n H vs xs → PM.bds n vs = true
  | [], _, _ => rfl
  | v :: vs, _, h => by
    simp only [RpL] at h
    obtain ⟨y, ys, _, h1, h2⟩ := h
    simp only [PM.bds, Bool.and_eq_true]
    exact ⟨Rp.bd v y h1, RpL.bd vs ys h2⟩
end
mutual
theorem Rp.low (hnm : n ≤ m) : ∀ (v : PV) (x : V), Rp E α m H v x → PM.bd n v = true → Rp E α n H v x
  | .non, _, h, _ => by simp only [Rp] at h ⊢; exact h
  | .bl _, _, h, _ => by simp only [Rp] at h ⊢; exact h
  | .int _, _, h, _ => by simp only [Rp] at h ⊢; exact h
  | .str _, _, h, _ => by simp only [Rp] at h ⊢; exact h
  | .tup vs, _, h, b => by simp only [Rp] at h ⊢; obtain ⟨a, xs, h1, h2, r⟩ := h; exact ⟨a, xs, h1, h2, RpL.low hnm vs xs r b⟩
  | .lst vs, _, h, b => by simp only [Rp] at h ⊢; obtain ⟨a, xs, h1, h2, h3, r⟩ := h; exact ⟨a, xs, h1, h2, fun l hl => h3 l (Nat.lt_of_lt_of_le hl hnm), RpL.low hnm vs xs r b⟩
  | .ro vs, _, h, b => by simp only [Rp] at h ⊢; obtain ⟨a, xs, h1, h2, r⟩ := h; exact ⟨a, xs, h1, h2.low hnm, RpL.low hnm vs xs r b⟩
  | .obj c ns vs, _, h, b => by simp only [Rp] at h ⊢; obtain ⟨a, dx, fs, h1, h2, h3, h4, r, cf⟩ := h; exact ⟨a, dx, fs, h1, h2, fun l hl => h3 l (Nat.lt_of_lt_of_le hl hnm), h4, RpL.low hnm vs _ r b, cf⟩
  | .loc l, _, h, b => by simp only [Rp] at h ⊢; simp only [PM.bd, decide_eq_true_eq] at b; exact ⟨b, h.2⟩
theorem RpL.low (hnm : n ≤ m) : ∀ (vs : List PV) (xs : List V), RpL E α m H vs xs → PM.bds n vs = true → RpL E α n H vs xs
  | [], _, h, _ => by simp only [RpL] at h ⊢; exact h
  | v :: vs, _, h, b => by
    simp only [RpL] at h ⊢
    obtain ⟨y, ys, e, h1, h2⟩ := h
    simp only [PM.bds, Bool.and_eq_true] at b
    exact ⟨y, ys, e, Rp.low hnm v y h1 b.1, RpL.low hnm vs ys h2 b.2⟩
end
def bdF (n : Nat) : List (PV × PV) → Bool
  | [] => true
  | p :: r => bd n p.2 && bdF n r
theorem DF.bd : ∀ (kvs : List (PV × PV)) (ks : List (Key × V)), DF E α n H kvs ks → bdF n kvs = true
  | [], _, _ => rfl
  | p :: r, _, h => by
    obtain ⟨k, y, ks', _, _, h2, h3⟩ := h
    simp only [bdF, Bool.and_eq_true]
    exact ⟨h2.bd _ _, DF.bd r ks' h3⟩
theorem DF.low (hnm : n ≤ m) : ∀ (kvs : List (PV × PV)) (ks : List (Key × V)), DF E α m H kvs ks → bdF n kvs = true → DF E α n H kvs ks
  | [], _, h, _ => h
  | p :: r, _, h, b => by
    obtain ⟨k, y, ks', e, h1, h2, h3⟩ := h
    simp only [bdF, Bool.and_eq_true] at b
    exact ⟨k, y, ks', e, h1, Rp.low hnm _ _ h2 b.1, DF.low hnm r ks' h3 b.2⟩
def bdK (n : Nat) : List (PV × PV) → Bool
  | [] => true
  | p :: r => bd n p.1 && bd n p.2 && bdK n r
theorem DN.bd : ∀ (kvs : List (PV × PV)) (ks : List (NestedKey × Addr × V)), DN E α n H kvs ks → bdK n kvs = true
  | [], _, _ => rfl
  | p :: r, _, h => by
    obtain ⟨k, b, y, ks', _, _, h2, h3, h4⟩ := h
    simp only [bdK, Bool.and_eq_true]
    exact ⟨⟨h2.bd _ _, h3.bd _ _⟩, DN.bd r ks' h4⟩
theorem DN.low (hnm : n ≤ m) : ∀ (kvs : List (PV × PV)) (ks : List (NestedKey × Addr × V)), DN E α m H kvs ks → bdK n kvs = true → DN E α n H kvs ks
  | [], _, h, _ => h
  | p :: r, _, h, b => by
    obtain ⟨k, b', y, ks', e, h1, h2, h3, h4⟩ := h
    simp only [bdK, Bool.and_eq_true] at b
    exact ⟨k, b', y, ks', e, h1, Rp.low hnm _ _ h2 b.1.1, Rp.low hnm _ _ h3 b.1.2, DN.low hnm r ks' h4 b.2⟩
def bdO (n : Nat) : MO → Bool
  | .lst vs => bds n vs
  | .dic kvs => bdF n kvs
  | .dkn kvs => bdK n kvs
  | .ins _ fs => bds n (fs.map (·.2))
theorem OR.bd {a : Addr} : ∀ {o : MO}, OR E α n H a o → bdO n o = true
  | .lst vs, ⟨xs, _, r⟩ => r.bd _ _
  | .dic kvs, ⟨ks, _, r⟩ => DF.bd _ _ r
  | .dkn kvs, ⟨ks, _, r⟩ => DN.bd _ _ r
  | .ins c fs, ⟨dx, gs, _, _, r, _⟩ => r.bd _ _
theorem OR.low (hnm : n ≤ m) {a : Addr} : ∀ {o : MO}, OR E α m H a o → bdO n o = true → OR E α n H a o
  | .lst vs, ⟨xs, e, r⟩, b => ⟨xs, e, r.low hnm _ _ b⟩
  | .dic kvs, ⟨ks, e, r⟩, b => ⟨ks, e, DF.low hnm _ _ r b⟩
  | .dkn kvs, ⟨ks, e, r⟩, b => ⟨ks, e, DN.low hnm _ _ r b⟩
  | .ins c fs, ⟨dx, gs, e, hn, r, cf⟩, b => ⟨dx, gs, e, hn, r.low hnm _ _ b, cf⟩
theorem take_get (ht : S'.take S.length = S) {l : Nat} {o : MO} (e : S[l]? = some o) : S'[l]? = some o := by
  have hl := (List.getElem?_eq_some_iff.mp e).1
  have q : (S'.take S.length)[l]? = some o := by rw [ht]; exact e
  rw [List.getElem?_take_of_lt hl] at q
  exact q
theorem take_le (ht : S'.take S.length = S) : S.length ≤ S'.length := by
  have := congrArg List.length ht
  rw [List.length_take] at this
  omega
variable {α' : Nat → Addr} {H' : Hp}
theorem Rel.back (R : Rel E α S H) (R' : Rel E α' S' H') (ht : S'.take S.length = S) : Rel E α' S H' :=
  ⟨R'.tab, fun i j hi hj e => R'.inj i j (Nat.lt_of_lt_of_le hi (take_le ht)) (Nat.lt_of_lt_of_le hj (take_le ht)) e,
   fun l o e => (R'.obj l o (take_get ht e)).low (take_le ht) (R.obj l o e).bd⟩
theorem Ext.back (x : Ext α S H α' S' H') : Ext α S H α' S H' := ⟨Nat.le_refl _, x.same, x.keep, x.tup, x.frz, x.dom, fun l h1 h2 => absurd h2 (Nat.not_lt.mpr h1)⟩
mutual
theorem Rp.sbst {g : Nat → Option PV} (hnm : n ≤ m) (hg : ∀ l t, g l = some t → ∀ y, Rp E α m H (.loc l) y → Rp E α n H t y) : ∀ (v t : PV) (x : V), Rp E α m H v x → PM.sbst g v = some t → Rp E α n H t x
  | .non, _, _, h, e => by simp only [PM.sbst, Option.some.injEq] at e; subst e; simp only [Rp] at h ⊢; exact h
  | .bl _, _, _, h, e => by simp only [PM.sbst, Option.some.injEq] at e; subst e; simp only [Rp] at h ⊢; exact h
  | .int _, _, _, h, e => by simp only [PM.sbst, Option.some.injEq] at e; subst e; simp only [Rp] at h ⊢; exact h
  | .str _, _, _, h, e => by simp only [PM.sbst, Option.some.injEq] at e; subst e; simp only [Rp] at h ⊢; exact h
  | .tup vs, _, _, h, e => by
    simp only [PM.sbst] at e
    obtain ⟨ts, e1, e2⟩ := Option.map_eq_some_iff.mp e
    subst e2
    simp only [Rp] at h ⊢
    obtain ⟨a, xs, h1, h2, r⟩ := h
    exact ⟨a, xs, h1, h2, RpL.sbst hnm hg vs ts xs r e1⟩
  | .lst vs, _, _, h, e => by
    simp only [PM.sbst] at e
    obtain ⟨ts, e1, e2⟩ := Option.map_eq_some_iff.mp e
    subst e2
    simp only [Rp] at h ⊢
    obtain ⟨a, xs, h1, h2, h3, r⟩ := h
    exact ⟨a, xs, h1, h2, fun l hl => h3 l (Nat.lt_of_lt_of_le hl hnm), RpL.sbst hnm hg vs ts xs r e1⟩
  | .ro vs, _, _, h, e => by
    simp only [PM.sbst] at e
    obtain ⟨ts, e1, e2⟩ := Option.map_eq_some_iff.mp e
    subst e2
    simp only [Rp] at h ⊢
    obtain ⟨a, xs, h1, h2, r⟩ := h
    exact ⟨a, xs, h1, h2.low hnm, RpL.sbst hnm hg vs ts xs r e1⟩
  | .obj c ns vs, _, _, h, e => by
    simp only [PM.sbst] at e
    obtain ⟨ts, e1, e2⟩ := Option.map_eq_some_iff.mp e
    subst e2
    simp only [Rp] at h ⊢
    obtain ⟨a, dx, fs, h1, h2, h3, h4, r, cf⟩ := h
    exact ⟨a, dx, fs, h1, h2, fun l hl => h3 l (Nat.lt_of_lt_of_le hl hnm), h4, RpL.sbst hnm hg vs ts _ r e1, cf⟩
  | .loc l, t, x, h, e => hg l t (by simpa only [PM.sbst] using e) x h
theorem RpL.sbst {g : Nat → Option PV} (hnm : n ≤ m) (hg : ∀ l t, g l = some t → ∀ y, Rp E α m H (.loc l) y → Rp E α n H t y) : ∀ (vs ts : List PV) (xs : List V), RpL E α m H vs xs → PM.sbsts g vs = some ts → RpL E α n H ts xs
  | [], _, _, h, e => by simp only [PM.sbsts, Option.some.injEq] at e; subst e; simp only [RpL] at h ⊢; exact h
  | v :: vs, _, _, h, e => by
    simp only [RpL] at h
    obtain ⟨y, ys, e1, h1, h2⟩ := h
    subst e1
    simp only [PM.sbsts] at e
    split at e
    · rename_i d ds e2 e3
      cases e
      exact RpL.cons (Rp.sbst hnm hg v d y h1 e2) (RpL.sbst hnm hg vs ds ys h2 e3)
    · cases e
end
theorem rd_frzL (R' : Rel E α' S' H') (hn : n ≤ S'.length) : ∀ (k l : Nat) (t : PV), frzL n S' k l = some t → ∀ y, Rp E α' S'.length H' (.loc l) y → Rp E α' n H' t y
  | 0, _, _, e => by simp [frzL] at e
  | k + 1, l, t, e => by
    intro y r
    simp only [frzL] at e
    simp only [Rp] at r
    obtain ⟨hl, rfl⟩ := r
    split at e
    · rename_i h
      cases e
      show Rp E α' n H' (.loc l) (.ref (α' l))
      simp only [Rp]
      exact ⟨h, trivial⟩
    · rename_i h
      have nl : ∀ j, j < n → α' j ≠ α' l := fun j hj z => h (by rw [← R'.inj j l (Nat.lt_of_lt_of_le hj hn) hl z]; exact hj)
      split at e
      · rename_i vs e1
        obtain ⟨ts, e2, e3⟩ := Option.map_eq_some_iff.mp e
        subst e3
        obtain ⟨xs, h1, h2⟩ := R'.obj l _ e1
        simp only [Rp]
        exact ⟨α' l, xs, rfl, h1, nl, RpL.sbst hn (rd_frzL R' hn k) vs ts xs h2 e2⟩
      · rename_i c fs e1
        obtain ⟨ts, e2, e3⟩ := Option.map_eq_some_iff.mp e
        subst e3
        obtain ⟨dx, gs, h1, h2, h3, cf⟩ := R'.obj l _ e1
        simp only [Rp]
        exact ⟨α' l, dx, gs, rfl, h1, nl, h2, RpL.sbst hn (rd_frzL R' hn k) _ ts _ h3 e2, cf⟩
      · cases e
theorem fz_is {m : Env → Sto → Res PV} (h : tE E W (fun ρ S => fzR S (m ρ S)) σ H Q) : tE E W m σ H Q := by
  obtain ⟨α, ρ, S, R, en, kt⟩ := h
  refine ⟨α, ρ, S, R, en, ?_⟩
  have kt : Kt E W (Rp E) α S σ H (fzR S (m ρ S)) Q := kt
  cases hm : m ρ S with
  | bad => rw [hm] at kt; exact kt.elim
  | exc c S' =>
    rw [hm] at kt
    simp only [fzR] at kt
    split at kt
    · rename_i ht
      exact fun α' H' e R' => kt α' H' e.back (R.back R' ht)
    · exact kt
  | ok v S' =>
    rw [hm] at kt
    simp only [fzR] at kt
    split at kt
    · rename_i ht
      obtain ⟨t, e1, kt⟩ := kt.opt
      exact fun α' x H' e R' rv => kt α' x H' e.back (R.back R' ht) (Rp.sbst (take_le ht) (rd_frzL R' (take_le ht) 8) v t x rv e1)
    · exact kt.elim
end
end PM
end
section
namespace PM
open PySem L2 PySem.Spec PyProof.Rows
section
variable {E : Cfg} {W : WX} {X : Cx} {σ : L2.St} {H : Hp} {Q : VK} {ma mb mc : Env → Sto → Res PV} {a b c e : Expr} {pos p : Pos} {es : List Expr} {ms : Env → Sto → Res (List PV)} {cf : Cf}

def plainOb : Expr → Bool
  | .Call (.Name x _) [] [] _ => decide (x ≠ "super")
  | _ => true
theorem base_ok {x : Str} {env : PySem.Env} {w : Sem Value} (h : plainOb e = true) : attributeBase e x env w = w := by
  unfold attributeBase
  split
  · rename_i id p2 p3
    simp only [plainOb, decide_eq_true_eq] at h
    rw [if_pos (by simp [h])]
  · rfl
theorem star_all : ∀ (es : List Expr) (env : PySem.Env), es.all notStar = true → ∀ x ∈ starEach es env, x.1 = false
  | [], _, _, x, hx => by simp [starEach] at hx
  | e :: es, env, h, x, hx => by
    simp only [List.all_cons, Bool.and_eq_true] at h
    rw [star1 h.1] at hx
    rcases List.mem_cons.mp hx with rfl | hx
    · rfl
    · exact star_all es env h.2 x hx
theorem back_all {es : List Expr} {env : PySem.Env} (h : es.all notStar = true) : (backTo pos (starEach es env)).any (·.1) = false := by
  rw [List.any_eq_false]
  intro x hx
  obtain ⟨y, hy, rfl⟩ := List.mem_map.mp hx
  have := star_all es env h y hy
  simp [this]
theorem few_ok {es : List Expr} {env : PySem.Env} (h : (es.all notStar && decide (es.length < 29)) = true) : ((backTo pos (starEach es env)).all (fun x => !x.1) && (backToKw pos (keywordEach [] env)).all (fun x => x.1.isSome)
      && decide (es.length + ([] : List Keyword).length + (if ([] : List Keyword).isEmpty then 0 else 1) < 30)) = true := by
  simp only [Bool.and_eq_true, decide_eq_true_eq] at h
  simp only [Bool.and_eq_true, List.all_eq_true, decide_eq_true_eq]
  refine ⟨⟨fun x hx => ?_, ?_⟩, ?_⟩
  · obtain ⟨y, hy, rfl⟩ := List.mem_map.mp hx
    have := star_all es env h.1 y hy
    simp [this]
  · intro x hx
    simp [backToKw, keywordEach] at hx
  · have := h.2
    simp
    omega
variable {α : Nat → Addr} {S : Sto} {v : PV} {x : V} {xs : List V} {vs : List PV}
theorem rd_live (R : Rel E α S H) {l : Nat} {vs : List PV} (rv : Rp E α S.length H (.loc l) x) (e : S[l]? = some (.lst vs)) : ∃ xs, l < S.length ∧ x = .ref (α l) ∧ H (α l) = some (.lst xs) ∧ RpL E α S.length H vs xs := by
  obtain ⟨xs, e1, r⟩ := R.obj l _ e
  simp only [Rp] at rv
  exact ⟨xs, rv.1, rv.2, e1, r⟩
theorem lmK_lst {m : LM} (h1 : m = .append ∨ m = .pop0) (h : lmK m S v = true) : ∃ l vs, v = .loc l ∧ S[l]? = some (.lst vs) := by
  rcases h1 with rfl | rfl <;>
  · simp only [lmK] at h
    split at h
    · split at h
      · exact ⟨_, _, rfl, by assumption⟩
      · cases h
    · cases h
theorem append_rd (R : Rel E α S H) (rv : Rp E α S.length H v x) (rs : RpL E α S.length H vs xs) (kt : Kt E W (Rp E) α S σ H (lmV .append S v vs) Q) : rAppend x xs H Q := by
  unfold lmV at kt
  split at kt <;> first | exact kt.elim | skip
  · rename_i l w h
    simp only [RpL] at rs
    obtain ⟨y, _, rfl, ry, rfl⟩ := rs
    split at kt
    · rename_i ws e
      obtain ⟨ys, hl, rfl, hH, r⟩ := rd_live R rv e
      obtain ⟨hz, kt⟩ := kt.need
      have hz := of_decide_eq_true hz
      refine ⟨α l, ys, y, rfl, rfl, hH, by rw [← r.len, ← lim_eq]; exact hz, ?_⟩
      have kt : Kt E W (Rp E) α S σ H (.ok .non (S.set l (.lst (ws ++ [w])))) Q := kt
      have xt := Ext.wrote (o := .lst (ys ++ [y])) (m := .lst (ws ++ [w])) R hl
      have rr := RpL.ext xt _ _ (r.append (RpL.cons ry RpL.nil))
      refine kt α .non _ xt (R.wrote hl ⟨_, upd_same, by simpa using rr⟩) (by simp only [Rp])
    · exact kt.elim
  all_goals simp_all
theorem pop_rd (R : Rel E α S H) (rv : Rp E α S.length H v x) (rs : RpL E α S.length H vs xs) (kt : Kt E W (Rp E) α S σ H (lmV .pop0 S v vs) Q) : rPop x xs H Q := by
  unfold lmV at kt
  split at kt <;> first | exact kt.elim | skip
  all_goals first
    | (rename_i l h
       simp only [RpL] at rs
       subst rs
       split at kt
       · rename_i ws e
         obtain ⟨ys, hl, rfl, hH, r⟩ := rd_live R rv e
         obtain ⟨w, ew, kt⟩ := kt.opt
         obtain ⟨y, ey, ry⟩ := r.get ew
         refine ⟨α l, ys, y, rfl, rfl, hH, by rw [← r.len]; exact ey, ?_⟩
         have kt : Kt E W (Rp E) α S σ H (.ok w (S.set l (.lst ws.dropLast))) Q := kt
         have xt := Ext.wrote (o := .lst ys.dropLast) (m := .lst ws.dropLast) R hl
         have rr := RpL.ext xt _ _ r.dropLast
         have ry := Rp.ext xt _ _ ry
         exact kt α y _ xt (R.wrote hl ⟨_, upd_same, by simpa using rr⟩) ry
       · exact kt.elim)
    | simp_all
theorem s_lm {m : LM} {nm : Str} {id : String} {r : V → List V → Hp → VK → Prop} (h1 : m = .append ∨ m = .pop0) (slot : Slot "list" nm id) (hty : typeOf (.builtin id) = pure (.type "method_descriptor")) (hm : MtR X id r) (hK : X.K = E.K)
    (h0 : ((e :: es).all notStar && decide ((e :: es).length < 29)) = true) (hb : plainOb a = true) (hl : (p.endLine == pos.line) = true) (ha : PE X a (tE E W ma)) (hs : PA X (e :: es) (tA E W ms))
    (k : ∀ α S v x vs xs σ H Q, Rel E α S H → Rp E α S.length H v x → RpL E α S.length H vs xs → Kt E W (Rp E) α S σ H (lmV m S v vs) Q → r x xs H Q) :
    PE X (.Call (.Attribute a nm p) (e :: es) [] pos) (tE E W fun ρ S => (ma ρ S).bind fun x S1 => .need (lmK m S1 x) ((ms ρ S1).bind fun vs S2 => lmV m S2 x vs)) := by
  have h00 : (e :: es).all notStar = true := by simp only [Bool.and_eq_true] at h0; exact h0.1
  have h01 : notStar e = true ∧ es.all notStar = true := by simp only [List.all_cons, Bool.and_eq_true] at h00; exact h00
  refine PE.imp (pe_bm PySem.F.plainAttrs_list slot hty hm ha hs (base_ok hb) (few_ok h0) hl (star1 h01.1) (back_all h01.2)) fun σ H Q h => ?_
  refine tG.first (R := Rp E) (f := fun x ρ S1 => .need (lmK m S1 x) ((ms ρ S1).bind fun vs S2 => lmV m S2 x vs)) h fun α ρ S v x H1 R en rv kt => ?_
  obtain ⟨hk, kt⟩ := kt.need
  refine ⟨?_, ?_⟩
  · obtain ⟨l, vs, rfl, e1⟩ := lmK_lst h1 hk
    obtain ⟨xs, _, rfl, e2, _⟩ := rd_live R rv e1
    exact .inl ⟨rfl, xs, .of e2⟩
  · refine ⟨α, ρ, S, R, en, Kt.bind kt fun vs S2 α2 xs H2 x2 R2 rs kt => ?_⟩
    exact k α2 S2 v x vs xs σ H2 Q R2 (rv.ext x2) rs kt
theorem s_lm0 {m : LM} {nm : Str} {id : String} {r : V → List V → Hp → VK → Prop} (h1 : m = .append ∨ m = .pop0) (slot : Slot "list" nm id) (hty : typeOf (.builtin id) = pure (.type "method_descriptor")) (hm : MtR X id r) (hK : X.K = E.K)
    (hb : plainOb a = true) (hl : (p.endLine == pos.line) = true) (ha : PE X a (tE E W ma))
    (k : ∀ α S v x vs xs σ H Q, Rel E α S H → Rp E α S.length H v x → RpL E α S.length H vs xs → Kt E W (Rp E) α S σ H (lmV m S v vs) Q → r x xs H Q) :
    PE X (.Call (.Attribute a nm p) [] [] pos) (tE E W fun ρ S => (ma ρ S).bind fun x S1 => .need (lmK m S1 x) ((Res.ok [] S1 : Res (List PV)).bind fun vs S2 => lmV m S2 x vs)) := by
  refine PE.imp (pe_bm0 PySem.F.plainAttrs_list slot hty hm ha (base_ok hb) hl) fun σ H Q h => ?_
  refine tG.first (R := Rp E) (f := fun x ρ S1 => .need (lmK m S1 x) ((Res.ok [] S1 : Res (List PV)).bind fun vs S2 => lmV m S2 x vs)) h fun α ρ S v x H1 R en rv kt => ?_
  obtain ⟨hk, kt⟩ := kt.need
  refine ⟨?_, ?_⟩
  · obtain ⟨l, vs, rfl, e1⟩ := lmK_lst h1 hk
    obtain ⟨xs, _, rfl, e2, _⟩ := rd_live R rv e1
    exact .inl ⟨rfl, xs, .of e2⟩
  · exact k α S v x [] [] σ H1 Q R rv RpL.nil kt
end
end PM
end
section
namespace PM
open PySem L2 PySem.Spec PyProof.Rows
section
variable {E : Cfg} {W : WX} {X : Cx} {σ : L2.St} {H : Hp} {Q : VK} {ma mb mc : Env → Sto → Res PV} {a b c e : Expr} {pos p : Pos} {es : List Expr} {ms : Env → Sto → Res (List PV)} {cf : Cf}

def RI (E : Cfg) (α : Nat → Addr) (n : Nat) (H : Hp) (I : Itm) (J : It) : Prop := ∀ (S : Sto) (α' : Nat → Addr) (S' : Sto) (H' : Hp), S.length = n → Ext α S H α' S' H' → Rel E α' S' H' → I.same S' = true →
  (∀ i v, I.xs[i]? = some v → J.go i H' ∧ ∀ x H2, J.yld i H' x H2 → Ext α' S' H' α' S' H2 ∧ Rel E α' S' H2 ∧ Rp E α' S'.length H2 v x) ∧ J.stop I.xs.length H'
abbrev tI (E : Cfg) (W : WX) (m : Env → Sto → Res Itm) : TI := tG E W (RI E) m
theorem PI.imp {tg iter : Expr} {t t' : TI} (h : PI X tg iter t) (k : ∀ σ H R, t' σ H R → t σ H R) : PI X tg iter t' := ⟨fun pins s σ H R I q => h.run pins s σ H R I (k σ H R q)⟩
def iSeq (K : PySem.W.Frag) (tl : TE) : TI := fun σ H R => tl σ H fun x H1 => ∃ a xs, x = .ref a ∧ ((SqL K H1 a xs ∧ R (Itl K a) H1) ∨ (SqT K H1 a xs ∧ R (Itt K a) H1))
def iSeqS (K : PySem.W.Frag) (tl : TE) : TI := fun σ H R => tl σ H fun x H1 => (∃ z, x = .str z ∧ R (Its z) H1) ∨ ∃ a xs, x = .ref a ∧ ((SqL K H1 a xs ∧ R (Itl K a) H1) ∨ (SqT K H1 a xs ∧ R (Itt K a) H1))
theorem pi_seq {tg l : Expr} {tl : TE} (hl : PE X l tl) : PI X tg l (iSeqS X.K tl) := by
  refine ⟨fun pins s σ H R I h => ?_⟩
  refine thn (hl.run pins s σ H _ I h) fun v s1 ⟨x, H1, I1, r1, q1⟩ => ?_
  rcases q1 with ⟨z, e, q⟩ | ⟨a, xs, e, q⟩
  · subst e
    obtain ⟨t, rfl⟩ := r1
    cases ha : z.cps.all (· < 128) with
    | false => exact wpAny_pyIter_wide ha (pi_one (tk := s1.toks) I1 _ (turn_str _ z t "str_iterator" (.inr rfl)) ⟨_, Heap.get?_push_size _ rfl, rfl, rfl⟩ q)
    | true => exact wpAny_pyIter_ascii ha (pi_one (tk := s1.toks) I1 _ (turn_str _ z t "str_ascii_iterator" (.inl rfl)) ⟨_, Heap.get?_push_size _ rfl, rfl, rfl⟩ q)
  subst e
  cases r1
  rcases q with ⟨hq, q⟩ | ⟨hq, q⟩
  · obtain ⟨its, rv, p, hz⟩ := I1.list hq
    refine wpAny_pyIter_list p.isList ?_
    refine ⟨s1.heap.objs.size, [s1.heap.objs.size], _, _, H1, rfl, I1.kept (t' := s1.toks) fun b o e => Heap.get?_push_of_some _ e, turn_list a _, ⟨_, Heap.get?_push_size _ rfl, rfl, rfl⟩, fun b hb => ?_, q⟩
    have e : b = s1.heap.objs.size := by simpa using hb
    subst e
    exact I1.fpOk (Nat.le_refl _) (I1.hok.fresh (Nat.le_refl _))
  · obtain ⟨its, rv, p, hz⟩ := I1.tuple hq
    refine wpAny_pyIter_tuple (show s1.heap.IsTuple a its.toArray from p) ?_
    refine ⟨s1.heap.objs.size, [s1.heap.objs.size], _, _, H1, rfl, I1.kept (t' := s1.toks) fun b o e => Heap.get?_push_of_some _ e, turn_tuple a _, ⟨_, Heap.get?_push_size _ rfl, rfl, rfl⟩, fun b hb => ?_, q⟩
    have e : b = s1.heap.objs.size := by simpa using hb
    subst e
    exact I1.fpOk (Nat.le_refl _) (I1.hok.fresh (Nat.le_refl _))
variable {α : Nat → Addr} {S : Sto} {v : PV} {x : V} {xs : List V} {vs : List PV}
theorem ri_seq {a : Addr} {same : Sto → Bool} (ht : (∃ ys, SqL E.K H a ys) ∨ (∃ ys, SqT E.K H a ys)) (J : It) (hJ : J = Itl E.K a ∧ (∃ ys, SqL E.K H a ys) ∨ J = Itt E.K a ∧ ∃ ys, SqT E.K H a ys) : True := trivial
theorem rd_seqL (R : Rel E α S H) {v : PV} {x : V} {vs : List PV} (r : Rp E α S.length H v x) (e : seqOf S v = some vs) : ((∀ ws, v ≠ .tup ws) ∧ ∃ a xs, x = .ref a ∧ SqL E.K H a xs ∧ RpL E α S.length H vs xs) ∨ ((∃ ws, v = .tup ws) ∧ ∃ a xs, x = .ref a ∧ SqT E.K H a xs ∧ RpL E α S.length H vs xs) := by
  unfold seqOf at e
  split at e
  · cases e
    exact .inr ⟨⟨_, rfl⟩, rd_tup r⟩
  · rename_i h
    exact .inl ⟨fun ws => h ws, rd_lst R r e⟩
theorem s_seqI {tg : Expr} (hK : X.K = E.K) (ha : PE X a (tE E W ma)) : PI X tg a (tI E W fun ρ S => (ma ρ S).bind fun v S1 => .opt (seqI S1 v) fun J => .ok J S1) := by
  refine PI.imp (pi_seq ha) fun σ H R h => ?_
  refine tG.first (R := RI E) (R' := Rp E) (f := fun v ρ S1 => .opt (seqI S1 v) fun J => .ok J S1) h fun α ρ S v x H1 R1 en rv kt => ?_
  obtain ⟨J, eJ, kt⟩ := kt.opt
  unfold seqI at eJ
  split at eJ
  · rename_i z
    cases eJ
    simp only [Rp] at rv
    refine .inl ⟨z, rv, kt.here R1 fun S0 α' S' H' hS x' R' _ => ⟨fun i w hw => ?_, ?_⟩⟩
    · unfold signs at hw
      rw [List.getElem?_map] at hw
      obtain ⟨c, e1, rfl⟩ := Option.map_eq_some_iff.mp hw
      have e1 : z.cps[i]? = some c := by rw [← e1]; simp
      refine ⟨(Array.getElem?_eq_some_iff.mp e1).1, fun y H2 hy => ?_⟩
      obtain ⟨rfl, c', e2, rfl⟩ := hy
      rw [e1] at e2; cases e2
      exact ⟨Ext.refl, R', by simp only [Rp]⟩
    · show z.cps.size ≤ (signs z).length
      simp [signs]
  split at eJ
  · cases eJ
  · rename_i hk
    refine .inr ?_
    obtain ⟨vs, e1, e2⟩ := Option.map_eq_some_iff.mp eJ
    subst e2
    rcases rd_seqL R1 rv e1 with ⟨hn, a, xs, rfl, hq, rs⟩ | ⟨hn, a, xs, rfl, hq, rs⟩
    · refine ⟨a, xs, rfl, .inl ⟨by rw [hK]; exact hq, ?_⟩⟩
      refine kt.here R1 fun S0 α' S' H' hS x' R' sm => ?_
      have sm := of_decide_eq_true sm
      have rv' : Rp E α' S'.length H' v (.ref a) := Rp.ext (S := S0) x' v _ (by rw [hS]; exact rv)
      rcases rd_seqL R' rv' sm with ⟨_, a', ys, ea, hq', rs'⟩ | ⟨⟨ws, hw⟩, _⟩
      · cases ea
        refine ⟨fun i w hw => ?_, ⟨ys, by rw [hK]; exact hq', by rw [← rs'.len]; exact Nat.le_refl _⟩⟩
        obtain ⟨y, ey, ry⟩ := rs'.get hw
        refine ⟨⟨ys, y, by rw [hK]; exact hq', ey⟩, fun z H2 ⟨e2, hz⟩ => ?_⟩
        subst e2
        have hz := hz ys (by rw [hK]; exact hq')
        rw [ey] at hz; cases hz
        exact ⟨Ext.refl, R', ry⟩
      · exact absurd hw (hn ws)
    · refine ⟨a, xs, rfl, .inr ⟨by rw [hK]; exact hq, ?_⟩⟩
      refine kt.here R1 fun S0 α' S' H' hS x' R' sm => ?_
      have sm := of_decide_eq_true sm
      have rv' : Rp E α' S'.length H' v (.ref a) := Rp.ext (S := S0) x' v _ (by rw [hS]; exact rv)
      rcases rd_seqL R' rv' sm with ⟨hn', _⟩ | ⟨_, a', ys, ea, hq', rs'⟩
      · obtain ⟨ws, hw⟩ := hn; exact absurd hw (hn' ws)
      · cases ea
        refine ⟨fun i w hw => ?_, ⟨ys, by rw [hK]; exact hq', by rw [← rs'.len]; exact Nat.le_refl _⟩⟩
        obtain ⟨y, ey, ry⟩ := rs'.get hw
        refine ⟨⟨ys, y, by rw [hK]; exact hq', ey⟩, fun z H2 ⟨e2, hz⟩ => ?_⟩
        subst e2
        have hz := hz ys (by rw [hK]; exact hq')
        rw [ey] at hz; cases hz
        exact ⟨Ext.refl, R', ry⟩
theorem okR_is {lo hi : Int} (h : okR lo hi = true) : -(2 ^ 62) ≤ lo ∧ lo < 2 ^ 62 ∧ -(2 ^ 62) ≤ hi ∧ hi < 2 ^ 62 ∧ (hi - lo).toNat ≤ LIM := by
  simp only [okR, Bool.and_eq_true, decide_eq_true_eq] at h
  obtain ⟨⟨⟨⟨h1, h2⟩, h3⟩, h4⟩, h5⟩ := h
  exact ⟨by omega, by omega, by omega, by omega, h5⟩
theorem rngL_get {lo hi : Int} {i : Nat} {v : PV} (h : (rngL lo hi)[i]? = some v) : i < (hi - lo).toNat ∧ v = .int (lo + i) := by
  unfold rngL at h
  rw [List.getElem?_map] at h
  obtain ⟨j, e1, e2⟩ := Option.map_eq_some_iff.mp h
  obtain ⟨hj, e3⟩ := List.getElem?_eq_some_iff.mp e1
  simp at hj e3
  subst e3
  exact ⟨by omega, e2.symm⟩
theorem rngL_len {lo hi : Int} : (rngL lo hi).length = (hi - lo).toNat := by unfold rngL; simp
theorem ri_rng {lo hi : Int} : RI E α S.length H ⟨rngL lo hi, fun _ => true⟩ (Itr lo (hi - lo).toNat) := fun S0 α' S' H' _ x' R' _ => by
  refine ⟨fun i v h => ?_, ?_⟩
  · obtain ⟨hi', rfl⟩ := rngL_get h
    refine ⟨hi', fun z H2 ⟨e1, e2⟩ => ?_⟩
    subst e1
    exact ⟨Ext.refl, R', by simp only [Rp]; exact e2⟩
  · show (hi - lo).toNat ≤ (rngL lo hi).length
    rw [rngL_len]; exact Nat.le_refl _
theorem tA_one {P : List V → Hp → Prop} (h : tE E W ma σ H fun x H1 => P [x] H1) : tA E W (fun ρ S => (ma ρ S).bind fun v S1 => (Res.ok [] S1 : Res (List PV)).bind fun vs S2 => .ok (v :: vs) S2) σ H P := by
  obtain ⟨α, ρ, S, R, en, kt⟩ := h
  refine ⟨α, ρ, S, R, en, ?_⟩
  show Kt E W (RpL E) α S σ H ((ma ρ S).bind fun v S1 => .ok [v] S1) P
  have kt : Kt E W (Rp E) α S σ H (ma ρ S) (fun x H1 => P [x] H1) := kt
  cases hm : ma ρ S with
  | bad => rw [hm] at kt; exact kt
  | exc c S' => rw [hm] at kt; exact kt
  | ok v S1 =>
    rw [hm] at kt
    intro α' xs H' e R' rs
    obtain ⟨x, rfl, r⟩ := rl1 rs
    exact kt α' x H' e R' r
theorem tA_two {P : List V → Hp → Prop} (h : tE E W ma σ H fun x H1 => tE E W mb σ H1 fun y H2 => P [x, y] H2) :
    True := trivial
theorem s_rng1 {tg : Expr} (hg : Gl X "range") (hm : X.mg "range" = none) (h0 : notStar a = true) (ha : PE X a (tE E W ma)) :
    PI X tg (.Call (.Name "range" p) [a] [] pos) (tI E W fun ρ S => (ma ρ S).bind fun v S1 => match v with | .int n => .need (okR 0 n) (.ok ⟨rngL 0 n, fun _ => true⟩ S1) | _ => .bad) := by
  refine PI.imp (pi_range1 hg hm (a_cons h0 ha a_nil) (star1 h0)) fun σ H R h => ?_
  refine tA_one ?_
  refine tG.first (R := RI E) (R' := Rp E) (f := fun v ρ S1 => match v with | .int n => .need (okR 0 n) (.ok ⟨rngL 0 n, fun _ => true⟩ S1) | _ => .bad) h fun α ρ S v x H1 R1 en rv kt => ?_
  split at kt
  · rename_i n
    simp only [Rp] at rv
    subst rv
    obtain ⟨ok, kt⟩ := kt.need
    obtain ⟨h1, h2, h3, h4, h5⟩ := okR_is ok
    refine ⟨n, rfl, h3, h4, ?_⟩
    have q := kt.here (x := Itr 0 (n - 0).toNat) R1 ri_rng
    rwa [Int.sub_zero] at q
  · exact kt.elim
theorem s_rng2 {tg : Expr} (hg : Gl X "range") (hm : X.mg "range" = none) (h0 : notStar a = true) (h1 : notStar b = true) (ha : PE X a (tE E W ma)) (hb : PE X b (tE E W mb)) :
    PI X tg (.Call (.Name "range" p) [a, b] [] pos) (tI E W fun ρ S => (ma ρ S).bind fun v S1 => (mb ρ S1).bind fun u S2 => match v, u with | .int m, .int n => .need (okR m n) (.ok ⟨rngL m n, fun _ => true⟩ S2) | _, _ => .bad) := by
  refine PI.imp (pi_range2 hg hm (a_cons h0 ha (a_cons h1 hb a_nil)) (by rw [star1 h0, star1 h1]; rfl) (star1 h1)) fun σ H R h => ?_
  refine tG.first (Q := R) (R := RI E) (R' := RpL E) (f := fun vs ρ S2 => match vs with | [.int m, .int n] => .need (okR m n) (.ok ⟨rngL m n, fun _ => true⟩ S2) | _ => .bad) ?_ fun α ρ S vs xs H1 R1 en rs kt => ?_
  · obtain ⟨α, ρ, S, R, en, kt⟩ := h
    refine ⟨α, ρ, S, R, en, ?_⟩
    revert kt
    show Kt E W (RI E) α S σ H ((ma ρ S).bind fun v S1 => (mb ρ S1).bind fun u S2 => match v, u with | .int m, .int n => .need (okR m n) (.ok ⟨rngL m n, fun _ => true⟩ S2) | _, _ => .bad) _ → Kt E W (RI E) α S σ H (((ma ρ S).bind fun v S1 => ((mb ρ S1).bind fun u S2 => (Res.ok [] S2 : Res (List PV)).bind fun vs S3 => .ok (u :: vs) S3).bind fun vs S2 => .ok (v :: vs) S2).bind fun vs S2 => match vs with | [.int m, .int n] => .need (okR m n) (.ok ⟨rngL m n, fun _ => true⟩ S2) | _ => .bad) _
    intro kt
    cases hma : ma ρ S with
    | bad => rw [hma] at kt; exact kt
    | exc c S' => rw [hma] at kt; exact kt
    | ok v S1 =>
      rw [hma] at kt
      simp only [Res.bind] at kt ⊢
      cases hmb : mb ρ S1 with
      | bad => rw [hmb] at kt; exact kt
      | exc c S' => rw [hmb] at kt; exact kt
      | ok u S2 =>
        rw [hmb] at kt
        simp only at kt ⊢
        split at kt
        · exact kt
        · exact kt.elim
  · split at kt
    · rename_i m n
      obtain ⟨x, y, rfl, r1, r2⟩ := rl2 rs
      simp only [Rp] at r1 r2
      subst r1 r2
      obtain ⟨ok, kt⟩ := kt.need
      obtain ⟨h1, h2, h3, h4, h5⟩ := okR_is ok
      exact ⟨m, n, rfl, ⟨h1, h2, h3, h4⟩, kt.here R1 ri_rng⟩
    · exact kt.elim
end
end PM
end
section
namespace PM
open PySem L2 PySem.Spec PyProof.Rows
section
variable {E : Cfg} {W : WX} {X : Cx} {σ : L2.St} {H : Hp} {Q : VK} {ma mb mc : Env → Sto → Res PV} {a b c e : Expr} {pos p tpos : Pos} {es elts : List Expr} {kk : Nat}
variable {α : Nat → Addr} {S : Sto} {v : PV} {x : V} {xs : List V} {vs : List PV}
theorem zipK_is {v u : PV} (h : zipK v u = true) : ((∃ ws, v = .tup ws) ∧ ∃ ws, u = .tup ws) ∨ ((∀ ws, v ≠ .tup ws) ∧ ∀ ws, u ≠ .tup ws) := by
  cases v <;> cases u <;> simp [zipK] at h ⊢
theorem rd_l (R : Rel E α S H) {v : PV} {x : V} {vs : List PV} (hn : ∀ ws, v ≠ .tup ws) (r : Rp E α S.length H v x) (e : seqOf S v = some vs) : ∃ a xs, x = .ref a ∧ SqL E.K H a xs ∧ RpL E α S.length H vs xs := by
  rcases rd_seqL R r e with ⟨_, q⟩ | ⟨⟨ws, hw⟩, _⟩
  · exact q
  · exact absurd hw (hn ws)
theorem rd_t (R : Rel E α S H) {v : PV} {x : V} {vs : List PV} (hn : ∃ ws, v = .tup ws) (r : Rp E α S.length H v x) (e : seqOf S v = some vs) : ∃ a xs, x = .ref a ∧ SqT E.K H a xs ∧ RpL E α S.length H vs xs := by
  rcases rd_seqL R r e with ⟨h, _⟩ | ⟨_, q⟩
  · obtain ⟨ws, hw⟩ := hn; exact absurd hw (h ws)
  · exact q
theorem zip_get {vs us : List PV} {i : Nat} {w : PV} (h : ((vs.zip us).map fun p => PV.tup [p.1, p.2])[i]? = some w) : ∃ v u, vs[i]? = some v ∧ us[i]? = some u ∧ w = .tup [v, u] := by
  rw [List.getElem?_map] at h
  obtain ⟨⟨v, u⟩, e1, e2⟩ := Option.map_eq_some_iff.mp h
  obtain ⟨h1, h2⟩ := List.getElem?_zip_eq_some.mp e1
  exact ⟨v, u, h1, h2, e2.symm⟩
theorem zip_nm {vs us : List PV} {i : Nat} {v u : PV} (al : ((vs.zip us).all fun p => !nmC [p.1, p.2]) = true) (e1 : vs[i]? = some v) (e2 : us[i]? = some u) : nmC [v, u] = false := by
  have := List.all_eq_true.mp al (v, u) (List.mem_of_getElem? (List.getElem?_zip_eq_some.mpr ⟨e1, e2⟩))
  simpa using this
theorem zip_new {α' : Nat → Addr} {S' : Sto} {H' : Hp} (R : Rel E α' S' H') {T : Addr} {v u : PV} {x y : V} (nm : nmC [v, u] = false) (hT : H' T = none) (rv : Rp E α' S'.length H' v x) (ru : Rp E α' S'.length H' u y) :
    Ext α' S' H' α' S' (upd H' T (.tup [x, y])) ∧ Rel E α' S' (upd H' T (.tup [x, y])) ∧ Rp E α' S'.length (upd H' T (.tup [x, y])) (.tup [v, u]) (.ref T) := by
  have xx : Ext α' S' H' α' S' (upd H' T (.tup [x, y])) := Ext.fresh hT
  refine ⟨xx, R.fresh hT, ?_⟩
  simp only [Rp]
  have r1 := Rp.ext (E := E) xx v x rv
  have r2 := Rp.ext (E := E) xx u y ru
  refine ⟨T, [x, y], rfl, ⟨.inl (.inl (upd_same ..)), fun z => ?_⟩, ?_⟩
  · rw [← RpL.nm (RpL.cons rv (RpL.cons ru RpL.nil)), nm] at z; cases z
  simp only [RpL]
  exact ⟨x, [y], rfl, r1, y, [], rfl, r2, rfl⟩
theorem s_zip (hK : X.K = E.K) (hg : Gl X "zip") (hm : X.mg "zip" = none) (h0 : notStar a = true) (h1 : notStar b = true) (ha : PE X a (tE E W ma)) (hb : PE X b (tE E W mb)) :
    PI X (.Tuple elts kk tpos) (.Call (.Name "zip" p) [a, b] [] pos) (tI E W fun ρ S => (ma ρ S).bind fun v S1 => (mb ρ S1).bind fun u S2 => .need (zipK v u) <| .opt (seqOf S2 v) fun xs => .opt (seqOf S2 u) fun ys => .need ((xs.zip ys).all fun p => !nmC [p.1, p.2]) <|
      .ok ⟨(xs.zip ys).map fun p => .tup [p.1, p.2], fun S' => decide (seqOf S' v = some xs) && decide (seqOf S' u = some ys)⟩ S2) := by
  refine PI.imp (RZ.pi_zipA hg hm (a_cons h0 ha (a_cons h1 hb a_nil)) (star1 h0) (by rw [star1 h1]; rfl)) fun σ H R h => ?_
  refine tG.first (Q := R) (R := RI E) (R' := RpL E) (f := fun vs ρ S2 => match vs with | [v, u] => .need (zipK v u) <| .opt (seqOf S2 v) fun xs => .opt (seqOf S2 u) fun ys => .need ((xs.zip ys).all fun p => !nmC [p.1, p.2]) <| .ok ⟨(xs.zip ys).map fun p => .tup [p.1, p.2], fun S' => decide (seqOf S' v = some xs) && decide (seqOf S' u = some ys)⟩ S2 | _ => .bad) ?_ fun α ρ S vs xs H1 R1 en rs kt => ?_
  · obtain ⟨α, ρ, S, R, en, kt⟩ := h
    refine ⟨α, ρ, S, R, en, ?_⟩
    revert kt
    cases hma : ma ρ S with
    | bad => intro kt; simp only [hma, Res.bind] at kt ⊢; exact kt
    | exc c S' => intro kt; simp only [hma, Res.bind] at kt ⊢; exact kt
    | ok v S1 =>
      cases hmb : mb ρ S1 with
      | bad => intro kt; simp only [hma, hmb, Res.bind] at kt ⊢; exact kt
      | exc c S' => intro kt; simp only [hma, hmb, Res.bind] at kt ⊢; exact kt
      | ok u S2 => intro kt; simp only [hma, hmb, Res.bind] at kt ⊢; exact kt
  · split at kt
    · rename_i v u
      obtain ⟨x, y, rfl, r1, r2⟩ := rl2 rs
      obtain ⟨zk, kt⟩ := kt.need
      obtain ⟨vs, ev, kt⟩ := kt.opt
      obtain ⟨us, eu, kt⟩ := kt.opt
      obtain ⟨al, kt⟩ := kt.need
      rcases zipK_is zk with ⟨tv, tu⟩ | ⟨nv, nu⟩
      · obtain ⟨a, xs, rfl, hq, rx⟩ := rd_t R1 tv r1 ev
        obtain ⟨b, ys, rfl, hq2, ry⟩ := rd_t R1 tu r2 eu
        refine ⟨a, b, xs, ys, rfl, .inr ⟨by rw [hK]; exact hq, by rw [hK]; exact hq2, ?_⟩⟩
        refine kt.here R1 fun S0 α' S' H' hS x' R' sm => ?_
        simp only [Bool.and_eq_true, decide_eq_true_eq] at sm
        obtain ⟨sm1, sm2⟩ := sm
        have rv' : Rp E α' S'.length H' v (.ref a) := Rp.ext (S := S0) x' v _ (by rw [hS]; exact r1)
        have ru' : Rp E α' S'.length H' u (.ref b) := Rp.ext (S := S0) x' u _ (by rw [hS]; exact r2)
        obtain ⟨a', xs', ea, hx', rx'⟩ := rd_t R' tv rv' sm1
        obtain ⟨b', ys', eb, hy', ry'⟩ := rd_t R' tu ru' sm2
        cases ea; cases eb
        refine ⟨fun i w hw => ?_, ⟨xs', ys', by rw [hK]; exact hx', by rw [hK]; exact hy', ?_⟩⟩
        · obtain ⟨v1, u1, e1, e2, rfl⟩ := zip_get hw
          obtain ⟨x1, ex1, q1⟩ := rx'.get e1
          obtain ⟨y1, ey1, q2⟩ := ry'.get e2
          refine ⟨⟨xs', ys', x1, y1, by rw [hK]; exact hx', by rw [hK]; exact hy', ex1, ey1⟩, fun z H2 hz => ?_⟩
          obtain ⟨T, x2, y2, rfl, hT, rfl, f1, f2⟩ := hz
          have g1 := f1 xs' (by rw [hK]; exact hx')
          have g2 := f2 ys' (by rw [hK]; exact hy')
          rw [ex1] at g1; cases g1
          rw [ey1] at g2; cases g2
          exact zip_new R' (zip_nm al e1 e2) hT q1 q2
        · rw [← rx'.len, ← ry'.len]
          simp only [List.length_map, List.length_zip]
          omega
      · obtain ⟨a, xs, rfl, hq, rx⟩ := rd_l R1 nv r1 ev
        obtain ⟨b, ys, rfl, hq2, ry⟩ := rd_l R1 nu r2 eu
        refine ⟨a, b, xs, ys, rfl, .inl ⟨by rw [hK]; exact hq, by rw [hK]; exact hq2, ?_⟩⟩
        refine kt.here R1 fun S0 α' S' H' hS x' R' sm => ?_
        simp only [Bool.and_eq_true, decide_eq_true_eq] at sm
        obtain ⟨sm1, sm2⟩ := sm
        have rv' : Rp E α' S'.length H' v (.ref a) := Rp.ext (S := S0) x' v _ (by rw [hS]; exact r1)
        have ru' : Rp E α' S'.length H' u (.ref b) := Rp.ext (S := S0) x' u _ (by rw [hS]; exact r2)
        obtain ⟨a', xs', ea, hx', rx'⟩ := rd_l R' nv rv' sm1
        obtain ⟨b', ys', eb, hy', ry'⟩ := rd_l R' nu ru' sm2
        cases ea; cases eb
        refine ⟨fun i w hw => ?_, ⟨xs', ys', by rw [hK]; exact hx', by rw [hK]; exact hy', ?_⟩⟩
        · obtain ⟨v1, u1, e1, e2, rfl⟩ := zip_get hw
          obtain ⟨x1, ex1, q1⟩ := rx'.get e1
          obtain ⟨y1, ey1, q2⟩ := ry'.get e2
          refine ⟨⟨xs', ys', x1, y1, by rw [hK]; exact hx', by rw [hK]; exact hy', ex1, ey1⟩, fun z H2 hz => ?_⟩
          obtain ⟨T, x2, y2, rfl, hT, rfl, f1, f2⟩ := hz
          have g1 := f1 xs' (by rw [hK]; exact hx')
          have g2 := f2 ys' (by rw [hK]; exact hy')
          rw [ex1] at g1; cases g1
          rw [ey1] at g2; cases g2
          exact zip_new R' (zip_nm al e1 e2) hT q1 q2
        · rw [← rx'.len, ← ry'.len]
          simp only [List.length_map, List.length_zip]
          omega
    · exact kt.elim
end
end PM
end
section
namespace PM
open PySem L2 PySem.Spec PyProof.Rows
open Sem (wp)
theorem meets_enum1 {v : Value} {o : Obj} {B0 : Heap → Prop} (B : Begins v o B0) :
    Meets (Builtin.«enumerate.__new__» ⟨[.type "enumerate", v], []⟩) (fun _ R s => B0 s.heap ∧
      R (.ok (.ret (.ref (s.heap.push o).objs.size))) { s with heap := (s.heap.push o).push { cls := .type "enumerate", data := .fields #[.none, .bool false, .ref s.heap.objs.size, rawInt 0, .none, .none] } }) :=
  .of_wp fun prog w A R s h => by
    obtain ⟨hp, g, d, tk, os⟩ := s; obtain ⟨h1, h⟩ := h
    have hsub := sub_enumerate
    have q1 : ∀ {A' : Around} {E : Value → Shared → Prop} {Q : Value → Shared → Prop}, Q (.ref hp.objs.size) ⟨hp.push o, g, d, tk, os⟩ → wpAny (model prog w) A' (pyIter v) Q E ⟨hp, g, d, tk, os⟩ :=
      fun q => B.iter prog w _ _ ⟨hp, g, d, tk, os⟩ _ h1 q
    wp_walk using q1
    refine wpAny_stack_any fun st => wpAny_pure ?_
    split
    · rename_i c _ _ _ _ _
      cases (c == Value.type "enumerate")
      · wp_walk using q1
        exact ⟨_, rfl, h⟩
      · wp_walk using q1
        exact ⟨_, rfl, h⟩
    · wp_walk using q1
      exact ⟨_, rfl, h⟩
section
variable {prog : Program} {w : World} {A : Around} {E : Value → Shared → Prop} {s : Shared}
theorem call_enum1 {v : Value} {o : Obj} {B0 : Heap → Prop} {Q : Value → Shared → Prop} (B : Begins v o B0) (h1 : B0 s.heap)
    (h : ∀ h', IsEnum h' (s.heap.objs.size + 1) s.heap.objs.size 0 .none → h'.get? s.heap.objs.size = some o → h'.objs.size = s.heap.objs.size + 2 →
      (∀ b o, s.heap.get? b = some o → h'.get? b = some o) → Q (.ref (s.heap.objs.size + 1)) { s with heap := h' }) :
    wpAny (model prog w) A (call (.type "enumerate") [v]) Q E s := by
  refine callType_new F.called_enumerate (by decide) (F.typeCall_enumerate_1 _) (F.newCall_enumerate_1 _) (fun obj => F.args_object_init_2 obj _) F.entry_enumerate_new
    (meets_enum1 B) ⟨h1, ?_⟩
  have hz : (s.heap.push o).objs.size = s.heap.objs.size + 1 := Heap.size_push ..
  show _ ∧ _
  rw [hz]
  have he : IsEnum ((s.heap.push o).push { cls := .type "enumerate", data := .fields #[.none, .bool false, .ref s.heap.objs.size, rawInt 0, .none, .none] }) (s.heap.objs.size + 1) s.heap.objs.size 0 .none := by
    have := Heap.get?_push_size (s.heap.push o) (o := { cls := .type "enumerate", data := .fields #[.none, .bool false, .ref s.heap.objs.size, rawInt 0, .none, .none] }) rfl
    rw [hz] at this; exact this
  refine ⟨⟨_, he, rfl⟩, h _ he (Heap.get?_push_of_some _ (Heap.get?_push_size _ B.free)) (by rw [Heap.size_push, hz]) fun b o x => Heap.get?_push_of_some _ (Heap.get?_push_of_some _ x)⟩
end
def IteT (K : PySem.W.Frag) (a : Addr) : It :=
  ⟨fun i H => ∃ (xs : List V) (x : V), SqT K H a xs ∧ xs[i]? = some x, fun i H v H' => ∃ T x, v = .ref T ∧ H T = none ∧ H' = upd H T (.tup [.int (i : Nat), x]) ∧ ∀ xs, SqT K H a xs → xs[i]? = some x, fun i H => ∃ xs : List V, SqT K H a xs ∧ xs.length ≤ i⟩
theorem turn_enumT {P : Program} {w : World} {K : PySem.W.Frag} {elts : List Expr} {kk : Nat} {tpos : Pos} (a e it : Addr) (hna : a ≠ it) (hea : a ≠ e) :
    Turn P w K (.Tuple elts kk tpos) (IteT K a) [e, it] e (fun i h => (∃ old, IsEnum h e it ((i : Nat) : Int) old) ∧ h.IsTupleIter it a i ∧ e ≠ it) where
  mem := by simp
  obj := fun i h st b hb => by
    obtain ⟨⟨old, he⟩, ⟨o, ho, hc, hd⟩, _⟩ := st
    have e' : b = e ∨ b = it := by simpa using hb
    rcases e' with z | z
    · rw [z]; exact ⟨_, he, fun v q => nomatch q⟩
    · rw [z]; exact ⟨o, ho, fun v q => by rw [hd] at q; cases q⟩
  keep := fun i h h' st k => let ⟨⟨old, he⟩, hi, hne⟩ := st; ⟨⟨old, k e (by simp) _ he⟩, hi.at fun o q => k it (by simp) o q, hne⟩
  item := by
    intro X hP hw hK hc i pins s σ H E I hf st hg
    subst hP hw hK
    obtain ⟨⟨old, he⟩, hit, hne⟩ := st
    obtain ⟨xs, x, hq, hx⟩ := hg
    obtain ⟨its, rv, p, hz⟩ := I.tuple hq
    have p : s.heap.IsTuple a its.toArray := p
    obtain ⟨u, hu, ru⟩ := rv.get hx
    have hil : i < its.toArray.size := by simpa using (List.getElem?_eq_some_iff.mp hu).1
    have hel : e < s.heap.objs.size := Heap.lt_size he
    have hitl : it < s.heap.objs.size := by obtain ⟨_, q, _⟩ := hit; exact Heap.lt_size q
    have D := Draws.tuple (prog := X.prog) (w := X.w) (A := X.A.in1) (I.ok.hd hc) it a hna its.toArray
    refine wpAny_pyNext_enum_itemD D he ⟨hit, p⟩ hil hne (by simp [hne, hea.symm]) fun u' h' tk hu' ho hst' hT hsz hk => ?_
    have eu : u' = u := by
      have : its[i]? = some u' := by simpa using hu'
      rw [hu] at this; cases this; rfl
    subst eu
    obtain ⟨hit', _⟩ := hst'
    refine ⟨_, rfl, wpAny_letOwnedTupleGo_enum (s := { s with heap := h', toks := tk + 1 }) ho fun h'' he' sb => ?_⟩
    have hT2 : h''.get? s.heap.objs.size = some { cls := .type "tuple", data := .seq #[.int i tk, u'] } := (sb.2 _ (Nat.ne_of_gt hel)).trans hT
    have new : ObjOk X.prog X.w (upd H s.heap.objs.size (.tup [.int (i : Nat), x])) h'' s.heap.objs.size (.tup [.int (i : Nat), x]) :=
      ⟨by show 2 ≤ sizeLine; decide, [.int i tk, u'], .cons ⟨_, rfl⟩ (.cons ru .nil), ⟨_, hT2, rfl, _, rfl⟩⟩
    have I1 : Inv X pins σ (upd H s.heap.objs.size (.tup [.int (i : Nat), x])) { s with heap := h'', toks := tk + 1 } :=
      I.turnedNew (ch := [e, it]) (fun b ob hb q => (sb.2 b (fun z => hb (by simp [z]))).trans (hk b ob (fun z => hb (by simp [z])) (fun z => hb (by simp [z])) q)) hf (Nat.le_refl _) new
    refine ⟨.ref s.heap.objs.size, _, I1, rfl, ⟨_, x, rfl, I.hok.fresh (Nat.le_refl _), rfl, fun ys hy => by rw [I.tuple_inj hy hq]; exact hx⟩, ⟨⟨u', ?_⟩, hit'.at fun o q => (sb.2 it (Ne.symm hne)).trans q, hne⟩, fun b hb => ?_⟩
    · have e1 : ((i + 1 : Nat) : Int) = (i : Int) + 1 := by omega
      rw [e1]; exact he'
    · have hb' : b < s.heap.objs.size := by
        have e' : b = e ∨ b = it := by simpa using hb
        rcases e' with z | z
        · rw [z]; exact hel
        · rw [z]; exact hitl
      rw [upd_ne (Nat.ne_of_lt hb')]
      exact (hf b hb).1
  done := by
    intro X hP hw hK hc i pins s σ H E I hf st hg
    subst hP hw hK
    obtain ⟨⟨old, he⟩, hit, hne⟩ := st
    obtain ⟨xs, hq, hx⟩ := hg
    obtain ⟨its, rv, p, hz⟩ := I.tuple hq
    have p : s.heap.IsTuple a its.toArray := p
    obtain ⟨f0, f1, f2, f3, f4, f5⟩ := hf it (by simp)
    have hl := rv.length
    have hh : X.A.handled = none := I.ok.hd hc
    have hT : s.TypeIs (.ref e) "enumerate" := ⟨_, he, rfl⟩
    unfold pyNext
    refine wpAny_bind (wpAny_attempt (wpAny_callSpecial?_slot (name := Str.ofString "__next__") hT F.slot_enumerate_next
      (wpAny_call_entry F.slot_enumerate_next hT F.entry_enumerate_next ?_ (F.args_enumerate_next_1 _))))
    show wpAny _ _ (field (.ref e) 2 >>= _) _ _ _
    refine wpAny_bind (wpAny_field he rfl (x := .ref it) rfl ?_)
    refine wpAny_bind (wpAny_nextOf_tuple_end hh hit p (by simp; omega) fun h' x he' hx' => ?_)
    obtain ⟨o, ho, hc'⟩ := hx'
    refine wpAny_bind (wpAny_isInstance (T := "StopIteration") (b := true) ⟨o, ho, hc'⟩ isSubtype_stop ?_)
    exact wpAny_pure ⟨rfl, I.turned (t' := s.toks) (fun b o hb q => he' b o hb q) f0 f1 f3 f4 f5⟩
  self := fun A i s Q E st h => let ⟨⟨_, he⟩, _⟩ := st; wpAny_pyIter_enum he h
end PM
end
section
namespace PM
open PySem L2 PySem.Spec PyProof.Rows
def iEnumA (K : PySem.W.Frag) (ta : TA) : TI := fun σ H R => ta σ H fun vs H1 => ∃ a xs, vs = [.ref a] ∧ ((SqL K H1 a xs ∧ R (Ite K a) H1) ∨ (SqT K H1 a xs ∧ R (IteT K a) H1))
theorem pi_enumA {X : Cx} {e : Expr} {ta : TA} {p pos tpos : Pos} {elts : List Expr} {kk : Nat} (hg : Gl X "enumerate") (hm : X.mg "enumerate" = none) (ha : PA X [e] ta) (hs : starEach [e] X.env = [(false, eval e X.env)] := by rfl) :
    PI X (.Tuple elts kk tpos) (.Call (.Name "enumerate" p) [e] [] pos) (iEnumA X.K ta) := by
  refine ⟨fun pins s σ H R I h => ?_⟩
  refine Call_ (ld_blt I hg hm boot_enumerate (PyProof.Rows.callWith_type1 (thn (ha.run pos pins s σ H _ I h) fun us s1 ⟨vs, H1, I1, r1, q1⟩ => ?_) hs rfl))
  obtain ⟨a, xs, ex, q1⟩ := q1
  subst ex
  cases r1 with
  | cons r rr =>
    cases rr
    cases r
    have fr : ∀ b, b ∈ [s1.heap.objs.size + 1, s1.heap.objs.size] → FpOk X pins H1 b := fun b hb => by
      have e' : b = s1.heap.objs.size + 1 ∨ b = s1.heap.objs.size := by simpa using hb
      have hle : s1.heap.objs.size ≤ b := by
        rcases e' with z | z
        · rw [z]; exact Nat.le_add_right _ _
        · rw [z]; exact Nat.le_refl _
      exact I1.fpOk hle (I1.hok.fresh hle)
    rcases q1 with ⟨hq, q⟩ | ⟨hq, q⟩
    · obtain ⟨its, rv, p', hz⟩ := I1.list hq
      refine call_enumerate_list p'.isList fun h' he hit hsz hk => wpAny_pyIter_enum he ?_
      have I2 : Inv X pins σ H1 { s1 with heap := h' } := I1.kept (t' := s1.toks) hk
      exact ⟨s1.heap.objs.size + 1, [s1.heap.objs.size + 1, s1.heap.objs.size], _, _, H1, rfl, I2, turn_enum a (s1.heap.objs.size + 1) s1.heap.objs.size, ⟨⟨.none, he⟩, hit, Nat.succ_ne_self _⟩, fr, q⟩
    · obtain ⟨its, rv, p', hz⟩ := I1.tuple hq
      have p' : s1.heap.IsTuple a its.toArray := p'
      have hal : a < s1.heap.objs.size := by obtain ⟨o, ho, _⟩ := id p'; exact Heap.lt_size ho
      refine call_enum1 (begins_tuple a its.toArray) p' fun h' he hit hsz hk => wpAny_pyIter_enum he ?_
      have I2 : Inv X pins σ H1 { s1 with heap := h' } := I1.kept (t' := s1.toks) hk
      exact ⟨s1.heap.objs.size + 1, [s1.heap.objs.size + 1, s1.heap.objs.size], _, _, H1, rfl, I2, turn_enumT a (s1.heap.objs.size + 1) s1.heap.objs.size (Nat.ne_of_lt hal) (Nat.ne_of_lt (Nat.lt_succ_of_lt hal)), ⟨⟨.none, he⟩, ⟨_, hit, rfl, rfl⟩, Nat.succ_ne_self _⟩, fr, q⟩
section
variable {E : Cfg} {W : WX} {X : Cx} {σ : L2.St} {H : Hp} {Q : VK} {ma mb mc : Env → Sto → Res PV} {a b c e : Expr} {pos p tpos : Pos} {es elts : List Expr} {kk : Nat}
variable {α : Nat → Addr} {S : Sto} {v : PV} {x : V} {xs : List V} {vs : List PV}
theorem enum_get {vs : List PV} {i : Nat} {w : PV} (h : (vs.zipIdx.map fun p => PV.tup [.int p.2, p.1])[i]? = some w) : ∃ v, vs[i]? = some v ∧ w = .tup [.int i, v] := by
  rw [List.getElem?_map] at h
  obtain ⟨⟨v, j⟩, e1, e2⟩ := Option.map_eq_some_iff.mp h
  rw [List.getElem?_zipIdx] at e1
  obtain ⟨v', e3, e4⟩ := Option.map_eq_some_iff.mp e1
  cases e4
  refine ⟨v, e3, ?_⟩
  rw [← e2]
  simp
theorem s_enum (hK : X.K = E.K) (hg : Gl X "enumerate") (hm : X.mg "enumerate" = none) (h0 : notStar a = true) (ha : PE X a (tE E W ma)) :
    PI X (.Tuple elts kk tpos) (.Call (.Name "enumerate" p) [a] [] pos) (tI E W fun ρ S => (ma ρ S).bind fun v S1 => .opt (seqOf S1 v) fun xs => .ok ⟨xs.zipIdx.map fun p => .tup [.int p.2, p.1], fun S' => decide (seqOf S' v = some xs)⟩ S1) := by
  refine PI.imp (pi_enumA hg hm (a_cons h0 ha a_nil) (star1 h0)) fun σ H R h => ?_
  refine tA_one ?_
  refine tG.first (R := RI E) (R' := Rp E) (f := fun v ρ S1 => .opt (seqOf S1 v) fun xs => .ok ⟨xs.zipIdx.map fun p => .tup [.int p.2, p.1], fun S' => decide (seqOf S' v = some xs)⟩ S1) h fun α ρ S v x H1 R1 en rv kt => ?_
  obtain ⟨vs, ev, kt⟩ := kt.opt
  rcases rd_seqL R1 rv ev with ⟨nv, a, xs, rfl, hq, rx⟩ | ⟨tv, a, xs, rfl, hq, rx⟩
  · refine ⟨a, xs, rfl, .inl ⟨by rw [hK]; exact hq, ?_⟩⟩
    refine kt.here R1 fun S0 α' S' H' hS x' R' sm => ?_
    have sm := of_decide_eq_true sm
    have rv' : Rp E α' S'.length H' v (.ref a) := Rp.ext (S := S0) x' v _ (by rw [hS]; exact rv)
    obtain ⟨a', xs', ea, hx', rx'⟩ := rd_l R' nv rv' sm
    cases ea
    refine ⟨fun i w hw => ?_, ⟨xs', by rw [hK]; exact hx', by rw [← rx'.len]; simp⟩⟩
    obtain ⟨v1, e1, rfl⟩ := enum_get hw
    obtain ⟨x1, ex1, q1⟩ := rx'.get e1
    refine ⟨⟨xs', x1, by rw [hK]; exact hx', ex1⟩, fun z H2 hz => ?_⟩
    obtain ⟨T, x2, rfl, hT, rfl, f1⟩ := hz
    have g1 := f1 xs' (by rw [hK]; exact hx')
    rw [ex1] at g1; cases g1
    exact zip_new R' rfl hT (by simp only [Rp]) q1
  · refine ⟨a, xs, rfl, .inr ⟨by rw [hK]; exact hq, ?_⟩⟩
    refine kt.here R1 fun S0 α' S' H' hS x' R' sm => ?_
    have sm := of_decide_eq_true sm
    have rv' : Rp E α' S'.length H' v (.ref a) := Rp.ext (S := S0) x' v _ (by rw [hS]; exact rv)
    obtain ⟨a', xs', ea, hx', rx'⟩ := rd_t R' tv rv' sm
    cases ea
    refine ⟨fun i w hw => ?_, ⟨xs', by rw [hK]; exact hx', by rw [← rx'.len]; simp⟩⟩
    obtain ⟨v1, e1, rfl⟩ := enum_get hw
    obtain ⟨x1, ex1, q1⟩ := rx'.get e1
    refine ⟨⟨xs', x1, by rw [hK]; exact hx', ex1⟩, fun z H2 hz => ?_⟩
    obtain ⟨T, x2, rfl, hT, rfl, f1⟩ := hz
    have g1 := f1 xs' (by rw [hK]; exact hx')
    rw [ex1] at g1; cases g1
    exact zip_new R' rfl hT (by simp only [Rp]) q1
end
end PM
end
section
namespace PM
open PySem L2 PySem.Spec PyProof.Rows
section
variable {E : Cfg} {W : WX} {X : Cx} {σ : L2.St} {H : Hp} {Q : VK} {ma mb mc : Env → Sto → Res PV} {a b c e : Expr} {pos p : Pos} {es : List Expr} {cf : Cf}
def KT (E : Cfg) (is : List Nat) (α : Nat → Addr) (S : Sto) (σ : L2.St) (H : Hp) (r : RT) (Q : L2.St → Hp → Prop) : Prop := match r with
  | some (ρ', S') => ∀ α' σ' H', Ext α S H α' S' H' → Rel E α' S' H' → EnvR E α' S'.length H' ρ' σ' → (∀ own : List Nat, (∀ i ∈ is, i ∈ own) → L2.wipe σ' own = L2.wipe σ own) → Q σ' H'
  | none => False
def tT (E : Cfg) (is : List Nat) (m : PV → Env → Sto → RT) : TG := fun x σ H Q => ∃ α ρ S v, Rel E α S H ∧ EnvR E α S.length H ρ σ ∧ Rp E α S.length H v x ∧ KT E is α S σ H (m v ρ S) Q
def tTs (E : Cfg) (is : List Nat) (m : List PV → Env → Sto → RT) : TGs := fun xs σ H Q => ∃ α ρ S vs, Rel E α S H ∧ EnvR E α S.length H ρ σ ∧ RpL E α S.length H vs xs ∧ KT E is α S σ H (m vs ρ S) Q
theorem PG.imp {tg : Expr} {t t' : TG} (h : PG X tg t) (k : ∀ v σ H Q, t' v σ H Q → t v σ H Q) : PG X tg t' := ⟨fun pins s σ H v u Q I r q => h.run pins s σ H v u Q I r (k v σ H Q q)⟩
theorem PGs.imp {tg : List Expr} {t t' : TGs} (h : PGs X tg t) (k : ∀ v σ H Q, t' v σ H Q → t v σ H Q) : PGs X tg t' := ⟨fun pins s σ H v u Q I r q => h.run pins s σ H v u Q I r (k v σ H Q q)⟩
theorem wipe_set {i : Nat} {x : Option V} : ∀ {own : List Nat} {σ : L2.St}, i ∈ own → L2.wipe (σ.set i x) own = L2.wipe σ own
  | [], _, h => by cases h
  | j :: own, σ, h => by
    show (L2.wipe (σ.set i x) own).set j none = (L2.wipe σ own).set j none
    by_cases hi : i ∈ own
    · rw [wipe_set hi]
    · have hij : j = i := by
        rcases List.mem_cons.mp h with e | e
        · exact e.symm
        · exact absurd e hi
      subst hij
      have key : ∀ (own : List Nat) (σ : L2.St), j ∉ own → L2.wipe (σ.set j x) own = (L2.wipe σ own).set j x := by
        intro own
        induction own with
        | nil => intro σ _; rfl
        | cons k own ih =>
          intro σ hn
          have h1 : j ≠ k := fun z => hn (by rw [z]; exact List.mem_cons_self)
          show (L2.wipe (σ.set j x) own).set k none = ((L2.wipe σ own).set k none).set j x
          rw [ih σ (fun z => hn (List.mem_cons_of_mem _ z)), List.set_comm _ _ h1]
      rw [key own σ hi, List.set_set]
theorem wipe_sub {own : List Nat} {σ : L2.St} : ∀ {vs : List Nat}, (∀ i ∈ vs, i ∈ own) → L2.wipe (L2.wipe σ vs) own = L2.wipe σ own
  | [], _ => rfl
  | v :: vs, h => by
    show L2.wipe ((L2.wipe σ vs).set v none) own = _
    rw [wipe_set (h v List.mem_cons_self), wipe_sub fun i hi => h i (List.mem_cons_of_mem _ hi)]
theorem wipe_wipe {own : List Nat} {σ : L2.St} : L2.wipe (L2.wipe σ own) own = L2.wipe σ own := wipe_sub fun _ h => h
theorem g_name {i : Nat} {x : Str} (hN : X.N.Nodup) (hi : X.N[i]? = some x) (hx : Loc X.env.scope x) (hf : X.fn x = true ∨ X.env.scope.names.lookup x = some .local) : PG X (.Name x pos) (tT E [i] fun v ρ S => some (ρ.set i (some v), S)) :=
  PG.imp (pg_name hN hi hx hf) fun x σ H Q ⟨α, ρ, S, v, R, en, rv, kt⟩ => kt α _ H Ext.refl R (en.set rv) fun own h => wipe_set (h i List.mem_cons_self)
theorem g_nil : PGs X [] (tTs E [] fun vs ρ S => match vs with | [] => some (ρ, S) | _ :: _ => none) := PGs.imp pgs_nil fun xs σ H Q ⟨α, ρ, S, vs, R, en, rs, kt⟩ => by
  dsimp only at kt
  split at kt
  · simp only [RpL] at rs
    subst rs
    exact ⟨rfl, kt α σ H Ext.refl R en fun _ _ => rfl⟩
  · exact kt.elim
theorem assignEach_cons {env : PySem.Env} (h : notStar e = true) : assignEach (e :: es) env = (false, assign e env) :: assignEach es env := by
  cases e <;> first | rfl | cases h
theorem assignEach_len : ∀ (es : List Expr) (env : PySem.Env), es.all notStar = true → (assignEach es env).length = es.length ∧ (assignEach es env).findIdx? (·.1) = none
  | [], _, _ => ⟨rfl, rfl⟩
  | e :: es, env, h => by
    simp only [List.all_cons, Bool.and_eq_true] at h
    obtain ⟨h1, h2⟩ := assignEach_len es env h.2
    rw [assignEach_cons h.1]
    refine ⟨by simp [h1], ?_⟩
    rw [List.findIdx?_cons]
    simp [h2]
theorem g_cons {is js : List Nat} {m : PV → Env → Sto → RT} {ms : List PV → Env → Sto → RT} (h0 : notStar e = true) (h1 : PG X e (tT E is m)) (h2 : PGs X es (tTs E js ms)) :
    PGs X (e :: es) (tTs E (is ++ js) fun vs ρ S => match vs with | [] => none | v :: r => match m v ρ S with | some (ρ', S') => ms r ρ' S' | none => none) :=
  PGs.imp (pgs_cons h1 h2 (by rw [assignEach_cons h0]; rfl)) fun xs σ H Q ⟨α, ρ, S, vs, R, en, rs, kt⟩ => by
    dsimp only at kt
    split at kt
    · exact kt.elim
    · rename_i v r
      simp only [RpL] at rs
      obtain ⟨y, ys, rfl, rv, rs⟩ := rs
      refine ⟨y, ys, rfl, α, ρ, S, v, R, en, rv, ?_⟩
      split at kt
      · rename_i ρ' S' e1
        rw [e1]
        refine fun α' σ' H' x' R' en' hw => ⟨α', ρ', S', r, R', en', RpL.ext x' r ys rs, ?_⟩
        revert kt
        cases ms r ρ' S' with
        | none => exact fun kt => kt.elim
        | some q =>
          obtain ⟨ρ2, S2⟩ := q
          exact fun kt α2 σ2 H2 x2 R2 en2 hw2 => kt α2 σ2 H2 (x'.trans x2) R2 en2 fun own h => (hw2 own fun i hi => h i (List.mem_append_right _ hi)).trans (hw own fun i hi => h i (List.mem_append_left _ hi))
      · exact kt.elim
def gSeq (K : PySem.W.Frag) (n : Nat) (t : TGs) : TG := fun v σ H Q => ∃ a xs, v = .ref a ∧ (SqL K H a xs ∨ SqT K H a xs) ∧ xs.length = n ∧ t xs σ H Q
theorem pg_seq {k : Nat} {t : TGs} {n : Nat} (hc : X.calm = true) (h : PGs X es t) (hn : (assignEach es X.env).length = n) (hst : (assignEach es X.env).findIdx? (·.1) = none) : PG X (.Tuple es k pos) (gSeq X.K n t) := by
  refine ⟨fun pins s σ H v u Q I r hw => ?_⟩
  obtain ⟨a, xs, e1, hq, hl, hw⟩ := hw
  rcases hq with hq | hq
  · exact (pg_unl hc h hn hst).run pins s σ H v u Q I r ⟨a, xs, e1, hq, hl, hw⟩
  · exact (pg_tup hc h hn hst).run pins s σ H v u Q I r ⟨a, xs, e1, hq, hl, hw⟩
theorem g_tup {k : Nat} {is : List Nat} {ms : List PV → Env → Sto → RT} (hK : X.K = E.K) (hc : X.calm = true) (h0 : es.all notStar = true) (h : PGs X es (tTs E is ms)) (hl : ∀ vs ρ S r, ms vs ρ S = some r → vs.length = es.length) :
    PG X (.Tuple es k pos) (tT E is fun v ρ S => match seqOf S v with | some vs => ms vs ρ S | none => none) := by
  obtain ⟨h1, h2⟩ := assignEach_len es X.env h0
  refine PG.imp (pg_seq hc h h1 h2) fun x σ H Q ⟨α, ρ, S, v, R, en, rv, kt⟩ => ?_
  dsimp only at kt
  split at kt
  · rename_i vs e1
    obtain ⟨a, xs, rfl, hq, rs⟩ := rd_seq R rv e1
    refine ⟨a, xs, rfl, by rw [hK]; exact hq, ?_, α, ρ, S, vs, R, en, rs, kt⟩
    rw [← rs.len]
    cases e2 : ms vs ρ S with
    | none => rw [e2] at kt; exact kt.elim
    | some r => exact hl vs ρ S r e2
  · exact kt.elim

theorem ts_none : PTs X [] (tB E W fun _ S => .ok true S) := ⟨fun pins s σ H Q I ⟨α, ρ, S, R, _, kt⟩ => pts_nil.run pins s σ H Q I (kt.here R rfl)⟩
theorem ts_some (h : Snd E W X a ma) : PTs X [a] (tB E W fun ρ S => (ma ρ S).bind fun v S1 => .opt (truth S1 v) fun k => .ok k S1) := pts_one h.pt
abbrev noW : WX := fun _ _ _ _ => False
theorem Kt.bnd {β γ δ ε : Type} {W' : WX} {R : (Nat → Addr) → Nat → Hp → β → γ → Prop} {R' : (Nat → Addr) → Nat → Hp → δ → ε → Prop} {α : Nat → Addr} {S : Sto} {m : Res δ} {f : δ → Sto → Res β} {Q : γ → Hp → Prop} {P : ε → Hp → Prop} (h : Kt E W R α S σ H (m.bnd f) Q) {σ' : L2.St}
    (k : ∀ v S1 α1 x H1, Ext α S H α1 S1 H1 → Rel E α1 S1 H1 → R' α1 S1.length H1 v x → Kt E W R α1 S1 σ H1 (f v S1) Q → P x H1) : Kt E W' R' α S σ' H m P := by
  cases m with
  | ok v S' => exact fun α' y H' e r q => k v S' α' y H' e r q (h.move e)
  | exc c S' => exact h.elim
  | bad => exact h.elim
theorem EnvR.wiped {α : Nat → Addr} {n : Nat} {ρ : Env} {own : List Nat} : ∀ (h : EnvR E α n H ρ σ), EnvR E α n H (PM.wipe ρ own) (L2.wipe σ own) := fun h => h.wipe own
theorem lc_is {is own : List Nat} {mi : Env → Sto → Res Itm} {mt : PV → Env → Sto → RT} {mc : Env → Sto → Res Bool} (hown : ∀ i ∈ is, i ∈ own) (h : tE E W (fun ρ S => (mi ρ S).bind fun J S1 => compL S1.length J.same (fun x S => mt x (PM.wipe ρ own) S) mc ma J.xs (S1 ++ [.lst []])) σ H Q) :
    tLc (tI E W mi) (tT E is mt) (tB E noW mc) (tE E noW ma) own σ H Q := by
  refine tG.first (R := Rp E) (R' := RI E) (f := fun J ρ S1 => compL S1.length J.same (fun x S => mt x (PM.wipe ρ own) S) mc ma J.xs (S1 ++ [.lst []])) h fun α ρ S I J H1 R1 en ri kt D hD => ?_
  have x0 := Ext.laid (α := α) (S := S) (o := .lst []) (m := .lst []) hD
  have R0 : Rel E (put1 α S.length D) (S ++ [.lst []]) (upd H1 D (.lst [])) := R1.laid hD ⟨[], upd_same, RpL.nil⟩
  refine ⟨fun i m H' => m = I.xs.length - i ∧ i ≤ I.xs.length ∧ ∃ α' S', Ext α S H1 α' S' H' ∧ Rel E α' S' H' ∧ EnvR E α' S'.length H' ρ σ ∧ S.length < S'.length ∧ α' S.length = D ∧
      Kt E W (Rp E) α' S' σ H' (compL S.length I.same (fun x S => mt x (PM.wipe ρ own) S) mc ma (I.xs.drop i) S') Q,
    ⟨I.xs.length, by simp, Nat.zero_le _, put1 α S.length D, _, x0, R0, en.ext x0, by simp, put1_same, by rw [List.drop_zero]; exact kt.move x0⟩, ?_⟩
  rintro i m H' ⟨rfl, hi, α', S', x', R', en', hl, hD', kt⟩
  by_cases hlt : i < I.xs.length
  · have hd : I.xs.drop i = I.xs[i] :: I.xs.drop (i + 1) := List.drop_eq_getElem_cons hlt
    rw [hd] at kt
    simp only [compL] at kt
    obtain ⟨sm, kt⟩ := kt.need
    obtain ⟨serve, _⟩ := ri S α' S' H' rfl x' R' sm
    obtain ⟨hgo, hy⟩ := serve i I.xs[i] (by simp [hlt])
    refine .inr ⟨hgo, fun H'' => ∃ α2 S2, Ext α S H1 α2 S2 H'' ∧ Rel E α2 S2 H'' ∧ EnvR E α2 S2.length H'' ρ σ ∧ S.length < S2.length ∧ α2 S.length = D ∧
      Kt E W (Rp E) α2 S2 σ H'' (compL S.length I.same (fun x S => mt x (PM.wipe ρ own) S) mc ma (I.xs.drop (i + 1)) S2) Q, fun H'' h2 => ⟨I.xs.length - (i + 1), by omega, rfl, hlt, h2⟩, fun x H2 yld => ?_⟩
    obtain ⟨xy, Ry, ry⟩ := hy x H2 yld
    refine ⟨α', PM.wipe ρ own, S', I.xs[i], Ry, (en'.ext xy).wipe own, ry, ?_⟩
    have kt := kt.move xy
    revert kt
    cases hm : mt I.xs[i] (PM.wipe ρ own) S' with
    | none => exact fun kt => kt.elim
    | some r =>
      obtain ⟨ρ3, S3⟩ := r
      intro kt α3 σ3 H3 x3 R3 en3 hw
      have kt : Kt E W (Rp E) α' S' σ H2 ((mc ρ3 S3).bnd fun b S4 => if b = true then (ma ρ3 S4).bnd fun y S2 => match S2[S.length]? with
        | some (.lst acc) => .need (decide (acc.length < LIM)) (compL S.length I.same (fun x S => mt x (PM.wipe ρ own) S) mc ma (I.xs.drop (i + 1)) (S2.set S.length (.lst (acc ++ [y]))))
        | _ => .bad
        else compL S.length I.same (fun x S => mt x (PM.wipe ρ own) S) mc ma (I.xs.drop (i + 1)) S4) Q := kt
      have kt := kt.move x3
      refine ⟨(hw own hown).trans ?_, α3, ρ3, S3, R3, en3, Kt.bnd (R' := RB) kt fun b S4 α4 b' H4 x4 R4 eb kt => ?_⟩
      · exact wipe_wipe
      · have eb : b' = b := eb
        subst eb
        have x14 : Ext α S H1 α4 S4 H4 := ((x'.trans xy).trans x3).trans x4
        cases b' with
        | false =>
          simp only [Bool.false_eq_true, if_false] at kt ⊢
          exact ⟨α4, S4, x14, R4, en'.ext ((xy.trans x3).trans x4), Nat.lt_of_lt_of_le hl (Nat.le_trans x3.len x4.len), by rw [x4.same _ (Nat.lt_of_lt_of_le hl x3.len), x3.same _ hl]; exact hD', kt⟩
        | true =>
          simp only [if_true] at kt ⊢
          refine ⟨α4, ρ3, S4, R4, en3.ext x4, Kt.bnd (R' := Rp E) kt fun y S5 α5 yv H5 x5 R5 rv kt => ?_⟩
          have l5 : S.length < S5.length := Nat.lt_of_lt_of_le hl (Nat.le_trans x3.len (Nat.le_trans x4.len x5.len))
          have d5 : α5 S.length = D := by
            rw [x5.same _ (Nat.lt_of_lt_of_le hl (Nat.le_trans x3.len x4.len)), x4.same _ (Nat.lt_of_lt_of_le hl x3.len), x3.same _ hl]; exact hD'
          split at kt
          · rename_i acc e5
            obtain ⟨hz, kt⟩ := kt.need
            have hz := of_decide_eq_true hz
            obtain ⟨ys, hH, rs⟩ := R5.obj _ _ e5
            rw [d5] at hH
            refine ⟨ys, hH, by rw [← rs.len, ← lim_eq]; exact hz, ?_⟩
            have x6 := Ext.wrote (o := .lst (ys ++ [yv])) (m := .lst (acc ++ [y])) R5 l5
            have rr := RpL.ext x6 _ _ (rs.append (RpL.cons rv RpL.nil))
            have R6 := R5.wrote l5 (o := .lst (ys ++ [yv])) (m := .lst (acc ++ [y])) ⟨_, upd_same, by simpa using rr⟩
            rw [d5] at x6 R6
            exact ⟨α5, _, (x14.trans x5).trans x6, R6, en'.ext ((((xy.trans x3).trans x4).trans x5).trans x6), by simpa using l5, d5, kt.move x6⟩
          · exact kt.elim
  · have e : i = I.xs.length := by omega
    subst e
    rw [List.drop_length] at kt
    simp only [compL] at kt
    obtain ⟨sm, kt⟩ := kt.need
    obtain ⟨_, stop⟩ := ri S α' S' H' rfl x' R' sm
    refine .inl ⟨stop, kt.here R' ?_⟩
    simp only [Rp]
    exact ⟨hl, by rw [hD']⟩
end
end PM
end
section
namespace PM
open PySem L2 PySem.Spec PyProof.Rows
section
variable {E : Cfg} {W : WX} {X : Cx} {σ : L2.St} {H : Hp} {Q : VK} {ma mb mc : Env → Sto → Res PV} {a b c e : Expr} {pos p tpos : Pos} {es elts : List Expr} {kk : Nat} {ms : Env → Sto → Res (List PV)}
variable {α : Nat → Addr} {S : Sto} {v : PV} {x : V} {xs : List V} {vs : List PV} {cf : Cf}
def tyNm (K : PySem.W.Frag) (x : V) (H : Hp) : Prop := ∃ a xs o u, x = .ref a ∧ SqT K H a xs ∧ H a = some (.frz o u) ∧ o.dict = none
theorem tyNm_ok : TyOk X "tuple" (tyNm X.K) := fun pins σ H s x v I r ⟨a, xs, o, u, e, hq, hf, hd⟩ => by
  subst e
  cases r
  obtain ⟨its, _, p, _⟩ := I.tuple hq
  obtain ⟨e, _⟩ := (show ObjOk X.prog X.w H s.heap a (.frz o u) from I.hok a _ hf)
  exact ⟨p.typeIs, fun b eb => by cases eb; exact ⟨o, e, hd⟩⟩
def rTix (K : PySem.W.Frag) : V → List V → Hp → VK → Prop := fun x xs H Q => ∃ p, ∃ ys : List Str, ∃ z j, x = .ref p ∧ xs = [.str z] ∧ SqT K H p (ys.map V.str) ∧ ys[j]? = some z ∧ (∀ m, m < j → ys[m]? ≠ some z) ∧ Q (.int (j : Nat)) H
theorem rpl_strs {n : Nat} : ∀ {vs : List PV} {xs : List V}, vs.all isTx = true → RpL E α n H vs xs → ∃ ys : List Str, vs = ys.map PV.str ∧ xs = ys.map V.str
  | [], xs, _, r => by
    simp only [RpL] at r
    exact ⟨[], rfl, r⟩
  | w :: vs, xs, h, r => by
    simp only [List.all_cons, Bool.and_eq_true] at h
    simp only [RpL] at r
    obtain ⟨y, ys, rfl, r1, r2⟩ := r
    obtain ⟨zs, rfl, rfl⟩ := rpl_strs h.2 r2
    cases w <;> simp [isTx] at h
    simp only [Rp] at r1
    subst r1
    exact ⟨_ :: zs, rfl, rfl⟩
theorem index_rd (R : Rel E α S H) (rv : Rp E α S.length H v x) (rs : RpL E α S.length H vs xs) (kt : Kt E W (Rp E) α S σ H (lmV .index S v vs) Q) : rTix E.K x xs H Q := by
  unfold lmV at kt
  split at kt <;> first | exact kt.elim | skip
  case h_7 =>
    rename_i ws z _h
    obtain ⟨j, ej, kt⟩ := kt.opt
    obtain ⟨al, kt2⟩ := kt.need
    obtain ⟨q, xs', rfl, hq, rx⟩ := rd_tup rv
    obtain ⟨ys, rfl, rfl⟩ := rpl_strs al rx
    obtain ⟨y, rfl, ry⟩ := rl1 rs
    simp only [Rp] at ry
    subst ry
    obtain ⟨hj, h1, h2⟩ := List.findIdx?_eq_some_iff_getElem.mp ej
    have h1 := of_decide_eq_true h1
    rw [List.getElem_map] at h1
    have hj' : j < ys.length := by simpa using hj
    refine ⟨q, ys, z, j, rfl, rfl, hq, ?_, fun m hm e => ?_, ?_⟩
    · rw [List.getElem?_eq_getElem hj']; cases h1; rfl
    · have hm' : m < ys.length := Nat.lt_trans hm hj'
      rw [List.getElem?_eq_getElem hm'] at e
      have := h2 m hm
      rw [List.getElem_map] at this
      cases e
      simp at this
    · exact kt2 α _ H Ext.refl R (by simp only [Rp])
  all_goals simp_all
theorem lmK_tup {o : PV} (h : lmK .index S o = true) : ∃ ws, o = .tup ws ∧ nmC ws = true := by
  unfold lmK at h
  split at h <;> first | (rename_i h'; cases h') | skip
  all_goals first | (split at h <;> first | exact ⟨_, rfl, h⟩ | cases h) | cases h
theorem s_tix (hK : X.K = E.K)
    (h0 : ((e :: es).all notStar && decide ((e :: es).length < 29)) = true) (hb : plainOb a = true) (hl : (p.endLine == pos.line) = true) (ha : PE X a (tE E W ma)) (hs : PA X (e :: es) (tA E W ms)) :
    PE X (.Call (.Attribute a "index" p) (e :: es) [] pos) (tE E W fun ρ S => (ma ρ S).bind fun x S1 => .need (lmK .index S1 x) ((ms ρ S1).bind fun vs S2 => lmV .index S2 x vs)) := by
  have h00 : (e :: es).all notStar = true := by simp only [Bool.and_eq_true] at h0; exact h0.1
  have h01 : notStar e = true ∧ es.all notStar = true := by simp only [List.all_cons, Bool.and_eq_true] at h00; exact h00
  have mt : MtR X "tuple.index" (rTix X.K) := mt_tup_index
  refine PE.imp (pe_mG tyNm_ok PySem.F.plainAttrs_tuple PySem.F.slot_tuple_index PySem.F.type_tuple_index mt ha hs (base_ok hb) (few_ok h0) hl (star1 h01.1) (back_all h01.2)) fun σ H Q h => ?_
  refine tG.first (R := Rp E) (f := fun x ρ S1 => .need (lmK .index S1 x) ((ms ρ S1).bind fun vs S2 => lmV .index S2 x vs)) h fun α ρ S v x H1 R en rv kt => ?_
  obtain ⟨hk, kt⟩ := kt.need
  refine ⟨?_, ?_⟩
  · obtain ⟨ws, rfl, nm⟩ := lmK_tup hk
    obtain ⟨q, xs, rfl, hq, rx⟩ := rd_tupD rv
    obtain ⟨o, u, e1, e2⟩ := hq.2 (by rw [← rx.nm]; exact nm)
    exact ⟨q, xs, o, u, rfl, by rw [hK]; exact hq.1, e1, e2⟩
  · refine ⟨α, ρ, S, R, en, Kt.bind kt fun vs S2 α2 xs H2 x2 R2 rs kt => ?_⟩
    have q := index_rd (xs := xs) R2 (rv.ext x2) rs kt
    rw [← hK] at q
    exact q
theorem fld_look {n : Nat} (nd : E.fld.Nodup) {f : Nat} {nm : Str} (hf : E.fld[f]? = some nm) {v : PV} : ∀ {ns : List Nat} {vs : List PV} {fs : List (Str × V)}, NsR E ns fs → RpL E α n H vs (fs.map (·.2)) → (ns.zip vs).lookup f = some v → ∃ y, fs.lookup nm = some y ∧ Rp E α n H v y
  | [], _, _, _, _, e => by simp at e
  | _ :: _, [], _, _, _, e => by simp at e
  | g :: ns, w :: vs, [], h, _, _ => by simp [NsR] at h
  | g :: ns, w :: vs, p :: fs, h, r, e => by
    simp only [NsR, List.map_cons, List.cons.injEq] at h
    simp only [List.map_cons, RpL] at r
    obtain ⟨y, ys, ey, r1, r2⟩ := r
    cases ey
    simp only [List.zip_cons_cons, List.lookup_cons] at e
    obtain ⟨pn, py⟩ := p
    rw [List.lookup_cons]
    by_cases hg : f = g
    · subst hg
      have hn : nm = pn := by have := h.1; rw [hf] at this; cases this; rfl
      subst hn
      simp only [beq_self_eq_true] at e ⊢
      cases e
      exact ⟨_, rfl, r1⟩
    · have hn : (nm == pn) = false := by
        cases hb : nm == pn with
        | false => rfl
        | true =>
          have : nm = pn := by simpa using hb
          subst this
          have h1 := h.1
          have hl : f < E.fld.length := (List.getElem?_eq_some_iff.mp hf).1
          have := (List.getElem?_inj hl nd).mp (hf.trans h1.symm)
          exact absurd this hg
      have hg' : (f == g) = false := by simpa using hg
      rw [hg'] at e
      rw [hn]
      exact fld_look nd hf h.2 r2 e
theorem zip_pair {β γ : Type} : ∀ l : List (β × γ), (l.map (·.1)).zip (l.map (·.2)) = l
  | [] => rfl
  | p :: l => by simp [zip_pair l]
theorem fld_rd (R : Rel E α S H) (rv : Rp E α S.length H v x) {f : Nat} {nm : Str} {w : PV} (hf : E.fld[f]? = some nm) (e : fldV S v f = some w) : ∃ a c dx fs y, x = .ref a ∧ H a = some (.ins (E.cls c) dx fs) ∧ ClsF E c ∧ fs.lookup nm = some y ∧ Rp E α S.length H w y := by
  unfold fldV at e
  split at e
  · rename_i c ns vs
    simp only [Rp] at rv
    obtain ⟨a, dx, fs, rfl, h1, h2, h3, h4, cl⟩ := rv
    obtain ⟨y, h5, h6⟩ := fld_look E.fnd hf h3 h4 e
    exact ⟨a, c, dx, fs, y, rfl, h1, cl, h5, h6⟩
  · rename_i l
    split at e
    · rename_i c fs e1
      obtain ⟨dx, gs, h1, h2, h3, cl⟩ := R.obj l _ e1
      simp only [Rp] at rv
      obtain ⟨y, h5, h6⟩ := fld_look E.fnd hf h2 h3 (by rw [zip_pair]; exact e)
      exact ⟨α l, c, dx, gs, y, rv.2, h1, cl, h5, h6⟩
    · cases e
  · cases e
theorem s_fld {f : Nat} {nm : Str} (hK : X.K = E.K) (hf : E.fld[f]? = some nm) (hb : plainOb a = true) (ha : PE X a (tE E W ma)) : PE X (.Attribute a nm pos) (tE E W fun ρ S => (ma ρ S).bind fun x S1 => .opt (fldV S1 x f) fun v => .ok v S1) :=
  PE.imp (pe_fld ha (base_ok hb)) fun σ H Q h => tG.first (R := Rp E) (f := fun x ρ S1 => .opt (fldV S1 x f) fun v => .ok v S1) h fun α ρ S v x H1 R en rv kt => by
    obtain ⟨w, e, kt⟩ := kt.opt
    obtain ⟨a, c, dx, fs, y, e1, h1, cl, h2, h3⟩ := fld_rd R rv hf e
    have hm : nm ∈ E.fld := List.mem_of_getElem? hf
    exact ⟨a, E.cls c, dx, fs, y, e1, h1, by rw [hK]; exact cl.cl, by rw [hK]; exact cl.noa nm hm, h2, kt.here R h3⟩
def gFld (K : PySem.W.Frag) (to : TE) (f : Str) : TG := fun v σ H Q => to σ H fun x H1 => ∃ a C dx fs, x = .ref a ∧ H1 a = some (.ins C dx fs) ∧ Cls K C ∧ NoAttr K C f ∧ fs.length < 1000 ∧ Q σ (upd H1 a (.ins C dx (putF f v fs)))
theorem pg_fld {to : TE} {f : Str} (ho : PE X a to) : PG X (.Attribute a f pos) (gFld X.K to f) := ⟨fun pins s σ H v u Q I r h =>
  PySem.W.kas_attr (thn (ho.run pins s σ H _ I h) fun ov s1 w => by
    obtain ⟨x, H1, I1, rx, o, C, dx, fs, ex, eo, c, n, l, q⟩ := w
    subst ex
    obtain rfl : ov = Value.ref o := rx
    exact setattr_ok I1 eo c n l r fun s2 I2 => ⟨σ, _, I2, q⟩)⟩
theorem put_fld {n : Nat} (nd : E.fld.Nodup) {f : Nat} {nm : Str} (hf : E.fld[f]? = some nm) {v : PV} {y : V} (rv : Rp E α n H v y) : ∀ {fs : List (Nat × PV)} {gs : List (Str × V)}, NsR E (fs.map (·.1)) gs → RpL E α n H (fs.map (·.2)) (gs.map (·.2)) →
    NsR E ((putP f v fs).map (·.1)) (putF nm y gs) ∧ RpL E α n H ((putP f v fs).map (·.2)) ((putF nm y gs).map (·.2)) ∧ gs.length = fs.length
  | [], [], _, _ => ⟨by simp [NsR, putP, putF, hf], RpL.cons rv RpL.nil, rfl⟩
  | [], _ :: _, h, _ => by simp [NsR] at h
  | _ :: _, [], h, _ => by simp [NsR] at h
  | (g, w) :: fs, (pn, py) :: gs, h, r => by
    simp only [NsR, List.map_cons, List.cons.injEq] at h
    simp only [List.map_cons, RpL] at r
    obtain ⟨y', ys, ey, r1, r2⟩ := r
    cases ey
    obtain ⟨i1, i2, i3⟩ := put_fld nd hf rv (fs := fs) (gs := gs) h.2 r2
    unfold putP putF
    by_cases hg : f = g
    · subst hg
      have hn : pn = nm := by have := h.1; rw [hf] at this; cases this; rfl
      subst hn
      rw [if_pos rfl, if_pos rfl]
      refine ⟨?_, RpL.cons rv r2, by simp [i3]⟩
      simp only [NsR, List.map_cons, List.cons.injEq]
      exact h
    · have hn : pn ≠ nm := fun z => by
        subst z
        have hl : f < E.fld.length := (List.getElem?_eq_some_iff.mp hf).1
        exact hg ((List.getElem?_inj hl nd).mp (hf.trans h.1.symm))
      rw [if_neg hg, if_neg hn]
      refine ⟨?_, RpL.cons r1 i2, by simp [i3]⟩
      simp only [NsR, List.map_cons, List.cons.injEq]
      exact ⟨h.1, i1⟩
theorem g_fld {f : Nat} {nm : Str} (hK : X.K = E.K) (hf : E.fld[f]? = some nm) (ha : PE X a (tE E W ma)) : PG X (.Attribute a nm pos) (tT E [] fun v ρ S => match ma ρ S with
    | .ok x S1 => (setFld S1 x f v).map fun S2 => (ρ, S2)
    | _ => none) :=
  PG.imp (pg_fld ha) fun y σ H Q ⟨α, ρ, S, v, R, en, rv, kt⟩ => by
    refine ⟨α, ρ, S, R, en, ?_⟩
    dsimp only at kt
    cases hm : ma ρ S with
    | bad => rw [hm] at kt; exact kt.elim
    | exc c S' => rw [hm] at kt; exact kt.elim
    | ok z S1 =>
      rw [hm] at kt
      intro α1 x H1 e1 R1 rz
      have rv1 := Rp.ext e1 v y rv
      have en1 := en.ext e1
      dsimp only at kt
      cases hs : setFld S1 z f v with
      | none => rw [hs] at kt; exact kt.elim
      | some S2 =>
        rw [hs] at kt
        unfold setFld at hs
        split at hs
        · rename_i l
          split at hs
          · rename_i c fs e2
            split at hs
            · rename_i hlen
              cases hs
              obtain ⟨dx, gs, h1, h2, h3, cl⟩ := R1.obj l _ e2
              simp only [Rp] at rz
              obtain ⟨hl, rfl⟩ := rz
              have xt := Ext.wrote (o := .ins (E.cls c) dx (putF nm y gs)) (m := .ins c (putP f v fs)) R1 hl
              have hmem : nm ∈ E.fld := List.mem_of_getElem? hf
              have h3' := RpL.ext xt _ _ h3
              have rv' := Rp.ext xt v y rv1
              obtain ⟨i1, i2, i3⟩ := put_fld E.fnd hf rv' h2 h3'
              refine ⟨α1 l, E.cls c, dx, gs, rfl, h1, by rw [hK]; exact cl.cl, by rw [hK]; exact cl.noa nm hmem, by rw [i3]; exact hlen, ?_⟩
              have R2 := R1.wrote (o := .ins (E.cls c) dx (putF nm y gs)) (m := .ins c (putP f v fs)) hl ⟨dx, _, upd_same, i1, by simpa using i2, cl⟩
              exact kt α1 σ _ (e1.trans xt) R2 (en1.ext xt) fun own _ => rfl
            · cases hs
          · cases hs
        · cases hs
theorem vals_app {vs ws : List V} {us ts : List Value} (h : Vals vs us) (h2 : Vals ws ts) : Vals (vs ++ ws) (us ++ ts) := by
  induction h with
  | nil => exact h2
  | cons r _ ih => exact .cons r ih
def tMakeE (C : Addr) (sp : Sp) (Ex : L2.St → XK) (dvs : List V) (t : TA) : TE := fun σ H Q => t σ H fun vs H1 => ∀ x dx, H1 x = none → H1 dx = none → dx ≠ x →
  sp (.ref x :: (vs ++ dvs)) (upd (upd H1 dx (.own x)) x (.ins C dx [])) (fun v H2 => v = .non ∧ Q (.ref x) H2) (Ex σ)
theorem run_makeE {CX : CXT} {k : Nat} {C f : Addr} {fd : FuncData} {ps : List Str} {sp : Sp} {Ex : L2.St → XK} {pins : List (Addr × Obj)} {s : Shared} {us ds : List Value} {ys dvs : List V} (M : Mk X.K C f) (F : FnOk X.prog X.w X.K X.mg X.base CX k f fd ps sp) (hr : Room (k + 1) X.A) (hb : Binds X.K fd ps ds) (hds : Vals dvs ds)
    (hx : PassesAt CX X σ (Ex σ)) (I : Inv X pins σ H s) (r : Vals ys us)
    (h : ∀ x dx, H x = none → H dx = none → dx ≠ x → sp (.ref x :: (ys ++ dvs)) (upd (upd H dx (.own x)) x (.ins C dx [])) (fun v H2 => v = .non ∧ Q (.ref x) H2) (Ex σ)) : wpAny (model X.prog X.w) X.A (call (.ref C) us) (EP X pins σ Q) X.xe s := by
  have f1 : H (s.heap.objs.size + 1) = none := I.hok.fresh (Nat.le_succ _)
  have f2 : H s.heap.objs.size = none := I.hok.fresh (Nat.le_refl _)
  have h1 := h _ _ f1 f2 (Nat.ne_of_lt (Nat.lt_succ_self _))
  have J := Inv.made (C := C) I
  have rr : Vals (V.ref (s.heap.objs.size + 1) :: (ys ++ dvs)) ((Value.ref (s.heap.objs.size + 1) :: us) ++ ds) := .cons rfl (vals_app r hds)
  have hl : ((Value.ref (s.heap.objs.size + 1) :: us) ++ ds).length = ps.length := by
    rw [← rr.length]; exact F.len _ _ _ _ h1
  have bb := hb _ (Value.ref (s.heap.objs.size + 1) :: us) J.kIn hl
  have body := F.run _ X.stack _ _ ⟨Value.ref (s.heap.objs.size + 1) :: us, []⟩ ((Value.ref (s.heap.objs.size + 1) :: us) ++ ds) _ _ (Ex σ) (hr.make C us []) (J.env0.make C us []) bb rr h1
  refine wpAny_call (make_map (f := f) I.kIn M.makes M.init (beq_iff_eq.mp M.fn) (codeAny_mono body fun res s' hq => ?_))
  match res, hq with
  | .error e, hq => exact hx pins _ _ e s' J hq
  | .ok (.ret u), hq =>
    obtain ⟨v, H', I3, rv, ev, q3⟩ := J.after hq
    subst ev
    exact ⟨rv, .ref (s.heap.objs.size + 1), H', I3, rfl, q3⟩
theorem pe_makeE {CX : CXT} {k : Nat} {C f : Addr} {fd : FuncData} {ps : List Str} {sp : Sp} {Ex : L2.St → XK} {x : Str} {t : TA} {ds : List Value} {dvs : List V} (M : Mk X.K C f) (F : FnOk X.prog X.w X.K X.mg X.base CX k f fd ps sp) (hr : Room (k + 1) X.A) (hg : Gl X x) (hm : X.mg x = some (.ref C)) (hb : Binds X.K fd ps ds) (hds : Vals dvs ds)
    (hx : ∀ σ, PassesAt CX X σ (Ex σ)) (ha : PA X (e :: es) t) (hdb : (x == ("__debug__" : Str)) = false) (he : starEach (e :: es) X.env = (false, eval e X.env) :: starEach es X.env) (hpl : (backTo pos (starEach es X.env)).any (·.1) = false) : PE X (.Call (.Name x p) (e :: es) [] pos) (tMakeE C sp Ex dvs t) :=
  ⟨fun pins s σ H Q I h => wpAny_Call_Name_kw (ld_glob I hg hm (PySem.W.callWith_K (h₀ := X.base) I.ok.mod.kin M.kp (thn (ha.run pos pins s σ H _ I h) fun us s1 w => by
    obtain ⟨vs, H1, I1, r, q⟩ := w
    exact ⟨I1.kIn, run_makeE M F hr hb hds (hx σ) I1 r q⟩) he hpl) hdb)⟩
theorem make_run {c f : Nat} {dv : List PV} {dvs : List V} (cl : ClsF E c) {α : Nat → Addr} {S : Sto} {vs : List PV} {xs : List V} {H1 : Hp} (R : Rel E α S H1) (rs : RpL E α S.length H1 vs xs) (rd : ∀ (α : Nat → Addr) (n : Nat) (H : Hp), RpL E α n H dv dvs)
    (kt : Kt E W (Rp E) α S σ H1 ((cf.fn f (.loc S.length :: (vs ++ dv)) (S ++ [.ins c []])).bind fun r S2 => .need (decide (r = .non)) (.ok (.loc S.length) S2)) Q) {y dx : Addr} (hy : H1 y = none) (hdx : H1 dx = none) (hne : dx ≠ y) :
    spF E cf f (.ref y :: (xs ++ dvs)) (upd (upd H1 dx (.own y)) y (.ins (E.cls c) dx [])) (fun v H2 => v = .non ∧ Q (.ref y) H2) (fun cls dd => WE W σ cls dd) := by
  have x1 : Ext α S H1 α S (upd H1 dx (.own y)) := Ext.fresh hdx
  have R1 : Rel E α S (upd H1 dx (.own y)) := R.fresh hdx
  have hy1 : upd H1 dx (.own y) y = none := by rw [upd_ne (Ne.symm hne)]; exact hy
  have x2 := Ext.laid (α := α) (S := S) (o := .ins (E.cls c) dx []) (m := .ins c []) hy1
  have R2 := R1.laid (o := .ins (E.cls c) dx []) (m := .ins c []) hy1 ⟨dx, [], upd_same, rfl, RpL.nil, cl⟩
  have rs2 := RpL.ext x2 _ _ (RpL.ext x1 _ _ rs)
  have rl : Rp E (put1 α S.length y) (S ++ [MO.ins c []]).length (upd (upd H1 dx (.own y)) y (.ins (E.cls c) dx [])) (.loc S.length) (.ref y) := by
    simp only [Rp]
    exact ⟨by simp, by rw [put1_same]⟩
  refine ⟨put1 α S.length y, S ++ [.ins c []], .loc S.length :: (vs ++ dv), R2, RpL.cons rl (RpL.append rs2 (rd _ _ _)), ?_⟩
  have kt2 := Kt.cast (kt.move (x1.trans x2))
  refine kt2.bind (R' := Rp E) fun r S3 α3 z H3 x3 R3 rz kt => ?_
  obtain ⟨hd, kt⟩ := kt.need
  have hd := of_decide_eq_true hd
  subst hd
  simp only [Rp] at rz
  exact ⟨rz, kt.here R3 (Rp.ext x3 _ _ rl)⟩
theorem s_make {k c f : Nat} {fa : Addr} {x : Str} (hK : X.K = E.K) (M : Mk X.K (E.cls c) fa) (cl : ClsF E c) (F : FnIn E cf X k f fa) (hr : Room (k + 1) X.A) (hg : Gl X x) (hm : X.mg x = some (.ref (E.cls c))) (tk : Takes X W) (h0 : (e :: es).all notStar = true) (ha : PA X (e :: es) (tA E W ms)) (hdb : (x == ("__debug__" : Str)) = false) :
    PE X (.Call (.Name x p) (e :: es) [] pos) (tE E W fun ρ S => (ms ρ S).bind fun vs S1 => (cf.fn f (.loc S1.length :: (vs ++ [])) (S1 ++ [.ins c []])).bind fun r S2 => .need (decide (r = .non)) (.ok (.loc S1.length) S2)) := by
  obtain ⟨kp, fd, ps, hb, ok⟩ := F
  simp only [List.all_cons, Bool.and_eq_true] at h0
  refine PE.imp (pe_makeE (Ex := WE W) (dvs := []) M ok hr hg hm hb .nil (passAt tk) ha hdb (star1 h0.1) (stars h0.2)) fun σ H Q h => ?_
  refine many (f := fun vs S1 => (cf.fn f (.loc S1.length :: (vs ++ [])) (S1 ++ [.ins c []])).bind fun r S2 => .need (decide (r = .non)) (.ok (.loc S1.length) S2)) h fun α S vs xs H1 R rs kt => fun y dx hy hdx hne => ?_
  exact make_run cl R rs (fun _ _ _ => RpL.nil) kt hy hdx hne
theorem s_makeD {k c f : Nat} {fa : Addr} {x : Str} (hK : X.K = E.K) (M : Mk X.K (E.cls c) fa) (cl : ClsF E c) (F : FnD E cf X k f fa) (hr : Room (k + 1) X.A) (hg : Gl X x) (hm : X.mg x = some (.ref (E.cls c))) (tk : Takes X W) (h0 : (e :: es).all notStar = true) (ha : PA X (e :: es) (tA E W ms)) (hdb : (x == ("__debug__" : Str)) = false) :
    PE X (.Call (.Name x p) (e :: es) [] pos) (tE E W fun ρ S => (ms ρ S).bind fun vs S1 => (cf.fn f (.loc S1.length :: (vs ++ [.tup []])) (S1 ++ [.ins c []])).bind fun r S2 => .need (decide (r = .non)) (.ok (.loc S1.length) S2)) := by
  obtain ⟨kp, fd, ps, u, hb, eu, ok⟩ := F
  simp only [List.all_cons, Bool.and_eq_true] at h0
  refine PE.imp (pe_makeE (Ex := WE W) (dvs := [.ref u]) M ok hr hg hm hb (.cons rfl .nil) (passAt tk) ha hdb (star1 h0.1) (stars h0.2)) fun σ H Q h => ?_
  refine many (f := fun vs S1 => (cf.fn f (.loc S1.length :: (vs ++ [.tup []])) (S1 ++ [.ins c []])).bind fun r S2 => .need (decide (r = .non)) (.ok (.loc S1.length) S2)) h fun α S vs xs H1 R rs kt => fun y dx hy hdx hne => ?_
  refine make_run cl R rs (fun α n H => RpL.cons ?_ RpL.nil) kt hy hdx hne
  simp only [Rp]
  rw [hK] at eu
  exact ⟨u, [], rfl, ⟨.inr eu, fun h => by cases h⟩, RpL.nil⟩
end
end PM
end
section
namespace PM
open PySem L2 PySem.Spec PyProof.Rows
section
variable {E : Cfg} {W : WX} {X : Cx} {σ : L2.St} {H : Hp} {Q : VK} {α : Nat → Addr} {n : Nat}
theorem DF.any {kvs : List (PV × PV)} {ks : List (Key × V)} (k : Key) (h : DF E α n H kvs ks) : (kvs.any fun p => decide (keyF p.1 = some k)) = (ks.any fun e => decide (e.1 = k)) := by
  induction kvs generalizing ks with
  | nil => have h : ks = [] := h; subst h; rfl
  | cons p r ih =>
    obtain ⟨k', y, ks', e, h1, h2, h3⟩ := h
    subst e
    rw [List.any_cons, List.any_cons, ih h3, h1]
    simp
theorem DF.map {k : Key} {v : PV} {y : V} (rv : Rp E α n H v y) : ∀ {kvs : List (PV × PV)} {ks : List (Key × V)}, DF E α n H kvs ks →
    DF E α n H (kvs.map fun p => if keyF p.1 = some k then (p.1, v) else p) (ks.map fun e => if e.1 = k then (e.1, y) else e)
  | [], _, h => by
    have h : _ = [] := h
    subst h; rfl
  | p :: r, _, h => by
    obtain ⟨k', y', ks', e, h1, h2, h3⟩ := h
    subst e
    have ih := DF.map (k := k) rv h3
    by_cases hk : k' = k
    · subst hk
      refine ⟨k', y, _, by rw [List.map_cons, if_pos rfl], ?_, ?_, ih⟩
      · dsimp only; rw [if_pos h1]; exact h1
      · dsimp only; rw [if_pos h1]; exact rv
    · have hk' : ¬ keyF p.1 = some k := by rw [h1]; simpa using hk
      refine ⟨k', y', _, by rw [List.map_cons, if_neg hk], ?_, ?_, ih⟩
      · dsimp only; rw [if_neg hk']; exact h1
      · dsimp only; rw [if_neg hk']; exact h2
theorem DF.app {p : PV × PV} {k : Key} {y : V} (h1 : keyF p.1 = some k) (h2 : Rp E α n H p.2 y) : ∀ {kvs : List (PV × PV)} {ks : List (Key × V)}, DF E α n H kvs ks → DF E α n H (kvs ++ [p]) (ks ++ [(k, y)])
  | [], _, h => by
    have h : _ = [] := h
    subst h
    exact ⟨k, y, [], rfl, h1, h2, rfl⟩
  | p' :: r, _, h => by
    obtain ⟨k', y', ks', e, g1, g2, g3⟩ := h
    subst e
    exact ⟨k', y', _, rfl, g1, g2, DF.app h1 h2 g3⟩
theorem DF.put {kvs : List (PV × PV)} {ks : List (Key × V)} {kv : PV} {k : Key} {v : PV} {y : V} (h1 : keyF kv = some k) (h2 : Rp E α n H v y) (h : DF E α n H kvs ks) : DF E α n H (setF kvs kv k v) (putK ks k y) := by
  unfold setF putK
  rw [DF.any k h]
  by_cases q : (ks.any fun e => decide (e.1 = k)) = true
  · rw [if_pos q, if_pos q]; exact DF.map h2 h
  · rw [if_neg q, if_neg q]; exact DF.app h1 h2 h
def StD (w : World) (K : PySem.W.Frag) (D : Addr) (y z : V) (H : Hp) (Nx : Hp → Prop) : Prop :=
  (∃ kvs k, y = kV k ∧ H D = some (.dK kvs) ∧ kvs.length < sizeLine ∧ Nx (upd H D (.dK (putK kvs k z)))) ∨
  (∃ ks k b, y = .ref b ∧ H D = some (dnO w D ks) ∧ KyOk K H ks ∧ ks.length < sizeLine ∧ NkV K H k (.ref b) ∧ k.depth ≤ 8 ∧ Nx (upd H D (dnO w D (nput ks k b z))))
theorem st_dictSet {pins : List (Addr × Obj)} {s : Shared} {D : Addr} {y z : V} {u r : Value} {Nx : Hp → Prop} {Ex : Value → Shared → Prop} {Q : Unit → Shared → Prop} (hu : X.A.units + 65 < cLine) (I : Inv X pins σ H s) (ry : RelV y u) (rz : RelV z r) (h : StD X.w X.K D y z H Nx)
    (k : ∀ s' H', Inv X pins σ H' s' → Nx H' → Q () s') : wpAny (model X.prog X.w) X.A (dictSet D u r) Q Ex s := by
  rcases h with ⟨kvs, kk, ek, hD, hz, nx⟩ | ⟨ks, kk, b, eb, hD, hk, hz, hb, hd, nx⟩
  · subst ek
    exact d_dictSet I hD hz ry rz fun s' I' => k s' _ I' nx
  · subst eb
    cases ry
    exact dn_dictSet hu I hD hk hz hb hd rz fun s' I' => k s' _ I' nx
def newO (w : World) (n : Bool) (D : Addr) : HO := if n = true then dnO w D [] else .dK []
theorem newO_ok {w : World} {n : Bool} {H' : Hp} (h : Heap) (hb : sysModules < h.objs.size) : ObjOk X.prog w H' (h.push { cls := .type "dict", data := .dict #[] }) h.objs.size (newO w n h.objs.size) := by
  cases n with
  | false => exact dk_empty h hb
  | true =>
    have e : (h.push { cls := .type "dict", data := .dict #[] }).get? h.objs.size = some { cls := .type "dict", data := .dict #[] } := Heap.get?_push_size _ rfl
    refine ⟨⟨Nat.zero_le _, beq_eq_false_iff_ne.mpr (Ne.symm (Nat.ne_of_lt hb)), [], .nil, _, #[], 0, e, ⟨rfl, rfl, rfl⟩, rfl, rfl, List.nodup_nil⟩, ⟨_, e⟩, ?_⟩
    rintro g1 g2 ⟨z, hd, us', r', o', es', ep', k1, k2, k3, k4, k5⟩ st
    exact ⟨z, hd, us', r', o', es', ep', st _ k1, k2, k3, k4, k5⟩
def tDcN (w : World) (K : PySem.W.Frag) (nk : Bool) (wi : TI) (g : TG) (tk tv : TE) (vs : List Nat) : TE := fun σ H Q => wi σ H fun J H1 => ∀ D, H1 D = none → ∃ Wn : Nat → Nat → Hp → Prop, (∃ m, Wn 0 m (upd H1 D (newO w nk D))) ∧
  ∀ i m H, Wn i m H → (J.stop i H ∧ Q (.ref D) H) ∨
    (J.go i H ∧ ∃ Nx : Hp → Prop, (∀ H', Nx H' → ∃ m', m' < m ∧ Wn (i + 1) m' H') ∧ ∀ x H', J.yld i H x H' → g x (L2.wipe σ vs) H' fun σ2 H2 => L2.wipe σ2 vs = L2.wipe σ vs ∧ tk σ2 H2 fun y H4 => tv σ2 H4 fun z H5 => StD w K D y z H5 Nx)
theorem dcn_core {pins : List (Addr × Obj)} {s : Shared} {nk : Bool} {kx vx tg iter : Expr} {scope : Scope} {own : List (Str × Nat)} {pos pos' : Pos} {wi : TI} {g : TG} {tk tv : TE} {use : Option (Value → Sem Unit)} {Qf : Value → Shared → Prop}
    (hu : X.A.units + 65 < cLine) (hc : X.calm = true) (hN : X.N.Nodup) (I : Inv X pins σ H s) (hi : PI X tg iter wi) (ok : BlkOk X.N X.env.scope scope own)
    (hg : ∀ (s : Shared) (H : Hp) (C : Addr) (cl : List (Str × Addr)) (fp : List Addr), PG (X.blk s H scope (compEnvC scope cl C X.env) fp) tg g)
    (hk : ∀ (s : Shared) (H : Hp) (C : Addr) (cl : List (Str × Addr)) (fp : List Addr), PE (X.blk s H scope (compEnvC scope cl C X.env) fp) kx tk)
    (he : ∀ (s : Shared) (H : Hp) (C : Addr) (cl : List (Str × Addr)) (fp : List Addr), PE (X.blk s H scope (compEnvC scope cl C X.env) fp) vx tv) (hs : ∀ x, foldedSetIterable iter X.env x = pure x)
    (h : tDcN X.w X.K nk wi g tk tv (own.map (·.2)) σ H Q)
    (fin : ∀ D C s' m H', Inv X pins σ H' s' → Q (.ref D) H' → s'.heap.Ns C m → FpOk X pins H' C → compPost (model X.prog X.w) X.A X.xe use Qf (.ref D) C (.ok .next) s') :
    wpAny (model X.prog X.w) X.A (comprehension (.DictComp kx vx [⟨tg, iter, [], 0⟩] scope pos) scope X.env pos' newDict false (eval iter X.env) use) Qf X.xe s := by
  have free : ∀ y ∈ scope.names, y.2 = .free → ∃ c, X.env.cells.lookup y.1 = some c := fun y hy e => (ok.free y hy e).elim (fun k => I.ok.has _ (.inl k)) fun k => I.ok.has _ (.inr k)
  refine wpAny_comprehension_free (use := use) rfl hs (closure_ok free) ok.kind (fun y hy e => by rw [ok.uniq y hy, e]) (thn (hi.run pins s σ H _ I h) fun xv s1 hx => thn hx fun itv s2 w2 => ?_)
  obtain ⟨it, fp, tn, J, H2, ei, I2, T, st2, f2, q⟩ := w2
  subst ei
  refine wpAny_newObj_type (newEnv_comp ?_)
  generalize hD : s2.heap.objs.size = D
  obtain ⟨Wn, ⟨m0, w0⟩, turn⟩ := q D (I2.hok.fresh (Nat.le_of_eq hD))
  generalize hs3 : ({ s2 with heap := s2.heap.push { cls := .type "dict", data := .dict #[] } } : Shared) = s3
  have h3 : s3.heap = s2.heap.push { cls := .type "dict", data := .dict #[] } := hs3 ▸ rfl
  have I3 : Inv X pins σ (upd H2 D (newO X.w nk D)) s3 := by
    subst hs3 hD
    exact I2.laid (t' := s2.toks) (fun b o e => Heap.get?_push_of_some _ e) (Nat.le_refl _) (newO_ok s2.heap I2.big)
  have small : ∀ b ∈ fp, b < s2.heap.objs.size := fun b hb => let ⟨o, e, _⟩ := T.obj _ _ st2 b hb; Heap.lt_size e
  have f3 : ∀ b ∈ fp, FpOk X pins (upd H2 D (newO X.w nk D)) b ∧ b < s3.heap.objs.size := fun b hb => by
    have lt := small b hb
    have bD : b ≠ D := by rw [← hD]; exact Nat.ne_of_lt lt
    refine ⟨⟨?_, (f2 b hb).2⟩, ?_⟩
    · rw [upd_ne bD]; exact (f2 b hb).1
    · rw [h3, Heap.size_push]; exact Nat.lt_succ_of_lt lt
  have st3 : tn 0 s3.heap := T.keep _ _ _ st2 fun b _ o e => h3 ▸ Heap.get?_push_of_some _ e
  have I4 := block_start I3 ok hN f3
  have pg := hg s3 (upd H2 D (newO X.w nk D)) s3.heap.objs.size (cellsFrom (s3.heap.objs.size + 1) scope.names (cloFrom X.env.cells scope.names [])) fp
  have pk := hk s3 (upd H2 D (newO X.w nk D)) s3.heap.objs.size (cellsFrom (s3.heap.objs.size + 1) scope.names (cloFrom X.env.cells scope.names [])) fp
  have pe := he s3 (upd H2 D (newO X.w nk D)) s3.heap.objs.size (cellsFrom (s3.heap.objs.size + 1) scope.names (cloFrom X.env.cells scope.names [])) fp
  show codeAny _ _ (.compStart (.DictComp kx vx [⟨tg, iter, [], 0⟩] scope pos) 0 (.ref it) (.ref D) (compEnvC scope (cellsFrom (s3.heap.objs.size + 1) scope.names (cloFrom X.env.cells scope.names [])) s3.heap.objs.size X.env))
    (compPost (model X.prog X.w) X.A X.xe use Qf (.ref D) s3.heap.objs.size) { s3 with heap := pushCells (s3.heap.push { cls := .type "dict", data := .dict #[] }) scope.names }
  have nfp : ∀ b ∈ fp, (upd H2 D (newO X.w nk D)) b = none := fun b hb => (f3 b hb).1.1
  generalize hce : compEnvC scope (cellsFrom (s3.heap.objs.size + 1) scope.names (cloFrom X.env.cells scope.names [])) s3.heap.objs.size X.env = ce at I4 pg pk pe ⊢
  have cL : ce.locals = s3.heap.objs.size := hce ▸ rfl
  generalize hH3 : upd H2 D (newO X.w nk D) = H3 at I3 I4 pg pk pe w0 nfp f3
  generalize hs4 : ({ s3 with heap := pushCells (s3.heap.push { cls := .type "dict", data := .dict #[] }) scope.names } : Shared) = s4 at I4 ⊢
  have st4 : tn 0 s4.heap := T.keep _ _ _ st3 fun b _ o e => hs4 ▸ pushCells_keeps _ _ _ _ (Heap.get?_push_of_some _ e)
  have stat : ∀ {σ' : L2.St} {H' : Hp} {s' : Shared}, Inv (X.blk s3 H3 scope ce fp) [] σ' H' s' → (∀ b ∈ fp, H' b = none) → ∀ b ∈ fp, FpOk (X.blk s3 H3 scope ce fp) [] H' b := fun {σ' H' s'} J' nb b hb =>
    ⟨nb b hb, (J'.ok.exf b hb).1, J'.ok.exfs b hb, .inl hb, fun x c e => (J'.ok.exf b hb).2 x c e, fun p hp => absurd (show p ∈ ([] : List (Addr × Obj)) ++ [] from hp) (by simp)⟩
  refine codeAny_compStart_dict ?loop (T.self X.A 0 _ _ _ st4 ?loop)
  refine compLoop_anyD (fun n s' => ∃ i H', Inv (X.blk s3 H3 scope ce fp) [] (L2.wipe σ (own.map (·.2))) H' s' ∧ tn i s'.heap ∧ (∀ b ∈ fp, H' b = none) ∧ Wn i n H') ?_ m0 ⟨0, H3, I4, st4, nfp, w0⟩
  rintro n s5 ⟨i, H5, I5, st5, n5, w5⟩
  rcases turn i n H5 w5 with ⟨stop, qq⟩ | ⟨go, Nx, hNx, step⟩
  · refine thnF (T.done (X.blk s3 H3 scope ce fp) rfl rfl rfl hc i [] s5 _ H5 (fun _ _ => False) I5 (stat I5 n5) st5 stop) fun r s6 hr => ?_
    obtain ⟨er, I6⟩ := hr
    subst er
    have I7 : Inv X pins σ H5 s6 := I3.call' (ch := fp) I6.os I6.base I6.hok I6.bare fun b hb => let f := (f3 b hb).1.2; ⟨f.2.2.1, f.1, f.2.2.2.1, f.2.2.2.2⟩
    have nC : H5 s3.heap.objs.size = none := cL ▸ (show H5 ce.locals = none from I6.free)
    obtain ⟨m, hn, _⟩ := I6.loc
    exact fin D s3.heap.objs.size s6 m H5 I7 qq (cL ▸ (show s6.heap.Ns ce.locals m from hn)) (I3.fpOk (Nat.le_refl _) nC)
  · refine thnF (T.item (X.blk s3 H3 scope ce fp) rfl rfl rfl hc i [] s5 _ H5 (fun _ _ => False) I5 (stat I5 n5) st5 go) fun r s6 ⟨u, hr, h6⟩ => ?_
    subst hr
    refine thnF h6 fun _ s7 ⟨x, H7, I7, r7, y7, st7, n7⟩ => ?_
    refine thnF (pg.run _ s7 _ H7 x u _ (I7.pinned (stat I7 n7) (T.obj _ _ st7)) r7 (step x H7 y7)) fun _ s8 ⟨σ8, H8, I8, hw8, q8⟩ => ?_
    refine wpAny_tests_nil ?_
    rw [if_pos rfl]
    refine thnF (pk.run _ s8 σ8 H8 _ I8 q8) fun z s10 ⟨yk, H10, I10, r10, q10⟩ => ?_
    refine thnF (pe.run _ s10 σ8 H10 _ I10 q10) fun z2 s11 ⟨yv, H11, I11, r11, q11⟩ => ?_
    refine st_dictSet (X := X.blk s3 H3 scope ce fp) hu I11 r10 r11 q11 fun s' H' I' nx => ?_
    obtain ⟨m', hm, w'⟩ := hNx H' nx
    have pin' : ∀ b ∈ fp, ∀ o, s7.heap.get? b = some o → s'.heap.get? b = some o ∧ H' b = none := fun b hb o e =>
      let z := I'.pin (b, o) (List.mem_append_right _ (List.mem_append_right _ (mem_pinsAt hb e)))
      ⟨z.1, z.2.1⟩
    have hl : (L2.wipe σ (own.map (·.2))).length = σ8.length := by rw [← hw8, wipe_length]
    refine ⟨m', hm, i + 1, H', (I'.unpinned (pins := [])).weak hl (fun j v e => (wipe_some (hw8 ▸ e)).1), T.keep _ _ _ st7 fun b hb o e => (pin' b hb o e).1, fun b hb => ?_, w'⟩
    obtain ⟨o, e, _⟩ := T.obj _ _ st7 b hb
    exact (pin' b hb o e).2
theorem pe_dcn {nk : Bool} {kx vx tg iter : Expr} {scope : Scope} {own : List (Str × Nat)} {pos : Pos} {wi : TI} {g : TG} {tk tv : TE} (hu : X.A.units + 65 < cLine) (hc : X.calm = true) (hN : X.N.Nodup) (hi : PI X tg iter wi) (ok : BlkOk X.N X.env.scope scope own)
    (hg : ∀ (s : Shared) (H : Hp) (C : Addr) (cl : List (Str × Addr)) (fp : List Addr), PG (X.blk s H scope (compEnvC scope cl C X.env) fp) tg g)
    (hk : ∀ (s : Shared) (H : Hp) (C : Addr) (cl : List (Str × Addr)) (fp : List Addr), PE (X.blk s H scope (compEnvC scope cl C X.env) fp) kx tk)
    (he : ∀ (s : Shared) (H : Hp) (C : Addr) (cl : List (Str × Addr)) (fp : List Addr), PE (X.blk s H scope (compEnvC scope cl C X.env) fp) vx tv) (hs : ∀ x, foldedSetIterable iter X.env x = pure x) :
    PE X (.DictComp kx vx [⟨tg, iter, [], 0⟩] scope pos) (tDcN X.w X.K nk wi g tk tv (own.map (·.2))) := ⟨fun pins s σ H Q I h => by
  rw [arm_eval_DictComp]
  refine dcn_core hu hc hN I hi ok hg hk he hs h fun D C s' m H' I' q hn f => ⟨m, hn, fun h'' sb => ?_⟩
  obtain ⟨f0, f1, f2, f3, f4, f5⟩ := f
  exact ⟨.ref D, H', I'.turned (t' := s'.toks) (fun b o hb e => (sb.2 b hb).trans e) f0 f1 f3 f4 f5, rfl, q⟩⟩
end
end PM
end
section
namespace PM
open PySem L2 PySem.Spec PyProof.Rows
section
variable {E : Cfg} {W : WX} {X : Cx} {σ : L2.St} {H : Hp} {Q : VK} {α : Nat → Addr} {S : Sto} {mk mv ma mb : Env → Sto → Res PV} {a b : Expr} {pos : Pos}
theorem keyT_ref {n : Nat} {v : PV} {x : V} {k : NestedKey} (rv : Rp E α n H v x) (e : keyT v = some k) : ∃ b, x = .ref b := by
  unfold keyT at e
  split at e
  · obtain ⟨a, xs, e3, _⟩ := rd_tup rv
    exact ⟨a, e3⟩
  · cases e
theorem ins_rd (R : Rel E α S H) {l : Nat} (hl : l < S.length) {kv v : PV} {y z : V} (ry : Rp E α S.length H kv y) (rz : Rp E α S.length H v z) {o : MO} (e : insO S[l]? kv v = some o) {Nx : Hp → Prop}
    (nx : ∀ ho, Ext α S H α (S.set l o) (upd H (α l) ho) → Rel E α (S.set l o) (upd H (α l) ho) → Nx (upd H (α l) ho)) : StD E.wo E.K (α l) y z H Nx := by
  cases hs : S[l]? with
  | none => rw [hs] at e; simp [insO] at e
  | some ob =>
    rw [hs] at e
    cases ob with
    | lst _ => simp [insO] at e
    | ins _ _ => simp [insO] at e
    | dic kvs =>
      simp only [insO] at e
      obtain ⟨k, e1, e2⟩ := Option.bind_eq_some_iff.mp e
      split at e2
      · rename_i hlen
        cases e2
        obtain ⟨ks, h1, h2⟩ := R.obj l _ hs
        have hx := keyF_kV ry e1
        subst hx
        refine .inl ⟨ks, k, rfl, h1, by rw [← h2.len, ← lim_eq]; exact hlen, ?_⟩
        have x6 := Ext.wrote (o := .dK (putK ks k z)) (m := .dic (setF kvs kv k v)) R hl
        exact nx _ x6 (R.wrote hl ⟨_, upd_same, by simpa using DF.put e1 (Rp.ext x6 _ _ rz) (DF.ext x6 _ _ h2)⟩)
      · cases e2
    | dkn kvs =>
      simp only [insO] at e
      obtain ⟨k, e1, e2⟩ := Option.bind_eq_some_iff.mp e
      split at e2
      · rename_i hlen
        cases e2
        obtain ⟨ks, h1, h2⟩ := R.obj l _ hs
        obtain ⟨b, rfl⟩ := keyT_ref ry e1
        obtain ⟨q1, q2⟩ := keyT_is e1
        refine .inr ⟨ks, k, b, rfl, h1, h2.keys, by rw [← h2.len, ← lim_eq]; exact hlen, Rp.nk _ _ _ ry q1, q2, ?_⟩
        have x6 := Ext.wrote (o := dnO E.wo (α l) (nput ks k b z)) (m := .dkn (setT kvs kv k v)) R hl
        exact nx _ x6 (R.wrote hl ⟨_, upd_same, by simpa using DN.put e1 (Rp.ext x6 _ _ ry) (Rp.ext x6 _ _ rz) (DN.ext x6 _ _ h2)⟩)
      · cases e2
theorem newD_or {l : Nat} {n : Nat} {H : Hp} (nk : Bool) : OR E α n (upd H l (newO E.wo nk l)) l (newD nk) := by
  cases nk with
  | false => exact ⟨[], upd_same, rfl⟩
  | true => exact ⟨[], upd_same, rfl⟩
theorem dc_is {nk : Bool} {is own : List Nat} {mi : Env → Sto → Res Itm} {mt : PV → Env → Sto → RT} (hown : ∀ i ∈ is, i ∈ own) (h : tE E W (fun ρ S => (mi ρ S).bind fun J S1 => dcL S1.length J.same (fun x S => mt x (PM.wipe ρ own) S) mk mv J.xs (S1 ++ [newD nk])) σ H Q) :
    tDcN E.wo E.K nk (tI E W mi) (tT E is mt) (tE E noW mk) (tE E noW mv) own σ H Q := by
  refine tG.first (R := Rp E) (R' := RI E) (f := fun J ρ S1 => dcL S1.length J.same (fun x S => mt x (PM.wipe ρ own) S) mk mv J.xs (S1 ++ [newD nk])) h fun α ρ S I J H1 R1 en ri kt D hD => ?_
  have x0 := Ext.laid (α := α) (S := S) (o := newO E.wo nk D) (m := newD nk) hD
  have R0 : Rel E (put1 α S.length D) (S ++ [newD nk]) (upd H1 D (newO E.wo nk D)) := R1.laid hD (newD_or nk)
  refine ⟨fun i m H' => m = I.xs.length - i ∧ i ≤ I.xs.length ∧ ∃ α' S', Ext α S H1 α' S' H' ∧ Rel E α' S' H' ∧ EnvR E α' S'.length H' ρ σ ∧ S.length < S'.length ∧ α' S.length = D ∧
      Kt E W (Rp E) α' S' σ H' (dcL S.length I.same (fun x S => mt x (PM.wipe ρ own) S) mk mv (I.xs.drop i) S') Q,
    ⟨I.xs.length, by simp, Nat.zero_le _, put1 α S.length D, _, x0, R0, en.ext x0, by simp, put1_same, by rw [List.drop_zero]; exact kt.move x0⟩, ?_⟩
  rintro i m H' ⟨rfl, hi, α', S', x', R', en', hl, hD', kt⟩
  by_cases hlt : i < I.xs.length
  · have hd : I.xs.drop i = I.xs[i] :: I.xs.drop (i + 1) := List.drop_eq_getElem_cons hlt
    rw [hd] at kt
    simp only [dcL] at kt
    obtain ⟨sm, kt⟩ := kt.need
    obtain ⟨serve, _⟩ := ri S α' S' H' rfl x' R' sm
    obtain ⟨hgo, hy⟩ := serve i I.xs[i] (by simp [hlt])
    refine .inr ⟨hgo, fun H'' => ∃ α2 S2, Ext α S H1 α2 S2 H'' ∧ Rel E α2 S2 H'' ∧ EnvR E α2 S2.length H'' ρ σ ∧ S.length < S2.length ∧ α2 S.length = D ∧
      Kt E W (Rp E) α2 S2 σ H'' (dcL S.length I.same (fun x S => mt x (PM.wipe ρ own) S) mk mv (I.xs.drop (i + 1)) S2) Q, fun H'' h2 => ⟨I.xs.length - (i + 1), by omega, rfl, hlt, h2⟩, fun x H2 yld => ?_⟩
    obtain ⟨xy, Ry, ry⟩ := hy x H2 yld
    refine ⟨α', PM.wipe ρ own, S', I.xs[i], Ry, (en'.ext xy).wipe own, ry, ?_⟩
    have kt := kt.move xy
    revert kt
    cases hm : mt I.xs[i] (PM.wipe ρ own) S' with
    | none => exact fun kt => kt.elim
    | some r =>
      obtain ⟨ρ3, S3⟩ := r
      intro kt α3 σ3 H3 x3 R3 en3 hw
      have kt : Kt E W (Rp E) α' S' σ H2 ((mk ρ3 S3).bnd fun k S4 => (mv ρ3 S4).bnd fun v S5 => .opt (insO S5[S.length]? k v) fun o => dcL S.length I.same (fun x S => mt x (PM.wipe ρ own) S) mk mv (I.xs.drop (i + 1)) (S5.set S.length o)) Q := kt
      have kt := kt.move x3
      refine ⟨(hw own hown).trans wipe_wipe, α3, ρ3, S3, R3, en3, Kt.bnd (R' := Rp E) kt fun kv S4 α4 y H4 x4 R4 rk kt => ?_⟩
      refine ⟨α4, ρ3, S4, R4, en3.ext x4, Kt.bnd (R' := Rp E) kt fun v S5 α5 z H5 x5 R5 rz kt => ?_⟩
      have l5 : S.length < S5.length := Nat.lt_of_lt_of_le hl (Nat.le_trans x3.len (Nat.le_trans x4.len x5.len))
      have d5 : α5 S.length = D := by
        rw [x5.same _ (Nat.lt_of_lt_of_le hl (Nat.le_trans x3.len x4.len)), x4.same _ (Nat.lt_of_lt_of_le hl x3.len), x3.same _ hl]; exact hD'
      obtain ⟨o, eo, kt⟩ := kt.opt
      rw [← d5]
      refine ins_rd R5 l5 (Rp.ext x5 _ _ rk) rz eo fun ho x6 R6 => ?_
      exact ⟨α5, _, ((((x'.trans xy).trans x3).trans x4).trans x5).trans x6, R6, en'.ext ((((xy.trans x3).trans x4).trans x5).trans x6), by simpa using l5, rfl, kt.move x6⟩
  · have e : i = I.xs.length := by omega
    subst e
    rw [List.drop_length] at kt
    simp only [dcL] at kt
    obtain ⟨sm, kt⟩ := kt.need
    obtain ⟨_, stop⟩ := ri S α' S' H' rfl x' R' sm
    refine .inl ⟨stop, kt.here R' ?_⟩
    simp only [Rp]
    exact ⟨hl, by rw [hD']⟩
end
end PM
namespace PM
open PySem L2 PySem.Spec PyProof.Rows
section
variable {X : Cx}
theorem exec_usedD {y : Str} {py spos : Pos} {v : Expr} {env : PySem.Env} (hsw : swapsWith v (some (.Name y py)) spos.line env = pure true) : exec (.Assign [.Name y py] v spos) env = (do standAt spos; evalThenUse v env (assign (.Name y py) env); pure .next) := exec_Assign_Name_used _ _ _ _ hsw
theorem ps_setDcn {i : Nat} {y : Str} {py : Pos} {nk : Bool} {kx vx tg iter : Expr} {scope : Scope} {own : List (Str × Nat)} {pos spos : Pos} {wi : TI} {g : TG} {tk tv : TE} (hu : X.A.units + 65 < cLine) (hc : X.calm = true) (hN : X.N.Nodup) (hy : X.N[i]? = some y) (hyl : X.env.scope.names.lookup y = some .local)
    (hsw : swapsWith (.DictComp kx vx [⟨tg, iter, [], 0⟩] scope pos) (some (.Name y py)) spos.line X.env = pure true) (hi : PI X tg iter wi) (ok : BlkOk X.N X.env.scope scope own)
    (hg : ∀ (s : Shared) (H : Hp) (C : Addr) (cl : List (Str × Addr)) (fp : List Addr), PG (X.blk s H scope (compEnvC scope cl C X.env) fp) tg g)
    (hk : ∀ (s : Shared) (H : Hp) (C : Addr) (cl : List (Str × Addr)) (fp : List Addr), PE (X.blk s H scope (compEnvC scope cl C X.env) fp) kx tk)
    (he : ∀ (s : Shared) (H : Hp) (C : Addr) (cl : List (Str × Addr)) (fp : List Addr), PE (X.blk s H scope (compEnvC scope cl C X.env) fp) vx tv) (hs : ∀ x, foldedSetIterable iter X.env x = pure x) :
    PS X (.Assign [.Name y py] (.DictComp kx vx [⟨tg, iter, [], 0⟩] scope pos) spos) (tAsg (tDcN X.w X.K nk wi g tk tv (own.map (·.2))) (gName i)) := ⟨fun pins s σ H D I h => by
  rw [exec_usedD hsw]
  refine wpAny_bind (wpAny_standAt (wpAny_bind ?_))
  show wpAny _ X.A (do let _ ← comprehension (.DictComp kx vx [⟨tg, iter, [], 0⟩] scope pos) scope X.env (firstIterPos [⟨tg, iter, [], 0⟩] pos) newDict false (eval iter X.env) (some (assign (.Name y py) X.env))) _ _ s
  have h : tDcN X.w X.K nk wi g tk tv (own.map (·.2)) σ H (fun x H1 => gName i x σ H1 D.nx) := h
  refine wpAny_bind (thn (dcn_core (Qf := fun _ s' => SP X pins D .next s') hu hc hN I hi ok hg hk he hs h fun L C s' m H' I' q hn f => ?_) fun _ s' hq => wpAny_pure (wpAny_pure hq))
  show wpAny _ _ (assign (.Name y py) X.env (.ref L)) _ _ _
  refine wpAny_assign_Name (store_ok2 (v := V.ref L) I' hN hy (.inl hyl) rfl (fun s2 I2 ⟨a, sb, ha⟩ => ?_) (.inr hyl))
  have haC : C ≠ a := by
    rcases ha with z | z
    · rw [z]; exact f.2.1
    · exact fun e => f.2.2.2.2.1 y a z e.symm
  exact ⟨m, hn.sameBut sb haC, fun h3 sb3 => ⟨_, H', I2.turned (t' := s2.toks) (fun b o hb e => (sb3.2 b hb).trans e) f.1 f.2.1 f.2.2.2.1 f.2.2.2.2.1 f.2.2.2.2.2, q⟩⟩⟩
end
end PM
end
section
namespace PM
open PySem L2 PySem.Spec PyProof.Rows
def KS (E : Cfg) (W : WX) (D : Ends) (α : Nat → Addr) (S : Sto) (H : Hp) : RS → Prop
  | .nx ρ S' => ∀ α' σ' H', Ext α S H α' S' H' → Rel E α' S' H' → EnvR E α' S'.length H' ρ σ' → D.nx σ' H'
  | .ret v S' => ∀ α' x H', Ext α S H α' S' H' → Rel E α' S' H' → Rp E α' S'.length H' v x → D.rt x H'
  | .exc c ρ S' => ∀ α' σ' H', Ext α S H α' S' H' → Rel E α' S' H' → EnvR E α' S'.length H' ρ σ' → W (.ref (E.xc c)) none σ' H'
  | .bad => False
def tSt (E : Cfg) (W : WX) (m : Env → Sto → RS) : TS := fun D σ H => ∃ α ρ S, Rel E α S H ∧ EnvR E α S.length H ρ σ ∧ KS E W D α S H (m ρ S)
section
variable {E : Cfg} {W : WX} {X : Cx} {σ : L2.St} {H H1 : Hp} {D : Ends} {ma mb mc : Env → Sto → Res PV} {a b c e : Expr} {pos p : Pos} {es : List Expr} {cf : Cf} {α α1 : Nat → Addr} {S S1 : Sto} {ρ : Env}
theorem KS.move (x : Ext α S H α1 S1 H1) {r : RS} (h : KS E W D α S H r) : KS E W D α1 S1 H1 r := by
  cases r with
  | nx ρ S' => exact fun α' σ' H' e => h α' σ' H' (x.trans e)
  | ret v S' => exact fun α' y H' e => h α' y H' (x.trans e)
  | exc c ρ S' => exact fun α' σ' H' e => h α' σ' H' (x.trans e)
  | bad => exact h
theorem KS.seq {q : RS} {f : Env → Sto → RS} (h : KS E W D α S H (q.seq f)) : KS E W { D with nx := tSt E W f D } α S H q := by
  cases q with
  | nx ρ S' => exact fun α' σ' H' e R en => ⟨α', ρ, S', R, en, h.move e⟩
  | ret v S' => exact h
  | exc c ρ S' => exact h
  | bad => exact h
theorem KS.fst {β γ : Type} {R : (Nat → Addr) → Nat → Hp → β → γ → Prop} {m : Res β} {f : β → Sto → RS} {P : γ → Hp → Prop} (h : KS E W D α S H (RS.fst ρ m f)) (en : EnvR E α S.length H ρ σ)
    (k : ∀ v S1 α1 x H1, Ext α S H α1 S1 H1 → Rel E α1 S1 H1 → R α1 S1.length H1 v x → EnvR E α1 S1.length H1 ρ σ → KS E W D α1 S1 H1 (f v S1) → P x H1) : Kt E W R α S σ H m P := by
  cases m with
  | ok v S' => exact fun α' x H' e R' rv => k v S' α' x H' e R' rv (en.ext e) (h.move e)
  | exc c S' => exact fun α' H' e R' => h α' σ H' e R' (en.ext e)
  | bad => exact h
theorem ss_cons {st : Stmt} {rest : List Stmt} {t : TS} {m n : Env → Sto → RS} (h1 : PS X st t) (h2 : PSs X rest (tSt E W n)) (k : ∀ D σ H, tSt E W m D σ H → t { D with nx := tSt E W n D } σ H) : PSs X (st :: rest) (tSt E W m) := PSs.imp (pss_cons h1 h2) k
theorem ss_nil : PSs X [] (tSt E W fun ρ S => .nx ρ S) := PSs.imp pss_nil fun D σ H ⟨α, ρ, S, R, en, ks⟩ => ks α σ H Ext.refl R en
variable {rest : List Stmt} {n : Env → Sto → RS}
theorem ss_pass (h : PSs X rest (tSt E W n)) : PSs X (.Pass pos :: rest) (tSt E W n) := PSs.imp (pss_cons ps_pass h) fun D σ H q => q
theorem ss_asg {tg : Expr} {is : List Nat} {mt : PV → Env → Sto → RT} (h1 : PS X (.Assign [tg] e pos) (tAsg (tE E W ma) (tT E is mt))) (h2 : PSs X rest (tSt E W n)) :
    PSs X (.Assign [tg] e pos :: rest) (tSt E W fun ρ S => RS.fst ρ (ma ρ S) fun v S1 => match mt v ρ S1 with | some (ρ', S2) => n ρ' S2 | none => .bad) := ss_cons h1 h2 fun D σ H ⟨α, ρ, S, R, en, ks⟩ => by
  refine ⟨α, ρ, S, R, en, KS.fst ks en fun v S1 α1 x H1 e R1 rv en1 ks => ?_⟩
  refine ⟨α1, ρ, S1, v, R1, en1, rv, ?_⟩
  revert ks
  cases mt v ρ S1 with
  | none => exact fun ks => ks.elim
  | some q =>
    obtain ⟨ρ', S2⟩ := q
    exact fun ks α2 σ2 H2 e2 R2 en2 _ => ⟨α2, ρ', S2, R2, en2, ks.move e2⟩
theorem ss_ex (he : PE X e (tE E W ma)) (hs : swapsWith e none pos.line X.env = pure false) (h2 : PSs X rest (tSt E W n)) : PSs X (.Expr e pos :: rest) (tSt E W fun ρ S => RS.fst ρ (ma ρ S) fun _ S1 => n ρ S1) := ss_cons (ps_expr he hs) h2 fun D σ H ⟨α, ρ, S, R, en, ks⟩ =>
  ⟨α, ρ, S, R, en, KS.fst ks en fun v S1 α1 x H1 e R1 rv en1 ks => ⟨α1, ρ, S1, R1, en1, ks⟩⟩
theorem ss_ret (he : PE X e (tE E W ma)) : PSs X [.Return (some e) pos] (tSt E W fun ρ S => RS.fst ρ (ma ρ S) fun v S1 => .ret v S1) := PSs.imp (pss_one (ps_ret he)) fun D σ H ⟨α, ρ, S, R, en, ks⟩ =>
  ⟨α, ρ, S, R, en, KS.fst ks en fun v S1 α1 x H1 e R1 rv en1 ks => ks α1 x H1 Ext.refl R1 rv⟩
theorem ss_retN : PSs X [.Return none pos] (tSt E W fun ρ S => .ret .non S) := PSs.imp (pss_one ps_retN) fun D σ H ⟨α, ρ, S, R, en, ks⟩ => ks α .non H Ext.refl R (by simp only [Rp])
theorem ss_if {sa sb : List Stmt} {na nb : Env → Sto → RS} (hc : Snd E W X c mc) (ha : PSs X sa (tSt E W na)) (hb : PSs X sb (tSt E W nb)) (h2 : PSs X rest (tSt E W n)) :
    PSs X (.If c sa sb pos :: rest) (tSt E W fun ρ S => RS.fst ρ ((mc ρ S).bind fun v S1 => .opt (truth S1 v) fun k => .ok k S1) fun k S1 => (if k = true then na ρ S1 else nb ρ S1).seq n) := ss_cons (ps_if hc.pt ha hb) h2 fun D σ H ⟨α, ρ, S, R, en, ks⟩ => by
  refine ⟨α, ρ, S, R, en, KS.fst ks en fun k S1 α1 k' H1 e R1 rv en1 ks => ?_⟩
  have rv : k' = k := rv
  subst rv
  have ks := KS.seq ks
  cases k' with
  | true => exact ⟨α1, ρ, S1, R1, en1, ks⟩
  | false => exact ⟨α1, ρ, S1, R1, en1, ks⟩
theorem ss_aug {i : Nat} {x : Str} {o : BOp} {f : Int → Int → Int} {op : Operator} {pos' : Pos} (hN : X.N.Nodup) (hi : X.N[i]? = some x) (hx : Loc X.env.scope x) (hf : X.fn x = true ∨ X.env.scope.names.lookup x = some .local) (he : PE X e (tE E W ma)) (ho : PIp X op (ipI f))
    (hb : ∀ S i j, bopV o S (.int i) (.int j) = .ok (.int (f i j)) S) (h2 : PSs X rest (tSt E W n)) :
    PSs X (.AugAssign (.Name x pos') op e pos :: rest) (tSt E W fun ρ S => match ρ[i]? with
      | some (some x) => RS.fst ρ ((ma ρ S).bind fun y S1 => augV o S1 x y) fun z S2 => n (ρ.set i (some z)) S2
      | _ => .bad) := ss_cons (ps_aug hN hi hx he ho hf) h2 fun D σ H ⟨α, ρ, S, R, en, ks⟩ => by
  dsimp only at ks
  split at ks
  · rename_i v ev
    obtain ⟨y, ey, ry⟩ := en.at_ i v ev
    refine ⟨y, ey, α, ρ, S, R, en, ?_⟩
    have key : ∀ m : Res PV, KS E W D α S H (RS.fst ρ (m.bind fun y S1 => augV o S1 v y) fun z S2 => n (ρ.set i (some z)) S2) →
        Kt E W (Rp E) α S σ H m (fun z H1 => ipI f y z H1 fun w H2 => ({ D with nx := tSt E W n D } : Ends).nx (σ.set i (some w)) H2) := fun m ks => by
      cases m with
      | bad => exact ks
      | exc c S' => exact fun α' H' e R' => ks α' σ H' e R' (en.ext e)
      | ok w S' =>
        intro α' z H' e R' rw'
        simp only [Res.bind, augV] at ks
        split at ks
        · rename_i i1 j1 _
          rw [hb] at ks
          simp only [Rp] at ry rw'
          subst ry rw'
          have ks : KS E W D α S H (n (ρ.set i (some (.int (f i1 j1)))) S') := ks
          exact ⟨i1, j1, rfl, rfl, α', _, S', R', (en.ext e).set (by simp only [Rp]), ks.move e⟩
        · exact ks.elim
    exact key _ ks
  · exact ks.elim
theorem whL_succ {cc : Env → Sto → Res Bool} {body : Env → Sto → RS} {k : Nat} {ρ : Env} {S : Sto} : whL cc body (k + 1) ρ S = RS.fst ρ (cc ρ S) fun b S' => if b = true then (body ρ S').seq (whL cc body k) else .nx ρ S' := by
  show (match cc ρ S with | .ok true S' => _ | .ok false S' => _ | .exc x S' => _ | .bad => _) = _
  cases cc ρ S with
  | ok b S' => cases b <;> rfl
  | exc c S' => rfl
  | bad => rfl
theorem ss_while {body : List Stmt} {nb : Env → Sto → RS} {k : Nat} (hp : PassesOwn (model X.prog X.w) X.A X.env X.xe) (hc : Snd E W X c mc) (hb : PSs X body (tSt E W nb)) (h2 : PSs X rest (tSt E W n)) :
    PSs X (.While c body [] pos :: rest) (tSt E W fun ρ S => (whL (fun ρ S => (mc ρ S).bind fun v S1 => .opt (truth S1 v) fun k => .ok k S1) nb k ρ S).seq n) := ss_cons (ps_while hp hc.pt hb) h2 fun D σ H ⟨α, ρ, S, R, en, ks⟩ => by
  have ks := KS.seq ks
  generalize ({ D with nx := tSt E W n D } : Ends) = D1 at ks
  refine ⟨fun m σ H => ∃ α ρ S, Rel E α S H ∧ EnvR E α S.length H ρ σ ∧ KS E W D1 α S H (whL (fun ρ S => (mc ρ S).bind fun v S1 => .opt (truth S1 v) fun k => .ok k S1) nb m ρ S), ⟨k, α, ρ, S, R, en, ks⟩, ?_⟩
  rintro m σ H ⟨α, ρ, S, R, en, ks⟩
  cases m with
  | zero => exact ks.elim
  | succ m =>
    rw [whL_succ] at ks
    refine ⟨α, ρ, S, R, en, KS.fst ks en fun b S1 α1 b' H1 e R1 rb en1 ks => ?_⟩
    have rb : b' = b := rb
    subst rb
    cases b' with
    | true =>
      simp only [if_true] at ks ⊢
      have ks := KS.seq ks
      refine ⟨tSt E W (whL (fun ρ S => (mc ρ S).bind fun v S1 => .opt (truth S1 v) fun k => .ok k S1) nb m) D1, fun σ' H' q => ⟨m, Nat.lt_succ_self _, q⟩, α1, ρ, S1, R1, en1, ?_⟩
      revert ks
      cases nb ρ S1 <;> exact fun ks => ks
    | false =>
      simp only [Bool.false_eq_true, if_false] at ks ⊢
      exact ks α1 σ H1 Ext.refl R1 en1
theorem ss_for {tg iter : Expr} {body : List Stmt} {mi : Env → Sto → Res Itm} {is : List Nat} {mt : PV → Env → Sto → RT} {nb : Env → Sto → RS} (hp : PassesOwn (model X.prog X.w) X.A X.env X.xe) (hcm : X.calm = true) (hi : PI X tg iter (tI E W mi)) (hg : PG X tg (tT E is mt)) (hb : PSs X body (tSt E W nb))
    (hs : ∀ x, foldedSetIterable iter X.env x = pure x) (h2 : PSs X rest (tSt E W n)) :
    PSs X (.For tg iter body [] pos :: rest) (tSt E W fun ρ S => RS.fst ρ (mi ρ S) fun J S1 => (forL J.same mt nb J.xs ρ S1).seq n) := ss_cons (ps_for hp hcm hi hg hb hs) h2 fun D σ H ⟨α, ρ, S, R, en, ks⟩ => by
  refine ⟨α, ρ, S, R, en, KS.fst ks en fun I S1 α1 J H1 e R1 ri en1 ks => ?_⟩
  have ks := KS.seq ks
  generalize ({ D with nx := tSt E W n D } : Ends) = D1 at ks ⊢
  refine ⟨fun i m σ H' => m = I.xs.length - i ∧ i ≤ I.xs.length ∧ ∃ α' ρ' S', Ext α1 S1 H1 α' S' H' ∧ Rel E α' S' H' ∧ EnvR E α' S'.length H' ρ' σ ∧ KS E W D1 α' S' H' (forL I.same mt nb (I.xs.drop i) ρ' S'),
    ⟨I.xs.length, by simp, Nat.zero_le _, α1, ρ, S1, Ext.refl, R1, en1, ks⟩, ?_⟩
  rintro i m σ H' ⟨rfl, hi, α', ρ', S', x', R', en', ks⟩
  by_cases hlt : i < I.xs.length
  · rw [List.drop_eq_getElem_cons hlt] at ks
    simp only [forL] at ks
    split at ks
    · rename_i sm
      obtain ⟨serve, _⟩ := ri S1 α' S' H' rfl x' R' sm
      obtain ⟨hgo, hy⟩ := serve i I.xs[i] (by simp [hlt])
      refine .inr ⟨hgo, fun σ H' => ∃ α' ρ' S', Ext α1 S1 H1 α' S' H' ∧ Rel E α' S' H' ∧ EnvR E α' S'.length H' ρ' σ ∧ KS E W D1 α' S' H' (forL I.same mt nb (I.xs.drop (i + 1)) ρ' S'),
        fun σ' H' q => ⟨I.xs.length - (i + 1), by omega, rfl, hlt, q⟩, fun x H2 yld => ?_⟩
      obtain ⟨xy, Ry, ry⟩ := hy x H2 yld
      refine ⟨α', ρ', S', I.xs[i], Ry, en'.ext xy, ry, ?_⟩
      have ks := ks.move xy
      revert ks
      cases mt I.xs[i] ρ' S' with
      | none => exact fun ks => ks.elim
      | some r =>
        obtain ⟨ρ3, S3⟩ := r
        intro ks α3 σ3 H3 x3 R3 en3 _
        refine ⟨α3, ρ3, S3, R3, en3, ?_⟩
        have ks := ks.move x3
        revert ks
        dsimp only
        cases nb ρ3 S3 with
        | nx ρ4 S4 => exact fun ks α4 σ4 H4 x4 R4 en4 => ⟨α4, ρ4, S4, ((x'.trans xy).trans x3).trans x4, R4, en4, ks.move x4⟩
        | ret v S4 => exact fun ks => ks
        | exc c ρ4 S4 => exact fun ks => ks
        | bad => exact fun ks => ks
    · exact ks.elim
  · have e : i = I.xs.length := by omega
    subst e
    rw [List.drop_length] at ks
    simp only [forL] at ks
    split at ks
    · rename_i sm
      obtain ⟨_, stop⟩ := ri S1 α' S' H' rfl x' R' sm
      exact .inl ⟨stop, ks α' σ H' Ext.refl R' en'⟩
    · exact ks.elim
end
end PM
end
section
namespace PM
open PySem L2 PySem.Spec PyProof.Rows
abbrev gnX (X : Cx) (A' : Around) (s : Shared) (H : Hp) (cenv : PySem.Env) (fp : List Addr) (pn : List (Addr × Obj)) : Cx :=
  { X with s_0 := s, H_0 := H, env := cenv, A := A', outer := X.stack, stack := cenv :: X.stack, ex := fp, fn := fun _ => false, pn := pn, xe := fun _ _ => False }
structure GBlk (N : List Str) (sc scope : Scope) (own : List (Str × Nat)) : Prop extends BlkOk N sc scope own where
  co : scope.isCoroutine = false
  nocell : ∀ y ∈ scope.names, y.2 ≠ .cell
  dot : scope.names.lookup (".0" : Str) = some NameKind.local
section
variable {X : Cx} {pins : List (Addr × Obj)} {σ : L2.St} {H : Hp} {s : Shared}
theorem gen_start {A' : Around} {scope : Scope} {own : List (Str × Nat)} {fp : List Addr} {pn : List (Addr × Obj)} {code : Value} {bi : Addr} {g' : Array GenState} {h5 : Heap} {t5 : Nat} {m0 : Str → Option Value} (I : Inv X pins σ H s) (ok : GBlk X.N X.env.scope scope own) (hN : X.N.Nodup)
    (hd : X.calm = true → A'.handled = none) (hfr : A'.frames = some (genEnv scope (cloFrom X.env.cells scope.names []) s.heap.objs.size code bi X.env :: X.stack)) (hbi : bi = builtinsNs)
    (hfp : ∀ b ∈ fp, FpOk X pins H b ∧ b < s.heap.objs.size) (kp : ∀ b o, s.heap.get? b = some o → h5.get? b = some o) (hns : h5.Ns s.heap.objs.size m0) (hg : AllBare g')
    (hpn : ∀ p ∈ pn, h5.get? p.1 = some p.2 ∧ s.heap.objs.size < p.1 ∧ ∀ v, p.2.data ≠ .cell v) :
    Inv (gnX X A' s H (genEnv scope (cloFrom X.env.cells scope.names []) s.heap.objs.size code bi X.env) fp pn) [] (L2.wipe σ (own.map (·.2))) H { s with heap := h5, gens := g', toks := t5 } := by
  have hfree : ∀ y ∈ scope.names, y.2 = .free → ∃ c, X.env.cells.lookup y.1 = some c := fun y hy e => by
    rcases ok.free y hy e with k | k
    · exact I.ok.has _ (.inl k)
    · exact I.ok.has _ (.inr k)
  generalize hcenv : genEnv scope (cloFrom X.env.cells scope.names []) s.heap.objs.size code bi X.env = cenv at hfr ⊢
  have hL : cenv.locals = s.heap.objs.size := by rw [← hcenv]; rfl
  have hcl : cenv.cells = cloFrom X.env.cells scope.names [] := by rw [← hcenv]; rfl
  have hsc : cenv.scope = scope := by rw [← hcenv]; rfl
  have hff : cenv.frame = some cenv.locals := by rw [← hcenv]; rfl
  have cm : ∀ {y c}, (y, c) ∈ cloFrom X.env.cells scope.names [] → X.env.cells.lookup y = some c ∧ c < s.heap.objs.size := fun {y c} hm => by
    rcases cloFrom_mem hm with hm | ⟨h1, rfl⟩
    · cases hm
    · obtain ⟨c, hc⟩ := hfree _ h1 rfl
      rw [hc]
      obtain ⟨w, z⟩ := I.cell _ _ hc
      exact ⟨rfl, z.lt⟩
  have mem : ∀ {y c}, cenv.cells.lookup y = some c → X.env.cells.lookup y = some c ∧ c < s.heap.objs.size := fun {y c} e => by
    rw [hcl] at e
    exact cm (PySem.mem_of_lookup e)
  have look : ∀ {y}, scope.names.lookup y = some .free → ∃ c, cenv.cells.lookup y = some c ∧ X.env.cells.lookup y = some c := fun {y} hl => by
    have hy : (y, NameKind.free) ∈ scope.names := PySem.mem_of_lookup hl
    obtain ⟨c', e'⟩ := mem_lookup (cloFrom_has (cells := X.env.cells) (acc := []) hy)
    rw [← hcl] at e'
    exact ⟨c', e', (mem e').1⟩
  have nocell : ∀ {y}, scope.names.lookup y ≠ some .cell := fun {y} e => ok.nocell _ (PySem.mem_of_lookup e) rfl
  have okB : (gnX X A' s H cenv fp pn).Ok := by
    refine ⟨I.ok.mod, by show cenv.scope.kind = _; rw [hsc]; exact ok.kind, by show cenv.globals = _; rw [← hcenv]; exact I.ok.glob, by show cenv.builtins = _; rw [← hcenv]; exact hbi, by show s.heap.objs.size ≤ cenv.locals; rw [hL]; exact Nat.le_refl _,
      fun y z c e1 e2 => ?_, fun y hy => ?_, fun y c z e => (by cases z), hd, hfr, .inr ⟨rfl, hff⟩, fun b hb => ⟨?_, fun y c e z => ?_⟩, I.bs, Nat.le_trans I.ok.bsz I.sz, fun b o e hb => ?_, fun b hb z => ?_, I.stack, I.stkFree⟩
    · exact I.ok.inj y z c (mem e1).1 (mem e2).1
    · show ∃ c, cenv.cells.lookup y = some c
      have key : cenv.scope.names.lookup y = some .cell ∨ cenv.scope.names.lookup y = some .free := hy
      rw [hsc] at key
      rcases key with k | k
      · exact absurd k nocell
      · obtain ⟨c, h1, _⟩ := look k
        exact ⟨c, h1⟩
    · show b ≠ cenv.locals
      rw [hL]; exact Nat.ne_of_lt (hfp b hb).2
    · exact (hfp b hb).1.2.2.2.2.1 y c (mem e).1 z
    · rcases (hfp b hb).1.2.2.2.1 with z | z
      · exact I.ok.noex b o e z
      · exact absurd (Nat.lt_of_lt_of_le (Heap.lt_size e) (Nat.le_trans I.ok.bsz z)) (Nat.lt_irrefl _)
    · rcases List.mem_cons.mp (I.stkSub b z) with z | z
      · exact (hfp b hb).1.2.1 z
      · exact (hfp b hb).1.2.2.1 z
  have size5 : s.heap.objs.size ≤ h5.objs.size := Nat.le_of_lt hns.lt
  refine ⟨okB, rfl, hg, Un.kept kp, ⟨m0, ?_, fun i y av e1 e2 e3 => ?_⟩, fun y c e => ?_, ?_, fun y c e => ?_, fun p hp => ?_, I.hok.kept kp, by rw [L2.wipe_length]; exact I.len⟩
  · show Heap.Ns _ cenv.locals _
    rw [hL]
    exact hns
  · obtain ⟨e2, hne⟩ := wipe_some e2
    have hfr : scope.names.lookup y = some .free := by
      have e3 : Vis cenv.scope y := e3
      rw [hsc] at e3
      have no : ∀ {k}, scope.names.lookup y = some k → ¬ (k = .local ∨ k = .cell) := fun {k} hk hh => by
        rcases ok.own _ (PySem.mem_of_lookup hk) hh with e' | e'
        · obtain ⟨p, hp, hpy⟩ := List.mem_map.mp e'
          have e3 := ok.ix p hp
          have : p.1 = y := hpy
          rw [this] at e3
          exact hne (List.mem_map.mpr ⟨p, hp, nodup_ix hN e3 e1⟩)
        · exact e' (List.mem_of_getElem? e1)
      rcases e3 with e3 | e3 | e3
      · exact absurd (.inl rfl) (no e3)
      · exact absurd (.inr rfl) (no e3)
      · exact e3
    obtain ⟨m, hn, hl⟩ := I.loc
    have hvis : Vis X.env.scope y := (ok.free _ (PySem.mem_of_lookup hfr) rfl).elim (fun k => .inr (.inl k)) (fun k => .inr (.inr k))
    obtain ⟨w, r, q⟩ := hl i y av e1 e2 hvis
    refine ⟨w, r, .inr ⟨.inr (by show cenv.scope.names.lookup y = _; rw [hsc]; exact hfr), ?_⟩⟩
    obtain ⟨c, h1, h2⟩ := look hfr
    rcases q with ⟨k, _⟩ | ⟨_, c', e', z⟩
    · have k : X.env.scope.names.lookup y = some .local := k
      rcases ok.free _ (PySem.mem_of_lookup hfr) rfl with k' | k' <;> rw [show X.env.scope.names.lookup y = _ from k'] at k <;> cases k
    · rw [h2] at e'; cases e'
      exact ⟨c, h1, z.keeps kp⟩
  · obtain ⟨w, z⟩ := I.cell y c (mem e).1
    exact ⟨w, z.keeps kp⟩
  · show H cenv.locals = none
    rw [hL]; exact I.hok.fresh (Nat.le_refl _)
  · exact I.freeC y c (mem e).1
  · have hp : p ∈ pn := by simpa using hp
    obtain ⟨h1, h2, h3⟩ := hpn p hp
    have h4 : s.heap.objs.size ≤ p.1 := Nat.le_of_lt h2
    exact ⟨h1, I.hok.fresh h4, by show p.1 ≠ cenv.locals; rw [hL]; exact Nat.ne_of_gt h2, fun z => by
      rcases List.mem_cons.mp (I.stkSub p.1 z) with z | z
      · have := I.lt; rw [← z] at this; exact absurd (Nat.lt_of_lt_of_le this h4) (Nat.lt_irrefl _)
      · exact I.nofs h4 z, h3⟩
theorem inv_gens (I : Inv X pins σ H s) {g' : Array GenState} (hg : AllBare g') : Inv X pins σ H { s with gens := g' } :=
  ⟨I.ok, I.os, hg, I.base, I.loc, I.cell, I.free, I.freeC, I.pin, I.hok, I.len⟩
theorem inv_grow (I : Inv X pins σ H s) {h' : Heap} {t' : Nat} {g' : Array GenState} (hg : AllBare g') (k : ∀ b o, s.heap.get? b = some o → h'.get? b = some o) : Inv X pins σ H { s with heap := h', gens := g', toks := t' } :=
  inv_gens (I.kept (t' := t') k) hg
theorem over_frames {A : Around} {elt : Expr} {gs : List Comprehension} {scope : Scope} {pos : Pos} {it : Value} {cenv : PySem.Env} {l : List PySem.Env} (h : A.frames = some l) : (A.over (.compLoop (.GeneratorExp elt gs scope pos) 0 it .none cenv) []).frames = some (cenv :: l) := by
  simp [Around.over, h, Code.envs, pushEnvs, envsOf, Code.isFrame]
  rfl
theorem over_depth {A : Around} {elt : Expr} {gs : List Comprehension} {scope : Scope} {pos : Pos} {it : Value} {cenv : PySem.Env} : (A.over (.compLoop (.GeneratorExp elt gs scope pos) 0 it .none cenv) []).depth = A.depth + 1 := rfl
theorem over_units {A : Around} {elt : Expr} {gs : List Comprehension} {scope : Scope} {pos : Pos} {it : Value} {cenv : PySem.Env} : (A.over (.compLoop (.GeneratorExp elt gs scope pos) 0 it .none cenv) []).units = A.units + 3 := rfl
theorem room_gen {A : Around} {k : Nat} (r : Room (k + 1) A) {elt : Expr} {gs : List Comprehension} {scope : Scope} {pos : Pos} {it : Value} {cenv : PySem.Env} : Room k ((A.in1.in1.in1.in1).over (.compLoop (.GeneratorExp elt gs scope pos) 0 it .none cenv) []) :=
  ⟨r.hd, by have := r.dp; rw [over_depth]; show A.depth + 1 + 3 * k + 5 < _; omega, by have := r.un; rw [over_units]; show A.units + 1 + 1 + 1 + 1 + 3 + 16 * k + 200 < _; omega⟩
end
end PM
end
section
namespace PM
open PySem L2 PySem.Spec PyProof.Rows
structure Woke (s s' : Shared) : Prop where
  heap : s'.heap = s.heap
  os : s'.os = s.os
  bare : AllBare s'.gens
theorem inv_woke {X : Cx} {pins : List (Addr × Obj)} {σ : L2.St} {H : Hp} {s s' : Shared} (I : L2.Inv X pins σ H s) (z : Woke s s') : L2.Inv X pins σ H s' := by
  obtain ⟨h1, h2, h3⟩ := z
  exact ⟨I.ok, h2.trans I.os, h3, by rw [h1]; exact I.base, by rw [h1]; exact I.loc, by rw [h1]; exact I.cell, I.free, I.freeC, by rw [h1]; exact I.pin, by rw [h1]; exact I.hok, I.len⟩
def GRe (X : Cx) (σ : L2.St) (k : Bool) (Fin : Bool → Hp → Prop) : GenEnd := fun n s₀ r s => r = .ok .next ∧ n = 0 ∧ ∃ H, L2.Inv X [] σ H s ∧ Fin k H
def GYe (X : Cx) (σ : L2.St) (k : Bool) (Fin : Bool → Hp → Prop) : Protocol := fun n s₀ v s kap =>
  ∃ b H, v = .bool b ∧ L2.Inv X [] σ H s ∧ if b = k then ∀ s', Woke s s' → kap (.send .none) s' else Fin (!k) H
section
variable {X : Cx} {A : Around} {elt tg iter : Expr} {scope : Scope} {pos : Pos} {it : Addr} {own : List Nat} {k : Bool} {J : It} {fp : List Addr} {tn : Nat → Heap → Prop} {L : Nat} {Pv : Nat → Hp → Prop} {g : TG} {te : TE} {σ : L2.St} {Fin : Bool → Hp → Prop}
theorem seg_gen (hA : X.A = A.over (.compLoop (.GeneratorExp elt [⟨tg, iter, [], 0⟩] scope pos) 0 (.ref it) .none X.env) []) (hxe : X.xe = fun _ _ => False) (T : Turn X.prog X.w X.K tg J fp it tn) (hc : X.calm = true) (hg : PG X tg g) (he : PE X elt te)
    (hco : X.env.scope.isCoroutine = false) (hσ : L2.wipe σ own = σ) (hfp : ∀ b ∈ fp, b ≠ X.env.locals ∧ b ∉ X.fs ∧ b ∈ X.ex ∧ (∀ x c, X.env.cells.lookup x = some c → c ≠ b) ∧ ∀ p ∈ X.pn, p.1 ≠ b)
    (step : ∀ i H, i < L → Pv i H → J.go i H ∧ ∀ x H', J.yld i H x H' → g x σ H' fun σ2 H2 => L2.wipe σ2 own = L2.wipe σ own ∧ te σ2 H2 fun y H3 => ∃ b, y = .bl b ∧ if b = k then Pv (i + 1) H3 else Fin (!k) H3)
    (stop : ∀ H, Pv L H → J.stop L H ∧ Fin k H) :
    ∀ (d i : Nat) (s₀ s : Shared) (H : Hp), L - i = d → i ≤ L → L2.Inv X [] σ H s → tn i s.heap → (∀ b ∈ fp, H b = none) → Pv i H →
      Seg (model X.prog X.w) A (GRe X σ k Fin) (GYe X σ k Fin) d s₀ (.compLoop (.GeneratorExp elt [⟨tg, iter, [], 0⟩] scope pos) 0 (.ref it) .none X.env)
        ((model X.prog X.w).den (.compLoop (.GeneratorExp elt [⟨tg, iter, [], 0⟩] scope pos) 0 (.ref it) .none X.env)) [] s := by
  have stat : ∀ {H' : Hp}, (∀ b ∈ fp, H' b = none) → ∀ b ∈ fp, FpOk X [] H' b := fun hn b hb => by
    obtain ⟨h1, h2, h3, h4, h5⟩ := hfp b hb
    exact ⟨hn b hb, h1, h2, .inl h3, h4, fun p hp => h5 p (by simpa using hp)⟩
  have nox : ∀ {α : Type} {t : Sem α} {Q Q' : α → Shared → Prop} {E : Value → Shared → Prop} {s : Shared}, wpAny (model X.prog X.w) X.A t Q X.xe s → (∀ a s, Q a s → Q' a s) → wpAny (model X.prog X.w) X.A t Q' E s := fun h hQ => wpAny_mono h hQ fun _ _ z => by rw [hxe] at z; exact z.elim
  intro d
  induction d with
  | zero =>
    intro i s₀ s H hd hi I st hn pv
    have e : i = L := by omega
    subst e
    obtain ⟨stp, fin⟩ := stop H pv
    show Seg _ A _ _ _ s₀ _ ((compTurn (.GeneratorExp elt [⟨tg, iter, [], 0⟩] scope pos) 0 (.ref it) .none X.env).onRaise (leaving X.env)) [] s
    rw [compTurn_gen, Sem.onRaise_eq_wrap]
    refine seg_bind_wrap (wpAny_standAt ?_)
    refine seg_bind_wrap ?_
    rw [← hA]
    refine thnF (T.done X rfl rfl rfl hc i [] s σ H (fun _ _ => False) I (stat hn) st stp) fun r s1 ⟨hr, I1⟩ => ?_
    subst hr
    exact seg_end (.ok .next) ⟨rfl, rfl, H, I1, fin⟩
  | succ d ih =>
    intro i s₀ s H hd hi I st hn pv
    have hlt : i < L := by omega
    obtain ⟨go, hy⟩ := step i H hlt pv
    show Seg _ A _ _ _ s₀ _ ((compTurn (.GeneratorExp elt [⟨tg, iter, [], 0⟩] scope pos) 0 (.ref it) .none X.env).onRaise (leaving X.env)) [] s
    rw [compTurn_gen, Sem.onRaise_eq_wrap]
    refine seg_bind_wrap (wpAny_standAt ?_)
    refine seg_bind_wrap ?_
    rw [← hA]
    refine thnF (T.item X rfl rfl rfl hc i [] s σ H (fun _ _ => False) I (stat hn) st go) fun r s6 ⟨u, hr, h6⟩ => ?_
    subst hr
    refine seg_bind_wrap ?_
    rw [← hA]
    refine thnF h6 fun _ s7 ⟨x, H7, I7, r7, y7, st7, n7⟩ => ?_
    have I7' := I7.pinned (stat n7) (T.obj _ _ st7)
    refine seg_bind_wrap ?_
    rw [← hA]
    refine nox (hg.run _ s7 σ H7 x u _ I7' r7 (hy x H7 y7)) fun _ s8 ⟨σ8, H8, I8, hw8, q8⟩ => ?_
    refine seg_bind_wrap ?_
    simp only [List.forIn_nil]
    refine wpAny_pure ?_
    simp only [if_true]
    have yo : ∀ v, yieldOut X.env v = yieldValue v := fun v => by simp only [yieldOut, hco, Bool.false_eq_true, if_false]
    simp only [yo]
    rw [Sem.bind_eq_wrap', Sem.bind_eq_wrap', Sem.wrap_wrap, Sem.wrap_wrap]
    refine seg_wrap ?_
    rw [← hA]
    refine nox (he.run _ s8 σ8 H8 _ I8 q8) fun y s9 ⟨yv, H9, I9, r9, b, eb, q9⟩ => ?_
    subst eb
    have r9 : y = .bool b := r9
    subst r9
    have pin' : ∀ c ∈ fp, ∀ o, s7.heap.get? c = some o → s9.heap.get? c = some o ∧ H9 c = none := fun c hc o e =>
      let z := I9.pin (c, o) (List.mem_append_right _ (List.mem_append_right _ (mem_pinsAt hc e)))
      ⟨z.1, z.2.1⟩
    have hl : σ.length = σ8.length := by
      have := congrArg List.length hw8
      rw [L2.wipe_length, L2.wipe_length] at this
      exact this.symm
    have I10 : L2.Inv X [] σ H9 s9 := (I9.unpinned (pins := [])).weak hl fun j v e => by
      rw [← hσ, ← hw8] at e
      exact (wipe_some e).1
    refine seg_at (seg_yield rfl rfl rfl ⟨b, H9, rfl, I10, ?_⟩)
    by_cases hb : b = k
    · rw [if_pos hb] at q9 ⊢
      intro s' z
      have I11 := inv_woke I10 z
      refine seg_again rfl (ih (i + 1) s' s' H9 (by omega) hlt I11 ?_ (fun c hc => ?_) q9)
      · rw [z.heap]
        exact T.keep _ _ _ st7 fun c hc o e => (pin' c hc o e).1
      · obtain ⟨o, e, _⟩ := T.obj _ _ st7 c hc
        exact (pin' c hc o e).2
    · rw [if_neg hb] at q9 ⊢
      exact q9
end
end PM
end
section
namespace PM
open PySem L2 PySem.Spec PyProof.Rows GenW
section
variable {X : Cx} {A : Around} {k : Bool} {σ : L2.St} {Fin : Bool → Hp → Prop} {a : Addr} {gi : Nat} {R : Result → Shared → Prop} {go : Obj}
structure GReady (X : Cx) (A : Around) (σ : L2.St) (k : Bool) (Fin : Bool → Hp → Prop) (gi d : Nat) (s : Shared) : Prop where
  inv : ∃ H, L2.Inv X [] σ H s
  go : ∃ gs, s.gens[gi]? = some gs ∧ gs.Goes (model X.prog X.w) A (GRe X σ k Fin) (GYe X σ k Fin) d (.send .none) (s.setGen gi .running)
theorem lt_of_gen {s : Shared} {gs : GenState} (h : s.gens[gi]? = some gs) : gi < s.gens.size := (Array.getElem?_eq_some_iff.mp h).1
theorem next_gen (hh : A.handled = none) (hroom : A.depth < recursionLimit) (hpn : X.pn = [(a, go)]) (hgo : ∀ h : Heap, h.get? a = some go → h.IsGen a gi) {d : Nat} {s : Shared} (r : GReady X A.in1 σ k Fin gi d s) {Q : Option Value → Shared → Prop} {E : Value → Shared → Prop}
    (hN : ∀ s' H, L2.Inv X [] σ H s' → Fin k H → Q none s') (hF : ∀ s' H, L2.Inv X [] σ H s' → Fin (!k) H → Q (some (.bool (!k))) s') (hT : ∀ d' s', d' < d → GReady X A.in1 σ k Fin gi d' s' → Q (some (.bool k)) s') :
    wpAny (model X.prog X.w) A (pyNext (.ref a)) Q E s := by
  obtain ⟨⟨H0, I0⟩, gs, hgs, hgoes⟩ := r
  have ha : s.heap.get? a = some go := (I0.pin (a, go) (by rw [hpn]; simp)).1
  refine wpAny_gsz (n := gi + 1) (lt_of_gen hgs) ?_
  refine wpAny_pyNext_genexpQ (P := fun n s₀ s₁ => n = 0 ∧ ∃ H, L2.Inv X [] σ H s₁ ∧ Fin k H) hh I0.nolimit hroom (hgo _ ha) hgs hgoes (fun v s1 gs' hb hY hsz => ?_) (fun s1 hp h' hk hsz => ?_)
  · obtain ⟨b, H, rfl, I1, q⟩ := hY
    have hsz1 : gi < s1.gens.size := by
      have e : (s1.setGen gi gs').gens.size = s1.gens.size := setGen_size s1 gi gs'
      rw [e] at hsz
      exact hsz
    have I2 : L2.Inv X [] σ H (s1.setGen gi gs') := inv_gens I1 (g' := (s1.setGen gi gs').gens) (allBare_setGen I1.bare hb)
    by_cases hbk : b = k
    · rw [if_pos hbk] at q
      subst hbk
      cases d with
      | zero => exact (q s1 ⟨rfl, rfl, I1.bare⟩).elim
      | succ d =>
        refine hT d _ (Nat.lt_succ_self _) ⟨⟨H, I2⟩, gs', setGen_at hsz1, q _ ⟨rfl, rfl, allBare_setGen (allBare_setGen I1.bare hb) rfl⟩⟩
    · rw [if_neg hbk] at q
      have : b = !k := by cases b <;> cases k <;> simp_all
      subst this
      exact hF _ H I2 q
  · obtain ⟨_, H, I1, fin⟩ := hp
    exact hN _ H (inv_grow I1 (t' := s1.toks) (allBare_setGen I1.bare rfl) hk) fin
theorem all_loop (hh : A.handled = none) (hroom : A.depth < recursionLimit) (hpn : X.pn = [(a, go)]) (hgo : ∀ h : Heap, h.get? a = some go → h.IsGen a gi)
    (hR : ∀ b s' H, L2.Inv X [] σ H s' → Fin b H → R (.ok (.ret (.bool b))) s') : ∀ (d : Nat) (s : Shared), GReady X A.in1.in1 σ true Fin gi d s → codeAny (model X.prog X.w) A (.builtin "all.loop" ⟨[.ref a], []⟩) R s := by
  intro d
  induction d using Nat.strongRecOn with
  | ind d ih =>
    intro s r
    refine codeAny_builtin F.entry_all_loop ?_
    rw [Around.under_plainId F.plain_all_loop _]
    show wpAny _ A.in1 (pyNext (.ref a) >>= _) _ _ s
    refine wpAny_bind (next_gen (A := A.in1) hh hroom hpn hgo r (fun s' H I f => ?_) (fun s' H I f => ?_) fun d' s' hd r' => ?_)
    · exact wpAny_bind (wpAny_rule (wpAny_pure (hR true s' H I f)))
    · refine wpAny_bind (wpAny_holding (wpAny_truthy_bool ?_))
      refine wpAny_bind (wpAny_letGo ?_)
      simp only [Bool.not_true, Bool.false_eq_true, if_false]
      exact wpAny_bind (wpAny_rule (wpAny_pure (hR false s' H I f)))
    · refine wpAny_bind (wpAny_holding (wpAny_truthy_bool ?_))
      refine wpAny_bind (wpAny_letGo ?_)
      simp only [if_true]
      exact wpAny_pure ⟨plainId_quiet F.plain_all_loop _, ih d' hd s' r'⟩
theorem any_loop (hh : A.handled = none) (hroom : A.depth < recursionLimit) (hpn : X.pn = [(a, go)]) (hgo : ∀ h : Heap, h.get? a = some go → h.IsGen a gi)
    (hR : ∀ b s' H, L2.Inv X [] σ H s' → Fin b H → R (.ok (.ret (.bool b))) s') : ∀ (d : Nat) (s : Shared), GReady X A.in1.in1 σ false Fin gi d s → codeAny (model X.prog X.w) A (.builtin "any.loop" ⟨[.ref a], []⟩) R s := by
  intro d
  induction d using Nat.strongRecOn with
  | ind d ih =>
    intro s r
    refine codeAny_builtin F.entry_any_loop ?_
    rw [Around.under_plainId F.plain_any_loop _]
    show wpAny _ A.in1 (pyNext (.ref a) >>= _) _ _ s
    refine wpAny_bind (next_gen (A := A.in1) hh hroom hpn hgo r (fun s' H I f => ?_) (fun s' H I f => ?_) fun d' s' hd r' => ?_)
    · exact wpAny_bind (wpAny_rule (wpAny_pure (hR false s' H I f)))
    · refine wpAny_bind (wpAny_holding (wpAny_truthy_bool ?_))
      refine wpAny_bind (wpAny_letGo ?_)
      simp only [Bool.not_false, if_true]
      exact wpAny_bind (wpAny_rule (wpAny_pure (hR true s' H I f)))
    · refine wpAny_bind (wpAny_holding (wpAny_truthy_bool ?_))
      refine wpAny_bind (wpAny_letGo ?_)
      simp only [Bool.false_eq_true, if_false]
      exact wpAny_pure ⟨plainId_quiet F.plain_any_loop _, ih d' hd s' r'⟩
end
end PM
end
section
namespace PM
open PySem L2 PySem.Spec PyProof.Rows GenW GxR
def tGn (k : Bool) (P : Addr) (wi : TI) (g : TG) (te : TE) (own : List Nat) : TE := fun σ H Q => wi σ H fun J H1 => TabG H1 P ∧ ∀ H2, Tabbed P H1 H2 → ∃ (L : Nat) (Pv : Nat → Hp → Prop), Pv 0 H2 ∧
  (∀ i H, i < L → Pv i H → J.go i H ∧ ∀ x H', J.yld i H x H' → g x (L2.wipe σ own) H' fun σ2 H3 => L2.wipe σ2 own = L2.wipe (L2.wipe σ own) own ∧ te σ2 H3 fun y H4 => ∃ b, y = .bl b ∧ if b = k then Pv (i + 1) H4 else Q (.bl (!k)) H4) ∧
  ∀ H, Pv L H → J.stop L H ∧ Q (.bl k) H
section
variable {X : Cx} {A : Around} {elt tg iter : Expr} {scope : Scope} {pos p gpos : Pos} {own : List (Str × Nat)} {k : Bool} {g : TG} {te : TE} {wi : TI} {c P : Addr}
theorem seg_start {R : GenEnd} {Y : Protocol} {d : Nat} {s₀ s : Shared} {cenv : PySem.Env} {it : Addr} {J : It} {fp : List Addr} {tn : Nat → Heap → Prop} {K : PySem.W.Frag} {Pg : Program} {w : World} (T : Turn Pg w K tg J fp it tn) (st : tn 0 s.heap)
    (h : Seg (model Pg w) A R Y d s₀ (.compLoop (.GeneratorExp elt [⟨tg, iter, [], 0⟩] scope pos) 0 (.ref it) .none cenv) ((model Pg w).den (.compLoop (.GeneratorExp elt [⟨tg, iter, [], 0⟩] scope pos) 0 (.ref it) .none cenv)) [] s) :
    Seg (model Pg w) A R Y d s₀ (.compStart (.GeneratorExp elt [⟨tg, iter, [], 0⟩] scope pos) 0 (.ref it) .none cenv) ((model Pg w).den (.compStart (.GeneratorExp elt [⟨tg, iter, [], 0⟩] scope pos) 0 (.ref it) .none cenv)) [] s := by
  show Seg _ A _ _ _ s₀ _ ((compStart (.GeneratorExp elt [⟨tg, iter, [], 0⟩] scope pos) 0 (.ref it) .none cenv).onRaise (leaving cenv)) [] s
  unfold compStart
  rw [Sem.onRaise_eq_wrap]
  show Seg _ A _ _ _ s₀ _ ((ask >>= _).wrap _ _ _ _) [] s
  refine seg_bind_wrap (wpAny_askSetting ?_)
  split
  · exact seg_again rfl h
  · first
      | exact seg_bind_wrap (wpAny_rule (seg_bind_wrap (wpAny_standAt (seg_bind_wrap (T.self _ 0 s _ _ st (seg_again rfl h))))))
      | (refine seg_bind_wrap (wpAny_rule ?_); show Seg _ A _ _ _ s₀ _ ((standAt iter.pos >>= _).wrap _ _ _ _) [] s; exact seg_bind_wrap (wpAny_standAt (seg_bind_wrap (T.self _ 0 s _ _ st (seg_again rfl h)))))
theorem clo_look {pins : List (Addr × Obj)} {σ : L2.St} {H : Hp} {s : Shared} (I : L2.Inv X pins σ H s) (ok : BlkOk X.N X.env.scope scope own) {x : Str} {c : Addr} (e : (cloFrom X.env.cells scope.names []).lookup x = some c) : X.env.cells.lookup x = some c := by
  rcases cloFrom_mem (PySem.mem_of_lookup e) with hm | ⟨h1, rfl⟩
  · cases hm
  · have : ∃ c, X.env.cells.lookup x = some c := by
      rcases ok.free _ h1 rfl with k | k
      · exact I.ok.has _ (.inl k)
      · exact I.ok.has _ (.inr k)
    obtain ⟨c, hc⟩ := this
    rw [hc]; rfl
theorem gen_made {kk : Nat} {pins : List (Addr × Obj)} {σ : L2.St} {H : Hp} {s : Shared} {Q : VK} {Q' : Value → Shared → Prop} (hr : Room (kk + 1) X.A) (hc : X.calm = true) (hN : X.N.Nodup) (TB : TabB X.base X.mg c P) (hcode : X.env.code = .ref c) (ok : GBlk X.N X.env.scope scope own) (hi : PI X tg iter wi)
    (hg : ∀ (A' : Around) (s : Shared) (H : Hp) (cenv : PySem.Env) (fp : List Addr) (pn : List (Addr × Obj)), Room kk A' → cenv.scope = scope → PG (gnX X A' s H cenv fp pn) tg g) (he : ∀ (A' : Around) (s : Shared) (H : Hp) (cenv : PySem.Env) (fp : List Addr) (pn : List (Addr × Obj)), Room kk A' → cenv.scope = scope → PE (gnX X A' s H cenv fp pn) elt te)
    (hs : ∀ v, genFold iter X.env v = pure v) (I : L2.Inv X pins σ H s) (h : tGn k P wi g te (own.map (·.2)) σ H Q)
    (hQ : ∀ (Xg : Cx) (a : Addr) (gi d : Nat) (go : Obj) (s5 : Shared), Xg.pn = [(a, go)] → (∀ h : Heap, h.get? a = some go → h.IsGen a gi) → Xg.prog = X.prog → Xg.w = X.w → GReady Xg X.A.in1.in1 (L2.wipe σ (own.map (·.2))) k (fun b H => Q (.bl b) H) gi d s5 →
      (∀ b s' H', L2.Inv Xg [] (L2.wipe σ (own.map (·.2))) H' s' → Q (.bl b) H' → EP X pins σ Q (.bool b) s') → Q' (.ref a) s5) :
    wpAny (model X.prog X.w) X.A (eval (.GeneratorExp elt [⟨tg, iter, [], 0⟩] scope gpos) X.env) Q' X.xe s := by
  have hfree : ∀ y ∈ scope.names, y.2 = .free → ∃ c, X.env.cells.lookup y.1 = some c := fun y hy e => by
    rcases ok.free y hy e with k | k
    · exact I.ok.has _ (.inl k)
    · exact I.ok.has _ (.inr k)
  refine wpAny_GeneratorExp_make ok.co (closure_ok hfree) ok.nocell ok.dot ok.kind (by have := hr.dp; omega) ?_ hs
  refine thn (hi.run pins s σ H _ I h) fun xv s1 hx => thn hx fun itv s2 h2 => ?_
  obtain ⟨it, fp, tn, J, H1, rfl, I2, T, st2, f2, ⟨ps, hP, ht⟩, q⟩ := h2
  have hPs : s2.heap.get? P = some { cls := .none, data := .fields ps } := I2.hok P _ hP
  have hPlt : P < s2.heap.objs.size := Heap.lt_size hPs
  have cd : PySem.W.CodeHd s2.heap c P := TB.code.keeps fun b u e => I2.bk b u e
  refine ⟨I2.nolimit, ?_⟩
  have cont : ∀ (code : Value) (h3 : Heap) (tk : Nat) (ps' : Array Value), Heap.ExtBut P s2.heap h3 → s2.heap.objs.size ≤ h3.objs.size → h3.get? P = some { cls := .none, data := .fields ps' } → (∃ more, ps' = ps ++ more) → TriplesOk ps'.toList →
      wpAny (model X.prog X.w) X.A (builtinsFor X.env.globals X.env.builtins) (fun bi s₄ => ∀ h', h'.Ns s₄.heap.objs.size (fun y => if y = ".0" then some (.ref it) else none) → Heap.SameBut s₄.heap.objs.size (s₄.heap.push { cls := .type "frame", data := .dict #[] }) h' →
          Q' (.ref h'.objs.size) { s₄ with
            gens := s₄.gens.push (.fresh (.compStart (.GeneratorExp elt [⟨tg, iter, [], 0⟩] scope gpos) 0 (.ref it) .none (genEnv scope (cloFrom X.env.cells scope.names []) s₄.heap.objs.size code bi X.env))),
            toks := s₄.toks + 1 + 1 + 1,
            heap := h'.push { cls := .type "generator", data := .fields #[.int s₄.gens.size 0, .str "<genexpr>" (s₄.toks + 1), .str (X.env.qual ++ "<genexpr>") (s₄.toks + 1 + 1)] } }) X.xe { s2 with heap := h3, toks := tk } := by
    intro code h3 tk ps' hx3 hsz hP3 hmore ht3
    obtain ⟨bm, ob, e1, e2, e3, e4, e5, e6, e7, e8⟩ := TB.bm
    have keep3 : ∀ b u, b ≠ P → s2.heap.get? b = some u → h3.get? b = some u := fun b u hb e => hx3 b u hb e
    refine wpAny_builtinsFor (m := X.mg) (by rw [I2.ok.glob]; exact (I2.mod.glob.keeps I2.bk).extBut hx3 TB.gP) e1 e2 (keep3 _ _ e4 (I2.bk _ _ e5)) e6 e7 e8 ?_
    intro h' hn' hs'
    obtain ⟨more, em⟩ := hmore
    subst em
    have I3 : L2.Inv X pins σ (upd H1 P (.tbl (ps ++ more))) { s2 with heap := h3, toks := tk } := inv_tab (more := more) (h' := h3) (g' := s2.gens) (d' := s2.drawn) (t' := tk) I2 hP keep3 hP3 I2.bare
    have H2tab : Tabbed P H1 (upd H1 P (.tbl (ps ++ more))) := ⟨⟨ps ++ more, upd_same, ht3⟩, fun b hb => upd_ne hb⟩
    obtain ⟨L, Pv, p0, step, stop⟩ := q _ H2tab
    have h2none : ∀ b, H1 b = none → b ≠ P ∧ upd H1 P (.tbl (ps ++ more)) b = none := fun b hb => by
      have hne : b ≠ P := fun z => by rw [z, hP] at hb; cases hb
      exact ⟨hne, by rw [upd_ne hne]; exact hb⟩
    generalize upd H1 P (.tbl (ps ++ more)) = H2 at I3 p0 h2none
    have hsz' : h'.objs.size = h3.objs.size + 1 := by rw [hs'.1, Heap.size_push]
    have keep' : ∀ b o, h3.get? b = some o → h'.get? b = some o := fun b o e => hs'.extBut b o (Nat.ne_of_lt (Heap.lt_size e)) (Heap.get?_push_of_some _ e)
    have keep5 : ∀ (go : Obj) b o, h3.get? b = some o → (h'.push go).get? b = some o := fun go b o e => Heap.get?_push_of_some _ (keep' b o e)
    have f3 : ∀ b ∈ fp, FpOk X pins H2 b ∧ b < h3.objs.size := fun b hb => by
      obtain ⟨f0, fr⟩ := f2 b hb
      obtain ⟨hne, h0⟩ := h2none b f0
      obtain ⟨o, e, _⟩ := T.obj _ _ st2 b hb
      exact ⟨⟨h0, fr⟩, Heap.lt_size (keep3 b o hne e)⟩
    have st3 : tn 0 h3 := T.keep _ _ _ st2 fun b hb o e => keep3 b o (h2none b (f2 b hb).1).1 e
    have st5 : ∀ go, tn 0 (h'.push go) := fun go => T.keep _ _ _ st3 fun b _ o e => keep5 go b o e
    have main : ∀ (go : Obj), (∀ h : Heap, h.get? h'.objs.size = some go → h.IsGen h'.objs.size s2.gens.size) → (∀ v, go.data ≠ .cell v) → (h'.push go).get? h'.objs.size = some go →
        Q' (.ref h'.objs.size) { s2 with
          gens := s2.gens.push (.fresh (.compStart (.GeneratorExp elt [⟨tg, iter, [], 0⟩] scope gpos) 0 (.ref it) .none (genEnv scope (cloFrom X.env.cells scope.names []) h3.objs.size code builtinsNs X.env))),
          toks := tk + 1 + 1 + 1, heap := h'.push go } := by
      intro go hgen hnc hat
      generalize hce : genEnv scope (cloFrom X.env.cells scope.names []) h3.objs.size code builtinsNs X.env = cenv
      have hL : cenv.locals = h3.objs.size := by rw [← hce]; rfl
      have hcl : cenv.cells = cloFrom X.env.cells scope.names [] := by rw [← hce]; rfl
      have hsc : cenv.scope = scope := by rw [← hce]; rfl
      have rm : Room kk ((X.A.in1.in1).over (.compLoop (.GeneratorExp elt [⟨tg, iter, [], 0⟩] scope gpos) 0 (.ref it) .none cenv) []) :=
        ⟨hr.hd, by have := hr.dp; rw [over_depth]; show X.A.depth + 1 + 3 * kk + 5 < _; omega, by have := hr.un; rw [over_units]; show X.A.units + 1 + 1 + 3 + 16 * kk + 200 < _; omega⟩
      have I4 := gen_start (A' := (X.A.in1.in1).over (.compLoop (.GeneratorExp elt [⟨tg, iter, [], 0⟩] scope gpos) 0 (.ref it) .none cenv) []) (code := code) (bi := builtinsNs) (g' := s2.gens.push (.fresh (.compStart (.GeneratorExp elt [⟨tg, iter, [], 0⟩] scope gpos) 0 (.ref it) .none cenv)))
        (h5 := h'.push go) (t5 := tk + 1 + 1 + 1) (pn := [(h'.objs.size, go)]) (fp := fp) I3 ok hN (fun _ => hr.hd) (by rw [← hce]; exact over_frames I.ok.frames) rfl f3 (keep5 go) (hn'.push _) (AllBare.push I3.bare rfl)
        (fun p hp => by
          rw [List.mem_singleton.mp hp]
          exact ⟨hat, by show h3.objs.size < h'.objs.size; omega, hnc⟩)
      rw [show genEnv scope (cloFrom X.env.cells scope.names []) ({ s2 with heap := h3, toks := tk } : Shared).heap.objs.size code builtinsNs X.env = cenv from hce] at I4
      refine hQ (gnX X ((X.A.in1.in1).over (.compLoop (.GeneratorExp elt [⟨tg, iter, [], 0⟩] scope gpos) 0 (.ref it) .none cenv) []) { s2 with heap := h3, toks := tk } H2 cenv fp [(h'.objs.size, go)]) h'.objs.size s2.gens.size L go _ rfl hgen rfl rfl
        ⟨⟨H2, I4⟩, _, Array.getElem?_push_size .., ?_⟩ fun b s' H' I6 qb => ?_
      · refine ⟨rfl, seg_start T (st5 go) ?_⟩
        refine seg_gen (X := gnX X ((X.A.in1.in1).over (.compLoop (.GeneratorExp elt [⟨tg, iter, [], 0⟩] scope gpos) 0 (.ref it) .none cenv) []) { s2 with heap := h3, toks := tk } H2 cenv fp [(h'.objs.size, go)]) (own := own.map (·.2)) (L := L) (Pv := Pv) (k := k) (Fin := fun b H => Q (.bl b) H) rfl rfl T hc (hg _ _ _ _ _ _ rm hsc) (he _ _ _ _ _ _ rm hsc)
          (by show cenv.scope.isCoroutine = false; rw [hsc]; exact ok.co) wipe_wipe (fun b hb => ?_) step stop L 0 _ _ H2 (Nat.sub_zero _) (Nat.zero_le _) (inv_gens I4 (allBare_setGen (g := s2.gens.size) (x := .running) I4.bare rfl)) (st5 go) (fun b hb => (f3 b hb).1.1) p0
        obtain ⟨⟨g0, g1, g2, g3, g4, g5⟩, g6⟩ := f3 b hb
        refine ⟨by show b ≠ cenv.locals; rw [hL]; exact Nat.ne_of_lt g6, fun z => ?_, hb, fun x cc e => g4 x cc (clo_look I ok.toBlkOk (by rw [← hcl]; exact e)), fun p hp => ?_⟩
        · rcases List.mem_cons.mp (I.stkSub b z) with z | z
          · exact g1 z
          · exact g2 z
        · rw [List.mem_singleton.mp hp]
          exact Nat.ne_of_gt (show b < h'.objs.size by rw [hsz']; exact Nat.lt_succ_of_lt g6)
      · exact ⟨.bl b, H', I3.call' (ch := fp) I6.os I6.base I6.hok I6.bare fun cc hcc => ⟨(f3 cc hcc).1.2.2.2.1, (f3 cc hcc).1.2.1, (f3 cc hcc).1.2.2.2.2.1, (f3 cc hcc).1.2.2.2.2.2⟩, rfl, qb⟩
    exact main _ (fun h e => ⟨_, _, _, e, rfl, rfl, rfl⟩) (fun v z => by cases z) (Heap.get?_push_size _ rfl)
  cases hf : codeAmong gpos ps.toList with
  | none =>
    refine wpAny_genexprCodeX hcode (cd.code hPs ht) (cd.tab hPs) hf fun c' h' tk hx hge hlt hco' _ htab' _ => ?_
    obtain ⟨o1, vs, f1, tf, fl, tgg, inF, tx, tt, op, _, _, _, _, _, _, _, _, _, htr, _⟩ := hco'
    exact cont _ h' tk _ hx (Nat.le_trans hge (Nat.le_of_lt hlt)) htab'.2 ⟨_, rfl⟩ htr
  | some cv =>
    refine wpAny_genexprCode_hit hcode (cd.code hPs ht) hf ?_
    exact cont cv s2.heap s2.toks ps (Heap.ExtBut.refl _ _) (Nat.le_refl _) hPs ⟨#[], by simp⟩ ht
end
end PM
end
section
namespace PM
open PySem L2 PySem.Spec PyProof.Rows GenW GxR
section
variable {X : Cx} {elt tg iter : Expr} {scope : Scope} {pos p gpos : Pos} {own : List (Str × Nat)} {k : Bool} {g : TG} {te : TE} {wi : TI} {c P : Addr} {kk : Nat}
theorem pe_allG (hr : Room (kk + 1) X.A) (hc : X.calm = true) (hgl : Gl X "all") (hm : X.mg "all" = none) (hN : X.N.Nodup) (TB : TabB X.base X.mg c P) (hcode : X.env.code = .ref c) (ok : GBlk X.N X.env.scope scope own) (hi : PI X tg iter wi)
    (hg : ∀ (A' : Around) (s : Shared) (H : Hp) (cenv : PySem.Env) (fp : List Addr) (pn : List (Addr × Obj)), Room kk A' → cenv.scope = scope → PG (gnX X A' s H cenv fp pn) tg g) (he : ∀ (A' : Around) (s : Shared) (H : Hp) (cenv : PySem.Env) (fp : List Addr) (pn : List (Addr × Obj)), Room kk A' → cenv.scope = scope → PE (gnX X A' s H cenv fp pn) elt te)
    (hs : ∀ v, genFold iter X.env v = pure v) : PE X (.Call (.Name "all" p) [.GeneratorExp elt [⟨tg, iter, [], 0⟩] scope gpos] [] pos) (tGn true P wi g te (own.map (·.2))) := by
  have he0 : starEach [.GeneratorExp elt [⟨tg, iter, [], 0⟩] scope gpos] X.env = (false, eval (.GeneratorExp elt [⟨tg, iter, [], 0⟩] scope gpos) X.env) :: starEach [] X.env := rfl
  refine ⟨fun pins s σ H Q I h => ?_⟩
  refine wpAny_Call_Name_kw (ld_blt I hgl hm PyProof.Rows.boot_all ?_)
  refine PyProof.Rows.callWith_builtin1 ?_ he0 (by rfl)
  rw [he0]
  show wpAny _ _ (spliced ((false, eval (.GeneratorExp elt [⟨tg, iter, [], 0⟩] scope gpos) X.env) :: backTo pos (starEach [] X.env))) _ _ s
  refine Calls.spliced_cons (gen_made hr hc hN TB hcode ok hi hg he hs I h fun Xg a gi d go s5 hpn hgo hp hw r conv => ?_)
  refine Calls.spliced_nil ?_
  obtain ⟨H5, I5⟩ := r.inv
  have ha : s5.heap.get? a = some go := (I5.pin (a, go) (by rw [hpn]; simp)).1
  refine call_function_tree F.kind_all F.plain_all F.entry_all (F.args_all1 _) ?_
  unfold Builtin.«all»
  refine wpAny_bind (m := oneArg "all" _) (wpAny_pure ?_)
  refine wpAny_bind (wpAny_pyIter_gen (hgo _ ha) ?_)
  refine wpAny_pure ⟨plainId_quiet F.plain_all_loop _, ?_⟩
  have q := all_loop (X := Xg) (A := X.A) hr.hd (by have := hr.dp; omega) hpn hgo (R := fun r s' => match r with | .ok (.ret u) => EP X pins σ Q u s' | _ => False) (fun b s' H' I' f => conv b s' H' I' f) d s5 r
  rw [hp, hw] at q
  refine codeAny_mono q fun r s' h => ?_
  cases r with
  | error e => exact h.elim
  | ok f => cases f <;> first | exact h | exact h.elim
theorem pe_anyG (hr : Room (kk + 1) X.A) (hc : X.calm = true) (hgl : Gl X "any") (hm : X.mg "any" = none) (hN : X.N.Nodup) (TB : TabB X.base X.mg c P) (hcode : X.env.code = .ref c) (ok : GBlk X.N X.env.scope scope own) (hi : PI X tg iter wi)
    (hg : ∀ (A' : Around) (s : Shared) (H : Hp) (cenv : PySem.Env) (fp : List Addr) (pn : List (Addr × Obj)), Room kk A' → cenv.scope = scope → PG (gnX X A' s H cenv fp pn) tg g) (he : ∀ (A' : Around) (s : Shared) (H : Hp) (cenv : PySem.Env) (fp : List Addr) (pn : List (Addr × Obj)), Room kk A' → cenv.scope = scope → PE (gnX X A' s H cenv fp pn) elt te)
    (hs : ∀ v, genFold iter X.env v = pure v) : PE X (.Call (.Name "any" p) [.GeneratorExp elt [⟨tg, iter, [], 0⟩] scope gpos] [] pos) (tGn false P wi g te (own.map (·.2))) := by
  have he0 : starEach [.GeneratorExp elt [⟨tg, iter, [], 0⟩] scope gpos] X.env = (false, eval (.GeneratorExp elt [⟨tg, iter, [], 0⟩] scope gpos) X.env) :: starEach [] X.env := rfl
  refine ⟨fun pins s σ H Q I h => ?_⟩
  refine wpAny_Call_Name_kw (ld_blt I hgl hm PyProof.Rows.boot_any ?_)
  refine PyProof.Rows.callWith_builtin1 ?_ he0 (by rfl)
  rw [he0]
  show wpAny _ _ (spliced ((false, eval (.GeneratorExp elt [⟨tg, iter, [], 0⟩] scope gpos) X.env) :: backTo pos (starEach [] X.env))) _ _ s
  refine Calls.spliced_cons (gen_made hr hc hN TB hcode ok hi hg he hs I h fun Xg a gi d go s5 hpn hgo hp hw r conv => ?_)
  refine Calls.spliced_nil ?_
  obtain ⟨H5, I5⟩ := r.inv
  have ha : s5.heap.get? a = some go := (I5.pin (a, go) (by rw [hpn]; simp)).1
  refine call_function_tree F.kind_any F.plain_any F.entry_any (F.args_any1 _) ?_
  unfold Builtin.«any»
  refine wpAny_bind (m := oneArg "any" _) (wpAny_pure ?_)
  refine wpAny_bind (wpAny_pyIter_gen (hgo _ ha) ?_)
  refine wpAny_pure ⟨plainId_quiet F.plain_any_loop _, ?_⟩
  have q := any_loop (X := Xg) (A := X.A) hr.hd (by have := hr.dp; omega) hpn hgo (R := fun r s' => match r with | .ok (.ret u) => EP X pins σ Q u s' | _ => False) (fun b s' H' I' f => conv b s' H' I' f) d s5 r
  rw [hp, hw] at q
  refine codeAny_mono q fun r s' h => ?_
  cases r with
  | error e => exact h.elim
  | ok f => cases f <;> first | exact h | exact h.elim
end
end PM
end
section
namespace PM
open PySem L2 PySem.Spec PyProof.Rows GenW GxR
section
variable {E : Cfg} {W : WX} {X : Cx} {σ : L2.St} {H : Hp} {Q : VK} {ma : Env → Sto → Res PV} {α : Nat → Addr} {S : Sto}
theorem Ext.tabbed {P : Addr} {H H2 : Hp} (t : TabG H P) (x : Tabbed P H H2) : Ext α S H α S H2 := by
  obtain ⟨ps, e, _⟩ := t
  obtain ⟨⟨ps2, e2, _⟩, k⟩ := x
  refine ⟨Nat.le_refl _, fun _ _ => rfl, fun a o ea nt _ => ?_, fun a xs ea => ?_, fun a o u ea => ?_, fun a ea => ?_, fun l h1 h2 => absurd h2 (Nat.not_lt.mpr h1)⟩
  · by_cases h : a = P
    · rw [h, e] at ea; cases ea; exact absurd rfl (nt ps)
    · rw [k a h]; exact ea
  · by_cases h : a = P
    · rw [h, e] at ea; cases ea
    · rw [k a h]; exact ea
  · by_cases h : a = P
    · rw [h, e] at ea; cases ea
    · rw [k a h]; exact ea
  · by_cases h : a = P
    · rw [h, e2] at ea; cases ea
    · rw [← k a h]; exact ea
theorem Rel.tabbed {P : Addr} {H H2 : Hp} (R : Rel E α S H) (hP : P ∈ E.tabs) (x : Tabbed P H H2) : Rel E α S H2 := by
  have t := R.tab P hP
  refine R.still (Ext.tabbed t x) (fun l hl => ?_) fun P' hP' => ?_
  · obtain ⟨m, _, q⟩ := R.at hl
    obtain ⟨ps, e, _⟩ := t
    exact x.2 _ fun z => q.mut.2.2.1 ps (by rw [z]; exact e)
  · by_cases h : P' = P
    · rw [h]; exact x.1
    · exact tab_keep (R.tab P' hP') (x.2 _ h)
theorem gn_is {k : Bool} {is own : List Nat} {P : Addr} {mi : Env → Sto → Res Itm} {mt : PV → Env → Sto → RT} (hP : P ∈ E.tabs) (hown : ∀ i ∈ is, i ∈ own)
    (h : tE E W (fun ρ S => (mi ρ S).bind fun J S1 => (genL k J.same (fun x S => mt x (PM.wipe ρ own) S) ma J.xs S1).bnd fun b S2 => .ok (.bl b) S2) σ H Q) :
    tGn k P (tI E W mi) (tT E is mt) (tE E noW ma) own σ H Q := by
  refine tG.first (R := Rp E) (R' := RI E) (f := fun J ρ S1 => (genL k J.same (fun x S => mt x (PM.wipe ρ own) S) ma J.xs S1).bnd fun b S2 => .ok (.bl b) S2) h fun α ρ S I J H1 R1 en ri kt => ?_
  refine ⟨R1.tab P hP, fun H2 tb => ?_⟩
  have x2 : Ext α S H1 α S H2 := Ext.tabbed (R1.tab P hP) tb
  have R2 := R1.tabbed hP tb
  refine ⟨I.xs.length, fun i H' => i ≤ I.xs.length ∧ ∃ α' S', Ext α S H1 α' S' H' ∧ Rel E α' S' H' ∧ EnvR E α' S'.length H' ρ σ ∧
      Kt E W (Rp E) α' S' σ H' ((genL k I.same (fun x S => mt x (PM.wipe ρ own) S) ma (I.xs.drop i) S').bnd fun b S2 => .ok (.bl b) S2) Q,
    ⟨Nat.zero_le _, α, S, x2, R2, en.ext x2, by rw [List.drop_zero]; exact kt.move x2⟩, ?_, ?_⟩
  · rintro i H' hlt ⟨_, α', S', x', R', en', kt⟩
    rw [List.drop_eq_getElem_cons hlt] at kt
    simp only [genL] at kt
    have kt : Kt E W (Rp E) α' S' σ H' (Res.need (I.same S') ((match mt I.xs[i] (PM.wipe ρ own) S' with
      | some (ρ3, S3) => (ma ρ3 S3).bnd fun y S4 => match y with
        | .bl b => if b = k then genL k I.same (fun x S => mt x (PM.wipe ρ own) S) ma (I.xs.drop (i + 1)) S4 else .ok (!k) S4
        | _ => .bad
      | none => .bad).bnd fun b S2 => .ok (.bl b) S2)) Q := by
      cases hs : I.same S' with
      | true => rw [hs] at kt; exact kt
      | false => rw [hs] at kt; exact kt.elim
    obtain ⟨sm, kt⟩ := kt.need
    obtain ⟨serve, _⟩ := ri S α' S' H' rfl x' R' sm
    obtain ⟨hgo, hy⟩ := serve i I.xs[i] (by simp [hlt])
    refine ⟨hgo, fun x H2 yld => ?_⟩
    obtain ⟨xy, Ry, ry⟩ := hy x H2 yld
    refine ⟨α', PM.wipe ρ own, S', I.xs[i], Ry, (en'.ext xy).wipe own, ry, ?_⟩
    have kt := kt.move xy
    revert kt
    cases hm : mt I.xs[i] (PM.wipe ρ own) S' with
    | none => exact fun kt => kt.elim
    | some r =>
      obtain ⟨ρ3, S3⟩ := r
      intro kt α3 σ3 H3 x3 R3 en3 hw
      have kt := kt.move x3
      refine ⟨hw own hown, α3, ρ3, S3, R3, en3, ?_⟩
      have kt : Kt E W (Rp E) α3 S3 σ H3 ((ma ρ3 S3).bnd fun y S4 => (match y with
        | .bl b => if b = k then genL k I.same (fun x S => mt x (PM.wipe ρ own) S) ma (I.xs.drop (i + 1)) S4 else .ok (!k) S4
        | _ => .bad).bnd fun b S2 => .ok (.bl b) S2) Q := by
        have kt : Kt E W (Rp E) α3 S3 σ H3 (((ma ρ3 S3).bnd fun y S4 => match y with
          | .bl b => if b = k then genL k I.same (fun x S => mt x (PM.wipe ρ own) S) ma (I.xs.drop (i + 1)) S4 else .ok (!k) S4
          | _ => .bad).bnd fun b S2 => .ok (.bl b) S2) Q := kt
        revert kt
        cases ma ρ3 S3 <;> exact fun kt => kt
      refine Kt.bnd (R' := Rp E) kt fun y S4 α4 yv H4 x4 R4 rv kt => ?_
      split at kt
      · rename_i b
        simp only [Rp] at rv
        refine ⟨b, rv, ?_⟩
        by_cases hb : b = k
        · rw [if_pos hb] at kt ⊢
          exact ⟨hlt, α4, S4, ((x'.trans xy).trans x3).trans x4, R4, en'.ext ((xy.trans x3).trans x4), kt⟩
        · rw [if_neg hb] at kt ⊢
          exact kt.here R4 (by simp only [Rp])
      · exact kt.elim
  · rintro H' ⟨_, α', S', x', R', en', kt⟩
    rw [List.drop_length] at kt
    simp only [genL] at kt
    have kt : Kt E W (Rp E) α' S' σ H' (Res.need (I.same S') (.ok (.bl k) S')) Q := by
      cases hs : I.same S' with
      | true => rw [hs] at kt; exact kt
      | false => rw [hs] at kt; exact kt.elim
    obtain ⟨sm, kt⟩ := kt.need
    obtain ⟨_, stop⟩ := ri S α' S' H' rfl x' R' sm
    exact ⟨stop, kt.here R' (by simp only [Rp])⟩
end
end PM
end
section
namespace PM
open PySem L2 PySem.Spec PyProof.Rows
section
variable {E : Cfg} {W : WX} {X : Cx} {σ : L2.St} {H : Hp} {Q : VK} {ma mb : Env → Sto → Res PV} {a b : Expr} {pos pos2 p p2 : Pos} {α : Nat → Addr} {S : Sto}
theorem RpL.ofRng {n : Nat} {lo hi : Int} : RpL E α n H (rngL lo hi) (rgV lo hi) := by
  have : ∀ l : List Nat, RpL E α n H (l.map fun i => PV.int (lo + (i : Nat))) (l.map fun i => V.int (lo + (i : Nat))) := by
    intro l
    induction l with
    | nil => exact RpL.nil
    | cons i l ih => exact RpL.cons (by simp only [Rp]) ih
  exact this _
theorem nm_rng {lo hi : Int} : nmC (rngL lo hi) = false := by
  unfold rngL nmC
  generalize List.range (hi - lo).toNat = l
  cases l with
  | nil => rfl
  | cons i l => rfl
theorem rg_ok {lo hi : Int} (h : okR lo hi = true) : RgOk lo hi := by
  obtain ⟨h1, h2, h3, h4, h5⟩ := okR_is h
  exact ⟨h1, h2, h3, h4, by have : LIM = 2 ^ 24 := by decide
                            omega⟩
theorem na1 {x : Str} {p pos : Pos} {es : List Expr} {env : PySem.Env} : starEach [.Call (.Name x p) es [] pos] env = (false, eval (.Call (.Name x p) es [] pos) env) :: starEach [] env := rfl
theorem s_listR1 (hc : X.calm = true) (hg : Gl X "list") (hm : X.mg "list" = none) (hg2 : Gl X "range") (hm2 : X.mg "range" = none) (h0 : notStar a = true) (ha : PE X a (tE E W ma)) :
    PE X (.Call (.Name "list" p) [.Call (.Name "range" p2) [a] [] pos2] [] pos) (tE E W fun ρ S => (ma ρ S).bind fun v S1 => listR1B S1 v) := by
  refine PE.imp (pe_listRg hc hg hm (prg_1 hg2 hm2 ha (star1 h0)) na1) fun σ H Q h => ?_
  refine tG.first (R := Rp E) (f := fun v ρ S1 => listR1B S1 v) h fun α ρ S v x H1 R en rv kt => ?_
  unfold listR1B at kt
  split at kt
  · rename_i n
    simp only [Rp] at rv
    obtain ⟨ok, kt⟩ := kt.need
    exact ⟨n, rv, rg_ok ok, fun q hq => mk_lst kt R RpL.ofRng hq⟩
  · exact kt.elim
theorem s_tupR1 (hc : X.calm = true) (hg : Gl X "tuple") (hm : X.mg "tuple" = none) (hg2 : Gl X "range") (hm2 : X.mg "range" = none) (h0 : notStar a = true) (ha : PE X a (tE E W ma)) :
    PE X (.Call (.Name "tuple" p) [.Call (.Name "range" p2) [a] [] pos2] [] pos) (tE E W fun ρ S => (ma ρ S).bind fun v S1 => tupR1B S1 v) := by
  refine PE.imp (pe_tupRg hc hg hm (prg_1 hg2 hm2 ha (star1 h0)) na1) fun σ H Q h => ?_
  refine tG.first (R := Rp E) (f := fun v ρ S1 => tupR1B S1 v) h fun α ρ S v x H1 R en rv kt => ?_
  unfold tupR1B at kt
  split at kt
  · rename_i n
    simp only [Rp] at rv
    obtain ⟨ok, kt⟩ := kt.need
    exact ⟨n, rv, rg_ok ok, fun q hq => mk_tup nm_rng kt R RpL.ofRng hq⟩
  · exact kt.elim
end
end PM
end
section
namespace PM
open PySem L2 PySem.Spec PyProof.Rows
def isDv : List PV → Bool
  | [.tup []] => true
  | _ => false
theorem isDv_eq {dv : List PV} (h : isDv dv = true) : dv = [.tup []] := by
  unfold isDv at h
  split at h
  · rfl
  · cases h
structure Gx where
  fns : List (Str × Nat)
  bis : List Str
  cls : List (Str × Nat)
  fld : List Str
  cst : List (Str × PV)
  ini : List (Nat × Nat) := []
  dfl : List Nat := []
structure Nm where
  N : List Str
  sc : Scope
  raw : Scope
  lv : Nat
  gen : Bool
def Nm.blk (n : Nm) (scope : Scope) : Nm := { n with sc := relS scope n.sc, raw := scope }
def Nm.gn (n : Nm) (scope : Scope) : Nm := { n with sc := scope, raw := scope, lv := n.lv - 1, gen := false }
def gblkC (N : List Str) (sc scope : Scope) (own : List (Str × Nat)) : Bool :=
  blkC N sc scope own && !scope.isCoroutine && scope.names.all (fun y => decide (y.2 ≠ .cell)) && decide (scope.names.lookup (".0" : Str) = some NameKind.local)
def notFold : Expr → Bool
  | .List _ _ => false
  | .Set _ _ _ => false
  | _ => true
def Nm.vis (n : Nm) (i : Nat) (x : Str) : Bool := decide (n.N[i]? = some x) && (match n.sc.names.lookup x with | some .local => true | some .cell => true | some .free => true | _ => false) && !(x == ("__debug__" : Str)) && !(x == ("__classdict__" : Str))
def Nm.loc (n : Nm) (i : Nat) (x : Str) : Bool := decide (n.N[i]? = some x) && (decide (n.sc.names.lookup x = some .local) || (decide (n.sc.names.lookup x = some .cell) && decide (n.raw.names.lookup x = some .cell)))
def Nm.gl (n : Nm) (x : Str) : Bool := decide (n.sc.names.lookup x = some .globalImplicit)
def Nm.bi (n : Nm) (G : Gx) (x : Str) : Bool := n.gl x && G.bis.contains x
def cstC (v : PV) (c : Const) : Bool := match v with
  | .int i => (match c with | .int j => decide (i = j) | _ => false)
  | .bl i => (match c with | .bool j => decide (i = j) | _ => false)
  | .str i => (match c with | .str j => decide (i = j) | _ => false)
  | .non => (match c with | .none => true | _ => false)
  | _ => false
def biN : BI → Str
  | .len => "len" | .int => "int" | .list => "list" | .tuple => "tuple" | .sorted => "sorted" | .min2 => "min" | .min1 => "min" | .max1 => "max" | .sum => "sum" | .str => "str" | .repr => "repr"
  | .listR1 => "list" | .tupR1 => "tuple" | .tupR2 => "tuple" | .bool => "bool"
def biP : BI → Bool
  | .len | .int | .list | .tuple | .sorted | .min2 | .sum | .str => true
  | _ => false
def rgP : BI → Bool
  | .listR1 | .tupR1 => true
  | _ => false
def knC (G : Gx) (n : Nm) (k : KN) (e : Expr) : Bool := match e with
  | .Name x _ => (match k with
    | .int => decide (x = "int") && n.bi G x | .bool => decide (x = "bool") && n.bi G x | .str => decide (x = "str") && n.bi G x | .list => decide (x = "list") && n.bi G x | .tuple => decide (x = "tuple") && n.bi G x
    | .cls c => decide (G.cls.lookup x = some c) && n.gl x && !(x == ("__debug__" : Str)))
  | _ => false
def notSet : Expr → Bool
  | .Set _ _ _ => false
  | _ => true
mutual
def tis : CT → List Nat
  | .var i => [i]
  | .fld _ _ => []
  | .sub _ _ => []
  | .tup ts => tiss ts
def tiss : CTs → List Nat
  | .nil => []
  | .cons t ts => tis t ++ tiss ts
end
def CTs.len : CTs → Nat
  | .nil => 0
  | .cons _ ts => ts.len + 1
mutual
def ck (G : Gx) : Nat → Nm → CE → Expr → Bool
  | 0, _, _, _ => false
  | m + 1, n, e, py => match e with
    | .cst v => (match py with | .Constant c _ _ => cstC v c | _ => false)
    | .var i => (match py with | .Name x _ => n.vis i x | _ => false)
    | .pow i j => (match py with | .BinOp a op b _ => decide (op = .Pow) && (match a with | .Constant (.int x) _ _ => (match b with | .Constant (.int y) _ _ => decide (x = i) && decide (y = j) && decide (i < 2 ^ 64) && decide (j ≤ 1000) | _ => false) | _ => false) | _ => false)
    | .bop o a b => (match py with | .BinOp x op y _ => decide (op = opB o) && ck G m n a x && ck G m n b y | _ => false)
    | .cmp o a b => (match py with | .Compare x [op] [y] _ => decide (op = opC o) && !behindInMarks (opC o) y && ck G m n a x && ck G m n b y | _ => false)
    | .cmp2 o o' a b c => (match py with | .Compare x [op, op'] [y, z] _ => decide (op = opC o) && decide (op' = opC o') && !lastMarks [opC o, opC o'] [y, z] && ck G m n a x && ck G m n b y && ck G m n c z | _ => false)
    | .and _ _ => (match py with | .BoolOp op es _ => decide (op = .And) && ckAnd G m n e es | _ => false)
    | .or _ _ => (match py with | .BoolOp op es _ => decide (op = .Or) && ckOr G m n e es | _ => false)
    | .not a => (match py with | .UnaryOp op x _ => decide (op = .Not) && ck G m n a x | _ => false)
    | .neg a => (match py with | .UnaryOp op x _ => decide (op = .USub) && ck G m n a x | _ => false)
    | .tup es => (match py with | .Tuple xs _ _ => cks G m n es xs | _ => false)
    | .lst es => (match py with | .List xs _ => cks G m n es xs | _ => false)
    | .ix a i => (match py with | .Subscript x y _ => plainIx y && ck G m n a x && ck G m n i y | _ => false)
    | .sl a lo hi => (match py with | .Subscript x y _ => (match y with | .Slice l h st _ => st.isNone && ck G m n a x && cko G m n lo l && cko G m n hi h | _ => false) | _ => false)
    | .rev a => (match py with | .Subscript x y _ => (match y with | .Slice l h st _ => l.isNone && h.isNone && (match st with | some (.UnaryOp op (.Constant (.int 1) _ _) _) => decide (op = .USub) | _ => false) && ck G m n a x | _ => false) | _ => false)
    | .call f es => (match py with | .Call g xs kw _ => kw.isEmpty && (match g with | .Name x _ => n.gl x && decide (G.fns.lookup x = some f) && !(x == ("__debug__" : Str)) && cks G m n es xs | _ => false) | _ => false)
    | .bi b es => if rgP b = true then (match py with | .Call g xs kw _ => kw.isEmpty && (match g with | .Name x _ => decide (x = biN b) && n.bi G x | _ => false) && (match xs with | [y] => ckRg G m n es y | _ => false) | _ => false)
      else (match py with | .Call g xs kw _ => kw.isEmpty && (match g with | .Name x _ => biP b && decide (x = biN b) && n.bi G x && !xs.isEmpty && cks G m n es xs | _ => false) | _ => false)
    | .isi a ks => match py with
      | .Call g xs kw _ => kw.isEmpty && (match g with | .Name x _ => decide (x = "isinstance") && n.bi G x | _ => false) && (match xs with
        | [y, z] => notStar y && ck G m n a y && (match ks with
          | [k] => knC G n k z
          | [k, k'] => (match z with | .Tuple [z1, z2] _ _ => decide (k = .list) && decide (k' = .tuple) && knC G n k z1 && knC G n k' z2 | _ => false)
          | _ => false)
        | _ => false)
      | _ => false
    | .lm k o es => match py with
      | .Call g xs kw pos => kw.isEmpty && (match g with
        | .Attribute x nm p => plainOb x && (p.endLine == pos.line) && decide (xs.length < 29) && ck G m n o x && cks G m n es xs && (match k with
          | .append => decide (nm = "append") && !xs.isEmpty
          | .pop0 => decide (nm = "pop") && xs.isEmpty
          | .index => decide (nm = "index") && !xs.isEmpty
          | _ => false)
        | _ => false)
      | _ => false
    | .comp elt own tg it cond => match py with
      | .ListComp x gs scope _ => (match gs with
        | [⟨t, iter, ifs, asn⟩] => decide (asn = 0) && notSet iter && blkC n.N n.sc scope (own.map fun i => (n.N.getD i "", i)) && cki G m n it t iter && (tis tg).all (fun i => own.contains i) && ckt G m (n.blk scope) tg t
            && ckb G m (n.blk scope) cond ifs && ck G m (n.blk scope) elt x
        | _ => false)
      | _ => false
    | .gen kk elt own tg it => match py with
      | .Call g xs kw _ => kw.isEmpty && n.gen && decide (1 ≤ n.lv) && (match g with | .Name x _ => decide (x = if kk = true then "all" else "any") && n.bi G x | _ => false) && (match xs with
        | [.GeneratorExp x gs scope _] => (match gs with
          | [⟨t, iter, ifs, asn⟩] => decide (asn = 0) && ifs.isEmpty && notFold iter && gblkC n.N n.sc scope (own.map fun i => (n.N.getD i "", i)) && cki G m n it t iter && (tis tg).all (fun i => own.contains i) && ckt G m (n.gn scope) tg t && ck G m (n.gn scope) elt x
          | _ => false)
        | _ => false)
      | _ => false
    | .fld a f => (match py with | .Attribute x nm _ => plainOb x && decide (G.fld[f]? = some nm) && ck G m n a x | _ => false)
    | .make c f es dv => (match py with | .Call g xs kw _ => kw.isEmpty && (match g with | .Name x _ => n.gl x && decide (G.cls.lookup x = some c) && decide (G.ini.lookup c = some f) && !(x == ("__debug__" : Str)) && (dv.isEmpty || isDv dv && G.dfl.contains f) && !xs.isEmpty && decide (1 ≤ n.lv) && cks G m n es xs | _ => false) | _ => false)
    | .dcomp _ kx vx own tg it => match py with
      | .DictComp x y gs scope _ => (match gs with
        | [⟨t, iter, ifs, asn⟩] => decide (asn = 0) && ifs.isEmpty && notSet iter && blkC n.N n.sc scope (own.map fun i => (n.N.getD i "", i)) && cki G m n it t iter && (tis tg).all (fun i => own.contains i) && ckt G m (n.blk scope) tg t
            && ck G m (n.blk scope) kx x && ck G m (n.blk scope) vx y
        | _ => false)
      | _ => false
    | .nev => plainT py
    | .glo x v => (match py with | .Name y _ => decide (y = x) && n.gl x && !(x == ("__debug__" : Str)) && (match G.cst.lookup x with | some w => PV.beq w v | none => false) | _ => false)
    | .fz a => plainT py && ck G m n a py
    | _ => false
def ckRg (G : Gx) : Nat → Nm → CEs → Expr → Bool
  | 0, _, _, _ => false
  | m + 1, n, es, py => match es with
    | .cons e es2 => (match es2 with
      | .nil => (match py with | .Call g xs kw _ => kw.isEmpty && (match g with | .Name x _ => decide (x = "range") && n.bi G x | _ => false) && (match xs with | [z] => notStar z && ck G m n e z | _ => false) | _ => false)
      | _ => false)
    | _ => false
def ckAnd (G : Gx) : Nat → Nm → CE → List Expr → Bool
  | 0, _, _, _ => false
  | m + 1, n, e, es => match es with
    | [] => false
    | x :: r => if r.isEmpty then ck G m n e x else (match e with | .and a b => ck G m n a x && ckAnd G m n b r | _ => false)
def ckOr (G : Gx) : Nat → Nm → CE → List Expr → Bool
  | 0, _, _, _ => false
  | m + 1, n, e, es => match es with
    | [] => false
    | x :: r => if r.isEmpty then ck G m n e x else (match e with | .or a b => ck G m n a x && ckOr G m n b r | _ => false)
def cks (G : Gx) : Nat → Nm → CEs → List Expr → Bool
  | 0, _, _, _ => false
  | m + 1, n, es, xs => match es with
    | .nil => xs.isEmpty
    | .cons e es => (match xs with | x :: xs => notStar x && ck G m n e x && cks G m n es xs | [] => false)
def cko (G : Gx) : Nat → Nm → CEo → Option Expr → Bool
  | 0, _, _, _ => false
  | m + 1, n, o, x => match o with
    | .none => x.isNone
    | .some e => (match x with | some x => ck G m n e x | none => false)
def ckb (G : Gx) : Nat → Nm → CEo → List Expr → Bool
  | 0, _, _, _ => false
  | m + 1, n, o, xs => match o with
    | .none => xs.isEmpty
    | .some e => (match xs with | [x] => ck G m n e x | _ => false)
def cki (G : Gx) : Nat → Nm → CI → Expr → Expr → Bool
  | 0, _, _, _, _ => false
  | m + 1, n, i, tg, py => match i with
    | .seq e => ck G m n e py
    | .rng1 e => (match py with | .Call g xs kw _ => kw.isEmpty && (match g with | .Name x _ => decide (x = "range") && n.bi G x | _ => false) && (match xs with | [x] => notStar x && ck G m n e x | _ => false) | _ => false)
    | .rng2 e e' => (match py with | .Call g xs kw _ => kw.isEmpty && (match g with | .Name x _ => decide (x = "range") && n.bi G x | _ => false) && (match xs with | [x, y] => notStar x && notStar y && ck G m n e x && ck G m n e' y | _ => false) | _ => false)
    | .enum e => (match tg with | .Tuple _ _ _ => true | _ => false) && (match py with | .Call g xs kw _ => kw.isEmpty && (match g with | .Name x _ => decide (x = "enumerate") && n.bi G x | _ => false) && (match xs with | [x] => notStar x && ck G m n e x | _ => false) | _ => false)
    | .zip e e' => (match tg with | .Tuple _ _ _ => true | _ => false) && (match py with | .Call g xs kw _ => kw.isEmpty && (match g with | .Name x _ => decide (x = "zip") && n.bi G x | _ => false) && (match xs with | [x, y] => notStar x && notStar y && ck G m n e x && ck G m n e' y | _ => false) | _ => false)
def ckt (G : Gx) : Nat → Nm → CT → Expr → Bool
  | 0, _, _, _ => false
  | m + 1, n, t, py => match t with
    | .var i => (match py with | .Name x _ => n.loc i x | _ => false)
    | .tup ts => (match py with | .Tuple xs _ _ => ckts G m n ts xs | _ => false)
    | .fld o f => (match py with | .Attribute x nm _ => decide (G.fld[f]? = some nm) && ck G m n o x | _ => false)
    | _ => false
def ckts (G : Gx) : Nat → Nm → CTs → List Expr → Bool
  | 0, _, _, _ => false
  | m + 1, n, ts, xs => match ts with
    | .nil => xs.isEmpty
    | .cons t ts => (match xs with | x :: xs => notStar x && ckt G m n t x && ckts G m n ts xs | [] => false)
end
def CstOk (v : PV) (u : Value) : Prop := (∃ i, v = .int i ∧ RelV (.int i) u) ∨ ∃ z, v = .str z ∧ RelV (.str z) u
structure CxE (E : Cfg) (cf : Cf) (G : Gx) (k : Nat) (n : Nm) (W : WX) (X : Cx) : Prop where
  K : X.K = E.K
  N : X.N = n.N
  nd : n.N.Nodup
  sc : X.env.scope = n.sc
  fn : ∀ x, n.raw.names.lookup x = some .cell → X.fn x = true
  calm : X.calm = true
  room : Room (k + n.lv) X.A
  tb : n.gen = true → ∃ c P, X.env.code = .ref c ∧ GxR.TabB X.base X.mg c P ∧ P ∈ E.tabs
  bi : ∀ x ∈ G.bis, X.mg x = none
  fns : ∀ x f, G.fns.lookup x = some f → ∃ a, X.mg x = some (.ref a) ∧ FnIn E cf X k f a
  clsN : ∀ x c, G.cls.lookup x = some c → X.mg x = some (.ref (E.cls c)) ∧ c < E.nc
  cls : ∀ d, d < E.nc → ClsF E d
  cst : ∀ x v, G.cst.lookup x = some v → ∃ u, X.mg x = some u ∧ CstOk v u
  tk : Takes X W
  wo : X.w = E.wo
  fl : G.fld = E.fld
  ini : ∀ c f, G.ini.lookup c = some f → c < E.nc ∧ ∃ fa, Mk E.K (E.cls c) fa ∧ FnIn E cf X k f fa
  dfl : ∀ c f, G.ini.lookup c = some f → f ∈ G.dfl → ∃ fa, Mk E.K (E.cls c) fa ∧ FnD E cf X k f fa
section
variable {E : Cfg} {cf : Cf} {G : Gx} {k : Nat} {n : Nm} {W : WX} {X : Cx}
theorem CxE.blk (C : CxE E cf G k n W X) (s : Shared) (H : Hp) (D : Addr) (cl : List (Str × Addr)) (fp : List Addr) (scope : Scope) : CxE E cf G k (n.blk scope) noW (X.blk s H scope (compEnvC scope cl D X.env) fp) where
  K := C.K
  N := C.N
  nd := C.nd
  sc := by show relS scope X.env.scope = relS scope n.sc; rw [C.sc]
  fn := fun x h => by
    have h : scope.names.lookup x = some .cell := h
    show (scope.names.lookup x == some .cell) = true
    rw [h]; rfl
  calm := C.calm
  room := C.room
  tb := C.tb
  bi := C.bi
  fns := fun x f h => let ⟨a, h1, h2⟩ := C.fns x f h; ⟨a, h1, h2.kp, h2.ok⟩
  clsN := C.clsN
  cls := C.cls
  cst := C.cst
  tk := takes0
  wo := C.wo
  fl := C.fl
  ini := fun c f h => let ⟨l, fa, M, F⟩ := C.ini c f h; ⟨l, fa, M, F.kp, F.ok⟩
  dfl := fun c f h h2 => let ⟨fa, M, F⟩ := C.dfl c f h h2; ⟨fa, M, F.kp, F.ok⟩
theorem CxE.gn (C : CxE E cf G k n W X) (h1 : 1 ≤ n.lv) {A' : Around} {s : Shared} {H : Hp} {cenv : PySem.Env} {fp : List Addr} {pn : List (Addr × Obj)} {scope : Scope} (hr : Room (k + (n.lv - 1)) A') (hs : cenv.scope = scope) (hn : ∀ y ∈ scope.names, y.2 ≠ .cell) :
    CxE E cf G k (n.gn scope) noW (gnX X A' s H cenv fp pn) where
  K := C.K
  N := C.N
  nd := C.nd
  sc := hs
  fn := fun x h => absurd rfl (hn _ (PySem.mem_of_lookup (show scope.names.lookup x = some .cell from h)))
  calm := C.calm
  room := hr
  tb := fun h => by cases h
  bi := C.bi
  fns := fun x f h => let ⟨a, h1, h2⟩ := C.fns x f h; ⟨a, h1, h2.kp, h2.ok⟩
  clsN := C.clsN
  cls := C.cls
  cst := C.cst
  tk := takes0
  wo := C.wo
  fl := C.fl
  ini := fun c f h => let ⟨l, fa, M, F⟩ := C.ini c f h; ⟨l, fa, M, F.kp, F.ok⟩
  dfl := fun c f h h2 => let ⟨fa, M, F⟩ := C.dfl c f h h2; ⟨fa, M, F.kp, F.ok⟩
theorem gblk_by {N : List Str} {sc scope : Scope} {own : List (Str × Nat)} (h : gblkC N sc scope own = true) : GBlk N sc scope own := by
  simp only [gblkC, Bool.and_eq_true, Bool.not_eq_true', List.all_eq_true, decide_eq_true_eq] at h
  obtain ⟨⟨⟨h1, h2⟩, h3⟩, h4⟩ := h
  exact { toBlkOk := blkOk_by h1, co := h2, nocell := h3, dot := h4 }
theorem genf {e : Expr} (h : notFold e = true) {env : PySem.Env} : ∀ x, genFold e env x = pure x := by
  intro x
  cases e <;> first | rfl | simp [notFold] at h
theorem CxE.gl (C : CxE E cf G k n W X) {x : Str} (h : n.gl x = true) : Gl X x := by
  show X.env.scope.names.lookup x = some .globalImplicit
  rw [C.sc]; exact of_decide_eq_true h
theorem CxE.bt (C : CxE E cf G k n W X) {x : Str} (h : n.bi G x = true) : Gl X x ∧ X.mg x = none := by
  simp only [Nm.bi, Bool.and_eq_true, List.contains_iff_mem] at h
  exact ⟨C.gl h.1, C.bi x h.2⟩
theorem CxE.hu (C : CxE E cf G k n W X) : X.A.units + 65 < cLine := by have := C.room.un; omega
theorem CxE.loc (C : CxE E cf G k n W X) {i : Nat} {x : Str} (h : n.loc i x = true) : X.N[i]? = some x ∧ Loc X.env.scope x ∧ (X.fn x = true ∨ X.env.scope.names.lookup x = some .local) := by
  simp only [Nm.loc, Bool.and_eq_true, Bool.or_eq_true, decide_eq_true_eq] at h
  rw [C.N, C.sc]
  rcases h.2 with h2 | ⟨h2, h3⟩
  · exact ⟨h.1, .inl h2, .inr h2⟩
  · exact ⟨h.1, .inr h2, .inl (C.fn x h3)⟩
theorem CxE.kn (C : CxE E cf G k n W X) {c : KN} {e : Expr} (h : knC G n c e = true) : KnOk E X c e ∧ ∀ d, c = .cls d → d < E.nc := by
  cases e <;> simp only [knC] at h <;> try cases h
  rename_i x pos
  cases c <;> simp only [Bool.and_eq_true, decide_eq_true_eq] at h
  · obtain ⟨rfl, h⟩ := h; obtain ⟨g, m⟩ := C.bt h
    exact ⟨⟨pe_bltn g m PyProof.Rows.boot_int rfl, rfl⟩, fun _ z => by cases z⟩
  · obtain ⟨rfl, h⟩ := h; obtain ⟨g, m⟩ := C.bt h
    exact ⟨⟨pe_bltn g m PyProof.Rows.boot_bool rfl, rfl⟩, fun _ z => by cases z⟩
  · obtain ⟨rfl, h⟩ := h; obtain ⟨g, m⟩ := C.bt h
    exact ⟨⟨pe_bltn g m PyProof.Rows.boot_str rfl, rfl⟩, fun _ z => by cases z⟩
  · obtain ⟨rfl, h⟩ := h; obtain ⟨g, m⟩ := C.bt h
    exact ⟨⟨pe_bltn g m PyProof.Rows.boot_list rfl, rfl⟩, fun _ z => by cases z⟩
  · obtain ⟨rfl, h⟩ := h; obtain ⟨g, m⟩ := C.bt h
    exact ⟨⟨pe_bltn g m PyProof.Rows.boot_tuple rfl, rfl⟩, fun _ z => by cases z⟩
  · obtain ⟨⟨h1, h2⟩, h5⟩ := h
    obtain ⟨h3, h4⟩ := C.clsN _ _ h1
    exact ⟨⟨pe_glob (C.gl h2) h3 rfl (by simpa using h5), rfl⟩, fun d z => by cases z; exact h4⟩
end
end PM
end
section
namespace PM
open PySem L2 PySem.Spec PyProof.Rows
structure AllS (E : Cfg) (cf : Cf) (G : Gx) (m : Nat) : Prop where
  e : ∀ {k n W X}, CxE E cf G k n W X → ∀ e py, ck G m n e py = true → Snd E W X py (ev cf e)
  an : ∀ {k n W X}, CxE E cf G k n W X → ∀ e es pos, ckAnd G m n e es = true → SndB E W X .And es pos (ev cf e)
  orr : ∀ {k n W X}, CxE E cf G k n W X → ∀ e es pos, ckOr G m n e es = true → SndB E W X .Or es pos (ev cf e)
  rg : ∀ {k n W X}, CxE E cf G k n W X → ∀ es py, ckRg G m n es py = true → ∃ e z x p pos, es = .cons e .nil ∧ py = .Call (.Name x p) [z] [] pos ∧ x = "range" ∧ n.bi G x = true ∧ notStar z = true ∧ PE X z (tE E W (ev cf e))
  s : ∀ {k n W X}, CxE E cf G k n W X → ∀ es xs, cks G m n es xs = true → PA X xs (tA E W (evs cf es)) ∧ xs.all notStar = true
  o : ∀ {k n W X}, CxE E cf G k n W X → ∀ e x, cko G m n e x = true → PO X x (tO E W (evo cf e))
  b : ∀ {k n W X}, CxE E cf G k n W X → ∀ e xs, ckb G m n e xs = true → PTs X xs (tB E W (evb cf e))
  i : ∀ {k n W X}, CxE E cf G k n W X → ∀ i tg py, cki G m n i tg py = true → PI X tg py (tI E W (evi cf i))
  t : ∀ {k n W X}, CxE E cf G k n W X → ∀ t py, ckt G m n t py = true → PG X py (tT E (tis t) (evt cf t))
  ts : ∀ {k n W X}, CxE E cf G k n W X → ∀ ts xs, ckts G m n ts xs = true → PGs X xs (tTs E (tiss ts) (evts cf ts)) ∧ xs.all notStar = true ∧ xs.length = ts.len
section
variable {E : Cfg} {cf : Cf} {G : Gx} {k : Nat} {n : Nm} {W : WX} {X : Cx} {m : Nat}
theorem foldSet {e : Expr} (h : notSet e = true) {env : PySem.Env} : ∀ x, foldedSetIterable e env x = pure x := by
  intro x
  cases e <;> first | rfl | simp [notSet] at h
theorem beq_f {x y : Str} (h : (!(x == y)) = true) : (x == y) = false := by simpa using h
theorem s_bi {b : BI} {x : Str} {e : Expr} {es : List Expr} {ms : Env → Sto → Res (List PV)} {p pos : Pos} (C : CxE E cf G k n W X) (hb : biP b = true) (hx : x = biN b) (h : n.bi G x = true) (h0 : (e :: es).all notStar = true) (ha : PA X (e :: es) (tA E W ms)) :
    PE X (.Call (.Name x p) (e :: es) [] pos) (tE E W fun ρ S => (ms ρ S).bind fun vs S1 => biV b S1 vs) := by
  obtain ⟨g, mg⟩ := C.bt h
  subst hx
  cases b <;> simp only [biP] at hb <;> try cases hb
  · exact s_callB (f := fun vs S => biV .len S vs) call_lenA g mg boot_len h0 ha (by decide) (by decide) fun α S σ vs xs H Q R rs kt => by rw [C.K]; exact len_rd R rs kt
  · exact s_callT (f := fun vs S => biV .int S vs) call_int1 g mg PyProof.Rows.boot_int h0 ha (by decide) (by decide) fun α S σ vs xs H Q R rs kt => int_rd R rs kt
  · exact s_callT (f := fun vs S => biV .list S vs) (call_listA C.calm) g mg PyProof.Rows.boot_list h0 ha (by decide) (by decide) fun α S σ vs xs H Q R rs kt => by rw [C.K]; exact list_rd R rs kt
  · exact s_callT (f := fun vs S => biV .tuple S vs) call_tupleF g mg PyProof.Rows.boot_tuple h0 ha (by decide) (by decide) fun α S σ vs xs H Q R rs kt => by rw [C.K]; exact tuple_rd R rs kt
  · exact s_callB (f := fun vs S => biV .sorted S vs) (cr_sorted.or (call_sortedDI C.calm)) g mg PyProof.Rows.boot_sorted h0 ha (by decide) (by decide) fun α S σ vs xs H Q R rs kt => by rw [C.K]; exact sort_rd R rs kt
  · exact s_callB (f := fun vs S => biV .min2 S vs) (call_min2 C.calm) g mg PyProof.Rows.boot_min h0 ha (by decide) (by decide) fun α S σ vs xs H Q R rs kt => min2_rd R rs kt
  · exact s_callB (f := fun vs S => biV .sum S vs) (cr_sum C.calm) g mg PyProof.Rows.boot_sum h0 ha (by decide) (by decide) fun α S σ vs xs H Q R rs kt => by rw [C.K]; exact sum_rd R rs kt
  · exact s_callT (f := fun vs S => biV .str S vs) call_str_int g mg PyProof.Rows.boot_str h0 ha (by decide) (by decide) fun α S σ vs xs H Q R rs kt => str_rd R rs kt
theorem cst_ok {v : PV} {c : Const} {j : Nat} {pos : Pos} (h : cstC v c = true) : PE X (.Constant c j pos) (tE E W fun _ S => .ok v S) := by
  cases v <;> simp only [cstC] at h <;> try cases h
  · split at h
    · exact s_non
    · cases h
  · split at h
    · rw [of_decide_eq_true h]; exact s_bl
    · cases h
  · split at h
    · rw [of_decide_eq_true h]; exact s_int
    · cases h
  · split at h
    · rw [of_decide_eq_true h]; exact s_str
    · cases h
theorem vis_ok (C : CxE E cf G k n W X) {i : Nat} {x : Str} {pos : Pos} (h : n.vis i x = true) : PE X (.Name x pos) (tE E W fun ρ S => match ρ[i]? with | some (some v) => .ok v S | _ => .bad) := by
  simp only [Nm.vis, Bool.and_eq_true] at h
  obtain ⟨⟨⟨h1, h2⟩, h3⟩, h4⟩ := h
  refine s_var (by rw [C.N]; exact of_decide_eq_true h1) ?_ (beq_f h3) (beq_f h4)
  show Vis X.env.scope x
  rw [C.sc]
  split at h2
  · exact .inl (by assumption)
  · exact .inr (.inl (by assumption))
  · exact .inr (.inr (by assumption))
  · cases h2
theorem CxE.gb (C : CxE E cf G k n W X) {scope : Scope} {own : List (Str × Nat)} (h : GBlk n.N n.sc scope own) : GBlk X.N X.env.scope scope own := by rw [C.N, C.sc]; exact h
theorem step_e (I : AllS E cf G m) (C : CxE E cf G k n W X) (e : CE) (py : Expr) (h : ck G (m + 1) n e py = true) : Snd E W X py (ev cf e) := by
  have go : ∀ {f : Env → Sto → Res PV}, ev cf e = f → plainT py = true → PE X py (tE E W f) → Snd E W X py (ev cf e) := fun e1 e2 e3 => by rw [e1]; exact Snd.of C.K e3 e2
  cases e with
  | cst v =>
    simp only [ck] at h
    split at h
    · exact go (by rw [ev]) rfl (cst_ok h)
    · cases h
  | var i =>
    simp only [ck] at h
    split at h
    · exact go (by rw [ev] <;> rfl) rfl (vis_ok C h)
    · cases h
  | pow i j =>
    simp only [ck] at h
    split at h
    · simp only [Bool.and_eq_true, decide_eq_true_eq] at h
      obtain ⟨rfl, h⟩ := h
      split at h
      · split at h
        · simp only [Bool.and_eq_true, decide_eq_true_eq] at h
          obtain ⟨⟨⟨rfl, rfl⟩, h1⟩, h2⟩ := h
          exact go (by rw [ev]) rfl (s_pow h1 h2)
        · cases h
      · cases h
    · cases h
  | bop o a b =>
    simp only [ck] at h
    split at h
    · simp only [Bool.and_eq_true, decide_eq_true_eq] at h
      obtain ⟨⟨rfl, h1⟩, h2⟩ := h
      exact go (by rw [ev]) rfl (s_bop (I.e C _ _ h1).pe (I.e C _ _ h2).pe C.K)
    · cases h
  | cmp o a b =>
    simp only [ck] at h
    split at h
    · simp only [Bool.and_eq_true, decide_eq_true_eq, Bool.not_eq_true'] at h
      obtain ⟨⟨⟨rfl, h0⟩, h1⟩, h2⟩ := h
      rw [ev]
      exact s_cmp C.K C.wo C.hu (I.e C _ _ h1).pe (I.e C _ _ h2).pe h0
    · cases h
  | cmp2 o o' a b c =>
    simp only [ck] at h
    split at h
    · simp only [Bool.and_eq_true, decide_eq_true_eq, Bool.not_eq_true'] at h
      obtain ⟨⟨⟨⟨⟨rfl, rfl⟩, h0⟩, h1⟩, h2⟩, h3⟩ := h
      rw [ev]
      exact s_cmp2 C.K C.wo C.hu (I.e C _ _ h1).pe (I.e C _ _ h2).pe (I.e C _ _ h3).pe h0
    · cases h
  | and a b =>
    simp only [ck] at h
    split at h
    · simp only [Bool.and_eq_true, decide_eq_true_eq] at h
      obtain ⟨rfl, h⟩ := h
      exact (I.an C _ _ _ h).snd
    · cases h
  | or a b =>
    simp only [ck] at h
    split at h
    · simp only [Bool.and_eq_true, decide_eq_true_eq] at h
      obtain ⟨rfl, h⟩ := h
      exact (I.orr C _ _ _ h).snd
    · cases h
  | not a =>
    simp only [ck] at h
    split at h
    · simp only [Bool.and_eq_true, decide_eq_true_eq] at h
      obtain ⟨rfl, h⟩ := h
      rw [ev]
      exact s_not C.K (I.e C _ _ h)
    · cases h
  | neg a =>
    simp only [ck] at h
    split at h
    · simp only [Bool.and_eq_true, decide_eq_true_eq] at h
      obtain ⟨rfl, h⟩ := h
      exact go (by rw [ev] <;> rfl) rfl (s_neg (I.e C _ _ h).pe)
    · cases h
  | tup es =>
    simp only [ck] at h
    split at h
    · exact go (by rw [ev]) rfl (s_tup (I.s C _ _ h).1)
    · cases h
  | lst es =>
    simp only [ck] at h
    split at h
    · exact go (by rw [ev]) rfl (s_lst (I.s C _ _ h).1)
    · cases h
  | ix a i =>
    simp only [ck] at h
    split at h
    · simp only [Bool.and_eq_true] at h
      obtain ⟨⟨h0, h1⟩, h2⟩ := h
      exact go (by rw [ev]) rfl (s_ix C.K C.wo C.hu h0 (I.e C _ _ h1).pe (I.e C _ _ h2).pe)
    · cases h
  | sl a lo hi =>
    simp only [ck] at h
    split at h
    · split at h
      · rename_i l hh st p
        simp only [Bool.and_eq_true, Option.isNone_iff_eq_none] at h
        obtain ⟨⟨⟨rfl, h1⟩, h2⟩, h3⟩ := h
        exact go (by rw [ev]) rfl (s_sl C.K (I.e C _ _ h1).pe (I.o C _ _ h2) (I.o C _ _ h3))
      · cases h
    · cases h
  | rev a =>
    simp only [ck] at h
    split at h
    · split at h
      · rename_i l hh st p
        simp only [Bool.and_eq_true, Option.isNone_iff_eq_none] at h
        obtain ⟨⟨⟨rfl, rfl⟩, h1⟩, h2⟩ := h
        split at h1
        · simp only [decide_eq_true_eq] at h1
          subst h1
          exact go (by rw [ev]) rfl (s_rev C.K (I.e C _ _ h2).pe)
        · cases h1
      · cases h
    · cases h
  | call f es =>
    simp only [ck] at h
    split at h
    · rename_i g xs kw pos
      simp only [Bool.and_eq_true, List.isEmpty_iff] at h
      obtain ⟨rfl, h⟩ := h
      split at h
      · simp only [Bool.and_eq_true, decide_eq_true_eq] at h
        obtain ⟨⟨⟨h1, h2⟩, h3⟩, h4⟩ := h
        obtain ⟨a, ma, F⟩ := C.fns _ _ h2
        obtain ⟨pa, ns⟩ := I.s C _ _ h4
        cases xs with
        | nil =>
          cases m with
          | zero => simp [cks] at h4
          | succ m =>
            cases es with
            | nil => exact go (f := fun ρ S => cf.fn f [] S) (by funext ρ S; rw [ev, evs]; rfl) rfl (s_call0 F (C.room.mono (Nat.le_add_right _ _)) (C.gl h1) ma C.tk (beq_f h3))
            | cons e es => simp [cks] at h4
        | cons y ys => exact go (by rw [ev]) rfl (s_call F (C.room.mono (Nat.le_add_right _ _)) (C.gl h1) ma C.tk ns pa (beq_f h3))
      · cases h
    · cases h
  | bi b es =>
    simp only [ck] at h
    by_cases hb : rgP b = true
    · rw [if_pos hb] at h
      split at h
      · rename_i g xs kw pos
        simp only [Bool.and_eq_true, List.isEmpty_iff] at h
        obtain ⟨⟨rfl, h0⟩, h⟩ := h
        split at h0
        · simp only [Bool.and_eq_true, decide_eq_true_eq] at h0
          obtain ⟨hx, h0⟩ := h0
          obtain ⟨hg, hm⟩ := C.bt h0
          split at h
          · obtain ⟨e, z, y, p2, pos2, rfl, rfl, rfl, hy, hz, pz⟩ := I.rg C _ _ h
            obtain ⟨hg2, hm2⟩ := C.bt hy
            have e1 : ∀ f : List PV → Sto → Res PV, ∀ (g : PV → Sto → Res PV), (∀ v S, f [v] S = g v S) → (fun (ρ : Env) S => (evs cf (.cons e .nil) ρ S).bind fun vs S1 => f vs S1) = fun ρ S => (ev cf e ρ S).bind fun v S1 => g v S1 := fun f g hfg => by
              funext ρ S
              rw [evs, evs]
              dsimp only
              cases ev cf e ρ S with
              | ok v S1 => exact hfg v S1
              | exc c S1 => rfl
              | bad => rfl
            cases b <;> simp only [rgP] at hb <;> first | (cases hb; done) | skip
            · subst hx
              refine go (f := fun ρ S => (ev cf e ρ S).bind fun v S1 => listR1B S1 v) ?_ rfl (s_listR1 C.calm hg hm hg2 hm2 hz pz)
              rw [ev]
              exact e1 (fun vs S1 => biV .listR1 S1 vs) (fun v S1 => listR1B S1 v) fun v S => rfl
            · subst hx
              refine go (f := fun ρ S => (ev cf e ρ S).bind fun v S1 => tupR1B S1 v) ?_ rfl (s_tupR1 C.calm hg hm hg2 hm2 hz pz)
              rw [ev]
              exact e1 (fun vs S1 => biV .tupR1 S1 vs) (fun v S1 => tupR1B S1 v) fun v S => rfl
          · cases h
        · cases h0
      · cases h
    · rw [if_neg hb] at h
      split at h
      · rename_i g xs kw pos
        simp only [Bool.and_eq_true, List.isEmpty_iff] at h
        obtain ⟨rfl, h⟩ := h
        split at h
        · simp only [Bool.and_eq_true, decide_eq_true_eq] at h
          obtain ⟨⟨⟨⟨h1, h2⟩, h3⟩, h4⟩, h5⟩ := h
          obtain ⟨pa, ns⟩ := I.s C _ _ h5
          cases xs with
          | nil => simp at h4
          | cons y ys => exact go (by rw [ev]) rfl (s_bi C h1 h2 h3 ns pa)
        · cases h
      · cases h
  | isi a ks =>
    simp only [ck] at h
    split at h
    · simp only [Bool.and_eq_true, List.isEmpty_iff] at h
      obtain ⟨⟨rfl, h0⟩, h⟩ := h
      split at h0
      · simp only [Bool.and_eq_true, decide_eq_true_eq] at h0
        obtain ⟨rfl, h0⟩ := h0
        obtain ⟨hg, hm⟩ := C.bt h0
        split at h
        · simp only [Bool.and_eq_true] at h
          obtain ⟨⟨h1, h2⟩, h3⟩ := h
          split at h3
          · obtain ⟨kk, kc⟩ := C.kn h3
            exact go (by rw [ev] <;> rfl) rfl (s_isi C.K hg hm C.cls kc h1 (I.e C _ _ h2).pe kk)
          · split at h3
            · simp only [Bool.and_eq_true, decide_eq_true_eq] at h3
              obtain ⟨⟨⟨rfl, rfl⟩, h4⟩, h5⟩ := h3
              exact go (by rw [ev] <;> rfl) rfl (s_isi2 C.K hg hm C.cls h1 (I.e C _ _ h2).pe (C.kn h4).1 (C.kn h5).1)
            · cases h3
          · cases h3
        · cases h
      · cases h0
    · cases h
  | lm kk o es =>
    simp only [ck] at h
    split at h
    · rename_i g xs kw pos
      simp only [Bool.and_eq_true, List.isEmpty_iff] at h
      obtain ⟨rfl, h⟩ := h
      split at h
      · simp only [Bool.and_eq_true, decide_eq_true_eq] at h
        obtain ⟨⟨⟨⟨⟨h1, h2⟩, h3⟩, h4⟩, h5⟩, h6⟩ := h
        obtain ⟨pa, ns⟩ := I.s C _ _ h5
        split at h6
        · simp only [Bool.and_eq_true, decide_eq_true_eq] at h6
          obtain ⟨rfl, h6⟩ := h6
          cases xs with
          | nil => simp at h6
          | cons y ys =>
            exact go (by rw [ev]) rfl (s_lm (.inl rfl) PySem.F.slot_list_append PySem.F.type_list_append mt_append C.K (by simp only [Bool.and_eq_true, decide_eq_true_eq]; exact ⟨ns, h3⟩) h1 h2 (I.e C _ _ h4).pe pa fun α S v x vs xs σ H Q R rv rs kt => append_rd R rv rs kt)
        · simp only [Bool.and_eq_true, decide_eq_true_eq, List.isEmpty_iff] at h6
          obtain ⟨rfl, rfl⟩ := h6
          cases m with
          | zero => simp [cks] at h5
          | succ m =>
            cases es with
            | nil => exact go (by rw [ev, evs]) rfl (s_lm0 (.inr rfl) PySem.F.slot_list_pop PySem.F.type_list_pop mt_pop C.K h1 h2 (I.e C _ _ h4).pe fun α S v x vs xs σ H Q R rv rs kt => pop_rd R rv rs kt)
            | cons e es => simp [cks] at h5
        · simp only [Bool.and_eq_true, decide_eq_true_eq] at h6
          obtain ⟨rfl, h6⟩ := h6
          cases xs with
          | nil => simp at h6
          | cons y ys => exact go (by rw [ev]) rfl (s_tix C.K (by simp only [Bool.and_eq_true, decide_eq_true_eq]; exact ⟨ns, h3⟩) h1 h2 (I.e C _ _ h4).pe pa)
        · cases h6
      · cases h
    · cases h
  | comp elt own tg it cond =>
    simp only [ck] at h
    split at h
    · split at h
      · simp only [Bool.and_eq_true, decide_eq_true_eq, List.all_eq_true] at h
        obtain ⟨⟨⟨⟨⟨⟨⟨rfl, h1⟩, h2⟩, h3⟩, h4⟩, h5⟩, h6⟩, h7⟩ := h
        have he : (own.map fun i => (n.N.getD i "", i)).map (·.2) = own := by rw [List.map_map]; exact List.map_id own
        refine go (by rw [ev]) rfl (PE.imp (pe_lc (own := own.map fun i => (n.N.getD i "", i)) C.calm (C.N ▸ C.nd) (I.i C it _ _ h3) (blkOk_by (by rw [C.N, C.sc]; exact h2)) (fun s H D cl fp => I.t (C.blk s H D cl fp _) tg _ h5) (fun s H D cl fp => I.b (C.blk s H D cl fp _) cond _ h6) (fun s H D cl fp => (I.e (C.blk s H D cl fp _) elt _ h7).pe) (foldSet h1)) fun σ H Q q => ?_)
        rw [he]
        exact lc_is (fun i hi => by simpa using h4 i hi) q
      · cases h
    · cases h
  | gen kk elt own tg it =>
    simp only [ck] at h
    split at h
    · rename_i gx xs kw pos
      simp only [Bool.and_eq_true, List.isEmpty_iff, decide_eq_true_eq] at h
      obtain ⟨⟨⟨⟨rfl, hgen⟩, hlv⟩, h0⟩, h⟩ := h
      split at h0
      · simp only [Bool.and_eq_true, decide_eq_true_eq] at h0
        obtain ⟨hx, h0⟩ := h0
        obtain ⟨hg, hm⟩ := C.bt h0
        split at h
        · split at h
          · simp only [Bool.and_eq_true, decide_eq_true_eq, List.all_eq_true, List.isEmpty_iff] at h
            obtain ⟨⟨⟨⟨⟨⟨⟨rfl, rfl⟩, h1⟩, h2⟩, h3⟩, h4⟩, h5⟩, h6⟩ := h
            have he : (own.map fun i => (n.N.getD i "", i)).map (·.2) = own := by rw [List.map_map]; exact List.map_id own
            obtain ⟨cc, P, hcode, TB, hP⟩ := C.tb hgen
            have gb := gblk_by h2
            have gb' := C.gb gb
            have rm : Room ((k + (n.lv - 1)) + 1) X.A := by have := C.room; rw [show k + (n.lv - 1) + 1 = k + n.lv by omega]; exact this
            cases kk with
            | true =>
              simp only [if_true] at hx
              subst hx
              refine go (by rw [ev]) rfl (PE.imp (pe_allG (own := own.map fun i => (n.N.getD i "", i)) rm C.calm hg hm (C.N ▸ C.nd) TB hcode gb' (I.i C it _ _ h3) (fun A' s H cenv fp pn hr hs => I.t (C.gn hlv hr hs gb.nocell) tg _ h5) (fun A' s H cenv fp pn hr hs => (I.e (C.gn hlv hr hs gb.nocell) elt _ h6).pe) (genf h1)) fun σ H Q q => ?_)
              rw [he]
              exact gn_is hP (fun i hi => by simpa using h4 i hi) q
            | false =>
              simp only [Bool.false_eq_true, if_false] at hx
              subst hx
              refine go (by rw [ev]) rfl (PE.imp (pe_anyG (own := own.map fun i => (n.N.getD i "", i)) rm C.calm hg hm (C.N ▸ C.nd) TB hcode gb' (I.i C it _ _ h3) (fun A' s H cenv fp pn hr hs => I.t (C.gn hlv hr hs gb.nocell) tg _ h5) (fun A' s H cenv fp pn hr hs => (I.e (C.gn hlv hr hs gb.nocell) elt _ h6).pe) (genf h1)) fun σ H Q q => ?_)
              rw [he]
              exact gn_is hP (fun i hi => by simpa using h4 i hi) q
          · cases h
        · cases h
      · cases h0
    · cases h
  | fld a f =>
    simp only [ck] at h
    split at h
    · simp only [Bool.and_eq_true, decide_eq_true_eq] at h
      obtain ⟨⟨h1, h2⟩, h3⟩ := h
      exact go (by rw [ev]) rfl (s_fld C.K (by rw [← C.fl]; exact h2) h1 (I.e C _ _ h3).pe)
    · cases h
  | make c f es dv =>
    simp only [ck] at h
    split at h
    · rename_i g xs kw pos
      simp only [Bool.and_eq_true, List.isEmpty_iff] at h
      obtain ⟨rfl, h⟩ := h
      split at h
      · simp only [Bool.and_eq_true, decide_eq_true_eq, List.isEmpty_iff] at h
        obtain ⟨⟨⟨⟨⟨⟨⟨h1, h2⟩, h3⟩, h4⟩, hd⟩, h5⟩, h6⟩, h7⟩ := h
        obtain ⟨hl, fa, M, F⟩ := C.ini _ _ h3
        obtain ⟨mg, _⟩ := C.clsN _ _ h2
        obtain ⟨pa, ns⟩ := I.s C _ _ h7
        cases xs with
        | nil => simp at h5
        | cons y ys =>
          rcases (Bool.or_eq_true _ _).mp hd with hd | hd
          · rw [List.isEmpty_iff] at hd
            subst hd
            exact go (by rw [ev]) rfl (s_make C.K (by rw [C.K]; exact M) (C.cls c hl) F (C.room.mono (by omega)) (C.gl h1) mg C.tk ns pa (beq_f h4))
          · rw [Bool.and_eq_true] at hd
            obtain ⟨hd1, hd2⟩ := hd
            have := isDv_eq hd1
            subst this
            obtain ⟨fa', M', F'⟩ := C.dfl _ _ h3 (List.contains_iff_mem.mp hd2)
            exact go (by rw [ev]) rfl (s_makeD C.K (by rw [C.K]; exact M') (C.cls c hl) F' (C.room.mono (by omega)) (C.gl h1) mg C.tk ns pa (beq_f h4))
      · cases h
    · cases h
  | dcomp nk kx vx own tg it =>
    simp only [ck] at h
    split at h
    · split at h
      · simp only [Bool.and_eq_true, decide_eq_true_eq, List.all_eq_true, List.isEmpty_iff] at h
        obtain ⟨⟨⟨⟨⟨⟨⟨⟨rfl, rfl⟩, h1⟩, h2⟩, h3⟩, h4⟩, h5⟩, h6⟩, h7⟩ := h
        have he : (own.map fun i => (n.N.getD i "", i)).map (·.2) = own := by rw [List.map_map]; exact List.map_id own
        refine go (by rw [ev]) rfl (PE.imp (pe_dcn (nk := nk) (own := own.map fun i => (n.N.getD i "", i)) C.hu C.calm (C.N ▸ C.nd) (I.i C it _ _ h3) (blkOk_by (by rw [C.N, C.sc]; exact h2)) (fun s H D cl fp => I.t (C.blk s H D cl fp _) tg _ h5) (fun s H D cl fp => (I.e (C.blk s H D cl fp _) kx _ h6).pe) (fun s H D cl fp => (I.e (C.blk s H D cl fp _) vx _ h7).pe) (foldSet h1)) fun σ H Q q => ?_)
        rw [he, C.K, C.wo]
        exact dc_is (fun i hi => by simpa using h4 i hi) q
      · cases h
    · cases h
  | nev =>
    simp only [ck] at h
    exact go (f := fun _ _ => .bad) (by rw [ev]) h ⟨fun pins s σ H Q I' ⟨α, ρ, S, R, en, kt⟩ => kt.elim⟩
  | glo x v =>
    simp only [ck] at h
    split at h
    · simp only [Bool.and_eq_true, decide_eq_true_eq] at h
      obtain ⟨⟨⟨rfl, h1⟩, h2⟩, h3⟩ := h
      split at h3
      · rename_i w hw
        have hw' := PV.eq_of_beq _ _ h3
        subst hw'
        obtain ⟨u, m1, ⟨i, rfl, rv⟩ | ⟨z, rfl, rv⟩⟩ := C.cst _ _ hw
        · exact go (by rw [ev]) rfl (PE.imp (pe_glob (C.gl h1) m1 rv (beq_f h2)) fun σ H Q ⟨α, ρ, S, R, en, kt⟩ => is_int kt R)
        · exact go (by rw [ev]) rfl (PE.imp (pe_glob (C.gl h1) m1 rv (beq_f h2)) fun σ H Q ⟨α, ρ, S, R, en, kt⟩ => is_str kt R)
      · cases h3
    · cases h
  | fz a =>
    simp only [ck] at h
    simp only [Bool.and_eq_true] at h
    obtain ⟨h1, h⟩ := h
    exact go (by rw [ev]) h1 (PE.imp (I.e C _ _ h).pe fun σ H Q q => fz_is q)
  | _ => simp [ck] at h
end
end PM
end
section
namespace PM
open PySem L2 PySem.Spec PyProof.Rows
section
variable {E : Cfg} {cf : Cf} {G : Gx} {k : Nat} {n : Nm} {W : WX} {X : Cx} {m : Nat}
theorem step_an (I : AllS E cf G m) (C : CxE E cf G k n W X) (e : CE) (es : List Expr) (pos : Pos) (h : ckAnd G (m + 1) n e es = true) : SndB E W X .And es pos (ev cf e) := by
  simp only [ckAnd] at h
  split at h
  · cases h
  · rename_i x r
    cases r with
    | nil => exact SndB.one (I.e C _ _ (by simpa using h))
    | cons y r =>
      simp only [List.isEmpty_cons, Bool.false_eq_true, if_false] at h
      split at h
      · simp only [Bool.and_eq_true] at h
        have q := SndB.and (I.e C _ _ h.1) (I.an C _ _ pos h.2)
        rw [ev]; exact q
      · cases h
theorem step_or (I : AllS E cf G m) (C : CxE E cf G k n W X) (e : CE) (es : List Expr) (pos : Pos) (h : ckOr G (m + 1) n e es = true) : SndB E W X .Or es pos (ev cf e) := by
  simp only [ckOr] at h
  split at h
  · cases h
  · rename_i x r
    cases r with
    | nil => exact SndB.one (I.e C _ _ (by simpa using h))
    | cons y r =>
      simp only [List.isEmpty_cons, Bool.false_eq_true, if_false] at h
      split at h
      · simp only [Bool.and_eq_true] at h
        have q := SndB.or (I.e C _ _ h.1) (I.orr C _ _ pos h.2)
        rw [ev]; exact q
      · cases h
theorem step_rg (I : AllS E cf G m) (C : CxE E cf G k n W X) (es : CEs) (py : Expr) (h : ckRg G (m + 1) n es py = true) : ∃ e z x p pos, es = .cons e .nil ∧ py = .Call (.Name x p) [z] [] pos ∧ x = "range" ∧ n.bi G x = true ∧ notStar z = true ∧ PE X z (tE E W (ev cf e)) := by
  simp only [ckRg] at h
  split at h
  · split at h
    · split at h
      · rename_i g xs kw pos
        simp only [Bool.and_eq_true, List.isEmpty_iff] at h
        obtain ⟨⟨rfl, h0⟩, h⟩ := h
        split at h0
        · simp only [Bool.and_eq_true, decide_eq_true_eq] at h0
          split at h
          · simp only [Bool.and_eq_true] at h
            exact ⟨_, _, _, _, _, rfl, rfl, h0.1, h0.2, h.1, (I.e C _ _ h.2).pe⟩
          · cases h
        · cases h0
      · cases h
    · cases h
  · cases h
theorem step_s (I : AllS E cf G m) (C : CxE E cf G k n W X) (es : CEs) (xs : List Expr) (h : cks G (m + 1) n es xs = true) : PA X xs (tA E W (evs cf es)) ∧ xs.all notStar = true := by
  simp only [cks] at h
  split at h
  · simp only [List.isEmpty_iff] at h
    subst h
    rw [evs]
    exact ⟨a_nil, rfl⟩
  · split at h
    · simp only [Bool.and_eq_true] at h
      obtain ⟨⟨h1, h2⟩, h3⟩ := h
      obtain ⟨p, q⟩ := I.s C _ _ h3
      rw [evs]
      exact ⟨a_cons h1 (I.e C _ _ h2).pe p, by simp [h1, q]⟩
    · cases h
theorem step_o (I : AllS E cf G m) (C : CxE E cf G k n W X) (e : CEo) (x : Option Expr) (h : cko G (m + 1) n e x = true) : PO X x (tO E W (evo cf e)) := by
  simp only [cko] at h
  split at h
  · simp only [Option.isNone_iff_eq_none] at h
    subst h
    rw [evo]
    exact o_none
  · split at h
    · rw [evo]
      exact o_some (I.e C _ _ h).pe
    · cases h
theorem step_b (I : AllS E cf G m) (C : CxE E cf G k n W X) (e : CEo) (xs : List Expr) (h : ckb G (m + 1) n e xs = true) : PTs X xs (tB E W (evb cf e)) := by
  simp only [ckb] at h
  split at h
  · simp only [List.isEmpty_iff] at h
    subst h
    rw [evb]
    exact ts_none
  · split at h
    · rw [evb]
      exact ts_some (I.e C _ _ h)
    · cases h
theorem step_i (I : AllS E cf G m) (C : CxE E cf G k n W X) (i : CI) (tg py : Expr) (h : cki G (m + 1) n i tg py = true) : PI X tg py (tI E W (evi cf i)) := by
  cases i with
  | seq e =>
    simp only [cki] at h
    rw [evi]
    exact s_seqI C.K (I.e C _ _ h).pe
  | rng1 e =>
    simp only [cki] at h
    split at h
    · rename_i g xs kw pos
      simp only [Bool.and_eq_true, List.isEmpty_iff] at h
      obtain ⟨⟨rfl, h0⟩, h⟩ := h
      split at h0
      · simp only [Bool.and_eq_true, decide_eq_true_eq] at h0
        obtain ⟨rfl, h0⟩ := h0
        obtain ⟨hg, hm⟩ := C.bt h0
        split at h
        · simp only [Bool.and_eq_true] at h
          rw [evi]
          exact s_rng1 hg hm h.1 (I.e C _ _ h.2).pe
        · cases h
      · cases h0
    · cases h
  | rng2 e e' =>
    simp only [cki] at h
    split at h
    · rename_i g xs kw pos
      simp only [Bool.and_eq_true, List.isEmpty_iff] at h
      obtain ⟨⟨rfl, h0⟩, h⟩ := h
      split at h0
      · simp only [Bool.and_eq_true, decide_eq_true_eq] at h0
        obtain ⟨rfl, h0⟩ := h0
        obtain ⟨hg, hm⟩ := C.bt h0
        split at h
        · simp only [Bool.and_eq_true] at h
          obtain ⟨⟨⟨h1, h2⟩, h3⟩, h4⟩ := h
          rw [evi]
          exact s_rng2 hg hm h1 h2 (I.e C _ _ h3).pe (I.e C _ _ h4).pe
        · cases h
      · cases h0
    · cases h
  | zip e e' =>
    simp only [cki, Bool.and_eq_true] at h
    obtain ⟨ht, h⟩ := h
    split at ht
    · split at h
      · rename_i g xs kw pos
        simp only [Bool.and_eq_true, List.isEmpty_iff] at h
        obtain ⟨⟨rfl, h0⟩, h⟩ := h
        split at h0
        · simp only [Bool.and_eq_true, decide_eq_true_eq] at h0
          obtain ⟨rfl, h0⟩ := h0
          obtain ⟨hg, hm⟩ := C.bt h0
          split at h
          · simp only [Bool.and_eq_true] at h
            obtain ⟨⟨⟨h1, h2⟩, h3⟩, h4⟩ := h
            rw [evi]
            exact s_zip C.K hg hm h1 h2 (I.e C _ _ h3).pe (I.e C _ _ h4).pe
          · cases h
        · cases h0
      · cases h
    · cases ht
  | enum e =>
    simp only [cki, Bool.and_eq_true] at h
    obtain ⟨ht, h⟩ := h
    split at ht
    · split at h
      · rename_i g xs kw pos
        simp only [Bool.and_eq_true, List.isEmpty_iff] at h
        obtain ⟨⟨rfl, h0⟩, h⟩ := h
        split at h0
        · simp only [Bool.and_eq_true, decide_eq_true_eq] at h0
          obtain ⟨rfl, h0⟩ := h0
          obtain ⟨hg, hm⟩ := C.bt h0
          split at h
          · simp only [Bool.and_eq_true] at h
            rw [evi]
            exact s_enum C.K hg hm h.1 (I.e C _ _ h.2).pe
          · cases h
        · cases h0
      · cases h
    · cases ht
theorem evts_len : ∀ (ts : CTs) (vs : List PV) (ρ : Env) (S : Sto) (r : Env × Sto), evts cf ts vs ρ S = some r → vs.length = ts.len
  | .nil, vs, ρ, S, r, h => by
    rw [evts] at h
    cases vs with
    | nil => rfl
    | cons v vs => cases h
  | .cons t ts, vs, ρ, S, r, h => by
    rw [evts] at h
    cases vs with
    | nil => cases h
    | cons v vs =>
      dsimp only at h
      split at h
      · simp only [List.length_cons, CTs.len]
        rw [evts_len ts vs _ _ r h]
      · cases h
theorem step_t (I : AllS E cf G m) (C : CxE E cf G k n W X) (t : CT) (py : Expr) (h : ckt G (m + 1) n t py = true) : PG X py (tT E (tis t) (evt cf t)) := by
  cases t with
  | var i =>
    simp only [ckt] at h
    split at h
    · obtain ⟨h1, h2, h3⟩ := C.loc h
      rw [evt, tis]
      exact g_name (C.N ▸ C.nd) h1 h2 h3
    · cases h
  | tup ts =>
    simp only [ckt] at h
    split at h
    · obtain ⟨p, q, l⟩ := I.ts C _ _ h
      rw [evt, tis]
      exact g_tup C.K C.calm q p fun vs ρ S r e => by rw [evts_len ts vs ρ S r e, l]
    · cases h
  | fld o f =>
    simp only [ckt] at h
    split at h
    · simp only [Bool.and_eq_true, decide_eq_true_eq] at h
      rw [evt, tis]
      exact g_fld C.K (by rw [← C.fl]; exact h.1) (I.e C _ _ h.2).pe
    · cases h
  | _ => simp [ckt] at h
theorem step_ts (I : AllS E cf G m) (C : CxE E cf G k n W X) (ts : CTs) (xs : List Expr) (h : ckts G (m + 1) n ts xs = true) : PGs X xs (tTs E (tiss ts) (evts cf ts)) ∧ xs.all notStar = true ∧ xs.length = ts.len := by
  simp only [ckts] at h
  split at h
  · simp only [List.isEmpty_iff] at h
    subst h
    rw [evts, tiss]
    exact ⟨g_nil, rfl, rfl⟩
  · split at h
    · simp only [Bool.and_eq_true] at h
      obtain ⟨⟨h1, h2⟩, h3⟩ := h
      obtain ⟨p, q, l⟩ := I.ts C _ _ h3
      rw [evts, tiss]
      exact ⟨g_cons h1 (I.t C _ _ h2) p, by simp [h1, q], by simp [l, CTs.len]⟩
    · cases h
theorem allS : ∀ m, AllS E cf G m
  | 0 => ⟨fun _ _ _ h => by simp [ck] at h, fun _ _ _ _ h => by simp [ckAnd] at h, fun _ _ _ _ h => by simp [ckOr] at h, fun _ _ _ h => by simp [ckRg] at h, fun _ _ _ h => by simp [cks] at h, fun _ _ _ h => by simp [cko] at h, fun _ _ _ h => by simp [ckb] at h, fun _ _ _ _ h => by simp [cki] at h, fun _ _ _ h => by simp [ckt] at h, fun _ _ _ h => by simp [ckts] at h⟩
  | m + 1 => by
    have I := allS m
    exact ⟨fun C => step_e I C, fun C => step_an I C, fun C => step_or I C, fun C => step_rg I C, fun C => step_s I C, fun C => step_o I C, fun C => step_b I C, fun C => step_i I C, fun C => step_t I C, fun C => step_ts I C⟩

def swN (n : Nm) (y : Str) (py : Pos) (e : Expr) : Bool := match e with
  | .ListComp _ _ sc pos => decide (n.sc.names.lookup y = some .local) && (py.line == pos.line) && !(sc.names.any fun p => p.1 == y && (p.2 == .local || p.2 == .cell))
  | .DictComp _ _ _ sc pos => decide (n.sc.names.lookup y = some .local) && (py.line == pos.line) && !(sc.names.any fun p => p.1 == y && (p.2 == .local || p.2 == .cell))
  | _ => false
def notComp : Expr → Bool
  | .ListComp _ _ _ _ => false
  | .SetComp _ _ _ _ => false
  | .DictComp _ _ _ _ _ => false
  | _ => true
def notTupE : Expr → Bool
  | .Tuple _ _ _ => false
  | _ => true
def nmL (n : Nm) (line : Nat) (e : Expr) : Option Str := match e with
  | .Name id pos => if n.sc.names.lookup id == some .local && pos.line == line then some id else none
  | _ => none
def noSw (n : Nm) (tg v : Expr) : Bool := match tg, v with
  | .Tuple ts _ _, .Tuple _ _ _ => decide ((ts.filterMap (nmL n ((ts.head?.map (·.pos.line)).getD 0))).length ≠ ts.length)
  | _, _ => false
def plainTg (t : Expr) : Bool := match t with
  | .Name _ _ => true
  | .Tuple _ _ _ => true
  | .Attribute _ _ _ => true
  | .Subscript _ _ _ => true
  | _ => false
def parC (n : Nm) (is : List Nat) (ts vs : List Expr) : Bool := match is, ts, vs with
  | [i, j], [.Name x px, .Name y py], [a, b] => decide (i ≠ j) && decide (n.N[i]? = some x) && decide (n.N[j]? = some y) && decide (n.sc.names.lookup x = some .local) && decide (n.sc.names.lookup y = some .local) && (py.line == px.line) && notStar a && notStar b && decide (x ≠ y)
      && !([a, b].all (foldedForSure 8)) && !([a, b].all (constantsAlone 8))
  | _, _, _ => false
def augO : BOp → Option (Operator × (Int → Int → Int))
  | .add => some (.Add, fun i j => i + j)
  | .sub => some (.Sub, fun i j => i - j)
  | _ => none
mutual
def ckS (G : Gx) : Nat → Nm → CSs → List Stmt → Bool
  | 0, _, _, _ => false
  | m + 1, n, s, sts => match s with
    | .nil => sts.isEmpty
    | .nev => true
    | .pass r => (match sts with | .Pass _ :: rest => ckS G m n r rest | _ => false)
    | .asg t e r => (match sts with
      | .Assign [tg] v pos :: rest => ckt G m n t tg && ckS G m n r rest && ckA G m n tg e v
      | _ => false)
    | .par is es r => (match sts with
      | .Assign [.Tuple ts _ _] (.Tuple vs _ _) _ :: rest => parC n is ts vs && cks G m n es vs && ckS G m n r rest
      | _ => false)
    | .aug i o e r => (match sts with
      | .AugAssign (.Name x _) op v _ :: rest => n.loc i x && (match augO o with | some p => decide (op = p.1) | none => false) && ck G m n e v && ckS G m n r rest
      | _ => false)
    | .ex e r => (match sts with | .Expr v _ :: rest => notComp v && ck G m n e v && ckS G m n r rest | _ => false)
    | .ret e => (match sts with | [.Return (some v) _] => ck G m n e v | _ => false)
    | .retN => (match sts with | [.Return none _] => true | _ => false)
    | .iff c a b r => (match sts with | .If cc sa sb _ :: rest => ck G m n c cc && ckS G m n a sa && ckS G m n b sb && ckS G m n r rest | _ => false)
    | .for t it body r => (match sts with | .For tg iter sb [] _ :: rest => notSet iter && ckt G m n t tg && cki G m n it tg iter && ckS G m n body sb && ckS G m n r rest | _ => false)
    | .wh _ c body r => (match sts with | .While cc sb [] _ :: rest => ck G m n c cc && ckS G m n body sb && ckS G m n r rest | _ => false)
    | _ => false
def ckA (G : Gx) : Nat → Nm → Expr → CE → Expr → Bool
  | 0, _, _, _, _ => false
  | m + 1, n, tg, e, v => match v with
    | .ListComp x gs sc p => (match tg with
      | .Name y py => if swN n y py v = true then (match e with | .comp _ _ _ _ _ => ck G m n e v | .fz e => (match e with | .comp _ _ _ _ _ => ck G m n e v | _ => false) | _ => false) else ck G m n e v
      | .Attribute _ _ _ => ck G m n e v
      | .Subscript _ _ _ => ck G m n e v
      | _ => false)
    | .DictComp x x2 gs sc p => (match tg with
      | .Name y py => if swN n y py v = true then (match e with | .dcomp _ _ _ _ _ _ => ck G m n e v | _ => false) else ck G m n e v
      | _ => false)
    | v => plainTg tg && notComp v && (notTupE tg || notTupE v || noSw n tg v) && ck G m n e v
end
end
end PM
end
section
namespace PM
open PySem L2 PySem.Spec PyProof.Rows
section
variable {E : Cfg} {cf : Cf} {G : Gx} {k : Nat} {n : Nm} {W : WX} {X : Cx} {m : Nat}
structure CxS (E : Cfg) (cf : Cf) (G : Gx) (k : Nat) (n : Nm) (W : WX) (X : Cx) : Prop extends CxE E cf G k n W X where
  po : PassesOwn (model X.prog X.w) X.A X.env X.xe
  kind : n.sc.kind = .function
variable {σ : L2.St} {H : Hp}
theorem Kt.mono {β γ : Type} {R : (Nat → Addr) → Nat → Hp → β → γ → Prop} {α : Nat → Addr} {S : Sto} {r : Res β} {Q Q' : γ → Hp → Prop} (kt : Kt E W R α S σ H r Q) (h : ∀ x H', Q x H' → Q' x H') : Kt E W R α S σ H r Q' := by
  cases r with
  | ok v S' => exact fun α' x H' e R' rv => h x H' (kt α' x H' e R' rv)
  | exc c S' => exact kt
  | bad => exact kt
theorem sw_false {v : Expr} {y : Str} {py : Pos} {l : Nat} {env : PySem.Env} (hs : env.scope = n.sc) (hk : n.sc.kind = .function) (h : swN n y py v = false) (hv : ∃ x gs sc p, v = .ListComp x gs sc p) : swapsWith v (some (.Name y py)) l env = pure false := by
  obtain ⟨x, gs, sc, p, rfl⟩ := hv
  have hb : env.blockKind = .function := by unfold Env.blockKind; rw [hs, hk]; rfl
  have ky : env.kindOf y = n.sc.names.lookup y := by unfold Env.kindOf; rw [hs]
  unfold swapsWith
  simp only [swN] at h
  simp only [hb, ky, Expr.pos]
  cases hy : n.sc.names.lookup y with
  | none => rfl
  | some kk =>
    rw [hy] at h
    cases kk <;> first | rfl | skip
    cases hl : py.line == p.line with
    | false => rfl
    | true =>
      rw [hl] at h
      have ha : (!(sc.names.any fun p => p.1 == y && (p.2 == NameKind.local || p.2 == NameKind.cell))) = false := by simpa using h
      show pure (true && true && true && _) = pure false
      simp only [Bool.true_and]
      rw [← ha]
theorem sw_falseD {v : Expr} {y : Str} {py : Pos} {l : Nat} {env : PySem.Env} (hs : env.scope = n.sc) (hk : n.sc.kind = .function) (h : swN n y py v = false) (hv : ∃ x x2 gs sc p, v = .DictComp x x2 gs sc p) : swapsWith v (some (.Name y py)) l env = pure false := by
  obtain ⟨x, x2, gs, sc, p, rfl⟩ := hv
  have hb : env.blockKind = .function := by unfold Env.blockKind; rw [hs, hk]; rfl
  have ky : env.kindOf y = n.sc.names.lookup y := by unfold Env.kindOf; rw [hs]
  unfold swapsWith
  simp only [swN] at h
  simp only [hb, ky, Expr.pos]
  cases hy : n.sc.names.lookup y with
  | none => rfl
  | some kk =>
    rw [hy] at h
    cases kk <;> first | rfl | skip
    cases hl : py.line == p.line with
    | false => rfl
    | true =>
      rw [hl] at h
      have ha : (!(sc.names.any fun p => p.1 == y && (p.2 == NameKind.local || p.2 == NameKind.cell))) = false := by simpa using h
      show pure (true && true && true && _) = pure false
      simp only [Bool.true_and]
      rw [← ha]
theorem sw_true' {x : Expr} {gs : List Comprehension} {sc : Scope} {p : Pos} {y : Str} {py : Pos} {l : Nat} {env : PySem.Env} (hs : env.scope = n.sc) (hk : n.sc.kind = .function) (h : swN n y py (.ListComp x gs sc p) = true) : swapsWith (.ListComp x gs sc p) (some (.Name y py)) l env = pure true ∧ env.scope.names.lookup y = some .local := by
  simp only [swN, Bool.and_eq_true, decide_eq_true_eq, Bool.not_eq_true'] at h
  obtain ⟨⟨h1, h2⟩, h3⟩ := h
  exact ⟨sw_true (by rw [hs]; exact hk) (by rw [hs]; exact h1) h2 h3, by rw [hs]; exact h1⟩
theorem sw_trueD {x x2 : Expr} {gs : List Comprehension} {sc : Scope} {p : Pos} {y : Str} {py : Pos} {l : Nat} {env : PySem.Env} (hs : env.scope = n.sc) (hk : n.sc.kind = .function) (h : swN n y py (.DictComp x x2 gs sc p) = true) : swapsWith (.DictComp x x2 gs sc p) (some (.Name y py)) l env = pure true ∧ env.scope.names.lookup y = some .local := by
  simp only [swN, Bool.and_eq_true, decide_eq_true_eq, Bool.not_eq_true'] at h
  obtain ⟨⟨h1, h2⟩, h3⟩ := h
  have hy : env.scope.names.lookup y = some .local := by rw [hs]; exact h1
  have ky : env.kindOf y = some .local := hy
  have hb : env.blockKind = .function := by unfold Env.blockKind; rw [hs, hk]; rfl
  refine ⟨?_, hy⟩
  unfold swapsWith
  simp only [hb, ky, h3, Expr.pos, h2]
  rfl
theorem sw_no {v : Expr} {t : Option Expr} {l : Nat} {env : PySem.Env} (h : notComp v = true) : swapsWith v t l env = pure false := by
  cases v <;> first | rfl | simp [notComp] at h
theorem sws_no {tg v : Expr} {env : PySem.Env} (h : (notTupE tg || notTupE v) = true) (h2 : plainTg tg = true) : swappedStores [tg] v env = pure none := by
  cases tg <;> simp only [plainTg] at h2 <;> try cases h2
  all_goals first | rfl | skip
  cases v <;> first | rfl | simp [notTupE] at h
theorem sws_cell {tg v : Expr} {env : PySem.Env} (hs : env.scope = n.sc) (h : noSw n tg v = true) : swappedStores [tg] v env = pure none := by
  unfold noSw at h
  split at h
  · rename_i ts k p vs k2 p2
    have h := of_decide_eq_true h
    have hn : ts.filterMap (fun
      | .Name id pos => if env.kindOf id == some .local && pos.line == ((ts.head?.map (·.pos.line)).getD 0) then some id else none
      | _ => none) = ts.filterMap (nmL n ((ts.head?.map (·.pos.line)).getD 0)) := by
      congr 1
      funext e
      cases e <;> simp [nmL, Env.kindOf, hs]
    unfold swappedStores
    simp only
    split
    · rfl
    split
    · rfl
    refine (congrArg (fun L : List Str => if (L.length != ts.length || L.eraseDups.length != L.length) = true then (pure none : Sem (Option (List Str))) else if vs.all (foldedForSure 8) = true then pure none else if vs.all (constantsAlone 8) = true then unsupported "assign.tuple-of-constant-expressions:order-of-the-stores" else pure (some L)) hn).trans ?_
    rw [if_pos (by simp [h])]
  · cases h
theorem ae_one {tg : Expr} {env : PySem.Env} (h2 : plainTg tg = true) : (assignEach [tg] env).map (·.2) = [assign tg env] := by
  cases tg <;> simp only [plainTg] at h2 <;> first | rfl | cases h2
theorem swap2 {x y : Str} {px py pt pt2 : Pos} {kt k2 : Nat} {a b : Expr} {env : PySem.Env} (hs : env.scope = n.sc) (hk : n.sc.kind = .function) (hx : n.sc.names.lookup x = some .local) (hy : n.sc.names.lookup y = some .local) (hl : (py.line == px.line) = true) (ha : notStar a = true) (hb : notStar b = true)
    (hxy : x ≠ y) (h1 : [a, b].all (foldedForSure 8) = false) (h2 : [a, b].all (constantsAlone 8) = false) : swappedStores [.Tuple [.Name x px, .Name y py] kt pt] (.Tuple [a, b] k2 pt2) env = pure (some [x, y]) := by
  have hbk : env.blockKind = .function := by unfold Env.blockKind; rw [hs, hk]; rfl
  have kx : env.kindOf x = some .local := by unfold Env.kindOf; rw [hs]; exact hx
  have ky : env.kindOf y = some .local := by unfold Env.kindOf; rw [hs]; exact hy
  have nst : ∀ c : Expr, notStar c = true → (match c with | .Starred _ _ => true | _ => false) = false := fun c h => by cases c <;> first | rfl | cases h
  have hst : ([a, b].any fun | .Starred .. => true | _ => false) = false := by
    simp only [List.any_cons, List.any_nil, Bool.or_false, Bool.or_eq_false_iff]
    exact ⟨nst a ha, nst b hb⟩
  have hd : [x, y].eraseDups.length = 2 := by
    have : (y == x) = false := by simpa using fun z => hxy z.symm
    have h2 : [x, y].eraseDups = [x, y] := by
      simp [List.eraseDups, List.eraseDupsBy, List.eraseDupsBy.loop, this]
    rw [h2]; rfl
  have hn : ([.Name x px, .Name y py] : List Expr).filterMap (fun
    | .Name id pos => if env.kindOf id == some .local && pos.line == (([.Name x px, .Name y py] : List Expr).head?.map (·.pos.line)).getD 0 then some id else none
    | _ => none) = [x, y] := by
    have e1 : (px.line == px.line) = true := by simp
    simp only [List.filterMap_cons, List.filterMap_nil, kx, ky, List.head?_cons, Option.map_some, Option.getD_some, Expr.pos, hl, e1]
    rfl
  unfold swappedStores
  simp only [hbk, h1, h2]
  refine (if_neg (by simp)).trans ?_
  refine (if_neg (fun h => absurd (hst.symm.trans h) (by decide))).trans ?_
  refine (congrArg (fun L : List Str => if (L.length != 2 || L.eraseDups.length != L.length) = true then (pure none : Sem (Option (List Str))) else if false = true then pure none else if false = true then unsupported "assign.tuple-of-constant-expressions:order-of-the-stores" else pure (some L)) hn).trans ?_
  show (if (2 != 2 || [x, y].eraseDups.length != 2) = true then (pure none : Sem (Option (List Str))) else _) = _
  rw [hd]
  rfl
end
end PM
end
section
namespace PM
open PySem L2 PySem.Spec PyProof.Rows
section
variable {E : Cfg} {cf : Cf} {G : Gx} {k : Nat} {n : Nm} {W : WX} {X : Cx} {m : Nat}
theorem ps_plain (C : CxS E cf G k n W X) {t : CT} {e : CE} {tg v : Expr} {pos : Pos} (h1 : PE X v (tE E W (ev cf e))) (h2 : PG X tg (tT E (tis t) (evt cf t))) (p1 : plainTg tg = true) (p2 : (notTupE tg || notTupE v || noSw n tg v) = true) (p3 : swapsWith v (some tg) pos.line X.env = pure false) :
    PS X (.Assign [tg] v pos) (tAsg (tE E W (ev cf e)) (tT E (tis t) (evt cf t))) := ps_asg h1 h2 p3 (by
    cases hq : (notTupE tg || notTupE v) with
    | true => exact sws_no hq p1
    | false => rw [hq] at p2; exact sws_cell C.sc (by simpa using p2)) (ae_one p1)
theorem step_asg (C : CxS E cf G k n W X) {t : CT} {e : CE} {tg v : Expr} {pos : Pos} (h1 : ckt G m n t tg = true) (h2 : ckA G m n tg e v = true) : PS X (.Assign [tg] v pos) (tAsg (tE E W (ev cf e)) (tT E (tis t) (evt cf t))) := by
  have pt := (allS (E := E) (cf := cf) (G := G) m).t C.toCxE t tg h1
  cases m with
  | zero => simp [ckA] at h2
  | succ m =>
    have I := allS (E := E) (cf := cf) (G := G) m
    simp only [ckA] at h2
    split at h2
    · rename_i x gs sc p
      split at h2
      · rename_i y py
        by_cases hw : swN n y py (.ListComp x gs sc p) = true
        · rw [if_pos hw] at h2
          obtain ⟨sw, hyl⟩ := sw_true' (l := pos.line) (env := X.env) C.sc C.kind hw
          simp only [ckt] at h1
          cases t with
          | var i =>
              obtain ⟨g1, g2, g3⟩ := C.loc h1
              have key : ∀ {elt : CE} {own : List Nat} {tg' : CT} {it : CI} {cond : CEo}, ck G m n (.comp elt own tg' it cond) (.ListComp x gs sc p) = true → ∀ {e : CE}, (∀ σ H Q, tE E W (ev cf e) σ H Q → tE E W (ev cf (.comp elt own tg' it cond)) σ H Q) →
                  PS X (.Assign [.Name y py] (.ListComp x gs sc p) pos) (tAsg (tE E W (ev cf e)) (tT E (tis (.var i)) (evt cf (.var i)))) := by
                intro elt own tg' it cond h2 e hfz
                cases m with
                | zero => simp [ck] at h2
                | succ m =>
                  have I := allS (E := E) (cf := cf) (G := G) m
                  simp only [ck] at h2
                  split at h2
                  · simp only [Bool.and_eq_true, decide_eq_true_eq, List.all_eq_true] at h2
                    obtain ⟨⟨⟨⟨⟨⟨⟨rfl, hs⟩, hb⟩, h3⟩, h4⟩, h5⟩, h6⟩, h7⟩ := h2
                    have he : (own.map fun i => (n.N.getD i "", i)).map (·.2) = own := by rw [List.map_map]; exact List.map_id own
                    refine PS.imp (ps_setLc (own := own.map fun i => (n.N.getD i "", i)) C.calm (C.N ▸ C.nd) g1 hyl sw (I.i C.toCxE it _ _ h3) (blkOk_by (by rw [C.N, C.sc]; exact hb)) (fun s H D cl fp => I.t (C.blk s H D cl fp _) tg' _ h5) (fun s H D cl fp => I.b (C.blk s H D cl fp _) cond _ h6) (fun s H D cl fp => (I.e (C.blk s H D cl fp _) elt _ h7).pe) (foldSet hs)) fun D σ H q => ?_
                    rw [he]
                    refine lc_is (fun i hi => by simpa using h4 i hi) (ma := ev cf elt) (mi := evi cf it) (mt := evt cf tg') (mc := evb cf cond) ?_
                    have q : tE E W (ev cf e) σ H fun x H1 => tT E (tis (.var i)) (evt cf (.var i)) x σ H1 D.nx := q
                    have q := hfz _ _ _ q
                    rw [ev] at q
                    obtain ⟨α, ρ, S, R, en, kt⟩ := q
                    refine ⟨α, ρ, S, R, en, kt.mono fun x H' ⟨α', ρ', S', v, R', en', rv, kt⟩ => ?_⟩
                    rw [evt, tis] at kt
                    exact kt α' _ H' Ext.refl R' (en'.set rv) fun own h => wipe_set (h _ List.mem_cons_self)
                  · cases h2
              split at h2
              · exact key h2 fun _ _ _ q => q
              · split at h2
                · refine key h2 fun σ H Q q => ?_
                  rw [ev] at q
                  exact fz_is q
                · cases h2
              · cases h2
          | _ => simp at h1
        · rw [if_neg hw] at h2
          exact ps_plain C (I.e C.toCxE _ _ h2).pe pt rfl rfl (sw_false C.sc C.kind (by simpa using hw) ⟨x, gs, sc, p, rfl⟩)
      · exact ps_plain C (I.e C.toCxE _ _ h2).pe pt rfl rfl rfl
      · exact ps_plain C (I.e C.toCxE _ _ h2).pe pt rfl rfl rfl
      · cases h2
    · rename_i x x2 gs sc p
      split at h2
      · rename_i y py
        by_cases hw : swN n y py (.DictComp x x2 gs sc p) = true
        case neg =>
          rw [if_neg hw] at h2
          exact ps_plain C (I.e C.toCxE _ _ h2).pe pt rfl rfl (sw_falseD C.sc C.kind (by simpa using hw) ⟨x, x2, gs, sc, p, rfl⟩)
        rw [if_pos hw] at h2
        obtain ⟨sw, hyl⟩ := sw_trueD (l := pos.line) (env := X.env) C.sc C.kind hw
        split at h2
        · rename_i nk kx vx own tg' it
          simp only [ckt] at h1
          cases t with
          | var i =>
            obtain ⟨g1, g2, g3⟩ := C.loc h1
            cases m with
            | zero => simp [ck] at h2
            | succ m =>
              have I := allS (E := E) (cf := cf) (G := G) m
              simp only [ck] at h2
              split at h2
              · simp only [Bool.and_eq_true, decide_eq_true_eq, List.all_eq_true, List.isEmpty_iff] at h2
                obtain ⟨⟨⟨⟨⟨⟨⟨⟨rfl, rfl⟩, hs⟩, hb⟩, h3⟩, h4⟩, h5⟩, h6⟩, h7⟩ := h2
                have he : (own.map fun i => (n.N.getD i "", i)).map (·.2) = own := by rw [List.map_map]; exact List.map_id own
                refine PS.imp (ps_setDcn (nk := nk) (own := own.map fun i => (n.N.getD i "", i)) C.hu C.calm (C.N ▸ C.nd) g1 hyl sw (I.i C.toCxE it _ _ h3) (blkOk_by (by rw [C.N, C.sc]; exact hb)) (fun s H D cl fp => I.t (C.blk s H D cl fp _) tg' _ h5) (fun s H D cl fp => (I.e (C.blk s H D cl fp _) kx _ h6).pe) (fun s H D cl fp => (I.e (C.blk s H D cl fp _) vx _ h7).pe) (foldSet hs)) fun D σ H q => ?_
                rw [he, C.K, C.wo]
                refine dc_is (fun i hi => by simpa using h4 i hi) (mk := ev cf kx) (mv := ev cf vx) (mi := evi cf it) (mt := evt cf tg') ?_
                have q : tE E W (ev cf (.dcomp nk kx vx own tg' it)) σ H fun x H1 => tT E (tis (.var i)) (evt cf (.var i)) x σ H1 D.nx := q
                rw [ev] at q
                obtain ⟨α, ρ, S, R, en, kt⟩ := q
                refine ⟨α, ρ, S, R, en, kt.mono fun x H' ⟨α', ρ', S', v, R', en', rv, kt⟩ => ?_⟩
                rw [evt, tis] at kt
                exact kt α' _ H' Ext.refl R' (en'.set rv) fun own h => wipe_set (h _ List.mem_cons_self)
              · cases h2
          | _ => simp at h1
        · cases h2
      · cases h2
    · simp only [Bool.and_eq_true] at h2
      obtain ⟨⟨⟨p1, p2⟩, p3⟩, h2⟩ := h2
      exact ps_plain C (I.e C.toCxE _ _ h2).pe pt p1 p3 (sw_no p2)
end
end PM
end
section
namespace PM
open PySem L2 PySem.Spec PyProof.Rows
section
variable {E : Cfg} {cf : Cf} {G : Gx} {k : Nat} {n : Nm} {W : WX} {X : Cx} {m : Nat}
theorem ss_par {i j : Nat} {x y : Str} {a b : Expr} {px py pt pos : Pos} {kt k2 pt2} {ms : Env → Sto → Res (List PV)} {rest : List Stmt} {nx : Env → Sto → RS} (hc : X.calm = true) (hN : X.N.Nodup) (hi : X.N[i]? = some x) (hj : X.N[j]? = some y) (hij : i ≠ j)
    (hx : X.env.scope.names.lookup x = some .local) (hy : X.env.scope.names.lookup y = some .local) (ha : PA X [a, b] (tA E W ms))
    (hw : swappedStores [.Tuple [.Name x px, .Name y py] kt pt] (.Tuple [a, b] k2 pt2) X.env = pure (some [x, y])) (h2 : PSs X rest (tSt E W nx)) :
    PSs X (.Assign [.Tuple [.Name x px, .Name y py] kt pt] (.Tuple [a, b] k2 pt2) pos :: rest) (tSt E W fun ρ S => RS.fst ρ (ms ρ S) fun vs S1 => match par2 [i, j] vs ρ with | some ρ' => nx ρ' S1 | none => .bad) := ss_cons (ps_par hc hN hi hj hij hx hy ha hw rfl) h2 fun D σ H ⟨α, ρ, S, R, en, ks⟩ => by
  refine ⟨α, ρ, S, R, en, KS.fst ks en fun vs S1 α1 xs H1 e R1 rs en1 ks => ?_⟩
  match vs, rs, ks with
  | [], _, ks => exact ks.elim
  | [_], _, ks => exact ks.elim
  | _ :: _ :: _ :: _, _, ks => exact ks.elim
  | [v, w], rs, ks =>
    obtain ⟨a, b, rfl, r1, r2⟩ := rl2 rs
    exact ⟨a, b, rfl, α1, _, S1, R1, (en1.set r1).set r2, ks⟩
theorem allSt : ∀ (m : Nat) {k : Nat} {n : Nm} {W : WX} {X : Cx}, CxS E cf G k n W X → ∀ s sts, ckS G m n s sts = true → PSs X sts (tSt E W (ex cf s))
  | 0, _, _, _, _, _, _, _, h => by simp [ckS] at h
  | m + 1, k, n, W, X, C, s, sts, h => by
    have I := allS (E := E) (cf := cf) (G := G) m
    have ih := fun {s sts} => allSt m C s sts
    have go : ∀ {f : Env → Sto → RS}, ex cf s = f → PSs X sts (tSt E W f) → PSs X sts (tSt E W (ex cf s)) := fun e1 e2 => by rw [e1]; exact e2
    cases s with
    | nil =>
      simp only [ckS, List.isEmpty_iff] at h
      subst h
      exact go (by rw [ex]) ss_nil
    | nev => exact go (f := fun _ _ => .bad) (by rw [ex]) (PSs.imp pss_never fun D σ H ⟨α, ρ, S, R, en, ks⟩ => ks.elim)
    | pass r =>
      simp only [ckS] at h
      split at h
      · exact go (by rw [ex]) (ss_pass (ih h))
      · cases h
    | asg t e r =>
      simp only [ckS] at h
      split at h
      · simp only [Bool.and_eq_true] at h
        obtain ⟨⟨h1, h2⟩, h3⟩ := h
        exact go (by rw [ex] <;> rfl) (ss_asg (step_asg C h1 h3) (ih h2))
      · cases h
    | par is es r =>
      simp only [ckS] at h
      split at h
      · simp only [Bool.and_eq_true] at h
        obtain ⟨⟨h1, h2⟩, h3⟩ := h
        unfold parC at h1
        split at h1
        · simp only [Bool.and_eq_true, decide_eq_true_eq, Bool.not_eq_true'] at h1
          obtain ⟨⟨⟨⟨⟨⟨⟨⟨⟨⟨c1, c2⟩, c3⟩, c4⟩, c5⟩, c6⟩, c7⟩, c8⟩, c9⟩, c10⟩, c11⟩ := h1
          exact go (by rw [ex] <;> rfl) (ss_par C.calm (C.N ▸ C.nd) (by rw [C.N]; exact c2) (by rw [C.N]; exact c3) c1 (by rw [C.sc]; exact c4) (by rw [C.sc]; exact c5) (I.s C.toCxE _ _ h2).1 (swap2 C.sc C.kind c4 c5 c6 c7 c8 c9 c10 c11) (ih h3))
        · cases h1
      · cases h
    | aug i o e r =>
      simp only [ckS] at h
      split at h
      · simp only [Bool.and_eq_true] at h
        obtain ⟨⟨⟨h1, h2⟩, h3⟩, h4⟩ := h
        obtain ⟨g1, g2, g3⟩ := C.loc h1
        cases o with
        | add =>
          simp only [augO, decide_eq_true_eq] at h2
          subst h2
          exact go (by rw [ex] <;> rfl) (ss_aug (C.N ▸ C.nd) g1 g2 g3 (I.e C.toCxE _ _ h3).pe ip_add (fun _ _ _ => rfl) (ih h4))
        | sub =>
          simp only [augO, decide_eq_true_eq] at h2
          subst h2
          exact go (by rw [ex] <;> rfl) (ss_aug (C.N ▸ C.nd) g1 g2 g3 (I.e C.toCxE _ _ h3).pe ip_sub (fun _ _ _ => rfl) (ih h4))
        | _ => simp [augO] at h2
      · cases h
    | ex e r =>
      simp only [ckS] at h
      split at h
      · simp only [Bool.and_eq_true] at h
        obtain ⟨⟨h1, h2⟩, h3⟩ := h
        exact go (by rw [ex]) (ss_ex (I.e C.toCxE _ _ h2).pe (sw_no h1) (ih h3))
      · cases h
    | ret e =>
      simp only [ckS] at h
      split at h
      · exact go (by rw [ex]) (ss_ret (I.e C.toCxE _ _ h).pe)
      · cases h
    | retN =>
      simp only [ckS] at h
      split at h
      · exact go (by rw [ex]) ss_retN
      · cases h
    | iff c a b r =>
      simp only [ckS] at h
      split at h
      · simp only [Bool.and_eq_true] at h
        obtain ⟨⟨⟨h1, h2⟩, h3⟩, h4⟩ := h
        exact go (by rw [ex] <;> rfl) (ss_if (I.e C.toCxE _ _ h1) (ih h2) (ih h3) (ih h4))
      · cases h
    | «for» t it body r =>
      simp only [ckS] at h
      split at h
      · simp only [Bool.and_eq_true] at h
        obtain ⟨⟨⟨⟨h1, h2⟩, h3⟩, h4⟩, h5⟩ := h
        exact go (by rw [ex]) (ss_for C.po C.calm (I.i C.toCxE _ _ _ h3) (I.t C.toCxE _ _ h2) (ih h4) (foldSet h1) (ih h5))
      · cases h
    | wh w c body r =>
      simp only [ckS] at h
      split at h
      · simp only [Bool.and_eq_true] at h
        obtain ⟨⟨h1, h2⟩, h3⟩ := h
        exact go (by rw [ex] <;> rfl) (ss_while C.po (I.e C.toCxE _ _ h1) (ih h2) (ih h3))
      · cases h
    | _ => simp [ckS] at h
end
end PM
end
section
namespace PM
open PySem L2 PySem.Spec PyProof.Rows
structure DfI where
  x : Str
  qual : Str
  N : List Str
  ps : List Str
  st : Stmt
  fn : Fn
  of : Option Str := none
  dfl : Bool := false
def DfI.at_ (d : DfI) : Str × Option Str := match d.of with
  | none => (d.x, none)
  | some c => (c, some d.x)
def scC (N P : List Str) (sc : Scope) : Bool :=
  decide (sc.kind = .function) && !sc.isCoroutine && !sc.isGenerator && decide N.Nodup && decide (N.take P.length = P) && P.all (fun x => decide (sc.names.lookup x = some .local) || decide (sc.names.lookup x = some .cell)) && sc.names.all (fun y => decide (y.2 ≠ .free))
theorem fnScope_by {N P : List Str} {sc : Scope} (h : scC N P sc = true) : FnScope N P sc := by
  unfold scC at h
  simp only [Bool.and_eq_true, Bool.not_eq_true', decide_eq_true_eq, List.all_eq_true, Bool.or_eq_true] at h
  obtain ⟨⟨⟨⟨⟨⟨h1, h2⟩, h3⟩, h4⟩, h5⟩, h6⟩, h7⟩ := h
  exact ⟨h1, h2, h3, h4, h5, h6, h7⟩
def DfI.ok (G : Gx) (fuel : Nat) (gen : Bool) (d : DfI) : Bool := scC d.N d.ps (defScope d.st) && ckS G fuel ⟨d.N, defScope d.st, defScope d.st, 3, gen⟩ d.fn.body (defBody d.st) && decide (d.fn.n = d.N.length) && decide (d.fn.np = d.ps.length)
def tabOf (ds : List DfI) (f : Nat) : Option Fn := (ds[f]?).map (·.fn)
abbrev cfOf (ds : List DfI) (sub : Nat → Nat → Bool) (j : Nat) : Cf := ⟨run (tabOf ds) sub j, sub⟩
structure Heads (E : Cfg) (G : Gx) (mg : Str → Option Value) (ds : List DfI) (addr : Nat → Addr) (gen : Bool) (cs : List (Addr × Addr)) : Prop where
  fn : ∀ f d, ds[f]? = some d → ∃ fd dvs, FunD E.K d.x d.qual (defArgs d.st) (defBody d.st) (defScope d.st) dvs [] (addr f) fd ∧ Binds E.K fd d.ps [] ∧ (gen = true → ∃ c P, fd.code = .ref c ∧ (c, P) ∈ cs ∧ P ∈ E.tabs) ∧ (d.dfl = true → ∃ u, Binds E.K fd d.ps [.ref u] ∧ EmpK E.K u)
  dflN : ∀ f d, f ∈ G.dfl → ds[f]? = some d → d.dfl = true
  bi : ∀ x ∈ G.bis, mg x = none
  fns : ∀ x f, G.fns.lookup x = some f → mg x = some (.ref (addr f)) ∧ f < ds.length
  clsN : ∀ x c, G.cls.lookup x = some c → mg x = some (.ref (E.cls c)) ∧ c < E.nc
  cls : ∀ d, d < E.nc → ClsF E d
  cst : ∀ x v, G.cst.lookup x = some v → ∃ u, mg x = some u ∧ CstOk v u
  fl : G.fld = E.fld
  ini : ∀ c f, G.ini.lookup c = some f → c < E.nc ∧ f < ds.length ∧ Mk E.K (E.cls c) (addr f)
section
variable {E : Cfg} {G : Gx} {mg : Str → Option Value} {ds : List DfI} {addr : Nat → Addr} {sub : Nat → Nat → Bool} {P : Program} {w : World} {base : Heap} {gen : Bool} {cs : List (Addr × Addr)}
theorem EnvR.start {α : Nat → Addr} {n : Nat} {H : Hp} {N : List Str} {k : Nat} {vs : List PV} {xs : List V} (rs : RpL E α n H vs xs) (hk : k = N.length) : EnvR E α n H (startE k vs) (L2.start N xs) := by
  subst hk
  refine ⟨by simp only [startE, L2.start, List.length_append, List.length_map, List.length_replicate, rs.len], fun i v e => ?_⟩
  unfold startE at e
  by_cases hi : i < vs.length
  · rw [List.getElem?_append_left (by simpa using hi), List.getElem?_map] at e
    obtain ⟨u, e1, e2⟩ := Option.map_eq_some_iff.mp e
    cases e2
    obtain ⟨y, e3, r⟩ := rs.get e1
    refine ⟨y, ?_, r⟩
    unfold L2.start
    rw [List.getElem?_append_left (by rw [List.length_map, ← rs.len]; exact hi), List.getElem?_map, e3]
    rfl
  · rw [List.getElem?_append_right (by simpa using Nat.le_of_not_lt hi)] at e
    obtain ⟨_, e2⟩ := List.getElem?_eq_some_iff.mp e
    simp at e2
theorem sp_len {cf : Cf} {f : Nat} {np : Nat} (h : ∀ vs S, cf.fn f vs S = .bad ∨ vs.length = np) {vs : List V} {H : Hp} {Q : VK} {Ex : XK} (q : spF E cf f vs H Q Ex) : vs.length = np := by
  obtain ⟨α, S, args, R, rs, kt⟩ := q
  rcases h args S with e | e
  · rw [e] at kt; exact kt.elim
  · rw [← rs.len]; exact e
theorem run_len {d : DfI} {f j : Nat} (hd : ds[f]? = some d) (vs : List PV) (S : Sto) : run (tabOf ds) sub j f vs S = .bad ∨ vs.length = d.fn.np := by
  cases j with
  | zero => exact .inl rfl
  | succ j =>
    by_cases h : vs.length = d.fn.np
    · exact .inr h
    · refine .inl ?_
      unfold run tabOf
      rw [hd]
      show runF _ d.fn vs S = .bad
      unfold runF
      rw [decide_eq_false h]
      rfl
theorem okC {CX : CXT} {K : PySem.W.Frag} {x qual : Str} {params : Arguments} {body : List Stmt} {scope : Scope} {dvs : List V} {kws : List (Str × V)} {f : Addr} {fd : FuncData} {N ps : List Str} {k : Nat} {sp : Sp} (F : FunD K x qual params body scope dvs kws f fd) (S : FnScope N ps scope) (len : ∀ vs H Q E, sp vs H Q E → vs.length = ps.length)
    (hbody : ∀ (A : Around) (outer : List PySem.Env) (s : Shared) (H : Hp) (vs : List V) (Q : VK) (E : XK), Room k (A.deeper (envOfC qual scope s.heap.objs.size f fd.code)) → sp vs H Q E →
      ∃ t, PSs (cxOf CX P w K mg base N qual scope f fd.code A outer s H E) body t ∧ t { nx := fun _ H' => Q .non H', rt := Q } (L2.start N vs) H) : FnOk P w K mg base CX (k + 1) f fd ps sp := by
  obtain ⟨oc, od, dV, kV, doc, pm, an, cdv, ct, osl, rfl, lk, hcd, _, _⟩ := F.ex
  exact fn_of lk hcd S len fun A outer s H vs Q E hr hsp => hbody A outer s H vs Q E hr hsp
theorem fn_all (B : Heads E G mg ds addr gen cs) (hwo : w = E.wo) (ht : ∀ p ∈ cs, GxR.TabB base mg p.1 p.2) {fuel : Nat} (hc : ds.all (·.ok G fuel gen) = true) : ∀ (j f : Nat) (d : DfI) (fd : FuncData) (dvs : List V), ds[f]? = some d → FunD E.K d.x d.qual (defArgs d.st) (defBody d.st) (defScope d.st) dvs [] (addr f) fd →
    (gen = true → ∃ c P, fd.code = .ref c ∧ (c, P) ∈ cs ∧ P ∈ E.tabs) → FnOk P w E.K mg base (L2.CX P w) (4 * j) (addr f) fd d.ps (spF E (cfOf ds sub j) f)
  | 0, f, d, fd, dvs, hd, F, _ => by
    have hok := List.all_eq_true.mp hc d (List.mem_of_getElem? hd)
    simp only [DfI.ok, Bool.and_eq_true, decide_eq_true_eq] at hok
    refine ⟨fun vs H Q Ex q => ?_, fun A outer s H args us vs Q Ex _ _ _ _ q => ?_⟩
    · obtain ⟨α, S, args, R, rs, kt⟩ := q; exact kt.elim
    · obtain ⟨α, S, args, R, rs, kt⟩ := q; exact kt.elim
  | j + 1, f, d, fd, dvs, hd, F, hcd => by
    have hok := List.all_eq_true.mp hc d (List.mem_of_getElem? hd)
    simp only [DfI.ok, Bool.and_eq_true, decide_eq_true_eq] at hok
    obtain ⟨⟨⟨h1, h2⟩, h3⟩, h4⟩ := hok
    have S := fnScope_by h1
    refine okC (k := 4 * j + 3) F S (fun vs H Q Ex q => (sp_len (run_len hd) q).trans h4) fun A outer s H vs Q Ex hr q => ?_
    have C : CxS E (cfOf ds sub j) G (4 * j) ⟨d.N, defScope d.st, defScope d.st, 3, gen⟩ (fun cls dd _ H => Ex cls dd H) (cxOf (L2.CX P w) P w E.K mg base d.N d.qual (defScope d.st) (addr f) fd.code A outer s H Ex) :=
      { K := rfl, N := rfl, nd := S.nd, sc := rfl, fn := fun _ _ => rfl, calm := rfl, room := hr, bi := B.bi, tb := fun hgen => let ⟨c, P, e1, e2, e3⟩ := hcd hgen; ⟨c, P, e1, ht _ e2, e3⟩
        fns := fun x g hx => by
          obtain ⟨hm, hl⟩ := B.fns x g hx
          obtain ⟨fd', dvs', F', b', c', _⟩ := B.fn g ds[g] (by simp [hl])
          exact ⟨addr g, hm, F'.kp, fd', _, b', fn_all B hwo ht hc j g ds[g] fd' dvs' (by simp [hl]) F' c'⟩
        wo := hwo, fl := B.fl
        ini := fun c g hx => by
          obtain ⟨hcl, hl, M⟩ := B.ini c g hx
          obtain ⟨fd', dvs', F', b', c', _⟩ := B.fn g ds[g] (by simp [hl])
          exact ⟨hcl, addr g, M, F'.kp, fd', _, b', fn_all B hwo ht hc j g ds[g] fd' dvs' (by simp [hl]) F' c'⟩
        dfl := fun c g hx hg => by
          obtain ⟨hcl, hl, M⟩ := B.ini c g hx
          obtain ⟨fd', dvs', F', _, c', d'⟩ := B.fn g ds[g] (by simp [hl])
          obtain ⟨u, bu, eu⟩ := d' (B.dflN g _ hg (by simp [hl]))
          exact ⟨addr g, M, F'.kp, fd', _, u, bu, eu, fn_all B hwo ht hc j g ds[g] fd' dvs' (by simp [hl]) F' c'⟩
        clsN := B.clsN, cls := B.cls, cst := B.cst, tk := takes_of rfl rfl rfl rfl, po := passes_of rfl, kind := S.kind }
    refine ⟨_, allSt fuel C d.fn.body (defBody d.st) h2, ?_⟩
    obtain ⟨α, S0, args, R, rs, kt⟩ := q
    refine ⟨α, _, S0, R, EnvR.start rs h3, ?_⟩
    have e1 : (cfOf ds sub (j + 1)).fn f args S0 = runF (cfOf ds sub j) d.fn args S0 := by
      show run (tabOf ds) sub (j + 1) f args S0 = _
      unfold run tabOf
      rw [hd]
      rfl
    rw [e1] at kt
    unfold runF at kt
    obtain ⟨_, kt⟩ := kt.need
    revert kt
    cases ex (cfOf ds sub j) d.fn.body (startE d.fn.n args) S0 with
    | nx ρ S' => exact fun kt α' σ' H' e R' _ => kt α' .non H' e R' (by simp only [Rp])
    | ret v S' => exact fun kt => kt
    | exc c ρ S' => exact fun kt α' σ' H' e R' _ => kt α' H' e R'
    | bad => exact fun kt => kt.elim
end
end PM
end
section
namespace PM
open PySem L2 PySem.Spec PyProof.Rows
def BindsPlain (d : DfI) : Prop := ∀ (kV doc pm : Value) (an : Option Addr) (cdv ct : Value) (us : List Value), us.length = d.ps.length → bindArgs (PySem.W.fnOf d.x d.qual (defArgs d.st) (defBody d.st) (defScope d.st) .none kV doc pm an cdv ct) ⟨us, []⟩ = pure (d.ps.zip us)
def BindsDfl (d : DfI) : Prop := ∀ (T : Addr) (kV doc pm : Value) (an : Option Addr) (cdv ct : Value) (us its : List Value), its.length = 1 →
  (us.length = d.ps.length → ∃ k, bindArgs (PySem.W.fnOf d.x d.qual (defArgs d.st) (defBody d.st) (defScope d.st) (.ref T) kV doc pm an cdv ct) { pos := us } = seqItems? (.ref T) >>= k ∧ k (some its.toArray) = pure (d.ps.zip us)) ∧
  (us.length + 1 = d.ps.length → ∃ k, bindArgs (PySem.W.fnOf d.x d.qual (defArgs d.st) (defBody d.st) (defScope d.st) (.ref T) kV doc pm an cdv ct) { pos := us } = seqItems? (.ref T) >>= k ∧ k (some its.toArray) = pure (d.ps.zip (us ++ its)))
def BindsD (d : DfI) : Prop := match d.dfl with
  | true => BindsDfl d
  | false => BindsPlain d
def BindsAll : List DfI → Prop
  | [] => True
  | d :: r => BindsD d ∧ BindsAll r
theorem BindsAll.at : ∀ {ds : List DfI} {f : Nat} {d : DfI}, BindsAll ds → ds[f]? = some d → BindsD d
  | [], _, _, _, h => by simp at h
  | _ :: _, 0, _, b, h => by simp at h; subst h; exact b.1
  | _ :: r, f + 1, _, b, h => BindsAll.at b.2 (by simpa using h)
def dflT (K : PySem.W.Frag) (f : Addr) : Addr := match K.lookup f with
  | some ⟨_, _, .func fd, _⟩ => (match fd.defaults with
    | .ref T => (match K.lookup T with
      | some ⟨_, _, .seq its _, _⟩ => (match (its[0]? : Option Value) with | some (.ref a) => a | _ => 0)
      | _ => 0)
    | _ => 0)
  | _ => 0
def dvOf (d : DfI) : List He.Dv := match d.dfl with
  | true => [.adr fun K => dflT K (He.fAd K d.at_)]
  | false => []
def dfd (d : DfI) : He.DefD := ⟨d.at_, d.x, d.qual, defArgs d.st, defBody d.st, defScope d.st, dvOf d, []⟩
def empC (K : PySem.W.Frag) (u : Addr) : Bool := match K.lookup u with
  | some ⟨.type "tuple", _, .seq its _, _⟩ => its.isEmpty
  | _ => false
theorem empC_ok {K : PySem.W.Frag} {u : Addr} (h : empC K u = true) : EmpK K u := by
  unfold empC at h
  split at h
  · rename_i dd its n sl e
    rw [Array.isEmpty_iff] at h
    subst h
    exact ⟨_, #[], n, e, rfl, rfl, Nat.zero_le _, .nil⟩
  · cases h
def dflC (ds : List DfI) (K : PySem.W.Frag) : Bool := ds.all fun d => !d.dfl || empC K (dflT K (He.fAd K d.at_))
theorem binds_of {K : PySem.W.Frag} {d : DfI} {f : Addr} {fd : FuncData} (hb : BindsD d) (F : FunD K d.x d.qual (defArgs d.st) (defBody d.st) (defScope d.st) ((dvOf d).map (He.Dv.v K)) [] f fd) (hp : d.dfl = true → d.ps ≠ []) :
    Binds K fd d.ps [] ∧ (d.dfl = true → Binds K fd d.ps [.ref (dflT K (He.fAd K d.at_))]) := by
  unfold BindsD at hb
  unfold dvOf at F
  cases hd : d.dfl with
  | false =>
    rw [hd] at hb F
    exact ⟨F.bindsN hb, fun h => by cases h⟩
  | true =>
    rw [hd] at hb F
    have hpl : 1 ≤ d.ps.length := by
      have := hp hd
      cases hq : d.ps with
      | nil => exact absurd hq this
      | cons a l => simp
    obtain ⟨e1, v1, b1⟩ := F.binds1 (ps := d.ps) d.ps.length 1 (by simp) (by simp) (fun T kV doc pm an cdv ct us its h1 h2 => by
      obtain ⟨k, k1, k2⟩ := (hb T kV doc pm an cdv ct us its (by simpa using h2)).1 h1
      refine ⟨k, k1, ?_⟩
      rw [k2, List.drop_of_length_le (by rw [h2]; exact Nat.le_refl _), List.append_nil])
    obtain ⟨e2, v2, b2⟩ := F.binds1 (ps := d.ps) (d.ps.length - 1) 0 (by simp) (by simp; omega) (fun T kV doc pm an cdv ct us its h1 h2 => by
      obtain ⟨k, k1, k2⟩ := (hb T kV doc pm an cdv ct us its (by simpa using h2)).2 (by omega)
      exact ⟨k, k1, k2⟩)
    refine ⟨?_, fun _ => ?_⟩
    · cases v1; exact b1
    · have : e2 = [.ref (dflT K (He.fAd K d.at_))] := by
        cases v2 with
        | cons r rs => cases rs; cases r; rfl
      rw [← this]; exact b2
def cstFa (p : Str × PV) : He.Fa := match p.2 with
  | .int i => .int p.1 i
  | .str z => .str p.1 z
  | _ => .free p.1
def cstC' (G : Gx) : Bool := G.cst.all fun p => match p.2 with | .int _ => true | .str _ => true | _ => false
def clsFa (G : Gx) (x : Str) : List He.Fa := .glo x :: .cls x :: .mkr x :: G.fld.map (He.Fa.noat x)
def faOf (G : Gx) : List He.Fa := G.fns.map (fun p => .glo p.1) ++ (G.bis.map (fun x => .free x) ++ (G.cst.map cstFa ++ G.cls.flatMap fun p => clsFa G p.1))
def fnsC (G : Gx) (ds : List DfI) : Bool := G.fns.all fun p => match ds[p.2]? with | some d => decide (d.x = p.1) && d.of.isNone | none => false
def cfgOf (K : PySem.W.Frag) (w : World) : Cfg := { K := K, cls := fun _ => 0, nc := 0, fld := [], xc := fun _ => 0, tabs := [], fnd := List.nodup_nil, wo := w }
def addrOf (K : PySem.W.Frag) (ds : List DfI) (f : Nat) : Addr := match ds[f]? with | some d => He.fAd K d.at_ | none => 0
theorem lookup_mem {β : Type} : ∀ {l : List (Str × β)} {x : Str} {b : β}, l.lookup x = some b → (x, b) ∈ l
  | [], _, _, h => by cases h
  | (y, c) :: r, x, b, h => by
    rw [List.lookup_cons] at h
    cases e : x == y with
    | true =>
      rw [e] at h
      cases h
      have : x = y := by simpa using e
      subst this
      exact List.mem_cons_self
    | false =>
      rw [e] at h
      exact List.mem_cons_of_mem _ (lookup_mem h)
theorem says_fact {K : PySem.W.Frag} {fa : List He.Fa} {fn : List He.DefD} (c : He.SaysD fa fn K) {f : He.Fa} (h : f ∈ fa) : f.ok K = true := by
  obtain ⟨i, hi, e⟩ := List.mem_iff_getElem.mp h
  exact c.fact i (f := f) (by rw [List.getElem?_eq_getElem hi, e])
def Answers (ds : List DfI) (k li : Nat) : Prop := ∀ ns : List Int, ns.length ≤ 63 → ∃ S, run (tabOf ds) (fun _ _ => false) k li [.ro (ns.map .int)] [] = .ok (.bl true) S
end PM
end
section
namespace PM
open PySem L2 PySem.Spec PyProof.Rows
def cdOf (K : PySem.W.Frag) (c : Addr) : Addr := match K.lookup c with
  | some ⟨_, _, .fields vs, _⟩ => (match (vs[11]? : Option Value) with | some (.ref P) => P | _ => 0)
  | _ => 0
def csAt (K : PySem.W.Frag) (a : Addr) : Addr × Addr := match K.lookup a with
  | some ⟨_, _, .func fd, _⟩ => (match fd.code with | .ref c => (c, cdOf K c) | _ => (0, 0))
  | _ => (0, 0)
def csO (K : PySem.W.Frag) (fn : List He.DefD) : List (Addr × Addr) := fn.map fun d => csAt K (He.fAd K d.at_)
def emptyT : Option Obj → Bool
  | some ⟨.none, none, .fields vs, sl⟩ => vs.isEmpty && sl.isEmpty
  | _ => false
theorem emptyT_is {o : Option Obj} (h : emptyT o = true) : o = some { cls := .none, data := .fields #[] } := by
  unfold emptyT at h
  split at h
  · simp only [Bool.and_eq_true, Array.isEmpty_iff] at h
    obtain ⟨rfl, rfl⟩ := h
    rfl
  · cases h
def tabC (K : PySem.W.Frag) (fn : List He.DefD) (g : Addr → Option Obj) : Bool := (csO K fn).all fun p => PySem.W.codeHdIn K p.1 p.2 && (K.lookup p.2).isNone && emptyT (g p.2)
def asT (g : Addr → Option Obj) (n : Nat) : List Addr := (He.asD g n).filter fun a => !emptyT (g a)
def obsT (n : Nat) (fa : List He.Fa) (fn : List He.DefD) (xt : PySem.W.Frag → Bool) (g : Addr → Option Obj) : He.AlD × Bool := (He.obsD fa fn (He.frG g (asT g n)), tabC (He.frG g (asT g n)) fn g && xt (He.frG g (asT g n)))
def TabS (K : PySem.W.Frag) (fn : List He.DefD) (h : Heap) : Prop := ∀ p ∈ csO K fn, PySem.W.codeHdIn K p.1 p.2 = true ∧ K.lookup p.2 = none ∧ h.get? p.2 = some { cls := .none, data := .fields #[] }
def hookT (n : Nat) (fa : List He.Fa) (fn : List He.DefD) (xt : PySem.W.Frag → Bool) : PySem.W.Hook where
  α := He.AlD × Bool
  obs := fun s => obsT n fa fn xt s.heap.get?
  val := fun _ => (He.valD fn, true)
  says := fun _ h => ∃ K : PySem.W.Frag, K.In h ∧ He.SaysD fa fn K ∧ TabS K fn h ∧ xt K = true
  of := fun w s e => by
    obtain ⟨e1, e2⟩ := Prod.mk.inj e
    obtain ⟨e2, e3⟩ := Bool.and_eq_true_iff.mp e2
    refine ⟨_, He.frG_in, e1, fun p hp => ?_, e3⟩
    have q := List.all_eq_true.mp e2 p hp
    simp only [Bool.and_eq_true, Option.isNone_iff_eq_none] at q
    exact ⟨q.1.1, q.1.2, emptyT_is q.2⟩
  keeps := fun _ _ _ ⟨K, hK, c, t, e3⟩ k => ⟨K, PySem.W.Frag.In.keeps hK k, c, fun p hp => let ⟨t1, t2, t3⟩ := t p hp; ⟨t1, t2, k _ _ t3⟩, e3⟩
theorem obsT_eq {n : Nat} {fa : List He.Fa} {fn : List He.DefD} {xt : PySem.W.Frag → Bool} {g : Addr → Option Obj} {s : Shared} (h : ∀ a, g a = s.heap.get? a) : obsT n fa fn xt g = (hookT n fa fn xt).obs s := by
  have e : g = s.heap.get? := funext h
  rw [e] <;> rfl
theorem cs_mem {K : PySem.W.Frag} {ds : List DfI} {f : Nat} {d : DfI} {fd : FuncData} (hd : ds[f]? = some d) {dvs : List V} (F : FunD K d.x d.qual (defArgs d.st) (defBody d.st) (defScope d.st) dvs [] (addrOf K ds f) fd) : ∃ c P, fd.code = .ref c ∧ (c, P) ∈ csO K (ds.map dfd) := by
  obtain ⟨oc, od, dV, kV, doc, pm, an, cdv, ct, osl, rfl, lk, hcd, _, _⟩ := F.ex
  have : ∃ c, cdv = .ref c := by
    unfold PySem.W.codeIn at hcd
    split at hcd
    · exact ⟨_, rfl⟩
    · cases hcd
  obtain ⟨c, rfl⟩ := this
  refine ⟨c, cdOf K c, rfl, ?_⟩
  unfold csO
  refine List.mem_map.mpr ⟨dfd d, List.mem_map.mpr ⟨d, List.mem_of_getElem? hd, rfl⟩, ?_⟩
  have e : He.fAd K (dfd d).at_ = addrOf K ds f := by unfold addrOf; rw [hd]; rfl
  rw [e]
  unfold csAt
  rw [lk]
def subS (s : PySem.Stmt) (j : Nat) : PySem.Stmt := match s with
  | .ClassDef _ _ _ body _ _ _ _ _ _ _ => body.getD j (.Pass ⟨0, 0, 0, 0⟩)
  | s => s
def clsAt (K : PySem.W.Frag) (G : Gx) (c : Nat) : Addr := match G.cls.find? (fun p => decide (p.2 = c)) with
  | some p => He.ga K p.1
  | none => 0
def clsB (K : PySem.W.Frag) (G : Gx) (c : Nat) : Bool :=
  decide (PySem.W.findIn K (.ref (clsAt K G c)) "__class__" = some (some (.builtin "object.__class__"))) && decide (PySem.W.specialIn K (.builtin "object.__class__") "__get__" = some (some (.builtin "getset_descriptor.__get__"))) &&
  decide (PySem.W.takesIn K (.builtin "object.__class__") = some true) && decide (PySem.W.mroIn K (clsAt K G c) (.type "object") = some true) &&
  (["int", "bool", "str", "list", "tuple"] : List String).all (fun T => decide (PySem.W.kitOne K (.ref (clsAt K G c)) (.type T) = some false)) &&
  (["NoneType", "int", "bool", "str", "list", "tuple"] : List String).all (fun T => decide (PySem.W.kitOne K (.type T) (.ref (clsAt K G c)) = some false)) &&
  (List.range G.cls.length).all (fun d => decide (PySem.W.kitOne K (.ref (clsAt K G c)) (.ref (clsAt K G d)) = some (decide (c = d))))
def xtOf (G : Gx) (K : PySem.W.Frag) : Bool := (List.range G.cls.length).all fun c => clsB K G c
def clsC (G : Gx) (ds : List DfI) : Bool := G.cls.all (fun p => decide (G.cls.find? (fun q => decide (q.2 = p.2)) = some p) && decide (p.2 < G.cls.length)) && (List.range G.cls.length).all (fun c => (G.cls.find? (fun p => decide (p.2 = c))).isSome) &&
  G.ini.all (fun p => match ds[p.2]? with | some d => decide (d.x = "__init__") && (match d.of with | some x => decide (G.cls.find? (fun q => decide (q.2 = p.1)) = some (x, p.1)) && decide (p.1 < G.cls.length) | none => false) | none => false) && decide G.fld.Nodup && G.dfl.all (fun f => match ds[f]? with | some d => d.dfl | none => false) && ds.all (fun d => !d.dfl || !d.ps.isEmpty)
def xtD (ds : List DfI) (G : Gx) (K : PySem.W.Frag) : Bool := xtOf G K && dflC ds K
def cfgT (K : PySem.W.Frag) (ds : List DfI) (G : Gx) (w : World) (fnd : G.fld.Nodup) : Cfg := { K := K, cls := clsAt K G, nc := G.cls.length, fld := G.fld, xc := fun _ => 0, tabs := (csO K (ds.map dfd)).map (·.2), fnd := fnd, wo := w }
theorem nlk {β : Type} : ∀ {l : List (Nat × β)} {x : Nat} {b : β}, l.lookup x = some b → (x, b) ∈ l
  | [], _, _, h => by cases h
  | (y, c) :: r, x, b, h => by
    rw [List.lookup_cons] at h
    cases e : x == y with
    | true =>
      rw [e] at h
      cases h
      have : x = y := by simpa using e
      subst this
      exact List.mem_cons_self
    | false =>
      rw [e] at h
      exact List.mem_cons_of_mem _ (nlk h)
theorem fa_cls {G : Gx} {p : Str × Nat} (hp : p ∈ G.cls) {f : He.Fa} (h : f ∈ clsFa G p.1) : f ∈ faOf G :=
  List.mem_append_right _ (List.mem_append_right _ (List.mem_append_right _ (List.mem_flatMap.mpr ⟨p, hp, h⟩)))
theorem clsF_of {K : PySem.W.Frag} {G : Gx} {ds : List DfI} {w : World} {fnd : G.fld.Nodup} (c : He.SaysD (faOf G) (ds.map dfd) K) (hx : xtOf G K = true) (hc : clsC G ds = true) (d : Nat) (hd : d < G.cls.length) : ClsF (cfgT K ds G w fnd) d := by
  simp only [clsC, Bool.and_eq_true] at hc
  obtain ⟨⟨⟨⟨⟨_, h2⟩, _⟩, _⟩, _⟩, _⟩ := hc
  have hs := List.all_eq_true.mp h2 d (List.mem_range.mpr hd)
  obtain ⟨p, hp⟩ := Option.isSome_iff_exists.mp hs
  have hm := List.mem_of_find?_eq_some hp
  have ea : clsAt K G d = He.ga K p.1 := by unfold clsAt; rw [hp]
  have hb := List.all_eq_true.mp hx d (List.mem_range.mpr hd)
  simp only [clsB, Bool.and_eq_true, decide_eq_true_eq, List.all_eq_true, List.mem_range] at hb
  obtain ⟨⟨⟨⟨⟨⟨b1, b2⟩, b3⟩, b4⟩, b5⟩, b6⟩, b7⟩ := hb
  refine { cl := ?_, ha := b1, hn := b2, htk := b3, hm := b4, ty := b5, rev := b6, own := fun e he => b7 e he, noa := fun f hf => ?_ }
  · show Cls K (clsAt K G d)
    rw [ea]
    exact He.cls_ok (says_fact c (fa_cls hm (by simp [clsFa])))
  · show NoAttr K (clsAt K G d) f
    rw [ea]
    exact He.noat_ok (says_fact c (fa_cls hm (by
      unfold clsFa
      exact List.mem_cons_of_mem _ (List.mem_cons_of_mem _ (List.mem_cons_of_mem _ (List.mem_map.mpr ⟨f, hf, rfl⟩))))))
theorem heads_tab {K : PySem.W.Frag} {h : Heap} {mg : Str → Option Value} {G : Gx} {ds : List DfI} {w : World} (fnd : G.fld.Nodup) (KX : K.In h) (N : h.Ns mainGlobals mg) (c : He.SaysD (faOf G) (ds.map dfd) K) (hx : xtD ds G K = true) (hb : BindsAll ds) (hf : (fnsC G ds && cstC' G && clsC G ds) = true) :
    Heads (cfgT K ds G w fnd) G mg ds (addrOf K ds) true (csO K (ds.map dfd)) := by
  simp only [Bool.and_eq_true] at hf
  obtain ⟨⟨hf1, hf2⟩, hf3⟩ := hf
  have hc := hf3
  simp only [clsC, Bool.and_eq_true] at hc
  obtain ⟨⟨⟨⟨⟨g1, g2⟩, g3⟩, _⟩, g5⟩, g6⟩ := hc
  obtain ⟨hx, hxd⟩ := Bool.and_eq_true_iff.mp hx
  refine { fn := fun f d hd => ?_, bi := fun x hx => He.free_ok KX N (says_fact c (List.mem_append_right _ (List.mem_append_left _ (List.mem_map.mpr ⟨x, hx, rfl⟩)))), fns := fun x f hx => ?_, clsN := fun x cc hx' => ?_, cls := fun d h => clsF_of c hx hf3 d h, dflN := fun f d hfd hd => ?_, cst := fun x v hx => ?_, fl := rfl, ini := fun cc f hx' => ?_ }
  · obtain ⟨fd, F⟩ := c.def_ f (d := dfd d) (by rw [List.getElem?_map, hd]; rfl)
    have F : FunD K d.x d.qual (defArgs d.st) (defBody d.st) (defScope d.st) ((dvOf d).map (He.Dv.v K)) [] (addrOf K ds f) fd := by
      have e : addrOf K ds f = He.fAd K d.at_ := by unfold addrOf; rw [hd]
      rw [e]; exact F
    have g6 := List.all_eq_true.mp g6 _ (List.mem_of_getElem? hd)
    obtain ⟨b1, b2⟩ := binds_of (hb.at hd) F fun hdd => by
      rw [hdd] at g6
      intro z
      rw [z] at g6
      cases g6
    refine ⟨fd, _, F, b1, fun _ => ?_, fun hdd => ⟨_, b2 hdd, ?_⟩⟩
    · obtain ⟨cc, P, e1, e2⟩ := cs_mem hd F
      exact ⟨cc, P, e1, e2, List.mem_map.mpr ⟨_, e2, rfl⟩⟩
    · have := List.all_eq_true.mp hxd _ (List.mem_of_getElem? hd)
      rw [hdd] at this
      exact empC_ok (K := K) (by simpa using this)
  · have q := List.all_eq_true.mp g5 _ hfd
    rw [hd] at q
    exact q
  · have hm := lookup_mem hx
    have hg := List.all_eq_true.mp hf1 _ hm
    dsimp only at hg
    split at hg
    · rename_i d hd
      simp only [Bool.and_eq_true, decide_eq_true_eq, Option.isNone_iff_eq_none] at hg
      obtain ⟨e, e0⟩ := hg
      refine ⟨?_, (List.getElem?_eq_some_iff.mp hd).1⟩
      have q := He.glo_ok KX N (x := x) (says_fact c (List.mem_append_left _ (List.mem_map.mpr ⟨_, hm, rfl⟩)))
      rw [q]
      unfold addrOf
      rw [hd]
      show some (Value.ref (He.ga K x)) = some (.ref (He.fAd K d.at_))
      unfold DfI.at_ He.fAd
      rw [e0, e]
    · cases hg
  · have hm := lookup_mem hx'
    have q := List.all_eq_true.mp g1 _ hm
    simp only [Bool.and_eq_true, decide_eq_true_eq] at q
    obtain ⟨q1, q2⟩ := q
    refine ⟨?_, q2⟩
    have z := He.glo_ok KX N (x := x) (says_fact c (fa_cls hm (by simp [clsFa])))
    rw [z]
    show _ = some (Value.ref (clsAt K G cc))
    unfold clsAt
    rw [q1]
  · have hm := lookup_mem hx
    have hg := List.all_eq_true.mp hf2 _ hm
    have fc := says_fact c (List.mem_append_right _ (List.mem_append_right _ (List.mem_append_left _ (List.mem_map.mpr ⟨_, hm, rfl⟩))))
    cases v <;> simp at hg
    · obtain ⟨t, e⟩ := He.int_ok KX N fc
      exact ⟨_, e, .inl ⟨_, rfl, t, rfl⟩⟩
    · obtain ⟨t, e⟩ := He.str_ok KX N fc
      exact ⟨_, e, .inr ⟨_, rfl, t, rfl⟩⟩
  · have hm := nlk hx'
    have hg := List.all_eq_true.mp g3 _ hm
    dsimp only at hg
    split at hg
    · rename_i d hd
      simp only [Bool.and_eq_true, decide_eq_true_eq] at hg
      obtain ⟨e, hg⟩ := hg
      split at hg
      · rename_i x hx2
        simp only [Bool.and_eq_true, decide_eq_true_eq] at hg
        obtain ⟨q1, q2⟩ := hg
        refine ⟨q2, (List.getElem?_eq_some_iff.mp hd).1, ?_⟩
        have hmem := List.mem_of_find?_eq_some q1
        have M := He.mkr_ok (K := K) (x := x) (says_fact c (fa_cls hmem (by simp [clsFa])))
        show Mk K (clsAt K G cc) (addrOf K ds f)
        have e1 : clsAt K G cc = He.ga K x := by unfold clsAt; rw [q1]
        have e2 : addrOf K ds f = He.ma K (He.ga K x) "__init__" := by
          unfold addrOf
          rw [hd]
          show He.fAd K d.at_ = _
          unfold DfI.at_ He.fAd
          rw [hx2, e]
        rw [e1, e2]
        exact M
      · cases hg
    · cases hg
theorem sp_lawT {E : Cfg} {ds : List DfI} {k li : Nat} (A : Answers ds k li) {H : Hp} {a : Addr} {ns : List Int} (hT : ∀ P ∈ E.tabs, GxR.TabG H P) (hl : ns.length ≤ 63) (hS : SqL E.K H a (ns.map V.int)) :
    spF E (cfOf ds (fun _ _ => false) k) li [.ref a] H (fun v _ => v = .bl true) fun _ _ _ => False := by
  obtain ⟨S, e⟩ := A ns hl
  refine ⟨fun _ => 0, [], [.ro (ns.map .int)], ⟨hT, fun i j h => by simp at h, fun l o h => by simp at h⟩, RpL.cons ?_ RpL.nil, ?_⟩
  · simp only [Rp]
    refine ⟨a, ns.map V.int, rfl, ?_, RpL.ofInts ns⟩
    rcases hS with (h | ⟨o, h⟩) | h
    · exact .inl ⟨h, fun l hl => absurd hl (Nat.not_lt_zero l)⟩
    · exact .inr (.inl ⟨o, h⟩)
    · exact .inr (.inr h)
  · show Kt E _ (Rp E) _ [] [] H (run (tabOf ds) (fun _ _ => false) k li [.ro (ns.map .int)] []) _
    rw [e]
    exact fun α' x H' _ _ r => by simpa only [Rp] using r
theorem law_endT {l : PySem.W.OpenLaw} {w : World} {h : Heap} {mg : Str → Option Value} {fa : Addr} {G : Gx} {ds : List DfI} {k li fuel : Nat} {d : DfI} {x : Str} (A : Answers ds k li)
    (Y : ∃ K : PySem.W.Frag, K.In h ∧ He.SaysD (faOf G) (ds.map dfd) K ∧ TabS K (ds.map dfd) h ∧ xtD ds G K = true) (N : h.Ns mainGlobals mg) (hmg : mg d.x = some (.ref fa)) (hb : BindsAll ds) (hf : (fnsC G ds && cstC' G && clsC G ds) = true) (hc : ds.all (·.ok G fuel true) = true) (hd : ds[li]? = some d) (hg : G.fns.lookup d.x = some li) (hps : d.ps = [x]) (hdl : d.dfl = false) :
    ∃ K : PySem.W.Frag, K.In h ∧ LamX.LawAtS l w K (L2.CX l.prog w) (4 * k) 63 x mg fa h := by
  obtain ⟨K, KX, c, t, hx⟩ := Y
  refine ⟨K, KX, ?_⟩
  have fnd : G.fld.Nodup := by
    simp only [clsC, Bool.and_eq_true, decide_eq_true_eq] at hf
    exact hf.2.1.1.2
  have B := heads_tab (w := w) fnd KX N c hx hb hf
  obtain ⟨fd, dvs, F, b, hcd, _⟩ := B.fn li d hd
  have e : fa = addrOf K ds li := by
    have q := (B.fns _ _ hg).1
    rw [hmg] at q
    cases q; rfl
  subst e
  refine ⟨fd, csO K (ds.map dfd), spF (cfgT K ds G w fnd) (cfOf ds (fun _ _ => false) k) li, fun p hp => (t p hp).2.2, fun p hp => (t p hp).2.1, fun p hp => PySem.W.codeHd_of_K KX (t p hp).1, fun s u => ?_, fun H a ns hl _ hT hS => ?_, fun base _ _ ht => ?_⟩
  · obtain ⟨fd0, F0⟩ := c.def_ li (d := dfd d) (by rw [List.getElem?_map, hd]; rfl)
    have F0 : FunD K d.x d.qual (defArgs d.st) (defBody d.st) (defScope d.st) [] [] (addrOf K ds li) fd0 := by
      have e : addrOf K ds li = He.fAd K d.at_ := by unfold addrOf; rw [hd]
      have e2 : (dvOf d).map (He.Dv.v K) = [] := by unfold dvOf; rw [hdl]; rfl
      have F1 : FunD K d.x d.qual (defArgs d.st) (defBody d.st) (defScope d.st) ((dvOf d).map (He.Dv.v K)) [] (He.fAd K d.at_) fd0 := F0
      rw [e2] at F1
      rw [e]; exact F1
    have efd : fd0 = fd := by
      obtain ⟨oc, od, dV, kV, doc, pm, an, cdv, ct, osl, _, lk, _⟩ := F0.ex
      obtain ⟨oc', od', dV', kV', doc', pm', an', cdv', ct', osl', _, lk', _⟩ := F.ex
      have lk' : K.lookup (addrOf K ds li) = _ := lk'
      rw [lk] at lk'
      injection lk' with z
      injection z with _ _ z _
      injection z
    subst efd
    have hbd := hb.at hd
    unfold BindsD at hbd
    rw [hdl] at hbd
    have q := FunD.bindsA (ps := d.ps) F0 hbd s [u] (by rw [hps]; rfl)
    rw [hps] at q
    exact q
  · refine sp_lawT A (fun P hP => ?_) hl hS
    obtain ⟨p, hp, rfl⟩ := List.mem_map.mp hP
    exact ⟨#[], hT p hp, by trivial⟩
  · rw [← hps]
    exact fn_all (E := cfgT K ds G w fnd) B rfl (fun p hp => ⟨(ht p hp).code, (ht p hp).bm, (ht p hp).gP⟩) hc k li d fd dvs hd F hcd
end PM
end
section
namespace PM
open PySem
def okP : Res PV → Option PV
  | .ok v [] => some v
  | _ => none
def bopA (o : BOp) (x y : PV) : Option PV := match bopV o [] x y with
  | .ok v [] => some v
  | .ok _ [.lst xs] => some (.lst xs)
  | _ => none
def bqA (b : BI) (vs : List PV) : Option PV := match b with
  | .len | .int | .tuple | .min2 | .sum | .str | .tupR1 => okP (biV b [] vs)
  | .list | .sorted | .listR1 => (match biV b [] vs with | .ok _ [.lst xs] => some (.lst xs) | _ => none)
  | _ => none
def bqP (b : BI) (vs : List PV) : Option PV := match b with
  | .len | .int | .tuple | .min2 | .sum | .str | .tupR1 => okP (biV b [] vs)
  | _ => none
def slA (x : PV) (l h : Option Int) : Option PV := match x with
  | .tup xs => some (.tup (cutP xs l h))
  | .lst xs => some (.lst (cutP xs l h))
  | .ro xs => some (.lst (cutP xs l h))
  | _ => none
def noCf : Cf := ⟨fun _ _ _ => .bad, fun _ _ => false⟩
def pcomp (asg : PV → Option Env) (cond : Env → Option Bool) (elt : Env → Option PV) : List PV → Option (List PV)
  | [] => some []
  | x :: xs => (asg x).bind fun ρ => (cond ρ).bind fun b => if b = true then (elt ρ).bind fun y => (pcomp asg cond elt xs).map (y :: ·) else pcomp asg cond elt xs
def pgen (k : Bool) (asg : PV → Option Env) (elt : Env → Option PV) : List PV → Option Bool
  | [] => some k
  | x :: xs => (asg x).bind fun ρ => (elt ρ).bind fun y => match y with
    | .bl b => if b = k then pgen k asg elt xs else some (!k)
    | _ => none
section
variable (pf : Nat → List PV → Option PV)
mutual
def pe : CE → Env → Option PV
  | .cst v => fun _ => if pur v = true then some v else none
  | .var i => fun ρ => match ρ[i]? with
    | some (some v) => some v
    | _ => none
  | .glo _ v => fun _ => if pur v = true then some v else none
  | .gen k elt own tg it => fun ρ => (pi it ρ).bind fun xs => (pgen k (fun x => pt tg x (wipe ρ own)) (pe elt) xs).map .bl
  | .pow i j => fun _ => some (.int ((i : Int) ^ j))
  | .bop o a b => fun ρ => (pe a ρ).bind fun x => (pe b ρ).bind fun y => okP (bopV o [] x y)
  | .cmp o a b => fun ρ => (pe a ρ).bind fun x => (pe b ρ).bind fun y => (cmpV o [] x y).map .bl
  | .cmp2 o o' a b c => fun ρ => (pe a ρ).bind fun x => (pe b ρ).bind fun y => (cmpV o [] x y).bind fun k =>
      if k = true then (pe c ρ).bind fun z => (cmpV o' [] y z).map .bl else some (.bl false)
  | .and a b => fun ρ => (pe a ρ).bind fun x => match x with
    | .bl true => pe b ρ
    | .bl false => some (.bl false)
    | _ => none
  | .or a b => fun ρ => (pe a ρ).bind fun x => match x with
    | .bl false => pe b ρ
    | .bl true => some (.bl true)
    | _ => none
  | .not a => fun ρ => (pe a ρ).bind fun x => (truth [] x).map fun k => .bl (!k)
  | .neg a => fun ρ => (pe a ρ).bind fun x => match x with
    | .int i => some (.int (-i))
    | _ => none
  | .tup es => fun ρ => (pes es ρ).bind fun vs => if vs.length ≤ LIM then some (.tup vs) else none
  | .ix a i => fun ρ => (pe a ρ).bind fun x => (pe i ρ).bind fun y => ixV [] x y
  | .bi b es => fun ρ => (pes es ρ).bind fun vs => bqP b vs
  | .isi e ks => fun ρ => (pe e ρ).bind fun x => (isiV [] noCf x ks).map .bl
  | .fz e => fun ρ => pa e ρ
  | _ => fun _ => none
def pa : CE → Env → Option PV
  | .lst es => fun ρ => (pes es ρ).bind fun vs => if vs.length ≤ LIM then some (.lst vs) else none
  | .bop o a b => fun ρ => (pe a ρ).bind fun x => (pe b ρ).bind fun y => bopA o x y
  | .sl a lo hi => fun ρ => (pe a ρ).bind fun x => (po lo ρ).bind fun l => (po hi ρ).bind fun h => slA x l h
  | .rev a => fun ρ => (pe a ρ).bind fun x => (lstOf [] x).map fun xs => .lst xs.reverse
  | .bi b es => fun ρ => (pes es ρ).bind fun vs => bqA b vs
  | .call f es => fun ρ => (pes es ρ).bind fun vs => pf f vs
  | .comp elt own tg it cond => fun ρ => (pi it ρ).bind fun xs => if xs.length ≤ LIM then (pcomp (fun x => pt tg x (wipe ρ own)) (pb cond) (pe elt) xs).map .lst else none
  | _ => fun _ => none
def pes : CEs → Env → Option (List PV)
  | .nil => fun _ => some []
  | .cons e es => fun ρ => (pe e ρ).bind fun v => (pes es ρ).map fun vs => v :: vs
def po : CEo → Env → Option (Option Int)
  | .none => fun _ => some none
  | .some e => fun ρ => (pe e ρ).bind fun v => match v with
    | .int i => some (some i)
    | _ => none
def pb : CEo → Env → Option Bool
  | .none => fun _ => some true
  | .some e => fun ρ => (pe e ρ).bind fun v => truth [] v
def pi : CI → Env → Option (List PV)
  | .seq e => fun ρ => (pe e ρ).bind fun v => seqOf [] v
  | .rng1 e => fun ρ => (pe e ρ).bind fun v => match v with
    | .int n => if okR 0 n = true then some (rngL 0 n) else none
    | _ => none
  | .rng2 a b => fun ρ => (pe a ρ).bind fun v => (pe b ρ).bind fun u => match v, u with
    | .int m, .int n => if okR m n = true then some (rngL m n) else none
    | _, _ => none
  | .enum e => fun ρ => (pe e ρ).bind fun v => (seqOf [] v).map fun xs => xs.zipIdx.map fun p => .tup [.int p.2, p.1]
  | .zip a b => fun ρ => (pe a ρ).bind fun v => (pe b ρ).bind fun u => if zipK v u = true then (seqOf [] v).bind fun xs => (seqOf [] u).map fun ys => (xs.zip ys).map fun p => .tup [p.1, p.2] else none
def pt : CT → PV → Env → Option Env
  | .var i => fun v ρ => some (ρ.set i (some v))
  | .tup ts => fun v ρ => (seqOf [] v).bind fun vs => pts ts vs ρ
  | _ => fun _ _ => none
def pts : CTs → List PV → Env → Option Env
  | .nil => fun vs ρ => match vs with
    | [] => some ρ
    | _ :: _ => none
  | .cons t ts => fun vs ρ => match vs with
    | [] => none
    | v :: r => (pt t v ρ).bind fun ρ' => pts ts r ρ'
end
inductive PR where
  | nx (ρ : Env) | ret (v : PV)
def PR.seq (q : PR) (f : Env → Option PR) : Option PR := match q with
  | .nx ρ => f ρ
  | r => some r
def pfor (asg : PV → Env → Option Env) (body : Env → Option PR) : List PV → Env → Option PR
  | [], ρ => some (.nx ρ)
  | x :: xs, ρ => (asg x ρ).bind fun ρ' => (body ρ').bind fun q => q.seq (pfor asg body xs)
def pwh (c : Env → Option Bool) (body : Env → Option PR) : Nat → Env → Option PR
  | 0, _ => none
  | n + 1, ρ => (c ρ).bind fun b => if b = true then (body ρ).bind fun q => q.seq (pwh c body n) else some (.nx ρ)
def pB (e : CE) (ρ : Env) : Option Bool := (pe pf e ρ).bind fun v => truth [] v
def px : CSs → Env → Option PR
  | .nil => fun ρ => some (.nx ρ)
  | .pass r => fun ρ => px r ρ
  | .asg t e r => fun ρ => (pe pf e ρ).bind fun v => (pt pf t v ρ).bind fun ρ' => px r ρ'
  | .par is es r => fun ρ => (pes pf es ρ).bind fun vs => (par2 is vs ρ).bind fun ρ' => px r ρ'
  | .aug i o e r => fun ρ => (match ρ[i]? with | some (some x) => some x | _ => none).bind fun x => (pe pf e ρ).bind fun y => (okP (augV o [] x y)).bind fun z => px r (ρ.set i (some z))
  | .ex e r => fun ρ => (pe pf e ρ).bind fun _ => px r ρ
  | .ret e => fun ρ => (pe pf e ρ).map .ret
  | .retN => fun _ => some (.ret .non)
  | .iff c a b r => fun ρ => (pB pf c ρ).bind fun k => (if k = true then px a ρ else px b ρ).bind fun q => q.seq (px r)
  | .for t it body r => fun ρ => (pi pf it ρ).bind fun xs => (pfor (pt pf t) (px body) xs ρ).bind fun q => q.seq (px r)
  | .wh n c body r => fun ρ => (pwh (pB pf c) (px body) n ρ).bind fun q => q.seq (px r)
  | _ => fun _ => none
end
def prun (tab : Nat → Option Fn) (ov : Nat → Option (List PV → Option PV)) : Nat → Nat → List PV → Option PV
  | 0 => fun _ _ => none
  | k + 1 => fun f vs => match ov f with
    | some g => g vs
    | none => match tab f with
      | some d => if vs.length = d.np then (px (prun tab ov k) d.body (startE d.n vs)).map (fun | .nx _ => .non | .ret v => v) else none
      | none => none
end PM
end
section
namespace PM
open PySem
theorem purs_iff : ∀ {xs : List PV}, purs xs = true ↔ ∀ x ∈ xs, pur x = true
  | [] => by simp [purs]
  | x :: xs => by simp [purs, purs_iff (xs := xs)]
theorem seq_f {v : PV} {xs : List PV} (h : seqOf [] v = some xs) (S : Sto) : seqOf S v = some xs ∧ (pur v = true → purs xs = true) := by
  cases v <;> simp [seqOf, lstOf] at h ⊢ <;> (subst h; simp [pur])
theorem lst_f {v : PV} {xs : List PV} (h : lstOf [] v = some xs) (S : Sto) : lstOf S v = some xs ∧ (pur v = true → purs xs = true) := by
  cases v <;> simp [lstOf] at h ⊢ <;> (subst h; simp [pur])
theorem truth_f {v : PV} {b : Bool} (h : truth [] v = some b) (S : Sto) : truth S v = some b := by
  cases v <;> simp [truth] at h ⊢ <;> exact h
mutual
theorem toDw_f {g g' : Nat → Option PyData} (hg : ∀ l d, g l = some d → g' l = some d) : ∀ (v : PV) (d : PyData), toDw g v = some d → toDw g' v = some d
  | .non, _, h => h
  | .bl _, _, h => h
  | .int _, _, h => h
  | .str _, _, h => h
  | .tup xs, d, h => by
    simp only [toDw] at h ⊢
    obtain ⟨ds, e1, e2⟩ := Option.map_eq_some_iff.mp h
    rw [toDws_f hg xs ds e1, ← e2]; rfl
  | .lst xs, d, h => by
    simp only [toDw] at h ⊢
    obtain ⟨ds, e1, e2⟩ := Option.map_eq_some_iff.mp h
    rw [toDws_f hg xs ds e1, ← e2]; rfl
  | .ro xs, d, h => by
    simp only [toDw] at h ⊢
    obtain ⟨ds, e1, e2⟩ := Option.map_eq_some_iff.mp h
    rw [toDws_f hg xs ds e1, ← e2]; rfl
  | .obj _ _ _, _, h => h
  | .loc l, d, h => by simp only [toDw] at h ⊢; exact hg l d h
theorem toDws_f {g g' : Nat → Option PyData} (hg : ∀ l d, g l = some d → g' l = some d) : ∀ (xs : List PV) (ds : List PyData), toDws g xs = some ds → toDws g' xs = some ds
  | [], _, h => h
  | x :: xs, ds, h => by
    simp only [toDws] at h ⊢
    split at h
    · rename_i d ds' e1 e2
      rw [toDw_f hg x d e1, toDws_f hg xs ds' e2]
      exact h
    · cases h
end
theorem toDL_nil : ∀ (k l : Nat) (d : PyData), toDL [] k l = some d → False
  | 0, _, _, h => by simp [toDL] at h
  | k + 1, l, d, h => by simp [toDL] at h
theorem toD_f {v : PV} {d : PyData} (h : toD [] v = some d) (S : Sto) : toD S v = some d := toDw_f (fun l d e => (toDL_nil 6 l d e).elim) v d h
theorem toDs_f {v : List PV} {d : List PyData} (h : toDws (toDL [] 6) v = some d) (S : Sto) : toDws (toDL S 6) v = some d := toDws_f (fun l d e => (toDL_nil 6 l d e).elim) v d h
theorem eqS_f {v w : PV} {b : Bool} (h : eqS [] v w = some b) (S : Sto) : eqS S v w = some b := by
  unfold eqS at h ⊢
  split at h
  · rename_i d e e1 e2
    rw [toD_f e1 S, toD_f e2 S]
    exact h
  · cases h
theorem any_f {x : PV} {ys : List PV} {b : Bool} (h : anyEq [] x ys = some b) (S : Sto) : anyEq S x ys = some b := by
  unfold anyEq at h ⊢
  split at h
  · rename_i d e e1 e2
    rw [toD_f e1 S, toDs_f e2 S]
    exact h
  · cases h
theorem in_f {x y : PV} {b : Bool} (h : inV [] x y = some b) (S : Sto) : inV S x y = some b := by
  cases y <;> simp only [inV] at h ⊢ <;> first | exact h | exact any_f h S | skip
  simp [dfind] at h
theorem cmp_f {o : COp} {x y : PV} {b : Bool} (h : cmpV o [] x y = some b) (S : Sto) : cmpV o S x y = some b := by
  cases o <;> simp only [cmpV] at h ⊢ <;> first | exact h | exact eqS_f h S | exact in_f h S | skip
  · obtain ⟨c, e1, e2⟩ := Option.map_eq_some_iff.mp h
    rw [eqS_f e1 S, ← e2]; rfl
  · obtain ⟨c, e1, e2⟩ := Option.map_eq_some_iff.mp h
    rw [in_f e1 S, ← e2]; rfl
theorem isi_f {x : PV} {ks : List KN} {b : Bool} {cf : Cf} (h : isiV [] noCf x ks = some b) (S : Sto) : isiV S cf x ks = some b := by
  cases x <;> simp [isiV] at h ⊢ <;> exact h
theorem atI_mem {xs : List PV} {i : Int} {v : PV} (h : L2.atI xs i = some v) : v ∈ xs := by
  unfold L2.atI at h
  obtain ⟨j, _, e⟩ := Option.bind_eq_some_iff.mp h
  exact List.mem_of_getElem? e
theorem ix_f {x y v : PV} (h : ixV [] x y = some v) (S : Sto) : ixV S x y = some v ∧ (pur x = true → pur v = true) := by
  unfold ixV at h ⊢
  split at h
  · refine ⟨h, fun _ => ?_⟩
    split at h
    · obtain ⟨c, _, e⟩ := Option.map_eq_some_iff.mp h
      subst e; rfl
    · cases h
  · simp [dfind] at h
  · rename_i x i h1 h2
    obtain ⟨xs, e1, e2⟩ := Option.bind_eq_some_iff.mp h
    obtain ⟨f1, f2⟩ := seq_f e1 S
    refine ⟨?_, fun hp => purs_iff.mp (f2 hp) _ (atI_mem e2)⟩
    simp [f1, e2]
  · cases h
theorem need_true {β : Type} {b : Bool} {r : Res β} (h : b = true) : Res.need b r = r := by subst h; rfl
theorem need_ok {b : Bool} {r : Res PV} {v : PV} {S : Sto} (h : Res.need b r = .ok v S) : b = true ∧ r = .ok v S := by
  cases b
  · cases h
  · exact ⟨rfl, h⟩
theorem opt_ok {β : Type} {o : Option β} {f : β → Res PV} {v : PV} {S : Sto} (h : Res.opt o f = .ok v S) : ∃ a, o = some a ∧ f a = .ok v S := by
  cases o
  · cases h
  · exact ⟨_, rfl, h⟩
theorem new_no {S S' : Sto} {o : MO} {v : PV} (h : new S o = .ok v S') : v = .loc S.length ∧ S' = S ++ [o] := by
  unfold new at h; cases h; exact ⟨rfl, rfl⟩
theorem purs_app {a b : List PV} (h1 : purs a = true) (h2 : purs b = true) : purs (a ++ b) = true := purs_iff.mpr fun x hx => (List.mem_append.mp hx).elim (purs_iff.mp h1 x) (purs_iff.mp h2 x)
theorem purs_rep {a : List PV} (h1 : purs a = true) (k : Nat) : purs (List.replicate k a).flatten = true := purs_iff.mpr fun x hx => by
  obtain ⟨l, hl, hx⟩ := List.mem_flatten.mp hx
  rw [(List.mem_replicate.mp hl).2] at hx
  exact purs_iff.mp h1 x hx
theorem trk_f {v : PV} {xs : List PV} (h : trk [] v = some xs) (S : Sto) : trk S v = some xs ∧ (pur v = true → purs xs = true) := by
  cases v <;> simp [trk] at h ⊢ <;> (subst h; simp [pur])
theorem bop_f {o : BOp} {x y v : PV} {S0 : Sto} (h : bopV o [] x y = .ok v S0) (S : Sto) :
    (S0 = [] ∧ bopV o S x y = .ok v S ∧ (pur x = true → pur y = true → pur v = true)) ∨ ∃ xs, S0 = [.lst xs] ∧ bopV o S x y = new S (.lst xs) ∧ (pur x = true → pur y = true → purs xs = true) := by
  cases o <;> simp only [bopV] at h ⊢
  · unfold addV at h ⊢
    split at h
    · cases h; exact .inl ⟨rfl, rfl, fun _ _ => rfl⟩
    · obtain ⟨e, h⟩ := need_ok h
      cases h
      exact .inl ⟨rfl, need_true e, fun _ _ => rfl⟩
    · obtain ⟨e, h⟩ := need_ok h
      cases h
      exact .inl ⟨rfl, need_true e, fun h1 h2 => by simp only [pur] at h1 h2 ⊢; exact purs_app h1 h2⟩
    · rename_i n1 n2 n3
      obtain ⟨a, e1, h⟩ := opt_ok h
      obtain ⟨b, e2, h⟩ := opt_ok h
      obtain ⟨e3, h⟩ := need_ok h
      obtain ⟨_, rfl⟩ := new_no h
      obtain ⟨f1, f2⟩ := trk_f e1 S
      obtain ⟨f3, f4⟩ := trk_f e2 S
      refine .inr ⟨a ++ b, rfl, ?_, fun h1 h2 => purs_app (f2 h1) (f4 h2)⟩
      simp only [f1, f3, Res.opt]
      exact need_true e3
  · unfold subV at h ⊢
    split at h
    · cases h; exact .inl ⟨rfl, rfl, fun _ _ => rfl⟩
    · cases h
  · unfold mulV at h ⊢
    split at h
    · obtain ⟨e, h⟩ := need_ok h
      cases h
      exact .inl ⟨rfl, need_true e, fun _ _ => rfl⟩
    · obtain ⟨e, h⟩ := need_ok h
      cases h
      exact .inl ⟨rfl, need_true e, fun h1 h2 => by simp only [pur] at h1 ⊢; exact purs_rep h1 _⟩
    · obtain ⟨a, e1, h⟩ := opt_ok h
      obtain ⟨e3, h⟩ := need_ok h
      obtain ⟨_, rfl⟩ := new_no h
      obtain ⟨f1, f2⟩ := trk_f e1 S
      refine .inr ⟨_, rfl, ?_, fun h1 h2 => purs_rep (f2 h1) _⟩
      simp only [f1, Res.opt]
      exact need_true e3
    · cases h
  · unfold fdivV at h ⊢
    split at h
    · obtain ⟨e, h⟩ := need_ok h
      cases h
      exact .inl ⟨rfl, need_true e, fun _ _ => rfl⟩
    · cases h
  · unfold modV at h ⊢
    split at h
    · obtain ⟨e, h⟩ := need_ok h
      cases h
      exact .inl ⟨rfl, need_true e, fun _ _ => rfl⟩
    · cases h
end PM
end
section
namespace PM
open PySem
theorem okP_is {r : Res PV} {v : PV} (h : okP r = some v) : r = .ok v [] := by
  unfold okP at h
  split at h
  · cases h; rfl
  · cases h
theorem b1_ok {f : PV → Res PV} {vs : List PV} {v : PV} {S : Sto} (h : b1 f vs = .ok v S) : ∃ x, vs = [x] ∧ f x = .ok v S := by
  unfold b1 at h
  split at h
  · exact ⟨_, rfl, h⟩
  · cases h
theorem b2_ok {f : PV → PV → Res PV} {vs : List PV} {v : PV} {S : Sto} (h : b2 f vs = .ok v S) : ∃ x y, vs = [x, y] ∧ f x y = .ok v S := by
  unfold b2 at h
  split at h
  · exact ⟨_, _, rfl, h⟩
  · cases h
theorem len_f {x : PV} {n : Nat} (h : lenV [] x = some n) (S : Sto) : lenV S x = some n := by
  cases x <;> simp [lenV, seqOf, lstOf] at h ⊢ <;> exact h
theorem keys_nil {x : PV} : keysOf [] x = none := by cases x <;> simp [keysOf]
theorem keys_pur {x : PV} {S : Sto} (h : pur x = true) : keysOf S x = none := by cases x <;> simp [keysOf, pur] at h ⊢
theorem intsV_pur : ∀ {is : List Int}, purs (is.map PV.int) = true
  | [] => rfl
  | i :: is => by simp [purs, pur, intsV_pur (is := is)]
theorem bqP_f {b : BI} {vs : List PV} {v : PV} (h : bqP b vs = some v) (hp : purs vs = true) (S : Sto) : biV b S vs = .ok v S ∧ pur v = true := by
  cases b <;> simp only [bqP] at h <;> first | (cases h; done) | skip
  all_goals (have h := okP_is h; simp only [biV] at h ⊢)
  · obtain ⟨x, e0, h2⟩ := b1_ok h; clear h; subst e0; have h := h2; clear h2
    obtain ⟨n, e, h⟩ := opt_ok h
    cases h
    exact ⟨by show Res.opt (lenV S x) _ = _; rw [len_f e S]; rfl, rfl⟩
  · obtain ⟨x, e0, h2⟩ := b1_ok h; clear h; subst e0; have h := h2; clear h2
    cases x <;> simp only [intB] at h <;> first | (cases h; done) | skip
    · cases h; exact ⟨rfl, rfl⟩
    · cases h; exact ⟨rfl, rfl⟩
  · obtain ⟨x, e0, h2⟩ := b1_ok h; clear h; subst e0; have h := h2; clear h2
    simp only [purs, Bool.and_true] at hp
    show tupB S x = _ ∧ _
    unfold tupB at h ⊢
    split at h
    · cases h; exact ⟨rfl, hp⟩
    · obtain ⟨xs, e, h⟩ := opt_ok h
      cases h
      obtain ⟨f1, f2⟩ := lst_f e S
      refine ⟨?_, by simp only [pur]; exact f2 hp⟩
      simp only [f1, Res.opt]
  · obtain ⟨x, y, e0, h2⟩ := b2_ok h; clear h; subst e0; have h := h2; clear h2
    show min2B S x y = _ ∧ _
    unfold min2B at h ⊢
    split at h
    · cases h; exact ⟨rfl, rfl⟩
    · cases h
  · obtain ⟨x, e0, h2⟩ := b1_ok h; clear h; subst e0; have h := h2; clear h2
    obtain ⟨is, e, h⟩ := opt_ok h
    cases h
    obtain ⟨xs, e1, e2⟩ := Option.bind_eq_some_iff.mp e
    refine ⟨?_, rfl⟩
    show sumB S x = _
    unfold sumB
    rw [(lst_f e1 S).1]
    show Res.opt (intsV xs) _ = _
    rw [e2]
    rfl
  · obtain ⟨x, e0, h2⟩ := b1_ok h; clear h; subst e0; have h := h2; clear h2
    show strB S x = _ ∧ _
    unfold strB at h ⊢
    split at h
    · obtain ⟨e, h⟩ := need_ok h
      cases h
      exact ⟨need_true e, rfl⟩
    · cases h
  · obtain ⟨x, e0, h2⟩ := b1_ok h; clear h; subst e0; have h := h2; clear h2
    show tupR1B S x = _ ∧ _
    unfold tupR1B at h ⊢
    split at h
    · obtain ⟨e, h⟩ := need_ok h
      cases h
      exact ⟨need_true e, by simp only [pur]; exact purs_iff.mpr fun z hz => by obtain ⟨i, _, rfl⟩ := List.mem_map.mp hz; rfl⟩
    · cases h
theorem bqA_f {b : BI} {vs : List PV} {v : PV} (h : bqA b vs = some v) (hp : purs vs = true) (S : Sto) : (biV b S vs = .ok v S ∧ pur v = true) ∨ ∃ xs, v = .lst xs ∧ biV b S vs = new S (.lst xs) ∧ purs xs = true := by
  by_cases hb : bqP b vs = some v
  · exact .inl (bqP_f hb hp S)
  · cases b <;> simp only [bqA, bqP] at h hb <;> first | (cases h; done) | exact absurd h hb | skip
    · split at h
      · rename_i xs e
        cases h
        simp only [biV] at e ⊢
        obtain ⟨x, e0, h2⟩ := b1_ok e; clear e; subst e0; have e := h2; clear h2
        simp only [purs, Bool.and_true] at hp
        refine .inr ⟨xs, rfl, ?_⟩
        show listB S x = _ ∧ _
        unfold listB at e ⊢
        rw [keys_nil] at e
        rw [keys_pur hp]
        simp only at e ⊢
        obtain ⟨ys, e1, e⟩ := opt_ok e
        obtain ⟨_, e2⟩ := new_no e
        obtain ⟨f1, f2⟩ := seq_f e1 S
        simp at e2
        subst e2
        simp only [f1, Res.opt]
        exact ⟨trivial, f2 hp⟩
      · cases h
    · split at h
      · rename_i xs e
        cases h
        simp only [biV] at e ⊢
        obtain ⟨x, e0, h2⟩ := b1_ok e; clear e; subst e0; have e := h2; clear h2
        simp only [purs, Bool.and_true] at hp
        refine .inr ⟨xs, rfl, ?_⟩
        show sortB S x = _ ∧ _
        unfold sortB at e ⊢
        rw [keys_nil] at e
        rw [keys_pur hp]
        simp only at e ⊢
        obtain ⟨is, e1, e⟩ := opt_ok e
        obtain ⟨e3, e⟩ := need_ok e
        obtain ⟨_, e2⟩ := new_no e
        obtain ⟨ys, e4, e5⟩ := Option.bind_eq_some_iff.mp e1
        simp at e2
        subst e2
        rw [(lst_f e4 S).1]
        show Res.opt (intsV ys) _ = _ ∧ _
        rw [e5]
        exact ⟨need_true e3, intsV_pur⟩
      · cases h
    · split at h
      · rename_i xs e
        cases h
        simp only [biV] at e ⊢
        obtain ⟨x, e0, h2⟩ := b1_ok e; clear e; subst e0; have e := h2; clear h2
        refine .inr ⟨xs, rfl, ?_⟩
        show listR1B S x = _ ∧ _
        unfold listR1B at e ⊢
        split at e
        · obtain ⟨e3, e⟩ := need_ok e
          obtain ⟨_, e2⟩ := new_no e
          simp at e2
          subst e2
          exact ⟨need_true e3, purs_iff.mpr fun z hz => by obtain ⟨i, _, rfl⟩ := List.mem_map.mp hz; rfl⟩
        · cases e
      · cases h
theorem frz_new {S : Sto} {xs : List PV} (h : purs xs = true) : fzR S (new S (.lst xs)) = .ok (.lst xs) S := by
  unfold fzR new
  simp only [List.take_left', if_true]
  have e : frz S.length (S ++ [.lst xs]) (.loc S.length) = some (.lst xs) := by
    unfold frz
    simp only [sbst, frzL]
    rw [if_neg (Nat.lt_irrefl _)]
    simp [sbsts_pur _ xs h]
  rw [e]
  rfl
theorem frz_pur {S : Sto} {v : PV} (h : pur v = true) : fzR S (.ok v S) = .ok v S := by
  unfold fzR
  simp only [List.take_length, if_true]
  have e : frz S.length S v = some v := sbst_pur _ v h
  rw [e]
  rfl
theorem slA_f {x v : PV} {l u : Option Int} (h : slA x l u = some v) (hx : pur x = true) : (∀ S, fzR S (slV S x l u) = .ok v S) ∧ pur v = true := by
  have cut : ∀ xs : List PV, purs xs = true → purs (cutP xs l u) = true := fun xs hx => purs_iff.mpr fun z hz => purs_iff.mp hx z (List.mem_of_mem_drop (List.mem_of_mem_take hz))
  cases x <;> simp only [slA, Option.some.injEq] at h <;> first | (cases h; done) | skip
  · subst h
    simp only [pur] at hx
    have q := cut _ hx
    exact ⟨fun S => frz_pur (by simp only [pur]; exact q), by simp only [pur]; exact q⟩
  · subst h
    simp only [pur] at hx ⊢
    exact ⟨fun S => frz_new (cut _ hx), cut _ hx⟩
  · subst h
    simp only [pur] at hx ⊢
    exact ⟨fun S => frz_new (cut _ hx), cut _ hx⟩
end PM
end
section
namespace PM
open PySem
inductive QV where | v (x : PV) | o (m : MO)
abbrev QEnv := List (Option QV)
inductive Out where | v (x : PV) | e (c : Nat)
def QV.rd : QV → Option PV
  | .v x => some x
  | .o (.lst xs) => some (.lst xs)
  | .o _ => none
def qv (e : CE) (ρ : QEnv) (k : Option PV) : Option QV := match e with
  | .var i => match ρ[i]? with
    | some (some q) => some q
    | _ => none
  | _ => k.map .v
def qr (e : CE) (ρ : QEnv) (k : Option PV) : Option PV := (qv e ρ k).bind QV.rd
def inQ (x : PV) (y : QV) : Option Bool := match y with
  | .o (.dic kvs) => (keyF x).map fun k => (findF kvs k).isSome
  | .o (.dkn kvs) => (keyT x).map fun k => (findT kvs k).isSome
  | y => y.rd.bind fun b => inV [] x b
def cmpQ (o : COp) (x y : QV) : Option Bool := match o with
  | .isin => x.rd.bind fun a => inQ a y
  | .nin => (x.rd.bind fun a => inQ a y).map (!·)
  | o => x.rd.bind fun a => y.rd.bind fun b => cmpV o [] a b
def ixQ (x : QV) (y : PV) : Option PV := match x with
  | .o (.dic kvs) => (keyF y).bind (findF kvs)
  | .o (.dkn kvs) => (keyT y).bind (findT kvs)
  | x => x.rd.bind fun a => ixV [] a y
def fldQ (x : QV) (f : Nat) : Option PV := match x with
  | .v a => fldV [] a f
  | .o (.ins _ fs) => fs.lookup f
  | _ => none
def itemsQ (v : PV) : Option (List PV) := match v with
  | .str z => some (signs z)
  | v => seqOf [] v
def liveIt (it : CI) (ρ : QEnv) (k : Option (List PV)) : Option (List PV) := match it with
  | .seq (.var i) => match ρ[i]? with
    | some (some (.o (.lst xs))) => some xs
    | _ => k
  | _ => k
def outV : Option Out → Option PV
  | some (.v x) => some x
  | _ => none
def qwipe (ρ : QEnv) : List Nat → QEnv
  | [] => ρ
  | v :: vs => (qwipe ρ vs).set v none
def qcomp (asg : PV → Option QEnv) (cond : QEnv → Option Bool) (elt : QEnv → Option PV) : List PV → Option (List PV)
  | [] => some []
  | x :: xs => (asg x).bind fun ρ => (cond ρ).bind fun b => if b = true then (elt ρ).bind fun y => (qcomp asg cond elt xs).map (y :: ·) else qcomp asg cond elt xs
def qgen (k : Bool) (asg : PV → Option QEnv) (elt : QEnv → Option PV) : List PV → Option Bool
  | [] => some k
  | x :: xs => (asg x).bind fun ρ => (elt ρ).bind fun y => match y with
    | .bl b => if b = k then qgen k asg elt xs else some (!k)
    | _ => none
def qdc (asg : PV → Option QEnv) (key val : QEnv → Option PV) : List PV → MO → Option MO
  | [], m => some m
  | x :: xs, m => (asg x).bind fun ρ => (key ρ).bind fun k => (val ρ).bind fun v => (insO (some m) k v).bind fun m' => qdc asg key val xs m'
section
variable (pf : Nat → List PV → Option Out) (pm : Nat → Nat → List PV → Option Out)
mutual
def qe : CE → QEnv → Option PV
  | .cst v => fun _ => if pur v = true then some v else none
  | .var i => fun ρ => match ρ[i]? with
    | some (some (.v v)) => some v
    | _ => none
  | .glo _ v => fun _ => if pur v = true then some v else none
  | .gen k elt own tg it => fun ρ => (liveIt it ρ (qi it ρ)).bind fun xs => (qgen k (fun x => qt tg x (qwipe ρ own)) (qe elt) xs).map .bl
  | .pow i j => fun _ => some (.int ((i : Int) ^ j))
  | .bop o a b => fun ρ => (qe a ρ).bind fun x => (qe b ρ).bind fun y => okP (bopV o [] x y)
  | .cmp o a b => fun ρ => (qv a ρ (qe a ρ)).bind fun x => (qv b ρ (qe b ρ)).bind fun y => (cmpQ o x y).map .bl
  | .cmp2 o o' a b c => fun ρ => (qe a ρ).bind fun x => (qe b ρ).bind fun y => (cmpV o [] x y).bind fun k =>
      if k = true then (qe c ρ).bind fun z => (cmpV o' [] y z).map .bl else some (.bl false)
  | .and a b => fun ρ => (qe a ρ).bind fun x => match x with
    | .bl true => qe b ρ
    | .bl false => some (.bl false)
    | _ => none
  | .or a b => fun ρ => (qe a ρ).bind fun x => match x with
    | .bl false => qe b ρ
    | .bl true => some (.bl true)
    | _ => none
  | .not a => fun ρ => (qe a ρ).bind fun x => (truth [] x).map fun k => .bl (!k)
  | .neg a => fun ρ => (qe a ρ).bind fun x => match x with
    | .int i => some (.int (-i))
    | _ => none
  | .tup es => fun ρ => (qes es ρ).bind fun vs => if vs.length ≤ LIM then some (.tup vs) else none
  | .ix a i => fun ρ => (qv a ρ (qe a ρ)).bind fun x => (qe i ρ).bind fun y => ixQ x y
  | .bi b es => fun ρ => (qrs es ρ).bind fun vs => bqP b vs
  | .isi e ks => fun ρ => (qr e ρ (qe e ρ)).bind fun x => (isiV [] noCf x ks).map .bl
  | .fld a f => fun ρ => (qv a ρ (qe a ρ)).bind fun x => fldQ x f
  | .lm m a es => fun ρ => match m, es with
    | .index, .cons e .nil => (qe a ρ).bind fun x => (qe e ρ).bind fun y => if lmK .index [] x = true then okP (lmV .index [] x [y]) else none
    | _, _ => none
  | .fz e => fun ρ => qa e ρ
  | _ => fun _ => none
def qa : CE → QEnv → Option PV
  | .lst es => fun ρ => (qes es ρ).bind fun vs => if vs.length ≤ LIM then some (.lst vs) else none
  | .bop o a b => fun ρ => (qr a ρ (qe a ρ)).bind fun x => (qr b ρ (qe b ρ)).bind fun y => bopA o x y
  | .sl a lo hi => fun ρ => (qr a ρ (qe a ρ)).bind fun x => (qo lo ρ).bind fun l => (qo hi ρ).bind fun h => slA x l h
  | .rev a => fun ρ => (qr a ρ (qe a ρ)).bind fun x => (lstOf [] x).map fun xs => .lst xs.reverse
  | .bi b es => fun ρ => (qrs es ρ).bind fun vs => bqA b vs
  | .call f es => fun ρ => (qes es ρ).bind fun vs => outV (pf f vs)
  | .make c f es dv => fun ρ => if purs dv = true then (qes es ρ).bind fun vs => outV (pm c f (vs ++ dv)) else none
  | .comp elt own tg it cond => fun ρ => (liveIt it ρ (qi it ρ)).bind fun xs => if xs.length ≤ LIM then (qcomp (fun x => qt tg x (qwipe ρ own)) (qb cond) (qe elt) xs).map .lst else none
  | _ => fun _ => none
def qes : CEs → QEnv → Option (List PV)
  | .nil => fun _ => some []
  | .cons e es => fun ρ => (qe e ρ).bind fun v => (qes es ρ).map fun vs => v :: vs
def qrs : CEs → QEnv → Option (List PV)
  | .nil => fun _ => some []
  | .cons e es => fun ρ => (qr e ρ (qe e ρ)).bind fun v => (qrs es ρ).map fun vs => v :: vs
def qo : CEo → QEnv → Option (Option Int)
  | .none => fun _ => some none
  | .some e => fun ρ => (qe e ρ).bind fun v => match v with
    | .int i => some (some i)
    | _ => none
def qb : CEo → QEnv → Option Bool
  | .none => fun _ => some true
  | .some e => fun ρ => (qe e ρ).bind fun v => truth [] v
def qi : CI → QEnv → Option (List PV)
  | .seq e => fun ρ => (qe e ρ).bind fun v => itemsQ v
  | .rng1 e => fun ρ => (qe e ρ).bind fun v => match v with
    | .int n => if okR 0 n = true then some (rngL 0 n) else none
    | _ => none
  | .rng2 a b => fun ρ => (qe a ρ).bind fun v => (qe b ρ).bind fun u => match v, u with
    | .int m, .int n => if okR m n = true then some (rngL m n) else none
    | _, _ => none
  | .enum e => fun ρ => (qe e ρ).bind fun v => (seqOf [] v).map fun xs => xs.zipIdx.map fun p => .tup [.int p.2, p.1]
  | .zip a b => fun ρ => (qe a ρ).bind fun v => (qe b ρ).bind fun u => if zipK v u = true then (seqOf [] v).bind fun xs => (seqOf [] u).bind fun ys => if ((xs.zip ys).all fun p => !nmC [p.1, p.2]) = true then some ((xs.zip ys).map fun p => .tup [p.1, p.2]) else none else none
def qt : CT → PV → QEnv → Option QEnv
  | .var i => fun v ρ => some (ρ.set i (some (.v v)))
  | .tup ts => fun v ρ => (seqOf [] v).bind fun vs => qts ts vs ρ
  | _ => fun _ _ => none
def qts : CTs → List PV → QEnv → Option QEnv
  | .nil => fun vs ρ => match vs with
    | [] => some ρ
    | _ :: _ => none
  | .cons t ts => fun vs ρ => match vs with
    | [] => none
    | v :: r => (qt t v ρ).bind fun ρ' => qts ts r ρ'
end
def qE (e : CE) (ρ : QEnv) : Option Out := match e with
  | .fz (.call f es) => (qes pf pm es ρ).bind (pf f)
  | .fz (.make c f es dv) => if purs dv = true then (qes pf pm es ρ).bind fun vs => pm c f (vs ++ dv) else none
  | e => (qe pf pm e ρ).map .v
def frzM : MO → Option PV
  | .lst xs => some (.lst xs)
  | .ins c fs => some (.obj c (fs.map (·.1)) (fs.map (·.2)))
  | _ => none
def qret (e : CE) (ρ : QEnv) : Option Out := match e with
  | .var i => match ρ[i]? with
    | some (some (.v x)) => some (.v x)
    | some (some (.o m)) => (frzM m).map .v
    | _ => none
  | .tup es => (qrs pf pm es ρ).bind fun vs => if vs.length ≤ LIM then some (.v (.tup vs)) else none
  | .fz (.lst es) => (qrs pf pm es ρ).bind fun vs => if vs.length ≤ LIM then some (.v (.lst vs)) else none
  | e => qE pf pm e ρ
inductive QR where
  | nx (ρ : QEnv) | ret (v : PV) | exc (c : Nat) (ρ : QEnv)
def QR.seq (q : QR) (f : QEnv → Option QR) : Option QR := match q with
  | .nx ρ => f ρ
  | r => some r
def qfor (asg : PV → QEnv → Option QEnv) (body : QEnv → Option QR) : List PV → QEnv → Option QR
  | [], ρ => some (.nx ρ)
  | x :: xs, ρ => (asg x ρ).bind fun ρ' => (body ρ').bind fun q => q.seq (qfor asg body xs)
def qwh (c : QEnv → Option Bool) (body : QEnv → Option QR) : Nat → QEnv → Option QR
  | 0, _ => none
  | n + 1, ρ => (c ρ).bind fun b => if b = true then (body ρ).bind fun q => q.seq (qwh c body n) else some (.nx ρ)
def qB (e : CE) (ρ : QEnv) : Option Bool := (qe pf pm e ρ).bind fun v => truth [] v
def outR (ρ : QEnv) (o : Out) (k : PV → Option QR) : Option QR := match o with
  | .v x => k x
  | .e c => some (.exc c ρ)
def qpar : List Nat → List PV → QEnv → Option QEnv
  | [], [], ρ => some ρ
  | i :: is, v :: vs, ρ => qpar is vs (ρ.set i (some (.v v)))
  | _, _, _ => none
inductive SK where | live (i : Nat) (m : CE) | fld (i f : Nat) (e : CE) | plain
def skOf (t : CT) (e : CE) : SK := match t with
  | .var i => match e with
    | .lst es => .live i (.lst es)
    | .dcomp n k v own tg it => .live i (.dcomp n k v own tg it)
    | .dnew n => .live i (.dnew n)
    | _ => .plain
  | .fld (.var i) f => .fld i f e
  | _ => .plain
def qnew (e : CE) (ρ : QEnv) : Option MO := match e with
  | .lst es => (qes pf pm es ρ).bind fun vs => if vs.length ≤ LIM then some (.lst vs) else none
  | .dcomp n k v own tg it => (qi pf pm it ρ).bind fun xs => qdc (fun x => qt pf pm tg x (qwipe ρ own)) (qe pf pm k) (qe pf pm v) xs (newD n)
  | .dnew n => some (newD n)
  | _ => none
def apOf (e : CE) : Option (Nat × CE) := match e with
  | .lm .append (.var i) (.cons a .nil) => some (i, a)
  | _ => none
def qx (sub : Nat → Nat → Bool) : CSs → QEnv → Option QR
  | .nil => fun ρ => some (.nx ρ)
  | .pass r => fun ρ => qx sub r ρ
  | .asg t e r => fun ρ => match skOf t e with
    | .live i m => (qnew pf pm m ρ).bind fun o => if i < ρ.length then qx sub r (ρ.set i (some (.o o))) else none
    | .fld i f e => (qE pf pm e ρ).bind fun o => outR ρ o fun v => match ρ[i]? with
      | some (some (.o (.ins c fs))) => if fs.length < 1000 then qx sub r (ρ.set i (some (.o (.ins c (putP f v fs))))) else none
      | _ => none
    | .plain => (qE pf pm e ρ).bind fun o => outR ρ o fun v => (qt pf pm t v ρ).bind fun ρ' => qx sub r ρ'
  | .par is es r => fun ρ => (qes pf pm es ρ).bind fun vs => (qpar is vs ρ).bind fun ρ' => qx sub r ρ'
  | .aug i o e r => fun ρ => (match ρ[i]? with | some (some (.v x)) => some x | _ => none).bind fun x => (qe pf pm e ρ).bind fun y => (okP (augV o [] x y)).bind fun z => qx sub r (ρ.set i (some (.v z)))
  | .ex e r => fun ρ => match apOf e with
    | some (i, a) => match ρ[i]? with
      | some (some (.o (.lst xs))) => (qe pf pm a ρ).bind fun v => if xs.length < LIM then qx sub r (ρ.set i (some (.o (.lst (xs ++ [v]))))) else none
      | _ => none
    | none => (qE pf pm e ρ).bind fun o => outR ρ o fun _ => qx sub r ρ
  | .ret e => fun ρ => (qret pf pm e ρ).bind fun o => outR ρ o fun v => some (.ret v)
  | .retN => fun _ => some (.ret .non)
  | .iff c a b r => fun ρ => (qB pf pm c ρ).bind fun k => (if k = true then qx sub a ρ else qx sub b ρ).bind fun q => q.seq (qx sub r)
  | .for t it body r => fun ρ => (qi pf pm it ρ).bind fun xs => (qfor (qt pf pm t) (qx sub body) xs ρ).bind fun q => q.seq (qx sub r)
  | .wh n c body r => fun ρ => (qwh (qB pf pm c) (qx sub body) n ρ).bind fun q => q.seq (qx sub r)
  | .raise c => fun ρ => some (.exc c ρ)
  | .try1 body c n suite r => fun ρ => (qx sub body ρ).bind fun q => match q with
    | .exc x ρ1 => if sub x c = true then (qx sub suite (match n with | some i => ρ1.set i none | none => ρ1)).bind fun q2 => match q2 with
        | .nx ρ2 => qx sub r (match n with | some i => ρ2.set i none | none => ρ2)
        | q2 => some q2
      else some (.exc x ρ1)
    | .nx ρ2 => qx sub r ρ2
    | q => some q
  | .nev => fun _ => none
end
def qstart (n : Nat) (vs : List QV) : QEnv := vs.map some ++ List.replicate (n - vs.length) none
def QR.out : QR → Out
  | .nx _ => .v .non
  | .ret v => .v v
  | .exc c _ => .e c
def QR.ins (q : QR) : Option Out := match q with
  | .nx ρ => (match (ρ[0]? : Option (Option QV)) with
    | some (some (.o (.ins c fs))) => some (.v (.obj c (fs.map (·.1)) (fs.map (·.2))))
    | _ => none)
  | .ret _ => none
  | .exc c _ => some (.e c)
def qrun (tab : Nat → Option Fn) (sub : Nat → Nat → Bool) : Nat → (Nat → List PV → Option Out) × (Nat → Nat → List PV → Option Out)
  | 0 => (fun _ _ => none, fun _ _ _ => none)
  | k + 1 => (fun f vs => match tab f with
      | some d => if vs.length = d.np then (qx (qrun tab sub k).1 (qrun tab sub k).2 sub d.body (qstart d.n (vs.map .v))).map QR.out else none
      | none => none,
    fun c f vs => match tab f with
      | some d => if vs.length + 1 = d.np then (qx (qrun tab sub k).1 (qrun tab sub k).2 sub d.body (qstart d.n (.o (.ins c []) :: vs.map .v))).bind QR.ins else none
      | none => none)
end PM
end
section
namespace PM
open PySem
def moPur : MO → Bool
  | .lst xs => purs xs
  | .dic kvs => kvs.all fun p => pur p.1 && pur p.2
  | .dkn kvs => kvs.all fun p => pur p.1 && pur p.2
  | .ins _ fs => purs (fs.map (·.2))
def Rd (S : Sto) (w x : PV) : Prop := pur x = true ∧ (w = x ∨ ∃ l xs, w = .loc l ∧ S[l]? = some (.lst xs) ∧ x = .lst xs)
def RdQ (S : Sto) (w : PV) : QV → Prop
  | .v x => w = x ∧ pur x = true
  | .o m => moPur m = true ∧ ∃ l, w = .loc l ∧ S[l]? = some m
theorem RdQ.rd {S : Sto} {w x : PV} {q : QV} (h : RdQ S w q) (e : q.rd = some x) : Rd S w x := by
  cases q with
  | v y => simp only [QV.rd, Option.some.injEq] at e; subst e; exact ⟨h.2, .inl h.1⟩
  | o m =>
    cases m <;> simp only [QV.rd] at e <;> first | (cases e; done) | skip
    cases e
    obtain ⟨h1, l, h2, h3⟩ := h
    exact ⟨by simpa only [pur, moPur] using h1, .inr ⟨l, _, h2, h3, rfl⟩⟩
section
variable {S : Sto} {w x u y : PV}
theorem Rd.of (h : pur x = true) : Rd S x x := ⟨h, .inl rfl⟩
theorem Rd.trk (h : Rd S w x) : trk S w = trk S x := by
  obtain ⟨_, rfl | ⟨l, xs, rfl, e, rfl⟩⟩ := h
  · rfl
  · simp [PM.trk, e]
theorem Rd.lst (h : Rd S w x) : lstOf S w = lstOf S x := by
  obtain ⟨_, rfl | ⟨l, xs, rfl, e, rfl⟩⟩ := h
  · rfl
  · simp [lstOf, e]
theorem Rd.seq (h : Rd S w x) : seqOf S w = seqOf S x := by
  obtain ⟨_, rfl | ⟨l, xs, rfl, e, rfl⟩⟩ := h
  · rfl
  · simp [seqOf, lstOf, e]
theorem Rd.len (h : Rd S w x) : lenV S w = lenV S x := by
  obtain ⟨_, rfl | ⟨l, xs, rfl, e, rfl⟩⟩ := h
  · rfl
  · simp [lenV, seqOf, lstOf, e]
theorem Rd.keys (h : Rd S w x) : keysOf S w = keysOf S x := by
  obtain ⟨_, rfl | ⟨l, xs, rfl, e, rfl⟩⟩ := h
  · rfl
  · simp [keysOf, e]
theorem Rd.isi (h : Rd S w x) (cf : Cf) (ks : List KN) : isiV S cf w ks = isiV S cf x ks := by
  obtain ⟨_, rfl | ⟨l, xs, rfl, e, rfl⟩⟩ := h
  · rfl
  · simp [isiV, e]
theorem Rd.add (h : Rd S w x) (h2 : Rd S u y) : addV S w u = addV S x y := by
  have e1 : addV S w u = addV S x u := by
    obtain ⟨_, rfl | ⟨l, xs, rfl, e, rfl⟩⟩ := h
    · rfl
    · cases u <;> simp [addV, PM.trk, e]
  rw [e1]
  obtain ⟨_, rfl | ⟨l, xs, rfl, e, rfl⟩⟩ := h2
  · rfl
  · cases x <;> simp [addV, PM.trk, e]
theorem Rd.bop (o : BOp) (h : Rd S w x) (h2 : Rd S u y) : bopV o S w u = bopV o S x y := by
  by_cases ho : o = .add
  · subst ho; exact h.add h2
  have e1 : bopV o S w u = bopV o S x u := by
    obtain ⟨_, rfl | ⟨l, xs, rfl, e, rfl⟩⟩ := h
    · rfl
    · cases o <;> first | exact absurd rfl ho | (cases u <;> simp [bopV, subV, mulV, fdivV, modV, PM.trk, e])
  rw [e1]
  obtain ⟨_, rfl | ⟨l, xs, rfl, e, rfl⟩⟩ := h2
  · rfl
  · cases o <;> first | exact absurd rfl ho | (cases x <;> simp [bopV, subV, mulV, fdivV, modV])
theorem Rd.sl (h : Rd S w x) (lo hi : Option Int) : slV S w lo hi = slV S x lo hi := by
  obtain ⟨_, rfl | ⟨l, xs, rfl, e, rfl⟩⟩ := h
  · rfl
  · simp [slV, lstOf, e]
theorem Rd.rev (h : Rd S w x) : revV S w = revV S x := by unfold revV; rw [h.lst]
mutual
theorem toDw_pur (g g' : Nat → Option PyData) : ∀ v : PV, pur v = true → toDw g v = toDw g' v
  | .non, _ => rfl
  | .bl _, _ => rfl
  | .int _, _ => rfl
  | .str _, _ => rfl
  | .tup xs, h => by simp only [toDw, toDws_pur g g' xs (by simpa only [pur] using h)]
  | .lst xs, h => by simp only [toDw, toDws_pur g g' xs (by simpa only [pur] using h)]
  | .ro xs, h => by simp only [toDw, toDws_pur g g' xs (by simpa only [pur] using h)]
  | .obj _ _ _, _ => rfl
  | .loc _, h => by simp [pur] at h
theorem toDws_pur (g g' : Nat → Option PyData) : ∀ xs : List PV, purs xs = true → toDws g xs = toDws g' xs
  | [], _ => rfl
  | x :: xs, h => by
    simp only [purs, Bool.and_eq_true] at h
    simp only [toDws, toDw_pur g g' x h.1, toDws_pur g g' xs h.2]
end
theorem Rd.toD (h : Rd S w x) : toD S w = toD [] x := by
  obtain ⟨hp, rfl | ⟨l, xs, rfl, e, rfl⟩⟩ := h
  · exact toDw_pur _ _ _ hp
  · simp only [pur] at hp
    unfold PM.toD
    simp only [toDw, toDL, e, toDws_pur _ (toDL [] 6) xs hp]
theorem eqS_rd (h : Rd S w x) (h2 : Rd S u y) : eqS S w u = eqS [] x y := by unfold eqS; rw [h.toD, h2.toD]
theorem any_rdQ (h : Rd S w x) {ys : List PV} (hy : purs ys = true) : anyEq S w ys = anyEq [] x ys := by
  unfold anyEq
  rw [h.toD, toDws_pur _ (toDL [] 6) ys hy]
theorem inV_rd (h : Rd S w x) (h2 : Rd S u y) {b : Bool} (e : inV [] x y = some b) : inV S w u = some b := by
  obtain ⟨hp, rfl | ⟨l, xs, rfl, e2, rfl⟩⟩ := h2
  · cases u <;> simp only [inV] at e ⊢
    · cases e
    · cases e
    · cases e
    · obtain ⟨_, rfl | ⟨l, xs, rfl, e3, rfl⟩⟩ := h
      · exact e
      · cases e
    · rw [any_rdQ h (by simpa only [pur] using hp)]; exact e
    · rw [any_rdQ h (by simpa only [pur] using hp)]; exact e
    · rw [any_rdQ h (by simpa only [pur] using hp)]; exact e
    · cases e
    · simp [pur] at hp
  · simp only [inV, e2] at e ⊢
    rw [any_rdQ h (by simpa only [pur] using hp)]; exact e
theorem isV_rd (h : Rd S w x) (h2 : Rd S u y) : isV w u = isV x y := by
  have e1 : isV w u = isV x u := by
    obtain ⟨_, rfl | ⟨l, xs, rfl, e, rfl⟩⟩ := h
    · rfl
    · cases u <;> simp [isV]
  rw [e1]
  obtain ⟨_, rfl | ⟨l, xs, rfl, e, rfl⟩⟩ := h2
  · rfl
  · cases x <;> simp [isV]
theorem ord_rdQ {p : Int → Int → Bool} (h : Rd S w x) (h2 : Rd S u y) : ordV p w u = ordV p x y := by
  have e1 : ordV p w u = ordV p x u := by
    obtain ⟨_, rfl | ⟨l, xs, rfl, e, rfl⟩⟩ := h
    · rfl
    · cases u <;> simp [ordV]
  rw [e1]
  obtain ⟨_, rfl | ⟨l, xs, rfl, e, rfl⟩⟩ := h2
  · rfl
  · cases x <;> simp [ordV]
theorem cmpV_rd (o : COp) (h : Rd S w x) (h2 : Rd S u y) {b : Bool} (e : cmpV o [] x y = some b) : cmpV o S w u = some b := by
  cases o <;> simp only [cmpV] at e ⊢
  · rw [eqS_rd h h2]; exact e
  · rw [eqS_rd h h2]; exact e
  · rw [ord_rdQ h h2]; exact e
  · rw [ord_rdQ h h2]; exact e
  · rw [ord_rdQ h h2]; exact e
  · rw [ord_rdQ h h2]; exact e
  · exact inV_rd h h2 e
  · obtain ⟨c, e1, e2⟩ := Option.map_eq_some_iff.mp e
    rw [inV_rd h h2 e1, ← e2]; rfl
  · rw [isV_rd h h2]; exact e
  · rw [isV_rd h h2]; exact e
theorem rd_keyT {k : NestedKey} (h : Rd S w x) (e : keyT x = some k) : keyT w = some k := by
  obtain ⟨_, rfl | ⟨l, xs, rfl, e2, rfl⟩⟩ := h
  · exact e
  · simp [keyT] at e
theorem rd_keyF {k : L2.Key} (h : Rd S w x) (e : keyF x = some k) : keyF w = some k := by
  obtain ⟨_, rfl | ⟨l, xs, rfl, e2, rfl⟩⟩ := h
  · exact e
  · simp [keyF] at e
theorem inQ_rd {q : QV} (h : Rd S w x) (h2 : RdQ S u q) {b : Bool} (e : inQ x q = some b) : inV S w u = some b := by
  cases q with
  | v y =>
    simp only [inQ, QV.rd, Option.bind_some] at e
    exact inV_rd h ⟨h2.2, .inl h2.1⟩ e
  | o m =>
    cases m with
    | lst ys =>
      simp only [inQ, QV.rd, Option.bind_some] at e
      exact inV_rd h (h2.rd rfl) e
    | ins c fs => simp [inQ, QV.rd] at e
    | dic kvs =>
      simp only [inQ] at e
      obtain ⟨k, e1, e2⟩ := Option.map_eq_some_iff.mp e
      obtain ⟨_, l, rfl, e3⟩ := h2
      simp only [inV, e3, dfind, rd_keyF h e1, Option.map_some]
      rw [e2]
    | dkn kvs =>
      simp only [inQ] at e
      obtain ⟨k, e1, e2⟩ := Option.map_eq_some_iff.mp e
      obtain ⟨_, l, rfl, e3⟩ := h2
      simp only [inV, e3, dfind, rd_keyT h e1, Option.map_some]
      rw [e2]
theorem cmpQ_rd {p q : QV} {o : COp} (h : RdQ S w p) (h2 : RdQ S u q) {b : Bool} (e : cmpQ o p q = some b) : cmpV o S w u = some b := by
  have gen : (p.rd.bind fun a => q.rd.bind fun b => cmpV o [] a b) = some b → cmpV o S w u = some b := fun e => by
    obtain ⟨a, e1, e⟩ := Option.bind_eq_some_iff.mp e
    obtain ⟨c, e2, e⟩ := Option.bind_eq_some_iff.mp e
    exact cmpV_rd o (h.rd e1) (h2.rd e2) e
  cases o <;> simp only [cmpQ] at e <;> first | exact gen e | skip
  · obtain ⟨a, e1, e⟩ := Option.bind_eq_some_iff.mp e
    exact inQ_rd (h.rd e1) h2 e
  · obtain ⟨c, e, e2⟩ := Option.map_eq_some_iff.mp e
    obtain ⟨a, e1, e⟩ := Option.bind_eq_some_iff.mp e
    simp only [cmpV, inQ_rd (h.rd e1) h2 e, Option.map_some, e2]
theorem find_purF {kvs : List (PV × PV)} {k : L2.Key} {v : PV} (h : (kvs.all fun p => pur p.1 && pur p.2) = true) (e : findF kvs k = some v) : pur v = true := by
  obtain ⟨p, e1, rfl⟩ := Option.map_eq_some_iff.mp e
  have := List.all_eq_true.mp h p (List.mem_of_find?_eq_some e1)
  simp only [Bool.and_eq_true] at this
  exact this.2
theorem find_purT {kvs : List (PV × PV)} {k : NestedKey} {v : PV} (h : (kvs.all fun p => pur p.1 && pur p.2) = true) (e : findT kvs k = some v) : pur v = true := by
  obtain ⟨p, e1, rfl⟩ := Option.map_eq_some_iff.mp e
  have := List.all_eq_true.mp h p (List.mem_of_find?_eq_some e1)
  simp only [Bool.and_eq_true] at this
  exact this.2
theorem ixQ_rd {q : QV} {y v : PV} (h : RdQ S w q) (e : ixQ q y = some v) : ixV S w y = some v ∧ pur v = true := by
  cases q with
  | v x =>
    simp only [ixQ, QV.rd, Option.bind_some] at e
    obtain ⟨rfl, hp⟩ := h
    exact ⟨(ix_f e S).1, (ix_f e S).2 hp⟩
  | o m =>
    obtain ⟨hp, l, rfl, e3⟩ := h
    cases m with
    | lst ys =>
      simp only [ixQ, QV.rd, Option.bind_some] at e
      refine ⟨?_, (ix_f e S).2 (by simpa only [pur, moPur] using hp)⟩
      cases y <;> simp [ixV, seqOf, lstOf] at e ⊢
      simp [e3, e]
    | ins c fs => simp [ixQ, QV.rd] at e
    | dic kvs =>
      simp only [ixQ] at e
      obtain ⟨k, e1, e2⟩ := Option.bind_eq_some_iff.mp e
      refine ⟨?_, find_purF hp e2⟩
      cases y <;> simp [ixV, e3, dfind, e1, e2] 
    | dkn kvs =>
      simp only [ixQ] at e
      obtain ⟨k, e1, e2⟩ := Option.bind_eq_some_iff.mp e
      refine ⟨?_, find_purT hp e2⟩
      cases y <;> simp [ixV, e3, dfind, e1, e2]
theorem lookup_mem2 {f : Nat} {v : PV} : ∀ {l : List (Nat × PV)}, l.lookup f = some v → v ∈ l.map (·.2)
  | [], h => by simp at h
  | (g, w) :: l, h => by
    rw [List.lookup_cons] at h
    cases hg : f == g with
    | true => rw [hg] at h; cases h; simp
    | false => rw [hg] at h; exact List.mem_cons_of_mem _ (lookup_mem2 h)
theorem zip_snd {ns : List Nat} {xs : List PV} {v : PV} (h : v ∈ (ns.zip xs).map (·.2)) : v ∈ xs := by
  obtain ⟨p, hp, rfl⟩ := List.mem_map.mp h
  exact (List.of_mem_zip hp).2
theorem fldQ_rd {q : QV} {f : Nat} {v : PV} (h : RdQ S w q) (e : fldQ q f = some v) : fldV S w f = some v ∧ pur v = true := by
  cases q with
  | v x =>
    obtain ⟨rfl, hp⟩ := h
    cases w <;> simp only [fldQ, fldV] at e <;> first | (cases e; done) | skip
    · exact ⟨by simpa only [fldV] using e, purs_iff.mp (by simpa only [pur] using hp) _ (zip_snd (lookup_mem2 e))⟩
  | o m =>
    obtain ⟨hp, l, rfl, e3⟩ := h
    cases m <;> simp only [fldQ] at e <;> first | (cases e; done) | skip
    exact ⟨by simp only [fldV, e3]; exact e, purs_iff.mp (by simpa only [moPur] using hp) _ (lookup_mem2 e)⟩
theorem bi_rd {ws xs : List PV} (b : BI) (h : Paired (Rd S) ws xs) : biV b S ws = biV b S xs := by
  have one : ∀ {f : PV → Res PV}, (∀ w x, Rd S w x → f w = f x) → b1 f ws = b1 f xs := fun {f} hf => by
    cases h with
    | nil => rfl
    | cons r t =>
      cases t with
      | nil => exact hf _ _ r
      | cons _ _ => rfl
  have two : ∀ {f : PV → PV → Res PV}, (∀ w x u y, Rd S w x → Rd S u y → f w u = f x y) → b2 f ws = b2 f xs := fun {f} hf => by
    cases h with
    | nil => rfl
    | cons r t =>
      cases t with
      | nil => rfl
      | cons r2 t2 =>
        cases t2 with
        | nil => exact hf _ _ _ _ r r2
        | cons _ _ => rfl
  have flat : ∀ {f : PV → Res PV}, (∀ l, f (.loc l) = .bad) → (∀ xs, f (.lst xs) = .bad) → ∀ w x, Rd S w x → f w = f x := fun {f} h1 h2 w x h => by
    obtain ⟨_, rfl | ⟨l, xs, rfl, e, rfl⟩⟩ := h
    · rfl
    · rw [h1, h2]
  cases b <;> simp only [biV]
  · exact one fun w x h => by rw [h.len]
  · exact one (flat (fun _ => rfl) fun _ => rfl)
  · exact one fun w x h => by unfold listB; rw [h.keys, h.seq]
  · refine one fun w x h => ?_
    obtain ⟨_, rfl | ⟨l, xs, rfl, e, rfl⟩⟩ := h
    · rfl
    · simp [tupB, lstOf, e]
  · exact one fun w x h => by unfold sortB; rw [h.keys, h.lst]
  · refine two fun w x u y h h2 => ?_
    have e1 : min2B S w u = min2B S x u := by
      obtain ⟨_, rfl | ⟨l, xs, rfl, e, rfl⟩⟩ := h
      · rfl
      · cases u <;> rfl
    rw [e1]
    obtain ⟨_, rfl | ⟨l, xs, rfl, e, rfl⟩⟩ := h2
    · rfl
    · cases x <;> rfl
  · exact one fun w x h => by unfold sumB; rw [h.lst]
  · exact one (flat (fun _ => rfl) fun _ => rfl)
  · exact one (flat (fun _ => rfl) fun _ => rfl)
  · exact one (flat (fun _ => rfl) fun _ => rfl)
  · refine two fun w x u y h h2 => ?_
    have e1 : tupR2B S w u = tupR2B S x u := by
      obtain ⟨_, rfl | ⟨l, xs, rfl, e, rfl⟩⟩ := h
      · rfl
      · cases u <;> rfl
    rw [e1]
    obtain ⟨_, rfl | ⟨l, xs, rfl, e, rfl⟩⟩ := h2
    · rfl
    · cases x <;> rfl
end
structure Sim (n : Nat) (ρq : QEnv) (ρ : Env) (S : Sto) : Prop where
  len : ρq.length = ρ.length
  ln : n ≤ S.length
  v : ∀ (i : Nat) (x : PV), ρq[i]? = some (some (QV.v x)) → ρ[i]? = some (some x) ∧ pur x = true
  o : ∀ (i : Nat) (m : MO), ρq[i]? = some (some (QV.o m)) → moPur m = true ∧ ∃ l, n ≤ l ∧ ρ[i]? = some (some (PV.loc l)) ∧ S[l]? = some m
  d : ∀ (i j : Nat) (m m' : MO) (l : Nat), ρq[i]? = some (some (QV.o m)) → ρq[j]? = some (some (QV.o m')) → ρ[i]? = some (some (PV.loc l)) → ρ[j]? = some (some (PV.loc l)) → i = j
  u : ∀ (l c : Nat) (fs : List (Nat × PV)), n ≤ l → S[l]? = some (.ins c fs) → l = n
section
variable {n : Nat} {ρq : QEnv} {ρ : Env} {S : Sto}
theorem set_get {β : Type} {l : List (Option β)} {i j : Nat} {x : Option β} {y : β} (h : (l.set i x)[j]? = some (some y)) : (i = j ∧ x = some y ∧ i < l.length) ∨ (i ≠ j ∧ l[j]? = some (some y)) := by
  by_cases hj : i = j
  · subst hj
    by_cases hi : i < l.length
    · rw [List.getElem?_set_self hi] at h; cases h; exact .inl ⟨rfl, rfl, hi⟩
    · rw [List.getElem?_eq_none (by simpa using hi)] at h; cases h
  · rw [List.getElem?_set_ne hj] at h
    exact .inr ⟨hj, h⟩
theorem Sim.setV (h : Sim n ρq ρ S) {i : Nat} {x : PV} (hx : pur x = true) : Sim n (ρq.set i (some (.v x))) (ρ.set i (some x)) S where
  len := by simp [h.len]
  ln := h.ln
  v := fun j y e => by
    rcases set_get e with ⟨rfl, e2, hl⟩ | ⟨ne, e2⟩
    · cases e2; exact ⟨by rw [List.getElem?_set_self (h.len ▸ hl)], hx⟩
    · rw [List.getElem?_set_ne ne]; exact h.v j y e2
  o := fun j m e => by
    rcases set_get e with ⟨rfl, e2, hl⟩ | ⟨ne, e2⟩
    · cases e2
    · rw [List.getElem?_set_ne ne]; exact h.o j m e2
  d := fun j k m m' l e1 e2 e3 e4 => by
    rcases set_get e1 with ⟨rfl, z, _⟩ | ⟨n1, z1⟩
    · cases z
    · rcases set_get e2 with ⟨rfl, z, _⟩ | ⟨n2, z2⟩
      · cases z
      · rw [List.getElem?_set_ne n1] at e3
        rw [List.getElem?_set_ne n2] at e4
        exact h.d j k m m' l z1 z2 e3 e4
  u := h.u
theorem Sim.setN (h : Sim n ρq ρ S) {i : Nat} : Sim n (ρq.set i none) (ρ.set i none) S where
  len := by simp [h.len]
  ln := h.ln
  v := fun j y e => by
    rcases set_get e with ⟨rfl, e2, hl⟩ | ⟨ne, e2⟩
    · cases e2
    · rw [List.getElem?_set_ne ne]; exact h.v j y e2
  o := fun j m e => by
    rcases set_get e with ⟨rfl, e2, hl⟩ | ⟨ne, e2⟩
    · cases e2
    · rw [List.getElem?_set_ne ne]; exact h.o j m e2
  d := fun j k m m' l e1 e2 e3 e4 => by
    rcases set_get e1 with ⟨rfl, z, _⟩ | ⟨n1, z1⟩
    · cases z
    · rcases set_get e2 with ⟨rfl, z, _⟩ | ⟨n2, z2⟩
      · cases z
      · rw [List.getElem?_set_ne n1] at e3
        rw [List.getElem?_set_ne n2] at e4
        exact h.d j k m m' l z1 z2 e3 e4
  u := h.u
theorem Sim.wipe (h : Sim n ρq ρ S) : ∀ own : List Nat, Sim n (qwipe ρq own) (PM.wipe ρ own) S
  | [] => h
  | i :: own => (Sim.wipe h own).setN
theorem Sim.more (h : Sim n ρq ρ S) {m : MO} (hm : ∀ c fs, m ≠ .ins c fs) : Sim n ρq ρ (S ++ [m]) where
  len := h.len
  ln := by simp; have := h.ln; omega
  v := h.v
  o := fun i m' e => let ⟨h1, l, h2, h3, h4⟩ := h.o i m' e; ⟨h1, l, h2, h3, by rw [List.getElem?_append_left (List.getElem?_eq_some_iff.mp h4).1]; exact h4⟩
  d := h.d
  u := fun l c fs hl e => by
    by_cases hs : l < S.length
    · rw [List.getElem?_append_left hs] at e; exact h.u l c fs hl e
    · rw [List.getElem?_append_right (Nat.not_lt.mp hs)] at e
      cases hz : l - S.length with
      | zero => rw [hz] at e; simp at e; exact absurd e (hm c fs)
      | succ k => rw [hz] at e; simp at e
theorem Sim.rd (h : Sim n ρq ρ S) {i : Nat} {q : QV} (e : ρq[i]? = some (some q)) : ∃ w, ρ[i]? = some (some w) ∧ RdQ S w q := by
  cases q with
  | v x => exact ⟨x, (h.v i x e).1, rfl, (h.v i x e).2⟩
  | o m => obtain ⟨h1, l, h2, h3, h4⟩ := h.o i m e; exact ⟨_, h3, h1, l, rfl, h4⟩
end
end PM
end
section
namespace PM
open PySem
theorem need_true' {β : Type} {b : Bool} {r : Res β} (h : b = true) : Res.need b r = r := by subst h; rfl
def mkR (cf : Cf) (c f : Nat) (vs : List PV) (S : Sto) : Res PV := (cf.fn f (.loc S.length :: vs) (S ++ [.ins c []])).bind fun r S2 => .need (decide (r = .non)) (.ok (.loc S.length) S2)
structure FQ (cf : Cf) (pf : Nat → List PV → Option Out) (pm : Nat → Nat → List PV → Option Out) : Prop where
  f : ∀ f vs v, purs vs = true → pf f vs = some (.v v) → pur v = true ∧ ∀ S, fzR S (cf.fn f vs S) = .ok v S
  fe : ∀ f vs c, purs vs = true → pf f vs = some (.e c) → ∀ S, ∃ S', cf.fn f vs S = .exc c S' ∧ S'.take S.length = S
  m : ∀ c f vs v, purs vs = true → pm c f vs = some (.v v) → pur v = true ∧ ∀ S, fzR S (mkR cf c f vs S) = .ok v S
  me : ∀ c f vs x, purs vs = true → pm c f vs = some (.e x) → ∀ S, ∃ S', mkR cf c f vs S = .exc x S' ∧ S'.take S.length = S
theorem outV_is {o : Option Out} {v : PV} (h : outV o = some v) : o = some (.v v) := by
  unfold outV at h
  split at h
  · cases h; rfl
  · cases h
theorem qcomp_ok {n : Nat} {asg : PV → Option QEnv} {cond : QEnv → Option Bool} {elt : QEnv → Option PV} {same : Sto → Bool} {asg' : PV → Sto → RT} {cond' : Env → Sto → Res Bool} {elt' : Env → Sto → Res PV} (S : Sto) (hs : ∀ acc, same (S ++ [.lst acc]) = true)
    (h1 : ∀ acc x ρq, pur x = true → asg x = some ρq → ∃ ρ, asg' x (S ++ [.lst acc]) = some (ρ, S ++ [.lst acc]) ∧ Sim n ρq ρ (S ++ [.lst acc])) (h2 : ∀ ρq ρ S b, Sim n ρq ρ S → cond ρq = some b → cond' ρ S = .ok b S) (h3 : ∀ ρq ρ S v, Sim n ρq ρ S → elt ρq = some v → elt' ρ S = .ok v S ∧ pur v = true) :
    ∀ (xs ys acc : List PV), purs xs = true → purs acc = true → acc.length + xs.length ≤ LIM → qcomp asg cond elt xs = some ys → compL S.length same asg' cond' elt' xs (S ++ [.lst acc]) = .ok (.loc S.length) (S ++ [.lst (acc ++ ys)]) ∧ purs ys = true
  | [], ys, acc, _, _, _, h => by
    simp only [qcomp, Option.some.injEq] at h
    subst h
    simp only [compL, hs, List.append_nil]
    exact ⟨rfl, rfl⟩
  | x :: xs, ys, acc, hx, ha, hl, h => by
    simp only [purs, Bool.and_eq_true] at hx
    simp only [List.length_cons] at hl
    simp only [qcomp] at h
    obtain ⟨ρq, e1, h⟩ := Option.bind_eq_some_iff.mp h
    obtain ⟨b, e2, h⟩ := Option.bind_eq_some_iff.mp h
    obtain ⟨ρ, f1, g1⟩ := h1 acc x ρq hx.1 e1
    have f2 := h2 ρq ρ _ b g1 e2
    simp only [compL, hs, f1, f2, Res.bnd]
    rw [need_true' rfl]
    cases b with
    | false =>
      simp only [Bool.false_eq_true, if_false] at h ⊢
      exact qcomp_ok S hs h1 h2 h3 xs ys acc hx.2 ha (by omega) h
    | true =>
      simp only [if_true] at h ⊢
      obtain ⟨y, e3, h⟩ := Option.bind_eq_some_iff.mp h
      obtain ⟨zs, e4, rfl⟩ := Option.map_eq_some_iff.mp h
      obtain ⟨f3, g3⟩ := h3 ρq ρ _ y g1 e3
      obtain ⟨q1, q2⟩ := qcomp_ok S hs h1 h2 h3 xs zs (acc ++ [y]) hx.2 (purs_app ha (by simp [purs, g3])) (by simp; omega) e4
      simp only [f3]
      rw [List.getElem?_append_right (Nat.le_refl _), Nat.sub_self]
      simp only [List.getElem?_cons_zero]
      rw [need_true' (decide_eq_true (by omega))]
      have es : (S ++ [MO.lst acc]).set S.length (.lst (acc ++ [y])) = S ++ [.lst (acc ++ [y])] := by
        rw [List.set_append_right _ _ (Nat.le_refl _), Nat.sub_self]
        rfl
      rw [es, q1]
      refine ⟨by rw [List.append_assoc]; rfl, by simp [purs, g3, q2]⟩
theorem qgen_ok {n : Nat} {k : Bool} {asg : PV → Option QEnv} {elt : QEnv → Option PV} {same : Sto → Bool} {asg' : PV → Sto → RT} {elt' : Env → Sto → Res PV} (S : Sto) (hs : same S = true)
    (h1 : ∀ x ρq, pur x = true → asg x = some ρq → ∃ ρ, asg' x S = some (ρ, S) ∧ Sim n ρq ρ S) (h3 : ∀ ρq ρ S v, Sim n ρq ρ S → elt ρq = some v → elt' ρ S = .ok v S ∧ pur v = true) :
    ∀ (xs : List PV) (b : Bool), purs xs = true → qgen k asg elt xs = some b → genL k same asg' elt' xs S = .ok b S
  | [], b, _, h => by
    simp only [qgen, Option.some.injEq] at h
    subst h
    simp only [genL, hs]; rfl
  | x :: xs, b, hx, h => by
    simp only [purs, Bool.and_eq_true] at hx
    simp only [qgen] at h
    obtain ⟨ρq, e1, h⟩ := Option.bind_eq_some_iff.mp h
    obtain ⟨y, e2, h⟩ := Option.bind_eq_some_iff.mp h
    obtain ⟨ρ, f1, g1⟩ := h1 x ρq hx.1 e1
    obtain ⟨f2, _⟩ := h3 ρq ρ S y g1 e2
    simp only [genL, hs, f1, f2, Res.bnd]
    rw [need_true' rfl]
    split at h
    · rename_i c _
      try simp only
      by_cases hc : c = k
      · rw [if_pos hc] at h ⊢
        exact qgen_ok S hs h1 h3 xs b hx.2 h
      · rw [if_neg hc] at h ⊢
        cases h; rfl
    · cases h
theorem ins_pur {m m' : MO} {k v : PV} (h : insO (some m) k v = some m') (hm : moPur m = true) (hk : pur k = true) (hv : pur v = true) : moPur m' = true ∧ ∀ c fs, m' ≠ .ins c fs := by
  have put : ∀ {kvs : List (PV × PV)} {p : PV × PV → Bool}, (kvs.all fun p => pur p.1 && pur p.2) = true → ((kvs.map fun q => if p q = true then (q.1, v) else q).all fun p => pur p.1 && pur p.2) = true := fun {kvs p} h => by
    rw [List.all_eq_true] at h ⊢
    intro x hx
    obtain ⟨q, hq, rfl⟩ := List.mem_map.mp hx
    have := h q hq
    simp only [Bool.and_eq_true] at this ⊢
    split
    · exact ⟨this.1, hv⟩
    · exact this
  have app : ∀ {kvs : List (PV × PV)}, (kvs.all fun p => pur p.1 && pur p.2) = true → ((kvs ++ [(k, v)]).all fun p => pur p.1 && pur p.2) = true := fun {kvs} h => by
    rw [List.all_append, h]
    simp [hk, hv]
  cases m <;> simp only [insO] at h <;> first | (cases h; done) | skip
  · rename_i kvs
    obtain ⟨kk, e1, h⟩ := Option.bind_eq_some_iff.mp h
    split at h
    · cases h
      refine ⟨?_, fun _ _ z => by cases z⟩
      simp only [moPur] at hm ⊢
      unfold setF
      split
      · have := put (p := fun q => decide (keyF q.1 = some kk)) hm
        simpa using this
      · exact app hm
    · cases h
  · rename_i kvs
    obtain ⟨kk, e1, h⟩ := Option.bind_eq_some_iff.mp h
    split at h
    · cases h
      refine ⟨?_, fun _ _ z => by cases z⟩
      simp only [moPur] at hm ⊢
      unfold setT
      split
      · have := put (p := fun q => decide (keyT q.1 = some kk)) hm
        simpa using this
      · exact app hm
    · cases h
theorem qdc_ok {n : Nat} {asg : PV → Option QEnv} {key val : QEnv → Option PV} {same : Sto → Bool} {asg' : PV → Sto → RT} {key' val' : Env → Sto → Res PV} (hs : ∀ S, same S = true) (S : Sto)
    (h1 : ∀ m x ρq, (∀ c fs, m ≠ MO.ins c fs) → pur x = true → asg x = some ρq → ∃ ρ, asg' x (S ++ [m]) = some (ρ, S ++ [m]) ∧ Sim n ρq ρ (S ++ [m])) (h2 : ∀ ρq ρ S v, Sim n ρq ρ S → key ρq = some v → key' ρ S = .ok v S ∧ pur v = true) (h3 : ∀ ρq ρ S v, Sim n ρq ρ S → val ρq = some v → val' ρ S = .ok v S ∧ pur v = true) :
    ∀ (xs : List PV) (m m' : MO), purs xs = true → moPur m = true → (∀ c fs, m ≠ .ins c fs) → qdc asg key val xs m = some m' → dcL S.length same asg' key' val' xs (S ++ [m]) = .ok (.loc S.length) (S ++ [m']) ∧ moPur m' = true ∧ ∀ c fs, m' ≠ .ins c fs
  | [], m, m', _, hm, hn, h => by
    simp only [qdc, Option.some.injEq] at h
    subst h
    simp only [dcL, hs]
    exact ⟨rfl, hm, hn⟩
  | x :: xs, m, m', hx, hm, hn, h => by
    simp only [purs, Bool.and_eq_true] at hx
    simp only [qdc] at h
    obtain ⟨ρq, e1, h⟩ := Option.bind_eq_some_iff.mp h
    obtain ⟨k, e2, h⟩ := Option.bind_eq_some_iff.mp h
    obtain ⟨v, e3, h⟩ := Option.bind_eq_some_iff.mp h
    obtain ⟨m2, e4, h⟩ := Option.bind_eq_some_iff.mp h
    obtain ⟨ρ, f1, g1⟩ := h1 m x ρq hn hx.1 e1
    obtain ⟨f2, p2⟩ := h2 ρq ρ _ k g1 e2
    obtain ⟨f3, p3⟩ := h3 ρq ρ _ v g1 e3
    obtain ⟨i1, i2⟩ := ins_pur e4 hm p2 p3
    obtain ⟨q1, q2⟩ := qdc_ok hs S h1 h2 h3 xs m2 m' hx.2 i1 i2 h
    refine ⟨?_, q2⟩
    simp only [dcL, hs, f1, f2, f3, Res.bnd]
    rw [need_true' rfl, List.getElem?_append_right (Nat.le_refl _), Nat.sub_self]
    simp only [List.getElem?_cons_zero, e4, Res.opt]
    have es : (S ++ [m]).set S.length m2 = S ++ [m2] := by
      rw [List.set_append_right _ _ (Nat.le_refl _), Nat.sub_self]
      rfl
    rw [es, q1]
theorem newD_pur (n : Bool) : moPur (newD n) = true ∧ ∀ c fs, newD n ≠ .ins c fs := by
  cases n <;> exact ⟨rfl, fun _ _ z => by cases z⟩
section
variable {cf : Cf} {pf : Nat → List PV → Option Out} {pm : Nat → Nat → List PV → Option Out}
theorem liveIt_ok {it : CI} {n : Nat} {ρq : QEnv} {ρ : Env} {S : Sto} (hs : Sim n ρq ρ S) (ih : ∀ xs, qi pf pm it ρq = some xs → ∃ J : Itm, evi cf it ρ S = .ok J S ∧ J.xs = xs ∧ (∀ S', J.same S' = true) ∧ purs xs = true) {xs : List PV} (h : liveIt it ρq (qi pf pm it ρq) = some xs) :
    ∃ J : Itm, evi cf it ρ S = .ok J S ∧ J.xs = xs ∧ (∀ S' : Sto, (∀ (l : Nat) (m : MO), S[l]? = some m → S'[l]? = some m) → J.same S' = true) ∧ purs xs = true := by
  have gen : qi pf pm it ρq = some xs → ∃ J : Itm, evi cf it ρ S = .ok J S ∧ J.xs = xs ∧ (∀ S' : Sto, (∀ (l : Nat) (m : MO), S[l]? = some m → S'[l]? = some m) → J.same S' = true) ∧ purs xs = true := fun h => by
    obtain ⟨J, a, b, c, d⟩ := ih xs h
    exact ⟨J, a, b, fun S' _ => c S', d⟩
  unfold liveIt at h
  split at h
  · rename_i i
    split at h
    · rename_i ys e
      cases h
      obtain ⟨g1, l, g2, g3, g4⟩ := hs.o i _ e
      have q : seqOf S (.loc l) = some xs := by simp [seqOf, lstOf, g4]
      refine ⟨⟨xs, fun S' => decide (seqOf S' (.loc l) = some xs)⟩, ?_, rfl, fun S' h' => ?_, by simpa only [moPur] using g1⟩
      · have e2 : ev cf (.var i) ρ S = .ok (.loc l) S := by rw [ev]; simp only [g3]
        have e3 : seqI S (.loc l) = some ⟨xs, fun S' => decide (seqOf S' (.loc l) = some xs)⟩ := by
          simp only [seqI, keysOf, g4, q, Option.map_some]
        rw [evi]; simp only [e2, Res.bind, e3, Res.opt]
      · have := h' l _ g4
        exact decide_eq_true (by simp [seqOf, lstOf, this])
    · exact gen h
  · exact gen h
theorem qv_ok {e : CE} {n : Nat} {ρq : QEnv} {ρ : Env} {S : Sto} (hs : Sim n ρq ρ S) (ih : ∀ v, qe pf pm e ρq = some v → ev cf e ρ S = .ok v S ∧ pur v = true) {q : QV} (h : qv e ρq (qe pf pm e ρq) = some q) : ∃ w, ev cf e ρ S = .ok w S ∧ RdQ S w q := by
  have gen : (qe pf pm e ρq).map QV.v = some q → ∃ w, ev cf e ρ S = .ok w S ∧ RdQ S w q := fun h => by
    obtain ⟨v, e1, rfl⟩ := Option.map_eq_some_iff.mp h
    obtain ⟨f1, g1⟩ := ih v e1
    exact ⟨v, f1, rfl, g1⟩
  cases e <;> simp only [qv] at h <;> first | exact gen h | skip
  rename_i i
  split at h
  · rename_i q' e1
    cases h
    obtain ⟨w, e2, r⟩ := hs.rd e1
    exact ⟨w, by rw [ev]; simp only [e2], r⟩
  · cases h
theorem qr_ok {e : CE} {n : Nat} {ρq : QEnv} {ρ : Env} {S : Sto} (hs : Sim n ρq ρ S) (ih : ∀ v, qe pf pm e ρq = some v → ev cf e ρ S = .ok v S ∧ pur v = true) {x : PV} (h : qr e ρq (qe pf pm e ρq) = some x) : ∃ w, ev cf e ρ S = .ok w S ∧ Rd S w x := by
  obtain ⟨q, e1, e2⟩ := Option.bind_eq_some_iff.mp h
  obtain ⟨w, f, r⟩ := qv_ok hs ih e1
  exact ⟨w, f, r.rd e2⟩
mutual
theorem qe_ok (F : FQ cf pf pm) : ∀ (e : CE) (ρq : QEnv) (v : PV) (n : Nat) (ρ : Env) (S : Sto), Sim n ρq ρ S → qe pf pm e ρq = some v → ev cf e ρ S = .ok v S ∧ pur v = true
  | .cst w, ρq, v, n, ρ, S, hs, h => by
    simp only [qe] at h
    split at h
    · cases h; exact ⟨by rw [ev], by assumption⟩
    · cases h
  | .var i, ρq, v, n, ρ, S, hs, h => by
    simp only [qe] at h
    split at h
    · rename_i w e
      cases h
      obtain ⟨e2, p⟩ := hs.v i _ e
      exact ⟨by rw [ev]; simp only [e2], p⟩
    · cases h
  | .pow i j, ρq, v, n, ρ, S, hs, h => by
    simp only [qe, Option.some.injEq] at h
    subst h
    exact ⟨by rw [ev], rfl⟩
  | .bop o a b, ρq, v, n, ρ, S, hs, h => by
    simp only [qe] at h
    obtain ⟨x, e1, h⟩ := Option.bind_eq_some_iff.mp h
    obtain ⟨y, e2, h⟩ := Option.bind_eq_some_iff.mp h
    obtain ⟨f1, g1⟩ := qe_ok F a ρq x n ρ S hs e1
    obtain ⟨f2, g2⟩ := qe_ok F b ρq y n ρ S hs e2
    have h := okP_is h
    rcases bop_f h S with ⟨_, q, r⟩ | ⟨xs, z, _⟩
    · exact ⟨by rw [ev]; simp only [f1, f2, Res.bind]; exact q, r g1 g2⟩
    · cases z
  | .cmp o a b, ρq, v, n, ρ, S, hs, h => by
    simp only [qe] at h
    obtain ⟨x, e1, h⟩ := Option.bind_eq_some_iff.mp h
    obtain ⟨y, e2, h⟩ := Option.bind_eq_some_iff.mp h
    obtain ⟨k, e3, rfl⟩ := Option.map_eq_some_iff.mp h
    obtain ⟨w, f1, r1⟩ := qv_ok hs (fun v h => qe_ok F a ρq v n ρ S hs h) e1
    obtain ⟨u, f2, r2⟩ := qv_ok hs (fun v h => qe_ok F b ρq v n ρ S hs h) e2
    exact ⟨by rw [ev]; simp only [f1, f2, Res.bind, cmpQ_rd r1 r2 e3, Res.opt], rfl⟩
  | .cmp2 o o' a b c, ρq, v, n, ρ, S, hs, h => by
    simp only [qe] at h
    obtain ⟨x, e1, h⟩ := Option.bind_eq_some_iff.mp h
    obtain ⟨y, e2, h⟩ := Option.bind_eq_some_iff.mp h
    obtain ⟨k, e3, h⟩ := Option.bind_eq_some_iff.mp h
    obtain ⟨f1, _⟩ := qe_ok F a ρq x n ρ S hs e1
    obtain ⟨f2, _⟩ := qe_ok F b ρq y n ρ S hs e2
    cases k with
    | false =>
      simp only [Bool.false_eq_true, if_false, Option.some.injEq] at h
      subst h
      exact ⟨by rw [ev]; simp only [f1, f2, Res.bind, cmp_f e3 S, Res.opt, Bool.false_eq_true, if_false], rfl⟩
    | true =>
      simp only [if_true] at h
      obtain ⟨z, e4, h⟩ := Option.bind_eq_some_iff.mp h
      obtain ⟨k', e5, rfl⟩ := Option.map_eq_some_iff.mp h
      obtain ⟨f4, _⟩ := qe_ok F c ρq z n ρ S hs e4
      exact ⟨by rw [ev]; simp only [f1, f2, Res.bind, cmp_f e3 S, Res.opt, if_true, f4, cmp_f e5 S], rfl⟩
  | .and a b, ρq, v, n, ρ, S, hs, h => by
    simp only [qe] at h
    obtain ⟨x, e1, h⟩ := Option.bind_eq_some_iff.mp h
    obtain ⟨f1, _⟩ := qe_ok F a ρq x n ρ S hs e1
    split at h
    · obtain ⟨f2, g2⟩ := qe_ok F b ρq v n ρ S hs h
      exact ⟨by rw [ev]; simp only [f1, Res.bind, f2], g2⟩
    · cases h
      exact ⟨by rw [ev]; simp only [f1, Res.bind], rfl⟩
    · cases h
  | .or a b, ρq, v, n, ρ, S, hs, h => by
    simp only [qe] at h
    obtain ⟨x, e1, h⟩ := Option.bind_eq_some_iff.mp h
    obtain ⟨f1, _⟩ := qe_ok F a ρq x n ρ S hs e1
    split at h
    · obtain ⟨f2, g2⟩ := qe_ok F b ρq v n ρ S hs h
      exact ⟨by rw [ev]; simp only [f1, Res.bind, f2], g2⟩
    · cases h
      exact ⟨by rw [ev]; simp only [f1, Res.bind], rfl⟩
    · cases h
  | .not a, ρq, v, n, ρ, S, hs, h => by
    simp only [qe] at h
    obtain ⟨x, e1, h⟩ := Option.bind_eq_some_iff.mp h
    obtain ⟨k, e2, rfl⟩ := Option.map_eq_some_iff.mp h
    obtain ⟨f1, _⟩ := qe_ok F a ρq x n ρ S hs e1
    exact ⟨by rw [ev]; simp only [f1, Res.bind, truth_f e2 S, Res.opt], rfl⟩
  | .neg a, ρq, v, n, ρ, S, hs, h => by
    simp only [qe] at h
    obtain ⟨x, e1, h⟩ := Option.bind_eq_some_iff.mp h
    obtain ⟨f1, _⟩ := qe_ok F a ρq x n ρ S hs e1
    split at h
    · cases h
      exact ⟨by rw [ev]; simp only [f1, Res.bind], rfl⟩
    · cases h
  | .tup es, ρq, v, n, ρ, S, hs, h => by
    simp only [qe] at h
    obtain ⟨vs, e1, h⟩ := Option.bind_eq_some_iff.mp h
    obtain ⟨f1, g1⟩ := qes_ok F es ρq vs n ρ S hs e1
    split at h
    · rename_i hl
      cases h
      exact ⟨by rw [ev]; simp only [f1, Res.bind]; exact need_true' (decide_eq_true hl), by simp only [pur]; exact g1⟩
    · cases h
  | .ix a i, ρq, v, n, ρ, S, hs, h => by
    simp only [qe] at h
    obtain ⟨x, e1, h⟩ := Option.bind_eq_some_iff.mp h
    obtain ⟨y, e2, h⟩ := Option.bind_eq_some_iff.mp h
    obtain ⟨w, f1, r1⟩ := qv_ok hs (fun v h => qe_ok F a ρq v n ρ S hs h) e1
    obtain ⟨f2, _⟩ := qe_ok F i ρq y n ρ S hs e2
    obtain ⟨q1, q2⟩ := ixQ_rd r1 h
    exact ⟨by rw [ev]; simp only [f1, f2, Res.bind, q1, Res.opt], q2⟩
  | .bi b es, ρq, v, n, ρ, S, hs, h => by
    simp only [qe] at h
    obtain ⟨vs, e1, h⟩ := Option.bind_eq_some_iff.mp h
    obtain ⟨ws, f1, r1, g1⟩ := qrs_ok F es ρq vs n ρ S hs e1
    obtain ⟨q1, q2⟩ := bqP_f h g1 S
    exact ⟨by rw [ev]; simp only [f1, Res.bind]; rw [bi_rd b r1]; exact q1, q2⟩
  | .isi e ks, ρq, v, n, ρ, S, hs, h => by
    simp only [qe] at h
    obtain ⟨x, e1, h⟩ := Option.bind_eq_some_iff.mp h
    obtain ⟨k, e2, rfl⟩ := Option.map_eq_some_iff.mp h
    obtain ⟨w, f1, r1⟩ := qr_ok hs (fun v h => qe_ok F e ρq v n ρ S hs h) e1
    exact ⟨by rw [ev]; simp only [f1, Res.bind]; rw [r1.isi cf ks, isi_f e2 S]; rfl, rfl⟩
  | .fld a f, ρq, v, n, ρ, S, hs, h => by
    simp only [qe] at h
    obtain ⟨x, e1, h⟩ := Option.bind_eq_some_iff.mp h
    obtain ⟨w, f1, r1⟩ := qv_ok hs (fun v h => qe_ok F a ρq v n ρ S hs h) e1
    obtain ⟨q1, q2⟩ := fldQ_rd r1 h
    exact ⟨by rw [ev]; simp only [f1, Res.bind, q1, Res.opt], q2⟩
  | .lm .index a (.cons e .nil), ρq, v, n, ρ, S, hs, h => by
    simp only [qe] at h
    obtain ⟨x, e1, h⟩ := Option.bind_eq_some_iff.mp h
    obtain ⟨y, e2, h⟩ := Option.bind_eq_some_iff.mp h
    obtain ⟨f1, g1⟩ := qe_ok F a ρq x n ρ S hs e1
    obtain ⟨f2, g2⟩ := qe_ok F e ρq y n ρ S hs e2
    split at h
    · rename_i hk
      have h := okP_is h
      have hk' : lmK .index S x = true := hk
      have hv : lmV .index S x [y] = .ok v S ∧ pur v = true := by
        unfold lmV at h ⊢
        split at h <;> first | (cases h; done) | skip
        all_goals first
          | (rename_i _ _ z; cases z; done)
          | (obtain ⟨j, e3, h⟩ := opt_ok h
             obtain ⟨e4, h⟩ := need_ok h
             cases h
             exact ⟨by simp only [e3, Res.opt]; exact need_true' e4, rfl⟩)
          | skip
      exact ⟨by rw [ev, evs, evs]; simp only [f1, f2, Res.bind]; rw [need_true' hk']; exact hv.1, hv.2⟩
    · cases h
  | .lm .append _ _, _, _, _, _, _, _, h => by simp [qe] at h
  | .lm .pop0 _ _, _, _, _, _, _, _, h => by simp [qe] at h
  | .lm .popk _ _, _, _, _, _, _, _, h => by simp [qe] at h
  | .lm .popd _ _, _, _, _, _, _, _, h => by simp [qe] at h
  | .lm .get1 _ _, _, _, _, _, _, _, h => by simp [qe] at h
  | .lm .get2 _ _, _, _, _, _, _, _, h => by simp [qe] at h
  | .lm .index _ .nil, _, _, _, _, _, _, h => by simp [qe] at h
  | .lm .index _ (.cons _ (.cons _ _)), _, _, _, _, _, _, h => by simp [qe] at h
  | .fz e, ρq, v, n, ρ, S, hs, h => by
    simp only [qe] at h
    obtain ⟨f, g⟩ := qa_ok F e ρq v n ρ S hs h
    exact ⟨by rw [ev]; exact f, g⟩
  | .glo _ w, ρq, v, n, ρ, S, hs, h => by
    simp only [qe] at h
    split at h
    · cases h; exact ⟨by rw [ev], by assumption⟩
    · cases h
  | .gen k elt own tg it, ρq, v, n, ρ, S, hs, h => by
    simp only [qe] at h
    obtain ⟨xs, e1, h⟩ := Option.bind_eq_some_iff.mp h
    obtain ⟨J, q1, q2, q3, g1⟩ := liveIt_ok hs (fun xs h => qi_ok F it ρq xs n ρ S hs h) e1
    obtain ⟨b, e2, rfl⟩ := Option.map_eq_some_iff.mp h
    refine ⟨?_, rfl⟩
    rw [ev]; simp only [q1, Res.bind, q2]
    rw [qgen_ok (n := n) S (q3 S fun _ _ z => z) (fun x ρq' hx e => qt_ok F tg x (qwipe ρq own) ρq' n (wipe ρ own) S (hs.wipe own) hx e) (fun ρq' ρ' S' w hp' e => qe_ok F elt ρq' w n ρ' S' hp' e) xs b g1 e2]
    rfl
  | .nev, _, _, _, _, _, _, h => by simp [qe] at h
  | .ife _ _ _, _, _, _, _, _, _, h => by simp [qe] at h
  | .lst _, _, _, _, _, _, _, h => by simp [qe] at h
  | .dnew _, _, _, _, _, _, _, h => by simp [qe] at h
  | .sl _ _ _, _, _, _, _, _, _, h => by simp [qe] at h
  | .rev _, _, _, _, _, _, _, h => by simp [qe] at h
  | .call _ _, _, _, _, _, _, _, h => by simp [qe] at h
  | .make _ _ _ _, _, _, _, _, _, _, h => by simp [qe] at h
  | .meth _ _ _ _, _, _, _, _, _, _, h => by simp [qe] at h
  | .comp _ _ _ _ _, _, _, _, _, _, _, h => by simp [qe] at h
  | .dcomp _ _ _ _ _ _, _, _, _, _, _, _, h => by simp [qe] at h
  | .dcomp2 _ _ _ _ _ _ _ _, _, _, _, _, _, _, h => by simp [qe] at h
theorem qa_ok (F : FQ cf pf pm) : ∀ (e : CE) (ρq : QEnv) (v : PV) (n : Nat) (ρ : Env) (S : Sto), Sim n ρq ρ S → qa pf pm e ρq = some v → fzR S (ev cf e ρ S) = .ok v S ∧ pur v = true
  | .lst es, ρq, v, n, ρ, S, hs, h => by
    simp only [qa] at h
    obtain ⟨vs, e1, h⟩ := Option.bind_eq_some_iff.mp h
    obtain ⟨f1, g1⟩ := qes_ok F es ρq vs n ρ S hs e1
    split at h
    · rename_i hl
      cases h
      exact ⟨by rw [ev]; simp only [f1, Res.bind]; rw [need_true' (decide_eq_true hl)]; exact frz_new g1, by simp only [pur]; exact g1⟩
    · cases h
  | .bop o a b, ρq, v, n, ρ, S, hs, h => by
    simp only [qa] at h
    obtain ⟨x, e1, h⟩ := Option.bind_eq_some_iff.mp h
    obtain ⟨y, e2, h⟩ := Option.bind_eq_some_iff.mp h
    obtain ⟨w, f1, r1⟩ := qr_ok hs (fun v h => qe_ok F a ρq v n ρ S hs h) e1
    obtain ⟨u, f2, r2⟩ := qr_ok hs (fun v h => qe_ok F b ρq v n ρ S hs h) e2
    have eb := r1.bop o r2
    unfold bopA at h
    split at h
    · rename_i z hw
      cases h
      rcases bop_f hw S with ⟨_, q, p⟩ | ⟨xs, z, _⟩
      · exact ⟨by rw [ev]; simp only [f1, f2, Res.bind]; rw [eb, q]; exact frz_pur (p r1.1 r2.1), p r1.1 r2.1⟩
      · cases z
    · rename_i z xs hw
      cases h
      rcases bop_f hw S with ⟨z, _⟩ | ⟨ys, z, q, r⟩
      · cases z
      · cases z
        exact ⟨by rw [ev]; simp only [f1, f2, Res.bind]; rw [eb, q]; exact frz_new (r r1.1 r2.1), by simp only [pur]; exact r r1.1 r2.1⟩
    · cases h
  | .sl a lo hi, ρq, v, n, ρ, S, hs, h => by
    simp only [qa] at h
    obtain ⟨x, e1, h⟩ := Option.bind_eq_some_iff.mp h
    obtain ⟨l, e2, h⟩ := Option.bind_eq_some_iff.mp h
    obtain ⟨u, e3, h⟩ := Option.bind_eq_some_iff.mp h
    obtain ⟨w, f1, r1⟩ := qr_ok hs (fun v h => qe_ok F a ρq v n ρ S hs h) e1
    have f2 := qo_ok F lo ρq l n ρ S hs e2
    have f3 := qo_ok F hi ρq u n ρ S hs e3
    obtain ⟨q, r⟩ := slA_f h r1.1
    exact ⟨by rw [ev]; simp only [f1, f2, f3, Res.bind]; rw [r1.sl]; exact q S, r⟩
  | .rev a, ρq, v, n, ρ, S, hs, h => by
    simp only [qa] at h
    obtain ⟨x, e1, h⟩ := Option.bind_eq_some_iff.mp h
    obtain ⟨xs, e4, rfl⟩ := Option.map_eq_some_iff.mp h
    obtain ⟨w, f1, r1⟩ := qr_ok hs (fun v h => qe_ok F a ρq v n ρ S hs h) e1
    have q : purs xs.reverse = true := purs_iff.mpr fun z hz => purs_iff.mp ((lst_f e4 []).2 r1.1) z (List.mem_reverse.mp hz)
    refine ⟨?_, by simp only [pur]; exact q⟩
    rw [ev]; simp only [f1, Res.bind]
    rw [r1.rev]
    simp only [revV, (lst_f e4 S).1, Res.opt]
    exact frz_new q
  | .bi b es, ρq, v, n, ρ, S, hs, h => by
    simp only [qa] at h
    obtain ⟨vs, e1, h⟩ := Option.bind_eq_some_iff.mp h
    obtain ⟨ws, f1, r1, g1⟩ := qrs_ok F es ρq vs n ρ S hs e1
    rcases bqA_f h g1 S with ⟨q, r⟩ | ⟨xs, rfl, q, r⟩
    · exact ⟨by rw [ev]; simp only [f1, Res.bind]; rw [bi_rd b r1, q]; exact frz_pur r, r⟩
    · exact ⟨by rw [ev]; simp only [f1, Res.bind]; rw [bi_rd b r1, q]; exact frz_new r, by simp only [pur]; exact r⟩
  | .call f es, ρq, v, n, ρ, S, hs, h => by
    simp only [qa] at h
    obtain ⟨vs, e1, h⟩ := Option.bind_eq_some_iff.mp h
    obtain ⟨f1, g1⟩ := qes_ok F es ρq vs n ρ S hs e1
    obtain ⟨q, r⟩ := F.f f vs v g1 (outV_is h)
    exact ⟨by rw [ev]; simp only [f1, Res.bind]; exact r S, q⟩
  | .make c f es dv, ρq, v, n, ρ, S, hs, h => by
    simp only [qa] at h
    split at h
    · rename_i hd
      obtain ⟨vs, e1, h⟩ := Option.bind_eq_some_iff.mp h
      obtain ⟨f1, g1⟩ := qes_ok F es ρq vs n ρ S hs e1
      obtain ⟨q, r⟩ := F.m c f (vs ++ dv) v (purs_app g1 hd) (outV_is h)
      refine ⟨?_, q⟩
      rw [ev]; simp only [f1]
      rw [Res.bind_ok]
      exact r S
    · cases h
  | .comp elt own tg it cond, ρq, v, n, ρ, S, hs, h => by
    simp only [qa] at h
    obtain ⟨xs, e1, h⟩ := Option.bind_eq_some_iff.mp h
    obtain ⟨J, q1, q2, q3, g1⟩ := liveIt_ok hs (fun xs h => qi_ok F it ρq xs n ρ S hs h) e1
    split at h
    · rename_i hl
      obtain ⟨ys, e2, rfl⟩ := Option.map_eq_some_iff.mp h
      obtain ⟨k1, k2⟩ := qcomp_ok (n := n) (same := J.same) (asg' := fun x S => evt cf tg x (wipe ρ own) S) (cond' := fun ρ S => evb cf cond ρ S) (elt' := fun ρ S => ev cf elt ρ S) S (fun acc => q3 _ fun l m z => by rw [List.getElem?_append_left (List.getElem?_eq_some_iff.mp z).1]; exact z) (fun acc x ρq' hx e => qt_ok F tg x (qwipe ρq own) ρq' n (wipe ρ own) _ ((hs.more fun _ _ z => by cases z).wipe own) hx e) (fun ρq' ρ' S' b hp' e => qb_ok F cond ρq' b n ρ' S' hp' e) (fun ρq' ρ' S' w hp' e => qe_ok F elt ρq' w n ρ' S' hp' e) xs ys [] g1 rfl (by simpa using hl) e2
      refine ⟨?_, by simp only [pur]; exact k2⟩
      rw [ev]; simp only [q1, Res.bind, q2, k1, List.nil_append]
      exact frz_new k2
    · cases h
  | .cst _, _, _, _, _, _, _, h => by simp [qa] at h
  | .var _, _, _, _, _, _, _, h => by simp [qa] at h
  | .glo _ _, _, _, _, _, _, _, h => by simp [qa] at h
  | .pow _ _, _, _, _, _, _, _, h => by simp [qa] at h
  | .cmp _ _ _, _, _, _, _, _, _, h => by simp [qa] at h
  | .cmp2 _ _ _ _ _, _, _, _, _, _, _, h => by simp [qa] at h
  | .and _ _, _, _, _, _, _, _, h => by simp [qa] at h
  | .or _ _, _, _, _, _, _, _, h => by simp [qa] at h
  | .not _, _, _, _, _, _, _, h => by simp [qa] at h
  | .neg _, _, _, _, _, _, _, h => by simp [qa] at h
  | .ife _ _ _, _, _, _, _, _, _, h => by simp [qa] at h
  | .tup _, _, _, _, _, _, _, h => by simp [qa] at h
  | .dnew _, _, _, _, _, _, _, h => by simp [qa] at h
  | .ix _ _, _, _, _, _, _, _, h => by simp [qa] at h
  | .fld _ _, _, _, _, _, _, _, h => by simp [qa] at h
  | .meth _ _ _ _, _, _, _, _, _, _, h => by simp [qa] at h
  | .isi _ _, _, _, _, _, _, _, h => by simp [qa] at h
  | .lm _ _ _, _, _, _, _, _, _, h => by simp [qa] at h
  | .gen _ _ _ _ _, _, _, _, _, _, _, h => by simp [qa] at h
  | .dcomp _ _ _ _ _ _, _, _, _, _, _, _, h => by simp [qa] at h
  | .dcomp2 _ _ _ _ _ _ _ _, _, _, _, _, _, _, h => by simp [qa] at h
  | .fz _, _, _, _, _, _, _, h => by simp [qa] at h
  | .nev, _, _, _, _, _, _, h => by simp [qa] at h
theorem qes_ok (F : FQ cf pf pm) : ∀ (es : CEs) (ρq : QEnv) (vs : List PV) (n : Nat) (ρ : Env) (S : Sto), Sim n ρq ρ S → qes pf pm es ρq = some vs → evs cf es ρ S = .ok vs S ∧ purs vs = true
  | .nil, ρq, vs, n, ρ, S, hs, h => by
    simp only [qes, Option.some.injEq] at h
    subst h
    exact ⟨by rw [evs], rfl⟩
  | .cons e es, ρq, vs, n, ρ, S, hs, h => by
    simp only [qes] at h
    obtain ⟨v, e1, h⟩ := Option.bind_eq_some_iff.mp h
    obtain ⟨ws, e2, rfl⟩ := Option.map_eq_some_iff.mp h
    obtain ⟨f1, g1⟩ := qe_ok F e ρq v n ρ S hs e1
    obtain ⟨f2, g2⟩ := qes_ok F es ρq ws n ρ S hs e2
    exact ⟨by rw [evs]; simp only [f1, f2, Res.bind], by simp [purs, g1, g2]⟩
theorem qrs_ok (F : FQ cf pf pm) : ∀ (es : CEs) (ρq : QEnv) (vs : List PV) (n : Nat) (ρ : Env) (S : Sto), Sim n ρq ρ S → qrs pf pm es ρq = some vs → ∃ ws, evs cf es ρ S = .ok ws S ∧ Paired (Rd S) ws vs ∧ purs vs = true
  | .nil, ρq, vs, n, ρ, S, hs, h => by
    simp only [qrs, Option.some.injEq] at h
    subst h
    exact ⟨[], by rw [evs], .nil, rfl⟩
  | .cons e es, ρq, vs, n, ρ, S, hs, h => by
    simp only [qrs] at h
    obtain ⟨v, e1, h⟩ := Option.bind_eq_some_iff.mp h
    obtain ⟨vs', e2, rfl⟩ := Option.map_eq_some_iff.mp h
    obtain ⟨w, f1, r1⟩ := qr_ok hs (fun v h => qe_ok F e ρq v n ρ S hs h) e1
    obtain ⟨ws, f2, r2, g2⟩ := qrs_ok F es ρq vs' n ρ S hs e2
    exact ⟨w :: ws, by rw [evs]; simp only [f1, f2, Res.bind], .cons r1 r2, by simp [purs, r1.1, g2]⟩
theorem qo_ok (F : FQ cf pf pm) : ∀ (o : CEo) (ρq : QEnv) (i : Option Int) (n : Nat) (ρ : Env) (S : Sto), Sim n ρq ρ S → qo pf pm o ρq = some i → evo cf o ρ S = .ok i S
  | .none, ρq, i, n, ρ, S, hs, h => by
    simp only [qo, Option.some.injEq] at h
    subst h
    rw [evo]
  | .some e, ρq, i, n, ρ, S, hs, h => by
    simp only [qo] at h
    obtain ⟨v, e1, h⟩ := Option.bind_eq_some_iff.mp h
    obtain ⟨f1, g1⟩ := qe_ok F e ρq v n ρ S hs e1
    split at h
    · cases h
      rw [evo]; simp only [f1, Res.bind]
    · cases h
theorem qb_ok (F : FQ cf pf pm) : ∀ (o : CEo) (ρq : QEnv) (b : Bool) (n : Nat) (ρ : Env) (S : Sto), Sim n ρq ρ S → qb pf pm o ρq = some b → evb cf o ρ S = .ok b S
  | .none, ρq, b, n, ρ, S, hs, h => by
    simp only [qb, Option.some.injEq] at h
    subst h
    rw [evb]
  | .some e, ρq, b, n, ρ, S, hs, h => by
    simp only [qb] at h
    obtain ⟨v, e1, h⟩ := Option.bind_eq_some_iff.mp h
    obtain ⟨f1, g1⟩ := qe_ok F e ρq v n ρ S hs e1
    rw [evb]; simp only [f1, Res.bind, truth_f h S, Res.opt]
theorem qi_ok (F : FQ cf pf pm) : ∀ (i : CI) (ρq : QEnv) (xs : List PV) (n : Nat) (ρ : Env) (S : Sto), Sim n ρq ρ S → qi pf pm i ρq = some xs → ∃ J : Itm, evi cf i ρ S = .ok J S ∧ J.xs = xs ∧ (∀ S', J.same S' = true) ∧ purs xs = true
  | .seq e, ρq, xs, n, ρ, S, hs, h => by
    simp only [qi] at h
    obtain ⟨v, e1, h⟩ := Option.bind_eq_some_iff.mp h
    obtain ⟨f1, g1⟩ := qe_ok F e ρq v n ρ S hs e1
    unfold itemsQ at h
    split at h
    · rename_i z
      cases h
      exact ⟨⟨signs z, fun _ => true⟩, by rw [evi]; simp only [f1, Res.bind, seqI, Res.opt], rfl, fun _ => rfl, purs_iff.mpr fun x hx => by obtain ⟨c, _, rfl⟩ := List.mem_map.mp hx; rfl⟩
    · rename_i hn
      refine ⟨⟨xs, fun S' => decide (seqOf S' v = some xs)⟩, ?_, rfl, fun S' => decide_eq_true (seq_f h S').1, (seq_f h []).2 g1⟩
      have e2 : seqI S v = some ⟨xs, fun S' => decide (seqOf S' v = some xs)⟩ := by
        unfold seqI
        split
        · rename_i z; exact absurd rfl (hn z)
        · rw [keys_pur g1]; simp only [(seq_f h S).1, Option.map_some]
      rw [evi]; simp only [f1, Res.bind, e2, Res.opt]
  | .rng1 e, ρq, xs, n, ρ, S, hs, h => by
    simp only [qi] at h
    obtain ⟨v, e1, h⟩ := Option.bind_eq_some_iff.mp h
    obtain ⟨f1, g1⟩ := qe_ok F e ρq v n ρ S hs e1
    split at h
    · rename_i n
      split at h
      · rename_i hk
        cases h
        refine ⟨_, by rw [evi]; simp only [f1, Res.bind]; exact need_true' hk, rfl, fun _ => rfl, ?_⟩
        exact purs_iff.mpr fun x hx => by obtain ⟨i, _, rfl⟩ := List.mem_map.mp hx; rfl
      · cases h
    · cases h
  | .rng2 a b, ρq, xs, n, ρ, S, hs, h => by
    simp only [qi] at h
    obtain ⟨v, e1, h⟩ := Option.bind_eq_some_iff.mp h
    obtain ⟨u, e2, h⟩ := Option.bind_eq_some_iff.mp h
    obtain ⟨f1, g1⟩ := qe_ok F a ρq v n ρ S hs e1
    obtain ⟨f2, g2⟩ := qe_ok F b ρq u n ρ S hs e2
    split at h
    · split at h
      · rename_i hk
        cases h
        refine ⟨_, by rw [evi]; simp only [f1, f2, Res.bind]; exact need_true' hk, rfl, fun _ => rfl, ?_⟩
        exact purs_iff.mpr fun x hx => by obtain ⟨i, _, rfl⟩ := List.mem_map.mp hx; rfl
      · cases h
    · cases h
  | .enum e, ρq, xs, n, ρ, S, hs, h => by
    simp only [qi] at h
    obtain ⟨v, e1, h⟩ := Option.bind_eq_some_iff.mp h
    obtain ⟨vs, e2, h⟩ := Option.map_eq_some_iff.mp h
    obtain ⟨f1, g1⟩ := qe_ok F e ρq v n ρ S hs e1
    have gv := purs_iff.mp ((seq_f e2 []).2 g1)
    subst h
    refine ⟨_, by rw [evi]; simp only [f1, Res.bind, (seq_f e2 S).1, Res.opt]; rfl, rfl, fun S' => decide_eq_true (seq_f e2 S').1, purs_iff.mpr fun x hx => ?_⟩
    obtain ⟨⟨w, i⟩, hw, rfl⟩ := List.mem_map.mp hx
    have hw := gv w (List.fst_mem_of_mem_zipIdx hw)
    simp [pur, purs, hw]
  | .zip a b, ρq, xs, n, ρ, S, hs, h => by
    simp only [qi] at h
    obtain ⟨v, e1, h⟩ := Option.bind_eq_some_iff.mp h
    obtain ⟨u, e2, h⟩ := Option.bind_eq_some_iff.mp h
    obtain ⟨f1, g1⟩ := qe_ok F a ρq v n ρ S hs e1
    obtain ⟨f2, g2⟩ := qe_ok F b ρq u n ρ S hs e2
    split at h
    · rename_i hk
      obtain ⟨vs, e3, h⟩ := Option.bind_eq_some_iff.mp h
      obtain ⟨us, e4, h⟩ := Option.bind_eq_some_iff.mp h
      split at h
      · rename_i hal
        have gv := purs_iff.mp ((seq_f e3 []).2 g1)
        have gu := purs_iff.mp ((seq_f e4 []).2 g2)
        cases h
        refine ⟨_, by rw [evi]; simp only [f1, f2, Res.bind, (seq_f e3 S).1, (seq_f e4 S).1, Res.opt]; rw [need_true' hk, need_true' hal], rfl, fun S' => by dsimp only; rw [(seq_f e3 S').1, (seq_f e4 S').1]; simp, purs_iff.mpr fun x hx => ?_⟩
        obtain ⟨⟨w, z⟩, hw, rfl⟩ := List.mem_map.mp hx
        obtain ⟨h1, h2⟩ := List.of_mem_zip hw
        simp [pur, purs, gv w h1, gu z h2]
      · cases h
    · cases h
theorem qt_ok (F : FQ cf pf pm) : ∀ (t : CT) (v : PV) (ρq ρq' : QEnv) (n : Nat) (ρ : Env) (S : Sto), Sim n ρq ρ S → pur v = true → qt pf pm t v ρq = some ρq' → ∃ ρ', evt cf t v ρ S = some (ρ', S) ∧ Sim n ρq' ρ' S
  | .var i, v, ρq, ρq', n, ρ, S, hs, hv, h => by
    simp only [qt, Option.some.injEq] at h
    subst h
    exact ⟨_, by rw [evt], hs.setV hv⟩
  | .tup ts, v, ρq, ρq', n, ρ, S, hs, hv, h => by
    simp only [qt] at h
    obtain ⟨vs, e1, h⟩ := Option.bind_eq_some_iff.mp h
    obtain ⟨ρ', f, g⟩ := qts_ok F ts vs ρq ρq' n ρ S hs ((seq_f e1 []).2 hv) h
    exact ⟨ρ', by rw [evt]; simp only [(seq_f e1 S).1]; exact f, g⟩
  | .fld _ _, _, _, _, _, _, _, _, _, h => by simp [qt] at h
  | .sub _ _, _, _, _, _, _, _, _, _, h => by simp [qt] at h
theorem qts_ok (F : FQ cf pf pm) : ∀ (t : CTs) (vs : List PV) (ρq ρq' : QEnv) (n : Nat) (ρ : Env) (S : Sto), Sim n ρq ρ S → purs vs = true → qts pf pm t vs ρq = some ρq' → ∃ ρ', evts cf t vs ρ S = some (ρ', S) ∧ Sim n ρq' ρ' S
  | .nil, vs, ρq, ρq', n, ρ, S, hs, hv, h => by
    simp only [qts] at h
    split at h
    · cases h
      exact ⟨ρ, by rw [evts], hs⟩
    · cases h
  | .cons t ts, vs, ρq, ρq', n, ρ, S, hs, hv, h => by
    simp only [qts] at h
    split at h
    · cases h
    · rename_i v r
      simp only [purs, Bool.and_eq_true] at hv
      obtain ⟨ρ1, e1, h⟩ := Option.bind_eq_some_iff.mp h
      obtain ⟨ρ2, f1, g1⟩ := qt_ok F t v ρq ρ1 n ρ S hs hv.1 e1
      obtain ⟨ρ3, f2, g2⟩ := qts_ok F ts r ρ1 ρq' n ρ2 S g1 hv.2 h
      exact ⟨ρ3, by rw [evts]; simp only [f1]; exact f2, g2⟩
end
end
end PM
end
section
namespace PM
open PySem
section
variable {n : Nat} {ρq : QEnv} {ρ : Env} {S : Sto}
theorem Sim.new (h : Sim n ρq ρ S) {i : Nat} {m : MO} (hm : moPur m = true) (hn : ∀ c fs, m ≠ .ins c fs) (hi : i < ρq.length) : Sim n (ρq.set i (some (.o m))) (ρ.set i (some (.loc S.length))) (S ++ [m]) where
  len := by simp [h.len]
  ln := (h.more hn).ln
  v := fun j y e => by
    rcases set_get e with ⟨rfl, e2, hl⟩ | ⟨ne, e2⟩
    · cases e2
    · rw [List.getElem?_set_ne ne]; exact h.v j y e2
  o := fun j m' e => by
    rcases set_get e with ⟨rfl, e2, hl⟩ | ⟨ne, e2⟩
    · cases e2
      exact ⟨hm, S.length, h.ln, by rw [List.getElem?_set_self (h.len ▸ hl)], by simp⟩
    · rw [List.getElem?_set_ne ne]; exact (h.more hn).o j m' e2
  d := fun j k m1 m2 l e1 e2 e3 e4 => by
    rcases set_get e1 with ⟨rfl, z, hl⟩ | ⟨n1, z1⟩
    · rcases set_get e2 with ⟨rfl, z2, _⟩ | ⟨n2, z2⟩
      · rfl
      · rw [List.getElem?_set_self (h.len ▸ hl)] at e3
        cases e3
        rw [List.getElem?_set_ne n2] at e4
        obtain ⟨_, l', _, q1, q2⟩ := h.o k m2 z2
        rw [e4] at q1; cases q1
        have := (List.getElem?_eq_some_iff.mp q2).1
        omega
    · rw [List.getElem?_set_ne n1] at e3
      rcases set_get e2 with ⟨rfl, z2, hl⟩ | ⟨n2, z2⟩
      · rw [List.getElem?_set_self (h.len ▸ hl)] at e4
        cases e4
        obtain ⟨_, l', _, q1, q2⟩ := h.o j m1 z1
        rw [e3] at q1; cases q1
        have := (List.getElem?_eq_some_iff.mp q2).1
        omega
      · rw [List.getElem?_set_ne n2] at e4
        exact h.d j k m1 m2 l z1 z2 e3 e4
  u := (h.more hn).u
theorem Sim.upd (h : Sim n ρq ρ S) {i : Nat} {m m' : MO} {l : Nat} (e : ρq[i]? = some (some (QV.o m))) (el : ρ[i]? = some (some (PV.loc l))) (hm : moPur m' = true) (hn : ∀ c fs, m' = .ins c fs → l = n) : Sim n (ρq.set i (some (.o m'))) ρ (S.set l m') where
  len := by simp [h.len]
  ln := by simp; exact h.ln
  v := fun j y e => by
    rcases set_get e with ⟨rfl, e2, hl⟩ | ⟨ne, e2⟩
    · cases e2
    · exact h.v j y e2
  o := fun j m2 e2 => by
    rcases set_get e2 with ⟨rfl, e3, hl⟩ | ⟨ne, e3⟩
    · cases e3
      obtain ⟨_, l', h2, h3, h4⟩ := h.o i m e
      rw [el] at h3; cases h3
      exact ⟨hm, l, h2, el, by rw [List.getElem?_set_self (List.getElem?_eq_some_iff.mp h4).1]⟩
    · obtain ⟨h1, l', h2, h3, h4⟩ := h.o j m2 e3
      refine ⟨h1, l', h2, h3, ?_⟩
      have : l ≠ l' := fun z => by subst z; exact ne (h.d i j m m2 l e e3 el h3)
      rw [List.getElem?_set_ne this]; exact h4
  d := fun j k m1 m2 l' e1 e2 e3 e4 => by
    have lift : ∀ {j : Nat} {m1 : MO}, (ρq.set i (some (QV.o m')))[j]? = some (some (QV.o m1)) → ∃ m0, ρq[j]? = some (some (QV.o m0)) := fun {j m1} e1 => by
      rcases set_get e1 with ⟨rfl, _, _⟩ | ⟨_, z⟩
      · exact ⟨m, e⟩
      · exact ⟨m1, z⟩
    obtain ⟨a, ea⟩ := lift e1
    obtain ⟨b, eb⟩ := lift e2
    exact h.d j k a b l' ea eb e3 e4
  u := fun l' c fs hl e2 => by
    by_cases hz : l = l'
    · subst hz
      by_cases hs : l < S.length
      · rw [List.getElem?_set_self hs] at e2
        cases e2
        exact hn c fs rfl
      · rw [List.getElem?_eq_none (by simpa using hs)] at e2; cases e2
    · rw [List.getElem?_set_ne hz] at e2
      exact h.u l' c fs hl e2
theorem set_take {l : Nat} {m : MO} (hl : n ≤ l) : (S.set l m).take n = S.take n := by
  rw [List.take_set]
  exact List.set_eq_of_length_le (by simp; omega)
theorem app_take {m : MO} (hl : n ≤ S.length) : (S ++ [m]).take n = S.take n := List.take_append_of_le_length hl
end
def RelQ (n : Nat) (S0 : Sto) : QR → RS → Prop
  | .nx ρq, .nx ρ S => Sim n ρq ρ S ∧ S.take n = S0
  | .ret v, .ret w S => n ≤ S.length ∧ S.take n = S0 ∧ frz n S w = some v ∧ pur v = true
  | .exc c ρq, .exc c' ρ S => c' = c ∧ Sim n ρq ρ S ∧ S.take n = S0
  | _, _ => False
section
variable {cf : Cf} {pf : Nat → List PV → Option Out} {pm : Nat → Nat → List PV → Option Out} {n : Nat} {S0 : Sto}
theorem RelQ.seq {q r : QR} {q' : RS} {f : QEnv → Option QR} {g : Env → Sto → RS} (hq : RelQ n S0 q q') (h : q.seq f = some r) (hf : ∀ ρq ρ S r, Sim n ρq ρ S → S.take n = S0 → f ρq = some r → RelQ n S0 r (g ρ S)) : RelQ n S0 r (q'.seq g) := by
  cases q with
  | nx ρq =>
    cases q' with
    | nx ρ S => exact hf ρq ρ S r hq.1 hq.2 h
    | _ => exact hq.elim
  | ret v =>
    simp only [QR.seq, Option.some.injEq] at h
    subst h
    cases q' with
    | ret w S => exact hq
    | _ => exact hq.elim
  | exc c ρq =>
    simp only [QR.seq, Option.some.injEq] at h
    subst h
    cases q' with
    | exc c' ρ S => exact hq
    | _ => exact hq.elim
theorem qfor_ok {asg : PV → QEnv → Option QEnv} {body : QEnv → Option QR} {same : Sto → Bool} {asg' : PV → Env → Sto → RT} {body' : Env → Sto → RS} (hs : ∀ S, same S = true)
    (h1 : ∀ x ρq ρq' ρ S, Sim n ρq ρ S → pur x = true → asg x ρq = some ρq' → ∃ ρ', asg' x ρ S = some (ρ', S) ∧ Sim n ρq' ρ' S) (h2 : ∀ ρq r ρ S, Sim n ρq ρ S → S.take n = S0 → body ρq = some r → RelQ n S0 r (body' ρ S)) :
    ∀ (xs : List PV) (ρq : QEnv) (r : QR) (ρ : Env) (S : Sto), purs xs = true → Sim n ρq ρ S → S.take n = S0 → qfor asg body xs ρq = some r → RelQ n S0 r (forL same asg' body' xs ρ S)
  | [], ρq, r, ρ, S, _, hp, ht, h => by
    simp only [qfor, Option.some.injEq] at h
    subst h
    simp only [forL, hs]
    exact ⟨hp, ht⟩
  | x :: xs, ρq, r, ρ, S, hx, hp, ht, h => by
    simp only [purs, Bool.and_eq_true] at hx
    simp only [qfor] at h
    obtain ⟨ρq1, e1, h⟩ := Option.bind_eq_some_iff.mp h
    obtain ⟨q, e2, h⟩ := Option.bind_eq_some_iff.mp h
    obtain ⟨ρ1, f1, g1⟩ := h1 x ρq ρq1 ρ S hp hx.1 e1
    have f2 := h2 ρq1 q ρ1 S g1 ht e2
    have key := f2.seq h fun ρq2 ρ2 S2 r2 hp2 ht2 h2' => qfor_ok hs h1 h2 xs ρq2 r2 ρ2 S2 hx.2 hp2 ht2 h2'
    simp only [forL, hs, f1, if_true]
    cases hb : body' ρ1 S <;> rw [hb] at key <;> exact key
theorem qwh_ok {c : QEnv → Option Bool} {body : QEnv → Option QR} {c' : Env → Sto → Res Bool} {body' : Env → Sto → RS} (h1 : ∀ ρq b ρ S, Sim n ρq ρ S → c ρq = some b → c' ρ S = .ok b S) (h2 : ∀ ρq r ρ S, Sim n ρq ρ S → S.take n = S0 → body ρq = some r → RelQ n S0 r (body' ρ S)) :
    ∀ (k : Nat) (ρq : QEnv) (r : QR) (ρ : Env) (S : Sto), Sim n ρq ρ S → S.take n = S0 → qwh c body k ρq = some r → RelQ n S0 r (whL c' body' k ρ S)
  | 0, ρq, r, ρ, S, hp, ht, h => by simp [qwh] at h
  | k + 1, ρq, r, ρ, S, hp, ht, h => by
    simp only [qwh] at h
    obtain ⟨b, e1, h⟩ := Option.bind_eq_some_iff.mp h
    have f1 := h1 ρq b ρ S hp e1
    cases b with
    | false =>
      simp only [Bool.false_eq_true, if_false, Option.some.injEq] at h
      subst h
      simp only [whL, f1]
      exact ⟨hp, ht⟩
    | true =>
      simp only [if_true] at h
      obtain ⟨q, e2, h⟩ := Option.bind_eq_some_iff.mp h
      have f2 := h2 ρq q ρ S hp ht e2
      have key := f2.seq h fun ρq2 ρ2 S2 r2 hp2 ht2 h2' => qwh_ok h1 h2 k ρq2 r2 ρ2 S2 hp2 ht2 h2'
      simp only [whL, f1]
      cases hb : body' ρ S <;> rw [hb] at key <;> exact key
theorem qpar_ok {ρ : Env} {S : Sto} : ∀ (is : List Nat) (vs : List PV) (ρq ρq' : QEnv) (ρ : Env), Sim n ρq ρ S → purs vs = true → qpar is vs ρq = some ρq' → ∃ ρ', par2 is vs ρ = some ρ' ∧ Sim n ρq' ρ' S
  | [], [], ρq, ρq', ρ, hp, _, h => by simp only [qpar, Option.some.injEq] at h; subst h; exact ⟨ρ, rfl, hp⟩
  | i :: is, v :: vs, ρq, ρq', ρ, hp, hv, h => by
    simp only [purs, Bool.and_eq_true] at hv
    simp only [qpar] at h
    simp only [par2]
    exact qpar_ok (ρ := ρ) is vs _ ρq' _ (hp.setV hv.1) hv.2 h
  | [], _ :: _, _, _, _, _, _, h => by simp [qpar] at h
  | _ :: _, [], _, _, _, _, _, h => by simp [qpar] at h
theorem aug_fQ {o : BOp} {x y z : PV} (h : augV o [] x y = .ok z []) (S : Sto) : augV o S x y = .ok z S ∧ (pur x = true → pur y = true → pur z = true) := by
  unfold augV at h ⊢
  split at h
  · rcases bop_f h S with ⟨_, q, r⟩ | ⟨xs, e, _⟩
    · exact ⟨q, r⟩
    · cases e
  · cases h
variable {ρq : QEnv} {ρ : Env} {S : Sto}
theorem qB_ok (F : FQ cf pf pm) {e : CE} {b : Bool} (hp : Sim n ρq ρ S) (h : qB pf pm e ρq = some b) : evB cf e ρ S = .ok b S := by
  unfold qB at h
  obtain ⟨v, e1, h⟩ := Option.bind_eq_some_iff.mp h
  obtain ⟨f1, g1⟩ := qe_ok F e ρq v n ρ S hp e1
  unfold evB
  simp only [f1, Res.bind, truth_f h S, Res.opt]
def OutE (S : Sto) (r : Res PV) : Out → Prop
  | .v v => r = .ok v S ∧ pur v = true
  | .e c => r = .exc c S
theorem fz_exc {c : Nat} {S' : Sto} (h : S'.take S.length = S) : fzR S (.exc c S' : Res PV) = .exc c S := by
  show (if S'.take S.length = S then (Res.exc c S : Res PV) else .exc c S') = _
  rw [if_pos h]
theorem qE_ok (F : FQ cf pf pm) {e : CE} {o : Out} (hp : Sim n ρq ρ S) (h : qE pf pm e ρq = some o) : OutE S (ev cf e ρ S) o := by
  have gen : (qe pf pm e ρq).map Out.v = some o → OutE S (ev cf e ρ S) o := fun h => by
    obtain ⟨v, e1, rfl⟩ := Option.map_eq_some_iff.mp h
    exact qe_ok F e ρq v n ρ S hp e1
  unfold qE at h
  split at h
  · rename_i f es
    obtain ⟨vs, e1, h⟩ := Option.bind_eq_some_iff.mp h
    obtain ⟨f1, g1⟩ := qes_ok F es ρq vs n ρ S hp e1
    have e2 : ev cf (.fz (.call f es)) ρ S = fzR S (cf.fn f vs S) := by rw [ev, ev]; simp only [f1]; rfl
    rw [e2]
    cases o with
    | v v => obtain ⟨q, r⟩ := F.f f vs v g1 h; exact ⟨r S, q⟩
    | e c => obtain ⟨S', q, r⟩ := F.fe f vs c g1 h S; rw [q]; exact fz_exc r
  · rename_i c f es dv
    split at h
    · rename_i hd
      obtain ⟨vs, e1, h⟩ := Option.bind_eq_some_iff.mp h
      obtain ⟨f1, g1⟩ := qes_ok F es ρq vs n ρ S hp e1
      have e2 : ev cf (.fz (.make c f es dv)) ρ S = fzR S (mkR cf c f (vs ++ dv) S) := by rw [ev, ev]; simp only [f1]; rfl
      rw [e2]
      cases o with
      | v v => obtain ⟨q, r⟩ := F.m c f (vs ++ dv) v (purs_app g1 hd) h; exact ⟨r S, q⟩
      | e c => obtain ⟨S', q, r⟩ := F.me _ f (vs ++ dv) c (purs_app g1 hd) h S; rw [q]; exact fz_exc r
    · cases h
  · exact gen h
theorem frz_own {l : Nat} {m : MO} {v : PV} (hl : n ≤ l) (e : S[l]? = some m) (hm : moPur m = true) (h : frzM m = some v) : frz n S (.loc l) = some v ∧ pur v = true := by
  cases m <;> simp only [frzM] at h <;> first | (cases h; done) | skip
  · cases h
    simp only [moPur] at hm
    refine ⟨?_, by simp only [pur]; exact hm⟩
    unfold frz
    simp only [sbst, frzL]
    rw [if_neg (Nat.not_lt.mpr hl), e]
    simp [sbsts_pur _ _ hm]
  · cases h
    simp only [moPur] at hm
    refine ⟨?_, by simp only [pur]; exact hm⟩
    unfold frz
    simp only [sbst, frzL]
    rw [if_neg (Nat.not_lt.mpr hl), e]
    simp [sbsts_pur _ _ hm]
theorem qr_frz (F : FQ cf pf pm) {e : CE} {x : PV} (hp : Sim n ρq ρ S) (h : qr e ρq (qe pf pm e ρq) = some x) : ∃ w, ev cf e ρ S = .ok w S ∧ frz n S w = some x ∧ pur x = true ∧ (pur w = true ∨ ∃ l, w = .loc l ∧ l < S.length) := by
  have gen : qe pf pm e ρq = some x → ∃ w, ev cf e ρ S = .ok w S ∧ frz n S w = some x ∧ pur x = true ∧ (pur w = true ∨ ∃ l, w = .loc l ∧ l < S.length) := fun h => by
    obtain ⟨f, g⟩ := qe_ok F e ρq x n ρ S hp h
    exact ⟨x, f, sbst_pur _ x g, g, .inl g⟩
  obtain ⟨q, e1, e2⟩ := Option.bind_eq_some_iff.mp h
  cases e
  case var i =>
    simp only [qv] at e1
    split at e1
    · rename_i q' e3
      cases e1
      cases q with
      | v y =>
        simp only [QV.rd, Option.some.injEq] at e2
        subst e2
        obtain ⟨h1, h2⟩ := hp.v i _ e3
        exact ⟨y, by rw [ev]; simp only [h1], sbst_pur _ y h2, h2, .inl h2⟩
      | o m =>
        cases m <;> simp only [QV.rd] at e2 <;> first | (cases e2; done) | skip
        cases e2
        obtain ⟨h1, l, h2, h3, h4⟩ := hp.o i _ e3
        obtain ⟨q1, q2⟩ := frz_own h2 h4 h1 rfl
        exact ⟨.loc l, by rw [ev]; simp only [h3], q1, q2, .inr ⟨l, rfl, (List.getElem?_eq_some_iff.mp h4).1⟩⟩
    · cases e1
  all_goals
    simp only [qv] at e1
    obtain ⟨y, e3, rfl⟩ := Option.map_eq_some_iff.mp e1
    simp only [QV.rd, Option.some.injEq] at e2
    subst e2
    exact gen e3
theorem qrs_frz (F : FQ cf pf pm) : ∀ {es : CEs} {xs : List PV}, Sim n ρq ρ S → qrs pf pm es ρq = some xs → ∃ ws, evs cf es ρ S = .ok ws S ∧ sbsts (frzL n S 8) ws = some xs ∧ purs xs = true ∧ (∀ w ∈ ws, pur w = true ∨ ∃ l, w = .loc l ∧ l < S.length) ∧ ws.length = xs.length
  | .nil, xs, hp, h => by
    simp only [qrs, Option.some.injEq] at h
    subst h
    exact ⟨[], by rw [evs], rfl, rfl, fun w hw => by (cases hw), rfl⟩
  | .cons e es, xs, hp, h => by
    simp only [qrs] at h
    obtain ⟨x, e1, h⟩ := Option.bind_eq_some_iff.mp h
    obtain ⟨xs', e2, rfl⟩ := Option.map_eq_some_iff.mp h
    obtain ⟨w, f1, z1, p1, l1⟩ := qr_frz F hp e1
    obtain ⟨ws, f2, z2, p2, l2, n2⟩ := qrs_frz F hp e2
    have z1 : sbst (frzL n S 8) w = some x := z1
    refine ⟨w :: ws, by rw [evs]; simp only [f1, f2, Res.bind], by simp only [sbsts, z1, z2], by simp [purs, p1, p2], fun u hu => ?_, by simp [n2]⟩
    rcases List.mem_cons.mp hu with rfl | hu
    · exact l1
    · exact l2 u hu
theorem sbst_keep {S' : Sto} {k : Nat} : ∀ {ws : List PV}, (∀ w ∈ ws, pur w = true ∨ ∃ l, w = .loc l ∧ l < S.length) → sbsts (frzL S.length S' (k + 1)) ws = some ws
  | [], _ => rfl
  | w :: ws, h => by
    have h2 := sbst_keep (S' := S') (k := k) (ws := ws) fun u hu => h u (List.mem_cons_of_mem _ hu)
    rcases h w List.mem_cons_self with hp | ⟨l, rfl, hl⟩
    · simp only [sbsts, sbst_pur _ w hp, h2]
    · have e : sbst (frzL S.length S' (k + 1)) (.loc l) = some (.loc l) := by simp only [sbst, frzL, if_pos hl]
      simp only [sbsts, e, h2]
theorem qret_ok (F : FQ cf pf pm) {e : CE} {o : Out} (hp : Sim n ρq ρ S) (h : qret pf pm e ρq = some o) : match o with
    | .v v => ∃ w, ev cf e ρ S = .ok w S ∧ frz n S w = some v ∧ pur v = true
    | .e c => ev cf e ρ S = .exc c S := by
  have gen : qE pf pm e ρq = some o → match o with
    | .v v => ∃ w, ev cf e ρ S = .ok w S ∧ frz n S w = some v ∧ pur v = true
    | .e c => ev cf e ρ S = .exc c S := fun h => by
    have q := qE_ok F hp h
    cases o with
    | v v => exact ⟨v, q.1, sbst_pur _ v q.2, q.2⟩
    | e c => exact q
  cases e
  case var i =>
    simp only [qret] at h
    split at h
    · rename_i x e1
      cases h
      obtain ⟨h1, h2⟩ := hp.v i _ e1
      exact ⟨x, by rw [ev]; simp only [h1], sbst_pur _ x h2, h2⟩
    · rename_i m e1
      obtain ⟨v, e2, rfl⟩ := Option.map_eq_some_iff.mp h
      obtain ⟨h1, l, h2, h3, h4⟩ := hp.o i _ e1
      obtain ⟨q1, q2⟩ := frz_own h2 h4 h1 e2
      exact ⟨.loc l, by rw [ev]; simp only [h3], q1, q2⟩
    · cases h
  case tup es =>
    simp only [qret] at h
    obtain ⟨xs, e1, h⟩ := Option.bind_eq_some_iff.mp h
    obtain ⟨ws, f1, z1, p1, l1, n1⟩ := qrs_frz F hp e1
    split at h
    · rename_i hl
      cases h
      refine ⟨.tup ws, by rw [ev]; simp only [f1, Res.bind]; exact need_true' (decide_eq_true (by omega)), ?_, by simp only [pur]; exact p1⟩
      unfold frz
      simp only [sbst, z1, Option.map_some]
    · cases h
  case fz e' =>
    cases e'
    case lst es =>
      simp only [qret] at h
      obtain ⟨xs, e1, h⟩ := Option.bind_eq_some_iff.mp h
      obtain ⟨ws, f1, z1, p1, l1, n1⟩ := qrs_frz F hp e1
      split at h
      · rename_i hl
        cases h
        refine ⟨.lst ws, ?_, ?_, by simp only [pur]; exact p1⟩
        · rw [ev, ev]; simp only [f1, Res.bind]
          rw [need_true' (decide_eq_true (by omega))]
          unfold fzR new
          simp only [List.take_left', if_true]
          have e : frz S.length (S ++ [.lst ws]) (.loc S.length) = some (.lst ws) := by
            have e1 : frzL S.length (S ++ [.lst ws]) 8 S.length = (sbsts (frzL S.length (S ++ [.lst ws]) (6 + 1)) ws).map .lst := by
              show (if S.length < S.length then _ else _) = _
              rw [if_neg (Nat.lt_irrefl _)]
              simp
            show frzL S.length (S ++ [.lst ws]) 8 S.length = _
            rw [e1, sbst_keep l1]
            rfl
          rw [e]
          rfl
        · unfold frz
          simp only [sbst, z1, Option.map_some]
      · cases h
    all_goals exact gen h
  all_goals exact gen h
theorem skOf_live {t : CT} {e m : CE} {i : Nat} (h : skOf t e = .live i m) : t = .var i ∧ e = m := by
  unfold skOf at h
  split at h
  · split at h <;> first | (cases h; exact ⟨rfl, rfl⟩) | cases h
  · cases h
  · cases h
theorem skOf_fld {t : CT} {e e' : CE} {i f : Nat} (h : skOf t e = .fld i f e') : t = .fld (.var i) f ∧ e' = e := by
  unfold skOf at h
  split at h
  · split at h <;> cases h
  · cases h; exact ⟨rfl, rfl⟩
  · cases h
theorem apOf_is {e a : CE} {i : Nat} (h : apOf e = some (i, a)) : e = .lm .append (.var i) (.cons a .nil) := by
  unfold apOf at h
  split at h
  · cases h; rfl
  · cases h
theorem qnew_ok (F : FQ cf pf pm) {e : CE} {m : MO} (hp : Sim n ρq ρ S) (h : qnew pf pm e ρq = some m) : ev cf e ρ S = .ok (.loc S.length) (S ++ [m]) ∧ moPur m = true ∧ ∀ c fs, m ≠ .ins c fs := by
  unfold qnew at h
  split at h
  · rename_i es
    obtain ⟨vs, e1, h⟩ := Option.bind_eq_some_iff.mp h
    obtain ⟨f1, g1⟩ := qes_ok F es ρq vs n ρ S hp e1
    split at h
    · rename_i hl
      cases h
      exact ⟨by rw [ev]; simp only [f1, Res.bind]; rw [need_true' (decide_eq_true hl)]; rfl, g1, fun _ _ z => by cases z⟩
    · cases h
  · rename_i nk k v own tg it
    obtain ⟨xs, e1, h⟩ := Option.bind_eq_some_iff.mp h
    obtain ⟨J, q1, q2, q3, g1⟩ := qi_ok F it ρq xs n ρ S hp e1
    obtain ⟨d1, d2⟩ := newD_pur nk
    obtain ⟨k1, k2, k3⟩ := qdc_ok (n := n) (same := J.same) (asg' := fun x S => evt cf tg x (wipe ρ own) S) (key' := fun ρ S => ev cf k ρ S) (val' := fun ρ S => ev cf v ρ S) q3 S (fun m x ρq' hm hx e => qt_ok F tg x (qwipe ρq own) ρq' n (wipe ρ own) _ ((hp.more hm).wipe own) hx e) (fun ρq' ρ' S' w hp' e => qe_ok F k ρq' w n ρ' S' hp' e) (fun ρq' ρ' S' w hp' e => qe_ok F v ρq' w n ρ' S' hp' e) xs (newD nk) m g1 d1 d2 h
    refine ⟨?_, k2, k3⟩
    rw [ev]; simp only [q1, Res.bind, q2]
    exact k1
  · rename_i nk
    cases h
    refine ⟨?_, newD_pur nk⟩
    rw [ev]
    cases nk <;> rfl
  · cases h
theorem fst_out {o : Out} {r : QR} {m : Res PV} {k : PV → Option QR} {g : PV → Sto → RS} (hm : OutE S m o) (hp : Sim n ρq ρ S) (ht : S.take n = S0) (h : outR ρq o k = some r) (hk : ∀ v, pur v = true → k v = some r → RelQ n S0 r (g v S)) : RelQ n S0 r (RS.fst ρ m g) := by
  cases o with
  | v v =>
    obtain ⟨e, p⟩ := hm
    rw [e]
    exact hk v p h
  | e c =>
    have e : m = .exc c S := hm
    rw [e]
    simp only [outR, Option.some.injEq] at h
    subst h
    exact ⟨rfl, hp, ht⟩
theorem putP_pur {f : Nat} {v : PV} (hv : pur v = true) : ∀ {fs : List (Nat × PV)}, purs (fs.map (·.2)) = true → purs ((putP f v fs).map (·.2)) = true
  | [], _ => by simp [putP, purs, hv]
  | (g, w) :: r, h => by
    simp only [List.map_cons, purs, Bool.and_eq_true] at h
    unfold putP
    split
    · simp [purs, hv, h.2]
    · simp [purs, h.1, putP_pur hv h.2]
def clrQ (nm : Option Nat) (ρ : QEnv) : QEnv := match nm with | some i => ρ.set i none | none => ρ
def clrE (nm : Option Nat) (ρ : Env) : Env := match nm with | some i => ρ.set i none | none => ρ
theorem clr_ok {nm : Option Nat} {ρq : QEnv} {ρ : Env} {S : Sto} (h : Sim n ρq ρ S) : Sim n (clrQ nm ρq) (clrE nm ρ) S := by
  cases nm with
  | none => exact h
  | some i => exact h.setN
theorem qx_ok (F : FQ cf pf pm) : ∀ (s : CSs) (ρq : QEnv) (r : QR) (ρ : Env) (S : Sto), Sim n ρq ρ S → S.take n = S0 → qx pf pm cf.sub s ρq = some r → RelQ n S0 r (ex cf s ρ S)
  | .nil, ρq, r, ρ, S, hp, ht, h => by
    simp only [qx, Option.some.injEq] at h
    subst h
    rw [ex]
    exact ⟨hp, ht⟩
  | .pass s, ρq, r, ρ, S, hp, ht, h => by
    simp only [qx] at h
    rw [ex]
    exact qx_ok F s ρq r ρ S hp ht h
  | .asg t e s, ρq, r, ρ, S, hp, ht, h => by
    simp only [qx] at h
    rw [ex]
    split at h
    · rename_i i m hsk
      obtain ⟨rfl, rfl⟩ := skOf_live hsk
      obtain ⟨m, e1, h⟩ := Option.bind_eq_some_iff.mp h
      split at h
      · rename_i hi
        obtain ⟨f1, g1, g2⟩ := qnew_ok F hp e1
        simp only [f1, RS.fst]
        rw [evt]
        exact qx_ok F s _ r _ _ (hp.new g1 g2 hi) ((app_take hp.ln).trans ht) h
      · cases h
    · rename_i i f e' hsk
      obtain ⟨rfl, rfl⟩ := skOf_fld hsk
      obtain ⟨o, e1, h⟩ := Option.bind_eq_some_iff.mp h
      refine fst_out (qE_ok F hp e1) hp ht h fun v pv hv => ?_
      split at hv
      · rename_i c fs e2
        split at hv
        · rename_i hl
          obtain ⟨h1, l, h2, h3, h4⟩ := hp.o i _ e2
          have e3 : evt cf (.fld (.var i) f) v ρ S = some (ρ, S.set l (.ins c (putP f v fs))) := by
            rw [evt, ev]
            simp only [h3, setFld, h4, if_pos hl, Option.map_some]
          rw [e3]
          exact qx_ok F s _ r _ _ (hp.upd e2 h3 (by simp only [moPur] at h1 ⊢; exact putP_pur pv h1) fun c' fs' _ => hp.u l c fs h2 h4) ((set_take h2).trans ht) hv
        · cases hv
      · cases hv
    · obtain ⟨o, e1, h⟩ := Option.bind_eq_some_iff.mp h
      refine fst_out (qE_ok F hp e1) hp ht h fun v pv hv => ?_
      obtain ⟨ρq', e2, hv⟩ := Option.bind_eq_some_iff.mp hv
      obtain ⟨ρ', f2, g2⟩ := qt_ok F t v ρq ρq' n ρ S hp pv e2
      rw [f2]
      exact qx_ok F s ρq' r ρ' S g2 ht hv
  | .par is es s, ρq, r, ρ, S, hp, ht, h => by
    simp only [qx] at h
    obtain ⟨vs, e1, h⟩ := Option.bind_eq_some_iff.mp h
    obtain ⟨ρq', e2, h⟩ := Option.bind_eq_some_iff.mp h
    obtain ⟨f1, g1⟩ := qes_ok F es ρq vs n ρ S hp e1
    obtain ⟨ρ', f2, g2⟩ := qpar_ok (ρ := ρ) is vs ρq ρq' ρ hp g1 e2
    rw [ex]; simp only [f1, RS.fst, f2]
    exact qx_ok F s ρq' r ρ' S g2 ht h
  | .aug i o e s, ρq, r, ρ, S, hp, ht, h => by
    simp only [qx] at h
    obtain ⟨x, e0, h⟩ := Option.bind_eq_some_iff.mp h
    obtain ⟨y, e1, h⟩ := Option.bind_eq_some_iff.mp h
    obtain ⟨z, e2, h⟩ := Option.bind_eq_some_iff.mp h
    obtain ⟨f1, g1⟩ := qe_ok F e ρq y n ρ S hp e1
    have e2 := okP_is e2
    split at e0
    · rename_i w ew
      cases e0
      obtain ⟨h1, h2⟩ := hp.v i _ ew
      obtain ⟨q1, q2⟩ := aug_fQ e2 S
      rw [ex]; simp only [h1, f1, Res.bind, q1, RS.fst]
      exact qx_ok F s _ r _ S (hp.setV (q2 h2 g1)) ht h
    · cases e0
  | .ex e s, ρq, r, ρ, S, hp, ht, h => by
    simp only [qx] at h
    rw [ex]
    split at h
    · rename_i i a hap
      have := apOf_is hap
      subst this
      split at h
      · rename_i xs e1
        obtain ⟨v, e2, h⟩ := Option.bind_eq_some_iff.mp h
        split at h
        · rename_i hl
          obtain ⟨f1, g1⟩ := qe_ok F a ρq v n ρ S hp e2
          obtain ⟨h1, l, h2, h3, h4⟩ := hp.o i _ e1
          have e3 : ev cf (.lm .append (.var i) (.cons a .nil)) ρ S = .ok .non (S.set l (.lst (xs ++ [v]))) := by
            rw [ev, ev, evs, evs]
            simp only [h3, f1, Res.bind]
            rw [need_true' (show lmK .append S (.loc l) = true by simp [lmK, h4])]
            show lmV .append S (.loc l) [v] = _
            simp only [lmV, h4]
            rw [need_true' (decide_eq_true hl)]
            rfl
          simp only [e3, RS.fst]
          exact qx_ok F s _ r _ _ (hp.upd e1 h3 (by simp only [moPur] at h1 ⊢; exact purs_app h1 (by simp [purs, g1])) fun c' fs' z => by cases z) ((set_take h2).trans ht) h
        · cases h
      · cases h
    · obtain ⟨o, e1, h⟩ := Option.bind_eq_some_iff.mp h
      exact fst_out (qE_ok F hp e1) hp ht h fun v pv hv => qx_ok F s ρq r ρ S hp ht hv
  | .ret e, ρq, r, ρ, S, hp, ht, h => by
    simp only [qx] at h
    obtain ⟨o, e1, h⟩ := Option.bind_eq_some_iff.mp h
    have q := qret_ok F hp e1
    rw [ex]
    cases o with
    | v v =>
      obtain ⟨w, f, z, p⟩ := q
      simp only [outR, Option.some.injEq] at h
      subst h
      simp only [f, RS.fst]
      exact ⟨hp.ln, ht, z, p⟩
    | e c =>
      have q : ev cf e ρ S = .exc c S := q
      simp only [outR, Option.some.injEq] at h
      subst h
      simp only [q, RS.fst]
      exact ⟨rfl, hp, ht⟩
  | .retN, ρq, r, ρ, S, hp, ht, h => by
    simp only [qx, Option.some.injEq] at h
    subst h
    rw [ex]
    exact ⟨hp.ln, ht, rfl, rfl⟩
  | .iff c a b s, ρq, r, ρ, S, hp, ht, h => by
    simp only [qx] at h
    obtain ⟨k, e1, h⟩ := Option.bind_eq_some_iff.mp h
    obtain ⟨q, e2, h⟩ := Option.bind_eq_some_iff.mp h
    have f1 := qB_ok F hp e1
    have ab : RelQ n S0 q (if k = true then ex cf a ρ S else ex cf b ρ S) := by
      cases k with
      | true =>
        simp only [if_true] at e2 ⊢
        exact qx_ok F a ρq q ρ S hp ht e2
      | false =>
        simp only [Bool.false_eq_true, if_false] at e2 ⊢
        exact qx_ok F b ρq q ρ S hp ht e2
    rw [ex]; simp only [f1, RS.fst]
    exact ab.seq h fun ρq' ρ' S' r' hp' ht' e => qx_ok F s ρq' r' ρ' S' hp' ht' e
  | .for t it body s, ρq, r, ρ, S, hp, ht, h => by
    simp only [qx] at h
    obtain ⟨xs, e1, h⟩ := Option.bind_eq_some_iff.mp h
    obtain ⟨q, e2, h⟩ := Option.bind_eq_some_iff.mp h
    obtain ⟨J, q1, q2, q3, g1⟩ := qi_ok F it ρq xs n ρ S hp e1
    have key := qfor_ok (n := n) (S0 := S0) (same := J.same) (asg' := evt cf t) (body' := ex cf body) q3 (fun x ρq ρq' ρ S hp hx e => qt_ok F t x ρq ρq' n ρ S hp hx e) (fun ρq' r' ρ' S' hp' ht' e => qx_ok F body ρq' r' ρ' S' hp' ht' e) xs ρq q ρ S g1 hp ht e2
    rw [ex]; simp only [q1, RS.fst, q2]
    exact key.seq h fun ρq' ρ' S' r' hp' ht' e => qx_ok F s ρq' r' ρ' S' hp' ht' e
  | .wh k c body s, ρq, r, ρ, S, hp, ht, h => by
    simp only [qx] at h
    obtain ⟨q, e2, h⟩ := Option.bind_eq_some_iff.mp h
    have key := qwh_ok (n := n) (S0 := S0) (c' := evB cf c) (body' := ex cf body) (fun ρq b ρ S hp e => qB_ok F hp e) (fun ρq' r' ρ' S' hp' ht' e => qx_ok F body ρq' r' ρ' S' hp' ht' e) k ρq q ρ S hp ht e2
    rw [ex]
    exact key.seq h fun ρq' ρ' S' r' hp' ht' e => qx_ok F s ρq' r' ρ' S' hp' ht' e
  | .raise c, ρq, r, ρ, S, hp, ht, h => by
    simp only [qx, Option.some.injEq] at h
    subst h
    rw [ex]
    exact ⟨rfl, hp, ht⟩
  | .nev, _, _, _, _, _, _, h => by simp [qx] at h
  | .try1 body c nm suite s, ρq, r, ρ, S, hp, ht, h => by
    simp only [qx] at h
    obtain ⟨q, e1, h⟩ := Option.bind_eq_some_iff.mp h
    have f1 := qx_ok F body ρq q ρ S hp ht e1
    rw [ex]
    dsimp only
    cases q with
    | nx ρ2 =>
      cases hb : ex cf body ρ S with
      | nx ρ' S' => rw [hb] at f1; exact qx_ok F s ρ2 r ρ' S' f1.1 f1.2 h
      | _ => rw [hb] at f1; exact f1.elim
    | ret v =>
      cases hb : ex cf body ρ S with
      | ret w S' =>
        rw [hb] at f1
        simp only [Option.some.injEq] at h
        subst h
        exact f1
      | _ => rw [hb] at f1; exact f1.elim
    | exc x ρ1 =>
      cases hb : ex cf body ρ S with
      | exc x' ρ' S' =>
        rw [hb] at f1
        obtain ⟨rfl, hp1, ht1⟩ := f1
        dsimp only at h ⊢
        by_cases hsub : cf.sub x' c = true
        · rw [if_pos hsub] at h ⊢
          obtain ⟨q2, e2, h⟩ := Option.bind_eq_some_iff.mp h
          have f2 := qx_ok F suite (clrQ nm ρ1) q2 (clrE nm ρ') S' (clr_ok hp1) ht1 e2
          exact RelQ.seq (f := fun ρ2 => qx pf pm cf.sub s (clrQ nm ρ2)) (g := fun ρ2 S2 => ex cf s (clrE nm ρ2) S2) f2 h fun ρ2 ρ4 S4 r' hp' ht' e => qx_ok F s _ r' _ S4 (clr_ok hp') ht' e
        · rw [if_neg hsub] at h ⊢
          simp only [Option.some.injEq] at h
          subst h
          exact ⟨rfl, hp1, ht1⟩
      | _ => rw [hb] at f1; exact f1.elim
end
theorem start_get {k : Nat} {vs : List QV} {i : Nat} {q : QV} (h : (qstart k vs)[i]? = some (some q)) : vs[i]? = some q := by
  unfold qstart at h
  by_cases hi : i < vs.length
  · rw [List.getElem?_append_left (by simpa using hi), List.getElem?_map] at h
    obtain ⟨u, e1, e2⟩ := Option.map_eq_some_iff.mp h
    cases e2
    exact e1
  · rw [List.getElem?_append_right (by simpa using Nat.le_of_not_lt hi)] at h
    obtain ⟨_, e2⟩ := List.getElem?_eq_some_iff.mp h
    simp at e2
theorem startE_get {k : Nat} {vs : List PV} {i : Nat} {v : PV} (h : vs[i]? = some v) : (startE k vs)[i]? = some (some v) := by
  unfold startE
  rw [List.getElem?_append_left (by simpa using (List.getElem?_eq_some_iff.mp h).1), List.getElem?_map, h]
  rfl
theorem sim_start {S : Sto} {k : Nat} {vs : List PV} (hv : purs vs = true) : Sim S.length (qstart k (vs.map .v)) (startE k vs) S where
  len := by simp [qstart, startE]
  ln := Nat.le_refl _
  v := fun i x e => by
    have := start_get e
    rw [List.getElem?_map] at this
    obtain ⟨y, e1, e2⟩ := Option.map_eq_some_iff.mp this
    cases e2
    exact ⟨startE_get e1, purs_iff.mp hv _ (List.mem_of_getElem? e1)⟩
  o := fun i m e => by
    have := start_get e
    rw [List.getElem?_map] at this
    obtain ⟨y, e1, e2⟩ := Option.map_eq_some_iff.mp this
    cases e2
  d := fun i j m m' l e1 _ _ _ => by
    have := start_get e1
    rw [List.getElem?_map] at this
    obtain ⟨y, _, e2⟩ := Option.map_eq_some_iff.mp this
    cases e2
  u := fun l c fs hl e => absurd (List.getElem?_eq_some_iff.mp e).1 (Nat.not_lt.mpr hl)
theorem sim_make {S : Sto} {k c : Nat} {vs : List PV} (hv : purs vs = true) : Sim S.length (qstart k (.o (.ins c []) :: vs.map .v)) (startE k (.loc S.length :: vs)) (S ++ [.ins c []]) where
  len := by simp [qstart, startE]
  ln := by simp
  v := fun i x e => by
    have := start_get e
    cases i with
    | zero => simp at this
    | succ i =>
      simp only [List.getElem?_cons_succ, List.getElem?_map] at this
      obtain ⟨y, e1, e2⟩ := Option.map_eq_some_iff.mp this
      cases e2
      exact ⟨startE_get (by simpa using e1), purs_iff.mp hv _ (List.mem_of_getElem? e1)⟩
  o := fun i m e => by
    have := start_get e
    cases i with
    | zero =>
      simp at this
      subst this
      exact ⟨rfl, S.length, Nat.le_refl _, startE_get rfl, by simp⟩
    | succ i =>
      simp only [List.getElem?_cons_succ, List.getElem?_map] at this
      obtain ⟨y, e1, e2⟩ := Option.map_eq_some_iff.mp this
      cases e2
  d := fun i j m m' l e1 e2 _ _ => by
    have z : ∀ {i : Nat} {m : MO}, (qstart k (.o (.ins c []) :: vs.map .v))[i]? = some (some (QV.o m)) → i = 0 := fun {i m} e => by
      have := start_get e
      cases i with
      | zero => rfl
      | succ i =>
        simp only [List.getElem?_cons_succ, List.getElem?_map] at this
        obtain ⟨y, e1, e2⟩ := Option.map_eq_some_iff.mp this
        cases e2
    rw [z e1, z e2]
  u := fun l c' fs hl e => by
    have := (List.getElem?_eq_some_iff.mp e).1
    simp at this
    omega
theorem qrun_ok (tab : Nat → Option Fn) (sub : Nat → Nat → Bool) : ∀ k, FQ ⟨run tab sub k, sub⟩ (qrun tab sub k).1 (qrun tab sub k).2
  | 0 => ⟨fun _ _ _ _ h => by simp [qrun] at h, fun _ _ _ _ h => by simp [qrun] at h, fun _ _ _ _ _ h => by simp [qrun] at h, fun _ _ _ _ _ h => by simp [qrun] at h⟩
  | k + 1 => by
    have F := qrun_ok tab sub k
    have body : ∀ {f : Nat} {vs : List PV} {o : Out}, purs vs = true → (qrun tab sub (k + 1)).1 f vs = some o → ∃ d r, tab f = some d ∧ vs.length = d.np ∧ r.out = o ∧ ∀ S, RelQ S.length S r (ex ⟨run tab sub k, sub⟩ d.body (startE d.n vs) S) := fun {f vs o} hv h => by
      simp only [qrun] at h
      split at h
      · rename_i d hd
        split at h
        · rename_i hl
          obtain ⟨r, e1, e2⟩ := Option.map_eq_some_iff.mp h
          exact ⟨d, r, hd, hl, e2, fun S => qx_ok F d.body _ r _ S (sim_start hv) List.take_length e1⟩
        · cases h
      · cases h
    have runIs : ∀ {f : Nat} {vs : List PV} {d : Fn} (S : Sto), tab f = some d → vs.length = d.np → run tab sub (k + 1) f vs S = (match ex ⟨run tab sub k, sub⟩ d.body (startE d.n vs) S with
        | .nx _ S' => .ok .non S'
        | .ret v S' => .ok v S'
        | .exc c _ S' => .exc c S'
        | .bad => .bad) := fun {f vs d} S hd hl => by
      have e0 : run tab sub (k + 1) f vs S = runF ⟨run tab sub k, sub⟩ d vs S := by
        show (match tab f with | some d => runF ⟨run tab sub k, sub⟩ d vs S | none => .bad) = _
        rw [hd]
      rw [e0]
      unfold runF
      exact need_true' (decide_eq_true hl)
    have made : ∀ {c f : Nat} {vs : List PV} {o : Out}, purs vs = true → (qrun tab sub (k + 1)).2 c f vs = some o → ∃ d r, tab f = some d ∧ vs.length + 1 = d.np ∧ r.ins = some o ∧ ∀ S, RelQ S.length S r (ex ⟨run tab sub k, sub⟩ d.body (startE d.n (.loc S.length :: vs)) (S ++ [.ins c []])) := fun {c f vs o} hv h => by
      simp only [qrun] at h
      split at h
      · rename_i d hd
        split at h
        · rename_i hl
          obtain ⟨r, e1, e2⟩ := Option.bind_eq_some_iff.mp h
          exact ⟨d, r, hd, hl, e2, fun S => qx_ok F d.body _ r _ _ (sim_make hv) (by simp) e1⟩
        · cases h
      · cases h
    have mkIs : ∀ {c f : Nat} {vs : List PV} {d : Fn} (S : Sto), tab f = some d → vs.length + 1 = d.np → mkR ⟨run tab sub (k + 1), sub⟩ c f vs S = (match ex ⟨run tab sub k, sub⟩ d.body (startE d.n (.loc S.length :: vs)) (S ++ [.ins c []]) with
        | .nx _ S' => .ok (.loc S.length) S'
        | .ret v S' => .need (decide (v = .non)) (.ok (.loc S.length) S')
        | .exc c _ S' => .exc c S'
        | .bad => .bad) := fun {c f vs d} S hd hl => by
      unfold mkR
      have e1 := runIs (vs := .loc S.length :: vs) (S ++ [.ins c []]) hd (by simpa using hl)
      show Res.bind (run tab sub (k + 1) f (.loc S.length :: vs) (S ++ [.ins c []])) _ = _
      rw [e1]
      cases ex ⟨run tab sub k, sub⟩ d.body (startE d.n (.loc S.length :: vs)) (S ++ [.ins c []]) with
      | nx ρ S' => exact need_true' rfl
      | ret v S' => rfl
      | exc c ρ S' => rfl
      | bad => rfl
    have okz : ∀ {S S' : Sto} {w v : PV}, S'.take S.length = S → frz S.length S' w = some v → fzR S (.ok w S') = .ok v S := fun {S S' w v} h1 h2 => by
      show (if S'.take S.length = S then Res.opt (frz S.length S' w) (fun t => Res.ok t S) else .bad) = _
      rw [if_pos h1, h2]
      rfl
    refine ⟨fun f vs v hv h => ?_, fun f vs c hv h S => ?_, fun c f vs v hv h => ?_, fun c f vs x hv h S => ?_⟩
    · obtain ⟨d, r, hd, hl, e, q⟩ := body hv h
      cases r with
      | nx ρq =>
        cases e
        refine ⟨rfl, fun S => ?_⟩
        have q := q S
        show fzR S (run tab sub (k + 1) f vs S) = _
        rw [runIs S hd hl]
        cases hb : ex ⟨run tab sub k, sub⟩ d.body (startE d.n vs) S with
        | nx ρ S' => rw [hb] at q; exact okz q.2 rfl
        | _ => rw [hb] at q; exact q.elim
      | ret w =>
        cases e
        have p : pur v = true := by
          have q := q []
          cases hb : ex ⟨run tab sub k, sub⟩ d.body (startE d.n vs) [] with
          | ret w S' => rw [hb] at q; exact q.2.2.2
          | _ => rw [hb] at q; exact q.elim
        refine ⟨p, fun S => ?_⟩
        have q := q S
        show fzR S (run tab sub (k + 1) f vs S) = _
        rw [runIs S hd hl]
        cases hb : ex ⟨run tab sub k, sub⟩ d.body (startE d.n vs) S with
        | ret w S' => rw [hb] at q; exact okz q.2.1 q.2.2.1
        | _ => rw [hb] at q; exact q.elim
      | exc c ρq => cases e
    · obtain ⟨d, r, hd, hl, e, q⟩ := body hv h
      cases r with
      | nx ρq => cases e
      | ret w => cases e
      | exc c' ρq =>
        cases e
        have q := q S
        show ∃ S', run tab sub (k + 1) f vs S = .exc c S' ∧ _
        rw [runIs S hd hl]
        cases hb : ex ⟨run tab sub k, sub⟩ d.body (startE d.n vs) S with
        | exc c2 ρ S' => rw [hb] at q; obtain ⟨rfl, _, ht⟩ := q; exact ⟨S', rfl, ht⟩
        | _ => rw [hb] at q; exact q.elim
    · obtain ⟨d, r, hd, hl, e, q⟩ := made hv h
      cases r with
      | nx ρq =>
        simp only [QR.ins] at e
        split at e
        · rename_i c' fs e0
          cases e
          have key : ∀ S, fzR S (mkR ⟨run tab sub (k + 1), sub⟩ c f vs S) = .ok (.obj c' (fs.map (·.1)) (fs.map (·.2))) S ∧ pur (.obj c' (fs.map (·.1)) (fs.map (·.2))) = true := fun S => by
            have q := q S
            rw [mkIs S hd hl]
            cases hb : ex ⟨run tab sub k, sub⟩ d.body (startE d.n (.loc S.length :: vs)) (S ++ [.ins c []]) with
            | nx ρ S' =>
              rw [hb] at q
              obtain ⟨sm, ht⟩ := q
              obtain ⟨h1, l, h2, h3, h4⟩ := sm.o 0 _ e0
              have el := sm.u l _ _ h2 h4
              subst el
              obtain ⟨z1, z2⟩ := frz_own (Nat.le_refl _) h4 h1 rfl
              exact ⟨okz ht z1, z2⟩
            | _ => rw [hb] at q; exact q.elim
          exact ⟨(key []).2, fun S => (key S).1⟩
        · cases e
      | ret w => cases e
      | exc c' ρq => cases e
    · obtain ⟨d, r, hd, hl, e, q⟩ := made hv h
      cases r with
      | nx ρq =>
        simp only [QR.ins] at e
        split at e <;> cases e
      | ret w => cases e
      | exc c' ρq =>
        cases e
        have q := q S
        rw [mkIs S hd hl]
        cases hb : ex ⟨run tab sub k, sub⟩ d.body (startE d.n (.loc S.length :: vs)) (S ++ [.ins c []]) with
        | exc c2 ρ S' => rw [hb] at q; obtain ⟨rfl, _, ht⟩ := q; exact ⟨S', rfl, ht⟩
        | _ => rw [hb] at q; exact q.elim
theorem answers_q {tab : Nat → Option Fn} {sub : Nat → Nat → Bool} {k li : Nat} {ns : List Int} (h : (qrun tab sub k).1 li [.ro (ns.map .int)] = some (.v (.bl true))) : ∃ S, run tab sub k li [.ro (ns.map .int)] [] = .ok (.bl true) S := by
  have q := ((qrun_ok tab sub k).f li [.ro (ns.map .int)] (.bl true) (by simp only [purs, pur, Bool.and_true]; exact intsV_pur) h).2 []
  have q : fzR [] (run tab sub k li [.ro (ns.map .int)] []) = .ok (.bl true) [] := q
  cases hr : run tab sub k li [.ro (ns.map .int)] [] with
  | ok v S =>
    rw [hr] at q
    have q : Res.opt (frz 0 S v) (fun t => Res.ok t []) = .ok (.bl true) [] := q
    cases e : frz 0 S v with
    | none => rw [e] at q; cases q
    | some t =>
      rw [e] at q
      have ht : t = .bl true := by cases q; rfl
      subst ht
      refine ⟨S, ?_⟩
      cases v <;> simp [frz, sbst] at e
      · rw [e]
      · rename_i l
        unfold frzL at e
        split at e
        · cases e
        · split at e <;> simp at e
  | exc c S => rw [hr] at q; cases q
  | bad => rw [hr] at q; cases q
end PM
end
section
namespace PM
open PySem
section
variable {tab : Nat → Option Fn} {sub : Nat → Nat → Bool}
theorem pf_at {k f : Nat} {d : Fn} {vs : List PV} {r : QR} {o : Out} (ht : tab f = some d) (hl : vs.length = d.np) (h : qx (qrun tab sub k).1 (qrun tab sub k).2 sub d.body (qstart d.n (vs.map .v)) = some r) (hv : r.out = o) : (qrun tab sub (k + 1)).1 f vs = some o := by
  simp only [qrun, ht, if_pos hl, h, Option.map_some, hv]
theorem pm_at {k c f : Nat} {d : Fn} {vs : List PV} {r : QR} {o : Out} (ht : tab f = some d) (hl : vs.length + 1 = d.np) (h : qx (qrun tab sub k).1 (qrun tab sub k).2 sub d.body (qstart d.n (.o (.ins c []) :: vs.map .v)) = some r) (hv : r.ins = some o) : (qrun tab sub (k + 1)).2 c f vs = some o := by
  simp only [qrun, ht, if_pos hl, h, Option.bind_some, hv]
end
theorem qcomp_map {asg : PV → Option QEnv} {cond : QEnv → Option Bool} {elt : QEnv → Option PV} {g : PV → PV} : ∀ {xs : List PV}, (∀ x ∈ xs, ∃ ρ, asg x = some ρ ∧ cond ρ = some true ∧ elt ρ = some (g x)) → qcomp asg cond elt xs = some (xs.map g)
  | [], _ => rfl
  | x :: xs, h => by
    obtain ⟨ρ, e1, e2, e3⟩ := h x List.mem_cons_self
    simp only [qcomp, e1, Option.bind_some, e2, if_true, e3, qcomp_map fun y hy => h y (List.mem_cons_of_mem _ hy), Option.map_some, List.map_cons]
theorem qcomp_mapM {β : Type} {asg : PV → Option QEnv} {cond : QEnv → Option Bool} {elt : QEnv → Option PV} (em g : β → PV) : ∀ {bs : List β}, (∀ b ∈ bs, ∃ ρ, asg (em b) = some ρ ∧ cond ρ = some true ∧ elt ρ = some (g b)) → qcomp asg cond elt (bs.map em) = some (bs.map g)
  | [], _ => rfl
  | b :: bs, h => by
    obtain ⟨ρ, e1, e2, e3⟩ := h b List.mem_cons_self
    simp only [List.map_cons, qcomp, e1, Option.bind_some, e2, if_true, e3, qcomp_mapM em g fun y hy => h y (List.mem_cons_of_mem _ hy), Option.map_some]
theorem qcomp_filter {asg : PV → Option QEnv} {cond : QEnv → Option Bool} {elt : QEnv → Option PV} {p : PV → Bool} {g : PV → PV} : ∀ {xs : List PV}, (∀ x ∈ xs, ∃ ρ, asg x = some ρ ∧ cond ρ = some (p x) ∧ (p x = true → elt ρ = some (g x))) → qcomp asg cond elt xs = some ((xs.filter p).map g)
  | [], _ => rfl
  | x :: xs, h => by
    obtain ⟨ρ, e1, e2, e3⟩ := h x List.mem_cons_self
    have ih := qcomp_filter (xs := xs) fun y hy => h y (List.mem_cons_of_mem _ hy)
    cases hp : p x with
    | true =>
      rw [hp] at e2
      simp only [qcomp, e1, Option.bind_some, e2, if_true, e3 hp, ih, Option.map_some, List.filter_cons, hp, List.map_cons]
    | false =>
      rw [hp] at e2
      simp only [qcomp, e1, Option.bind_some, e2, Bool.false_eq_true, if_false, ih, List.filter_cons, hp]
theorem qgen_all {asg : PV → Option QEnv} {elt : QEnv → Option PV} : ∀ {xs : List PV}, (∀ x ∈ xs, ∃ ρ, asg x = some ρ ∧ elt ρ = some (.bl true)) → qgen true asg elt xs = some true
  | [], _ => rfl
  | x :: xs, h => by
    obtain ⟨ρ, e1, e2⟩ := h x List.mem_cons_self
    simp only [qgen, e1, Option.bind_some, e2, if_true]
    exact qgen_all fun y hy => h y (List.mem_cons_of_mem _ hy)
theorem qgen_any {asg : PV → Option QEnv} {elt : QEnv → Option PV} {p : PV → Bool} : ∀ {xs : List PV}, (∀ x ∈ xs, ∃ ρ, asg x = some ρ ∧ elt ρ = some (.bl (p x))) → qgen false asg elt xs = some (xs.any p)
  | [], _ => rfl
  | x :: xs, h => by
    obtain ⟨ρ, e1, e2⟩ := h x List.mem_cons_self
    simp only [qgen, e1, Option.bind_some, e2]
    have ih := qgen_any (xs := xs) fun y hy => h y (List.mem_cons_of_mem _ hy)
    cases hp : p x with
    | true => simp [hp]
    | false => simp [hp, ih]
theorem qgen_anyM {β : Type} {asg : PV → Option QEnv} {elt : QEnv → Option PV} (em : β → PV) (p : β → Bool) : ∀ {bs : List β}, (∀ b ∈ bs, ∃ ρ, asg (em b) = some ρ ∧ elt ρ = some (.bl (p b))) → qgen false asg elt (bs.map em) = some (bs.any p)
  | [], _ => rfl
  | b :: bs, h => by
    obtain ⟨ρ, e1, e2⟩ := h b List.mem_cons_self
    simp only [List.map_cons, qgen, e1, Option.bind_some, e2]
    have ih := qgen_anyM em p (bs := bs) fun y hy => h y (List.mem_cons_of_mem _ hy)
    cases hp : p b with
    | true => simp [hp]
    | false => simp [hp, ih]
theorem qfor_inv {asg : PV → QEnv → Option QEnv} {body : QEnv → Option QR} {I : Nat → QEnv → Prop} : ∀ (xs : List PV) (j : Nat) (ρ : QEnv),
    (∀ i x ρ, xs[i]? = some x → I (j + i) ρ → ∃ ρ', asg x ρ = some ρ' ∧ ∃ ρ2, body ρ' = some (.nx ρ2) ∧ I (j + i + 1) ρ2) → I j ρ → ∃ ρ', qfor asg body xs ρ = some (.nx ρ') ∧ I (j + xs.length) ρ'
  | [], j, ρ, _, h0 => ⟨ρ, rfl, h0⟩
  | x :: xs, j, ρ, h, h0 => by
    obtain ⟨ρ1, e1, ρ2, e2, i2⟩ := h 0 x ρ rfl h0
    obtain ⟨ρ3, e3, i3⟩ := qfor_inv (I := I) xs (j + 1) ρ2 (fun i y ρ hy hi => by
      obtain ⟨a, b, c, d, f⟩ := h (i + 1) y ρ (by simpa using hy) (by rw [show j + (i + 1) = j + 1 + i by omega]; exact hi)
      exact ⟨a, b, c, d, by rw [show j + 1 + i + 1 = j + (i + 1) + 1 by omega]; exact f⟩) i2
    refine ⟨ρ3, ?_, by rw [List.length_cons, show j + (xs.length + 1) = j + 1 + xs.length by omega]; exact i3⟩
    simp only [qfor, e1, Option.bind_some, e2, QR.seq]
    exact e3
theorem qfor_fold {β γ : Type} {asg : PV → QEnv → Option QEnv} {body : QEnv → Option QR} (em : β → PV) (env : γ → List (Option QV) → QEnv) (step : γ → β → γ) (P : γ → List β → Prop)
    (h : ∀ c b bs z, P c (b :: bs) → P (step c b) bs ∧ ∃ ρ', asg (em b) (env c z) = some ρ' ∧ ∃ z', body ρ' = some (.nx (env (step c b) z'))) : ∀ (bs : List β) (c : γ) (z : List (Option QV)), P c bs → ∃ z', qfor asg body (bs.map em) (env c z) = some (.nx (env (bs.foldl step c) z'))
  | [], c, z, _ => ⟨z, rfl⟩
  | b :: bs, c, z, hp => by
    obtain ⟨hp', ρ', e1, z', e2⟩ := h c b bs z hp
    obtain ⟨z2, e3⟩ := qfor_fold em env step P h bs (step c b) z' hp'
    refine ⟨z2, ?_⟩
    simp only [List.map_cons, qfor, e1, Option.bind_some, e2, QR.seq]
    exact e3
theorem rngQ_at {lo hi : Int} {i : Nat} (h : i < (hi - lo).toNat) : (rngL lo hi)[i]? = some (.int (lo + i)) := by
  unfold rngL
  rw [List.getElem?_map, List.getElem?_range h]
  rfl
theorem rng_map (n : Nat) : rngL 0 (n : Int) = (List.range n).map fun i => PV.int (i : Nat) := by
  unfold rngL
  simp
theorem cut_toQ (xs : List PV) (k : Nat) : cutP xs none (some (k : Int)) = xs.take k := by
  unfold cutP
  rw [HT.sIx_none, HT.sIx_nat, List.drop_zero, Nat.sub_zero]
  by_cases h : k ≤ xs.length
  · rw [Nat.min_eq_left h]
  · rw [Nat.min_eq_right (by omega), List.take_length, List.take_of_length_le (by omega)]
theorem cut_fromQ (xs : List PV) (k : Nat) : cutP xs (some (k : Int)) none = xs.drop k := by
  unfold cutP
  rw [HT.sIx_none, HT.sIx_nat]
  by_cases h : k ≤ xs.length
  · rw [Nat.min_eq_left h, List.take_of_length_le (by simp)]
  · rw [Nat.min_eq_right (by omega), List.drop_length, List.drop_of_length_le (by omega)]; simp
theorem cut_midQ (xs : List PV) (i j : Nat) : cutP xs (some (i : Int)) (some (j : Int)) = (xs.take j).drop i := by
  unfold cutP
  rw [HT.sIx_nat, HT.sIx_nat, List.drop_take]
  by_cases h : i ≤ xs.length
  · rw [Nat.min_eq_left h]
    by_cases h2 : j ≤ xs.length
    · rw [Nat.min_eq_left h2]
    · rw [Nat.min_eq_right (by omega), List.take_of_length_le (by simp), List.take_of_length_le (by simp; omega)]
  · have e : min i xs.length = xs.length := Nat.min_eq_right (by omega)
    rw [e, List.drop_length, List.drop_of_length_le (by omega)]; simp
def datQ (v : PV) (d : PyData) : Prop := toD [] v = some d ∧ SeqAt.shaped d = true
theorem eq_selfQ {v : PV} {d : PyData} (h : datQ v d) : eqS [] v v = some true := by
  unfold eqS
  rw [h.1]
  simp only [h.2, and_self, if_true]
  rw [SeqAt.eqv_refl d (SeqAt.canLay_of_shaped h.2)]
theorem atI_nat {β : Type} {xs : List β} {i : Nat} (h : i < xs.length) : L2.atI xs (i : Int) = xs[i]? := by
  unfold L2.atI L2.ixN
  have h0 : (0 : Int) ≤ i := Int.natCast_nonneg i
  have h1 : (i : Int) < xs.length := by omega
  simp [h0, h1]
end PM
end
section
namespace PM
open PySem
section
variable {pf : Nat → List PV → Option Out} {pm : Nat → Nat → List PV → Option Out} {ρ ρ' : QEnv} {e a b c : CE} {v x y : PV} {vs xs ys : List PV} {es : CEs} {sub : Nat → Nat → Bool} {q : QR} {r s : CSs} {own : List Nat} {tg t : CT} {it : CI}
theorem liveIt_of {i : CI} (h : qi pf pm i ρ = some xs) : liveIt i ρ (qi pf pm i ρ) = some xs := by
  unfold liveIt
  split
  · rename_i j
    split
    · rename_i ys e
      rw [qi, qe] at h
      simp only [e, Option.bind_none] at h
      cases h
    · exact h
  · exact h
theorem liveIt_L {i : Nat} {k : Option (List PV)} (h : ρ[i]? = some (some (QV.o (.lst xs)))) : liveIt (.seq (.var i)) ρ k = some xs := by
  unfold liveIt
  simp only [h]
theorem qe_gen {k bb : Bool} (h1 : qi pf pm it ρ = some xs) (h2 : qgen k (fun x => qt pf pm tg x (qwipe ρ own)) (qe pf pm e) xs = some bb) : qe pf pm (.gen k e own tg it) ρ = some (.bl bb) := by
  rw [qe]; simp only [liveIt_of h1, Option.bind_some, h2, Option.map_some]
theorem qi_seq (h : qe pf pm e ρ = some v) (h2 : itemsQ v = some xs) : qi pf pm (.seq e) ρ = some xs := by
  rw [qi]; simp only [h, Option.bind_some, h2]
theorem qi_rng1 {n : Int} (h : qe pf pm e ρ = some (.int n)) (h2 : okR 0 n = true) : qi pf pm (.rng1 e) ρ = some (rngL 0 n) := by
  rw [qi]; simp only [h, Option.bind_some, h2, if_true]
theorem qi_enum (h : qe pf pm e ρ = some v) (h2 : seqOf [] v = some xs) : qi pf pm (.enum e) ρ = some (xs.zipIdx.map fun p => .tup [.int p.2, p.1]) := by
  rw [qi]; simp only [h, Option.bind_some, h2, Option.map_some]
theorem qe_comp {o : CEo} (h1 : qi pf pm it ρ = some xs) (hl : xs.length ≤ LIM) (h2 : qcomp (fun x => qt pf pm tg x (qwipe ρ own)) (qb pf pm o) (qe pf pm e) xs = some ys) : qe pf pm (.fz (.comp e own tg it o)) ρ = some (.lst ys) := by
  rw [qe, qa]; simp only [liveIt_of h1, Option.bind_some, if_pos hl, h2, Option.map_some]
theorem qe_compL {o : CEo} {i : Nat} (h1 : ρ[i]? = some (some (QV.o (.lst xs)))) (hl : xs.length ≤ LIM) (h2 : qcomp (fun x => qt pf pm tg x (qwipe ρ own)) (qb pf pm o) (qe pf pm e) xs = some ys) : qe pf pm (.fz (.comp e own tg (.seq (.var i)) o)) ρ = some (.lst ys) := by
  rw [qe, qa]; simp only [liveIt_L h1, Option.bind_some, if_pos hl, h2, Option.map_some]
theorem qe_genL {i : Nat} {k bb : Bool} (h1 : ρ[i]? = some (some (QV.o (.lst xs)))) (h2 : qgen k (fun x => qt pf pm tg x (qwipe ρ own)) (qe pf pm e) xs = some bb) : qe pf pm (.gen k e own tg (.seq (.var i))) ρ = some (.bl bb) := by
  rw [qe]; simp only [liveIt_L h1, Option.bind_some, h2, Option.map_some]
theorem qe_call {f : Nat} (h : qes pf pm es ρ = some vs) (h2 : pf f vs = some (.v v)) : qe pf pm (.fz (.call f es)) ρ = some v := by
  rw [qe, qa]; simp only [h, Option.bind_some, h2, outV]
theorem qe_make {c f : Nat} (h : qes pf pm es ρ = some vs) (h2 : pm c f vs = some (.v v)) : qe pf pm (.fz (.make c f es [])) ρ = some v := by
  rw [qe, qa]; simp only [purs, if_true, h, Option.bind_some, List.append_nil, h2, outV]
theorem qe_makeD {c f : Nat} (h : qes pf pm es ρ = some vs) (h2 : pm c f (vs ++ [.tup []]) = some (.v v)) : qe pf pm (.fz (.make c f es [.tup []])) ρ = some v := by
  rw [qe, qa]; simp only [purs, pur, Bool.and_self, if_true, h, Option.bind_some, h2, outV]
theorem qe_and {i j : Bool} (h1 : qe pf pm a ρ = some (.bl i)) (h2 : i = true → qe pf pm b ρ = some (.bl j)) : qe pf pm (.and a b) ρ = some (.bl (i && j)) := by
  rw [qe]; simp only [h1, Option.bind_some]
  cases i with
  | true => exact h2 rfl
  | false => rfl
theorem qe_or {i j : Bool} (h1 : qe pf pm a ρ = some (.bl i)) (h2 : i = false → qe pf pm b ρ = some (.bl j)) : qe pf pm (.or a b) ρ = some (.bl (i || j)) := by
  rw [qe]; simp only [h1, Option.bind_some]
  cases i with
  | true => rfl
  | false => exact h2 rfl
theorem qe_not {i : Bool} (h1 : qe pf pm a ρ = some (.bl i)) : qe pf pm (.not a) ρ = some (.bl (!i)) := by
  rw [qe]; simp only [h1, Option.bind_some, truth, Option.map_some]
theorem qE_v (h : qe pf pm e ρ = some v) : qE pf pm e ρ = some (.v v) := by
  unfold qE
  split
  · rename_i f es
    rw [qe, qa] at h
    obtain ⟨vs, e1, h⟩ := Option.bind_eq_some_iff.mp h
    rw [e1]; exact outV_is h
  · rename_i c f es dv
    rw [qe, qa] at h
    split at h
    · rename_i hd
      rw [if_pos hd]
      obtain ⟨vs, e1, h⟩ := Option.bind_eq_some_iff.mp h
      rw [e1]; exact outV_is h
    · cases h
  · rw [h]; rfl
theorem qr_of (h : qe pf pm e ρ = some v) : qr e ρ (qe pf pm e ρ) = some v := by
  unfold qr qv
  cases e
  case var i =>
    rw [qe] at h
    dsimp only at h ⊢
    split at h
    · rename_i w ew
      cases h
      simp [ew, QV.rd]
    · cases h
  all_goals simp [h, QV.rd]
theorem qv_of (h : qe pf pm e ρ = some v) : qv e ρ (qe pf pm e ρ) = some (.v v) := by
  unfold qv
  cases e
  case var i =>
    rw [qe] at h
    dsimp only at h ⊢
    split at h
    · rename_i w ew
      cases h
      simp [ew]
    · cases h
  all_goals simp [h]
theorem qrs_of : ∀ {es : CEs} {vs : List PV}, qes pf pm es ρ = some vs → qrs pf pm es ρ = some vs
  | .nil, vs, h => by rw [qes] at h; rw [qrs]; exact h
  | .cons e es, vs, h => by
    rw [qes] at h
    obtain ⟨v, e1, h⟩ := Option.bind_eq_some_iff.mp h
    obtain ⟨ws, e2, rfl⟩ := Option.map_eq_some_iff.mp h
    rw [qrs]
    simp only [qr_of e1, Option.bind_some, qrs_of e2, Option.map_some]
theorem qret_v (h : qe pf pm e ρ = some v) : qret pf pm e ρ = some (.v v) := by
  cases e
  case var i =>
    rw [qe] at h
    simp only [qret]
    dsimp only at h
    split at h
    · rename_i w ew
      cases h
      simp [ew]
    · cases h
  case tup es =>
    rw [qe] at h
    obtain ⟨vs, e1, h⟩ := Option.bind_eq_some_iff.mp h
    simp only [qret, qrs_of e1, Option.bind_some]
    split at h
    · rename_i hl; cases h; rw [if_pos hl]
    · cases h
  case fz e' =>
    cases e'
    case lst es =>
      rw [qe, qa] at h
      obtain ⟨vs, e1, h⟩ := Option.bind_eq_some_iff.mp h
      simp only [qret, qrs_of e1, Option.bind_some]
      split at h
      · rename_i hl; cases h; rw [if_pos hl]
      · cases h
    all_goals exact qE_v h
  all_goals exact qE_v h
theorem qx_ret (h : qe pf pm e ρ = some v) : qx pf pm sub (.ret e) ρ = some (.ret v) := by
  rw [qx]; simp only [qret_v h, Option.bind_some, outR]
theorem qx_iff0 (h : qe pf pm c ρ = some (.bl false)) : qx pf pm sub (.iff c r .nil s) ρ = qx pf pm sub s ρ := by
  rw [qx]; simp only [qB, h, Option.bind_some, truth, Bool.false_eq_true, if_false]
  rw [qx]; rfl
theorem qx_iff1 (h : qe pf pm c ρ = some (.bl true)) (h2 : qx pf pm sub r ρ = some q) {t : CSs} : qx pf pm sub (.iff c r t s) ρ = q.seq (qx pf pm sub s) := by
  rw [qx]; simp only [qB, h, Option.bind_some, truth, if_true, h2]
theorem qx_iff2 {t : CSs} (h : qe pf pm c ρ = some (.bl false)) (h2 : qx pf pm sub t ρ = some q) : qx pf pm sub (.iff c r t s) ρ = q.seq (qx pf pm sub s) := by
  rw [qx]; simp only [qB, h, Option.bind_some, truth, Bool.false_eq_true, if_false, h2]
theorem qx_iffT {ρ2 : QEnv} (h : qe pf pm c ρ = some (.bl true)) (h2 : qx pf pm sub r ρ = some (.nx ρ2)) {t : CSs} : qx pf pm sub (.iff c r t s) ρ = qx pf pm sub s ρ2 := qx_iff1 h h2
theorem qx_iffE {ρ2 : QEnv} {t : CSs} (h : qe pf pm c ρ = some (.bl false)) (h2 : qx pf pm sub t ρ = some (.nx ρ2)) : qx pf pm sub (.iff c r t s) ρ = qx pf pm sub s ρ2 := qx_iff2 h h2
theorem qx_set {i : Nat} (hk : skOf (.var i) e = .plain) (h : qe pf pm e ρ = some v) : qx pf pm sub (.asg (.var i) e s) ρ = qx pf pm sub s (ρ.set i (some (.v v))) := by
  rw [qx]; simp only [hk, qE_v h, Option.bind_some, outR]
  rw [qt]; rfl
theorem qx_tup {ts : CTs} (hk : skOf (.tup ts) e = .plain) (h : qe pf pm e ρ = some v) (h2 : qt pf pm (.tup ts) v ρ = some ρ') : qx pf pm sub (.asg (.tup ts) e s) ρ = qx pf pm sub s ρ' := by
  rw [qx]; simp only [hk, qE_v h, Option.bind_some, outR, h2]
theorem qx_live {i : Nat} {m : CE} {o : MO} (hk : skOf (.var i) e = .live i m) (h : qnew pf pm m ρ = some o) (hi : i < ρ.length) : qx pf pm sub (.asg (.var i) e s) ρ = qx pf pm sub s (ρ.set i (some (.o o))) := by
  rw [qx]; simp only [hk, h, Option.bind_some, if_pos hi]
theorem qx_fld {i f c : Nat} {fs : List (Nat × PV)} (h : qe pf pm e ρ = some v) (ho : ρ[i]? = some (some (QV.o (.ins c fs)))) (hl : fs.length < 1000) : qx pf pm sub (.asg (.fld (.var i) f) e s) ρ = qx pf pm sub s (ρ.set i (some (.o (.ins c (putP f v fs))))) := by
  rw [qx]; simp only [skOf, qE_v h, Option.bind_some, outR, ho, if_pos hl]
theorem qx_app {i : Nat} {xs : List PV} (h : qe pf pm a ρ = some v) (ho : ρ[i]? = some (some (QV.o (.lst xs)))) (hl : xs.length < LIM) : qx pf pm sub (.ex (.lm .append (.var i) (.cons a .nil)) s) ρ = qx pf pm sub s (ρ.set i (some (.o (.lst (xs ++ [v]))))) := by
  rw [qx]; simp only [apOf, ho, h, Option.bind_some, if_pos hl]
theorem qx_for {ρ2 : QEnv} (h1 : qi pf pm it ρ = some xs) (h2 : qfor (qt pf pm t) (qx pf pm sub r) xs ρ = some (.nx ρ2)) : qx pf pm sub (.for t it r s) ρ = qx pf pm sub s ρ2 := by
  rw [qx]; simp only [h1, Option.bind_some, h2, QR.seq]
theorem qx_for' {q : QR} (h1 : qi pf pm it ρ = some xs) (h2 : qfor (qt pf pm t) (qx pf pm sub r) xs ρ = some q) : qx pf pm sub (.for t it r s) ρ = q.seq (qx pf pm sub s) := by
  rw [qx]; simp only [h1, Option.bind_some, h2]
theorem qx_nil : qx pf pm sub .nil ρ = some (.nx ρ) := by rw [qx]
theorem qe_var {i : Nat} (h : ρ[i]? = some (some (QV.v v))) : qe pf pm (.var i) ρ = some v := by rw [qe]; simp only [h]
theorem cmpQ_v {o : COp} : cmpQ o (.v x) (.v y) = cmpV o [] x y := by cases o <;> simp [cmpQ, QV.rd, inQ, cmpV]
theorem qe_cmp {o : COp} {k : Bool} (h1 : qe pf pm a ρ = some x) (h2 : qe pf pm b ρ = some y) (h : cmpV o [] x y = some k) : qe pf pm (.cmp o a b) ρ = some (.bl k) := by
  rw [qe]; simp only [qv_of h1, qv_of h2, Option.bind_some, cmpQ_v, h, Option.map_some]
theorem qe_ix (h1 : qe pf pm a ρ = some x) (h2 : qe pf pm b ρ = some y) (h : ixV [] x y = some v) : qe pf pm (.ix a b) ρ = some v := by
  rw [qe]; simp only [qv_of h1, h2, Option.bind_some, ixQ, QV.rd, h]
theorem qe_bop {o : BOp} (h1 : qe pf pm a ρ = some x) (h2 : qe pf pm b ρ = some y) (h : bopV o [] x y = .ok v []) : qe pf pm (.bop o a b) ρ = some v := by
  rw [qe]; simp only [h1, h2, Option.bind_some, h, okP]
theorem qe_add {i j : Int} (h1 : qe pf pm a ρ = some (.int i)) (h2 : qe pf pm b ρ = some (.int j)) : qe pf pm (.bop .add a b) ρ = some (.int (i + j)) := qe_bop h1 h2 rfl
theorem qe_sub {i j : Int} (h1 : qe pf pm a ρ = some (.int i)) (h2 : qe pf pm b ρ = some (.int j)) : qe pf pm (.bop .sub a b) ρ = some (.int (i - j)) := qe_bop h1 h2 rfl
theorem qe_mul {i j : Int} (h1 : qe pf pm a ρ = some (.int i)) (h2 : qe pf pm b ρ = some (.int j)) (h : (small i || small j) = true) : qe pf pm (.bop .mul a b) ρ = some (.int (i * j)) := qe_bop h1 h2 (by simp only [bopV, mulV, h, Res.need, if_true])
theorem qe_mod {i j : Int} (h1 : qe pf pm a ρ = some (.int i)) (h2 : qe pf pm b ρ = some (.int j)) (h : 0 < j) : qe pf pm (.bop .mod a b) ρ = some (.int (i % j)) := qe_bop h1 h2 (by simp only [bopV, modV, Res.need, decide_eq_true h, if_true])
theorem qe_fdiv {i j : Int} (h1 : qe pf pm a ρ = some (.int i)) (h2 : qe pf pm b ρ = some (.int j)) (h : 0 < j) (h3 : j < 1073741824) : qe pf pm (.bop .fdiv a b) ρ = some (.int (i / j)) := qe_bop h1 h2 (by simp only [bopV, fdivV, Res.need, decide_eq_true h, decide_eq_true h3, Bool.and_self, if_true])
theorem qe_cst (h : pur v = true) : qe pf pm (.cst v) ρ = some v := by rw [qe]; simp only [h, if_true]
theorem qe_glo {z : Str} (h : pur v = true) : qe pf pm (.glo z v) ρ = some v := by rw [qe]; simp only [h, if_true]
theorem qe_fzadd (h1 : qe pf pm a ρ = some x) (h2 : qe pf pm b ρ = some y) {o : BOp} (h : bopA o x y = some v) : qe pf pm (.fz (.bop o a b)) ρ = some v := by
  rw [qe, qa]; simp only [qr_of h1, qr_of h2, Option.bind_some, h]
theorem qe_sl {lo hi : CEo} {i j : Option Int} (h1 : qe pf pm a ρ = some x) (h2 : qo pf pm lo ρ = some i) (h3 : qo pf pm hi ρ = some j) (h : slA x i j = some v) : qe pf pm (.fz (.sl a lo hi)) ρ = some v := by
  rw [qe, qa]; simp only [qr_of h1, h2, h3, Option.bind_some, h]
theorem qo_none : qo pf pm .none ρ = some none := by rw [qo]
theorem qo_some {i : Int} (h : qe pf pm a ρ = some (.int i)) : qo pf pm (.some a) ρ = some (some i) := by rw [qo]; simp only [h, Option.bind_some]
theorem qe_len (h : qe pf pm a ρ = some x) {n : Nat} (hn : lenV [] x = some n) : qe pf pm (.bi .len (.cons a .nil)) ρ = some (.int n) := by
  rw [qe, qrs, qrs]; simp [qr_of h, bqP, biV, b1, hn, Res.opt, okP]
theorem qe_isi {ks : List KN} {k : Bool} (h : qe pf pm a ρ = some x) (hk : isiV [] noCf x ks = some k) : qe pf pm (.isi a ks) ρ = some (.bl k) := by
  rw [qe]; simp only [qr_of h, Option.bind_some, hk, Option.map_some]
theorem qe_tupD (h : qes pf pm es ρ = some vs) (hl : vs.length ≤ LIM) : qe pf pm (.tup es) ρ = some (.tup vs) := by rw [qe]; simp only [h, Option.bind_some, if_pos hl]
theorem qe_lstD (h : qes pf pm es ρ = some vs) (hl : vs.length ≤ LIM) : qe pf pm (.fz (.lst es)) ρ = some (.lst vs) := by rw [qe, qa]; simp only [h, Option.bind_some, if_pos hl]
theorem qes_nil : qes pf pm .nil ρ = some [] := by rw [qes]
theorem qes_cons (h1 : qe pf pm a ρ = some v) (h2 : qes pf pm es ρ = some vs) : qes pf pm (.cons a es) ρ = some (v :: vs) := by rw [qes]; simp only [h1, h2, Option.bind_some, Option.map_some]
theorem qe_fldV {f : Nat} (h : qe pf pm a ρ = some x) (hf : fldV [] x f = some v) : qe pf pm (.fld a f) ρ = some v := by
  rw [qe]; simp only [qv_of h, Option.bind_some, fldQ, hf]
theorem qe_list (h : qe pf pm a ρ = some x) (hs : seqOf [] x = some xs) (hk : keysOf [] x = none) : qe pf pm (.fz (.bi .list (.cons a .nil))) ρ = some (.lst xs) := by
  rw [qe, qa, qrs, qrs]; simp [qr_of h, bqA, biV, b1, listB, hk, hs, Res.opt, new]
theorem qe_tupB (h : qe pf pm a ρ = some x) (hs : lstOf [] x = some xs) : qe pf pm (.bi .tuple (.cons a .nil)) ρ = some (.tup xs) := by
  rw [qe, qrs, qrs]
  cases x <;> simp [lstOf] at hs <;> (subst hs; simp [qr_of h, bqP, biV, b1, tupB, lstOf, Res.opt, okP])
theorem qe_int (h : qe pf pm a ρ = some x) {i : Int} (hi : intB [] x = .ok (.int i) []) : qe pf pm (.bi .int (.cons a .nil)) ρ = some (.int i) := by
  rw [qe, qrs, qrs]; simp [qr_of h, bqP, biV, b1, hi, okP]
theorem qe_le2 {i j l : Int} (h1 : qe pf pm a ρ = some (.int i)) (h2 : qe pf pm b ρ = some (.int j)) (h3 : qe pf pm c ρ = some (.int l)) (h4 : i ≤ j) (h5 : j ≤ l) : qe pf pm (.cmp2 .le .le a b c) ρ = some (.bl true) := by
  rw [qe]; simp only [h1, h2, h3, Option.bind_some, cmpV, ordV, decide_eq_true h4, decide_eq_true h5, if_true, Option.map_some]
theorem qe_listR {n : Int} (h : qe pf pm a ρ = some (.int n)) (hn : okR 0 n = true) : qe pf pm (.fz (.bi .listR1 (.cons a .nil))) ρ = some (.lst (rngL 0 n)) := by
  rw [qe, qa, qrs, qrs]; simp [qr_of h, bqA, biV, b1, listR1B, hn, Res.need, new]
theorem addL {xs ys : List PV} (h : xs.length + ys.length ≤ LIM) : bopA .add (.lst xs) (.lst ys) = some (.lst (xs ++ ys)) := by
  simp [bopA, bopV, addV, trk, Res.opt, Res.need, h, new]
theorem addT {xs ys : List PV} (h : xs.length + ys.length ≤ LIM) (hn : nmC (xs ++ ys) = false) : bopA .add (.tup xs) (.tup ys) = some (.tup (xs ++ ys)) := by
  simp [bopA, bopV, addV, Res.need, h, hn]
theorem qe_tuple {l : CE} (h : qr l ρ (qe pf pm l ρ) = some (.lst xs)) : qe pf pm (.bi .tuple (.cons l .nil)) ρ = some (.tup xs) := by
  rw [qe, qrs, qrs]; simp [h, bqP, biV, b1, tupB, lstOf, Res.opt, okP]
end
end PM
end
section
namespace PM
open PySem
section
variable {pf : Nat → List PV → Option Out} {pm : Nat → Nat → List PV → Option Out} {ρ ρ' : QEnv} {e a b c : CE} {v x y : PV} {vs xs ys : List PV} {es : CEs} {sub : Nat → Nat → Bool} {q : QR} {r s : CSs} {own : List Nat} {tg t : CT} {it : CI}
theorem qe_neg {i : Int} (h : qe pf pm a ρ = some (.int i)) : qe pf pm (.neg a) ρ = some (.int (-i)) := by
  rw [qe]; simp only [h, Option.bind_some]
theorem qe_ixO {i : Nat} (h : ρ[i]? = some (some (QV.o (.lst xs)))) (h2 : qe pf pm b ρ = some y) (h3 : ixV [] (.lst xs) y = some v) : qe pf pm (.ix (.var i) b) ρ = some v := by
  rw [qe]; simp only [qv, h, h2, Option.bind_some, ixQ, QV.rd, h3]
theorem qe_fldO {i f c : Nat} {fs : List (Nat × PV)} (h : ρ[i]? = some (some (QV.o (.ins c fs)))) (h2 : fs.lookup f = some v) : qe pf pm (.fld (.var i) f) ρ = some v := by
  rw [qe]; simp only [qv, h, Option.bind_some, fldQ, h2]
theorem qe_rev (h : qe pf pm a ρ = some x) (h2 : lstOf [] x = some xs) : qe pf pm (.fz (.rev a)) ρ = some (.lst xs.reverse) := by
  rw [qe, qa]; simp only [qr_of h, Option.bind_some, h2, Option.map_some]
theorem qr_O {i : Nat} (h : ρ[i]? = some (some (QV.o (.lst xs)))) : qr (.var i) ρ (qe pf pm (.var i) ρ) = some (.lst xs) := by
  simp only [qr, qv, h, Option.bind_some, QV.rd]
theorem qrs_nil : qrs pf pm .nil ρ = some [] := by rw [qrs]
theorem qrs_cons (h1 : qe pf pm a ρ = some v) (h2 : qrs pf pm es ρ = some vs) : qrs pf pm (.cons a es) ρ = some (v :: vs) := by
  rw [qrs]; simp only [qr_of h1, h2, Option.bind_some, Option.map_some]
theorem qrs_consO {i : Nat} (h1 : ρ[i]? = some (some (QV.o (.lst xs)))) (h2 : qrs pf pm es ρ = some vs) : qrs pf pm (.cons (.var i) es) ρ = some (.lst xs :: vs) := by
  rw [qrs]; simp only [qr_O h1, h2, Option.bind_some, Option.map_some]
theorem qx_retL (h : qrs pf pm es ρ = some vs) (hl : vs.length ≤ LIM) : qx pf pm sub (.ret (.fz (.lst es))) ρ = some (.ret (.lst vs)) := by
  rw [qx]; simp only [qret, h, Option.bind_some, if_pos hl, outR]
theorem qx_retT (h : qrs pf pm es ρ = some vs) (hl : vs.length ≤ LIM) : qx pf pm sub (.ret (.tup es)) ρ = some (.ret (.tup vs)) := by
  rw [qx]; simp only [qret, h, Option.bind_some, if_pos hl, outR]
theorem qx_retO {i : Nat} (h : ρ[i]? = some (some (QV.o (.lst xs)))) : qx pf pm sub (.ret (.var i)) ρ = some (.ret (.lst xs)) := by
  rw [qx]; simp only [qret, h, frzM, Option.map_some, Option.bind_some, outR]
theorem qe_tupleO {i : Nat} (h : ρ[i]? = some (some (QV.o (.lst xs)))) : qe pf pm (.bi .tuple (.cons (.var i) .nil)) ρ = some (.tup xs) := qe_tuple (qr_O h)
theorem qe_lenO {i : Nat} (h : ρ[i]? = some (some (QV.o (.lst xs)))) : qe pf pm (.bi .len (.cons (.var i) .nil)) ρ = some (.int xs.length) := by
  rw [qe, qrs, qrs]
  simp [qr_O h, bqP, biV, b1, lenV, seqOf, lstOf, Res.opt, okP]
theorem qe_tupT (h : qe pf pm a ρ = some (.tup xs)) : qe pf pm (.bi .tuple (.cons a .nil)) ρ = some (.tup xs) := by
  rw [qe, qrs, qrs]; simp [qr_of h, bqP, biV, b1, tupB, Res.opt, okP]
theorem qx_ex {f : Nat} (h : qe pf pm (.fz (.call f es)) ρ = some v) : qx pf pm sub (.ex (.fz (.call f es)) s) ρ = qx pf pm sub s ρ := by
  rw [qx]; simp only [apOf, qE_v h, Option.bind_some, outR]
theorem qi_zip (h1 : qe pf pm a ρ = some x) (h2 : qe pf pm b ρ = some y) (hk : zipK x y = true) (hx : seqOf [] x = some xs) (hy : seqOf [] y = some ys) (hn : ((xs.zip ys).all fun p => !nmC [p.1, p.2]) = true) : qi pf pm (.zip a b) ρ = some ((xs.zip ys).map fun p => .tup [p.1, p.2]) := by
  rw [qi]; simp only [h1, h2, Option.bind_some, if_pos hk, hx, hy, if_pos hn]
theorem qi_rng2 {m n : Int} (h : qe pf pm a ρ = some (.int m)) (h1 : qe pf pm b ρ = some (.int n)) (h2 : okR m n = true) : qi pf pm (.rng2 a b) ρ = some (rngL m n) := by
  rw [qi]; simp only [h, h1, Option.bind_some, h2, if_true]
end
theorem ix_last {xs : List PV} {v : PV} (h : xs[xs.length - 1]? = some v) : ixV [] (.lst xs) (.int (-1)) = some v := by
  have h0 : xs.length - 1 < xs.length := (List.getElem?_eq_some_iff.mp h).1
  simp only [ixV, seqOf, lstOf, Option.bind_some]
  unfold L2.atI L2.ixN
  have h1 : ¬ (0 : Int) ≤ -1 := by decide
  have h2 : (-1 : Int) + xs.length = ((xs.length - 1 : Nat) : Int) := by omega
  have h3 : -(xs.length : Int) ≤ -1 := by omega
  rw [if_neg h1, if_pos h3, h2, Int.toNat_natCast]
  exact h
end PM
end
section
namespace K06
open PySem PM
abbrev F_is_integer : Nat := 0
abbrev F_is_word : Nat := 1
abbrev F_are_words : Nat := 2
abbrev F_are_rows : Nat := 3
abbrev F_frozen : Nat := 4
abbrev F_keys_of : Nat := 5
abbrev F_is_ascending : Nat := 6
abbrev F_is_output : Nat := 7
abbrev F_is_rule : Nat := 8
abbrev F_Program_init : Nat := 9
abbrev F_position_of : Nat := 10
abbrev F_rule_of : Nat := 11
abbrev F_step : Nat := 12
abbrev F_Chain_init : Nat := 13
abbrev F_names_of : Nat := 14
abbrev F_is_kept : Nat := 15
abbrev F_is_beginning : Nat := 16
abbrev F_check_input : Nat := 17
abbrev F_is_message : Nat := 18
abbrev F_heard : Nat := 19
abbrev F_chain_step : Nat := 20
abbrev F_deed_from : Nat := 21
abbrev F_after_deed : Nat := 22
abbrev F_written : Nat := 23
abbrev F__law_cell : Nat := 24
abbrev F__law_row : Nat := 25
abbrev F__law_word : Nat := 26
abbrev F__law_words : Nat := 27
abbrev F__law_sources : Nat := 28
abbrev F__law_outputs : Nat := 29
abbrev F__law_keys : Nat := 30
abbrev F__law_program : Nat := 31
abbrev F__law_chain_plan : Nat := 32
abbrev F__law_chain : Nat := 33
abbrev F__law_position : Nat := 34
abbrev F__law_step : Nat := 35
abbrev F__law_chain_step : Nat := 36
abbrev F__law_deed : Nat := 37
abbrev F__law_start : Nat := 38
abbrev F__law_input : Nat := 39
abbrev F__law_beginning : Nat := 40
abbrev F__law_alone : Nat := 41
abbrev F_law : Nat := 42
def c_is_integer : Fn := ⟨3, 3,
  (.ret (.and (.isi (.var 0) [.int]) (.and (.not (.isi (.var 0) [.bool])) (.cmp2 .le .le (.var 1) (.var 0) (.var 2)))))⟩
def c_is_word : Fn := ⟨2, 1,
  (.ret (.and (.isi (.var 0) [.str]) (.and (.cmp2 .le .le (.cst (.int 1)) (.bi .len (.cons (.var 0) .nil)) (.cst (.int 8))) (.gen true (.cmp .isin (.var 1) (.glo "LETTERS" (.str "abcdefghijklmnopqrstuvwxyz"))) [1] (.var 1) (.seq (.var 0))))))⟩
def c_are_words : Fn := ⟨4, 2,
  (.iff (.or (.not (.isi (.var 0) [.tuple])) (.or (.not (.cmp2 .le .le (.cst (.int 1)) (.bi .len (.cons (.var 0) .nil)) (.var 1))) (.not (.gen true (.fz (.call F_is_word (.cons (.var 3) .nil))) [3] (.var 3) (.seq (.var 0))))))
   (.ret (.cst (.bl false)))
   .nil
  (.ret (.gen true (.cmp .nin (.ix (.var 0) (.var 2)) (.fz (.sl (.var 0) .none (.some (.var 2))))) [2] (.var 2) (.rng1 (.bi .len (.cons (.var 0) .nil))))))⟩
def c_are_rows : Fn := ⟨3, 2,
  (.ret (.and (.isi (.var 0) [.tuple]) (.gen true (.and (.isi (.var 2) [.tuple]) (.cmp .eq (.bi .len (.cons (.var 2) .nil)) (.var 1))) [2] (.var 2) (.seq (.var 0)))))⟩
def c_frozen : Fn := ⟨2, 1,
  (.iff (.isi (.var 0) [.list, .tuple])
   (.ret (.bi .tuple (.cons (.fz (.comp (.fz (.call F_frozen (.cons (.var 1) .nil))) [1] (.var 1) (.seq (.var 0)) .none)) .nil)))
   .nil
  (.ret (.var 0)))⟩
def c_keys_of : Fn := ⟨7, 2,
  (.asg (.var 2) (.lst .nil)
  (.for (.tup (.cons (.var 3) (.cons (.var 4) .nil))) (.enum (.var 1))
   (.for (.var 5) (.seq (.var 0))
    (.for (.var 6) (.rng1 (.bop .add (.bop .mul (.cst (.int 2)) (.var 4)) (.cst (.int 1))))
     (.ex (.lm .append (.var 2) (.cons (.tup (.cons (.var 3) (.cons (.var 5) (.cons (.var 6) .nil)))) .nil))
     .nil)
    .nil)
   .nil)
  (.ret (.var 2))))⟩
def c_is_ascending : Fn := ⟨2, 1,
  (.ret (.gen true (.cmp .lt (.ix (.var 0) (.var 1)) (.ix (.var 0) (.bop .add (.var 1) (.cst (.int 1))))) [1] (.var 1) (.rng1 (.bop .sub (.bi .len (.cons (.var 0) .nil)) (.cst (.int 1))))))⟩
def c_is_output : Fn := ⟨5, 3,
  (.iff (.or (.not (.isi (.var 1) [.tuple])) (.or (.cmp .ne (.bi .len (.cons (.var 1) .nil)) (.cst (.int 3))) (.not (.fz (.call F_is_integer (.cons (.ix (.var 1) (.cst (.int 2))) (.cons (.cst (.int 0)) (.cons (.bop .sub (.var 2) (.cst (.int 1))) .nil))))))))
   (.ret (.cst (.bl false)))
   .nil
  (.ret (.gen false (.and (.cmp .eq (.ix (.var 1) (.cst (.int 0))) (.var 3)) (.cmp .isin (.ix (.var 1) (.cst (.int 1))) (.var 4))) [3, 4] (.tup (.cons (.var 3) (.cons (.var 4) .nil))) (.seq (.var 0)))))⟩
def c_is_rule : Fn := ⟨12, 3,
  (.asg (.tup (.cons (.var 4) (.cons (.var 5) (.cons (.var 6) (.cons (.var 7) (.cons (.var 8) (.cons (.var 9) .nil))))))) (.var 2)
  (.iff (.or (.not (.isi (.var 8) [.tuple])) (.not (.isi (.var 9) [.tuple])))
   (.ret (.cst (.bl false)))
   .nil
  (.iff (.or (.not (.fz (.call F_is_integer (.cons (.var 4) (.cons (.cst (.int 0)) (.cons (.bop .sub (.bi .len (.cons (.var 1) .nil)) (.cst (.int 1))) .nil)))))) (.not (.fz (.call F_is_integer (.cons (.var 6) (.cons (.cst (.int 0)) (.cons (.bop .mul (.cst (.int 2)) (.ix (.var 1) (.var 4))) .nil)))))))
   (.ret (.cst (.bl false)))
   .nil
  (.iff (.or (.not (.fz (.call F_is_integer (.cons (.var 7) (.cons (.cst (.int 0)) (.cons (.bop .sub (.bi .len (.cons (.var 1) .nil)) (.cst (.int 1))) .nil)))))) (.cmp .ne (.bi .len (.cons (.var 8) .nil)) (.ix (.var 1) (.var 7))))
   (.ret (.cst (.bl false)))
   .nil
  (.asg (.var 3) (.bop .sub (.bop .add (.ix (.var 1) (.var 4)) (.cst (.int 1))) (.bop .mod (.var 6) (.cst (.int 2))))
  (.iff (.or (.not (.gen true (.fz (.call F_is_integer (.cons (.var 11) (.cons (.cst (.int 0)) (.cons (.bop .sub (.var 3) (.cst (.int 1))) .nil))))) [11] (.var 11) (.seq (.var 8)))) (.not (.fz (.call F_is_ascending (.cons (.var 8) .nil)))))
   (.ret (.cst (.bl false)))
   .nil
  (.iff (.cmp .gt (.bi .len (.cons (.var 9) .nil)) (.glo "MOST_OUTPUTS" (.int 3)))
   (.ret (.cst (.bl false)))
   .nil
  (.ret (.gen true (.fz (.call F_is_output (.cons (.var 0) (.cons (.var 10) (.cons (.var 3) .nil))))) [10] (.var 10) (.seq (.var 9)))))))))))⟩
def c_Program_init : Fn := ⟨12, 5,
  (.asg (.tup (.cons (.var 1) (.cons (.var 2) (.cons (.var 3) .nil)))) (.tup (.cons (.fz (.call F_frozen (.cons (.var 1) .nil))) (.cons (.fz (.call F_frozen (.cons (.var 2) .nil))) (.cons (.fz (.call F_frozen (.cons (.var 3) .nil))) .nil))))
  (.asg (.var 5) (.fz (.call F_frozen (.cons (.var 4) .nil)))
  (.iff (.or (.not (.fz (.call F_are_rows (.cons (.var 2) (.cons (.cst (.int 2)) .nil))))) (.or (.not (.fz (.call F_are_rows (.cons (.var 5) (.cons (.cst (.int 6)) .nil))))) (.not (.isi (.var 3) [.tuple]))))
   .nev
   .nil
  (.iff (.or (.not (.fz (.call F_are_words (.cons (.var 1) (.cons (.cst (.int 4)) .nil))))) (.not (.fz (.call F_are_words (.cons (.bi .tuple (.cons (.fz (.comp (.ix (.var 10) (.cst (.int 0))) [10] (.var 10) (.seq (.var 2)) .none)) .nil)) (.cons (.cst (.int 2)) .nil))))))
   .nev
   .nil
  (.iff (.not (.gen true (.fz (.call F_are_words (.cons (.ix (.var 10) (.cst (.int 1))) (.cons (.cst (.int 4)) .nil)))) [10] (.var 10) (.seq (.var 2))))
   .nev
   .nil
  (.iff (.or (.not (.cmp2 .le .le (.cst (.int 1)) (.bi .len (.cons (.var 3) .nil)) (.glo "MOST_STATES" (.int 10)))) (.cmp .ne (.ix (.var 3) (.cst (.int 0))) (.cst (.int 0))))
   .nev
   .nil
  (.iff (.not (.gen true (.fz (.call F_is_integer (.cons (.var 11) (.cons (.cst (.int 0)) (.cons (.glo "MOST_KEPT" (.int 4)) .nil))))) [11] (.var 11) (.seq (.var 3))))
   .nev
   .nil
  (.asg (.var 6) (.fz (.call F_keys_of (.cons (.var 1) (.cons (.var 3) .nil))))
  (.asg (.var 7) (.dcomp true (.fz (.sl (.var 8) .none (.some (.cst (.int 3))))) (.var 8) [8] (.var 8) (.seq (.var 5)))
  (.iff (.or (.cmp .ne (.bi .len (.cons (.var 5) .nil)) (.bi .len (.cons (.var 6) .nil))) (.not (.gen true (.cmp .isin (.var 9) (.var 7)) [9] (.var 9) (.seq (.var 6)))))
   .nev
   .nil
  (.iff (.not (.gen true (.fz (.call F_is_rule (.cons (.var 2) (.cons (.var 3) (.cons (.var 8) .nil))))) [8] (.var 8) (.seq (.var 5))))
   .nev
   .nil
  (.asg (.fld (.var 0) 0) (.var 1)
  (.asg (.fld (.var 0) 1) (.var 2)
  (.asg (.fld (.var 0) 2) (.var 3)
  (.asg (.fld (.var 0) 3) (.bi .tuple (.cons (.fz (.comp (.ix (.var 7) (.var 9)) [9] (.var 9) (.seq (.var 6)) .none)) .nil))
  .nil)))))))))))))))⟩
def c_position_of : Fn := ⟨4, 2,
  (.asg (.var 2) (.bi .len (.cons (.fz (.comp (.var 3) [3] (.var 3) (.seq (.var 1)) (.some (.cmp .lt (.var 3) (.var 0))))) .nil))
  (.ret (.bop .add (.bop .mul (.cst (.int 2)) (.var 2)) (.bi .int (.cons (.cmp .isin (.var 0) (.var 1)) .nil)))))⟩
def c_rule_of : Fn := ⟨6, 4,
  (.asg (.var 4) (.cst (.int 0))
  (.for (.var 5) (.seq (.fz (.sl (.fld (.var 0) 2) .none (.some (.var 1)))))
   (.aug 4 .add (.bop .mul (.bi .len (.cons (.fld (.var 0) 0) .nil)) (.bop .add (.bop .mul (.cst (.int 2)) (.var 5)) (.cst (.int 1))))
   .nil)
  (.aug 4 .add (.bop .mul (.lm .index (.fld (.var 0) 0) (.cons (.var 2) .nil)) (.bop .add (.bop .mul (.cst (.int 2)) (.ix (.fld (.var 0) 2) (.var 1))) (.cst (.int 1))))
  (.ret (.ix (.fld (.var 0) 3) (.fz (.bop .add (.var 4) (.var 3))))))))⟩
def c_step : Fn := ⟨13, 3,
  (.asg (.tup (.cons (.var 6) (.cons (.var 7) .nil))) (.var 1)
  (.asg (.tup (.cons (.var 8) (.cons (.var 9) .nil))) (.var 2)
  (.asg (.var 3) (.fz (.call F_rule_of (.cons (.var 0) (.cons (.var 6) (.cons (.var 8) (.cons (.fz (.call F_position_of (.cons (.var 9) (.cons (.var 7) .nil)))) .nil))))))
  (.asg (.var 4) (.fz (.bi .list (.cons (.var 7) .nil)))
  (.iff (.cmp .nin (.var 9) (.var 4))
   (.asg (.var 4) (.fz (.bi .sorted (.cons (.fz (.bop .add (.var 4) (.fz (.lst (.cons (.var 9) .nil))))) .nil)))
   .nil)
   .nil
  (.asg (.var 5) (.fz (.comp (.tup (.cons (.var 10) (.cons (.var 11) (.cons (.ix (.var 4) (.var 12)) .nil)))) [10, 11, 12] (.tup (.cons (.var 10) (.cons (.var 11) (.cons (.var 12) .nil)))) (.seq (.ix (.var 3) (.cst (.int 5)))) .none))
  (.ret (.tup (.cons (.tup (.cons (.ix (.var 3) (.cst (.int 3))) (.cons (.bi .tuple (.cons (.fz (.comp (.ix (.var 4) (.var 12)) [12] (.var 12) (.seq (.ix (.var 3) (.cst (.int 4)))) .none)) .nil)) .nil))) (.cons (.bi .tuple (.cons (.var 5) .nil)) .nil))))))))))⟩
def c_Chain_init : Fn := ⟨6, 3,
  (.iff (.or (.not (.isi (.var 1) [.list, .tuple])) (.not (.isi (.var 2) [.list, .tuple])))
   .nev
   .nil
  (.asg (.fld (.var 0) 4) (.bi .tuple (.cons (.var 1) .nil))
  (.asg (.fld (.var 0) 5) (.bi .tuple (.cons (.var 2) .nil))
  (.iff (.or (.not (.cmp2 .le .le (.cst (.int 1)) (.bi .len (.cons (.fld (.var 0) 4) .nil)) (.cst (.int 3)))) (.cmp .ne (.bi .len (.cons (.fld (.var 0) 5) .nil)) (.bop .sub (.bi .len (.cons (.fld (.var 0) 4) .nil)) (.cst (.int 1)))))
   .nev
   .nil
  (.iff (.not (.gen true (.isi (.var 5) [.cls 0]) [5] (.var 5) (.seq (.fld (.var 0) 4))))
   .nev
   .nil
  (.for (.tup (.cons (.var 3) (.cons (.var 4) .nil))) (.enum (.fld (.var 0) 5))
   (.iff (.cmp .nin (.tup (.cons (.var 4) (.cons (.fld (.ix (.fld (.var 0) 4) (.bop .add (.var 3) (.cst (.int 1)))) 0) .nil))) (.fld (.ix (.fld (.var 0) 4) (.var 3)) 1))
    .nev
    .nil
   .nil)
  .nil))))))⟩
def c_names_of : Fn := ⟨1, 1,
  (.ret (.fld (.ix (.fld (.var 0) 4) (.cst (.int 0))) 0))⟩
def c_is_kept : Fn := ⟨3, 2,
  (.iff (.or (.not (.isi (.var 1) [.tuple])) (.or (.cmp .ne (.bi .len (.cons (.var 1) .nil)) (.cst (.int 2))) (.not (.isi (.ix (.var 1) (.cst (.int 1))) [.tuple]))))
   (.ret (.cst (.bl false)))
   .nil
  (.iff (.not (.fz (.call F_is_integer (.cons (.ix (.var 1) (.cst (.int 0))) (.cons (.cst (.int 0)) (.cons (.bop .sub (.bi .len (.cons (.fld (.var 0) 2) .nil)) (.cst (.int 1))) .nil))))))
   (.ret (.cst (.bl false)))
   .nil
  (.iff (.cmp .ne (.bi .len (.cons (.ix (.var 1) (.cst (.int 1))) .nil)) (.ix (.fld (.var 0) 2) (.ix (.var 1) (.cst (.int 0)))))
   (.ret (.cst (.bl false)))
   .nil
  (.iff (.not (.gen true (.and (.isi (.var 2) [.int]) (.not (.isi (.var 2) [.bool]))) [2] (.var 2) (.seq (.ix (.var 1) (.cst (.int 1))))))
   (.ret (.cst (.bl false)))
   .nil
  (.ret (.fz (.call F_is_ascending (.cons (.ix (.var 1) (.cst (.int 1))) .nil))))))))⟩
def c_is_beginning : Fn := ⟨4, 2,
  (.iff (.or (.not (.isi (.var 1) [.tuple])) (.cmp .ne (.bi .len (.cons (.var 1) .nil)) (.bi .len (.cons (.fld (.var 0) 4) .nil))))
   (.ret (.cst (.bl false)))
   .nil
  (.ret (.gen true (.fz (.call F_is_kept (.cons (.var 2) (.cons (.var 3) .nil)))) [2, 3] (.tup (.cons (.var 2) (.cons (.var 3) .nil))) (.zip (.fld (.var 0) 4) (.var 1)))))⟩
def c_check_input : Fn := ⟨4, 2,
  (.asg (.var 2) (.fz (.call F_frozen (.cons (.var 1) .nil)))
  (.iff (.or (.not (.isi (.var 2) [.tuple])) (.not (.gen true (.fz (.call F_is_message (.cons (.var 0) (.cons (.var 3) .nil)))) [3] (.var 3) (.seq (.var 2)))))
   .nev
   .nil
  .nil))⟩
def c_is_message : Fn := ⟨2, 2,
  (.iff (.or (.not (.isi (.var 1) [.tuple])) (.or (.cmp .ne (.bi .len (.cons (.var 1) .nil)) (.cst (.int 2))) (.cmp .nin (.ix (.var 1) (.cst (.int 0))) (.fz (.call F_names_of (.cons (.var 0) .nil))))))
   (.ret (.cst (.bl false)))
   .nil
  (.ret (.and (.isi (.ix (.var 1) (.cst (.int 1))) [.int]) (.not (.isi (.ix (.var 1) (.cst (.int 1))) [.bool])))))⟩
def c_heard : Fn := ⟨6, 3,
  (.asg (.var 3) (.fz (.lst .nil))
  (.for (.var 4) (.seq (.var 2))
   (.asg (.tup (.cons (.var 1) (.cons (.var 5) .nil))) (.fz (.call F_step (.cons (.var 0) (.cons (.var 1) (.cons (.var 4) .nil)))))
   (.asg (.var 3) (.fz (.bop .add (.var 3) (.fz (.bi .list (.cons (.var 5) .nil)))))
   .nil))
  (.ret (.tup (.cons (.var 1) (.cons (.bi .tuple (.cons (.var 3) .nil)) .nil))))))⟩
def c_chain_step : Fn := ⟨13, 3,
  (.asg (.var 3) (.fz (.lst (.cons (.var 2) .nil)))
  (.asg (.var 4) (.lst .nil)
  (.asg (.var 5) (.lst .nil)
  (.for (.tup (.cons (.var 6) (.cons (.var 7) .nil))) (.enum (.fld (.var 0) 4))
   (.asg (.tup (.cons (.var 8) (.cons (.var 9) .nil))) (.fz (.call F_heard (.cons (.var 7) (.cons (.ix (.var 1) (.var 6)) (.cons (.var 3) .nil)))))
   (.asg (.var 8) (.tup (.cons (.ix (.var 8) (.cst (.int 0))) (.cons (.bi .tuple (.cons (.ix (.var 8) (.cst (.int 1))) .nil)) .nil)))
   (.ex (.lm .append (.var 4) (.cons (.var 8) .nil))
   (.ex (.lm .append (.var 5) (.cons (.tup (.cons (.ix (.var 8) (.cst (.int 0))) (.cons (.ix (.var 8) (.cst (.int 1))) (.cons (.var 9) .nil)))) .nil))
   (.iff (.cmp .lt (.var 6) (.bi .len (.cons (.fld (.var 0) 5) .nil)))
    (.asg (.var 3) (.fz (.comp (.tup (.cons (.var 11) (.cons (.var 12) .nil))) [10, 11, 12] (.tup (.cons (.var 10) (.cons (.var 11) (.cons (.var 12) .nil)))) (.seq (.var 9)) (.some (.cmp .eq (.var 10) (.ix (.fld (.var 0) 5) (.var 6))))))
    .nil)
    .nil
   .nil)))))
  (.ret (.tup (.cons (.bi .tuple (.cons (.var 4) .nil)) (.cons (.bi .tuple (.cons (.var 5) .nil)) .nil))))))))⟩
def c_deed_from : Fn := ⟨7, 3,
  (.asg (.var 3) (.fz (.call F_frozen (.cons (.var 1) .nil)))
  (.iff (.not (.fz (.call F_is_beginning (.cons (.var 0) (.cons (.var 3) .nil)))))
   .nev
   .nil
  (.ex (.fz (.call F_check_input (.cons (.var 0) (.cons (.var 2) .nil))))
  (.asg (.var 4) (.lst .nil)
  (.for (.var 5) (.seq (.var 2))
   (.asg (.tup (.cons (.var 3) (.cons (.var 6) .nil))) (.fz (.call F_chain_step (.cons (.var 0) (.cons (.var 3) (.cons (.var 5) .nil)))))
   (.ex (.lm .append (.var 4) (.cons (.var 6) .nil))
   .nil))
  (.ret (.var 4)))))))⟩
def c_after_deed : Fn := ⟨4, 1,
  (.ret (.bi .tuple (.cons (.fz (.comp (.tup (.cons (.var 1) (.cons (.bi .tuple (.cons (.var 2) .nil)) .nil))) [1, 2, 3] (.tup (.cons (.var 1) (.cons (.var 2) (.cons (.var 3) .nil)))) (.seq (.ix (.var 0) (.neg (.cst (.int 1))))) .none)) .nil)))⟩
def c_written : Fn := ⟨8, 3,
  (.asg (.var 3) (.lst .nil)
  (.for (.var 4) (.seq (.var 0))
   (.for (.tup (.cons (.var 5) (.cons (.var 6) (.cons (.var 7) .nil)))) (.seq (.ix (.ix (.var 4) (.var 1)) (.cst (.int 2))))
    (.iff (.cmp .eq (.var 5) (.var 2))
     (.ex (.lm .append (.var 3) (.cons (.tup (.cons (.var 6) (.cons (.var 7) .nil))) .nil))
     .nil)
     .nil
    .nil)
   .nil)
  (.ret (.var 3))))⟩
def c__law_cell : Fn := ⟨2, 2,
  (.iff (.cmp .lt (.var 1) (.bi .len (.cons (.var 0) .nil)))
   (.ret (.ix (.var 0) (.var 1)))
   .nil
  (.ret (.cst (.int 0))))⟩
def c__law_row : Fn := ⟨6, 2,
  (.asg (.var 2) (.lst .nil)
  (.asg (.var 3) (.var 0)
  (.asg (.var 4) (.bop .add (.bop .mod (.bi .int (.cons (.var 0) .nil)) (.cst (.int 2147483629))) (.cst (.int 1)))
  (.for (.var 5) (.rng1 (.var 1))
   (.iff (.cmp .ge (.var 0) (.pow 10 18))
    (.ex (.lm .append (.var 2) (.cons (.bop .mod (.bi .int (.cons (.var 3) .nil)) (.cst (.int 840))) .nil))
    (.asg (.var 3) (.bop .fdiv (.var 3) (.cst (.int 840)))
    .nil))
    (.asg (.var 4) (.bop .mod (.bi .int (.cons (.bop .add (.bop .mul (.var 4) (.cst (.int 48271))) (.var 5)) .nil)) (.cst (.int 2147483647)))
    (.ex (.lm .append (.var 2) (.cons (.bop .mod (.bop .fdiv (.bop .mod (.bi .int (.cons (.bop .mul (.var 4) (.cst (.int 69621))) .nil)) (.cst (.int 2147483629))) (.cst (.int 7))) (.cst (.int 840))) .nil))
    .nil))
   .nil)
  (.ret (.var 2))))))⟩
def c__law_word : Fn := ⟨3, 1,
  (.asg (.var 1) (.cst (.str "abcdefghijklmnopqrstuvwxyz"))
  (.asg (.var 2) (.ix (.var 1) (.bop .mod (.var 0) (.cst (.int 26))))
  (.iff (.cmp .gt (.bop .mod (.bop .fdiv (.var 0) (.cst (.int 26))) (.cst (.int 3))) (.cst (.int 0)))
   (.asg (.var 2) (.fz (.bop .add (.var 2) (.ix (.var 1) (.bop .mod (.bop .fdiv (.var 0) (.cst (.int 3))) (.cst (.int 26))))))
   .nil)
   .nil
  (.iff (.cmp .eq (.bop .mod (.bop .fdiv (.var 0) (.cst (.int 26))) (.cst (.int 3))) (.cst (.int 2)))
   (.asg (.var 2) (.fz (.bop .add (.fz (.bop .add (.fz (.bop .add (.var 2) (.ix (.var 1) (.bop .mod (.bop .fdiv (.var 0) (.cst (.int 5))) (.cst (.int 26)))))) (.ix (.var 1) (.bop .mod (.bop .fdiv (.var 0) (.cst (.int 11))) (.cst (.int 26)))))) (.ix (.var 1) (.bop .mod (.bop .fdiv (.var 0) (.cst (.int 2))) (.cst (.int 26))))))
   .nil)
   .nil
  (.ret (.var 2))))))⟩
def c__law_words : Fn := ⟨5, 1,
  (.asg (.var 1) (.lst .nil)
  (.for (.var 2) (.rng1 (.ix (.fz (.lst (.cons (.cst (.int 1)) (.cons (.cst (.int 2)) (.cons (.cst (.int 1)) (.cons (.cst (.int 2)) (.cons (.cst (.int 1)) (.cons (.cst (.int 2)) (.cons (.cst (.int 3)) (.cons (.cst (.int 4)) .nil)))))))))) (.bop .mod (.ix (.var 0) (.cst (.int 3))) (.cst (.int 8)))))
   (.asg (.var 3) (.fz (.call F__law_word (.cons (.ix (.var 0) (.var 2)) .nil)))
   (.for (.var 4) (.rng1 (.cst (.int 4)))
    (.iff (.cmp .isin (.var 3) (.var 1))
     (.asg (.var 3) (.fz (.bop .add (.var 3) (.cst (.str "q"))))
     .nil)
     .nil
    .nil)
   (.ex (.lm .append (.var 1) (.cons (.var 3) .nil))
   .nil)))
  (.ret (.bi .tuple (.cons (.var 1) .nil)))))⟩
def c__law_sources : Fn := ⟨6, 3,
  (.asg (.var 3) (.fz (.bi .listR1 (.cons (.var 0) .nil)))
  (.for (.var 4) (.rng1 (.bop .sub (.var 0) (.var 1)))
   (.asg (.var 5) (.bop .mod (.bop .fdiv (.var 2) (.bop .add (.cst (.int 1)) (.bop .mul (.cst (.int 5)) (.var 4)))) (.bi .len (.cons (.var 3) .nil)))
   (.asg (.var 3) (.fz (.bop .add (.fz (.sl (.var 3) .none (.some (.var 5)))) (.fz (.sl (.var 3) (.some (.bop .add (.var 5) (.cst (.int 1)))) .none))))
   .nil))
  (.ret (.bi .tuple (.cons (.var 3) .nil)))))⟩
def c__law_outputs : Fn := ⟨7, 4,
  (.asg (.var 4) (.lst .nil)
  (.for (.var 5) (.rng1 (.ix (.fz (.lst (.cons (.cst (.int 0)) (.cons (.cst (.int 1)) (.cons (.cst (.int 1)) (.cons (.cst (.int 0)) (.cons (.cst (.int 2)) (.cons (.cst (.int 3)) .nil)))))))) (.bop .mod (.var 2) (.cst (.int 6)))))
   (.asg (.var 6) (.ix (.var 0) (.bop .mod (.bop .fdiv (.var 2) (.bop .add (.cst (.int 6)) (.bop .mul (.cst (.int 2)) (.var 5)))) (.bi .len (.cons (.var 0) .nil))))
   (.ex (.lm .append (.var 4) (.cons (.tup (.cons (.ix (.var 6) (.cst (.int 0))) (.cons (.ix (.ix (.var 6) (.cst (.int 1))) (.bop .mod (.bop .fdiv (.var 2) (.bop .add (.cst (.int 10)) (.var 5))) (.bi .len (.cons (.ix (.var 6) (.cst (.int 1))) .nil)))) (.cons (.bop .mod (.fz (.bop .add (.var 3) (.var 5))) (.var 1)) .nil)))) .nil))
   .nil))
  (.ret (.bi .tuple (.cons (.var 4) .nil)))))⟩
def c__law_keys : Fn := ⟨6, 2,
  (.asg (.var 2) (.fz (.lst .nil))
  (.for (.var 3) (.rng1 (.bi .len (.cons (.var 1) .nil)))
   (.for (.var 4) (.seq (.var 0))
    (.asg (.var 2) (.fz (.bop .add (.var 2) (.fz (.comp (.tup (.cons (.var 3) (.cons (.var 4) (.cons (.var 5) .nil)))) [5] (.var 5) (.rng1 (.bop .add (.bop .mul (.cst (.int 2)) (.ix (.var 1) (.var 3))) (.cst (.int 1)))) .none))))
    .nil)
   .nil)
  (.ret (.var 2))))⟩
def c__law_program : Fn := ⟨13, 2,
  (.asg (.var 2) (.fz (.call F__law_row (.cons (.var 0) (.cons (.cst (.int 220)) .nil))))
  (.asg (.var 3) (.fz (.sl (.tup (.cons (.cst (.int 0)) (.cons (.bop .mod (.ix (.var 2) (.cst (.int 0))) (.cst (.int 3))) (.cons (.bop .mod (.ix (.var 2) (.cst (.int 1))) (.cst (.int 3))) .nil)))) .none (.some (.bop .add (.cst (.int 1)) (.bop .mod (.ix (.var 2) (.cst (.int 2))) (.ix (.fz (.lst (.cons (.cst (.int 3)) (.cons (.cst (.int 2)) (.cons (.cst (.int 2)) (.cons (.cst (.int 1)) .nil)))))) (.bop .sub (.bi .len (.cons (.var 1) .nil)) (.cst (.int 1)))))))))
  (.iff (.cmp .eq (.bop .mod (.ix (.var 2) (.cst (.int 1))) (.cst (.int 9))) (.cst (.int 8)))
   (.asg (.var 3) (.fz (.sl (.tup (.cons (.cst (.int 0)) (.cons (.cst (.int 1)) (.cons (.cst (.int 2)) (.cons (.cst (.int 3)) (.cons (.cst (.int 4)) .nil)))))) .none (.some (.ix (.fz (.lst (.cons (.bop .add (.cst (.int 4)) (.bop .mod (.ix (.var 2) (.cst (.int 0))) (.cst (.int 2)))) (.cons (.cst (.int 3)) .nil)))) (.bop .fdiv (.bi .len (.cons (.var 1) .nil)) (.cst (.int 3)))))))
   .nil)
   .nil
  (.asg (.var 4) (.fz (.sl (.fz (.lst (.cons (.tup (.cons (.cst (.str "out")) (.cons (.fz (.call F__law_words (.cons (.fz (.sl (.var 2) (.some (.cst (.int 210))) (.some (.cst (.int 214))))) .nil))) .nil))) (.cons (.tup (.cons (.ix (.fz (.lst (.cons (.cst (.str "more")) (.cons (.cst (.str "other")) (.cons (.cst (.str "ou")) (.cons (.cst (.str "oat")) (.cons (.cst (.str "tuo")) .nil))))))) (.bop .mod (.ix (.var 2) (.cst (.int 5))) (.cst (.int 5)))) (.cons (.fz (.call F__law_words (.cons (.fz (.sl (.var 2) (.some (.cst (.int 214))) (.some (.cst (.int 218))))) .nil))) .nil))) .nil)))) .none (.some (.bop .add (.cst (.int 1)) (.bop .mod (.ix (.var 2) (.cst (.int 3))) (.cst (.int 2)))))))
  (.asg (.var 5) (.lst .nil)
  (.for (.var 6) (.seq (.fz (.call F__law_keys (.cons (.var 1) (.cons (.var 3) .nil)))))
   (.asg (.var 7) (.fz (.sl (.var 2) (.some (.bop .add (.cst (.int 4)) (.bop .mul (.cst (.int 4)) (.bi .len (.cons (.var 5) .nil))))) (.some (.bop .add (.cst (.int 8)) (.bop .mul (.cst (.int 4)) (.bi .len (.cons (.var 5) .nil)))))))
   (.asg (.var 8) (.bop .sub (.bop .add (.ix (.var 3) (.ix (.var 6) (.cst (.int 0)))) (.cst (.int 1))) (.bop .mod (.ix (.var 6) (.cst (.int 2))) (.cst (.int 2))))
   (.asg (.var 9) (.fz (.comp (.var 12) [12] (.var 12) (.rng1 (.bi .len (.cons (.var 3) .nil))) (.some (.cmp .le (.ix (.var 3) (.var 12)) (.var 8)))))
   (.asg (.var 10) (.ix (.var 9) (.bop .mod (.ix (.var 7) (.cst (.int 0))) (.bi .len (.cons (.var 9) .nil))))
   (.asg (.var 11) (.tup .nil)
   (.iff (.cmp .gt (.var 8) (.cst (.int 0)))
    (.asg (.var 11) (.fz (.call F__law_outputs (.cons (.var 4) (.cons (.var 8) (.cons (.ix (.var 7) (.cst (.int 2))) (.cons (.ix (.var 7) (.cst (.int 3))) .nil))))))
    .nil)
    .nil
   (.ex (.lm .append (.var 5) (.cons (.fz (.bop .add (.var 6) (.tup (.cons (.var 10) (.cons (.fz (.call F__law_sources (.cons (.var 8) (.cons (.ix (.var 3) (.var 10)) (.cons (.ix (.var 7) (.cst (.int 1))) .nil))))) (.cons (.var 11) .nil)))))) .nil))
   .nil)))))))
  (.ret (.fz (.lst (.cons (.var 1) (.cons (.bi .tuple (.cons (.var 4) .nil)) (.cons (.var 3) (.cons (.bi .tuple (.cons (.var 5) .nil)) .nil)))))))))))))⟩
def c__law_chain_plan : Fn := ⟨6, 1,
  (.asg (.var 1) (.fz (.call F__law_row (.cons (.fz (.call F__law_cell (.cons (.var 0) (.cons (.cst (.int 0)) .nil)))) (.cons (.cst (.int 8)) .nil))))
  (.asg (.var 2) (.lst (.cons (.fz (.call F__law_program (.cons (.fz (.call F__law_cell (.cons (.var 0) (.cons (.cst (.int 1)) .nil)))) (.cons (.fz (.call F__law_words (.cons (.fz (.sl (.var 1) .none (.some (.cst (.int 4))))) .nil))) .nil)))) .nil))
  (.asg (.var 3) (.lst .nil)
  (.for (.var 4) (.rng1 (.bop .mod (.ix (.var 1) (.cst (.int 4))) (.cst (.int 3))))
   (.asg (.var 5) (.ix (.ix (.ix (.var 2) (.neg (.cst (.int 1)))) (.cst (.int 1))) (.bop .mod (.ix (.var 1) (.bop .add (.cst (.int 5)) (.var 4))) (.bi .len (.cons (.ix (.ix (.var 2) (.neg (.cst (.int 1)))) (.cst (.int 1))) .nil))))
   (.ex (.lm .append (.var 3) (.cons (.ix (.var 5) (.cst (.int 0))) .nil))
   (.ex (.lm .append (.var 2) (.cons (.fz (.call F__law_program (.cons (.bop .add (.bop .fdiv (.fz (.call F__law_cell (.cons (.var 0) (.cons (.cst (.int 2)) .nil)))) (.bop .add (.cst (.int 1)) (.var 4))) (.bop .mul (.cst (.int 3)) (.var 4))) (.cons (.ix (.var 5) (.cst (.int 1))) .nil)))) .nil))
   .nil)))
  (.ret (.fz (.lst (.cons (.var 2) (.cons (.var 3) .nil)))))))))⟩
def c__law_chain : Fn := ⟨3, 1,
  (.asg (.var 1) (.fz (.comp (.fz (.make 0 F_Program_init (.cons (.fz (.bi .list (.cons (.ix (.var 2) (.cst (.int 0))) .nil))) (.cons (.fz (.bi .list (.cons (.ix (.var 2) (.cst (.int 1))) .nil))) (.cons (.fz (.bi .list (.cons (.ix (.var 2) (.cst (.int 2))) .nil))) (.cons (.fz (.rev (.fz (.bi .list (.cons (.ix (.var 2) (.cst (.int 3))) .nil))))) .nil)))) [])) [2] (.var 2) (.seq (.ix (.var 0) (.cst (.int 0)))) .none))
  (.ret (.fz (.make 1 F_Chain_init (.cons (.var 1) (.cons (.fz (.bi .list (.cons (.ix (.var 0) (.cst (.int 1))) .nil))) .nil)) []))))⟩
def c__law_position : Fn := ⟨4, 2,
  (.asg (.var 2) (.bi .len (.cons (.fz (.comp (.var 3) [3] (.var 3) (.seq (.var 1)) (.some (.cmp .lt (.var 3) (.var 0))))) .nil))
  (.ret (.bop .add (.bop .mul (.cst (.int 2)) (.var 2)) (.bi .len (.cons (.fz (.comp (.var 3) [3] (.var 3) (.seq (.var 1)) (.some (.cmp .eq (.var 3) (.var 0))))) .nil)))))⟩
def c__law_step : Fn := ⟨9, 3,
  (.asg (.var 3) (.fz (.call F__law_position (.cons (.ix (.var 2) (.cst (.int 1))) (.cons (.ix (.var 1) (.cst (.int 1))) .nil))))
  (.asg (.var 4) (.fz (.bi .sorted (.cons (.fz (.bop .add (.fz (.bi .list (.cons (.ix (.var 1) (.cst (.int 1))) .nil))) (.fz (.sl (.fz (.lst (.cons (.ix (.var 2) (.cst (.int 1))) .nil))) .none (.some (.bop .sub (.cst (.int 1)) (.bop .mod (.var 3) (.cst (.int 2))))))))) .nil)))
  (.for (.var 5) (.seq (.ix (.var 0) (.cst (.int 3))))
   (.iff (.and (.cmp .eq (.ix (.var 5) (.cst (.int 0))) (.ix (.var 1) (.cst (.int 0)))) (.and (.cmp .eq (.ix (.var 5) (.cst (.int 1))) (.ix (.var 2) (.cst (.int 0)))) (.cmp .eq (.ix (.var 5) (.cst (.int 2))) (.var 3))))
    (.asg (.var 6) (.bi .tuple (.cons (.fz (.comp (.tup (.cons (.ix (.var 7) (.cst (.int 0))) (.cons (.ix (.var 7) (.cst (.int 1))) (.cons (.ix (.var 4) (.ix (.var 7) (.cst (.int 2)))) .nil)))) [7] (.var 7) (.seq (.ix (.var 5) (.cst (.int 5)))) .none)) .nil))
    (.ret (.fz (.lst (.cons (.tup (.cons (.ix (.var 5) (.cst (.int 3))) (.cons (.bi .tuple (.cons (.fz (.comp (.ix (.var 4) (.var 8)) [8] (.var 8) (.seq (.ix (.var 5) (.cst (.int 4)))) .none)) .nil)) .nil))) (.cons (.var 6) .nil))))))
    .nil
   .nil)
  (.ret (.fz (.lst (.cons (.var 1) (.cons (.tup .nil) .nil))))))))⟩
def c__law_chain_step : Fn := ⟨12, 3,
  (.asg (.var 3) (.fz (.lst (.cons (.var 2) .nil)))
  (.asg (.var 4) (.lst .nil)
  (.asg (.var 5) (.lst .nil)
  (.for (.var 6) (.rng1 (.bi .len (.cons (.ix (.var 0) (.cst (.int 0))) .nil)))
   (.asg (.var 7) (.ix (.var 1) (.var 6))
   (.asg (.var 8) (.tup .nil)
   (.for (.var 9) (.seq (.var 3))
    (.asg (.tup (.cons (.var 7) (.cons (.var 10) .nil))) (.fz (.call F__law_step (.cons (.ix (.ix (.var 0) (.cst (.int 0))) (.var 6)) (.cons (.var 7) (.cons (.var 9) .nil)))))
    (.asg (.var 8) (.fz (.bop .add (.var 8) (.var 10)))
    .nil))
   (.ex (.lm .append (.var 4) (.cons (.var 7) .nil))
   (.ex (.lm .append (.var 5) (.cons (.tup (.cons (.ix (.var 7) (.cst (.int 0))) (.cons (.ix (.var 7) (.cst (.int 1))) (.cons (.var 8) .nil)))) .nil))
   (.iff (.cmp .lt (.var 6) (.bi .len (.cons (.ix (.var 0) (.cst (.int 1))) .nil)))
    (.asg (.var 3) (.fz (.comp (.tup (.cons (.ix (.var 11) (.cst (.int 1))) (.cons (.ix (.var 11) (.cst (.int 2))) .nil))) [11] (.var 11) (.seq (.var 8)) (.some (.cmp .eq (.ix (.var 11) (.cst (.int 0))) (.ix (.ix (.var 0) (.cst (.int 1))) (.var 6))))))
    .nil)
    .nil
   .nil))))))
  (.ret (.fz (.lst (.cons (.bi .tuple (.cons (.var 4) .nil)) (.cons (.bi .tuple (.cons (.var 5) .nil)) .nil)))))))))⟩
def c__law_deed : Fn := ⟨6, 3,
  (.asg (.var 3) (.lst .nil)
  (.for (.var 4) (.seq (.var 2))
   (.asg (.tup (.cons (.var 1) (.cons (.var 5) .nil))) (.fz (.call F__law_chain_step (.cons (.var 0) (.cons (.var 1) (.cons (.var 4) .nil)))))
   (.ex (.lm .append (.var 3) (.cons (.var 5) .nil))
   .nil))
  (.ret (.fz (.lst (.cons (.var 3) (.cons (.var 1) .nil)))))))⟩
def c__law_start : Fn := ⟨2, 1,
  (.ret (.bi .tuple (.cons (.fz (.comp (.tup (.cons (.cst (.int 0)) (.cons (.tup .nil) .nil))) [1] (.var 1) (.seq (.ix (.var 0) (.cst (.int 0)))) .none)) .nil)))⟩
def c__law_input : Fn := ⟨7, 3,
  (.asg (.var 3) (.lst .nil)
  (.asg (.var 4) (.ix (.ix (.ix (.var 0) (.cst (.int 0))) (.cst (.int 0))) (.cst (.int 0)))
  (.for (.var 5) (.seq (.fz (.call F__law_row (.cons (.var 1) (.cons (.var 2) .nil)))))
   (.ex (.lm .append (.var 3) (.cons (.tup (.cons (.ix (.var 4) (.bop .mod (.var 5) (.bi .len (.cons (.var 4) .nil)))) (.cons (.bop .sub (.bop .mod (.bop .fdiv (.var 5) (.cst (.int 4))) (.ix (.fz (.lst (.cons (.cst (.int 6)) (.cons (.cst (.int 200)) .nil)))) (.bi .int (.cons (.cmp .eq (.bop .mod (.bi .int (.cons (.var 1) .nil)) (.cst (.int 5))) (.cst (.int 1))) .nil)))) (.cst (.int 2))) .nil))) .nil))
   .nil)
  (.iff (.cmp .eq (.bop .mod (.bi .int (.cons (.var 1) .nil)) (.cst (.int 3))) (.cst (.int 0)))
   (.asg (.var 3) (.fz (.comp (.tup (.cons (.ix (.var 6) (.cst (.int 0))) (.cons (.bop .add (.bop .mul (.ix (.var 6) (.cst (.int 1))) (.cst (.int 1000003))) (.cst (.int 17))) .nil))) [6] (.var 6) (.seq (.var 3)) .none))
   .nil)
   .nil
  (.ret (.var 3))))))⟩
def c__law_beginning : Fn := ⟨9, 2,
  (.asg (.var 2) (.fz (.call F__law_row (.cons (.var 1) (.cons (.cst (.int 24)) .nil))))
  (.asg (.var 3) (.lst .nil)
  (.for (.var 4) (.rng1 (.bi .len (.cons (.ix (.var 0) (.cst (.int 0))) .nil)))
   (.asg (.var 5) (.ix (.ix (.ix (.var 0) (.cst (.int 0))) (.var 4)) (.cst (.int 2)))
   (.asg (.var 6) (.bop .mod (.ix (.var 2) (.bop .mul (.cst (.int 8)) (.var 4))) (.bi .len (.cons (.var 5) .nil)))
   (.asg (.var 7) (.lst .nil)
   (.for (.var 8) (.rng1 (.ix (.var 5) (.var 6)))
    (.ex (.lm .append (.var 7) (.cons (.bop .add (.bop .sub (.bop .mod (.ix (.var 2) (.bop .add (.bop .add (.bop .mul (.cst (.int 8)) (.var 4)) (.cst (.int 1))) (.var 8))) (.cst (.int 5))) (.cst (.int 2))) (.bop .mul (.cst (.int 7)) (.var 8))) .nil))
    .nil)
   (.ex (.lm .append (.var 3) (.cons (.tup (.cons (.var 6) (.cons (.bi .tuple (.cons (.var 7) .nil)) .nil))) .nil))
   .nil)))))
  (.ret (.bi .tuple (.cons (.var 3) .nil))))))⟩
def c__law_alone : Fn := ⟨9, 5,
  (.asg (.var 5) (.fz (.make 1 F_Chain_init (.cons (.fz (.lst (.cons (.ix (.fld (.var 1) 4) (.var 4)) .nil))) .nil) [.tup []]))
  (.asg (.var 6) (.fz (.call F_written (.cons (.var 3) (.cons (.bop .sub (.var 4) (.cst (.int 1))) (.cons (.ix (.ix (.var 0) (.cst (.int 1))) (.bop .sub (.var 4) (.cst (.int 1)))) .nil)))))
  (.asg (.var 7) (.fz (.call F_deed_from (.cons (.var 5) (.cons (.tup (.cons (.ix (.var 2) (.var 4)) .nil)) (.cons (.var 6) .nil)))))
  (.for (.var 8) (.seq (.ix (.ix (.ix (.var 0) (.cst (.int 0))) (.var 4)) (.cst (.int 1))))
   (.iff (.cmp .ne (.fz (.call F_written (.cons (.var 7) (.cons (.cst (.int 0)) (.cons (.ix (.var 8) (.cst (.int 0))) .nil))))) (.fz (.call F_written (.cons (.var 3) (.cons (.var 4) (.cons (.ix (.var 8) (.cst (.int 0))) .nil))))))
    (.ret (.cst (.bl false)))
    .nil
   .nil)
  (.iff (.cmp .eq (.bi .len (.cons (.var 7) .nil)) (.cst (.int 0)))
   (.ret (.cmp .eq (.ix (.fz (.call F_after_deed (.cons (.var 3) .nil))) (.var 4)) (.ix (.var 2) (.var 4))))
   .nil
  (.ret (.cmp .eq (.ix (.fz (.call F_after_deed (.cons (.var 7) .nil))) (.cst (.int 0))) (.ix (.fz (.call F_after_deed (.cons (.var 3) .nil))) (.var 4)))))))))⟩
def c_law : Fn := ⟨11, 1,
  (.asg (.var 1) (.fz (.call F__law_chain_plan (.cons (.var 0) .nil)))
  (.asg (.var 2) (.fz (.call F__law_chain (.cons (.var 1) .nil)))
  (.for (.var 3) (.seq (.fz (.bop .add (.fz (.lst (.cons (.fz (.call F__law_cell (.cons (.var 0) (.cons (.cst (.int 3)) .nil)))) (.cons (.fz (.call F__law_cell (.cons (.var 0) (.cons (.cst (.int 4)) .nil)))) .nil)))) (.fz (.sl (.var 0) (.some (.cst (.int 5))) (.some (.cst (.int 8))))))))
   (.asg (.var 4) (.fz (.call F__law_beginning (.cons (.var 1) (.cons (.var 3) .nil))))
   (.asg (.var 5) (.fz (.call F__law_input (.cons (.var 1) (.cons (.bop .fdiv (.var 3) (.cst (.int 3))) (.cons (.bop .mod (.bop .fdiv (.var 3) (.cst (.int 9))) (.cst (.int 60))) .nil)))))
   (.asg (.var 6) (.fz (.call F_deed_from (.cons (.var 2) (.cons (.var 4) (.cons (.var 5) .nil)))))
   (.asg (.var 7) (.bop .mod (.bop .fdiv (.var 3) (.cst (.int 540))) (.bop .add (.bi .len (.cons (.var 5) .nil)) (.cst (.int 1))))
   (.asg (.var 8) (.fz (.call F_deed_from (.cons (.var 2) (.cons (.var 4) (.cons (.fz (.sl (.var 5) .none (.some (.var 7)))) .nil)))))
   (.asg (.var 9) (.var 4)
   (.iff (.cmp .gt (.var 7) (.cst (.int 0)))
    (.asg (.var 9) (.fz (.call F_after_deed (.cons (.var 8) .nil)))
    .nil)
    .nil
   (.iff (.cmp .ne (.fz (.bop .add (.var 8) (.fz (.call F_deed_from (.cons (.var 2) (.cons (.var 9) (.cons (.fz (.sl (.var 5) (.some (.var 7)) .none)) .nil))))))) (.var 6))
    (.ret (.cst (.bl false)))
    .nil
   (.for (.var 10) (.rng2 (.cst (.int 1)) (.bi .len (.cons (.ix (.var 1) (.cst (.int 0))) .nil)))
    (.iff (.and (.cmp .gt (.bi .len (.cons (.var 5) .nil)) (.cst (.int 0))) (.not (.fz (.call F__law_alone (.cons (.var 1) (.cons (.var 2) (.cons (.var 4) (.cons (.var 6) (.cons (.var 10) .nil)))))))))
     (.ret (.cst (.bl false)))
     .nil
    .nil)
   .nil)))))))))
  (.ret (.cst (.bl true))))))⟩
def topS (i : Nat) : PySem.Stmt := PySem.Challenge.pw_piecetold_k06_whole_runs_in_parts.main.body.getD i (.Pass ⟨0, 0, 0, 0⟩)
def defs : List DfI := [⟨"is_integer", "is_integer", ["value", "least", "most"], ["value", "least", "most"], topS 11, c_is_integer, none, false⟩,
  ⟨"is_word", "is_word", ["value", "sign"], ["value"], topS 12, c_is_word, none, false⟩,
  ⟨"are_words", "are_words", ["values", "most", "k", "value"], ["values", "most"], topS 13, c_are_words, none, false⟩,
  ⟨"are_rows", "are_rows", ["values", "size", "value"], ["values", "size"], topS 14, c_are_rows, none, false⟩,
  ⟨"frozen", "frozen", ["value", "part"], ["value"], topS 15, c_frozen, none, false⟩,
  ⟨"keys_of", "keys_of", ["names", "states", "keys", "state", "count", "name", "position"], ["names", "states"], topS 16, c_keys_of, none, false⟩,
  ⟨"is_ascending", "is_ascending", ["values", "k"], ["values"], topS 17, c_is_ascending, none, false⟩,
  ⟨"is_output", "is_output", ["channels", "output", "known", "channel", "signals"], ["channels", "output", "known"], topS 18, c_is_output, none, false⟩,
  ⟨"is_rule", "is_rule", ["channels", "states", "rule", "known", "state", "name", "position", "target", "sources", "outputs", "output", "source"], ["channels", "states", "rule"], topS 19, c_is_rule, none, false⟩,
  ⟨"__init__", "Program.__init__", ["self", "names", "channels", "states", "rules", "rows", "keys", "table", "row", "key", "pair", "count"], ["self", "names", "channels", "states", "rules"], subS (topS 20) 0, c_Program_init, some "Program", false⟩,
  ⟨"position_of", "position_of", ["integer", "kept", "less", "value"], ["integer", "kept"], topS 21, c_position_of, none, false⟩,
  ⟨"rule_of", "rule_of", ["program", "state", "name", "position", "at", "count"], ["program", "state", "name", "position"], topS 22, c_rule_of, none, false⟩,
  ⟨"step", "step", ["program", "configuration", "message", "rule", "known", "output", "state", "kept", "name", "integer", "channel", "signal", "index"], ["program", "configuration", "message"], topS 23, c_step, none, false⟩,
  ⟨"__init__", "Chain.__init__", ["self", "programs", "links", "k", "link", "program"], ["self", "programs", "links"], subS (topS 25) 0, c_Chain_init, some "Chain", true⟩,
  ⟨"names_of", "names_of", ["chain"], ["chain"], topS 26, c_names_of, none, false⟩,
  ⟨"is_kept", "is_kept", ["program", "value", "n"], ["program", "value"], topS 27, c_is_kept, none, false⟩,
  ⟨"is_beginning", "is_beginning", ["chain", "value", "program", "place"], ["chain", "value"], topS 28, c_is_beginning, none, false⟩,
  ⟨"check_input", "check_input", ["chain", "messages", "rows", "row"], ["chain", "messages"], topS 29, c_check_input, none, false⟩,
  ⟨"is_message", "is_message", ["chain", "value"], ["chain", "value"], topS 30, c_is_message, none, false⟩,
  ⟨"heard", "heard", ["program", "configuration", "messages", "output", "message", "some"], ["program", "configuration", "messages"], topS 31, c_heard, none, false⟩,
  ⟨"chain_step", "chain_step", ["chain", "beginning", "message", "messages", "places", "parts", "k", "program", "place", "output", "channel", "signal", "n"], ["chain", "beginning", "message"], topS 32, c_chain_step, none, false⟩,
  ⟨"deed_from", "deed_from", ["chain", "beginning", "messages", "place", "deed", "message", "part"], ["chain", "beginning", "messages"], topS 33, c_deed_from, none, false⟩,
  ⟨"after_deed", "after_deed", ["deed", "state", "kept", "output"], ["deed"], topS 34, c_after_deed, none, false⟩,
  ⟨"written", "written", ["deed", "program", "channel", "result", "part", "name", "signal", "integer"], ["deed", "program", "channel"], topS 35, c_written, none, false⟩,
  ⟨"_law_cell", "_law_cell", ["_law_script", "_law_k"], ["_law_script", "_law_k"], topS 37, c__law_cell, none, false⟩,
  ⟨"_law_row", "_law_row", ["_law_cell_here", "_law_count", "_law_row_here", "_law_rest", "_law_seed", "_law_k"], ["_law_cell_here", "_law_count"], topS 38, c__law_row, none, false⟩,
  ⟨"_law_word", "_law_word", ["_law_number", "_law_letters", "_law_word_here"], ["_law_number"], topS 39, c__law_word, none, false⟩,
  ⟨"_law_words", "_law_words", ["_law_row_here", "_law_words_here", "_law_k", "_law_word_here", "_law_turn"], ["_law_row_here"], topS 40, c__law_words, none, false⟩,
  ⟨"_law_sources", "_law_sources", ["_law_known", "_law_count", "_law_number", "_law_sources_here", "_law_k", "_law_at"], ["_law_known", "_law_count", "_law_number"], topS 41, c__law_sources, none, false⟩,
  ⟨"_law_outputs", "_law_outputs", ["_law_channels", "_law_known", "_law_number", "_law_more", "_law_outputs_here", "_law_k", "_law_channel"], ["_law_channels", "_law_known", "_law_number", "_law_more"], topS 42, c__law_outputs, none, false⟩,
  ⟨"_law_keys", "_law_keys", ["_law_names", "_law_states", "_law_keys_here", "_law_state", "_law_name", "_law_position_here"], ["_law_names", "_law_states"], topS 43, c__law_keys, none, false⟩,
  ⟨"_law_program", "_law_program", ["_law_cell_here", "_law_names", "_law_row_here", "_law_states", "_law_channels", "_law_rules", "_law_key", "_law_digits", "_law_known", "_law_targets", "_law_target", "_law_outputs_here", "_law_k"], ["_law_cell_here", "_law_names"], topS 44, c__law_program, none, false⟩,
  ⟨"_law_chain_plan", "_law_chain_plan", ["_law_script", "_law_row_here", "_law_plans", "_law_links", "_law_k", "_law_channel"], ["_law_script"], topS 45, c__law_chain_plan, none, false⟩,
  ⟨"_law_chain", "_law_chain", ["_law_plan", "_law_programs", "_law_one"], ["_law_plan"], topS 46, c__law_chain, none, false⟩,
  ⟨"_law_position", "_law_position", ["_law_number", "_law_kept", "_law_less", "_law_value"], ["_law_number", "_law_kept"], topS 47, c__law_position, none, false⟩,
  ⟨"_law_step", "_law_step", ["_law_plan", "_law_place", "_law_message", "_law_position_here", "_law_known", "_law_rule", "_law_output", "_law_triple", "_law_k"], ["_law_plan", "_law_place", "_law_message"], topS 48, c__law_step, none, false⟩,
  ⟨"_law_chain_step", "_law_chain_step", ["_law_plan", "_law_places", "_law_message", "_law_heard", "_law_following", "_law_parts", "_law_k", "_law_place", "_law_output", "_law_one", "_law_some", "_law_triple"], ["_law_plan", "_law_places", "_law_message"], topS 49, c__law_chain_step, none, false⟩,
  ⟨"_law_deed", "_law_deed", ["_law_plan", "_law_places", "_law_messages", "_law_deed_here", "_law_message", "_law_part"], ["_law_plan", "_law_places", "_law_messages"], topS 50, c__law_deed, none, false⟩,
  ⟨"_law_start", "_law_start", ["_law_plan", "_law_one"], ["_law_plan"], topS 51, c__law_start, none, false⟩,
  ⟨"_law_input", "_law_input", ["_law_plan", "_law_cell_here", "_law_size", "_law_messages", "_law_names", "_law_number", "_law_message"], ["_law_plan", "_law_cell_here", "_law_size"], topS 52, c__law_input, none, false⟩,
  ⟨"_law_beginning", "_law_beginning", ["_law_plan", "_law_cell_here", "_law_row_here", "_law_places", "_law_k", "_law_states", "_law_state", "_law_kept", "_law_at"], ["_law_plan", "_law_cell_here"], topS 53, c__law_beginning, none, false⟩,
  ⟨"_law_alone", "_law_alone", ["_law_plan", "_law_chain_here", "_law_places", "_law_deed_here", "_law_k", "_law_alone_here", "_law_heard", "_law_told", "_law_channel"], ["_law_plan", "_law_chain_here", "_law_places", "_law_deed_here", "_law_k"], topS 54, c__law_alone, none, false⟩,
  ⟨"law", "law", ["_law_script", "_law_plan", "_law_chain_here", "_law_cell_here", "_law_places", "_law_messages", "_law_deed_here", "_law_at", "_law_first", "_law_behind", "_law_k"], ["_law_script"], topS 55, c_law, none, false⟩]
def gx : Gx := ⟨[(("is_integer" : PySem.Str), 0), (("is_word" : PySem.Str), 1), (("are_words" : PySem.Str), 2), (("are_rows" : PySem.Str), 3), (("frozen" : PySem.Str), 4), (("keys_of" : PySem.Str), 5), (("is_ascending" : PySem.Str), 6), (("is_output" : PySem.Str), 7), (("is_rule" : PySem.Str), 8), (("position_of" : PySem.Str), 10), (("rule_of" : PySem.Str), 11), (("step" : PySem.Str), 12), (("names_of" : PySem.Str), 14), (("is_kept" : PySem.Str), 15), (("is_beginning" : PySem.Str), 16), (("check_input" : PySem.Str), 17), (("is_message" : PySem.Str), 18), (("heard" : PySem.Str), 19), (("chain_step" : PySem.Str), 20), (("deed_from" : PySem.Str), 21), (("after_deed" : PySem.Str), 22), (("written" : PySem.Str), 23), (("_law_cell" : PySem.Str), 24), (("_law_row" : PySem.Str), 25), (("_law_word" : PySem.Str), 26), (("_law_words" : PySem.Str), 27), (("_law_sources" : PySem.Str), 28), (("_law_outputs" : PySem.Str), 29), (("_law_keys" : PySem.Str), 30), (("_law_program" : PySem.Str), 31), (("_law_chain_plan" : PySem.Str), 32), (("_law_chain" : PySem.Str), 33), (("_law_position" : PySem.Str), 34), (("_law_step" : PySem.Str), 35), (("_law_chain_step" : PySem.Str), 36), (("_law_deed" : PySem.Str), 37), (("_law_start" : PySem.Str), 38), (("_law_input" : PySem.Str), 39), (("_law_beginning" : PySem.Str), 40), (("_law_alone" : PySem.Str), 41), (("law" : PySem.Str), 42)], ["all", "any", "bool", "enumerate", "int", "isinstance", "len", "list", "range", "sorted", "str", "tuple", "zip"], [("Program", 0), ("Chain", 1)], ["names", "channels", "states", "rules", "programs", "links"], [("LETTERS", .str "abcdefghijklmnopqrstuvwxyz"), ("MOST_STATES", .int 10), ("MOST_KEPT", .int 4), ("MOST_OUTPUTS", .int 3)], [(0, 9), (1, 13)], [13]⟩

end K06
end
section
namespace K06
open PySem PySem.Spec PyProof.Rows L2 PM
theorem checked : defs.all (·.ok gx 60 true) = true := by decide +kernel
theorem binds : BindsAll defs := ⟨fun _ _ _ _ _ _ us hl => match us, hl with | [_, _, _], _ => rfl, fun _ _ _ _ _ _ us hl => match us, hl with | [_], _ => rfl, fun _ _ _ _ _ _ us hl => match us, hl with | [_, _], _ => rfl, fun _ _ _ _ _ _ us hl => match us, hl with | [_, _], _ => rfl, fun _ _ _ _ _ _ us hl => match us, hl with | [_], _ => rfl, fun _ _ _ _ _ _ us hl => match us, hl with | [_, _], _ => rfl, fun _ _ _ _ _ _ us hl => match us, hl with | [_], _ => rfl, fun _ _ _ _ _ _ us hl => match us, hl with | [_, _, _], _ => rfl, fun _ _ _ _ _ _ us hl => match us, hl with | [_, _, _], _ => rfl, fun _ _ _ _ _ _ us hl => match us, hl with | [_, _, _, _, _], _ => rfl, fun _ _ _ _ _ _ us hl => match us, hl with | [_, _], _ => rfl, fun _ _ _ _ _ _ us hl => match us, hl with | [_, _, _, _], _ => rfl, fun _ _ _ _ _ _ us hl => match us, hl with | [_, _, _], _ => rfl, fun _ _ _ _ _ _ _ us its hi => match its, hi with | [_], _ => ⟨fun h => match us, h with | [_, _, _], _ => ⟨_, rfl, rfl⟩, fun h => match us, h with | [_, _], _ => ⟨_, rfl, rfl⟩⟩, fun _ _ _ _ _ _ us hl => match us, hl with | [_], _ => rfl, fun _ _ _ _ _ _ us hl => match us, hl with | [_, _], _ => rfl, fun _ _ _ _ _ _ us hl => match us, hl with | [_, _], _ => rfl, fun _ _ _ _ _ _ us hl => match us, hl with | [_, _], _ => rfl, fun _ _ _ _ _ _ us hl => match us, hl with | [_, _], _ => rfl, fun _ _ _ _ _ _ us hl => match us, hl with | [_, _, _], _ => rfl, fun _ _ _ _ _ _ us hl => match us, hl with | [_, _, _], _ => rfl, fun _ _ _ _ _ _ us hl => match us, hl with | [_, _, _], _ => rfl, fun _ _ _ _ _ _ us hl => match us, hl with | [_], _ => rfl, fun _ _ _ _ _ _ us hl => match us, hl with | [_, _, _], _ => rfl, fun _ _ _ _ _ _ us hl => match us, hl with | [_, _], _ => rfl, fun _ _ _ _ _ _ us hl => match us, hl with | [_, _], _ => rfl, fun _ _ _ _ _ _ us hl => match us, hl with | [_], _ => rfl, fun _ _ _ _ _ _ us hl => match us, hl with | [_], _ => rfl, fun _ _ _ _ _ _ us hl => match us, hl with | [_, _, _], _ => rfl, fun _ _ _ _ _ _ us hl => match us, hl with | [_, _, _, _], _ => rfl, fun _ _ _ _ _ _ us hl => match us, hl with | [_, _], _ => rfl, fun _ _ _ _ _ _ us hl => match us, hl with | [_, _], _ => rfl, fun _ _ _ _ _ _ us hl => match us, hl with | [_], _ => rfl, fun _ _ _ _ _ _ us hl => match us, hl with | [_], _ => rfl, fun _ _ _ _ _ _ us hl => match us, hl with | [_, _], _ => rfl, fun _ _ _ _ _ _ us hl => match us, hl with | [_, _, _], _ => rfl, fun _ _ _ _ _ _ us hl => match us, hl with | [_, _, _], _ => rfl, fun _ _ _ _ _ _ us hl => match us, hl with | [_, _, _], _ => rfl, fun _ _ _ _ _ _ us hl => match us, hl with | [_], _ => rfl, fun _ _ _ _ _ _ us hl => match us, hl with | [_, _, _], _ => rfl, fun _ _ _ _ _ _ us hl => match us, hl with | [_, _], _ => rfl, fun _ _ _ _ _ _ us hl => match us, hl with | [_, _, _, _, _], _ => rfl, fun _ _ _ _ _ _ us hl => match us, hl with | [_], _ => rfl, trivial⟩
abbrev R : PySem.W.OpenRow := PySem.W.OpenLaw.row PySem.Challenge.rw_piecetold_k06_whole_runs_in_parts
abbrev hk : PySem.W.Hook := PM.hookT 5 (faOf gx) (defs.map dfd) (xtD defs gx)
def ob (s : PySem.W.SharedT) : He.AlD × Bool := PM.obsT 5 (faOf gx) (defs.map dfd) (xtD defs gx) (HandSHeadRun.getT s)
theorem ob_eq (s : PySem.W.SharedT) : ob s = hk.obs s.abs := PM.obsT_eq (HandSHeadRun.getT_eq s)
abbrev loose : List Str := [("PieceError" : PySem.Str), ("InvalidProgram" : PySem.Str), ("InvalidChain" : PySem.Str), ("InvalidBeginning" : PySem.Str), ("InvalidInput" : PySem.Str), ("LETTERS" : PySem.Str), ("MOST_STATES" : PySem.Str), ("MOST_KEPT" : PySem.Str), ("MOST_OUTPUTS" : PySem.Str), ("is_integer" : PySem.Str), ("is_word" : PySem.Str), ("are_words" : PySem.Str), ("are_rows" : PySem.Str), ("frozen" : PySem.Str), ("keys_of" : PySem.Str), ("is_ascending" : PySem.Str), ("is_output" : PySem.Str), ("is_rule" : PySem.Str), ("Program" : PySem.Str), ("position_of" : PySem.Str), ("rule_of" : PySem.Str), ("step" : PySem.Str), ("Chain" : PySem.Str), ("names_of" : PySem.Str), ("is_kept" : PySem.Str), ("is_beginning" : PySem.Str), ("check_input" : PySem.Str), ("is_message" : PySem.Str), ("heard" : PySem.Str), ("chain_step" : PySem.Str), ("deed_from" : PySem.Str), ("after_deed" : PySem.Str), ("written" : PySem.Str), ("_law_cell" : PySem.Str), ("_law_row" : PySem.Str), ("_law_word" : PySem.Str), ("_law_words" : PySem.Str), ("_law_sources" : PySem.Str), ("_law_outputs" : PySem.Str), ("_law_keys" : PySem.Str), ("_law_program" : PySem.Str), ("_law_chain_plan" : PySem.Str), ("_law_chain" : PySem.Str), ("_law_position" : PySem.Str), ("_law_step" : PySem.Str), ("_law_chain_step" : PySem.Str), ("_law_deed" : PySem.Str), ("_law_start" : PySem.Str), ("_law_input" : PySem.Str), ("_law_beginning" : PySem.Str), ("_law_alone" : PySem.Str)]
theorem run (w : World) : HandSHeadRun.RunEq R (PySem.W.view R.prog [55]) hk ob 6000 loose w := by
  intro os
  kernel_rfl
end K06
end
section
open PySem PySem.W PySem.Calls PyProof.Rows
theorem K06.holds_of (A : PM.Answers K06.defs 30 42) : PySem.Challenge.rw_piecetold_k06_whole_runs_in_parts.Holds := by
  w_on; o_law
  refine HandSHeadRun.head_any (r := OpenLaw.row PySem.Challenge.rw_piecetold_k06_whole_runs_in_parts) (q := view (OpenLaw.row PySem.Challenge.rw_piecetold_k06_whole_runs_in_parts).prog [55]) (H := K06.hk) (ob := K06.ob) (M := 6000) (loose := K06.loose) (d := HandSHeadRun.topDef (OpenLaw.row PySem.Challenge.rw_piecetold_k06_whole_runs_in_parts).prog 55) (kwd := []) K06.ob_eq
    (by kernel_rfl) (fun s => by kernel_rfl) K06.run (by kernel_rfl) (by kernel_rfl) (by kernel_rfl) (by rfl) (by first | assumption | decide +kernel) (by decide +kernel) ⟨rfl, rfl, rfl, rfl, rfl, by decide +kernel⟩ ?hw ?hc
  case hw => w_witness2
  case hc =>
    refine LamX.walk_ofTsE (l := PySem.Challenge.rw_piecetold_k06_whole_runs_in_parts) (n := 63) (k := 120) (x := "_law_script") (CX := fun w => L2.CX PySem.Challenge.rw_piecetold_k06_whole_runs_in_parts.prog w) rfl (by decide) (by kernel_rfl) ⟨rfl, by decide, by decide⟩ ?F (fun _ _ _ _ _ h => by obtain ⟨_, _, _, _, _, _, _, _, _, _, _, _, z⟩ := h; exact z)
    intro w mg fa h Y G hmg0
    have hmg : mg ("law" : PySem.Str) = some (.ref fa) := by
      have e : (HandSHeadRun.topDef (OpenLaw.row PySem.Challenge.rw_piecetold_k06_whole_runs_in_parts).prog 55).name = ("law" : PySem.Str) := by kernel_rfl
      rw [← e]
      exact hmg0
    exact PM.law_endT (l := PySem.Challenge.rw_piecetold_k06_whole_runs_in_parts) (w := w) (d := K06.defs[42]'(by decide)) (k := 30) A Y G hmg K06.binds (by decide +kernel) K06.checked rfl (by decide +kernel) rfl rfl
end
section
namespace K06
open PySem PM
abbrev tab := tabOf defs
abbrev sub0 : Nat → Nat → Bool := fun _ _ => false
abbrev pf (k : Nat) : Nat → List PV → Option Out := (qrun tab sub0 k).1
abbrev pm (k : Nat) : Nat → Nat → List PV → Option Out := (qrun tab sub0 k).2
mutual
def fzn : PV → PV
  | .tup xs => .tup (fzns xs)
  | .lst xs => .tup (fzns xs)
  | .ro xs => .tup (fzns xs)
  | v => v
def fzns : List PV → List PV
  | [] => []
  | x :: xs => fzn x :: fzns xs
end
mutual
def dep : PV → Nat
  | .tup xs => deps xs + 1
  | .lst xs => deps xs + 1
  | .ro xs => deps xs + 1
  | _ => 0
def deps : List PV → Nat
  | [] => 0
  | x :: xs => max (dep x) (deps xs)
end
mutual
def wid : PV → Bool
  | .tup xs => decide (xs.length ≤ LIM) && wids xs
  | .lst xs => decide (xs.length ≤ LIM) && wids xs
  | .ro xs => decide (xs.length ≤ LIM) && wids xs
  | .loc _ => false
  | _ => true
def wids : List PV → Bool
  | [] => true
  | x :: xs => wid x && wids xs
end
theorem fzns_map : ∀ xs : List PV, fzns xs = xs.map fzn
  | [] => rfl
  | x :: xs => by simp [fzns, fzns_map xs]
theorem deps_le {x : PV} : ∀ {xs : List PV}, x ∈ xs → dep x ≤ deps xs
  | y :: ys, h => by
    rcases List.mem_cons.mp h with rfl | h
    · simp only [deps]; omega
    · have := deps_le h; simp only [deps]; omega
theorem wids_mem {x : PV} : ∀ {xs : List PV}, wids xs = true → x ∈ xs → wid x = true
  | y :: ys, hw, h => by
    simp only [wids, Bool.and_eq_true] at hw
    rcases List.mem_cons.mp h with rfl | h
    · exact hw.1
    · exact wids_mem hw.2 h
theorem wids_of : ∀ {xs : List PV}, (∀ x ∈ xs, wid x = true) → wids xs = true
  | [], _ => rfl
  | x :: xs, h => by simp [wids, h x List.mem_cons_self, wids_of fun y hy => h y (List.mem_cons_of_mem _ hy)]
theorem fz_atom (k : Nat) {v : PV} (h : isiV [] noCf v [.list, .tuple] = some false) : pf (k + 1) F_frozen [v] = some (.v v) := by
  refine pf_at (d := c_frozen) (r := .ret v) rfl rfl ?_ rfl
  simp [c_frozen, qstart, qx, qB, qe, qr, qv, QV.rd, h, truth, QR.seq, qret, outR]
theorem fz_seq (k : Nat) {v : PV} {xs : List PV} {g : PV → PV} (h : isiV [] noCf v [.list, .tuple] = some true) (hn : ∀ z, v ≠ .str z) (hs : seqOf [] v = some xs) (hl : xs.length ≤ LIM) (hg : ∀ x ∈ xs, pf k F_frozen [x] = some (.v (g x))) : pf (k + 1) F_frozen [v] = some (.v (.tup (xs.map g))) := by
  refine pf_at (d := c_frozen) (r := .ret (.tup (xs.map g))) rfl rfl ?_ rfl
  have ei : itemsQ v = some xs := by unfold itemsQ; split; exact absurd rfl (hn _); exact hs
  have e : qcomp (fun x => some ((qwipe [some (.v v), none] [1]).set 1 (some (.v x)))) (fun _ => some true) (qe (pf k) (pm k) (.fz (.call F_frozen (.cons (.var 1) .nil)))) xs = some (xs.map g) := qcomp_map fun x hx => ⟨[some (.v v), some (.v x)], by simp [qwipe], rfl, by simp [qe, qa, qes, hg x hx, outV]⟩
  have e1 : (qt (pf k) (pm k) (.var 1)) = fun v ρ => some (ρ.set 1 (some (.v v))) := by funext v ρ; simp [qt]
  have e2 : qb (pf k) (pm k) .none = fun _ => some true := by funext ρ; simp [qb]
  have e3 : qa (pf k) (pm k) (.comp (.fz (.call F_frozen (.cons (.var 1) .nil))) [1] (.var 1) (.seq (.var 0)) .none) [some (.v v), none] = some (.lst (xs.map g)) := by
    simp only [qa, qi, liveIt, List.getElem?_cons_zero]
    rw [show qe (pf k) (pm k) (.var 0) [some (.v v), none] = some v by simp [qe]]
    simp only [Option.bind_some, ei, if_pos hl, e1, e2, e, Option.map_some]
  have e4 : qe (pf k) (pm k) (.fz (.comp (.fz (.call F_frozen (.cons (.var 1) .nil))) [1] (.var 1) (.seq (.var 0)) .none)) [some (.v v), none] = some (.lst (xs.map g)) := by
    rw [qe]; exact e3
  simp [c_frozen, qstart, qx, qB, qr, qv, QV.rd, truth, QR.seq, qret, outR, qE]
  rw [show qe (pf k) (pm k) (.isi (.var 0) [.list, .tuple]) [some (.v v), none] = some (.bl true) by simp [qe, qr, qv, QV.rd, h]]
  simp only [Option.bind_some, truth, if_true]
  rw [show qe (pf k) (pm k) (.bi .tuple (.cons (.fz (.comp (.fz (.call F_frozen (.cons (.var 1) .nil))) [1] (.var 1) (.seq (.var 0)) .none)) .nil)) [some (.v v), none] = some (.tup (xs.map g)) by
    rw [qe, qrs]
    simp only [qr, qv, e4, Option.map_some, Option.bind_some, QV.rd]
    rw [qrs]
    simp [bqP, biV, b1, tupB, lstOf, Res.opt, okP]]
  rfl
theorem frozen_ok : ∀ (k : Nat) (v : PV), dep v ≤ k → wid v = true → pf (k + 1) F_frozen [v] = some (.v (fzn v))
  | k, .non, _, _ => fz_atom k rfl
  | k, .bl _, _, _ => fz_atom k rfl
  | k, .int _, _, _ => fz_atom k rfl
  | k, .str _, _, _ => fz_atom k rfl
  | k, .obj c _ _, _, _ => fz_atom k (by simp [isiV])
  | k, .loc _, _, h => by simp [wid] at h
  | 0, .tup xs, h, _ => by simp [dep] at h
  | 0, .lst xs, h, _ => by simp [dep] at h
  | 0, .ro xs, h, _ => by simp [dep] at h
  | k + 1, .tup xs, h, hw => by
    simp only [dep] at h
    simp only [wid, Bool.and_eq_true, decide_eq_true_eq] at hw
    rw [fzn, fzns_map]
    exact fz_seq (k + 1) rfl (fun _ z => by cases z) rfl hw.1 fun x hx => frozen_ok k x (by have := deps_le hx; omega) (wids_mem hw.2 hx)
  | k + 1, .lst xs, h, hw => by
    simp only [dep] at h
    simp only [wid, Bool.and_eq_true, decide_eq_true_eq] at hw
    rw [fzn, fzns_map]
    exact fz_seq (k + 1) rfl (fun _ z => by cases z) rfl hw.1 fun x hx => frozen_ok k x (by have := deps_le hx; omega) (wids_mem hw.2 hx)
  | k + 1, .ro xs, h, hw => by
    simp only [dep] at h
    simp only [wid, Bool.and_eq_true, decide_eq_true_eq] at hw
    rw [fzn, fzns_map]
    exact fz_seq (k + 1) rfl (fun _ z => by cases z) rfl hw.1 fun x hx => frozen_ok k x (by have := deps_le hx; omega) (wids_mem hw.2 hx)
end K06
end
section
namespace K06
open PySem PM
def sOk (x : Str) : Prop := PyData.canLay0 (.str x) = true
theorem eq_int (a b : Int) : eqS [] (.int a) (.int b) = some (decide (a = b)) := by
  simp [eqS, toD, toDw, SeqAt.shaped, PyData.canLay0, PyData.depth, PyData.eqv]
  by_cases h : a = b <;> simp [h]
theorem eq_str {a b : Str} (ha : sOk a) (hb : sOk b) : eqS [] (.str a) (.str b) = some (decide (a = b)) := by
  unfold sOk at ha hb
  simp [eqS, toD, toDw, SeqAt.shaped, PyData.depth, PyData.eqv, ha, hb]
  by_cases h : a = b <;> simp [h]
theorem dws_ints : ∀ xs : List Int, toDws (toDL [] 6) (xs.map PV.int) = some (xs.map PyData.int)
  | [] => rfl
  | x :: xs => by simp [toDws, toDw, dws_ints xs]
theorem dws_strs : ∀ xs : List Str, toDws (toDL [] 6) (xs.map PV.str) = some (xs.map PyData.str)
  | [] => rfl
  | x :: xs => by simp [toDws, toDw, dws_strs xs]
theorem lay_ints : ∀ xs : List Int, PyData.canLayAll0 (xs.map PyData.int) = true
  | [] => rfl
  | x :: xs => by simp [PyData.canLayAll0, PyData.canLay0, lay_ints xs]
theorem lay_strs : ∀ xs : List Str, (∀ x ∈ xs, sOk x) → PyData.canLayAll0 (xs.map PyData.str) = true
  | [], _ => rfl
  | x :: xs, h => by
    have := h x List.mem_cons_self
    unfold sOk at this
    simp [PyData.canLayAll0, this, lay_strs xs fun y hy => h y (List.mem_cons_of_mem _ hy)]
theorem dep_ints : ∀ xs : List Int, PyData.depthAll (xs.map PyData.int) = 0
  | [] => rfl
  | x :: xs => by simp [PyData.depthAll, PyData.depth, dep_ints xs]
theorem dep_strs : ∀ xs : List Str, PyData.depthAll (xs.map PyData.str) = 0
  | [] => rfl
  | x :: xs => by simp [PyData.depthAll, PyData.depth, dep_strs xs]
theorem any_ints (a : Int) (xs : List Int) : anyEq [] (.int a) (xs.map .int) = some (decide (a ∈ xs)) := by
  unfold anyEq
  rw [dws_ints]
  simp only [toD, toDw]
  rw [if_pos ⟨by simp [SeqAt.shaped, PyData.canLay0, PyData.depth], by simp [SeqAt.shaped, PyData.canLay0, lay_ints, PyData.depth, dep_ints]⟩]
  congr 1
  induction xs with
  | nil => simp
  | cons x xs ih =>
    simp only [List.map_cons, List.any_cons, ih, PyData.eqv, List.mem_cons]
    by_cases h : x = a
    · subst h; simp
    · have h2 : ¬ a = x := fun z => h z.symm
      simp [h, h2]
theorem any_strs {a : Str} {xs : List Str} (ha : sOk a) (hx : ∀ x ∈ xs, sOk x) : anyEq [] (.str a) (xs.map .str) = some (decide (a ∈ xs)) := by
  unfold anyEq
  rw [dws_strs]
  simp only [toD, toDw]
  unfold sOk at ha
  rw [if_pos ⟨by simp [SeqAt.shaped, ha, PyData.depth], by simp [SeqAt.shaped, PyData.canLay0, lay_strs xs hx, PyData.depth, dep_strs]⟩]
  congr 1
  clear hx
  induction xs with
  | nil => simp
  | cons x xs ih =>
    simp only [List.map_cons, List.any_cons, ih, PyData.eqv, List.mem_cons]
    by_cases h : x = a
    · subst h; simp
    · have h2 : ¬ a = x := fun z => h z.symm
      simp [h, h2]
def abc : Str := "abcdefghijklmnopqrstuvwxyz"
def okW (x : Str) : Prop := 1 ≤ x.length ∧ x.length ≤ 8 ∧ ∀ c ∈ x.cps.toList, 97 ≤ c ∧ c ≤ 122
theorem abc_mem {c : Nat} (h : 97 ≤ c ∧ c ≤ 122) : c ∈ abc.cps.toList := by
  have e : abc.cps.toList = (List.range 26).map (· + 97) := by decide +kernel
  rw [e, List.mem_map]
  exact ⟨c - 97, by rw [List.mem_range]; omega, by omega⟩
theorem okW.sOk {x : Str} (h : okW x) : K06.sOk x := by
  unfold K06.sOk
  simp only [PyData.canLay0]
  unfold PyData.strOk
  obtain ⟨_, _, h3⟩ := h
  first
    | (rw [Array.all_eq_true_iff_forall_mem]; intro c hc; have := h3 c (by simpa using hc); simp; omega)
    | (simp only [← Array.all_toList, List.all_eq_true]; intro c hc; have := h3 c hc; simp; omega)
structure Row where
  st : Nat
  nm : Str
  ps : Nat
  tg : Nat
  src : List Nat
  out : List (Str × Str × Nat)
structure Plan where
  names : List Str
  chans : List (Str × List Str)
  states : List Nat
  rows : List Row
def emN (n : Nat) : PV := .int (n : Int)
def emWs (l : List Str) : PV := .tup (l.map .str)
def emNs (l : List Nat) : PV := .tup (l.map emN)
def emC (c : Str × List Str) : PV := .tup [.str c.1, emWs c.2]
def emO (o : Str × Str × Nat) : PV := .tup [.str o.1, .str o.2.1, emN o.2.2]
def emR (r : Row) : PV := .tup [emN r.st, .str r.nm, emN r.ps, emN r.tg, emNs r.src, .tup (r.out.map emO)]
def emK (k : Nat × Str × Nat) : PV := .tup [emN k.1, .str k.2.1, emN k.2.2]
def Row.key (r : Row) : Nat × Str × Nat := (r.st, r.nm, r.ps)
def emP (p : Plan) : PV := .lst [emWs p.names, .tup (p.chans.map emC), emNs p.states, .tup (p.rows.map emR)]
def emG (p : Plan) : PV := .obj 0 [0, 1, 2, 3] [emWs p.names, .tup (p.chans.map emC), emNs p.states, .tup (p.rows.map emR)]
def keysL (names : List Str) (states : List Nat) : List (Nat × Str × Nat) := states.zipIdx.flatMap fun s => names.flatMap fun nm => (List.range (2 * s.1 + 1)).map fun q => (s.2, nm, q)
theorem is_int (k : Nat) (i a b : Int) : pf (k + 1) F_is_integer [.int i, .int a, .int b] = some (.v (.bl (decide (a ≤ i) && decide (i ≤ b)))) := by
  refine pf_at (d := c_is_integer) (r := .ret (.bl (decide (a ≤ i) && decide (i ≤ b)))) rfl rfl ?_ rfl
  by_cases h : a ≤ i <;> simp [c_is_integer, qstart, qx, qret, qE, qe, qr, qv, QV.rd, outR, isiV, truth, cmpV, ordV, h]
theorem is_word (k : Nat) {x : Str} (h : okW x) : pf (k + 1) F_is_word [.str x] = some (.v (.bl true)) := by
  refine pf_at (d := c_is_word) (r := .ret (.bl true)) rfl rfl ?_ rfl
  obtain ⟨h1, h2, h3⟩ := h
  have e : qgen true (fun v => qt (pf k) (pm k) (.var 1) v (qwipe [some (.v (.str x)), none] [1])) (qe (pf k) (pm k) (.cmp .isin (.var 1) (.glo "LETTERS" (.str "abcdefghijklmnopqrstuvwxyz")))) (signs x) = some true := qgen_all fun y hy => by
    obtain ⟨c, hc, rfl⟩ := List.mem_map.mp hy
    refine ⟨[some (.v (.str x)), some (.v (.str ⟨#[c]⟩))], by simp [qt, qwipe], ?_⟩
    have hm : c ∈ abc.cps.toList := abc_mem (h3 c hc)
    unfold abc at hm
    simp [qe, qv, cmpQ, QV.rd, inQ, inV, pur, hm]
    simpa using hm
  have eg : qe (pf k) (pm k) (.gen true (.cmp .isin (.var 1) (.glo "LETTERS" (.str "abcdefghijklmnopqrstuvwxyz"))) [1] (.var 1) (.seq (.var 0))) [some (.v (.str x)), none] = some (.bl true) := by
    exact qe_gen (qi_seq (qe_var rfl) rfl) e
  have hl : x.length ≤ LIM := by simp [LIM]; omega
  have e2 : (1 : Int) ≤ (x.length : Int) := by omega
  have e3 : (x.length : Int) ≤ 8 := by omega
  show qx (pf k) (pm k) sub0 c_is_word.body [some (.v (.str x)), none] = _
  simp [c_is_word, ↓eg, qx, qret, qE, qe, qr, qv, QV.rd, outR, isiV, cmpV, ordV, qrs, bqP, biV, b1, lenV, hl, okP, Res.opt, pur, e2, e3]
end K06
end
section
namespace K06
open PySem PM
variable {k : Nat}
theorem rngN {n i : Nat} (h : PV.int (i : Nat) ∈ rngL 0 (n : Int)) : i < n := by
  rw [rng_map] at h
  obtain ⟨j, hj, e⟩ := List.mem_map.mp h
  rw [List.mem_range] at hj
  cases e; exact hj
theorem rng_mem {n : Nat} {v : PV} (h : v ∈ rngL 0 (n : Int)) : ∃ i, i < n ∧ v = .int (i : Nat) := by
  rw [rng_map] at h
  obtain ⟨j, hj, e⟩ := List.mem_map.mp h
  rw [List.mem_range] at hj
  exact ⟨j, hj, e.symm⟩
theorem okRn {n : Nat} (h : n ≤ 1000000) : okR 0 (n : Int) = true := by simp [okR, LIM]; omega
theorem ixT {xs : List PV} {i : Nat} {v : PV} (h : xs[i]? = some v) : ixV [] (.tup xs) (.int (i : Nat)) = some v := by
  simp only [ixV, seqOf, Option.bind_some]
  rw [atI_nat (List.getElem?_eq_some_iff.mp h).1, h]
theorem ixL {xs : List PV} {i : Nat} {v : PV} (h : xs[i]? = some v) : ixV [] (.lst xs) (.int (i : Nat)) = some v := by
  simp only [ixV, seqOf, lstOf, Option.bind_some]
  rw [atI_nat (List.getElem?_eq_some_iff.mp h).1, h]
theorem len_tup {xs : List PV} {ρ : QEnv} {i : Nat} (h : ρ[i]? = some (some (QV.v (.tup xs)))) : qe (pf k) (pm k) (.bi .len (.cons (.var i) .nil)) ρ = some (.int xs.length) := by
  rw [qe, qrs, qrs]
  simp [qr, qv, h, QV.rd, bqP, biV, b1, lenV, seqOf, Res.opt, okP]
theorem len_lst {xs : List PV} {ρ : QEnv} {i : Nat} (h : ρ[i]? = some (some (QV.v (.lst xs)))) : qe (pf k) (pm k) (.bi .len (.cons (.var i) .nil)) ρ = some (.int xs.length) := by
  rw [qe, qrs, qrs]
  simp [qr, qv, h, QV.rd, bqP, biV, b1, lenV, seqOf, lstOf, Res.opt, okP]
def okWs (m : Nat) (l : List Str) : Prop := 1 ≤ l.length ∧ l.length ≤ m ∧ (∀ w ∈ l, okW w) ∧ l.Nodup
theorem nodup_take {l : List Str} (h : l.Nodup) {i : Nat} {w : Str} (e : l[i]? = some w) : w ∉ l.take i := fun hm => by
  obtain ⟨j, hj, ej⟩ := List.mem_iff_getElem.mp hm
  rw [List.getElem_take] at ej
  have hj' : j < i := by rw [List.length_take] at hj; omega
  have hl : j < l.length := by rw [List.length_take] at hj; omega
  have e2 : l[j]? = some w := by rw [List.getElem?_eq_getElem hl, ej]
  have := (List.getElem?_inj hl h).mp (e2.trans e.symm)
  omega
theorem are_words {l : List Str} {m : Nat} (h : okWs m l) (hm : m ≤ 4) : pf (k + 2) F_are_words [emWs l, .int (m : Nat)] = some (.v (.bl true)) := by
  obtain ⟨h1, h2, h3, h4⟩ := h
  refine pf_at (d := c_are_words) (r := .ret (.bl true)) rfl rfl ?_ rfl
  show qx (pf (k + 1)) (pm (k + 1)) sub0 c_are_words.body [some (.v (emWs l)), some (.v (.int (m : Nat))), none, none] = _
  have ew : emWs l = .tup (l.map .str) := rfl
  have eg : qe (pf (k + 1)) (pm (k + 1)) (.gen true (.fz (.call F_is_word (.cons (.var 3) .nil))) [3] (.var 3) (.seq (.var 0))) [some (.v (emWs l)), some (.v (.int (m : Nat))), none, none] = some (.bl true) :=
    qe_gen (qi_seq (xs := l.map .str) (qe_var rfl) rfl) (qgen_all fun y hy => by
      obtain ⟨w, hw, rfl⟩ := List.mem_map.mp hy
      exact ⟨[some (.v (emWs l)), some (.v (.int (m : Nat))), none, some (.v (.str w))], by simp [qt, qwipe], qe_call (by simp [qes, qe]) (is_word k (h3 w hw))⟩)
  have eg2 : qe (pf (k + 1)) (pm (k + 1)) (.gen true (.cmp .nin (.ix (.var 0) (.var 2)) (.fz (.sl (.var 0) .none (.some (.var 2))))) [2] (.var 2) (.rng1 (.bi .len (.cons (.var 0) .nil)))) [some (.v (emWs l)), some (.v (.int (m : Nat))), none, none] = some (.bl true) := by
    refine qe_gen (qi_rng1 (len_tup (xs := l.map .str) rfl) (by rw [List.length_map]; exact okRn (by omega))) (qgen_all fun y hy => ?_)
    rw [List.length_map] at hy
    obtain ⟨i, hi, rfl⟩ := rng_mem hy
    refine ⟨[some (.v (emWs l)), some (.v (.int (m : Nat))), some (.v (.int (i : Nat))), none], by simp [qt, qwipe], ?_⟩
    have e1 : l[i]? = some l[i] := List.getElem?_eq_getElem hi
    have e2 : ixV [] (emWs l) (.int (i : Nat)) = some (.str l[i]) := ixT (by rw [List.getElem?_map, e1]; rfl)
    have e3 : slA (emWs l) none (some (i : Int)) = some (.tup ((l.take i).map .str)) := by rw [ew, slA, cut_toQ, List.map_take]
    have e4 := any_strs (a := l[i]) (xs := l.take i) (h3 _ (List.getElem_mem hi)).sOk fun x hx => (h3 x (List.mem_of_mem_take hx)).sOk
    have e5 : decide (l[i] ∈ l.take i) = false := decide_eq_false (nodup_take h4 e1)
    refine qe_cmp (qe_ix (qe_var rfl) (qe_var rfl) e2) (qe_sl (qe_var rfl) qo_none (qo_some (qe_var rfl)) e3) ?_
    simp only [cmpV, inV, e4, e5, Option.map_some, Bool.not_false]
  have hl := len_tup (k := k + 1) (ρ := [some (.v (emWs l)), some (.v (.int (m : Nat))), none, none]) (i := 0) (xs := l.map .str) rfl
  have c1 : (1 : Int) ≤ (l.length : Int) := by omega
  have c2 : (l.length : Int) ≤ (m : Int) := by omega
  rw [c_are_words]
  refine (qx_iff0 ?_).trans (qx_ret eg2)
  refine (qe_or (i := false) (j := false) ?_ fun _ => qe_or (i := false) (j := false) ?_ fun _ => qe_not eg)
  · simp [qe, qr, qv, QV.rd, emWs, isiV, truth]
  · refine qe_not (i := true) ?_
    rw [qe]
    simp only [hl]
    simp [qe, pur, cmpV, ordV, c1, c2]
theorem are_rows {l : List (List PV)} {n : Nat} (hl : ∀ r ∈ l, r.length = n) : pf (k + 1) F_are_rows [.tup (l.map .tup), .int (n : Nat)] = some (.v (.bl true)) := by
  refine pf_at (d := c_are_rows) (r := .ret (.bl true)) rfl rfl ?_ rfl
  show qx (pf k) (pm k) sub0 c_are_rows.body [some (.v (.tup (l.map .tup))), some (.v (.int (n : Nat))), none] = _
  rw [c_are_rows]
  refine qx_ret (qe_and (i := true) (j := true) ?_ fun _ => qe_gen (qi_seq (xs := l.map .tup) (qe_var rfl) rfl) (qgen_all fun y hy => ?_))
  · simp [qe, qr, qv, QV.rd, isiV]
  · obtain ⟨r, hr, rfl⟩ := List.mem_map.mp hy
    refine ⟨[some (.v (.tup (l.map .tup))), some (.v (.int (n : Nat))), some (.v (.tup r))], by simp [qt, qwipe], qe_and (i := true) (j := true) ?_ fun _ => ?_⟩
    · simp [qe, qr, qv, QV.rd, isiV]
    · have e := len_tup (k := k) (ρ := [some (.v (.tup (l.map .tup))), some (.v (.int (n : Nat))), some (.v (.tup r))]) (i := 2) (xs := r) rfl
      rw [qe]
      simp only [e]
      simp [qe, qv, QV.rd, cmpQ, cmpV, eq_int, hl r hr]
theorem ascending {l : List Nat} (h : ∀ i, i + 1 < l.length → ∀ x y, l[i]? = some x → l[i + 1]? = some y → x < y) (hl : l.length ≤ 1000) : pf (k + 1) F_is_ascending [emNs l] = some (.v (.bl true)) := by
  refine pf_at (d := c_is_ascending) (r := .ret (.bl true)) rfl rfl ?_ rfl
  show qx (pf k) (pm k) sub0 c_is_ascending.body [some (.v (emNs l)), none] = _
  rw [c_is_ascending]
  have e0 := len_tup (k := k) (ρ := [some (.v (emNs l)), none]) (i := 0) (xs := l.map emN) rfl
  have e1 : qe (pf k) (pm k) (.bop .sub (.bi .len (.cons (.var 0) .nil)) (.cst (.int 1))) [some (.v (emNs l)), none] = some (.int ((l.length : Int) - 1)) := by
    rw [qe]; simp only [e0]; simp [qe, pur, bopV, subV, okP]
  have hok : okR 0 ((l.length : Int) - 1) = true := by simp [okR, LIM]; omega
  refine qx_ret (qe_gen (qi_rng1 e1 hok) (qgen_all fun y hy => ?_))
  unfold rngL at hy
  obtain ⟨i, hi, rfl⟩ := List.mem_map.mp hy
  rw [List.mem_range] at hi
  have hi' : i + 1 < l.length := by omega
  refine ⟨[some (.v (emNs l)), some (.v (.int (0 + (i : Nat))))], by simp [qt, qwipe], ?_⟩
  have a1 : l[i]? = some l[i] := List.getElem?_eq_getElem (by omega)
  have a2 : l[i + 1]? = some l[i + 1] := List.getElem?_eq_getElem hi'
  have b1 : ixV [] (emNs l) (.int (i : Nat)) = some (emN l[i]) := ixT (by rw [List.getElem?_map, a1]; rfl)
  have b2 : ixV [] (emNs l) (.int ((i + 1 : Nat) : Int)) = some (emN l[i + 1]) := ixT (by rw [List.getElem?_map, a2]; rfl)
  have lt := h i hi' _ _ a1 a2
  have z1 : qe (pf k) (pm k) (.var 1) [some (.v (emNs l)), some (.v (.int (0 + (i : Nat))))] = some (.int (i : Nat)) := by rw [Int.zero_add]; exact qe_var rfl
  refine qe_cmp (qe_ix (qe_var rfl) z1 b1) (qe_ix (qe_var rfl) (qe_add z1 (qe_cst rfl)) b2) ?_
  simp only [cmpV, emN, ordV]
  congr 1
  exact decide_eq_true (by omega)
end K06
end
section
namespace K06
open PySem PM
variable {k : Nat}
def chOk (ch : List (Str × List Str)) : Prop := ∀ c ∈ ch, sOk c.1 ∧ ∀ w ∈ c.2, sOk w
def okO (ch : List (Str × List Str)) (known : Nat) (o : Str × Str × Nat) : Prop := o.2.2 < known ∧ ∃ c ∈ ch, c.1 = o.1 ∧ o.2.1 ∈ c.2
theorem qt_pair {i j : Nat} {ρ : QEnv} {x y : PV} : qt (pf k) (pm k) (.tup (.cons (.var i) (.cons (.var j) .nil))) (.tup [x, y]) ρ = some ((ρ.set i (some (.v x))).set j (some (.v y))) := by simp [qt, qts, seqOf]
theorem is_output {ch : List (Str × List Str)} {known : Nat} {o : Str × Str × Nat} (hc : chOk ch) (ho : okO ch known o) : pf (k + 2) F_is_output [.tup (ch.map emC), emO o, .int (known : Nat)] = some (.v (.bl true)) := by
  obtain ⟨h1, c, hcm, h2, h3⟩ := ho
  refine pf_at (d := c_is_output) (r := .ret (.bl true)) rfl rfl ?_ rfl
  show qx (pf (k + 1)) (pm (k + 1)) sub0 c_is_output.body [some (.v (.tup (ch.map emC))), some (.v (emO o)), some (.v (.int (known : Nat))), none, none] = _
  rw [c_is_output]
  have s1 := (hc c hcm).1
  have s2 := (hc c hcm).2 _ h3
  rw [h2] at s1
  refine (qx_iff0 (qe_or (i := false) (j := false) ?_ fun _ => qe_or (i := false) (j := false) ?_ fun _ => qe_not (i := true) ?_)).trans (qx_ret ?_)
  · exact qe_not (qe_isi (k := true) (qe_var rfl) rfl)
  · exact qe_cmp (qe_len (qe_var rfl) (n := 3) rfl) (qe_cst rfl) (by simp only [cmpV, eq_int]; rfl)
  · refine qe_call (qes_cons (qe_ix (qe_var rfl) (qe_cst rfl) (v := emN o.2.2) rfl) (qes_cons (qe_cst rfl) (qes_cons (qe_sub (qe_var rfl) (qe_cst rfl)) qes_nil))) ?_
    have := is_int k (o.2.2 : Nat) 0 ((known : Int) - 1)
    rw [show emN o.2.2 = .int (o.2.2 : Nat) from rfl, this]
    have e1 : decide ((0 : Int) ≤ (o.2.2 : Nat)) = true := decide_eq_true (by omega)
    have e2 : decide (((o.2.2 : Nat) : Int) ≤ (known : Int) - 1) = true := decide_eq_true (by omega)
    rw [e1, e2]; rfl
  · have e : (ch.any fun c' => decide (o.1 = c'.1) && decide (o.2.1 ∈ c'.2)) = true := List.any_eq_true.mpr ⟨c, hcm, by simp [h2, h3]⟩
    rw [← e]
    refine qe_gen (qi_seq (xs := ch.map emC) (qe_var rfl) rfl) (qgen_anyM emC _ fun c' hc' => ?_)
    refine ⟨[some (.v (.tup (ch.map emC))), some (.v (emO o)), some (.v (.int (known : Nat))), some (.v (.str c'.1)), some (.v (emWs c'.2))], qt_pair, ?_⟩
    refine qe_and (qe_cmp (qe_ix (qe_var rfl) (qe_cst rfl) (v := .str o.1) rfl) (qe_var rfl) (by simp only [cmpV]; exact eq_str s1 (hc c' hc').1)) fun _ => ?_
    refine qe_cmp (qe_ix (qe_var rfl) (qe_cst rfl) (v := .str o.2.1) rfl) (qe_var rfl) ?_
    simp only [cmpV, emWs, inV]
    exact any_strs s2 (hc c' hc').2
structure okRow (states : List Nat) (ch : List (Str × List Str)) (r : Row) : Prop where
  st : r.st < states.length
  ps : r.ps ≤ 2 * states.getD r.st 0
  tg : r.tg < states.length
  src : r.src.length = states.getD r.tg 0
  srcL : ∀ x ∈ r.src, x < states.getD r.st 0 + 1 - r.ps % 2
  asc : ∀ i, i + 1 < r.src.length → ∀ x y, r.src[i]? = some x → r.src[i + 1]? = some y → x < y
  outL : r.out.length ≤ 3
  out : ∀ o ∈ r.out, okO ch (states.getD r.st 0 + 1 - r.ps % 2) o
theorem ix_Ns {l : List Nat} {i : Nat} (h : i < l.length) : ixV [] (emNs l) (.int (i : Nat)) = some (emN (l.getD i 0)) := ixT (by rw [List.getElem?_map, List.getElem?_eq_getElem h]; simp [h])
theorem is_rule {states : List Nat} {ch : List (Str × List Str)} {r : Row} (hc : chOk ch) (h : okRow states ch r) (hs : ∀ s ∈ states, s ≤ 4) (hsl : states.length ≤ 10) : pf (k + 3) F_is_rule [.tup (ch.map emC), emNs states, emR r] = some (.v (.bl true)) := by
  refine pf_at (d := c_is_rule) (r := .ret (.bl true)) rfl rfl ?_ rfl
  show qx (pf (k + 2)) (pm (k + 2)) sub0 c_is_rule.body [some (.v (.tup (ch.map emC))), some (.v (emNs states)), some (.v (emR r)), none, none, none, none, none, none, none, none, none] = _
  rw [c_is_rule]
  have cS : states.getD r.st 0 ≤ 4 := by rw [List.getD_eq_getElem?_getD, List.getElem?_eq_getElem h.st]; exact hs _ (List.getElem_mem h.st)
  have cT : states.getD r.tg 0 ≤ 4 := by rw [List.getD_eq_getElem?_getD, List.getElem?_eq_getElem h.tg]; exact hs _ (List.getElem_mem h.tg)
  have hlen : (lenV [] (emNs states)) = some states.length := by simp [lenV, emNs, seqOf]
  have lsrc : lenV [] (emNs r.src) = some r.src.length := by simp [lenV, emNs, seqOf]
  have lout : lenV [] (.tup (r.out.map emO)) = some r.out.length := by simp [lenV, seqOf]
  refine (qx_tup rfl (qe_var rfl) (ρ' := [some (.v (.tup (ch.map emC))), some (.v (emNs states)), some (.v (emR r)), none, some (.v (emN r.st)), some (.v (.str r.nm)), some (.v (emN r.ps)), some (.v (emN r.tg)), some (.v (emNs r.src)), some (.v (.tup (r.out.map emO))), none, none]) (by simp [qt, qts, emR, seqOf])).trans ?_
  refine (qx_iff0 (qe_or (i := false) (j := false) (qe_not (qe_isi (k := true) (qe_var rfl) rfl)) fun _ => qe_not (qe_isi (k := true) (qe_var rfl) rfl))).trans ?_
  have call1 : ∀ {a b : CE} {ρ : QEnv} {x y : Int}, qe (pf (k + 2)) (pm (k + 2)) a ρ = some (.int x) → qe (pf (k + 2)) (pm (k + 2)) b ρ = some (.int y) → 0 ≤ x → x ≤ y → qe (pf (k + 2)) (pm (k + 2)) (.fz (.call F_is_integer (.cons a (.cons (.cst (.int 0)) (.cons b .nil))))) ρ = some (.bl true) := fun h1 h2 h3 h4 => by
    refine qe_call (qes_cons h1 (qes_cons (qe_cst rfl) (qes_cons h2 qes_nil))) ?_
    rw [is_int (k + 1), decide_eq_true h3, decide_eq_true h4]; rfl
  refine (qx_iff0 (qe_or (i := false) (j := false) (qe_not (i := true) ?_) fun _ => qe_not (i := true) ?_)).trans ?_
  · exact call1 (x := (r.st : Nat)) (qe_var rfl) (qe_sub (qe_len (qe_var rfl) hlen) (qe_cst rfl)) (by omega) (by have := h.st; omega)
  · refine call1 (x := (r.ps : Nat)) (y := 2 * ((states.getD r.st 0 : Nat) : Int)) (qe_var rfl) (qe_mul (qe_cst rfl) (qe_ix (qe_var rfl) (qe_var rfl) (ix_Ns h.st)) (by simp [small])) (by omega) (by have := h.ps; omega)
  refine (qx_iff0 (qe_or (i := false) (j := false) (qe_not (i := true) ?_) fun _ => ?_)).trans ?_
  · exact call1 (x := (r.tg : Nat)) (qe_var rfl) (qe_sub (qe_len (qe_var rfl) hlen) (qe_cst rfl)) (by omega) (by have := h.tg; omega)
  · refine qe_cmp (qe_len (qe_var rfl) lsrc) (qe_ix (qe_var rfl) (qe_var rfl) (ix_Ns h.tg)) ?_
    simp only [cmpV, emN, eq_int, h.src]
    simp
  have kn : ((states.getD r.st 0 : Nat) : Int) + 1 - ((r.ps : Nat) : Int) % 2 = ((states.getD r.st 0 + 1 - r.ps % 2 : Nat) : Int) := by omega
  refine (qx_set rfl (v := .int ((states.getD r.st 0 + 1 - r.ps % 2 : Nat) : Int)) ?_).trans ?_
  · rw [← kn]
    exact qe_sub (qe_add (qe_ix (qe_var rfl) (qe_var rfl) (ix_Ns h.st)) (qe_cst rfl)) (qe_mod (qe_var rfl) (qe_cst rfl) (by omega))
  refine (qx_iff0 (qe_or (i := false) (j := false) (qe_not (i := true) ?_) fun _ => qe_not (i := true) ?_)).trans ?_
  · refine qe_gen (qi_seq (xs := r.src.map emN) (qe_var rfl) rfl) (qgen_all fun y hy => ?_)
    obtain ⟨x, hx, rfl⟩ := List.mem_map.mp hy
    refine ⟨_, by rw [qt], call1 (x := (x : Nat)) (qe_var rfl) (qe_sub (qe_var rfl) (qe_cst rfl)) (by omega) ?_⟩
    have := h.srcL x hx
    omega
  · exact qe_call (qes_cons (qe_var rfl) qes_nil) (ascending (k := k + 1) h.asc (by rw [h.src]; omega))
  refine (qx_iff0 (qe_cmp (qe_len (qe_var rfl) lout) (qe_glo rfl) ?_)).trans (qx_ret (qe_gen (qi_seq (xs := r.out.map emO) (qe_var rfl) rfl) (qgen_all fun y hy => ?_)))
  · simp only [cmpV, ordV]
    congr 1
    exact decide_eq_false (by have := h.outL; omega)
  · obtain ⟨o, ho, rfl⟩ := List.mem_map.mp hy
    exact ⟨_, by rw [qt], qe_call (qes_cons (qe_var rfl) (qes_cons (qe_var rfl) (qes_cons (qe_var rfl) qes_nil))) (is_output hc (h.out o ho))⟩
end K06
end
section
namespace K06
open PySem PM
variable {k : Nat}
theorem foldl_flat {β γ : Type} {g : β → List γ} : ∀ (bs : List β) (c : List γ), bs.foldl (fun c b => c ++ g b) c = c ++ bs.flatMap g
  | [], c => by simp
  | b :: bs, c => by simp [foldl_flat bs, List.append_assoc]
theorem flat_one {β γ : Type} {f : β → γ} : ∀ bs : List β, bs.flatMap (fun q => [f q]) = bs.map f
  | [] => rfl
  | b :: bs => by simp [flat_one bs]
def E0 (n s : PV) (c : List PV) (z : List (Option QV)) : QEnv := [some (.v n), some (.v s), some (.o (.lst c)), z.getD 0 none, z.getD 1 none, z.getD 2 none, z.getD 3 none]
def E1 (n s a b : PV) (c : List PV) (z : List (Option QV)) : QEnv := [some (.v n), some (.v s), some (.o (.lst c)), some (.v a), some (.v b), z.getD 0 none, z.getD 1 none]
def E2 (n s a b d : PV) (c : List PV) (z : List (Option QV)) : QEnv := [some (.v n), some (.v s), some (.o (.lst c)), some (.v a), some (.v b), some (.v d), z.getD 0 none]
theorem zip_enum (states : List Nat) : ((states.map emN).zipIdx.map fun p => PV.tup [.int p.2, p.1]) = states.zipIdx.map fun p => PV.tup [.int (p.2 : Nat), emN p.1] := by
  rw [List.zipIdx_map, List.map_map]
  rfl
theorem keys_of {names : List Str} {states : List Nat} (hn : names.length ≤ 4) (hs : ∀ s ∈ states, s ≤ 4) (hl : states.length ≤ 10) : pf (k + 1) F_keys_of [emWs names, emNs states] = some (.v (.lst ((keysL names states).map emK))) := by
  refine pf_at (d := c_keys_of) (r := .ret (.lst ((keysL names states).map emK))) rfl rfl ?_ rfl
  show qx (pf k) (pm k) sub0 c_keys_of.body [some (.v (emWs names)), some (.v (emNs states)), none, none, none, none, none] = _
  rw [c_keys_of]
  refine (qx_live rfl (o := .lst []) (by simp [qnew, qes, LIM]) (by simp)).trans ?_
  have inner : ∀ (s cnt : Nat) (nm : Str) (c : List PV) (z : List (Option QV)), cnt ≤ 4 → c.length ≤ 1000 → ∃ z', qfor (qt (pf k) (pm k) (.var 6)) (qx (pf k) (pm k) sub0 (.ex (.lm .append (.var 2) (.cons (.tup (.cons (.var 3) (.cons (.var 5) (.cons (.var 6) .nil)))) .nil)) .nil)) ((List.range (2 * cnt + 1)).map fun i => PV.int (i : Nat)) (E2 (emWs names) (emNs states) (emN s) (emN cnt) (.str nm) c z) = some (.nx (E2 (emWs names) (emNs states) (emN s) (emN cnt) (.str nm) (c ++ (List.range (2 * cnt + 1)).map fun q => emK (s, nm, q)) z')) := by
    intro s cnt nm c z h1 h2
    obtain ⟨z', e⟩ := qfor_fold (em := fun i : Nat => PV.int (i : Nat)) (env := E2 (emWs names) (emNs states) (emN s) (emN cnt) (.str nm)) (step := fun c q => c ++ [emK (s, nm, q)]) (P := fun c bs => c.length + bs.length ≤ 2000)
      (asg := qt (pf k) (pm k) (.var 6)) (body := qx (pf k) (pm k) sub0 (.ex (.lm .append (.var 2) (.cons (.tup (.cons (.var 3) (.cons (.var 5) (.cons (.var 6) .nil)))) .nil)) .nil)) (fun c b bs z hp => by
        simp only [List.length_cons] at hp
        refine ⟨by simp; omega, E2 (emWs names) (emNs states) (emN s) (emN cnt) (.str nm) c [some (.v (.int (b : Nat)))], by simp [qt, E2], [some (.v (.int (b : Nat)))], ?_⟩
        refine (qx_app (v := emK (s, nm, b)) (xs := c) (qe_tupD (qes_cons (qe_var rfl) (qes_cons (qe_var rfl) (qes_cons (qe_var rfl) qes_nil))) (by simp [LIM])) rfl (by simp [LIM]; omega)).trans ?_
        rw [qx_nil]; rfl) (List.range (2 * cnt + 1)) c z (by simp; omega)
    refine ⟨z', ?_⟩
    rw [e, foldl_flat, flat_one]
  have mid : ∀ (s cnt : Nat) (c : List PV) (z : List (Option QV)), cnt ≤ 4 → c.length ≤ 900 → ∃ z', qfor (qt (pf k) (pm k) (.var 5)) (qx (pf k) (pm k) sub0 (.for (.var 6) (.rng1 (.bop .add (.bop .mul (.cst (.int 2)) (.var 4)) (.cst (.int 1)))) (.ex (.lm .append (.var 2) (.cons (.tup (.cons (.var 3) (.cons (.var 5) (.cons (.var 6) .nil)))) .nil)) .nil) .nil)) (names.map .str) (E1 (emWs names) (emNs states) (emN s) (emN cnt) c z) = some (.nx (E1 (emWs names) (emNs states) (emN s) (emN cnt) (c ++ names.flatMap fun nm => (List.range (2 * cnt + 1)).map fun q => emK (s, nm, q)) z')) := by
    intro s cnt c z h1 h2
    obtain ⟨z', e⟩ := qfor_fold (em := PV.str) (env := E1 (emWs names) (emNs states) (emN s) (emN cnt)) (step := fun c nm => c ++ (List.range (2 * cnt + 1)).map fun q => emK (s, nm, q)) (P := fun c bs => c.length + 9 * bs.length ≤ 940)
      (asg := qt (pf k) (pm k) (.var 5)) (body := qx (pf k) (pm k) sub0 (.for (.var 6) (.rng1 (.bop .add (.bop .mul (.cst (.int 2)) (.var 4)) (.cst (.int 1)))) (.ex (.lm .append (.var 2) (.cons (.tup (.cons (.var 3) (.cons (.var 5) (.cons (.var 6) .nil)))) .nil)) .nil) .nil)) (fun c nm bs z hp => by
        simp only [List.length_cons] at hp
        refine ⟨by simp; omega, E1 (emWs names) (emNs states) (emN s) (emN cnt) c [some (.v (.str nm)), z.getD 1 none], by simp [qt, E1], ?_⟩
        obtain ⟨z2, e2⟩ := inner s cnt nm c [z.getD 1 none] h1 (by omega)
        refine ⟨[some (.v (.str nm)), z2.getD 0 none], ?_⟩
        have er : rngL 0 (2 * (cnt : Int) + 1) = (List.range (2 * cnt + 1)).map fun i => PV.int (i : Nat) := by rw [show 2 * (cnt : Int) + 1 = ((2 * cnt + 1 : Nat) : Int) by omega, rng_map]
        refine (qx_for (xs := (List.range (2 * cnt + 1)).map fun i => PV.int (i : Nat)) ?_ e2).trans (by rw [qx_nil]; rfl)
        rw [← er]
        refine qi_rng1 (qe_add (qe_mul (qe_cst rfl) (qe_var (v := .int (cnt : Nat)) rfl) (by simp [small])) (qe_cst rfl)) ?_
        rw [show 2 * (cnt : Int) + 1 = ((2 * cnt + 1 : Nat) : Int) by omega]
        exact okRn (by omega)) names c z (by omega)
    refine ⟨z', ?_⟩
    rw [e, foldl_flat]
  obtain ⟨z', e⟩ := qfor_fold (em := fun p : Nat × Nat => PV.tup [.int (p.2 : Nat), emN p.1]) (env := E0 (emWs names) (emNs states)) (step := fun c p => c ++ names.flatMap fun nm => (List.range (2 * p.1 + 1)).map fun q => emK (p.2, nm, q)) (P := fun c bs => c.length + 36 * bs.length ≤ 400 ∧ ∀ p ∈ bs, p.1 ≤ 4)
      (asg := qt (pf k) (pm k) (.tup (.cons (.var 3) (.cons (.var 4) .nil)))) (body := qx (pf k) (pm k) sub0 (.for (.var 5) (.seq (.var 0)) (.for (.var 6) (.rng1 (.bop .add (.bop .mul (.cst (.int 2)) (.var 4)) (.cst (.int 1)))) (.ex (.lm .append (.var 2) (.cons (.tup (.cons (.var 3) (.cons (.var 5) (.cons (.var 6) .nil)))) .nil)) .nil) .nil) .nil)) (fun c p bs z hp => by
        obtain ⟨hp1, hp2⟩ := hp
        simp only [List.length_cons] at hp1
        have h4 := hp2 p List.mem_cons_self
        have hlen : (names.flatMap fun nm => (List.range (2 * p.1 + 1)).map fun q => emK (p.2, nm, q)).length ≤ 36 := by
          have : ∀ l : List Str, (l.flatMap fun nm => (List.range (2 * p.1 + 1)).map fun q => emK (p.2, nm, q)).length ≤ 9 * l.length := fun l => by
            induction l with
            | nil => simp
            | cons a l ih => simp only [List.flatMap_cons, List.length_append, List.length_map, List.length_range, List.length_cons]; omega
          have := this names
          omega
        refine ⟨⟨by rw [List.length_append]; omega, fun q hq => hp2 q (List.mem_cons_of_mem _ hq)⟩, E0 (emWs names) (emNs states) c [some (.v (emN p.2)), some (.v (emN p.1)), z.getD 2 none, z.getD 3 none], by simp [qt, qts, seqOf, E0, emN], ?_⟩
        obtain ⟨z2, e2⟩ := mid p.2 p.1 c [z.getD 2 none, z.getD 3 none] h4 (by omega)
        refine ⟨[some (.v (emN p.2)), some (.v (emN p.1)), z2.getD 0 none, z2.getD 1 none], ?_⟩
        exact (qx_for (qi_seq (xs := names.map .str) (qe_var rfl) rfl) e2).trans (by rw [qx_nil]; rfl)) states.zipIdx [] [] ⟨by simp; omega, fun p hp => hs _ (by obtain ⟨a, b⟩ := p; exact List.fst_mem_of_mem_zipIdx hp)⟩
  rw [foldl_flat, List.nil_append] at e
  have ek : (states.zipIdx.flatMap fun p : Nat × Nat => names.flatMap fun nm => (List.range (2 * p.1 + 1)).map fun q => emK (p.2, nm, q)) = (keysL names states).map emK := by
    unfold keysL
    simp [List.map_flatMap, List.map_map, Function.comp_def]
  rw [ek] at e
  refine (qx_for (xs := states.zipIdx.map fun p => PV.tup [.int (p.2 : Nat), emN p.1]) ?_ e).trans ?_
  · rw [← zip_enum]
    exact qi_enum (qe_var rfl) rfl
  · rw [qx]
    simp [qret, E0, frzM, outR]
end K06
end
section
namespace K06
open PySem PM
variable {k : Nat}
theorem keys_nodup {names : List Str} {states : List Nat} (h : names.Nodup) : (keysL names states).Nodup := by
  unfold keysL List.Nodup
  rw [List.pairwise_flatMap]
  refine ⟨fun s hs => ?_, ?_⟩
  · rw [List.pairwise_flatMap]
    refine ⟨fun nm hnm => ?_, ?_⟩
    · rw [List.pairwise_map]
      exact (List.nodup_range (n := 2 * s.1 + 1)).imp fun {a b} hab e => by cases e; exact hab rfl
    · refine h.imp fun {a b} hab x hx y hy e => ?_
      obtain ⟨q, _, rfl⟩ := List.mem_map.mp hx
      obtain ⟨q', _, rfl⟩ := List.mem_map.mp hy
      cases e; exact hab rfl
  · have hn : (states.zipIdx.map Prod.snd).Nodup := by rw [List.zipIdx_map_snd]; exact List.nodup_range'
    unfold List.Nodup at hn
    rw [List.pairwise_map] at hn
    refine hn.imp fun {a b} hab x hx y hy e => ?_
    obtain ⟨n1, _, h1⟩ := List.mem_flatMap.mp hx
    obtain ⟨q, _, rfl⟩ := List.mem_map.mp h1
    obtain ⟨n2, _, h2⟩ := List.mem_flatMap.mp hy
    obtain ⟨q', _, rfl⟩ := List.mem_map.mp h2
    exact hab (congrArg (fun z : Nat × Str × Nat => z.1) e)
theorem keys_len {names : List Str} {states : List Nat} (hn : names.length ≤ 4) (hs : ∀ s ∈ states, s ≤ 4) (hl : states.length ≤ 10) : (keysL names states).length ≤ 360 := by
  unfold keysL
  have in1 : ∀ (s : Nat × Nat), s.1 ≤ 4 → ∀ l : List Str, (l.flatMap fun nm => (List.range (2 * s.1 + 1)).map fun q => (s.2, nm, q)).length ≤ 9 * l.length := fun s h l => by
    induction l with
    | nil => simp
    | cons a l ih => simp only [List.flatMap_cons, List.length_append, List.length_map, List.length_range, List.length_cons]; omega
  have out : ∀ l : List (Nat × Nat), (∀ p ∈ l, p.1 ≤ 4) → (l.flatMap fun s => names.flatMap fun nm => (List.range (2 * s.1 + 1)).map fun q => (s.2, nm, q)).length ≤ 36 * l.length := fun l hl => by
    induction l with
    | nil => simp
    | cons a l ih =>
      have := ih fun p hp => hl p (List.mem_cons_of_mem _ hp)
      have h2 := in1 a (hl a List.mem_cons_self) names
      simp only [List.flatMap_cons, List.length_append, List.length_cons]; omega
  have := out states.zipIdx fun p hp => hs _ (by obtain ⟨a, b⟩ := p; exact List.fst_mem_of_mem_zipIdx hp)
  rw [List.length_zipIdx] at this
  omega
def nkK (q : Nat × Str × Nat) : NestedKey := .tup [.num (q.1 : Nat), .text q.2.1, .num (q.2.2 : Nat)]
theorem keyT_K (q : Nat × Str × Nat) : keyT (emK q) = some (nkK q) := by
  simp [keyT, emK, keyNs, keyN, emN, nkK, NestedKey.depth, NestedKey.depthAll]
theorem nkK_inj {a b : Nat × Str × Nat} (h : nkK a = nkK b) : a = b := by
  obtain ⟨a1, a2, a3⟩ := a
  obtain ⟨b1, b2, b3⟩ := b
  simp only [nkK, NestedKey.tup.injEq, List.cons.injEq, NestedKey.num.injEq, NestedKey.text.injEq, and_true] at h
  obtain ⟨h1, h2, h3⟩ := h
  rw [show a1 = b1 by omega, h2, show a3 = b3 by omega]
def kvs (rows : List Row) : List (PV × PV) := rows.map fun r => (emK r.key, emR r)
theorem find_row {r : Row} : ∀ {rows : List Row}, (rows.map Row.key).Nodup → r ∈ rows → findT (kvs rows) (nkK r.key) = some (emR r)
  | a :: rows, h, hr => by
    simp only [List.map_cons, List.nodup_cons] at h
    unfold findT kvs
    rw [List.map_cons, List.find?_cons]
    by_cases he : a.key = r.key
    · simp only [keyT_K, he, decide_true, Option.map_some]
      rcases List.mem_cons.mp hr with rfl | hr
      · rfl
      · exact absurd (List.mem_map.mpr ⟨r, hr, rfl⟩) (he ▸ h.1)
    · have hne : decide (keyT (emK a.key) = some (nkK r.key)) = false := decide_eq_false fun z => by
        rw [keyT_K] at z
        exact he (nkK_inj (Option.some.inj z))
      simp only [hne]
      rcases List.mem_cons.mp hr with rfl | hr
      · exact absurd rfl he
      · exact find_row h.2 hr
theorem table_ok {asg : PV → Option QEnv} {key val : QEnv → Option PV} : ∀ (rows done : List Row), ((done ++ rows).map Row.key).Nodup → (done ++ rows).length ≤ 1000 → (∀ r ∈ rows, ∃ ρ, asg (emR r) = some ρ ∧ key ρ = some (emK r.key) ∧ val ρ = some (emR r)) →
    qdc asg key val (rows.map emR) (.dkn (kvs done)) = some (.dkn (kvs (done ++ rows)))
  | [], done, _, _, _ => by simp [qdc]
  | r :: rows, done, hn, hl, h => by
    obtain ⟨ρ, e1, e2, e3⟩ := h r List.mem_cons_self
    have e4 : insO (some (.dkn (kvs done))) (emK r.key) (emR r) = some (.dkn (kvs (done ++ [r]))) := by
      have hlen : (kvs done).length < LIM := by simp [kvs, LIM]; simp at hl; omega
      have hany : ((kvs done).any fun p => decide (keyT p.1 = some (nkK r.key))) = false := by
        rw [List.any_eq_false]
        intro p hp
        obtain ⟨a, ha, rfl⟩ := List.mem_map.mp hp
        simp only [keyT_K, Option.some.injEq, decide_eq_true_eq]
        intro z
        have z := nkK_inj z
        rw [List.map_append, List.nodup_append] at hn
        exact hn.2.2 a.key (List.mem_map.mpr ⟨a, ha, rfl⟩) r.key (List.mem_map.mpr ⟨r, List.mem_cons_self, rfl⟩) z
      simp only [insO, keyT_K, Option.bind_some, if_pos hlen, setT, hany]
      simp [kvs]
    simp only [List.map_cons, qdc, e1, e2, e3, e4, Option.bind_some]
    have ih := table_ok (asg := asg) (key := key) (val := val) rows (done ++ [r]) (by simpa using hn) (by simpa using hl) fun x hx => h x (List.mem_cons_of_mem _ hx)
    rw [ih]
    simp
structure Valid (p : Plan) : Prop where
  names : okWs 4 p.names
  chN : okWs 2 (p.chans.map (·.1))
  chS : ∀ c ∈ p.chans, okWs 4 c.2
  stL : 1 ≤ p.states.length ∧ p.states.length ≤ 10
  st0 : p.states[0]? = some 0
  st4 : ∀ s ∈ p.states, s ≤ 4
  keys : p.rows.map Row.key = keysL p.names p.states
  rows : ∀ r ∈ p.rows, okRow p.states p.chans r
theorem Valid.rlen {p : Plan} (h : Valid p) : p.rows.length ≤ 360 := by
  have := keys_len (names := p.names) (by have := h.names.2.1; omega) h.st4 h.stL.2
  rw [← h.keys, List.length_map] at this
  exact this
theorem Valid.chOk {p : Plan} (h : Valid p) : chOk p.chans := fun c hc => ⟨(h.chN.2.2.1 c.1 (List.mem_map.mpr ⟨c, hc, rfl⟩)).sOk, fun w hw => ((h.chS c hc).2.2.1 w hw).sOk⟩
theorem deps_of {d : Nat} : ∀ {xs : List PV}, (∀ x ∈ xs, dep x ≤ d) → deps xs ≤ d
  | [], _ => Nat.zero_le _
  | x :: xs, h => by
    have h1 := h x List.mem_cons_self
    have h2 := deps_of (xs := xs) fun y hy => h y (List.mem_cons_of_mem _ hy)
    simp only [deps]; omega
theorem depsM {β : Type} {f : β → PV} {d : Nat} {l : List β} (h : ∀ b ∈ l, dep (f b) ≤ d) : deps (l.map f) ≤ d := deps_of fun x hx => by
  obtain ⟨b, hb, rfl⟩ := List.mem_map.mp hx; exact h b hb
theorem widsM {β : Type} {f : β → PV} {l : List β} (h : ∀ b ∈ l, wid (f b) = true) : wids (l.map f) = true := wids_of fun x hx => by
  obtain ⟨b, hb, rfl⟩ := List.mem_map.mp hx; exact h b hb
theorem fznsM {β : Type} {f : β → PV} {l : List β} (h : ∀ b ∈ l, fzn (f b) = f b) : fzns (l.map f) = l.map f := by
  rw [fzns_map, List.map_map]
  exact List.map_congr_left fun b hb => h b hb
theorem fzn_Ws (l : List Str) : fzn (emWs l) = emWs l := by unfold emWs; rw [fzn, fznsM fun b _ => rfl]
theorem fzn_Ns (l : List Nat) : fzn (emNs l) = emNs l := by unfold emNs; rw [fzn, fznsM fun b _ => rfl]
theorem fzn_C (c : Str × List Str) : fzn (emC c) = emC c := by simp [emC, fzn, fzns, fzn_Ws]
theorem fzn_O (o : Str × Str × Nat) : fzn (emO o) = emO o := by simp [emO, fzn, fzns, emN]
theorem fzn_R (r : Row) : fzn (emR r) = emR r := by
  simp only [emR, fzn, fzns, emN, fzn_Ns]
  rw [fznsM fun b _ => fzn_O b]
theorem dep_Ws (l : List Str) : dep (emWs l) ≤ 1 := by
  have := depsM (f := PV.str) (d := 0) (l := l) fun b _ => Nat.le_refl _
  simp only [emWs, dep]; omega
theorem dep_Ns (l : List Nat) : dep (emNs l) ≤ 1 := by
  have := depsM (f := emN) (d := 0) (l := l) fun b _ => Nat.le_refl _
  simp only [emNs, dep]; omega
theorem dep_C (c : Str × List Str) : dep (emC c) ≤ 2 := by
  have := dep_Ws c.2
  simp only [emC, dep, deps]; omega
theorem dep_R (r : Row) : dep (emR r) ≤ 3 := by
  have h1 := dep_Ns r.src
  have h2 := depsM (f := emO) (d := 1) (l := r.out) fun b _ => by simp [emO, dep, deps, emN]
  simp only [emR, dep, deps, emN]; omega
theorem wid_Ws {l : List Str} (h : l.length ≤ 1000) : wid (emWs l) = true := by
  simp only [emWs, wid, Bool.and_eq_true, decide_eq_true_eq, List.length_map]
  exact ⟨by simp [LIM]; omega, widsM fun b _ => rfl⟩
theorem wid_Ns {l : List Nat} (h : l.length ≤ 1000) : wid (emNs l) = true := by
  simp only [emNs, wid, Bool.and_eq_true, decide_eq_true_eq, List.length_map]
  exact ⟨by simp [LIM]; omega, widsM fun b _ => rfl⟩
theorem wid_C {c : Str × List Str} (h : c.2.length ≤ 1000) : wid (emC c) = true := by
  simp [emC, wid, wids, wid_Ws h, LIM]
theorem wid_R {r : Row} (h : r.src.length ≤ 1000) (h2 : r.out.length ≤ 1000) : wid (emR r) = true := by
  have h3 : wids (r.out.map emO) = true := widsM fun b _ => by simp [emO, wid, wids, emN, LIM]
  have h4 : r.out.length ≤ LIM := by simp [LIM]; omega
  simp [emR, wid, wids, wid_Ns h, emN, h3, h4]
  simp [LIM]
end K06
end
section
namespace K06
open PySem PM
variable {k : Nat}
theorem lenT (xs : List PV) : lenV [] (.tup xs) = some xs.length := by simp [lenV, seqOf]
theorem lenL (xs : List PV) : lenV [] (.lst xs) = some xs.length := by simp [lenV, seqOf, lstOf]
theorem made {p : Plan} (V : Valid p) {rs : List Row} (hp : rs.Perm p.rows) : pm (k + 6) 0 F_Program_init [.lst (p.names.map .str), .lst (p.chans.map emC), .lst (p.states.map emN), .lst (rs.map emR)] = some (.v (emG p)) := by
  have rl0 := V.rlen
  have rlen := hp.length_eq
  have rl : rs.length ≤ 360 := by omega
  have nl : p.names.length ≤ 4 := by have := V.names.2.1; omega
  have cl : p.chans.length ≤ 2 := by have := V.chN.2.1; rw [List.length_map] at this; omega
  have sl := V.stL
  have mrs : ∀ r, r ∈ rs ↔ r ∈ p.rows := fun r => hp.mem_iff
  have rowOk : ∀ r ∈ rs, r.src.length ≤ 4 ∧ r.out.length ≤ 3 := fun r hr => by
    have h := V.rows r ((mrs r).mp hr)
    refine ⟨?_, h.outL⟩
    rw [h.src, List.getD_eq_getElem?_getD, List.getElem?_eq_getElem h.tg]
    exact V.st4 _ (List.getElem_mem h.tg)
  have nd0 : (p.rows.map Row.key).Nodup := by rw [V.keys]; exact keys_nodup V.names.2.2.2
  have nd : (rs.map Row.key).Nodup := (hp.map Row.key).nodup_iff.mpr nd0
  let A := emWs p.names
  let B := PV.tup (p.chans.map emC)
  let C := emNs p.states
  let D := PV.tup (rs.map emR)
  let D2 := PV.tup (p.rows.map emR)
  refine pm_at (d := c_Program_init) (r := .nx [some (.o (.ins 0 [(0, A), (1, B), (2, C), (3, D2)])), some (.v A), some (.v B), some (.v C), some (.v (.lst (rs.map emR))), some (.v D), some (.v (.lst ((keysL p.names p.states).map emK))), some (.o (.dkn (kvs rs))), none, none, none, none]) rfl rfl ?_ rfl
  show qx (pf (k + 5)) (pm (k + 5)) sub0 c_Program_init.body [some (.o (.ins 0 [])), some (.v (.lst (p.names.map .str))), some (.v (.lst (p.chans.map emC))), some (.v (.lst (p.states.map emN))), some (.v (.lst (rs.map emR))), none, none, none, none, none, none, none] = _
  rw [c_Program_init]
  have f1 : pf (k + 5) F_frozen [.lst (p.names.map .str)] = some (.v A) := by
    have := frozen_ok (k + 4) (.lst (p.names.map .str)) (by have := dep_Ws p.names; simp only [emWs, dep] at this ⊢; omega) (by simp only [wid, Bool.and_eq_true, decide_eq_true_eq, List.length_map]; exact ⟨by simp [LIM]; omega, widsM fun b _ => rfl⟩)
    rw [this]; simp only [fzn]; rw [fznsM fun b _ => rfl]; rfl
  have f2 : pf (k + 5) F_frozen [.lst (p.chans.map emC)] = some (.v B) := by
    have := frozen_ok (k + 4) (.lst (p.chans.map emC)) (by have := depsM (f := emC) (d := 2) (l := p.chans) fun b _ => dep_C b; simp only [dep]; omega) (by
      simp only [wid, Bool.and_eq_true, decide_eq_true_eq, List.length_map]
      exact ⟨by simp [LIM]; omega, widsM fun b hb => wid_C (by have := (V.chS b hb).2.1; omega)⟩)
    rw [this]; simp only [fzn]; rw [fznsM fun b _ => fzn_C b]
  have f3 : pf (k + 5) F_frozen [.lst (p.states.map emN)] = some (.v C) := by
    have := frozen_ok (k + 4) (.lst (p.states.map emN)) (by have := dep_Ns p.states; simp only [emNs, dep] at this ⊢; omega) (by simp only [wid, Bool.and_eq_true, decide_eq_true_eq, List.length_map]; exact ⟨by simp [LIM]; omega, widsM fun b _ => rfl⟩)
    rw [this]; simp only [fzn]; rw [fznsM fun b _ => rfl]; rfl
  have f4 : pf (k + 5) F_frozen [.lst (rs.map emR)] = some (.v D) := by
    have := frozen_ok (k + 4) (.lst (rs.map emR)) (by have := depsM (f := emR) (d := 3) (l := rs) fun b _ => dep_R b; simp only [dep]; omega) (by
      simp only [wid, Bool.and_eq_true, decide_eq_true_eq, List.length_map]
      exact ⟨by simp [LIM]; omega, widsM fun b hb => wid_R (by have := (rowOk b hb).1; omega) (by have := (rowOk b hb).2; omega)⟩)
    rw [this]; simp only [fzn]; rw [fznsM fun b _ => fzn_R b]
  refine (qx_tup rfl (v := .tup [A, B, C]) (ρ' := [some (.o (.ins 0 [])), some (.v A), some (.v B), some (.v C), some (.v (.lst (rs.map emR))), none, none, none, none, none, none, none]) ?_ (by simp [qt, qts, seqOf])).trans ?_
  · exact qe_tupD (qes_cons (qe_call (qes_cons (qe_var rfl) qes_nil) f1) (qes_cons (qe_call (qes_cons (qe_var rfl) qes_nil) f2) (qes_cons (qe_call (qes_cons (qe_var rfl) qes_nil) f3) qes_nil))) (by simp [LIM])
  refine (qx_set rfl (v := D) (qe_call (qes_cons (qe_var rfl) qes_nil) f4)).trans ?_
  have g1 : pf (k + 5) F_are_rows [B, .int 2] = some (.v (.bl true)) := by
    have := are_rows (k := k + 4) (l := p.chans.map fun c => [PV.str c.1, emWs c.2]) (n := 2) (fun r hr => by obtain ⟨c, _, rfl⟩ := List.mem_map.mp hr; rfl)
    rw [List.map_map] at this; exact this
  have g2 : pf (k + 5) F_are_rows [D, .int 6] = some (.v (.bl true)) := by
    have := are_rows (k := k + 4) (l := rs.map fun r => [emN r.st, PV.str r.nm, emN r.ps, emN r.tg, emNs r.src, .tup (r.out.map emO)]) (n := 6) (fun r hr => by obtain ⟨c, _, rfl⟩ := List.mem_map.mp hr; rfl)
    rw [List.map_map] at this; exact this
  refine (qx_iff0 (qe_or (i := false) (j := false) (qe_not (i := true) (qe_call (qes_cons (qe_var rfl) (qes_cons (qe_cst rfl) qes_nil)) g1)) fun _ => qe_or (i := false) (j := false) (qe_not (i := true) (qe_call (qes_cons (qe_var rfl) (qes_cons (qe_cst rfl) qes_nil)) g2)) fun _ => qe_not (i := true) (qe_isi (qe_var rfl) rfl))).trans ?_
  have w1 : pf (k + 5) F_are_words [A, .int 4] = some (.v (.bl true)) := are_words (k := k + 3) (m := 4) V.names (by decide)
  have w2 : pf (k + 5) F_are_words [emWs (p.chans.map (·.1)), .int 2] = some (.v (.bl true)) := are_words (k := k + 3) (m := 2) V.chN (by decide)
  refine (qx_iff0 (qe_or (i := false) (j := false) (qe_not (i := true) (qe_call (qes_cons (qe_var rfl) (qes_cons (qe_cst rfl) qes_nil)) w1)) fun _ => qe_not (i := true) (qe_call (qes_cons (v := emWs (p.chans.map (·.1))) ?_ (qes_cons (qe_cst rfl) qes_nil)) w2))).trans ?_
  · unfold emWs
    refine qe_tupB (x := .lst ((p.chans.map (·.1)).map .str)) (qe_comp (xs := p.chans.map emC) (qi_seq (qe_var rfl) rfl) (by simp [LIM]; omega) ?_) rfl
    rw [List.map_map]
    exact qcomp_mapM emC (fun c => .str c.1) fun c hc => ⟨_, by rw [qt], by rw [qb], qe_ix (qe_var rfl) (qe_cst rfl) rfl⟩
  refine (qx_iff0 (qe_not (i := true) (qe_gen (xs := p.chans.map emC) (qi_seq (qe_var rfl) rfl) (qgen_all fun y hy => ?_)))).trans ?_
  · obtain ⟨c, hc, rfl⟩ := List.mem_map.mp hy
    exact ⟨_, by rw [qt], qe_call (qes_cons (qe_ix (qe_var rfl) (qe_cst rfl) rfl) (qes_cons (qe_cst rfl) qes_nil)) (are_words (k := k + 3) (m := 4) (V.chS c hc) (by decide))⟩
  refine (qx_iff0 (qe_or (i := false) (j := false) (qe_not (i := true) ?_) fun _ => ?_)).trans ?_
  · exact qe_le2 (qe_cst rfl) (qe_len (qe_var (v := C) rfl) (lenT _)) (qe_glo rfl) (by rw [List.length_map]; omega) (by rw [List.length_map]; omega)
  · refine qe_cmp (qe_ix (qe_var rfl) (qe_cst rfl) (v := emN 0) ?_) (qe_cst rfl) (by simp only [cmpV, emN, eq_int]; rfl)
    exact ixT (i := 0) (by rw [List.getElem?_map, V.st0]; rfl)
  refine (qx_iff0 (qe_not (i := true) (qe_gen (xs := p.states.map emN) (qi_seq (qe_var rfl) rfl) (qgen_all fun y hy => ?_)))).trans ?_
  · obtain ⟨s, hs, rfl⟩ := List.mem_map.mp hy
    refine ⟨_, by rw [qt], qe_call (qes_cons (qe_var rfl) (qes_cons (qe_cst rfl) (qes_cons (qe_glo rfl) qes_nil))) ?_⟩
    have h4 := V.st4 s hs
    rw [show emN s = .int (s : Nat) from rfl, is_int (k + 4), decide_eq_true (show (0 : Int) ≤ (s : Nat) by omega), decide_eq_true (show ((s : Nat) : Int) ≤ 4 by omega)]; rfl
  refine (qx_set rfl (v := .lst ((keysL p.names p.states).map emK)) (qe_call (qes_cons (qe_var rfl) (qes_cons (qe_var rfl) qes_nil)) (keys_of (k := k + 4) nl V.st4 sl.2))).trans ?_
  refine (qx_live rfl (o := .dkn (kvs rs)) ?_ (by simp)).trans ?_
  · unfold qnew
    have ei : qi (pf (k + 5)) (pm (k + 5)) (.seq (.var 5)) [some (.o (.ins 0 [])), some (.v A), some (.v B), some (.v C), some (.v (.lst (rs.map emR))), some (.v D), some (.v (.lst ((keysL p.names p.states).map emK))), none, none, none, none, none] = some (rs.map emR) := qi_seq (qe_var rfl) rfl
    refine (congrArg (fun o => Option.bind o _) ei).trans ?_
    refine (table_ok rs [] (by simpa using nd) (by simp; omega) fun r hr => ?_)
    exact ⟨_, by rw [qt], qe_sl (qe_var rfl) qo_none (qo_some (qe_cst rfl)) rfl, qe_var rfl⟩
  have kr : (keysL p.names p.states).map emK = p.rows.map fun r => emK r.key := by rw [← V.keys, List.map_map]; rfl
  have kl : (keysL p.names p.states).length = rs.length := by rw [← V.keys, List.length_map, rlen]
  refine (qx_iff0 (qe_or (i := false) (j := false) ?_ fun _ => qe_not (i := true) (qe_gen (xs := p.rows.map fun r => emK r.key) (qi_seq (qe_var (v := .lst ((keysL p.names p.states).map emK)) rfl) (by rw [kr]; rfl)) (qgen_all fun y hy => ?_)))).trans ?_
  · refine qe_cmp (qe_len (qe_var (v := D) rfl) (lenT _)) (qe_len (qe_var rfl) (lenL _)) ?_
    simp only [cmpV, eq_int, List.length_map, kl]
    simp
  · obtain ⟨r, hr, rfl⟩ := List.mem_map.mp hy
    refine ⟨_, by rw [qt], ?_⟩
    rw [qe]
    simp only [qv]
    simp [qwipe, cmpQ, QV.rd, inQ, keyT_K, find_row nd ((mrs r).mpr hr)]
  refine (qx_iff0 (qe_not (i := true) (qe_gen (xs := rs.map emR) (qi_seq (qe_var rfl) rfl) (qgen_all fun y hy => ?_)))).trans ?_
  · obtain ⟨r, hr, rfl⟩ := List.mem_map.mp hy
    exact ⟨_, by rw [qt], qe_call (qes_cons (qe_var rfl) (qes_cons (qe_var rfl) (qes_cons (qe_var rfl) qes_nil))) (is_rule (k := k + 2) V.chOk (V.rows r ((mrs r).mp hr)) V.st4 sl.2)⟩
  refine (qx_fld (v := A) (qe_var rfl) rfl (by simp)).trans ?_
  refine (qx_fld (v := B) (qe_var rfl) rfl (by simp [putP])).trans ?_
  refine (qx_fld (v := C) (qe_var rfl) rfl (by simp [putP])).trans ?_
  refine (qx_fld (v := D2) (c := 0) (fs := [(0, A), (1, B), (2, C)]) ?_ rfl (by simp)).trans ?_
  · refine qe_tupB (x := .lst (p.rows.map emR)) (qe_comp (xs := p.rows.map fun r => emK r.key) (qi_seq (qe_var (v := .lst ((keysL p.names p.states).map emK)) rfl) (by rw [kr]; rfl)) (by simp [LIM]; omega) ?_) rfl
    refine qcomp_mapM (fun r => emK r.key) emR ?_
    intro r hr
    refine ⟨_, by rw [qt], by rw [qb], ?_⟩
    rw [qe]
    simp only [qv]
    simp [qwipe, qe, ixQ, keyT_K, find_row nd ((mrs r).mpr hr)]
  · rw [qx_nil]
    rfl
end K06
end
section
namespace K06
open PySem PM
variable {k : Nat}
theorem emN_toNat {i : Int} (h : 0 ≤ i) : PV.int i = emN i.toNat := by unfold emN; congr 1; omega
def small840 (l : List Nat) : Prop := ∀ x ∈ l, x < 840
theorem row_ex (c : Int) {n : Nat} (hn : n ≤ 1000) : ∃ l : List Nat, l.length = n ∧ small840 l ∧ pf (k + 1) F__law_row [.int c, .int (n : Nat)] = some (.v (.lst (l.map emN))) := by
  let body : CSs := (.iff (.cmp .ge (.var 0) (.pow 10 18))
    (.ex (.lm .append (.var 2) (.cons (.bop .mod (.bi .int (.cons (.var 3) .nil)) (.cst (.int 840))) .nil))
    (.asg (.var 3) (.bop .fdiv (.var 3) (.cst (.int 840)))
    .nil))
    (.asg (.var 4) (.bop .mod (.bi .int (.cons (.bop .add (.bop .mul (.var 4) (.cst (.int 48271))) (.var 5)) .nil)) (.cst (.int 2147483647)))
    (.ex (.lm .append (.var 2) (.cons (.bop .mod (.bop .fdiv (.bop .mod (.bi .int (.cons (.bop .mul (.var 4) (.cst (.int 69621))) .nil)) (.cst (.int 2147483629))) (.cst (.int 7))) (.cst (.int 840))) .nil))
    .nil))
   .nil)
  let I : Nat → QEnv → Prop := fun i ρ => ∃ (l : List Nat) (rest seed : Int) (kk : Option QV), l.length = i ∧ small840 l ∧ ρ = [some (.v (.int c)), some (.v (.int (n : Nat))), some (.o (.lst (l.map emN))), some (.v (.int rest)), some (.v (.int seed)), kk]
  have key := qfor_inv (asg := qt (pf k) (pm k) (.var 5)) (body := qx (pf k) (pm k) sub0 body) (I := I) (rngL 0 (n : Nat)) 0 [some (.v (.int c)), some (.v (.int (n : Nat))), some (.o (.lst [])), some (.v (.int c)), some (.v (.int (c % 2147483629 + 1))), none] (fun i x ρ hx hI => by
    obtain ⟨l, rest, seed, kk, h1, h2, rfl⟩ := hI
    have hi : i < n := by
      have := (List.getElem?_eq_some_iff.mp hx).1
      rw [rng_map] at this; simpa using this
    have hx2 : x = .int (i : Nat) := by
      rw [rng_map, List.getElem?_map, List.getElem?_range hi] at hx
      cases hx; rfl
    subst hx2
    refine ⟨[some (.v (.int c)), some (.v (.int (n : Nat))), some (.o (.lst (l.map emN))), some (.v (.int rest)), some (.v (.int seed)), some (.v (.int (i : Nat)))], by simp [qt], ?_⟩
    have hlim : (l.map emN).length < LIM := by rw [List.length_map]; simp [LIM]; omega
    have cond : qe (pf k) (pm k) (.cmp .ge (.var 0) (.pow 10 18)) [some (.v (.int c)), some (.v (.int (n : Nat))), some (.o (.lst (l.map emN))), some (.v (.int rest)), some (.v (.int seed)), some (.v (.int (i : Nat)))] = some (.bl (decide ((10 : Int) ^ 18 ≤ c))) :=
      qe_cmp (qe_var rfl) (show qe (pf k) (pm k) (.pow 10 18) _ = some (.int (((10 : Nat) : Int) ^ 18)) by rw [qe]) rfl
    have ext : ∀ y : Nat, y < 840 → small840 (l ++ [y]) := fun y hy z hz => by
      rcases List.mem_append.mp hz with h | h
      · exact h2 z h
      · rw [List.mem_singleton] at h; omega
    cases hc : decide ((10 : Int) ^ 18 ≤ c) with
    | true =>
      rw [hc] at cond
      have y0 : 0 ≤ rest % 840 := Int.emod_nonneg _ (by decide)
      have y1 : (rest % 840).toNat < 840 := by have := Int.emod_lt_of_pos rest (show (0 : Int) < 840 by decide); omega
      refine ⟨[some (.v (.int c)), some (.v (.int (n : Nat))), some (.o (.lst ((l ++ [(rest % 840).toNat]).map emN))), some (.v (.int (rest / 840))), some (.v (.int seed)), some (.v (.int (i : Nat)))], ?_, l ++ [(rest % 840).toNat], rest / 840, seed, _, by simp [h1], ext _ y1, rfl⟩
      refine (qx_iff1 (q := .nx _) cond ?_).trans (by rw [QR.seq, qx_nil])
      refine (qx_app (v := emN (rest % 840).toNat) (by rw [← emN_toNat y0]; exact qe_mod (qe_int (qe_var rfl) rfl) (qe_cst rfl) (by decide)) rfl hlim).trans ?_
      refine (qx_set rfl (qe_fdiv (qe_var rfl) (qe_cst rfl) (by decide) (by decide))).trans ?_
      rw [qx_nil, List.map_append]; rfl
    | false =>
      rw [hc] at cond
      let seed' := (seed * 48271 + (i : Nat)) % 2147483647
      let y := seed' * 69621 % 2147483629 / 7 % 840
      have y0 : 0 ≤ y := Int.emod_nonneg _ (by decide)
      have y1 : y.toNat < 840 := by have := Int.emod_lt_of_pos (seed' * 69621 % 2147483629 / 7) (show (0 : Int) < 840 by decide); omega
      refine ⟨[some (.v (.int c)), some (.v (.int (n : Nat))), some (.o (.lst ((l ++ [y.toNat]).map emN))), some (.v (.int rest)), some (.v (.int seed')), some (.v (.int (i : Nat)))], ?_, l ++ [y.toNat], rest, seed', _, by simp [h1], ext _ y1, rfl⟩
      refine (qx_iff2 (q := .nx _) cond ?_).trans (by rw [QR.seq, qx_nil])
      refine (qx_set rfl (v := .int seed') (qe_mod (qe_int (qe_add (qe_mul (qe_var rfl) (qe_cst rfl) (by simp [small])) (qe_var rfl)) rfl) (qe_cst rfl) (by decide))).trans ?_
      refine (qx_app (v := emN y.toNat) (xs := l.map emN) (by rw [← emN_toNat y0]; exact qe_mod (qe_fdiv (qe_mod (qe_int (qe_mul (qe_var rfl) (qe_cst rfl) (by simp [small])) rfl) (qe_cst rfl) (by decide)) (qe_cst rfl) (by decide) (by decide)) (qe_cst rfl) (by decide)) rfl hlim).trans ?_
      rw [qx_nil, List.map_append]; rfl) ⟨[], c, c % 2147483629 + 1, none, rfl, fun x hx => by (cases hx), rfl⟩
  obtain ⟨ρ', e, l, rest, seed, kk, h1, h2, rfl⟩ := key
  refine ⟨l, ?_, h2, ?_⟩
  · rw [h1, rng_map]; simp
  refine pf_at (d := c__law_row) (r := .ret (.lst (l.map emN))) rfl rfl ?_ rfl
  show qx (pf k) (pm k) sub0 c__law_row.body [some (.v (.int c)), some (.v (.int (n : Nat))), none, none, none, none] = _
  rw [c__law_row]
  refine (qx_live rfl (o := .lst []) (by simp [qnew, qes, LIM]) (by simp)).trans ?_
  refine (qx_set rfl (qe_var rfl)).trans ?_
  refine (qx_set rfl (qe_add (qe_mod (qe_int (qe_var rfl) rfl) (qe_cst rfl) (by decide)) (qe_cst rfl))).trans ?_
  refine (qx_for (qi_rng1 (qe_var rfl) (okRn (by omega))) e).trans ?_
  rw [qx]
  simp [qret, frzM, outR]
def letW (x : Str) : Prop := ∀ c ∈ x.cps.toList, 97 ≤ c ∧ c ≤ 122
theorem app_cps (a b : Str) : (a ++ b).cps.toList = a.cps.toList ++ b.cps.toList := by
  show (Str.append a b).cps.toList = _
  simp [Str.append]
theorem app_len (a b : Str) : (a ++ b).length = a.length + b.length := by
  show (Str.append a b).cps.size = a.cps.size + b.cps.size
  simp [Str.append]
theorem letW.app {a b : Str} (ha : letW a) (hb : letW b) : letW (a ++ b) := fun c hc => by
  rw [app_cps] at hc
  rcases List.mem_append.mp hc with h | h
  · exact ha c h
  · exact hb c h
theorem abc_at (n : Nat) : ∃ x, ixV [] (.str abc) (.int ((n % 26 : Nat) : Int)) = some (.str x) ∧ x.length = 1 ∧ letW x := by
  have h : n % 26 < 26 := Nat.mod_lt _ (by decide)
  have e : abc.cps.toList = (List.range 26).map (· + 97) := by decide +kernel
  have hl : abc.length ≤ LIM := by decide +kernel
  have ea : L2.atI abc.cps.toList ((n % 26 : Nat) : Int) = some (n % 26 + 97) := by
    rw [atI_nat (by rw [e]; simpa using h), e, List.getElem?_map, List.getElem?_range h]; rfl
  refine ⟨⟨#[n % 26 + 97]⟩, ?_, rfl, fun c hc => ?_⟩
  · simp only [ixV, if_pos hl, ea, Option.map_some]
  · have : c = n % 26 + 97 := by simpa using hc
    omega
theorem add_str {ρ : QEnv} {a b : CE} {x y : Str} (h1 : qe (pf k) (pm k) a ρ = some (.str x)) (h2 : qe (pf k) (pm k) b ρ = some (.str y)) (hl : x.length + y.length ≤ 1000) : qe (pf k) (pm k) (.fz (.bop .add a b)) ρ = some (.str (x ++ y)) := by
  refine qe_fzadd h1 h2 ?_
  have : decide (x.length + y.length ≤ LIM) = true := decide_eq_true (by simp [LIM]; omega)
  simp [bopA, bopV, addV, Res.need, this]
theorem fd {ρ : QEnv} {i : Nat} {n m : Nat} (h : ρ[i]? = some (some (QV.v (.int (n : Nat))))) (h0 : 0 < m) (h1 : m < 1000) : qe (pf k) (pm k) (.bop .fdiv (.var i) (.cst (.int (m : Nat)))) ρ = some (.int ((n / m : Nat) : Int)) := by
  have e := qe_fdiv (pf := pf k) (pm := pm k) (ρ := ρ) (a := .var i) (b := .cst (.int (m : Nat))) (i := (n : Nat)) (j := (m : Nat)) (qe_var h) (qe_cst rfl) (by omega) (by omega)
  rw [e, Int.natCast_ediv]
theorem md {ρ : QEnv} {a : CE} {n m : Nat} (h : qe (pf k) (pm k) a ρ = some (.int (n : Nat))) (h0 : 0 < m) : qe (pf k) (pm k) (.bop .mod a (.cst (.int (m : Nat)))) ρ = some (.int ((n % m : Nat) : Int)) := by
  have e := qe_mod (pf := pf k) (pm := pm k) (ρ := ρ) (a := a) (b := .cst (.int (m : Nat))) (i := (n : Nat)) (j := (m : Nat)) h (qe_cst rfl) (by omega)
  rw [e, Int.natCast_emod]
theorem word_ex (n : Nat) : ∃ w, 1 ≤ w.length ∧ w.length ≤ 5 ∧ letW w ∧ pf (k + 1) F__law_word [.int (n : Nat)] = some (.v (.str w)) := by
  obtain ⟨x0, e0, l0, t0⟩ := abc_at n
  obtain ⟨x1, e1, l1, t1⟩ := abc_at (n / 3)
  obtain ⟨x2, e2, l2, t2⟩ := abc_at (n / 5)
  obtain ⟨x3, e3, l3, t3⟩ := abc_at (n / 11)
  obtain ⟨x4, e4, l4, t4⟩ := abc_at (n / 2)
  let w1 : Str := if 0 < n / 26 % 3 then x0 ++ x1 else x0
  have lw1 : 1 ≤ w1.length ∧ w1.length ≤ 2 := by
    show 1 ≤ (if _ then _ else _ : Str).length ∧ (if _ then _ else _ : Str).length ≤ 2
    split <;> simp [app_len, l0, l1]
  have tw1 : letW w1 := by
    show letW (if _ then _ else _)
    split
    · exact t0.app t1
    · exact t0
  let w2 : Str := if n / 26 % 3 = 2 then w1 ++ x2 ++ x3 ++ x4 else w1
  have lw2 : 1 ≤ w2.length ∧ w2.length ≤ 5 := by
    by_cases h : n / 26 % 3 = 2
    · rw [show w2 = w1 ++ x2 ++ x3 ++ x4 from if_pos h]
      simp only [app_len, l2, l3, l4]; omega
    · rw [show w2 = w1 from if_neg h]; omega
  have tw2 : letW w2 := by
    show letW (if _ then _ else _)
    split
    · exact ((tw1.app t2).app t3).app t4
    · exact tw1
  refine ⟨w2, lw2.1, lw2.2, tw2, ?_⟩
  refine pf_at (d := c__law_word) (r := .ret (.str w2)) rfl rfl ?_ rfl
  show qx (pf k) (pm k) sub0 c__law_word.body [some (.v (.int (n : Nat))), none, none] = _
  rw [c__law_word]
  refine (qx_set rfl (v := .str abc) (qe_cst rfl)).trans ?_
  refine (qx_set rfl (v := .str x0) (qe_ix (qe_var rfl) (md (m := 26) (qe_var rfl) (by decide)) e0)).trans ?_
  have c1 : qe (pf k) (pm k) (.cmp .gt (.bop .mod (.bop .fdiv (.var 0) (.cst (.int 26))) (.cst (.int 3))) (.cst (.int 0))) [some (.v (.int (n : Nat))), some (.v (.str abc)), some (.v (.str x0))] = some (.bl (decide (0 < n / 26 % 3))) := by
    refine qe_cmp (md (m := 3) (fd (m := 26) rfl (by decide) (by decide)) (by decide)) (qe_cst rfl) ?_
    simp only [cmpV, ordV]
    congr 1
    by_cases h : 0 < n / 26 % 3 <;> simp [h] <;> omega
  have s1 : ∀ r : CSs, qx (pf k) (pm k) sub0 (.iff (.cmp .gt (.bop .mod (.bop .fdiv (.var 0) (.cst (.int 26))) (.cst (.int 3))) (.cst (.int 0)))
   (.asg (.var 2) (.fz (.bop .add (.var 2) (.ix (.var 1) (.bop .mod (.bop .fdiv (.var 0) (.cst (.int 3))) (.cst (.int 26))))))
   .nil)
   .nil r) [some (.v (.int (n : Nat))), some (.v (.str abc)), some (.v (.str x0))] = qx (pf k) (pm k) sub0 r [some (.v (.int (n : Nat))), some (.v (.str abc)), some (.v (.str w1))] := fun r => by
    by_cases h : 0 < n / 26 % 3
    · rw [decide_eq_true h] at c1
      refine (qx_iff1 (q := .nx [some (.v (.int (n : Nat))), some (.v (.str abc)), some (.v (.str w1))]) c1 ?_).trans rfl
      refine (qx_set rfl (v := .str w1) ?_).trans (by rw [qx_nil]; rfl)
      rw [show w1 = x0 ++ x1 from if_pos h]
      exact add_str (qe_var rfl) (qe_ix (qe_var rfl) (md (m := 26) (fd (m := 3) rfl (by decide) (by decide)) (by decide)) e1) (by omega)
    · rw [decide_eq_false h] at c1
      refine (qx_iff0 c1).trans ?_
      rw [show w1 = x0 from if_neg h]
  refine (s1 _).trans ?_
  have c2 : qe (pf k) (pm k) (.cmp .eq (.bop .mod (.bop .fdiv (.var 0) (.cst (.int 26))) (.cst (.int 3))) (.cst (.int 2))) [some (.v (.int (n : Nat))), some (.v (.str abc)), some (.v (.str w1))] = some (.bl (decide (n / 26 % 3 = 2))) := by
    refine qe_cmp (md (m := 3) (fd (m := 26) rfl (by decide) (by decide)) (by decide)) (qe_cst rfl) ?_
    simp only [cmpV, eq_int]
    congr 1
    by_cases h : n / 26 % 3 = 2 <;> simp [h] <;> omega
  by_cases h : n / 26 % 3 = 2
  · rw [decide_eq_true h] at c2
    refine (qx_iffT (ρ2 := [some (.v (.int (n : Nat))), some (.v (.str abc)), some (.v (.str w2))]) c2 ?_).trans (qx_ret (qe_var rfl))
    refine (qx_set rfl (v := .str w2) ?_).trans (by rw [qx_nil]; rfl)
    rw [show w2 = w1 ++ x2 ++ x3 ++ x4 from if_pos h]
    refine add_str (add_str (add_str (qe_var rfl) (qe_ix (qe_var rfl) (md (m := 26) (fd (m := 5) rfl (by decide) (by decide)) (by decide)) e2) (by omega)) (qe_ix (qe_var rfl) (md (m := 26) (fd (m := 11) rfl (by decide) (by decide)) (by decide)) e3) ?_) (qe_ix (qe_var rfl) (md (m := 26) (fd (m := 2) rfl (by decide) (by decide)) (by decide)) e4) ?_
    · simp only [app_len]; omega
    · simp only [app_len]; omega
  · rw [decide_eq_false h] at c2
    refine (qx_iff0 c2).trans ?_
    rw [show w2 = w1 from if_neg h]
    exact qx_ret (qe_var rfl)
end K06
end
section
namespace K06
open PySem PM
variable {k : Nat}
theorem letW.sOk {x : Str} (h : letW x) : K06.sOk x := by
  unfold K06.sOk
  simp only [PyData.canLay0]
  unfold PyData.strOk
  simp only [← Array.all_toList, List.all_eq_true]
  intro c hc
  have := h c hc
  simp; omega
def qq : Str := "q"
def dif (ws : List Str) (w : Str) : Str := if w ∈ ws then w ++ qq else w
theorem qq_len : qq.length = 1 := by decide +kernel
theorem qq_let : letW qq := by
  have : ∀ c ∈ qq.cps.toList, c = 113 := by decide +kernel
  intro c hc
  have := this c hc
  omega
theorem dif_ok {ws : List Str} (h : ws.length ≤ 3) (w : Str) : dif ws (dif ws (dif ws (dif ws w))) ∉ ws ∧ (dif ws (dif ws (dif ws (dif ws w)))).length ≤ w.length + 3 := by
  have ql := qq_len
  by_cases h0 : w ∈ ws
  · have e1 : dif ws w = w ++ qq := if_pos h0
    by_cases h1 : w ++ qq ∈ ws
    · have e2 : dif ws (w ++ qq) = w ++ qq ++ qq := if_pos h1
      by_cases h2 : w ++ qq ++ qq ∈ ws
      · have e3 : dif ws (w ++ qq ++ qq) = w ++ qq ++ qq ++ qq := if_pos h2
        by_cases h3 : w ++ qq ++ qq ++ qq ∈ ws
        · exfalso
          have l1 := app_len w qq
          have l2 := app_len (w ++ qq) qq
          have l3 := app_len (w ++ qq ++ qq) qq
          match ws, h, h0, h1, h2, h3 with
          | [], _, h0, _, _, _ => cases h0
          | [a], _, h0, h1, _, _ =>
            simp only [List.mem_singleton] at h0 h1
            have := congrArg Str.length h0; have := congrArg Str.length h1; omega
          | [a, b], _, h0, h1, h2, _ =>
            simp only [List.mem_cons, List.not_mem_nil, or_false] at h0 h1 h2
            have h0 := h0.imp (congrArg Str.length) (congrArg Str.length)
            have h1 := h1.imp (congrArg Str.length) (congrArg Str.length)
            have h2 := h2.imp (congrArg Str.length) (congrArg Str.length)
            omega
          | [a, b, c], _, h0, h1, h2, h3 =>
            simp only [List.mem_cons, List.not_mem_nil, or_false] at h0 h1 h2 h3
            have h0 := h0.imp (congrArg Str.length) (Or.imp (congrArg Str.length) (congrArg Str.length))
            have h1 := h1.imp (congrArg Str.length) (Or.imp (congrArg Str.length) (congrArg Str.length))
            have h2 := h2.imp (congrArg Str.length) (Or.imp (congrArg Str.length) (congrArg Str.length))
            have h3 := h3.imp (congrArg Str.length) (Or.imp (congrArg Str.length) (congrArg Str.length))
            omega
          | _ :: _ :: _ :: _ :: _, h, _, _, _, _ => simp at h
        · have e4 : dif ws (w ++ qq ++ qq ++ qq) = w ++ qq ++ qq ++ qq := if_neg h3
          rw [e1, e2, e3, e4]
          exact ⟨h3, by simp only [app_len, ql]; omega⟩
      · have e3 : dif ws (w ++ qq ++ qq) = w ++ qq ++ qq := if_neg h2
        rw [e1, e2, e3, e3]
        exact ⟨h2, by simp only [app_len, ql]; omega⟩
    · have e2 : dif ws (w ++ qq) = w ++ qq := if_neg h1
      rw [e1, e2, e2, e2]
      exact ⟨h1, by simp only [app_len, ql]; omega⟩
  · have e1 : dif ws w = w := if_neg h0
    rw [e1, e1, e1, e1]
    exact ⟨h0, by omega⟩
theorem dif_let {ws : List Str} {w : Str} (h : letW w) : letW (dif ws w) := by
  unfold dif; split
  · exact h.app qq_let
  · exact h
theorem dif_ge {ws : List Str} {w : Str} : w.length ≤ (dif ws w).length := by
  unfold dif; split
  · rw [app_len]; omega
  · exact Nat.le_refl _
theorem cnt8 : ∀ j, j < 8 → ∃ m : Nat, 1 ≤ m ∧ m ≤ 4 ∧ ixV [] (.lst [.int 1, .int 2, .int 1, .int 2, .int 1, .int 2, .int 3, .int 4]) (.int (j : Nat)) = some (.int (m : Nat))
  | 0, _ => ⟨1, by decide, by decide, rfl⟩
  | 1, _ => ⟨2, by decide, by decide, rfl⟩
  | 2, _ => ⟨1, by decide, by decide, rfl⟩
  | 3, _ => ⟨2, by decide, by decide, rfl⟩
  | 4, _ => ⟨1, by decide, by decide, rfl⟩
  | 5, _ => ⟨2, by decide, by decide, rfl⟩
  | 6, _ => ⟨3, by decide, by decide, rfl⟩
  | 7, _ => ⟨4, by decide, by decide, rfl⟩
  | j + 8, h => by omega
theorem words_ex {l : List Nat} (hl : 4 ≤ l.length) : ∃ ws, okWs 4 ws ∧ pf (k + 2) F__law_words [.lst (l.map emN)] = some (.v (emWs ws)) := by
  have a3 : ixV [] (.lst (l.map emN)) (.int (3 : Nat)) = some (emN (l[3]'(by omega))) := ixL (by rw [List.getElem?_map, List.getElem?_eq_getElem (by omega)]; rfl)
  obtain ⟨m, m1, m2, em⟩ := cnt8 ((l[3]'(by omega)) % 8) (Nat.mod_lt _ (by decide))
  let L : QV := .v (.lst (l.map emN))
  let dBody : CSs := .iff (.cmp .isin (.var 3) (.var 1)) (.asg (.var 3) (.fz (.bop .add (.var 3) (.cst (.str "q")))) .nil) .nil .nil
  let body : CSs := (.asg (.var 3) (.fz (.call F__law_word (.cons (.ix (.var 0) (.var 2)) .nil)))
   (.for (.var 4) (.rng1 (.cst (.int 4))) dBody
   (.ex (.lm .append (.var 1) (.cons (.var 3) .nil))
   .nil)))
  let I : Nat → QEnv → Prop := fun i ρ => ∃ (ws : List Str) (z2 z3 z4 : Option QV), ws.length = i ∧ (∀ w ∈ ws, okW w) ∧ ws.Nodup ∧ ρ = [some L, some (.o (.lst (ws.map .str))), z2, z3, z4]
  have key := qfor_inv (asg := qt (pf (k + 1)) (pm (k + 1)) (.var 2)) (body := qx (pf (k + 1)) (pm (k + 1)) sub0 body) (I := I) (rngL 0 (m : Nat)) 0 [some L, some (.o (.lst [])), none, none, none] (fun i x ρ hx hI => by
    obtain ⟨ws, z2, z3, z4, h1, h2, h3, rfl⟩ := hI
    have hi : i < m := by
      have := (List.getElem?_eq_some_iff.mp hx).1
      rw [rng_map] at this; simpa using this
    have hx2 : x = .int (i : Nat) := by
      rw [rng_map, List.getElem?_map, List.getElem?_range hi] at hx
      cases hx; rfl
    subst hx2
    simp only [Nat.zero_add] at h1
    refine ⟨[some L, some (.o (.lst (ws.map .str))), some (.v (.int (i : Nat))), z3, z4], by simp [qt], ?_⟩
    have ai : ixV [] (.lst (l.map emN)) (.int (i : Nat)) = some (emN (l[i]'(by omega))) := ixL (by rw [List.getElem?_map, List.getElem?_eq_getElem (by omega)]; rfl)
    obtain ⟨w, w1, w2, w3, ew⟩ := word_ex (k := k) (l[i]'(by omega))
    let E : Str → List (Option QV) → QEnv := fun w z => [some L, some (.o (.lst (ws.map .str))), some (.v (.int (i : Nat))), some (.v (.str w)), z.getD 0 none]
    obtain ⟨z', e⟩ := qfor_fold (em := fun j : Nat => PV.int (j : Nat)) (env := E) (step := fun w _ => dif ws w) (P := fun w bs => w.length + bs.length ≤ 20 ∧ letW w) (asg := qt (pf (k + 1)) (pm (k + 1)) (.var 4)) (body := qx (pf (k + 1)) (pm (k + 1)) sub0 dBody) (fun w b bs z hp => by
      obtain ⟨p1, p2⟩ := hp
      simp only [List.length_cons] at p1
      have dl : (dif ws w).length ≤ w.length + 1 := by
        unfold dif; split
        · rw [app_len, qq_len]; exact Nat.le_refl _
        · omega
      refine ⟨⟨by omega, dif_let p2⟩, E w [some (.v (.int (b : Nat)))], by simp [qt, E], [some (.v (.int (b : Nat)))], ?_⟩
      have cond : qe (pf (k + 1)) (pm (k + 1)) (.cmp .isin (.var 3) (.var 1)) (E w [some (.v (.int (b : Nat)))]) = some (.bl (decide (w ∈ ws))) := by
        rw [qe]
        simp [qv, E, cmpQ, QV.rd, inQ, inV, any_strs p2.sOk fun x hx => (h2 x hx).sOk]
      by_cases hm : w ∈ ws
      · rw [decide_eq_true hm] at cond
        refine (qx_iffT (ρ2 := E (dif ws w) [some (.v (.int (b : Nat)))]) cond ?_).trans (by rw [qx_nil])
        refine (qx_set rfl (v := .str (dif ws w)) ?_).trans (by rw [qx_nil]; rfl)
        rw [show dif ws w = w ++ qq from if_pos hm]
        exact add_str (qe_var rfl) (qe_cst rfl) (by rw [qq_len]; omega)
      · rw [decide_eq_false hm] at cond
        refine (qx_iff0 cond).trans ?_
        rw [qx_nil, show dif ws w = w from if_neg hm]) (List.range 4) w [z4] ⟨by simp; omega, w3⟩
    have e4 : (List.range 4).foldl (fun w _ => dif ws w) w = dif ws (dif ws (dif ws (dif ws w))) := rfl
    rw [e4] at e
    generalize hd : dif ws (dif ws (dif ws (dif ws w))) = d at e
    obtain ⟨d1, d2⟩ := dif_ok (ws := ws) (by omega) w
    rw [hd] at d1 d2
    have d3 : letW d := hd ▸ dif_let (dif_let (dif_let (dif_let w3)))
    have d4 : 1 ≤ d.length := by
      have a := dif_ge (ws := ws) (w := w)
      have b := dif_ge (ws := ws) (w := dif ws w)
      have c := dif_ge (ws := ws) (w := dif ws (dif ws w))
      have f := dif_ge (ws := ws) (w := dif ws (dif ws (dif ws w)))
      rw [hd] at f
      omega
    refine ⟨[some L, some (.o (.lst ((ws ++ [d]).map .str))), some (.v (.int (i : Nat))), some (.v (.str d)), z'.getD 0 none], ?_, ws ++ [d], _, _, _, by simp [h1], fun x hx => ?_, ?_, rfl⟩
    · refine (qx_set rfl (v := .str w) (qe_call (qes_cons (qe_ix (qe_var rfl) (qe_var rfl) ai) qes_nil) ew)).trans ?_
      refine (qx_for (xs := (List.range 4).map fun j : Nat => PV.int (j : Nat)) ?_ e).trans ?_
      · rw [← rng_map]; exact qi_rng1 (qe_cst rfl) rfl
      · refine (qx_app (v := .str d) (xs := ws.map .str) (qe_var rfl) rfl (by rw [List.length_map]; simp [LIM]; omega)).trans ?_
        rw [qx_nil, List.map_append]; rfl
    · rcases List.mem_append.mp hx with hx | hx
      · exact h2 x hx
      · rw [List.mem_singleton] at hx
        subst hx
        exact ⟨d4, by omega, d3⟩
    · exact List.nodup_append.mpr ⟨h3, by simp, fun a ha b hb => by rw [List.mem_singleton] at hb; subst hb; exact fun z => d1 (z ▸ ha)⟩) ⟨[], none, none, none, rfl, fun x hx => by (cases hx), List.nodup_nil, rfl⟩
  obtain ⟨ρ', e, ws, z2, z3, z4, h1, h2, h3, rfl⟩ := key
  have hlen : ws.length = m := by rw [h1, rng_map]; simp
  refine ⟨ws, ⟨by omega, by omega, h2, h3⟩, ?_⟩
  refine pf_at (d := c__law_words) (r := .ret (emWs ws)) rfl rfl ?_ rfl
  show qx (pf (k + 1)) (pm (k + 1)) sub0 c__law_words.body [some L, none, none, none, none] = _
  rw [c__law_words]
  refine (qx_live rfl (o := .lst []) (by simp [qnew, qes, LIM]) (by simp)).trans ?_
  refine (qx_for (qi_rng1 (n := (m : Nat)) (qe_ix (qe_lstD (qes_cons (qe_cst rfl) (qes_cons (qe_cst rfl) (qes_cons (qe_cst rfl) (qes_cons (qe_cst rfl) (qes_cons (qe_cst rfl) (qes_cons (qe_cst rfl) (qes_cons (qe_cst rfl) (qes_cons (qe_cst rfl) qes_nil)))))))) (by simp [LIM])) (md (m := 8) (qe_ix (qe_var rfl) (qe_cst rfl) a3) (by decide)) em) (okRn (by omega))) e).trans ?_
  exact qx_ret (qe_tuple (by simp [qr, qv, QV.rd]))
end K06
end
section
namespace K06
open PySem PM
variable {k : Nat}
theorem md2 {ρ : QEnv} {a b : CE} {n m : Nat} (h : qe (pf k) (pm k) a ρ = some (.int (n : Nat))) (h2 : qe (pf k) (pm k) b ρ = some (.int (m : Nat))) (h0 : 0 < m) : qe (pf k) (pm k) (.bop .mod a b) ρ = some (.int ((n % m : Nat) : Int)) := by
  rw [qe_mod h h2 (by omega), Int.natCast_emod]
theorem fd2 {ρ : QEnv} {a b : CE} {n m : Nat} (h : qe (pf k) (pm k) a ρ = some (.int (n : Nat))) (h2 : qe (pf k) (pm k) b ρ = some (.int (m : Nat))) (h0 : 0 < m) (h1 : m < 1000) : qe (pf k) (pm k) (.bop .fdiv a b) ρ = some (.int ((n / m : Nat) : Int)) := by
  rw [qe_fdiv h h2 (by omega) (by omega), Int.natCast_ediv]
theorem rng_at {m i : Nat} {x : PV} (hx : (rngL 0 (m : Nat))[i]? = some x) : i < m ∧ x = .int (i : Nat) := by
  have hi : i < m := by
    have := (List.getElem?_eq_some_iff.mp hx).1
    rw [rng_map] at this; simpa using this
  refine ⟨hi, ?_⟩
  rw [rng_map, List.getElem?_map, List.getElem?_range hi] at hx
  cases hx; rfl
theorem rng_length (m : Nat) : (rngL 0 (m : Nat)).length = m := by rw [rng_map]; simp
theorem sources_ex {known count number : Nat} (hc : count ≤ known) (hk : known ≤ 5) : ∃ src : List Nat, src.length = count ∧ (∀ x ∈ src, x < known) ∧ src.Pairwise (· < ·) ∧ pf (k + 1) F__law_sources [.int (known : Nat), .int (count : Nat), .int (number : Nat)] = some (.v (emNs src)) := by
  let A := QV.v (.int (known : Nat))
  let B := QV.v (.int (count : Nat))
  let C := QV.v (.int (number : Nat))
  let body : CSs := (.asg (.var 5) (.bop .mod (.bop .fdiv (.var 2) (.bop .add (.cst (.int 1)) (.bop .mul (.cst (.int 5)) (.var 4)))) (.bi .len (.cons (.var 3) .nil)))
   (.asg (.var 3) (.fz (.bop .add (.fz (.sl (.var 3) .none (.some (.var 5)))) (.fz (.sl (.var 3) (.some (.bop .add (.var 5) (.cst (.int 1)))) .none))))
   .nil))
  let I : Nat → QEnv → Prop := fun i ρ => ∃ (l : List Nat) (z4 z5 : Option QV), l.length = known - i ∧ (∀ x ∈ l, x < known) ∧ l.Pairwise (· < ·) ∧ ρ = [some A, some B, some C, some (.v (.lst (l.map emN))), z4, z5]
  have key := qfor_inv (asg := qt (pf k) (pm k) (.var 4)) (body := qx (pf k) (pm k) sub0 body) (I := I) (rngL 0 ((known - count : Nat) : Nat)) 0 [some A, some B, some C, some (.v (.lst ((List.range known).map emN))), none, none] (fun i x ρ hx hI => by
    obtain ⟨l, z4, z5, h1, h2, h3, rfl⟩ := hI
    obtain ⟨hi, rfl⟩ := rng_at hx
    simp only [Nat.zero_add] at h1 ⊢
    have hpos : 0 < l.length := by omega
    have e6 : ((1 : Int) + 5 * ((i : Nat) : Int)) = ((1 + 5 * i : Nat) : Int) := by omega
    let at_ := number / (1 + 5 * i) % l.length
    have hat : at_ < l.length := Nat.mod_lt _ hpos
    refine ⟨[some A, some B, some C, some (.v (.lst (l.map emN))), some (.v (.int (i : Nat))), z5], by simp [qt], [some A, some B, some C, some (.v (.lst ((l.take at_ ++ l.drop (at_ + 1)).map emN))), some (.v (.int (i : Nat))), some (.v (.int (at_ : Nat)))], ?_, l.take at_ ++ l.drop (at_ + 1), _, _, ?_, fun y hy => ?_, ?_, rfl⟩
    · refine (qx_set rfl (v := .int (at_ : Nat)) (md2 (m := l.length) (fd2 (m := 1 + 5 * i) (qe_var rfl) ?_ (by omega) (by omega)) ?_ hpos)).trans ?_
      · rw [← e6]; exact qe_add (qe_cst rfl) (qe_mul (qe_cst rfl) (qe_var rfl) (by simp [small]))
      · have := qe_len (pf := pf k) (pm := pm k) (ρ := [some A, some B, some C, some (.v (.lst (l.map emN))), some (.v (.int (i : Nat))), z5]) (a := .var 3) (x := .lst (l.map emN)) (qe_var rfl) (lenL _)
        rw [List.length_map] at this
        exact this
      refine (qx_set rfl (v := .lst ((l.take at_ ++ l.drop (at_ + 1)).map emN)) ?_).trans (by rw [qx_nil]; rfl)
      have s1 : slA (.lst (l.map emN)) none (some (at_ : Nat)) = some (.lst ((l.take at_).map emN)) := by rw [slA, cut_toQ, List.map_take]
      have s2 : slA (.lst (l.map emN)) (some ((at_ + 1 : Nat) : Int)) none = some (.lst ((l.drop (at_ + 1)).map emN)) := by rw [slA, cut_fromQ, List.map_drop]
      refine qe_fzadd (qe_sl (qe_var rfl) qo_none (qo_some (qe_var rfl)) s1) (qe_sl (qe_var rfl) (qo_some (i := ((at_ + 1 : Nat) : Int)) ?_) qo_none s2) ?_
      · have := qe_add (pf := pf k) (pm := pm k) (ρ := [some A, some B, some C, some (.v (.lst (l.map emN))), some (.v (.int (i : Nat))), some (.v (.int (at_ : Nat)))]) (a := .var 5) (b := .cst (.int 1)) (qe_var rfl) (qe_cst rfl)
        rw [show ((at_ + 1 : Nat) : Int) = ((at_ : Nat) : Int) + 1 by omega]; exact this
      · rw [List.map_append]
        exact addL (by simp [LIM]; omega)
    · simp; omega
    · rcases List.mem_append.mp hy with hy | hy
      · exact h2 y (List.mem_of_mem_take hy)
      · exact h2 y (List.mem_of_mem_drop hy)
    · refine h3.sublist ?_
      have : (l.take at_ ++ l.drop (at_ + 1)).Sublist (l.take at_ ++ l.drop at_) := List.Sublist.append_left (List.drop_sublist_drop_left l (Nat.le_succ _)) _
      rwa [List.take_append_drop] at this) ⟨List.range known, none, none, by simp, fun x hx => List.mem_range.mp hx, List.pairwise_lt_range, rfl⟩
  obtain ⟨ρ', e, l, z4, z5, h1, h2, h3, rfl⟩ := key
  rw [rng_length] at h1
  refine ⟨l, by omega, h2, h3, ?_⟩
  refine pf_at (d := c__law_sources) (r := .ret (emNs l)) rfl rfl ?_ rfl
  show qx (pf k) (pm k) sub0 c__law_sources.body [some A, some B, some C, none, none, none] = _
  rw [c__law_sources]
  refine (qx_set rfl (v := .lst ((List.range known).map emN)) ?_).trans ?_
  · have := qe_listR (pf := pf k) (pm := pm k) (ρ := [some A, some B, some C, none, none, none]) (a := .var 0) (n := (known : Nat)) (qe_var rfl) (okRn (by omega))
    rw [rng_map] at this
    exact this
  · refine (qx_for (qi_rng1 (n := ((known - count : Nat) : Nat)) ?_ (okRn (by omega))) e).trans (qx_ret (qe_tupB (qe_var rfl) rfl))
    rw [show ((known - count : Nat) : Int) = (known : Int) - (count : Int) by omega]
    exact qe_sub (qe_var rfl) (qe_var rfl)
theorem cnt6 : ∀ j, j < 6 → ∃ m : Nat, m ≤ 3 ∧ ixV [] (.lst [.int 0, .int 1, .int 1, .int 0, .int 2, .int 3]) (.int (j : Nat)) = some (.int (m : Nat))
  | 0, _ => ⟨0, by decide, rfl⟩
  | 1, _ => ⟨1, by decide, rfl⟩
  | 2, _ => ⟨1, by decide, rfl⟩
  | 3, _ => ⟨0, by decide, rfl⟩
  | 4, _ => ⟨2, by decide, rfl⟩
  | 5, _ => ⟨3, by decide, rfl⟩
  | j + 6, h => by omega
theorem outputs_ex {ch : List (Str × List Str)} {cv : PV} (hcv : cv = .lst (ch.map emC) ∨ cv = .tup (ch.map emC)) {known number more : Nat} (h0 : 0 < ch.length) (hs : ∀ c ∈ ch, 0 < c.2.length) (hk : 0 < known) : ∃ out : List (Str × Str × Nat), out.length ≤ 3 ∧ (∀ o ∈ out, okO ch known o) ∧
    pf (k + 1) F__law_outputs [cv, .int (known : Nat), .int (number : Nat), .int (more : Nat)] = some (.v (.tup (out.map emO))) := by
  obtain ⟨m, m3, em⟩ := cnt6 (number % 6) (Nat.mod_lt _ (by decide))
  let A := QV.v cv
  let B := QV.v (.int (known : Nat))
  let C := QV.v (.int (number : Nat))
  let D := QV.v (.int (more : Nat))
  have lcv : lenV [] cv = some ch.length := by
    rcases hcv with rfl | rfl
    · rw [lenL, List.length_map]
    · rw [lenT, List.length_map]
  have icv : ∀ {i : Nat} (h : i < ch.length), ixV [] cv (.int (i : Nat)) = some (emC ch[i]) := fun {i} h => by
    have e : (ch.map emC)[i]? = some (emC ch[i]) := by rw [List.getElem?_map, List.getElem?_eq_getElem h]; rfl
    rcases hcv with rfl | rfl
    · exact ixL e
    · exact ixT e
  let body : CSs := (.asg (.var 6) (.ix (.var 0) (.bop .mod (.bop .fdiv (.var 2) (.bop .add (.cst (.int 6)) (.bop .mul (.cst (.int 2)) (.var 5)))) (.bi .len (.cons (.var 0) .nil))))
   (.ex (.lm .append (.var 4) (.cons (.tup (.cons (.ix (.var 6) (.cst (.int 0))) (.cons (.ix (.ix (.var 6) (.cst (.int 1))) (.bop .mod (.bop .fdiv (.var 2) (.bop .add (.cst (.int 10)) (.var 5))) (.bi .len (.cons (.ix (.var 6) (.cst (.int 1))) .nil)))) (.cons (.bop .mod (.fz (.bop .add (.var 3) (.var 5))) (.var 1)) .nil)))) .nil))
   .nil))
  let I : Nat → QEnv → Prop := fun i ρ => ∃ (l : List (Str × Str × Nat)) (z5 z6 : Option QV), l.length = i ∧ (∀ o ∈ l, okO ch known o) ∧ ρ = [some A, some B, some C, some D, some (.o (.lst (l.map emO))), z5, z6]
  have key := qfor_inv (asg := qt (pf k) (pm k) (.var 5)) (body := qx (pf k) (pm k) sub0 body) (I := I) (rngL 0 (m : Nat)) 0 [some A, some B, some C, some D, some (.o (.lst [])), none, none] (fun i x ρ hx hI => by
    obtain ⟨l, z5, z6, h1, h2, rfl⟩ := hI
    obtain ⟨hi, rfl⟩ := rng_at hx
    simp only [Nat.zero_add] at h1 ⊢
    have ha : number / (6 + 2 * i) % ch.length < ch.length := Nat.mod_lt _ h0
    have hsc : 0 < (ch[number / (6 + 2 * i) % ch.length]).2.length := hs _ (List.getElem_mem ha)
    generalize hc : ch[number / (6 + 2 * i) % ch.length] = c at hsc
    have hcm : c ∈ ch := hc ▸ List.getElem_mem ha
    have hb : number / (10 + i) % c.2.length < c.2.length := Nat.mod_lt _ hsc
    let o : Str × Str × Nat := (c.1, c.2[number / (10 + i) % c.2.length], (more + i) % known)
    refine ⟨[some A, some B, some C, some D, some (.o (.lst (l.map emO))), some (.v (.int (i : Nat))), z6], by simp [qt], [some A, some B, some C, some D, some (.o (.lst ((l ++ [o]).map emO))), some (.v (.int (i : Nat))), some (.v (emC c))], ?_, l ++ [o], _, _, by simp [h1], fun y hy => ?_, rfl⟩
    · have e6 : ((6 : Int) + 2 * ((i : Nat) : Int)) = ((6 + 2 * i : Nat) : Int) := by omega
      have e10 : ((10 : Int) + ((i : Nat) : Int)) = ((10 + i : Nat) : Int) := by omega
      refine (qx_set rfl (v := emC c) (qe_ix (qe_var rfl) (md2 (m := ch.length) (fd2 (n := number) (m := 6 + 2 * i) (qe_var rfl) ?_ (by omega) (by omega)) (qe_len (qe_var rfl) lcv) h0) (by rw [icv ha, hc]))).trans ?_
      · rw [← e6]; exact qe_add (qe_cst rfl) (qe_mul (qe_cst rfl) (qe_var rfl) (by simp [small]))
      have ix1 : qe (pf k) (pm k) (.ix (.var 6) (.cst (.int 1))) [some A, some B, some C, some D, some (.o (.lst (l.map emO))), some (.v (.int (i : Nat))), some (.v (emC c))] = some (emWs c.2) := qe_ix (qe_var rfl) (qe_cst rfl) rfl
      refine (qx_app (v := emO o) (xs := l.map emO) (qe_tupD (qes_cons (qe_ix (qe_var rfl) (qe_cst rfl) rfl) (qes_cons (qe_ix (v := .str o.2.1) ix1 (md2 (m := c.2.length) (fd2 (n := number) (m := 10 + i) (qe_var rfl) ?_ (by omega) (by omega)) ?_ hsc) ?_) (qes_cons (v := emN o.2.2) ?_ qes_nil))) (by simp [LIM])) rfl (by rw [List.length_map]; simp [LIM]; omega)).trans (by rw [qx_nil, List.map_append]; rfl)
      · rw [← e10]; exact qe_add (qe_cst rfl) (qe_var rfl)
      · have := qe_len ix1 (lenT _)
        rw [List.length_map] at this; exact this
      · exact ixT (by rw [List.getElem?_map, List.getElem?_eq_getElem hb]; rfl)
      · refine md2 (n := more + i) (m := known) ?_ (qe_var rfl) hk
        rw [show ((more + i : Nat) : Int) = (more : Int) + (i : Nat) by omega]
        exact qe_fzadd (qe_var rfl) (qe_var rfl) rfl
    · rcases List.mem_append.mp hy with hy | hy
      · exact h2 y hy
      · rw [List.mem_singleton] at hy
        subst hy
        exact ⟨Nat.mod_lt _ hk, c, hcm, rfl, List.getElem_mem hb⟩) ⟨[], none, none, rfl, fun x hx => by (cases hx), rfl⟩
  obtain ⟨ρ', e, l, z5, z6, h1, h2, rfl⟩ := key
  rw [rng_length] at h1
  refine ⟨l, by omega, h2, ?_⟩
  refine pf_at (d := c__law_outputs) (r := .ret (.tup (l.map emO))) rfl rfl ?_ rfl
  show qx (pf k) (pm k) sub0 c__law_outputs.body [some A, some B, some C, some D, none, none, none] = _
  rw [c__law_outputs]
  refine (qx_live rfl (o := .lst []) (by simp [qnew, qes, LIM]) (by simp)).trans ?_
  refine (qx_for (qi_rng1 (n := (m : Nat)) (qe_ix (qe_lstD (qes_cons (qe_cst rfl) (qes_cons (qe_cst rfl) (qes_cons (qe_cst rfl) (qes_cons (qe_cst rfl) (qes_cons (qe_cst rfl) (qes_cons (qe_cst rfl) qes_nil)))))) (by simp [LIM])) (md (m := 6) (qe_var rfl) (by decide)) em) (okRn (by omega))) e).trans ?_
  exact qx_ret (qe_tuple (by simp [qr, qv, QV.rd]))
end K06
end
section
namespace K06
open PySem PM
variable {k : Nat}
def EK (n s : PV) (c : List PV) (z : List (Option QV)) : QEnv := [some (.v n), some (.v s), some (.v (.lst c)), z.getD 0 none, z.getD 1 none, z.getD 2 none]
def EK1 (n s a : PV) (c : List PV) (z : List (Option QV)) : QEnv := [some (.v n), some (.v s), some (.v (.lst c)), some (.v a), z.getD 0 none, z.getD 1 none]
theorem len36 (s : Nat × Nat) (h : s.1 ≤ 4) : ∀ l : List Str, (l.flatMap fun nm => (List.range (2 * s.1 + 1)).map fun q => emK (s.2, nm, q)).length ≤ 9 * l.length
  | [] => by simp
  | a :: l => by
    have := len36 s h l
    simp only [List.flatMap_cons, List.length_append, List.length_map, List.length_range, List.length_cons]; omega
theorem law_keys {names : List Str} {states : List Nat} (hn : names.length ≤ 4) (hs : ∀ s ∈ states, s ≤ 4) (hl : states.length ≤ 10) : pf (k + 1) F__law_keys [emWs names, emNs states] = some (.v (.lst ((keysL names states).map emK))) := by
  refine pf_at (d := c__law_keys) (r := .ret (.lst ((keysL names states).map emK))) rfl rfl ?_ rfl
  show qx (pf k) (pm k) sub0 c__law_keys.body [some (.v (emWs names)), some (.v (emNs states)), none, none, none, none] = _
  rw [c__law_keys]
  refine (qx_set rfl (v := .lst []) (qe_lstD qes_nil (by simp [LIM]))).trans ?_
  let inner : CSs := (.asg (.var 2) (.fz (.bop .add (.var 2) (.fz (.comp (.tup (.cons (.var 3) (.cons (.var 4) (.cons (.var 5) .nil)))) [5] (.var 5) (.rng1 (.bop .add (.bop .mul (.cst (.int 2)) (.ix (.var 1) (.var 3))) (.cst (.int 1)))) .none))))
    .nil)
  have mid : ∀ (s cnt : Nat) (c : List PV) (z : List (Option QV)), states[s]? = some cnt → cnt ≤ 4 → c.length ≤ 900 → ∃ z', qfor (qt (pf k) (pm k) (.var 4)) (qx (pf k) (pm k) sub0 inner) (names.map .str) (EK1 (emWs names) (emNs states) (emN s) c z) = some (.nx (EK1 (emWs names) (emNs states) (emN s) (c ++ names.flatMap fun nm => (List.range (2 * cnt + 1)).map fun q => emK (s, nm, q)) z')) := by
    intro s cnt c z h0 h1 h2
    obtain ⟨z', e⟩ := qfor_fold (em := PV.str) (env := EK1 (emWs names) (emNs states) (emN s)) (step := fun c nm => c ++ (List.range (2 * cnt + 1)).map fun q => emK (s, nm, q)) (P := fun c bs => c.length + 9 * bs.length ≤ 940)
      (asg := qt (pf k) (pm k) (.var 4)) (body := qx (pf k) (pm k) sub0 inner) (fun c nm bs z hp => by
        simp only [List.length_cons] at hp
        refine ⟨by simp; omega, EK1 (emWs names) (emNs states) (emN s) c [some (.v (.str nm)), z.getD 1 none], by simp [qt, EK1], [some (.v (.str nm)), z.getD 1 none], ?_⟩
        refine (qx_set rfl (v := .lst (c ++ (List.range (2 * cnt + 1)).map fun q => emK (s, nm, q))) (qe_fzadd (qe_var rfl) (y := .lst ((List.range (2 * cnt + 1)).map fun q => emK (s, nm, q))) (qe_comp (xs := (List.range (2 * cnt + 1)).map fun i => PV.int (i : Nat)) ?_ (by simp [LIM]; omega) ?_) (addL (by simp [LIM]; omega)))).trans (by rw [qx_nil]; rfl)
        · rw [← rng_map]
          refine qi_rng1 ?_ (okRn (by omega))
          rw [show ((2 * cnt + 1 : Nat) : Int) = 2 * (cnt : Int) + 1 by omega]
          refine qe_add (qe_mul (qe_cst rfl) (qe_ix (v := .int (cnt : Nat)) (qe_var rfl) (qe_var (v := emN s) rfl) ?_) (by simp [small])) (qe_cst rfl)
          have hs : s < states.length := (List.getElem?_eq_some_iff.mp h0).1
          have := ix_Ns hs
          rw [List.getD_eq_getElem?_getD, h0] at this
          exact this
        · refine qcomp_mapM (fun i : Nat => PV.int (i : Nat)) (fun q => emK (s, nm, q)) ?_
          intro q hq
          exact ⟨_, by rw [qt], by rw [qb], qe_tupD (qes_cons (qe_var rfl) (qes_cons (qe_var rfl) (qes_cons (qe_var rfl) qes_nil))) (by simp [LIM])⟩) names c z (by omega)
    refine ⟨z', ?_⟩
    rw [e, foldl_flat]
  obtain ⟨z', e⟩ := qfor_fold (em := fun p : Nat × Nat => PV.int (p.2 : Nat)) (env := EK (emWs names) (emNs states)) (step := fun c p => c ++ names.flatMap fun nm => (List.range (2 * p.1 + 1)).map fun q => emK (p.2, nm, q)) (P := fun c bs => c.length + 36 * bs.length ≤ 400 ∧ ∀ p ∈ bs, states[p.2]? = some p.1)
      (asg := qt (pf k) (pm k) (.var 3)) (body := qx (pf k) (pm k) sub0 (.for (.var 4) (.seq (.var 0)) inner .nil)) (fun c p bs z hp => by
        obtain ⟨hp1, hp2⟩ := hp
        simp only [List.length_cons] at hp1
        have h3 := hp2 p List.mem_cons_self
        have h4 : p.1 ≤ 4 := hs _ (List.mem_of_getElem? h3)
        have := len36 p h4 names
        refine ⟨⟨by rw [List.length_append]; omega, fun q hq => hp2 q (List.mem_cons_of_mem _ hq)⟩, EK (emWs names) (emNs states) c [some (.v (emN p.2)), z.getD 1 none, z.getD 2 none], by simp [qt, EK, emN], ?_⟩
        obtain ⟨z2, e2⟩ := mid p.2 p.1 c [z.getD 1 none, z.getD 2 none] h3 h4 (by omega)
        refine ⟨[some (.v (emN p.2)), z2.getD 0 none, z2.getD 1 none], ?_⟩
        exact (qx_for (qi_seq (xs := names.map .str) (qe_var rfl) rfl) e2).trans (by rw [qx_nil]; rfl)) states.zipIdx [] [] ⟨by simp; omega, fun p hp => by obtain ⟨a, b⟩ := p; exact List.mem_zipIdx_iff_getElem?.mp hp⟩
  rw [foldl_flat, List.nil_append] at e
  have ek : (states.zipIdx.flatMap fun p : Nat × Nat => names.flatMap fun nm => (List.range (2 * p.1 + 1)).map fun q => emK (p.2, nm, q)) = (keysL names states).map emK := by
    unfold keysL
    simp [List.map_flatMap, List.map_map, Function.comp_def]
  rw [ek] at e
  refine (qx_for (xs := states.zipIdx.map fun p => PV.int (p.2 : Nat)) ?_ e).trans (qx_ret (qe_var rfl))
  have er : (states.zipIdx.map fun p : Nat × Nat => PV.int (p.2 : Nat)) = rngL 0 (states.length : Nat) := by
    have h := congrArg (List.map fun i : Nat => PV.int (i : Nat)) (List.zipIdx_map_snd 0 states)
    rw [List.map_map] at h
    rw [rng_map, List.range_eq_range']
    exact h
  rw [er]
  refine qi_rng1 ?_ (okRn (by omega))
  have := len_tup (k := k) (ρ := [some (.v (emWs names)), some (.v (emNs states)), some (.v (.lst [])), none, none, none]) (i := 1) (xs := states.map emN) rfl
  rw [List.length_map] at this
  exact this
theorem qcomp_filterM {β : Type} {asg : PV → Option QEnv} {cond : QEnv → Option Bool} {elt : QEnv → Option PV} (em g : β → PV) (p : β → Bool) : ∀ {bs : List β}, (∀ b ∈ bs, ∃ ρ, asg (em b) = some ρ ∧ cond ρ = some (p b) ∧ (p b = true → elt ρ = some (g b))) → qcomp asg cond elt (bs.map em) = some ((bs.filter p).map g)
  | [], _ => rfl
  | b :: bs, h => by
    obtain ⟨ρ, e1, e2, e3⟩ := h b List.mem_cons_self
    have ih := qcomp_filterM em g p (bs := bs) fun y hy => h y (List.mem_cons_of_mem _ hy)
    cases hp : p b with
    | true =>
      rw [hp] at e2
      simp only [List.map_cons, qcomp, e1, Option.bind_some, e2, if_true, e3 hp, ih, Option.map_some, List.filter_cons, hp]
    | false =>
      rw [hp] at e2
      simp only [List.map_cons, qcomp, e1, Option.bind_some, e2, Bool.false_eq_true, if_false, ih, List.filter_cons, hp]
theorem len_live {ρ : QEnv} {i : Nat} {xs : List PV} (h : ρ[i]? = some (some (QV.o (.lst xs)))) : qe (pf k) (pm k) (.bi .len (.cons (.var i) .nil)) ρ = some (.int xs.length) := by
  rw [qe, qrs, qrs]
  simp [qr, qv, h, QV.rd, bqP, biV, b1, lenV, seqOf, lstOf, Res.opt, okP]
theorem qb_some {e : CE} {ρ : QEnv} {b : Bool} (h : qe (pf k) (pm k) e ρ = some (.bl b)) : qb (pf k) (pm k) (.some e) ρ = some b := by
  rw [qb]; simp only [h, Option.bind_some, truth]
def tgs (states : List Nat) (kn : Nat) : List Nat := (List.range states.length).filter fun i => decide (states.getD i 0 ≤ kn)
theorem tgs_ok {states : List Nat} {kn x : Nat} (h : x ∈ tgs states kn) : x < states.length ∧ states.getD x 0 ≤ kn := by
  unfold tgs at h
  rw [List.mem_filter, List.mem_range, decide_eq_true_eq] at h
  exact h
theorem tgs_pos {states : List Nat} {kn : Nat} (h : states[0]? = some 0) : 0 < (tgs states kn).length := by
  refine List.length_pos_of_mem (a := 0) ?_
  unfold tgs
  rw [List.mem_filter, List.mem_range, decide_eq_true_eq, List.getD_eq_getElem?_getD, h]
  exact ⟨(List.getElem?_eq_some_iff.mp h).1, Nat.zero_le _⟩
theorem targets {ρ : QEnv} {a c kn : Nat} {states : List Nat} {it : CE} (ha : ρ[a]? = some (some (QV.v (emNs states)))) (h8 : ρ[8]? = some (some (QV.v (.int (kn : Nat))))) (hca : c ≠ a) (hc8 : c ≠ 8) (hcl : c < ρ.length) (hit : qe (pf k) (pm k) it ρ = some (.int (states.length : Nat))) (hl : states.length ≤ 10) :
    qe (pf k) (pm k) (.fz (.comp (.var c) [c] (.var c) (.rng1 it) (.some (.cmp .le (.ix (.var a) (.var c)) (.var 8))))) ρ = some (.lst ((tgs states kn).map emN)) := by
  refine qe_comp (xs := (List.range states.length).map fun i => PV.int (i : Nat)) ?_ (by simp [LIM]; omega) ?_
  · rw [← rng_map]; exact qi_rng1 hit (okRn (by omega))
  refine qcomp_filterM (fun i : Nat => PV.int (i : Nat)) emN _ ?_
  intro i hi
  rw [List.mem_range] at hi
  have z1 : ((qwipe ρ [c]).set c (some (.v (.int (i : Nat)))))[a]? = some (some (QV.v (emNs states))) := by
    simp only [qwipe, List.set_set, List.getElem?_set_ne hca, ha]
  have z2 : ((qwipe ρ [c]).set c (some (.v (.int (i : Nat)))))[8]? = some (some (QV.v (.int (kn : Nat)))) := by
    simp only [qwipe, List.set_set, List.getElem?_set_ne hc8, h8]
  have z3 : ((qwipe ρ [c]).set c (some (.v (.int (i : Nat)))))[c]? = some (some (QV.v (.int (i : Nat)))) := by
    simp only [qwipe, List.set_set, List.getElem?_set_self hcl]
  refine ⟨_, by rw [qt], qb_some (qe_cmp (qe_ix (qe_var z1) (qe_var z3) (ix_Ns hi)) (qe_var z2) ?_), fun _ => qe_var z3⟩
  simp only [cmpV, emN, ordV]
  congr 1
  by_cases h : states.getD i 0 ≤ kn
  · rw [decide_eq_true h]; exact decide_eq_true (by omega)
  · rw [decide_eq_false h]; exact decide_eq_false (by omega)
theorem known {ρ : QEnv} {a : Nat} {states : List Nat} {q : Nat × Str × Nat} (ha : ρ[a]? = some (some (QV.v (emNs states)))) (h6 : ρ[6]? = some (some (QV.v (emK q)))) (hq : q.1 < states.length) :
    qe (pf k) (pm k) (.bop .sub (.bop .add (.ix (.var a) (.ix (.var 6) (.cst (.int 0)))) (.cst (.int 1))) (.bop .mod (.ix (.var 6) (.cst (.int 2))) (.cst (.int 2)))) ρ = some (.int ((states.getD q.1 0 + 1 - q.2.2 % 2 : Nat) : Int)) := by
  have e := qe_sub (pf := pf k) (pm := pm k) (qe_add (qe_ix (qe_var ha) (qe_ix (qe_var h6) (qe_cst (v := .int 0) rfl) (v := emN q.1) rfl) (ix_Ns hq)) (qe_cst (v := .int 1) rfl)) (md (m := 2) (qe_ix (qe_var h6) (qe_cst (v := .int 2) rfl) (v := emN q.2.2) rfl) (by decide))
  rw [show ((states.getD q.1 0 + 1 - q.2.2 % 2 : Nat) : Int) = ((states.getD q.1 0 : Nat) : Int) + 1 - ((q.2.2 % 2 : Nat) : Int) by
    have : q.2.2 % 2 < 2 := Nat.mod_lt _ (by decide)
    omega]
  exact e
end K06
end
section
namespace K06
open PySem PM
variable {k : Nat}
theorem mem_keys {names : List Str} {states : List Nat} {q : Nat × Str × Nat} (h : q ∈ keysL names states) : q.1 < states.length ∧ q.2.1 ∈ names ∧ q.2.2 ≤ 2 * states.getD q.1 0 := by
  unfold keysL at h
  obtain ⟨⟨s, i⟩, h1, h2⟩ := List.mem_flatMap.mp h
  obtain ⟨nm, h3, h4⟩ := List.mem_flatMap.mp h2
  obtain ⟨p, h5, rfl⟩ := List.mem_map.mp h4
  have h6 := List.mem_zipIdx_iff_getElem?.mp h1
  rw [List.mem_range] at h5
  refine ⟨(List.getElem?_eq_some_iff.mp h6).1, h3, ?_⟩
  show p ≤ 2 * states.getD i 0
  rw [List.getD_eq_getElem?_getD, h6]
  show p ≤ 2 * s
  omega
def knO (states : List Nat) (q : Nat × Str × Nat) : Nat := states.getD q.1 0 + 1 - q.2.2 % 2
theorem kn_pos {names : List Str} {states : List Nat} {q : Nat × Str × Nat} (h : q ∈ keysL names states) : 0 < knO states q := by
  have := (mem_keys h).2.2
  unfold knO
  have h2 : q.2.2 % 2 < 2 := Nat.mod_lt _ (by decide)
  by_cases h0 : states.getD q.1 0 = 0
  · have : q.2.2 = 0 := by omega
    rw [this]; omega
  · omega
theorem kn_le {states : List Nat} (hs : ∀ s ∈ states, s ≤ 4) (q : Nat × Str × Nat) : knO states q ≤ 5 := by
  unfold knO
  have : states.getD q.1 0 ≤ 4 := by
    rw [List.getD_eq_getElem?_getD]
    cases h : states[q.1]? with
    | none => exact Nat.zero_le _
    | some v => exact hs v (List.mem_of_getElem? h)
  omega
theorem row_ok {names : List Str} {states : List Nat} {chans : List (Str × List Str)} {q : Nat × Str × Nat} {tg : Nat} {src : List Nat} {out : List (Str × Str × Nat)} (hq : q ∈ keysL names states) (ht : tg ∈ tgs states (knO states q)) (h1 : src.length = states.getD tg 0) (h2 : ∀ x ∈ src, x < knO states q) (h3 : src.Pairwise (· < ·)) (h4 : out.length ≤ 3) (h5 : ∀ o ∈ out, okO chans (knO states q) o) :
    okRow states chans ⟨q.1, q.2.1, q.2.2, tg, src, out⟩ where
  st := (mem_keys hq).1
  ps := (mem_keys hq).2.2
  tg := (tgs_ok ht).1
  src := h1
  srcL := h2
  asc := fun i hi x y hx hy => by
    obtain ⟨a1, a2⟩ := List.getElem?_eq_some_iff.mp hx
    obtain ⟨b1, b2⟩ := List.getElem?_eq_some_iff.mp hy
    have := List.pairwise_iff_getElem.mp h3 i (i + 1) a1 b1 (Nat.lt_succ_self i)
    rw [a2, b2] at this
    exact this
  outL := h4
  out := h5
theorem four {d : List Nat} (h : d.length = 4) : ∃ a b c e, d = [a, b, c, e] := by
  match d, h with
  | [a, b, c, e], _ => exact ⟨a, b, c, e, rfl⟩
def rBody : CSs :=
   (.asg (.var 7) (.fz (.sl (.var 2) (.some (.bop .add (.cst (.int 4)) (.bop .mul (.cst (.int 4)) (.bi .len (.cons (.var 5) .nil))))) (.some (.bop .add (.cst (.int 8)) (.bop .mul (.cst (.int 4)) (.bi .len (.cons (.var 5) .nil)))))))
   (.asg (.var 8) (.bop .sub (.bop .add (.ix (.var 3) (.ix (.var 6) (.cst (.int 0)))) (.cst (.int 1))) (.bop .mod (.ix (.var 6) (.cst (.int 2))) (.cst (.int 2))))
   (.asg (.var 9) (.fz (.comp (.var 12) [12] (.var 12) (.rng1 (.bi .len (.cons (.var 3) .nil))) (.some (.cmp .le (.ix (.var 3) (.var 12)) (.var 8)))))
   (.asg (.var 10) (.ix (.var 9) (.bop .mod (.ix (.var 7) (.cst (.int 0))) (.bi .len (.cons (.var 9) .nil))))
   (.asg (.var 11) (.tup .nil)
   (.iff (.cmp .gt (.var 8) (.cst (.int 0)))
    (.asg (.var 11) (.fz (.call F__law_outputs (.cons (.var 4) (.cons (.var 8) (.cons (.ix (.var 7) (.cst (.int 2))) (.cons (.ix (.var 7) (.cst (.int 3))) .nil))))))
    .nil)
    .nil
   (.ex (.lm .append (.var 5) (.cons (.fz (.bop .add (.var 6) (.tup (.cons (.var 10) (.cons (.fz (.call F__law_sources (.cons (.var 8) (.cons (.ix (.var 3) (.var 10)) (.cons (.ix (.var 7) (.cst (.int 1))) .nil))))) (.cons (.var 11) .nil)))))) .nil))
   .nil)))))))
def chG (chans : List (Str × List Str)) : Prop := 0 < chans.length ∧ ∀ c ∈ chans, 0 < c.2.length
theorem key_add {q : Nat × Str × Nat} {tg : Nat} {src : List Nat} {out : List (Str × Str × Nat)} : bopA .add (emK q) (.tup [emN tg, emNs src, .tup (out.map emO)]) = some (emR ⟨q.1, q.2.1, q.2.2, tg, src, out⟩) := by
  unfold emK
  rw [addT (by simp [LIM]) rfl]
  rfl
theorem rows_ex (cv : PV) {names : List Str} {states : List Nat} {chans : List (Str × List Str)} {l : List Nat} (hl : l.length = 220) (h0 : states[0]? = some 0) (hs : ∀ s ∈ states, s ≤ 4) (hsl : states.length ≤ 10) (h53 : (keysL names states).length ≤ 53) (hc : chG chans) :
    ∃ (rows : List Row) (zs : List (Option QV)), rows.map Row.key = keysL names states ∧ (∀ r ∈ rows, okRow states chans r) ∧ zs.length = 7 ∧
      qfor (qt (pf (k + 2)) (pm (k + 2)) (.var 6)) (qx (pf (k + 2)) (pm (k + 2)) sub0 rBody) ((keysL names states).map emK) [some (.v cv), some (.v (emWs names)), some (.v (.lst (l.map emN))), some (.v (emNs states)), some (.v (.lst (chans.map emC))), some (.o (.lst [])), none, none, none, none, none, none, none] = some (.nx ([some (.v cv), some (.v (emWs names)), some (.v (.lst (l.map emN))), some (.v (emNs states)), some (.v (.lst (chans.map emC))), some (.o (.lst (rows.map emR)))] ++ zs)) := by
  let I : Nat → QEnv → Prop := fun i ρ => ∃ (rows : List Row) (z6 z7 z8 z9 z10 z11 z12 : Option QV), rows.map Row.key = (keysL names states).take i ∧ (∀ r ∈ rows, okRow states chans r) ∧ ρ = [some (.v cv), some (.v (emWs names)), some (.v (.lst (l.map emN))), some (.v (emNs states)), some (.v (.lst (chans.map emC))), some (.o (.lst (rows.map emR))), z6, z7, z8, z9, z10, z11, z12]
  have key := qfor_inv (asg := qt (pf (k + 2)) (pm (k + 2)) (.var 6)) (body := qx (pf (k + 2)) (pm (k + 2)) sub0 rBody) (I := I) ((keysL names states).map emK) 0 [some (.v cv), some (.v (emWs names)), some (.v (.lst (l.map emN))), some (.v (emNs states)), some (.v (.lst (chans.map emC))), some (.o (.lst [])), none, none, none, none, none, none, none] (fun j x ρ hx hI => by
    obtain ⟨rows, z6, z7, z8, z9, z10, z11, z12, h1, h2, rfl⟩ := hI
    simp only [Nat.zero_add] at h1 ⊢
    rw [List.getElem?_map] at hx
    obtain ⟨q, hq, rfl⟩ := Option.map_eq_some_iff.mp hx
    have hj : j < (keysL names states).length := (List.getElem?_eq_some_iff.mp hq).1
    have hqm : q ∈ keysL names states := List.mem_of_getElem? hq
    have hrl : rows.length = j := by
      have := congrArg List.length h1
      rw [List.length_map, List.length_take] at this
      omega
    obtain ⟨qs, qn, qp⟩ := mem_keys hqm
    have kp := kn_pos hqm
    have kl := kn_le hs q
    have hd : ((l.take (8 + 4 * j)).drop (4 + 4 * j)).length = 4 := by rw [List.length_drop, List.length_take]; omega
    obtain ⟨d0, d1, d2, d3, ed⟩ := four hd
    have tp := tgs_pos (kn := knO states q) h0
    have tl : d0 % (tgs states (knO states q)).length < (tgs states (knO states q)).length := Nat.mod_lt _ tp
    have etg : (tgs states (knO states q))[d0 % (tgs states (knO states q)).length]? = some (tgs states (knO states q))[d0 % (tgs states (knO states q)).length] := List.getElem?_eq_getElem tl
    have htg : (tgs states (knO states q))[d0 % (tgs states (knO states q)).length] ∈ tgs states (knO states q) := List.getElem_mem tl
    generalize (tgs states (knO states q))[d0 % (tgs states (knO states q)).length] = tg at etg htg
    obtain ⟨src, s1, s2, s3, es⟩ := sources_ex (k := k + 1) (known := knO states q) (count := states.getD tg 0) (number := d1) (tgs_ok htg).2 kl
    obtain ⟨out, o1, o2, eo⟩ := outputs_ex (k := k + 1) (ch := chans) (cv := .lst (chans.map emC)) (.inl rfl) (known := knO states q) (number := d2) (more := d3) hc.1 hc.2 kp
    let r : Row := ⟨q.1, q.2.1, q.2.2, tg, src, out⟩
    have okr : okRow states chans r := row_ok hqm htg s1 s2 s3 o1 o2
    refine ⟨[some (.v cv), some (.v (emWs names)), some (.v (.lst (l.map emN))), some (.v (emNs states)), some (.v (.lst (chans.map emC))), some (.o (.lst (rows.map emR))), some (.v (emK q)), z7, z8, z9, z10, z11, z12], by simp [qt],
      [some (.v cv), some (.v (emWs names)), some (.v (.lst (l.map emN))), some (.v (emNs states)), some (.v (.lst (chans.map emC))), some (.o (.lst ((rows ++ [r]).map emR))), some (.v (emK q)), some (.v (.lst ([d0, d1, d2, d3].map emN))), some (.v (.int (knO states q : Nat))), some (.v (.lst ((tgs states (knO states q)).map emN))), some (.v (emN tg)), some (.v (.tup (out.map emO))), z12], ?_, rows ++ [r], _, _, _, _, _, _, _, ?_, fun y hy => ?_, rfl⟩
    · rw [rBody]
      have c5 : ∀ (m : Nat) (ρ : QEnv), ρ[5]? = some (some (QV.o (.lst (rows.map emR)))) → qe (pf (k + 2)) (pm (k + 2)) (.bop .add (.cst (.int (m : Nat))) (.bop .mul (.cst (.int 4)) (.bi .len (.cons (.var 5) .nil)))) ρ = some (.int ((m + 4 * j : Nat) : Int)) := fun m ρ h => by
        have e := qe_add (pf := pf (k + 2)) (pm := pm (k + 2)) (qe_cst (v := .int (m : Nat)) rfl) (qe_mul (qe_cst (v := .int 4) rfl) (len_live (k := k + 2) h) (by simp [small]))
        rw [List.length_map, hrl] at e
        rw [show ((m + 4 * j : Nat) : Int) = (m : Int) + 4 * (j : Int) by omega]
        exact e
      refine (qx_set rfl (v := .lst ([d0, d1, d2, d3].map emN)) (qe_sl (qe_var rfl) (qo_some (c5 4 _ rfl)) (qo_some (c5 8 _ rfl)) ?_)).trans ?_
      · rw [slA, cut_midQ, ← List.map_take, ← List.map_drop, ed]
      refine (qx_set rfl (known (a := 3) (q := q) rfl rfl qs)).trans ?_
      refine (qx_set rfl (targets (a := 3) (c := 12) (kn := knO states q) rfl rfl (by decide) (by decide) (by simp) ?_ hsl)).trans ?_
      · have := qe_len (pf := pf (k + 2)) (pm := pm (k + 2)) (a := .var 3) (x := emNs states) (n := states.length) (ρ := [some (.v cv), some (.v (emWs names)), some (.v (.lst (l.map emN))), some (.v (emNs states)), some (.v (.lst (chans.map emC))), some (.o (.lst (rows.map emR))), some (.v (emK q)), some (.v (.lst ([d0, d1, d2, d3].map emN))), some (.v (.int (knO states q : Nat))), z9, z10, z11, z12]) (qe_var rfl) (by unfold emNs; rw [lenT, List.length_map])
        exact this
      refine (qx_set rfl (v := emN tg) (qe_ix (x := .lst ((tgs states (knO states q)).map emN)) (qe_var rfl) (md2 (n := d0) (m := (tgs states (knO states q)).length) (qe_ix (v := .int (d0 : Nat)) (qe_var rfl) (qe_cst (v := .int 0) rfl) rfl) (qe_len (qe_var rfl) (by rw [lenL, List.length_map])) tp) (ixL (by rw [List.getElem?_map, etg]; rfl)))).trans ?_
      refine (qx_set rfl (v := .tup []) (qe_tupD qes_nil (by simp [LIM]))).trans ?_
      refine (qx_iffT (ρ2 := [some (.v cv), some (.v (emWs names)), some (.v (.lst (l.map emN))), some (.v (emNs states)), some (.v (.lst (chans.map emC))), some (.o (.lst (rows.map emR))), some (.v (emK q)), some (.v (.lst ([d0, d1, d2, d3].map emN))), some (.v (.int (knO states q : Nat))), some (.v (.lst ((tgs states (knO states q)).map emN))), some (.v (emN tg)), some (.v (.tup (out.map emO))), z12]) (qe_cmp (x := .int (knO states q : Nat)) (qe_var rfl) (qe_cst (v := .int 0) rfl) ?_) ?_).trans ?_
      · simp only [cmpV, ordV]; congr 1; exact decide_eq_true (by omega)
      · refine (qx_set rfl (v := .tup (out.map emO)) (qe_call (qes_cons (qe_var rfl) (qes_cons (qe_var rfl) (qes_cons (qe_ix (v := .int (d2 : Nat)) (qe_var rfl) (qe_cst (v := .int 2) rfl) rfl) (qes_cons (qe_ix (v := .int (d3 : Nat)) (qe_var rfl) (qe_cst (v := .int 3) rfl) rfl) qes_nil)))) eo)).trans ?_
        rw [qx_nil]; rfl
      refine (qx_app (v := emR r) (xs := rows.map emR) (qe_fzadd (x := emK q) (qe_var rfl) (qe_tupD (vs := [emN tg, emNs src, .tup (out.map emO)]) (qes_cons (qe_var rfl) (qes_cons (qe_call (qes_cons (qe_var rfl) (qes_cons (qe_ix (v := .int (states.getD tg 0 : Nat)) (qe_var rfl) (qe_var (v := emN tg) rfl) (ix_Ns (tgs_ok htg).1)) (qes_cons (qe_ix (v := .int (d1 : Nat)) (qe_var rfl) (qe_cst (v := .int 1) rfl) rfl) qes_nil))) es) (qes_cons (qe_var rfl) qes_nil))) (by simp [LIM])) key_add) rfl (by rw [List.length_map]; simp [LIM]; omega)).trans ?_
      rw [qx_nil, List.map_append]; rfl
    · rw [List.map_append, h1, List.take_add_one, hq]; rfl
    · rcases List.mem_append.mp hy with hy | hy
      · exact h2 y hy
      · rw [List.mem_singleton] at hy
        subst hy; exact okr) ⟨[], none, none, none, none, none, none, none, rfl, fun x hx => by (cases hx), rfl⟩
  obtain ⟨ρ', e, rows, z6, z7, z8, z9, z10, z11, z12, h1, h2, rfl⟩ := key
  rw [List.length_map, Nat.zero_add, List.take_length] at h1
  exact ⟨rows, [z6, z7, z8, z9, z10, z11, z12], h1, h2, rfl, e⟩
end K06
end
section
namespace K06
open PySem PM
variable {k : Nat}
def sumK (states : List Nat) : Nat := (states.map fun s => 2 * s + 1).sum
theorem flat_len {γ : Type} (f : Str → Nat → γ) (m : Nat) : ∀ names : List Str, (names.flatMap fun nm => (List.range m).map (f nm)).length = names.length * m
  | [] => by simp
  | a :: l => by simp only [List.flatMap_cons, List.length_append, List.length_map, List.length_range, flat_len f m l, List.length_cons, Nat.succ_mul]; omega
theorem keysL_len (names : List Str) (states : List Nat) : (keysL names states).length = names.length * sumK states := by
  unfold keysL sumK
  have h : ∀ (i : Nat) (l : List Nat), ((l.zipIdx i).flatMap fun s => names.flatMap fun nm => (List.range (2 * s.1 + 1)).map fun q => (s.2, nm, q)).length = names.length * (l.map fun s => 2 * s + 1).sum := by
    intro i l
    induction l generalizing i with
    | nil => simp
    | cons a l ih =>
      rw [List.zipIdx_cons, List.flatMap_cons, List.length_append, ih, List.map_cons, List.sum_cons, Nat.mul_add]
      have := flat_len (fun nm q => (i, nm, q)) (2 * a + 1) names
      dsimp only at this ⊢
      omega
  exact h 0 states
structure stG (names : List Str) (S : List Nat) : Prop where
  s0 : S[0]? = some 0
  s4 : ∀ s ∈ S, s ≤ 4
  sl : 1 ≤ S.length ∧ S.length ≤ 10
  kl : (keysL names S).length ≤ 53
theorem mul_bd {n s : Nat} {a b : Nat} (h1 : n ≤ a) (h2 : s ≤ b) : n * s ≤ a * b := Nat.mul_le_mul h1 h2
theorem st_ok1 {names : List Str} {a b t : Nat} (hn : names.length ≤ 4) (ha : a ≤ 2) (hb : b ≤ 2) (h1 : 1 ≤ t) (h3 : t ≤ 3) : stG names ([0, a, b].take t) := by
  rcases (show t = 1 ∨ t = 2 ∨ t = 3 by omega) with rfl | rfl | rfl
  · refine ⟨rfl, by simp, by simp, ?_⟩
    rw [keysL_len]
    exact Nat.le_trans (mul_bd (b := 11) hn (by simp [sumK])) (by decide)
  · refine ⟨rfl, by simp; omega, by simp, ?_⟩
    rw [keysL_len]
    exact Nat.le_trans (mul_bd (b := 11) hn (by simp [sumK]; omega)) (by decide)
  · refine ⟨rfl, by simp; omega, by simp, ?_⟩
    rw [keysL_len]
    exact Nat.le_trans (mul_bd (b := 11) hn (by simp [sumK]; omega)) (by decide)
theorem st_ok2 {names : List Str} {t : Nat} (hn : names.length ≤ 4) (h1 : 3 ≤ t) (h2 : t ≤ 5) (h3 : names.length ≤ 2 ∨ t = 3) : stG names ([0, 1, 2, 3, 4].take t) := by
  rcases (show t = 3 ∨ t = 4 ∨ t = 5 by omega) with rfl | rfl | rfl
  · refine ⟨rfl, by simp, by simp, ?_⟩
    rw [keysL_len]
    exact Nat.le_trans (mul_bd (b := 9) hn (by decide)) (by decide)
  · refine ⟨rfl, by simp, by simp, ?_⟩
    rw [keysL_len]
    exact Nat.le_trans (mul_bd (a := 2) (b := 16) (by omega) (by decide)) (by decide)
  · refine ⟨rfl, by simp, by simp, ?_⟩
    rw [keysL_len]
    exact Nat.le_trans (mul_bd (a := 2) (b := 25) (by omega) (by decide)) (by decide)
theorem cnt4 : ∀ n : Nat, 1 ≤ n → n ≤ 4 → ∃ m : Nat, 1 ≤ m ∧ m ≤ 3 ∧ ixV [] (.lst [.int 3, .int 2, .int 2, .int 1]) (.int ((n : Int) - 1)) = some (.int (m : Nat))
  | 0, h, _ => by omega
  | 1, _, _ => ⟨3, by decide, by decide, rfl⟩
  | 2, _, _ => ⟨2, by decide, by decide, rfl⟩
  | 3, _, _ => ⟨2, by decide, by decide, rfl⟩
  | 4, _, _ => ⟨1, by decide, by decide, rfl⟩
  | n + 5, _, h => by omega
theorem cnt2 (r : Nat) (hr : r < 2) : ∀ n : Nat, 1 ≤ n → n ≤ 4 → ∃ m : Nat, 3 ≤ m ∧ m ≤ 5 ∧ (n ≤ 2 ∨ m = 3) ∧ ixV [] (.lst [.int ((4 + r : Nat) : Int), .int 3]) (.int ((n / 3 : Nat) : Int)) = some (.int (m : Nat))
  | 0, h, _ => by omega
  | 1, _, _ => ⟨4 + r, by omega, by omega, .inl (by decide), rfl⟩
  | 2, _, _ => ⟨4 + r, by omega, by omega, .inl (by decide), rfl⟩
  | 3, _, _ => ⟨3, by decide, by decide, .inr rfl, rfl⟩
  | 4, _, _ => ⟨3, by decide, by decide, .inr rfl, rfl⟩
  | n + 5, _, h => by omega
def w5 : List Str := [("more" : Str), ("other" : Str), ("ou" : Str), ("oat" : Str), ("tuo" : Str)]
theorem w5_at {j : Nat} (h : j < 5) : ∃ w : Str, okW w ∧ w ≠ ("out" : Str) ∧ ixV [] (.lst (w5.map .str)) (.int (j : Nat)) = some (.str w) := by
  have all : ∀ w ∈ w5, okW w ∧ w ≠ ("out" : Str) := by unfold okW; decide +kernel
  have hl : j < w5.length := h
  have := all _ (List.getElem_mem hl)
  exact ⟨w5[j], this.1, this.2, ixL (by rw [List.getElem?_map, List.getElem?_eq_getElem hl]; rfl)⟩
def pTail : CSs :=
  (.asg (.var 4) (.fz (.sl (.fz (.lst (.cons (.tup (.cons (.cst (.str "out")) (.cons (.fz (.call F__law_words (.cons (.fz (.sl (.var 2) (.some (.cst (.int 210))) (.some (.cst (.int 214))))) .nil))) .nil))) (.cons (.tup (.cons (.ix (.fz (.lst (.cons (.cst (.str "more")) (.cons (.cst (.str "other")) (.cons (.cst (.str "ou")) (.cons (.cst (.str "oat")) (.cons (.cst (.str "tuo")) .nil))))))) (.bop .mod (.ix (.var 2) (.cst (.int 5))) (.cst (.int 5)))) (.cons (.fz (.call F__law_words (.cons (.fz (.sl (.var 2) (.some (.cst (.int 214))) (.some (.cst (.int 218))))) .nil))) .nil))) .nil)))) .none (.some (.bop .add (.cst (.int 1)) (.bop .mod (.ix (.var 2) (.cst (.int 3))) (.cst (.int 2)))))))
  (.asg (.var 5) (.lst .nil)
  (.for (.var 6) (.seq (.fz (.call F__law_keys (.cons (.var 1) (.cons (.var 3) .nil))))) rBody
  (.ret (.fz (.lst (.cons (.var 1) (.cons (.bi .tuple (.cons (.var 4) .nil)) (.cons (.var 3) (.cons (.bi .tuple (.cons (.var 5) .nil)) .nil))))))))))
theorem ixR {l : List Nat} {i : Nat} (h : i < l.length) : ixV [] (.lst (l.map emN)) (.int (i : Nat)) = some (.int (l[i] : Nat)) := ixL (by rw [List.getElem?_map, List.getElem?_eq_getElem h]; rfl)
theorem words_sl {ρ : QEnv} {l : List Nat} {i : Nat} (h : ρ[2]? = some (some (QV.v (.lst (l.map emN))))) (hl : i + 4 ≤ l.length) : ∃ ws, okWs 4 ws ∧ qe (pf (k + 2)) (pm (k + 2)) (.fz (.call F__law_words (.cons (.fz (.sl (.var 2) (.some (.cst (.int (i : Nat)))) (.some (.cst (.int ((i + 4 : Nat) : Int)))))) .nil))) ρ = some (emWs ws) := by
  obtain ⟨ws, w1, w2⟩ := words_ex (k := k) (l := (l.take (i + 4)).drop i) (by rw [List.length_drop, List.length_take]; omega)
  refine ⟨ws, w1, qe_call (qes_cons (qe_sl (qe_var h) (qo_some (qe_cst rfl)) (qo_some (qe_cst rfl)) ?_) qes_nil) w2⟩
  rw [slA, cut_midQ, ← List.map_take, ← List.map_drop]
theorem tail_ex (c : Int) {names : List Str} {S l : List Nat} (hn : okWs 4 names) (hS : stG names S) (hl : l.length = 220) :
    ∃ p, Valid p ∧ p.names = names ∧ qx (pf (k + 2)) (pm (k + 2)) sub0 pTail [some (.v (.int c)), some (.v (emWs names)), some (.v (.lst (l.map emN))), some (.v (emNs S)), none, none, none, none, none, none, none, none, none] = some (.ret (emP p)) := by
  obtain ⟨ws1, a1, e1⟩ := words_sl (k := k) (ρ := [some (.v (.int c)), some (.v (emWs names)), some (.v (.lst (l.map emN))), some (.v (emNs S)), none, none, none, none, none, none, none, none, none]) (l := l) (i := 210) rfl (by omega)
  obtain ⟨ws2, a2, e2⟩ := words_sl (k := k) (ρ := [some (.v (.int c)), some (.v (emWs names)), some (.v (.lst (l.map emN))), some (.v (emNs S)), none, none, none, none, none, none, none, none, none]) (l := l) (i := 214) rfl (by omega)
  obtain ⟨w, wo, wn, ew⟩ := w5_at (j := l[5]'(by omega) % 5) (Nat.mod_lt _ (by decide))
  let t := 1 + l[3]'(by omega) % 2
  have tb : l[3]'(by omega) % 2 < 2 := Nat.mod_lt _ (by decide)
  let all : List (Str × List Str) := [(("out" : Str), ws1), (w, ws2)]
  let chans := all.take t
  have oo : okW ("out" : Str) := by unfold okW; decide +kernel
  have tt : t = 1 ∨ t = 2 := by show 1 + _ = 1 ∨ 1 + _ = 2; omega
  have c1 : okWs 2 (chans.map (·.1)) := by
    rcases tt with h | h
    · show okWs 2 ((all.take t).map (·.1))
      rw [h]
      exact ⟨by simp [all], by simp [all], by simpa [all] using oo, by simp [all]⟩
    · show okWs 2 ((all.take t).map (·.1))
      rw [h]
      exact ⟨by simp [all], by simp [all], by simp [all]; exact ⟨oo, wo⟩, by simp [all]; exact fun h => wn h.symm⟩
  have c2 : ∀ c ∈ chans, okWs 4 c.2 := fun c hc => by
    have := List.mem_of_mem_take hc
    simp only [all, List.mem_cons, List.not_mem_nil, or_false] at this
    rcases this with rfl | rfl
    · exact a1
    · exact a2
  have c3 : chG chans := ⟨by have := c1.1; rw [List.length_map] at this; exact this, fun c hc => (c2 c hc).1⟩
  obtain ⟨rows, zs, r1, r2, r3, e⟩ := rows_ex (k := k) (.int c) hl hS.s0 hS.s4 hS.sl.2 hS.kl c3
  refine ⟨⟨names, chans, S, rows⟩, ⟨hn, c1, c2, hS.sl, hS.s0, hS.s4, r1, r2⟩, rfl, ?_⟩
  rw [pTail]
  refine (qx_set rfl (v := .lst (chans.map emC)) (qe_sl (x := .lst (all.map emC)) (qe_lstD (qes_cons (qe_tupD (qes_cons (qe_cst rfl) (qes_cons e1 qes_nil)) (by simp [LIM])) (qes_cons (qe_tupD (qes_cons (qe_ix (qe_lstD (qes_cons (qe_cst rfl) (qes_cons (qe_cst rfl) (qes_cons (qe_cst rfl) (qes_cons (qe_cst rfl) (qes_cons (qe_cst rfl) qes_nil))))) (by simp [LIM])) (md (m := 5) (qe_ix (qe_var rfl) (qe_cst rfl) (ixR (i := 5) (by omega))) (by decide)) ew) (qes_cons e2 qes_nil)) (by simp [LIM])) qes_nil)) (by simp [LIM, all])) qo_none (qo_some (i := ((t : Nat) : Int)) ?_) ?_)).trans ?_
  · have := qe_add (pf := pf (k + 2)) (pm := pm (k + 2)) (qe_cst (v := .int 1) rfl) (md (m := 2) (k := k + 2) (ρ := [some (.v (.int c)), some (.v (emWs names)), some (.v (.lst (l.map emN))), some (.v (emNs S)), none, none, none, none, none, none, none, none, none]) (qe_ix (qe_var (i := 2) rfl) (qe_cst (v := .int 3) rfl) (ixR (l := l) (i := 3) (by omega))) (by decide))
    rw [show ((t : Nat) : Int) = 1 + ((l[3]'(by omega) % 2 : Nat) : Int) by show ((1 + _ : Nat) : Int) = _; omega]
    exact this
  · rw [slA, cut_toQ, ← List.map_take]
  refine (qx_live rfl (o := .lst []) (by simp [qnew, qes, LIM]) (by simp)).trans ?_
  refine (qx_for (qi_seq (qe_call (qes_cons (qe_var rfl) (qes_cons (qe_var rfl) qes_nil)) (law_keys (k := k + 1) (by have := hn.2.1; omega) hS.s4 hS.sl.2)) rfl) e).trans ?_
  refine qx_ret (qe_lstD (qes_cons (qe_var rfl) (qes_cons (qe_tupB (qe_var rfl) rfl) (qes_cons (qe_var rfl) (qes_cons (qe_tuple (by simp [qr, qv, QV.rd]) ) qes_nil)))) (by simp [LIM]))
theorem program_ex (c : Int) {names : List Str} (hn : okWs 4 names) : ∃ p, Valid p ∧ p.names = names ∧ pf (k + 3) F__law_program [.int c, emWs names] = some (.v (emP p)) := by
  obtain ⟨l, hl, _, el⟩ := row_ex (k := k + 1) c (n := 220) (by decide)
  have nl := hn.2.1
  have nl1 := hn.1
  obtain ⟨m, m1, m3, em⟩ := cnt4 names.length nl1 nl
  obtain ⟨m', b3, b5, bn, em'⟩ := cnt2 (l[0]'(by omega) % 2) (Nat.mod_lt _ (by decide)) names.length nl1 nl
  let A : List (Option QV) := [none, none, none, none, none, none, none, none, none]
  let t1 := 1 + l[2]'(by omega) % m
  have ht1 : l[2]'(by omega) % m < m := Nat.mod_lt _ (by omega)
  let S1 := [0, l[0]'(by omega) % 3, l[1]'(by omega) % 3].take t1
  have g1 : stG names S1 := st_ok1 nl (by have := Nat.mod_lt (l[0]'(by omega)) (show 0 < 3 by decide); omega) (by have := Nat.mod_lt (l[1]'(by omega)) (show 0 < 3 by decide); omega) (show 1 ≤ 1 + _ by omega) (show 1 + _ ≤ 3 by omega)
  let S2 := [0, 1, 2, 3, 4].take m'
  have g2 : stG names S2 := st_ok2 nl b3 b5 bn
  have ln : ∀ ρ : QEnv, ρ[1]? = some (some (QV.v (emWs names))) → qe (pf (k + 2)) (pm (k + 2)) (.bi .len (.cons (.var 1) .nil)) ρ = some (.int (names.length : Nat)) := fun ρ h => by
    have := len_tup (k := k + 2) (ρ := ρ) (i := 1) (xs := names.map .str) h
    rw [List.length_map] at this; exact this
  let E : List Nat → QEnv := fun S => [some (.v (.int c)), some (.v (emWs names)), some (.v (.lst (l.map emN))), some (.v (emNs S)), none, none, none, none, none, none, none, none, none]
  have key : ∀ S, stG names S → ∃ p, Valid p ∧ p.names = names ∧ qx (pf (k + 2)) (pm (k + 2)) sub0 pTail (E S) = some (.ret (emP p)) := fun S hS => tail_ex c hn hS hl
  have head : ∀ r, qx (pf (k + 2)) (pm (k + 2)) sub0 c__law_program.body [some (.v (.int c)), some (.v (emWs names)), none, none, none, none, none, none, none, none, none, none, none] = r → r = qx (pf (k + 2)) (pm (k + 2)) sub0 pTail (E (if l[1]'(by omega) % 9 = 8 then S2 else S1)) := by
    rintro r rfl
    rw [c__law_program]
    refine (qx_set rfl (v := .lst (l.map emN)) (qe_call (qes_cons (qe_var rfl) (qes_cons (qe_cst rfl) qes_nil)) el)).trans ?_
    refine (qx_set rfl (v := emNs S1) (qe_sl (x := .tup ([0, l[0]'(by omega) % 3, l[1]'(by omega) % 3].map emN)) (qe_tupD (qes_cons (qe_cst rfl) (qes_cons (md (m := 3) (qe_ix (qe_var rfl) (qe_cst rfl) (ixR (i := 0) (by omega))) (by decide)) (qes_cons (md (m := 3) (qe_ix (qe_var rfl) (qe_cst rfl) (ixR (i := 1) (by omega))) (by decide)) qes_nil))) (by simp [LIM])) qo_none (qo_some (i := ((t1 : Nat) : Int)) ?_) ?_)).trans ?_
    · have := qe_add (pf := pf (k + 2)) (pm := pm (k + 2)) (ρ := [some (.v (.int c)), some (.v (emWs names)), some (.v (.lst (l.map emN))), none, none, none, none, none, none, none, none, none, none]) (qe_cst (v := .int 1) rfl) (md2 (m := m) (qe_ix (qe_var (i := 2) rfl) (qe_cst (v := .int 2) rfl) (ixR (l := l) (i := 2) (by omega))) (qe_ix (qe_lstD (qes_cons (qe_cst (v := .int 3) rfl) (qes_cons (qe_cst (v := .int 2) rfl) (qes_cons (qe_cst (v := .int 2) rfl) (qes_cons (qe_cst (v := .int 1) rfl) qes_nil)))) (by simp [LIM])) (qe_sub (ln _ rfl) (qe_cst (v := .int 1) rfl)) em) (by omega))
      rw [show ((t1 : Nat) : Int) = 1 + ((l[2]'(by omega) % m : Nat) : Int) by show ((1 + _ : Nat) : Int) = _; omega]
      exact this
    · rw [slA, cut_toQ, ← List.map_take]; rfl
    have cond : qe (pf (k + 2)) (pm (k + 2)) (.cmp .eq (.bop .mod (.ix (.var 2) (.cst (.int 1))) (.cst (.int 9))) (.cst (.int 8))) (E S1) = some (.bl (decide (l[1]'(by omega) % 9 = 8))) := by
      refine qe_cmp (md (m := 9) (qe_ix (qe_var rfl) (qe_cst rfl) (ixR (l := l) (i := 1) (by omega))) (by decide)) (qe_cst (v := .int 8) rfl) ?_
      simp only [cmpV, eq_int]
      congr 1
      by_cases h : l[1]'(by omega) % 9 = 8 <;> simp [h] <;> omega
    by_cases h : l[1]'(by omega) % 9 = 8
    · rw [decide_eq_true h] at cond
      rw [if_pos h]
      refine (qx_iffT (ρ2 := E S2) cond ?_).trans rfl
      refine (qx_set rfl (v := emNs S2) (qe_sl (x := .tup ([0, 1, 2, 3, 4].map emN)) (qe_tupD (qes_cons (qe_cst rfl) (qes_cons (qe_cst rfl) (qes_cons (qe_cst rfl) (qes_cons (qe_cst rfl) (qes_cons (qe_cst rfl) qes_nil))))) (by simp [LIM])) qo_none (qo_some (qe_ix (qe_lstD (qes_cons (v := .int ((4 + l[0]'(by omega) % 2 : Nat) : Int)) ?_ (qes_cons (qe_cst (v := .int 3) rfl) qes_nil)) (by simp [LIM])) (fd2 (n := names.length) (m := 3) (ln _ rfl) (qe_cst rfl) (by decide) (by decide)) em')) ?_)).trans (by rw [qx_nil]; rfl)
      · have := qe_add (pf := pf (k + 2)) (pm := pm (k + 2)) (ρ := E S1) (qe_cst (v := .int 4) rfl) (md (m := 2) (k := k + 2) (qe_ix (qe_var (i := 2) rfl) (qe_cst (v := .int 0) rfl) (ixR (l := l) (i := 0) (by omega))) (by decide))
        rw [show ((4 + l[0]'(by omega) % 2 : Nat) : Int) = 4 + ((l[0]'(by omega) % 2 : Nat) : Int) by omega]
        exact this
      · rw [slA, cut_toQ, ← List.map_take]; rfl
    · rw [decide_eq_false h] at cond
      rw [if_neg h]
      exact (qx_iff0 cond).trans rfl
  obtain ⟨p, v, pn, e⟩ := key (if l[1]'(by omega) % 9 = 8 then S2 else S1) (by split <;> assumption)
  refine ⟨p, v, pn, pf_at (d := c__law_program) (r := .ret (emP p)) rfl rfl ?_ rfl⟩
  exact (head _ rfl).trans e
end K06
end
section
namespace K06
open PySem PM
variable {k : Nat}
def asc (l : List Int) : Prop := l.Pairwise (· < ·)
def mem1 (x : Int) (l : List Int) : Nat := if x ∈ l then 1 else 0
def posI (x : Int) (l : List Int) : Nat := 2 * (l.filter fun v => decide (v < x)).length + mem1 x l
theorem asc.nodup {l : List Int} (h : asc l) : l.Nodup := h.imp fun {a b} hab e => by omega
theorem cnt_eq {x : Int} : ∀ {l : List Int}, l.Nodup → (l.filter fun v => decide (v = x)).length = mem1 x l
  | [], _ => by simp [mem1]
  | a :: l, h => by
    rw [List.nodup_cons] at h
    have ih := cnt_eq (x := x) h.2
    by_cases e : a = x
    · subst e
      have n0 : mem1 a l = 0 := if_neg h.1
      have n1 : mem1 a (a :: l) = 1 := if_pos List.mem_cons_self
      rw [List.filter_cons, decide_eq_true (rfl : a = a), if_pos rfl, List.length_cons, ih, n0, n1]
    · have e2 : mem1 x (a :: l) = mem1 x l := by
        unfold mem1
        have : x ∈ a :: l ↔ x ∈ l := by
          rw [List.mem_cons]
          exact ⟨fun z => z.resolve_left fun z => e z.symm, .inr⟩
        by_cases hm : x ∈ l
        · rw [if_pos hm, if_pos (this.mpr hm)]
        · rw [if_neg hm, if_neg fun z => hm (this.mp z)]
      simp only [List.filter_cons, decide_eq_false e]
      rw [e2]; simpa using ih
theorem pos_le {x : Int} {l : List Int} : posI x l ≤ 2 * l.length := by
  unfold posI mem1
  have h := List.length_filter_le (fun v => decide (v < x)) l
  by_cases hm : x ∈ l
  · rw [if_pos hm]
    have : (l.filter fun v => decide (v < x)).length < l.length := List.length_filter_lt_length_iff_exists.mpr ⟨x, hm, by simp⟩
    omega
  · rw [if_neg hm]; omega
theorem pos_mod (x : Int) (l : List Int) : posI x l % 2 = mem1 x l := by
  unfold posI mem1
  split <;> omega
def kvOk (kv : PV) (l : List Int) : Prop := kv = .tup (l.map .int) ∨ kv = .lst (l.map .int)
theorem kvOk.items {kv : PV} {l : List Int} (h : kvOk kv l) : itemsQ kv = some (l.map .int) := by
  rcases h with rfl | rfl <;> rfl
theorem kvOk.seq {kv : PV} {l : List Int} (h : kvOk kv l) : seqOf [] kv = some (l.map .int) := by
  rcases h with rfl | rfl <;> rfl
theorem kvOk.inn {kv : PV} {l : List Int} (h : kvOk kv l) (x : Int) : cmpV .isin [] (.int x) kv = some (decide (x ∈ l)) := by
  rcases h with rfl | rfl
  · simp only [cmpV, inV]; exact any_ints x l
  · simp only [cmpV, inV, lstOf]; exact any_ints x l
theorem cmp_comp {o : COp} {p : Int → Bool} {x : Int} {kv : PV} {l : List Int} (hk : kvOk kv l) (hl : l.length ≤ 1000) (ho : ∀ v, cmpV o [] (.int v) (.int x) = some (p v)) (z w : Option QV) :
    qe (pf k) (pm k) (.bi .len (.cons (.fz (.comp (.var 3) [3] (.var 3) (.seq (.var 1)) (.some (.cmp o (.var 3) (.var 0))))) .nil)) [some (.v (.int x)), some (.v kv), z, w] = some (.int ((l.filter p).length : Nat)) := by
  refine qe_len (x := .lst ((l.filter p).map .int)) ?_ (by rw [lenL, List.length_map])
  refine qe_comp (xs := l.map .int) (qi_seq (qe_var rfl) hk.items) (by simp [LIM]; omega) ?_
  refine qcomp_filterM PV.int PV.int p ?_
  intro v hv
  exact ⟨_, by rw [qt], qb_some (qe_cmp (qe_var rfl) (qe_var rfl) (ho v)), fun _ => qe_var rfl⟩
theorem pos_of {x : Int} {kv : PV} {l : List Int} (hk : kvOk kv l) (hl : l.length ≤ 1000) : pf (k + 1) F_position_of [.int x, kv] = some (.v (.int (posI x l : Nat))) := by
  refine pf_at (d := c_position_of) (r := .ret (.int (posI x l : Nat))) rfl rfl ?_ rfl
  show qx (pf k) (pm k) sub0 c_position_of.body [some (.v (.int x)), some (.v kv), none, none] = _
  rw [c_position_of]
  refine (qx_set rfl (cmp_comp hk hl (fun v => rfl) none none)).trans ?_
  have e := qe_add (pf := pf k) (pm := pm k) (ρ := [some (.v (.int x)), some (.v kv), some (.v (.int ((l.filter fun v => decide (v < x)).length : Nat))), none]) (qe_mul (a := .cst (.int 2)) (b := .var 2) (i := 2) (qe_cst rfl) (qe_var rfl) (by simp [small])) (qe_int (a := .cmp .isin (.var 0) (.var 1)) (i := mem1 x l) (qe_cmp (qe_var rfl) (qe_var rfl) (hk.inn x)) (by
    simp only [intB, mem1]
    by_cases h : x ∈ l <;> simp [h]))
  rw [show ((posI x l : Nat) : Int) = 2 * ((l.filter fun v => decide (v < x)).length : Nat) + (mem1 x l : Nat) by unfold posI; omega]
  exact qx_ret e
theorem law_pos {x : Int} {kv : PV} {l : List Int} (hk : kvOk kv l) (hl : l.length ≤ 1000) (ha : asc l) : pf (k + 1) F__law_position [.int x, kv] = some (.v (.int (posI x l : Nat))) := by
  refine pf_at (d := c__law_position) (r := .ret (.int (posI x l : Nat))) rfl rfl ?_ rfl
  show qx (pf k) (pm k) sub0 c__law_position.body [some (.v (.int x)), some (.v kv), none, none] = _
  rw [c__law_position]
  refine (qx_set rfl (cmp_comp hk hl (fun v => rfl) none none)).trans ?_
  have e := qe_add (pf := pf k) (pm := pm k) (ρ := [some (.v (.int x)), some (.v kv), some (.v (.int ((l.filter fun v => decide (v < x)).length : Nat))), none]) (qe_mul (a := .cst (.int 2)) (b := .var 2) (i := 2) (qe_cst rfl) (qe_var rfl) (by simp [small])) (cmp_comp (o := .eq) hk hl (fun v => eq_int v x) _ none)
  rw [cnt_eq ha.nodup] at e
  rw [show ((posI x l : Nat) : Int) = 2 * ((l.filter fun v => decide (v < x)).length : Nat) + (mem1 x l : Nat) by unfold posI; omega]
  exact qx_ret e
theorem insI_mem {i y : Int} : ∀ {l : List Int}, y ∈ insI i l ↔ y = i ∨ y ∈ l
  | [] => by simp [insI]
  | j :: r => by
    unfold insI
    split
    · simp
    · simp only [List.mem_cons, insI_mem (l := r)]
      exact ⟨fun h => h.elim (fun h => .inr (.inl h)) (fun h => h.elim .inl fun h => .inr (.inr h)), fun h => h.elim (fun h => .inr (.inl h)) (fun h => h.elim .inl fun h => .inr (.inr h))⟩
theorem insI_asc {i : Int} : ∀ {l : List Int}, asc l → i ∉ l → asc (insI i l)
  | [], _, _ => by simp [insI, asc]
  | j :: r, h, hi => by
    unfold asc at h
    rw [List.pairwise_cons] at h
    rw [List.mem_cons, not_or] at hi
    unfold insI
    split
    · rename_i hij
      unfold asc
      rw [List.pairwise_cons, List.pairwise_cons]
      refine ⟨fun y hy => ?_, h.1, h.2⟩
      rcases List.mem_cons.mp hy with rfl | hy
      · have := hi.1; omega
      · have := h.1 y hy; omega
    · rename_i hij
      unfold asc
      rw [List.pairwise_cons]
      refine ⟨fun y hy => ?_, insI_asc h.2 hi.2⟩
      rcases insI_mem.mp hy with rfl | hy
      · omega
      · exact h.1 y hy
theorem insI_len {i : Int} : ∀ l : List Int, (insI i l).length = l.length + 1
  | [] => rfl
  | j :: r => by
    unfold insI
    split
    · rfl
    · simp [insI_len r]
theorem sortI_mem {y : Int} : ∀ {l : List Int}, y ∈ sortI l ↔ y ∈ l
  | [] => by simp [sortI]
  | j :: r => by rw [sortI, insI_mem, sortI_mem (l := r), List.mem_cons]
theorem sortI_len : ∀ l : List Int, (sortI l).length = l.length
  | [] => rfl
  | j :: r => by rw [sortI, insI_len, sortI_len r, List.length_cons]
theorem sortI_asc : ∀ {l : List Int}, l.Nodup → asc (sortI l)
  | [], _ => by simp [sortI, asc]
  | j :: r, h => by
    rw [List.nodup_cons] at h
    rw [sortI]
    exact insI_asc (sortI_asc h.2) fun z => h.1 (sortI_mem.mp z)
theorem sortI_id : ∀ {l : List Int}, asc l → sortI l = l
  | [], _ => rfl
  | j :: r, h => by
    unfold asc at h
    rw [List.pairwise_cons] at h
    rw [sortI, sortI_id h.2]
    match r, h with
    | [], _ => rfl
    | b :: r, h => rw [insI, if_pos (by have := h.1 b List.mem_cons_self; omega)]
def knL (x : Int) (l : List Int) : List Int := if x ∈ l then l else sortI (l ++ [x])
theorem knL_asc {x : Int} {l : List Int} (h : asc l) : asc (knL x l) := by
  unfold knL
  split
  · exact h
  · rename_i hm
    refine sortI_asc (List.nodup_append.mpr ⟨h.nodup, by simp, fun a ha b hb e => ?_⟩)
    rw [List.mem_singleton] at hb
    subst hb; subst e; exact hm ha
theorem knL_len (x : Int) (l : List Int) : (knL x l).length = l.length + 1 - posI x l % 2 := by
  rw [pos_mod]
  unfold knL mem1
  split
  · omega
  · rw [sortI_len, List.length_append]; rfl
theorem intsV_map : ∀ l : List Int, intsV (l.map .int) = some l
  | [] => rfl
  | a :: l => by simp [intsV, intsV_map l]
theorem qe_sorted {ρ : QEnv} {a : CE} {l : List Int} (h : qe (pf k) (pm k) a ρ = some (.lst (l.map .int))) (hl : l.length < 64) : qe (pf k) (pm k) (.fz (.bi .sorted (.cons a .nil))) ρ = some (.lst ((sortI l).map .int)) := by
  rw [qe, qa, qrs, qrs]
  simp [qr_of h, bqA, biV, b1, sortB, keysOf, lstOf, intsV_map, hl, Res.opt, Res.need, new]
end K06
end
section
namespace K06
open PySem PM
variable {k : Nat}
theorem flat_at {β γ : Type} {f : β → List γ} : ∀ (bs : List β) (i r : Nat) (b : β), bs[i]? = some b → r < (f b).length → (bs.flatMap f)[((bs.take i).map fun b => (f b).length).sum + r]? = (f b)[r]?
  | [], i, r, b, h, _ => by simp at h
  | a :: bs, 0, r, b, h, hr => by
    cases h
    simp only [List.take_zero, List.map_nil, List.sum_nil, Nat.zero_add, List.flatMap_cons]
    exact List.getElem?_append_left hr
  | a :: bs, i + 1, r, b, h, hr => by
    have ih := flat_at bs i r b (by simpa using h) hr
    simp only [List.take_succ_cons, List.map_cons, List.sum_cons, List.flatMap_cons]
    rw [List.getElem?_append_right (by omega), ← ih]
    congr 1
    omega
def atI (n : Nat) (states : List Nat) (s : Nat) : Nat := ((states.take s).map fun c => n * (2 * c + 1)).sum
theorem keys_at {names : List Str} {states : List Nat} {s j q cnt : Nat} {nm : Str} (h1 : states[s]? = some cnt) (h2 : names[j]? = some nm) (h3 : q ≤ 2 * cnt) : (keysL names states)[atI names.length states s + (j * (2 * cnt + 1) + q)]? = some (s, nm, q) := by
  have hj : j < names.length := (List.getElem?_eq_some_iff.mp h2).1
  have hz : states.zipIdx[s]? = some (cnt, s) := by rw [List.getElem?_zipIdx, h1]; simp
  have hlt : j * (2 * cnt + 1) + q < names.length * (2 * cnt + 1) := by
    have : (j + 1) * (2 * cnt + 1) ≤ names.length * (2 * cnt + 1) := Nat.mul_le_mul_right _ hj
    rw [Nat.succ_mul] at this
    omega
  have e1 := flat_at (f := fun s : Nat × Nat => names.flatMap fun nm => (List.range (2 * s.1 + 1)).map fun q => (s.2, nm, q)) states.zipIdx s (j * (2 * cnt + 1) + q) (cnt, s) hz (by rw [flat_len]; exact hlt)
  have e2 : ((states.zipIdx.take s).map fun b : Nat × Nat => (names.flatMap fun nm => (List.range (2 * b.1 + 1)).map fun q => (b.2, nm, q)).length).sum = atI names.length states s := by
    unfold atI
    have : (fun b : Nat × Nat => (names.flatMap fun nm => (List.range (2 * b.1 + 1)).map fun q => (b.2, nm, q)).length) = (fun c => names.length * (2 * c + 1)) ∘ Prod.fst := by
      funext b
      exact flat_len (fun nm q => (b.2, nm, q)) _ names
    rw [this, ← List.map_map, List.map_take, List.zipIdx_map_fst]
  rw [e2] at e1
  refine e1.trans ?_
  have e3 := flat_at (f := fun nm : Str => (List.range (2 * cnt + 1)).map fun q => (s, nm, q)) names j q nm h2 (by simp; omega)
  have e4 : ((names.take j).map fun b : Str => ((List.range (2 * cnt + 1)).map fun q => (s, b, q)).length).sum = j * (2 * cnt + 1) := by
    simp only [List.length_map, List.length_range, List.map_const', List.length_take, List.sum_replicate_nat]
    rw [Nat.min_eq_left (by omega)]
  rw [e4] at e3
  refine e3.trans ?_
  rw [List.getElem?_map, List.getElem?_range (by omega)]
  rfl
theorem atI_succ {n : Nat} {states : List Nat} {i cnt : Nat} (h : states[i]? = some cnt) : atI n states (i + 1) = atI n states i + n * (2 * cnt + 1) := by
  unfold atI
  rw [List.take_add_one, h]
  simp
theorem qx_aug {pf' : Nat → List PV → Option Out} {pm' : Nat → Nat → List PV → Option Out} {i : Nat} {e : CE} {r : CSs} {ρ : QEnv} {a b : Int} {o : BOp} {v : PV} (h1 : ρ[i]? = some (some (QV.v (.int a)))) (h2 : qe pf' pm' e ρ = some (.int b)) (h3 : bopV o [] (.int a) (.int b) = .ok v []) : qx pf' pm' sub0 (.aug i o e r) ρ = qx pf' pm' sub0 r (ρ.set i (some (.v v))) := by
  rw [qx]; simp only [h1, h2, Option.bind_some, augV, h3, okP]
theorem qe_index {ρ : QEnv} {a e : CE} {names : List Str} {nm : Str} {j : Nat} (h1 : qe (pf k) (pm k) a ρ = some (emWs names)) (h2 : qe (pf k) (pm k) e ρ = some (.str nm)) (hn : names.Nodup) (hj : names[j]? = some nm) : qe (pf k) (pm k) (.lm .index a (.cons e .nil)) ρ = some (.int (j : Nat)) := by
  have hl : j < names.length := (List.getElem?_eq_some_iff.mp hj).1
  have all : (names.map PV.str).all isTx = true := by
    rw [List.all_map]
    exact List.all_eq_true.mpr fun x _ => rfl
  have k1 : lmK .index [] (emWs names) = true := by
    show nmC (names.map PV.str) = true
    unfold nmC
    rw [all, Bool.and_true]
    cases names with
    | nil => simp at hl
    | cons a l => rfl
  have f1 : (names.map PV.str).findIdx? (fun y => decide (y = .str nm)) = some j := by
    rw [List.findIdx?_eq_some_iff_getElem]
    refine ⟨by rw [List.length_map]; exact hl, ?_, fun i hi => ?_⟩
    · rw [List.getElem_map, (List.getElem?_eq_some_iff.mp hj).2]; simp
    · rw [List.getElem_map]
      simp only [PV.str.injEq, decide_eq_true_eq]
      intro z
      have hil : i < names.length := by omega
      have e2 : names[i]? = some nm := by rw [List.getElem?_eq_getElem hil, z]
      have := (List.getElem?_inj hil hn).mp (e2.trans hj.symm)
      omega
  have l1 : lmV .index [] (emWs names) [.str nm] = .ok (.int (j : Nat)) [] := by
    show Res.opt ((names.map PV.str).findIdx? fun y => decide (y = .str nm)) (fun j : Nat => Res.need ((names.map PV.str).all isTx) (Res.ok (PV.int j) [])) = _
    rw [f1, all]; rfl
  rw [qe]
  simp only [h1, h2, Option.bind_some, k1, if_true, l1, okP]
theorem rule_of {p : Plan} (V : Valid p) {s q cnt : Nat} {nm : Str} (h1 : p.states[s]? = some cnt) (h2 : nm ∈ p.names) (h3 : q ≤ 2 * cnt) : ∃ r ∈ p.rows, r.key = (s, nm, q) ∧ pf (k + 1) F_rule_of [emG p, emN s, .str nm, emN q] = some (.v (emR r)) := by
  obtain ⟨j, hjl, hj⟩ := List.mem_iff_getElem.mp h2
  have hj : p.names[j]? = some nm := by rw [List.getElem?_eq_getElem hjl, hj]
  have hk := keys_at h1 hj h3
  rw [← V.keys, List.getElem?_map] at hk
  obtain ⟨r, hr, hrk⟩ := Option.map_eq_some_iff.mp hk
  refine ⟨r, List.mem_of_getElem? hr, hrk, ?_⟩
  refine pf_at (d := c_rule_of) (r := .ret (emR r)) rfl rfl ?_ rfl
  show qx (pf k) (pm k) sub0 c_rule_of.body [some (.v (emG p)), some (.v (emN s)), some (.v (.str nm)), some (.v (emN q)), none, none] = _
  rw [c_rule_of]
  have hs : s < p.states.length := (List.getElem?_eq_some_iff.mp h1).1
  have hsl := V.stL.2
  let n := p.names.length
  have n4 : n ≤ 4 := V.names.2.1
  let E : Nat → Option QV → QEnv := fun a z => [some (.v (emG p)), some (.v (emN s)), some (.v (.str nm)), some (.v (emN q)), some (.v (.int (a : Nat))), z]
  refine (qx_set rfl (v := .int 0) (qe_cst rfl)).trans ?_
  have f0 : ∀ ρ : QEnv, ρ[0]? = some (some (QV.v (emG p))) → qe (pf k) (pm k) (.fld (.var 0) 0) ρ = some (emWs p.names) := fun ρ h => qe_fldV (qe_var h) rfl
  have f2 : ∀ ρ : QEnv, ρ[0]? = some (some (QV.v (emG p))) → qe (pf k) (pm k) (.fld (.var 0) 2) ρ = some (emNs p.states) := fun ρ h => qe_fldV (qe_var h) rfl
  have f3 : ∀ ρ : QEnv, ρ[0]? = some (some (QV.v (emG p))) → qe (pf k) (pm k) (.fld (.var 0) 3) ρ = some (.tup (p.rows.map emR)) := fun ρ h => qe_fldV (qe_var h) rfl
  let body : CSs := (.aug 4 .add (.bop .mul (.bi .len (.cons (.fld (.var 0) 0) .nil)) (.bop .add (.bop .mul (.cst (.int 2)) (.var 5)) (.cst (.int 1)))) .nil)
  let I : Nat → QEnv → Prop := fun i ρ => ∃ z, ρ = E (atI n p.states i) z
  have key := qfor_inv (asg := qt (pf k) (pm k) (.var 5)) (body := qx (pf k) (pm k) sub0 body) (I := I) ((p.states.take s).map emN) 0 (E 0 none) (fun i x ρ hx hI => by
    obtain ⟨z, rfl⟩ := hI
    simp only [Nat.zero_add] at *
    rw [List.getElem?_map] at hx
    obtain ⟨c, hc, rfl⟩ := Option.map_eq_some_iff.mp hx
    have hil : i < s := by
      have := (List.getElem?_eq_some_iff.mp hc).1
      rw [List.length_take] at this; omega
    rw [List.getElem?_take_of_lt hil] at hc
    refine ⟨E (atI n p.states i) (some (.v (emN c))), by simp [qt, E], E (atI n p.states (i + 1)) (some (.v (emN c))), ?_, _, rfl⟩
    have e1 := qe_mul (pf := pf k) (pm := pm k) (ρ := E (atI n p.states i) (some (.v (emN c)))) (qe_len (f0 _ rfl) (n := n) (by unfold emWs; rw [lenT, List.length_map])) (qe_add (qe_mul (a := .cst (.int 2)) (b := .var 5) (i := 2) (j := (c : Nat)) (qe_cst rfl) (qe_var rfl) (by simp [small])) (qe_cst (v := .int 1) rfl)) (by simp [small]; omega)
    refine (qx_aug rfl e1 rfl).trans ?_
    rw [qx_nil, atI_succ hc]
    show some (QR.nx [some (.v (emG p)), some (.v (emN s)), some (.v (.str nm)), some (.v (emN q)), some (.v (.int ((atI n p.states i : Nat) + (n : Nat) * (2 * (c : Nat) + 1)))), some (.v (emN c))]) = _
    rw [show (((atI n p.states i : Nat) : Int) + (n : Nat) * (2 * (c : Nat) + 1)) = ((atI n p.states i + n * (2 * c + 1) : Nat) : Int) by rw [Int.natCast_add, Int.natCast_mul]; rfl]) ⟨none, rfl⟩
  obtain ⟨ρ', e, z, rfl⟩ := key
  rw [Nat.zero_add, List.length_map, List.length_take, Nat.min_eq_left (by omega)] at e
  refine (qx_for (xs := (p.states.take s).map emN) (qi_seq (qe_sl (f2 _ rfl) qo_none (qo_some (i := (s : Nat)) (qe_var rfl)) (v := .tup ((p.states.take s).map emN)) ?_) rfl) e).trans ?_
  · unfold emNs; rw [slA, cut_toQ, ← List.map_take]
  have ed : p.states.getD s 0 = cnt := by rw [List.getD_eq_getElem?_getD, h1]; rfl
  have c4 : cnt ≤ 4 := V.st4 _ (List.mem_of_getElem? h1)
  have e2 := qe_mul (pf := pf k) (pm := pm k) (ρ := E (atI n p.states s) z) (qe_index (a := .fld (.var 0) 0) (e := .var 2) (f0 _ rfl) (qe_var rfl) V.names.2.2.2 hj) (qe_add (qe_mul (a := .cst (.int 2)) (i := 2) (j := (cnt : Nat)) (qe_cst rfl) (qe_ix (f2 _ rfl) (qe_var (i := 1) (v := emN s) rfl) (by rw [← ed]; exact ix_Ns hs)) (by simp [small])) (qe_cst (v := .int 1) rfl)) (by
    simp only [small, Bool.or_eq_true, Bool.and_eq_true, decide_eq_true_eq]
    right; omega)
  refine (qx_aug rfl e2 rfl).trans ?_
  refine qx_ret (qe_ix (f3 _ rfl) (qe_fzadd (x := .int ((atI n p.states s : Nat) + (j : Nat) * (2 * (cnt : Nat) + 1))) (y := emN q) (qe_var rfl) (qe_var rfl) rfl) ?_)
  have : ((((atI n p.states s : Nat) : Int) + (j : Nat) * (2 * (cnt : Nat) + 1)) + (q : Nat)) = ((atI n p.states s + (j * (2 * cnt + 1) + q) : Nat) : Int) := by
    have h : ((2 * cnt + 1 : Nat) : Int) = 2 * (cnt : Int) + 1 := by omega
    rw [Int.natCast_add, Int.natCast_add, Int.natCast_mul, h]
    omega
  rw [this]
  exact ixT (by rw [List.getElem?_map, hr]; rfl)
end K06
end
section
namespace K06
open PySem PM
variable {k : Nat}
theorem row_unique {p : Plan} (V : Valid p) {r r' : Row} (h1 : r ∈ p.rows) (h2 : r' ∈ p.rows) (h : r.key = r'.key) : r = r' := by
  have nd : (p.rows.map Row.key).Nodup := by rw [V.keys]; exact keys_nodup V.names.2.2.2
  obtain ⟨i, hi, ei⟩ := List.mem_iff_getElem.mp h1
  obtain ⟨j, hj, ej⟩ := List.mem_iff_getElem.mp h2
  have e : (p.rows.map Row.key)[i]? = (p.rows.map Row.key)[j]? := by
    rw [List.getElem?_map, List.getElem?_map, List.getElem?_eq_getElem hi, List.getElem?_eq_getElem hj, ei, ej]
    simp [h]
  have := (List.getElem?_inj (by rw [List.length_map]; exact hi) nd).mp e
  subst this
  exact ei.symm.trans ej
def knV (kn : List Int) (i : Nat) : PV := .int (kn.getD i 0)
def resP (r : Row) (kn : List Int) : PV := .tup [emN r.tg, .tup (r.src.map (knV kn))]
def resO (r : Row) (kn : List Int) : PV := .tup (r.out.map fun o => .tup [.str o.1, .str o.2.1, knV kn o.2.2])
theorem ix_kn {kn : List Int} {i : Nat} (h : i < kn.length) : ixV [] (.lst (kn.map .int)) (.int (i : Nat)) = some (knV kn i) := ixL (by rw [List.getElem?_map, List.getElem?_eq_getElem h, knV, List.getD_eq_getElem?_getD, List.getElem?_eq_getElem h]; rfl)
structure fits (r : Row) (kn : List Int) : Prop where
  kl : kn.length ≤ 5
  sl : r.src.length ≤ 4
  ol : r.out.length ≤ 3
  src : ∀ i ∈ r.src, i < kn.length
  out : ∀ o ∈ r.out, o.2.2 < kn.length
theorem Valid.fits {p : Plan} (V : Valid p) {r : Row} {s : Nat} {nm : Str} {x : Int} {l : List Int} (hr : r ∈ p.rows) (hk : r.key = (s, nm, posI x l)) (h1 : p.states[s]? = some l.length) : K06.fits r (knL x l) := by
  have ok := V.rows r hr
  have e1 : r.st = s := congrArg Prod.fst hk
  have e2 : r.ps = posI x l := congrArg (fun z : Nat × Str × Nat => z.2.2) hk
  have l4 : l.length ≤ 4 := V.st4 _ (List.mem_of_getElem? h1)
  have kl := knL_len x l
  have d1 : p.states.getD r.st 0 = l.length := by rw [e1, List.getD_eq_getElem?_getD, h1]; rfl
  refine ⟨by omega, ?_, ok.outL, fun i hi => ?_, fun o ho => ?_⟩
  · rw [ok.src, List.getD_eq_getElem?_getD, List.getElem?_eq_getElem ok.tg]
    exact V.st4 _ (List.getElem_mem ok.tg)
  · have := ok.srcL i hi
    rw [d1, e2] at this
    omega
  · have := (ok.out o ho).1
    rw [d1, e2] at this
    omega
theorem kvOk.keys {kv : PV} {l : List Int} (h : kvOk kv l) : keysOf [] kv = none := by
  rcases h with rfl | rfl <;> rfl
theorem qt2 {i j : Nat} {ρ : QEnv} {v x y : PV} (h : seqOf [] v = some [x, y]) : qt (pf k) (pm k) (.tup (.cons (.var i) (.cons (.var j) .nil))) v ρ = some ((ρ.set i (some (.v x))).set j (some (.v y))) := by simp [qt, qts, h]
theorem step_ok {p : Plan} (V : Valid p) {r : Row} {s : Nat} {nm : Str} {x : Int} {l : List Int} {cv mv kv : PV} (hr : r ∈ p.rows) (hk : r.key = (s, nm, posI x l)) (h1 : p.states[s]? = some l.length) (ha : asc l) (hnm : nm ∈ p.names) (hc : seqOf [] cv = some [emN s, kv]) (hm : seqOf [] mv = some [.str nm, .int x]) (hkv : kvOk kv l) :
    pf (k + 2) F_step [emG p, cv, mv] = some (.v (.tup [resP r (knL x l), resO r (knL x l)])) := by
  have F := V.fits hr hk h1
  have l4 : l.length ≤ 4 := V.st4 _ (List.mem_of_getElem? h1)
  obtain ⟨r', hr', hk', er⟩ := rule_of (k := k) V (q := posI x l) h1 hnm pos_le
  have := row_unique V hr' hr (hk'.trans hk.symm)
  subst this
  refine pf_at (d := c_step) (r := .ret (.tup [resP r' (knL x l), resO r' (knL x l)])) rfl rfl ?_ rfl
  show qx (pf (k + 1)) (pm (k + 1)) sub0 c_step.body [some (.v (emG p)), some (.v cv), some (.v mv), none, none, none, none, none, none, none, none, none, none] = _
  rw [c_step]
  refine (qx_tup rfl (qe_var rfl) (qt2 hc)).trans ?_
  refine (qx_tup rfl (qe_var rfl) (qt2 hm)).trans ?_
  refine (qx_set rfl (v := emR r') (qe_call (qes_cons (qe_var rfl) (qes_cons (qe_var rfl) (qes_cons (qe_var rfl) (qes_cons (qe_call (qes_cons (qe_var rfl) (qes_cons (qe_var rfl) qes_nil)) (pos_of (k := k) hkv (by omega))) qes_nil)))) er)).trans ?_
  refine (qx_set rfl (v := .lst (l.map .int)) (qe_list (qe_var rfl) hkv.seq hkv.keys)).trans ?_
  let E : List Int → QEnv := fun kn => [some (.v (emG p)), some (.v cv), some (.v mv), some (.v (emR r')), some (.v (.lst (kn.map .int))), none, some (.v (emN s)), some (.v kv), some (.v (.str nm)), some (.v (.int x)), none, none, none]
  have cond : qe (pf (k + 1)) (pm (k + 1)) (.cmp .nin (.var 9) (.var 4)) (E l) = some (.bl (!decide (x ∈ l))) := by
    refine qe_cmp (x := .int x) (y := .lst (l.map .int)) (qe_var rfl) (qe_var rfl) ?_
    simp only [cmpV, inV, lstOf, any_ints, Option.map_some]
  have st1 : ∀ rest, qx (pf (k + 1)) (pm (k + 1)) sub0 (.iff (.cmp .nin (.var 9) (.var 4)) (.asg (.var 4) (.fz (.bi .sorted (.cons (.fz (.bop .add (.var 4) (.fz (.lst (.cons (.var 9) .nil))))) .nil))) .nil) .nil rest) (E l) = qx (pf (k + 1)) (pm (k + 1)) sub0 rest (E (knL x l)) := fun rest => by
    by_cases hx : x ∈ l
    · rw [decide_eq_true hx] at cond
      rw [show knL x l = l from if_pos hx]
      exact qx_iff0 cond
    · rw [decide_eq_false hx] at cond
      rw [show knL x l = sortI (l ++ [x]) from if_neg hx]
      refine qx_iffT cond ((qx_set rfl (v := .lst ((sortI (l ++ [x])).map .int)) (qe_sorted (k := k + 1) (l := l ++ [x]) ?_ (by simp; omega))).trans (by rw [qx_nil]; rfl))
      rw [List.map_append]
      exact qe_fzadd (qe_var rfl) (qe_lstD (qes_cons (qe_var rfl) qes_nil) (by simp [LIM])) (addL (by simp [LIM]; omega))
  refine (st1 _).trans ?_
  generalize knL x l = kn at F
  refine (qx_set rfl (v := .lst (r'.out.map fun o => .tup [.str o.1, .str o.2.1, knV kn o.2.2])) (qe_comp (xs := r'.out.map emO) (qi_seq (qe_ix (v := .tup (r'.out.map emO)) (qe_var (v := emR r') rfl) (qe_cst (v := .int 5) rfl) rfl) rfl) (by have := F.ol; simp [LIM]; omega) ?_)).trans ?_
  · refine qcomp_mapM emO _ ?_
    intro o ho
    refine ⟨[some (.v (emG p)), some (.v cv), some (.v mv), some (.v (emR r')), some (.v (.lst (kn.map .int))), none, some (.v (emN s)), some (.v kv), some (.v (.str nm)), some (.v (.int x)), some (.v (.str o.1)), some (.v (.str o.2.1)), some (.v (emN o.2.2))], by simp [qt, qts, emO, seqOf, qwipe, E], by rw [qb], ?_⟩
    exact qe_tupD (qes_cons (qe_var rfl) (qes_cons (qe_var rfl) (qes_cons (qe_ix (qe_var rfl) (qe_var (v := emN o.2.2) rfl) (ix_kn (F.out o ho))) qes_nil))) (by simp [LIM])
  refine qx_ret (qe_tupD (qes_cons (qe_tupD (qes_cons (qe_ix (v := emN r'.tg) (qe_var (v := emR r') rfl) (qe_cst (v := .int 3) rfl) rfl) (qes_cons (qe_tupB (x := .lst (r'.src.map (knV kn))) (qe_comp (xs := r'.src.map emN) (qi_seq (qe_ix (v := emNs r'.src) (qe_var (v := emR r') rfl) (qe_cst (v := .int 4) rfl) rfl) rfl) (by have := F.sl; simp [LIM]; omega) ?_) rfl) qes_nil)) (by simp [LIM])) (qes_cons (qe_tupB (qe_var rfl) rfl) qes_nil)) (by simp [LIM]))
  refine qcomp_mapM emN _ ?_
  intro i hi
  exact ⟨_, by rw [qt], by rw [qb], qe_ix (qe_var rfl) (qe_var (v := emN i) rfl) (ix_kn (F.src i hi))⟩
end K06
end
section
namespace K06
open PySem PM
variable {k : Nat}
theorem key_names {p : Plan} (V : Valid p) {r : Row} (hr : r ∈ p.rows) : r.nm ∈ p.names := by
  have : r.key ∈ p.rows.map Row.key := List.mem_map.mpr ⟨r, hr, rfl⟩
  rw [V.keys] at this
  exact (mem_keys this).2.1
theorem lookup_row {asg : PV → QEnv → Option QEnv} {body : QEnv → Option QR} {r : Row} {v : PV} (E : Option QV → QEnv)
    (ha : ∀ a z, asg (emR a) (E z) = some (E (some (.v (emR a))))) (hm : body (E (some (.v (emR r)))) = some (.ret v)) : ∀ (rows : List Row) (z : Option QV), r ∈ rows → (∀ a ∈ rows, a ≠ r → body (E (some (.v (emR a)))) = some (.nx (E (some (.v (emR a)))))) → qfor asg body (rows.map emR) (E z) = some (.ret v)
  | [], _, h, _ => by cases h
  | a :: rows, z, h, hb => by
    simp only [List.map_cons, qfor, ha, Option.bind_some]
    by_cases e : a = r
    · subst e
      rw [hm]; rfl
    · rw [hb a List.mem_cons_self e]
      simp only [Option.bind_some, QR.seq]
      exact lookup_row E ha hm rows _ (by rcases List.mem_cons.mp h with h | h; exact absurd h.symm e; exact h) fun b hb' hne => hb b (List.mem_cons_of_mem _ hb') hne
theorem law_step {p : Plan} (V : Valid p) {r : Row} {s : Nat} {nm : Str} {x : Int} {l : List Int} (hr : r ∈ p.rows) (hk : r.key = (s, nm, posI x l)) (h1 : p.states[s]? = some l.length) (ha : asc l) (hnm : nm ∈ p.names) :
    pf (k + 2) F__law_step [emP p, .tup [emN s, .tup (l.map .int)], .tup [.str nm, .int x]] = some (.v (.lst [resP r (knL x l), resO r (knL x l)])) := by
  have F := V.fits hr hk h1
  have l4 : l.length ≤ 4 := V.st4 _ (List.mem_of_getElem? h1)
  refine pf_at (d := c__law_step) (r := .ret (.lst [resP r (knL x l), resO r (knL x l)])) rfl rfl ?_ rfl
  let P : QV := .v (.tup [emN s, .tup (l.map .int)])
  let M : QV := .v (.tup [.str nm, .int x])
  show qx (pf (k + 1)) (pm (k + 1)) sub0 c__law_step.body [some (.v (emP p)), some P, some M, none, none, none, none, none, none] = _
  rw [c__law_step]
  refine (qx_set rfl (v := .int (posI x l : Nat)) (qe_call (qes_cons (qe_ix (qe_var rfl) (qe_cst rfl) rfl) (qes_cons (qe_ix (v := .tup (l.map .int)) (qe_var rfl) (qe_cst rfl) rfl) qes_nil)) (law_pos (k := k) (.inl rfl) (by omega) ha))).trans ?_
  have tk : ([PV.int x].take (1 - posI x l % 2)) = ([x].take (1 - posI x l % 2)).map .int := by rw [List.map_take]; rfl
  have tl : ([x].take (1 - posI x l % 2)).length ≤ 1 := by rw [List.length_take]; exact Nat.min_le_right _ _
  have kn_eq : sortI (l ++ [x].take (1 - posI x l % 2)) = knL x l := by
    rw [pos_mod]
    unfold mem1 knL
    by_cases h : x ∈ l
    · rw [if_pos h, if_pos h]
      simp [sortI_id ha]
    · rw [if_neg h, if_neg h]; rfl
  refine (qx_set rfl (v := .lst ((knL x l).map .int)) ?_).trans ?_
  · rw [← kn_eq]
    refine qe_sorted (k := k + 1) (l := l ++ [x].take (1 - posI x l % 2)) ?_ (by rw [List.length_append]; omega)
    rw [List.map_append]
    refine qe_fzadd (qe_list (x := .tup (l.map .int)) (qe_ix (qe_var rfl) (qe_cst (v := .int 1) rfl) rfl) rfl rfl) (qe_sl (x := .lst [.int x]) (qe_lstD (qes_cons (qe_ix (v := .int x) (qe_var rfl) (qe_cst (v := .int 1) rfl) rfl) qes_nil) (by simp [LIM])) qo_none (qo_some (i := ((1 - posI x l % 2 : Nat) : Int)) ?_) (v := .lst (([x].take (1 - posI x l % 2)).map .int)) (by rw [slA, cut_toQ, tk])) (addL (by simp [LIM]; omega))
    have e := qe_sub (pf := pf (k + 1)) (pm := pm (k + 1)) (ρ := [some (.v (emP p)), some P, some M, some (.v (.int (posI x l : Nat))), none, none, none, none, none]) (qe_cst (v := .int 1) rfl) (md (m := 2) (a := .var 3) (n := posI x l) (k := k + 1) (qe_var rfl) (by decide))
    have hm : posI x l % 2 < 2 := Nat.mod_lt _ (by decide)
    rw [show ((1 - posI x l % 2 : Nat) : Int) = 1 - ((posI x l % 2 : Nat) : Int) by omega]
    exact e
  generalize knL x l = kn at F
  let E : Option QV → QEnv := fun z => [some (.v (emP p)), some P, some M, some (.v (.int (posI x l : Nat))), some (.v (.lst (kn.map .int))), z, none, none, none]
  have cond : ∀ a ∈ p.rows, qe (pf (k + 1)) (pm (k + 1)) (.and (.cmp .eq (.ix (.var 5) (.cst (.int 0))) (.ix (.var 1) (.cst (.int 0)))) (.and (.cmp .eq (.ix (.var 5) (.cst (.int 1))) (.ix (.var 2) (.cst (.int 0)))) (.cmp .eq (.ix (.var 5) (.cst (.int 2))) (.var 3)))) (E (some (.v (emR a)))) = some (.bl (decide ((a.st : Int) = (s : Int)) && (decide (a.nm = nm) && decide ((a.ps : Int) = (posI x l : Int))))) := fun a haR => by
    refine qe_and (qe_cmp (qe_ix (v := emN a.st) (qe_var (v := emR a) rfl) (qe_cst (v := .int 0) rfl) rfl) (qe_ix (v := emN s) (qe_var rfl) (qe_cst (v := .int 0) rfl) rfl) (eq_int _ _)) fun _ => qe_and (qe_cmp (qe_ix (v := .str a.nm) (qe_var (v := emR a) rfl) (qe_cst (v := .int 1) rfl) rfl) (qe_ix (v := .str nm) (qe_var rfl) (qe_cst (v := .int 0) rfl) rfl) (eq_str (V.names.2.2.1 _ (key_names V haR)).sOk (V.names.2.2.1 _ hnm).sOk)) fun _ => qe_cmp (qe_ix (v := emN a.ps) (qe_var (v := emR a) rfl) (qe_cst (v := .int 2) rfl) rfl) (qe_var rfl) (eq_int _ _)
  have cond1 : ∀ a ∈ p.rows, a ≠ r → (decide ((a.st : Int) = (s : Int)) && (decide (a.nm = nm) && decide ((a.ps : Int) = (posI x l : Int)))) = false := fun a haR hne => by
    by_cases h : a.st = s ∧ a.nm = nm ∧ a.ps = posI x l
    · obtain ⟨e1, e2, e3⟩ := h
      exact absurd (row_unique V haR hr (by rw [hk]; unfold Row.key; rw [e1, e2, e3])) hne
    · cases hc : (decide ((a.st : Int) = (s : Int)) && (decide (a.nm = nm) && decide ((a.ps : Int) = (posI x l : Int)))) with
      | false => rfl
      | true =>
        simp only [Bool.and_eq_true, decide_eq_true_eq] at hc
        exact absurd ⟨by omega, hc.2.1, by omega⟩ h
  have cond2 : (decide ((r.st : Int) = (s : Int)) && (decide (r.nm = nm) && decide ((r.ps : Int) = (posI x l : Int)))) = true := by
    have e1 : r.st = s := congrArg Prod.fst hk
    have e3 : r.nm = nm := congrArg (fun z : Nat × Str × Nat => z.2.1) hk
    have e2 : r.ps = posI x l := congrArg (fun z : Nat × Str × Nat => z.2.2) hk
    rw [e1, e2, e3]; simp
  refine (qx_for' (q := .ret (.lst [resP r kn, resO r kn])) (xs := p.rows.map emR) (qi_seq (v := .tup (p.rows.map emR)) (qe_ix (qe_var (v := emP p) rfl) (qe_cst (v := .int 3) rfl) rfl) rfl) (lookup_row E (fun a z => by simp [qt, E]) ?_ p.rows none hr fun a haR hne => ?_)).trans rfl
  · have c := cond r hr
    rw [cond2] at c
    refine (qx_iff1 (q := .ret (.lst [resP r kn, resO r kn])) c ?_).trans rfl
    refine (qx_set rfl (v := resO r kn) (qe_tupB (x := .lst (r.out.map fun o => .tup [.str o.1, .str o.2.1, knV kn o.2.2])) (qe_comp (xs := r.out.map emO) (qi_seq (qe_ix (v := .tup (r.out.map emO)) (qe_var (v := emR r) rfl) (qe_cst (v := .int 5) rfl) rfl) rfl) (by have := F.ol; simp [LIM]; omega) ?_) rfl)).trans ?_
    · refine qcomp_mapM emO _ ?_
      intro o ho
      refine ⟨_, by rw [qt], by rw [qb], ?_⟩
      exact qe_tupD (qes_cons (qe_ix (v := .str o.1) (qe_var (v := emO o) rfl) (qe_cst (v := .int 0) rfl) rfl) (qes_cons (qe_ix (v := .str o.2.1) (qe_var (v := emO o) rfl) (qe_cst (v := .int 1) rfl) rfl) (qes_cons (qe_ix (qe_var rfl) (qe_ix (v := emN o.2.2) (qe_var (v := emO o) rfl) (qe_cst (v := .int 2) rfl) rfl) (ix_kn (F.out o ho))) qes_nil))) (by simp [LIM])
    refine qx_ret (qe_lstD (qes_cons (qe_tupD (qes_cons (qe_ix (v := emN r.tg) (qe_var (v := emR r) rfl) (qe_cst (v := .int 3) rfl) rfl) (qes_cons (qe_tupB (x := .lst (r.src.map (knV kn))) (qe_comp (xs := r.src.map emN) (qi_seq (qe_ix (v := emNs r.src) (qe_var (v := emR r) rfl) (qe_cst (v := .int 4) rfl) rfl) rfl) (by have := F.sl; simp [LIM]; omega) ?_) rfl) qes_nil)) (by simp [LIM])) (qes_cons (qe_var rfl) qes_nil)) (by simp [LIM]))
    refine qcomp_mapM emN _ ?_
    intro i hi
    exact ⟨_, by rw [qt], by rw [qb], qe_ix (qe_var rfl) (qe_var (v := emN i) rfl) (ix_kn (F.src i hi))⟩
  · have c := cond a haR
    rw [cond1 a haR hne] at c
    exact (qx_iff0 c).trans qx_nil
theorem adj_pairwise {l : List Nat} (h : ∀ i, i + 1 < l.length → ∀ x y, l[i]? = some x → l[i + 1]? = some y → x < y) : l.Pairwise (· < ·) := by
  induction l with
  | nil => exact List.Pairwise.nil
  | cons a l ih =>
    have ih := ih fun i hi x y hx hy => h (i + 1) (by simp; omega) x y (by simpa using hx) (by simpa using hy)
    refine List.pairwise_cons.mpr ⟨fun b hb => ?_, ih⟩
    match l, ih, h, hb with
    | c :: l, ih, h, hb =>
      have hac : a < c := h 0 (by simp) a c rfl rfl
      rcases List.mem_cons.mp hb with rfl | hb
      · exact hac
      · exact Nat.lt_trans hac ((List.pairwise_cons.mp ih).1 b hb)
def nextL (r : Row) (kn : List Int) : List Int := r.src.map fun i => kn.getD i 0
theorem resP_eq (r : Row) (kn : List Int) : resP r kn = .tup [emN r.tg, .tup ((nextL r kn).map .int)] := by
  unfold resP nextL
  rw [List.map_map]; rfl
theorem next_ok {p : Plan} (V : Valid p) {r : Row} {s : Nat} {nm : Str} {x : Int} {l : List Int} (hr : r ∈ p.rows) (hk : r.key = (s, nm, posI x l)) (h1 : p.states[s]? = some l.length) (ha : asc l) : p.states[r.tg]? = some (nextL r (knL x l)).length ∧ asc (nextL r (knL x l)) := by
  have F := V.fits hr hk h1
  have ok := V.rows r hr
  have ka := knL_asc (x := x) ha
  generalize knL x l = kn at F ka
  constructor
  · unfold nextL
    rw [List.length_map, ok.src, List.getD_eq_getElem?_getD, List.getElem?_eq_getElem ok.tg]; rfl
  · unfold nextL asc
    rw [List.pairwise_map]
    refine (adj_pairwise ok.asc).imp_of_mem fun {a b} hma hmb hab => ?_
    have la := F.src a hma
    have lb := F.src b hmb
    have := List.pairwise_iff_getElem.mp ka a b la lb hab
    rw [List.getD_eq_getElem?_getD, List.getD_eq_getElem?_getD, List.getElem?_eq_getElem la, List.getElem?_eq_getElem lb]
    exact this
end K06
end
section
namespace K06
open PySem PM
variable {k : Nat}
def dokD (d : Nat) (v : PV) (e : PyData) : Prop := toDw (toDL [] 6) v = some e ∧ PyData.canLay0 e = true ∧ PyData.depth e ≤ d
def dok (d : Nat) (v : PV) : Prop := ∃ e, dokD d v e
theorem dok_int (i : Int) : dok 0 (.int i) := ⟨.int i, by simp [dokD, toDw, PyData.canLay0, PyData.depth]⟩
theorem dok_str {x : Str} (h : sOk x) : dok 0 (.str x) := by
  unfold sOk at h
  exact ⟨.str x, by simp [dokD, toDw, PyData.depth, h]⟩
theorem dok.mono {d d' : Nat} {v : PV} (h : dok d v) (hd : d ≤ d') : dok d' v := by
  obtain ⟨e, h1, h2, h3⟩ := h
  exact ⟨e, h1, h2, Nat.le_trans h3 hd⟩
theorem dok_all {d : Nat} : ∀ {vs : List PV}, (∀ v ∈ vs, dok d v) → ∃ es, toDws (toDL [] 6) vs = some es ∧ PyData.canLayAll0 es = true ∧ PyData.depthAll es ≤ d
  | [], _ => ⟨[], rfl, rfl, Nat.zero_le _⟩
  | v :: vs, h => by
    obtain ⟨e, h1, h2, h3⟩ := h v List.mem_cons_self
    obtain ⟨es, g1, g2, g3⟩ := dok_all (vs := vs) fun w hw => h w (List.mem_cons_of_mem _ hw)
    refine ⟨e :: es, by simp [toDws, h1, g1], by simp [PyData.canLayAll0, h2, g2], ?_⟩
    simp only [PyData.depthAll]
    omega
theorem dok_tup {d : Nat} {vs : List PV} (h : ∀ v ∈ vs, dok d v) : dok (d + 1) (.tup vs) := by
  obtain ⟨es, g1, g2, g3⟩ := dok_all h
  exact ⟨.tuple es, by simp [toDw, g1], by simp [PyData.canLay0, g2], by simp only [PyData.depth]; omega⟩
theorem dok_lst {d : Nat} {vs : List PV} (h : ∀ v ∈ vs, dok d v) : dok (d + 1) (.lst vs) := by
  obtain ⟨es, g1, g2, g3⟩ := dok_all h
  exact ⟨.list es, by simp [toDw, g1], by simp [PyData.canLay0, g2], by simp only [PyData.depth]; omega⟩
theorem dok_ints (l : List Int) : dok 1 (.tup (l.map .int)) := dok_tup fun v hv => by
  obtain ⟨i, _, rfl⟩ := List.mem_map.mp hv
  exact dok_int i
theorem dok.eq {d : Nat} {v : PV} (h : dok d v) (hd : d ≤ 64) : eqS [] v v = some true := by
  obtain ⟨e, h1, h2, h3⟩ := h
  exact eq_selfQ (d := e) ⟨h1, by unfold SeqAt.shaped; rw [h2, decide_eq_true (by omega)]; rfl⟩
theorem ne_self {d : Nat} {v : PV} (h : dok d v) (hd : d ≤ 64) : cmpV .ne [] v v = some false := by
  simp only [cmpV, h.eq hd]; rfl
theorem dok_res {p : Plan} (V : Valid p) {r : Row} (hr : r ∈ p.rows) (kn : List Int) : dok 3 (.tup [resP r kn, resO r kn]) := by
  have ok := V.rows r hr
  refine dok_tup fun v hv => ?_
  simp only [List.mem_cons, List.not_mem_nil, or_false] at hv
  rcases hv with rfl | rfl
  · rw [resP_eq]
    refine dok_tup fun v hv => ?_
    simp only [List.mem_cons, List.not_mem_nil, or_false] at hv
    rcases hv with rfl | rfl
    · exact (dok_int _).mono (by decide)
    · exact dok_ints _
  · refine dok_tup fun v hv => ?_
    obtain ⟨o, ho, rfl⟩ := List.mem_map.mp hv
    obtain ⟨_, c, hc, e1, e2⟩ := ok.out o ho
    have s1 := (V.chOk c hc).1
    have s2 := (V.chOk c hc).2 _ e2
    rw [e1] at s1
    refine dok_tup fun v hv => ?_
    simp only [List.mem_cons, List.not_mem_nil, or_false] at hv
    rcases hv with rfl | rfl | rfl
    · exact dok_str s1
    · exact dok_str s2
    · exact dok_int _
end K06
end
section
namespace K06
open PySem PM
variable {k : Nat}
theorem ixO {xs : List PV} {i : Nat} {v : PV} (h : xs[i]? = some v) : ixV [] (.ro xs) (.int (i : Nat)) = some v := by
  simp only [ixV, seqOf, lstOf, Option.bind_some]
  rw [atI_nat (List.getElem?_eq_some_iff.mp h).1, h]
theorem lenO (xs : List PV) : lenV [] (.ro xs) = some xs.length := by simp [lenV, seqOf, lstOf]
theorem cell_ex (ns : List Int) (i : Nat) : ∃ c : Int, pf (k + 1) F__law_cell [.ro (ns.map .int), .int (i : Nat)] = some (.v (.int c)) := by
  have cond : qe (pf k) (pm k) (.cmp .lt (.var 1) (.bi .len (.cons (.var 0) .nil))) [some (.v (.ro (ns.map .int))), some (.v (.int (i : Nat)))] = some (.bl (decide ((i : Int) < ns.length))) := by
    refine qe_cmp (qe_var rfl) (qe_len (qe_var rfl) (lenO _)) ?_
    rw [List.length_map]; rfl
  by_cases h : i < ns.length
  · refine ⟨ns[i], pf_at (d := c__law_cell) (r := .ret (.int ns[i])) rfl rfl ?_ rfl⟩
    show qx (pf k) (pm k) sub0 c__law_cell.body [some (.v (.ro (ns.map .int))), some (.v (.int (i : Nat)))] = _
    rw [decide_eq_true (by omega)] at cond
    rw [c__law_cell]
    refine (qx_iff1 (q := .ret (.int ns[i])) cond (qx_ret (qe_ix (qe_var rfl) (qe_var rfl) (ixO (by rw [List.getElem?_map, List.getElem?_eq_getElem h]; rfl))))).trans rfl
  · refine ⟨0, pf_at (d := c__law_cell) (r := .ret (.int 0)) rfl rfl ?_ rfl⟩
    show qx (pf k) (pm k) sub0 c__law_cell.body [some (.v (.ro (ns.map .int))), some (.v (.int (i : Nat)))] = _
    rw [decide_eq_false (by omega)] at cond
    rw [c__law_cell]
    exact (qx_iff0 cond).trans (qx_ret (qe_cst rfl))
def nmA (names : List Str) (c : Int) : Str := names.getD (c % names.length).toNat ⟨#[]⟩
theorem nmA_ok {names : List Str} (h : 0 < names.length) (c : Int) : nmA names c ∈ names ∧ ixV [] (emWs names) (.int (c % (names.length : Nat))) = some (.str (nmA names c)) := by
  have h0 : 0 ≤ c % (names.length : Nat) := Int.emod_nonneg _ (by omega)
  have h1 : c % (names.length : Nat) < (names.length : Nat) := Int.emod_lt_of_pos _ (by omega)
  have hl : (c % (names.length : Nat)).toNat < names.length := by omega
  have e : nmA names c = names[(c % (names.length : Nat)).toNat] := by
    unfold nmA
    rw [List.getD_eq_getElem?_getD, List.getElem?_eq_getElem hl]; rfl
  refine ⟨by rw [e]; exact List.getElem_mem hl, ?_⟩
  have := ixT (xs := names.map .str) (i := (c % (names.length : Nat)).toNat) (v := .str (nmA names c)) (by rw [List.getElem?_map, List.getElem?_eq_getElem hl, e]; rfl)
  rw [Int.toNat_of_nonneg h0] at this
  exact this
end K06
end
section
namespace K06
open PySem PM
variable {k : Nat}
theorem toDws_mem {g : Nat → Option PyData} {v : PV} {e : PyData} (hv : toDw g v = some e) : ∀ {ys : List PV} {es : List PyData}, toDws g ys = some es → v ∈ ys → e ∈ es
  | [], es, _, h => by cases h
  | y :: ys, es, h, hm => by
    simp only [toDws] at h
    split at h
    · rename_i d ds e1 e2
      cases h
      rcases List.mem_cons.mp hm with rfl | hm
      · rw [hv] at e1; cases e1; exact List.mem_cons_self
      · exact List.mem_cons_of_mem _ (toDws_mem hv e2 hm)
    · cases h
theorem any_mem {d : Nat} {v : PV} {ys : List PV} (hv : v ∈ ys) (hd : ∀ y ∈ ys, dok d y) (h64 : d + 1 ≤ 64) : anyEq [] v ys = some true := by
  obtain ⟨e, h1, h2, h3⟩ := hd v hv
  obtain ⟨es, g1, g2, g3⟩ := dok_all hd
  have hm := toDws_mem h1 g1 hv
  unfold anyEq toD
  rw [h1, g1]
  have s1 : SeqAt.shaped e = true := by unfold SeqAt.shaped; rw [h2, decide_eq_true (by omega)]; rfl
  have s2 : SeqAt.shaped (.list es) = true := by
    unfold SeqAt.shaped
    have : PyData.depth (.list es) ≤ 64 := by simp only [PyData.depth]; omega
    rw [decide_eq_true this]
    simp [PyData.canLay0, g2]
  simp only
  rw [if_pos ⟨s1, s2⟩]
  congr 1
  exact List.any_eq_true.mpr ⟨e, hm, SeqAt.eqv_refl e (SeqAt.canLay_of_shaped s1)⟩
theorem dok_Ws {l : List Str} (h : ∀ w ∈ l, sOk w) : dok 1 (emWs l) := dok_tup fun v hv => by
  obtain ⟨w, hw, rfl⟩ := List.mem_map.mp hv
  exact dok_str (h w hw)
theorem Valid.dokC {p : Plan} (V : Valid p) : ∀ y ∈ p.chans.map emC, dok 2 y := fun y hy => by
  obtain ⟨c, hc, rfl⟩ := List.mem_map.mp hy
  refine dok_tup fun v hv => ?_
  simp only [List.mem_cons, List.not_mem_nil, or_false] at hv
  rcases hv with rfl | rfl
  · exact (dok_str (V.chOk c hc).1).mono (by decide)
  · exact dok_Ws (V.chOk c hc).2
structure CP where
  ps : List Plan
  ls : List Str
def emPl (c : CP) : PV := .lst [.lst (c.ps.map emP), .lst (c.ls.map .str)]
def emCh (c : CP) : PV := .obj 1 [4, 5] [.tup (c.ps.map emG), .tup (c.ls.map .str)]
structure VC (c : CP) : Prop where
  len : 1 ≤ c.ps.length ∧ c.ps.length ≤ 3
  ll : c.ls.length + 1 = c.ps.length
  val : ∀ p ∈ c.ps, Valid p
  link : ∀ k l p p', c.ls[k]? = some l → c.ps[k]? = some p → c.ps[k + 1]? = some p' → (l, p'.names) ∈ p.chans
theorem isi_ps (c : CP) : ∀ y ∈ c.ps.map emG, isiV [] noCf y [.cls 0] = some true := fun y hy => by
  obtain ⟨p, _, rfl⟩ := List.mem_map.mp hy
  rfl
theorem madeC {c : CP} (V : VC c) {pv lv : PV} (hp : pv = .lst (c.ps.map emG) ∨ pv = .tup (c.ps.map emG)) (hl : lv = .lst (c.ls.map .str) ∨ lv = .tup (c.ls.map .str)) : pm (k + 1) 1 F_Chain_init [pv, lv] = some (.v (emCh c)) := by
  have len := V.len
  have ll := V.ll
  let A := PV.tup (c.ps.map emG)
  let B := PV.tup (c.ls.map .str)
  let I : Nat → QEnv → Prop := fun i ρ => ∃ z3 z4, ρ = [some (.o (.ins 1 [(4, A), (5, B)])), some (.v pv), some (.v lv), z3, z4, none]
  let body : CSs := (.iff (.cmp .nin (.tup (.cons (.var 4) (.cons (.fld (.ix (.fld (.var 0) 4) (.bop .add (.var 3) (.cst (.int 1)))) 0) .nil))) (.fld (.ix (.fld (.var 0) 4) (.var 3)) 1))
    .nev
    .nil
   .nil)
  have t1 : ∀ {v : PV} {xs : List PV} {e : CE} {ρ : QEnv}, (v = .lst xs ∨ v = .tup xs) → qe (pf k) (pm k) e ρ = some v → qe (pf k) (pm k) (.bi .tuple (.cons e .nil)) ρ = some (.tup xs) := fun h he => by
    rcases h with rfl | rfl
    · exact qe_tupB he rfl
    · exact qe_tupT he
  have i1 : ∀ {v : PV} {xs : List PV} {e : CE} {ρ : QEnv}, (v = .lst xs ∨ v = .tup xs) → qe (pf k) (pm k) e ρ = some v → qe (pf k) (pm k) (.isi e [.list, .tuple]) ρ = some (.bl true) := fun h he => by
    rcases h with rfl | rfl <;> exact qe_isi he rfl
  obtain ⟨ρ', e, z3, z4, rfl⟩ := qfor_inv (asg := qt (pf k) (pm k) (.tup (.cons (.var 3) (.cons (.var 4) .nil)))) (body := qx (pf k) (pm k) sub0 body) (I := I) ((c.ls.map PV.str).zipIdx.map fun p => PV.tup [.int p.2, p.1]) 0 [some (.o (.ins 1 [(4, A), (5, B)])), some (.v pv), some (.v lv), none, none, none] (fun i x ρ hx hI => by
    obtain ⟨z3, z4, rfl⟩ := hI
    rw [List.getElem?_map, List.getElem?_zipIdx, List.getElem?_map] at hx
    cases hl' : c.ls[i]? with
    | none => rw [hl'] at hx; cases hx
    | some l =>
      rw [hl'] at hx
      simp only [Option.map_some, Option.some.injEq, Nat.zero_add] at hx
      subst hx
      have hi : i < c.ls.length := (List.getElem?_eq_some_iff.mp hl').1
      have h1 : c.ps[i]? = some c.ps[i] := List.getElem?_eq_getElem (by omega)
      have h2 : c.ps[i + 1]? = some c.ps[i + 1] := List.getElem?_eq_getElem (by omega)
      generalize c.ps[i] = p at h1
      generalize c.ps[i + 1] = p' at h2
      have lk := V.link i l p p' hl' h1 h2
      have Vp := V.val p (List.mem_of_getElem? h1)
      refine ⟨[some (.o (.ins 1 [(4, A), (5, B)])), some (.v pv), some (.v lv), some (.v (.int (i : Nat))), some (.v (.str l)), none], qt_pair, [some (.o (.ins 1 [(4, A), (5, B)])), some (.v pv), some (.v lv), some (.v (.int (i : Nat))), some (.v (.str l)), none], ?_, some (.v (.int (i : Nat))), some (.v (.str l)), rfl⟩
      have f4 : ∀ ρ : QEnv, ρ[0]? = some (some (QV.o (.ins 1 [(4, A), (5, B)]))) → qe (pf k) (pm k) (.fld (.var 0) 4) ρ = some A := fun ρ h => qe_fldO h rfl
      refine (qx_iff0 (qe_cmp (x := emC (l, p'.names)) (y := .tup (p.chans.map emC)) (qe_tupD (qes_cons (qe_var rfl) (qes_cons (qe_fldV (x := emG p') (qe_ix (f4 _ rfl) (y := .int ((i + 1 : Nat) : Int)) (qe_add (i := (i : Nat)) (j := 1) (qe_var rfl) (qe_cst rfl)) (ixT (by rw [List.getElem?_map, h2]; rfl))) rfl) qes_nil)) (by simp [LIM])) (qe_fldV (x := emG p) (qe_ix (f4 _ rfl) (qe_var rfl) (ixT (by rw [List.getElem?_map, h1]; rfl))) rfl) ?_)).trans (by rw [qx_nil])
      show (inV [] _ (.tup (p.chans.map emC))).map (!·) = some false
      simp only [inV]
      rw [any_mem (List.mem_map.mpr ⟨_, lk, rfl⟩) Vp.dokC (by decide)]
      rfl) ⟨none, none, rfl⟩
  refine pm_at (d := c_Chain_init) (r := .nx [some (.o (.ins 1 [(4, A), (5, B)])), some (.v pv), some (.v lv), z3, z4, none]) rfl rfl ?_ rfl
  show qx (pf k) (pm k) sub0 c_Chain_init.body [some (.o (.ins 1 [])), some (.v pv), some (.v lv), none, none, none] = _
  rw [c_Chain_init]
  refine (qx_iff0 (qe_or (i := false) (j := false) (qe_not (i := true) (i1 hp (qe_var rfl))) fun _ => qe_not (i := true) (i1 hl (qe_var rfl)))).trans ?_
  refine (qx_fld (v := A) (t1 hp (qe_var rfl)) rfl (by simp)).trans ?_
  refine (qx_fld (v := B) (t1 hl (qe_var rfl)) rfl (by simp [putP])).trans ?_
  have l4 : qe (pf k) (pm k) (.bi .len (.cons (.fld (.var 0) 4) .nil)) [some (.o (.ins 1 [(4, A), (5, B)])), some (.v pv), some (.v lv), none, none, none] = some (.int (c.ps.length : Nat)) := qe_len (qe_fldO rfl rfl) (by show lenV [] (.tup (c.ps.map emG)) = _; rw [lenT, List.length_map])
  have l5 : qe (pf k) (pm k) (.bi .len (.cons (.fld (.var 0) 5) .nil)) [some (.o (.ins 1 [(4, A), (5, B)])), some (.v pv), some (.v lv), none, none, none] = some (.int (c.ls.length : Nat)) := qe_len (qe_fldO rfl rfl) (by show lenV [] (.tup (c.ls.map .str)) = _; rw [lenT, List.length_map])
  refine (qx_iff0 (qe_or (i := false) (j := false) (qe_not (i := true) (qe_le2 (qe_cst rfl) l4 (qe_cst rfl) (by omega) (by omega))) fun _ => qe_cmp l5 (qe_sub l4 (qe_cst rfl)) ?_)).trans ?_
  · simp only [cmpV, eq_int]
    rw [decide_eq_true (by omega)]; rfl
  refine (qx_iff0 (qe_not (i := true) (qe_gen (xs := c.ps.map emG) (qi_seq (v := A) (qe_fldO rfl rfl) rfl) (qgen_all fun y hy => ⟨_, by rw [qt], qe_isi (qe_var rfl) (isi_ps c y hy)⟩)))).trans ?_
  exact (qx_for (qi_enum (v := B) (qe_fldO rfl rfl) rfl) e).trans qx_nil
end K06
end
section
namespace K06
open PySem PM
variable {k : Nat}
theorem getL_app {β : Type} {l : List β} {a : β} {i : Nat} (h : l.length = i) : (l ++ [a])[i]? = some a := by
  subst h; simp
theorem chain_plan (ns : List Int) : ∃ c, VC c ∧ pf (k + 4) F__law_chain_plan [.ro (ns.map .int)] = some (.v (emPl c)) := by
  obtain ⟨c0, e0⟩ := cell_ex (k := k + 2) ns 0
  obtain ⟨c1, e1⟩ := cell_ex (k := k + 2) ns 1
  obtain ⟨c2, e2⟩ := cell_ex (k := k + 2) ns 2
  obtain ⟨row, rl, _, er⟩ := row_ex (k := k + 2) c0 (n := 8) (by decide)
  obtain ⟨names, hn, ew⟩ := words_ex (k := k + 1) (l := row.take 4) (by rw [List.length_take]; omega)
  obtain ⟨p0, V0, _, ep0⟩ := program_ex (k := k) c1 hn
  let S : QV := .v (.ro (ns.map .int))
  let R : QV := .v (.lst (row.map emN))
  let n := (row[4]'(by omega)) % 3
  have n3 : n < 3 := Nat.mod_lt _ (by decide)
  let body : CSs := (.asg (.var 5) (.ix (.ix (.ix (.var 2) (.neg (.cst (.int 1)))) (.cst (.int 1))) (.bop .mod (.ix (.var 1) (.bop .add (.cst (.int 5)) (.var 4))) (.bi .len (.cons (.ix (.ix (.var 2) (.neg (.cst (.int 1)))) (.cst (.int 1))) .nil))))
   (.ex (.lm .append (.var 3) (.cons (.ix (.var 5) (.cst (.int 0))) .nil))
   (.ex (.lm .append (.var 2) (.cons (.fz (.call F__law_program (.cons (.bop .add (.bop .fdiv (.fz (.call F__law_cell (.cons (.var 0) (.cons (.cst (.int 2)) .nil)))) (.bop .add (.cst (.int 1)) (.var 4))) (.bop .mul (.cst (.int 3)) (.var 4))) (.cons (.ix (.var 5) (.cst (.int 1))) .nil)))) .nil))
   .nil)))
  let I : Nat → QEnv → Prop := fun i ρ => ∃ (ps : List Plan) (ls : List Str) (z4 z5 : Option QV), ps.length = i + 1 ∧ ls.length = i ∧ (∀ p ∈ ps, Valid p) ∧ (∀ k l p p', ls[k]? = some l → ps[k]? = some p → ps[k + 1]? = some p' → (l, p'.names) ∈ p.chans) ∧ ρ = [some S, some R, some (.o (.lst (ps.map emP))), some (.o (.lst (ls.map .str))), z4, z5]
  obtain ⟨ρ', e, ps, ls, z4, z5, i1, i2, i3, i4, rfl⟩ := qfor_inv (asg := qt (pf (k + 3)) (pm (k + 3)) (.var 4)) (body := qx (pf (k + 3)) (pm (k + 3)) sub0 body) (I := I) (rngL 0 (n : Nat)) 0 [some S, some R, some (.o (.lst [emP p0])), some (.o (.lst [])), none, none] (fun i x ρ hx hI => by
    obtain ⟨ps, ls, z4, z5, i1, i2, i3, i4, rfl⟩ := hI
    obtain ⟨hi, rfl⟩ := rng_at hx
    simp only [Nat.zero_add] at i1 i2 ⊢
    have hps : ps[i]? = some ps[i] := List.getElem?_eq_getElem (by omega)
    generalize ps[i] = p at hps
    have Vp := i3 p (List.mem_of_getElem? hps)
    have c0l : 0 < p.chans.length := by have := Vp.chN.1; rw [List.length_map] at this; exact this
    have hj : (row[5 + i]'(by omega)) % p.chans.length < p.chans.length := Nat.mod_lt _ c0l
    have hc : p.chans[(row[5 + i]'(by omega)) % p.chans.length]? = some p.chans[(row[5 + i]'(by omega)) % p.chans.length] := List.getElem?_eq_getElem hj
    generalize p.chans[(row[5 + i]'(by omega)) % p.chans.length] = ch at hc
    have hcm : ch ∈ p.chans := List.mem_of_getElem? hc
    obtain ⟨p', V', pn, ep'⟩ := program_ex (k := k) (c2 / ((1 : Int) + (i : Nat)) + 3 * (i : Nat)) (Vp.chS ch hcm)
    refine ⟨[some S, some R, some (.o (.lst (ps.map emP))), some (.o (.lst (ls.map .str))), some (.v (.int (i : Nat))), z5], by simp [qt], [some S, some R, some (.o (.lst ((ps ++ [p']).map emP))), some (.o (.lst ((ls ++ [ch.1]).map .str))), some (.v (.int (i : Nat))), some (.v (emC ch))], ?_, ps ++ [p'], ls ++ [ch.1], _, _, by simp [i1], by simp [i2], fun y hy => ?_, fun k' l q q' hl hq hq' => ?_, rfl⟩
    · have lp : ∀ ρ : QEnv, ρ[2]? = some (some (QV.o (.lst (ps.map emP)))) → qe (pf (k + 3)) (pm (k + 3)) (.ix (.ix (.var 2) (.neg (.cst (.int 1)))) (.cst (.int 1))) ρ = some (.tup (p.chans.map emC)) := fun ρ h =>
        qe_ix (x := emP p) (qe_ixO h (y := .int (-1)) (qe_neg (i := 1) (qe_cst rfl)) (ix_last (by rw [List.length_map, i1, Nat.add_sub_cancel, List.getElem?_map, hps]; rfl))) (qe_cst (v := .int 1) rfl) rfl
      refine (qx_set rfl (v := emC ch) (qe_ix (lp _ rfl) (md2 (n := row[5 + i]'(by omega)) (m := p.chans.length) (qe_ix (x := .lst (row.map emN)) (qe_var rfl) (y := .int ((5 + i : Nat) : Int)) ?_ (ixR (by omega))) (qe_len (lp _ rfl) (by rw [lenT, List.length_map])) c0l) (ixT (by rw [List.getElem?_map, hc]; rfl)))).trans ?_
      · rw [show ((5 + i : Nat) : Int) = 5 + (i : Nat) by omega]
        exact qe_add (qe_cst rfl) (qe_var rfl)
      refine (qx_app (v := .str ch.1) (xs := ls.map .str) (qe_ix (x := emC ch) (qe_var rfl) (qe_cst (v := .int 0) rfl) rfl) rfl (by rw [List.length_map]; simp [LIM]; omega)).trans ?_
      refine (qx_app (v := emP p') (xs := ps.map emP) (qe_call (qes_cons (qe_add (qe_fdiv (i := c2) (j := (1 : Int) + (i : Nat)) (qe_call (qes_cons (qe_var rfl) (qes_cons (qe_cst rfl) qes_nil)) e2) (qe_add (qe_cst rfl) (qe_var rfl)) (by omega) (by omega)) (qe_mul (i := 3) (j := (i : Nat)) (qe_cst rfl) (qe_var rfl) (by simp [small]))) (qes_cons (qe_ix (x := emC ch) (v := emWs ch.2) (qe_var rfl) (qe_cst (v := .int 1) rfl) rfl) qes_nil)) ep') rfl (by rw [List.length_map]; simp [LIM]; omega)).trans ?_
      rw [qx_nil, List.map_append, List.map_append]; rfl
    · rcases List.mem_append.mp hy with hy | hy
      · exact i3 y hy
      · rw [List.mem_singleton] at hy
        subst hy; exact V'
    · by_cases hk : k' < i
      · rw [List.getElem?_append_left (by omega)] at hl hq hq'
        exact i4 k' l q q' hl hq hq'
      · have hk1 : k' < (ls ++ [ch.1]).length := (List.getElem?_eq_some_iff.mp hl).1
        rw [List.length_append, i2] at hk1
        simp only [List.length_cons, List.length_nil] at hk1
        have hk2 : k' = i := by omega
        subst hk2
        rw [getL_app i2] at hl
        cases hl
        rw [List.getElem?_append_left (by omega), hps] at hq
        cases hq
        rw [getL_app i1] at hq'
        cases hq'
        rw [pn]
        exact hcm) ⟨[p0], [], none, none, rfl, rfl, fun p hp => by rw [List.mem_singleton] at hp; subst hp; exact V0, fun k l p p' hl => by simp at hl, rfl⟩
  rw [Nat.zero_add, rng_length] at i1 i2
  refine ⟨⟨ps, ls⟩, ⟨⟨by show 1 ≤ ps.length; omega, by show ps.length ≤ 3; omega⟩, by show ls.length + 1 = ps.length; omega, i3, i4⟩, pf_at (d := c__law_chain_plan) (r := .ret (emPl ⟨ps, ls⟩)) rfl rfl ?_ rfl⟩
  show qx (pf (k + 3)) (pm (k + 3)) sub0 c__law_chain_plan.body [some S, none, none, none, none, none] = _
  rw [c__law_chain_plan]
  refine (qx_set rfl (v := .lst (row.map emN)) (qe_call (qes_cons (qe_call (qes_cons (qe_var rfl) (qes_cons (qe_cst rfl) qes_nil)) e0) (qes_cons (qe_cst rfl) qes_nil)) er)).trans ?_
  refine (qx_live rfl (o := .lst [emP p0]) ?_ (by simp)).trans ?_
  · have := qes_cons (pf := pf (k + 3)) (pm := pm (k + 3)) (ρ := [some S, some R, none, none, none, none]) (qe_call (es := .cons (.fz (.call F__law_cell (.cons (.var 0) (.cons (.cst (.int 1)) .nil)))) (.cons (.fz (.call F__law_words (.cons (.fz (.sl (.var 1) .none (.some (.cst (.int 4))))) .nil))) .nil)) (qes_cons (qe_call (qes_cons (qe_var rfl) (qes_cons (qe_cst rfl) qes_nil)) e1) (qes_cons (qe_call (qes_cons (qe_sl (x := .lst (row.map emN)) (qe_var rfl) qo_none (qo_some (i := (4 : Nat)) (qe_cst rfl)) (by rw [slA, cut_toQ, List.map_take])) qes_nil) ew) qes_nil)) ep0) qes_nil
    unfold qnew
    dsimp only
    exact (congrArg (fun o => Option.bind o _) this).trans rfl
  refine (qx_live rfl (o := .lst []) (by simp [qnew, qes, LIM]) (by simp)).trans ?_
  refine (qx_for (qi_rng1 (n := (n : Nat)) (md (m := 3) (qe_ix (x := .lst (row.map emN)) (qe_var rfl) (qe_cst (v := .int 4) rfl) (ixR (i := 4) (by omega))) (by decide)) (okRn (by omega))) e).trans ?_
  exact qx_retL (qrs_consO rfl (qrs_consO rfl qrs_nil)) (by simp [LIM])
theorem law_chain {c : CP} (V : VC c) : pf (k + 7) F__law_chain [emPl c] = some (.v (emCh c)) := by
  refine pf_at (d := c__law_chain) (r := .ret (emCh c)) rfl rfl ?_ rfl
  show qx (pf (k + 6)) (pm (k + 6)) sub0 c__law_chain.body [some (.v (emPl c)), none, none] = _
  rw [c__law_chain]
  have len := V.len
  refine (qx_set rfl (v := .lst (c.ps.map emG)) (qe_comp (xs := c.ps.map emP) (qi_seq (v := .lst (c.ps.map emP)) (qe_ix (x := emPl c) (qe_var rfl) (qe_cst (v := .int 0) rfl) rfl) rfl) (by rw [List.length_map]; simp [LIM]; omega) ?_)).trans ?_
  · refine qcomp_mapM emP emG ?_
    intro p hp
    have Vp := V.val p hp
    refine ⟨_, by rw [qt], by rw [qb], ?_⟩
    refine qe_make (qes_cons (qe_list (x := emWs p.names) (qe_ix (x := emP p) (qe_var rfl) (qe_cst (v := .int 0) rfl) rfl) rfl rfl) (qes_cons (qe_list (x := .tup (p.chans.map emC)) (qe_ix (x := emP p) (qe_var rfl) (qe_cst (v := .int 1) rfl) rfl) rfl rfl) (qes_cons (qe_list (x := emNs p.states) (qe_ix (x := emP p) (qe_var rfl) (qe_cst (v := .int 2) rfl) rfl) rfl rfl) (qes_cons (v := .lst (p.rows.reverse.map emR)) ?_ qes_nil)))) (made (k := k) Vp p.rows.reverse_perm)
    rw [List.map_reverse]
    exact qe_rev (qe_list (x := .tup (p.rows.map emR)) (qe_ix (x := emP p) (qe_var rfl) (qe_cst (v := .int 3) rfl) rfl) rfl rfl) rfl
  exact qx_ret (qe_make (qes_cons (qe_var rfl) (qes_cons (qe_list (x := .lst (c.ls.map .str)) (qe_ix (x := emPl c) (qe_var rfl) (qe_cst (v := .int 1) rfl) rfl) rfl rfl) qes_nil)) (madeC (k := k + 5) V (.inl rfl) (.inl rfl)))
end K06
end
section
namespace K06
open PySem PM
variable {k : Nat}
abbrev Pl := Nat × List Int
def emPlc (q : Pl) : PV := .tup [emN q.1, .tup (q.2.map .int)]
def emM (m : Str × Int) : PV := .tup [.str m.1, .int m.2]
structure okPl (p : Plan) (q : Pl) : Prop where
  st : p.states[q.1]? = some q.2.length
  asc : K06.asc q.2
theorem ascI {l : List Int} (h : asc l) (hl : l.length ≤ 1000) : pf (k + 1) F_is_ascending [.tup (l.map .int)] = some (.v (.bl true)) := by
  refine pf_at (d := c_is_ascending) (r := .ret (.bl true)) rfl rfl ?_ rfl
  show qx (pf k) (pm k) sub0 c_is_ascending.body [some (.v (.tup (l.map .int))), none] = _
  rw [c_is_ascending]
  have e0 := len_tup (k := k) (ρ := [some (.v (.tup (l.map .int))), none]) (i := 0) (xs := l.map .int) rfl
  rw [List.length_map] at e0
  have hok : okR 0 ((l.length : Int) - 1) = true := by simp [okR, LIM]; omega
  refine qx_ret (qe_gen (qi_rng1 (qe_sub e0 (qe_cst rfl)) hok) (qgen_all fun y hy => ?_))
  unfold rngL at hy
  obtain ⟨i, hi, rfl⟩ := List.mem_map.mp hy
  rw [List.mem_range] at hi
  have hi' : i + 1 < l.length := by omega
  refine ⟨[some (.v (.tup (l.map .int))), some (.v (.int (0 + (i : Nat))))], by simp [qt, qwipe], ?_⟩
  have a1 : l[i]? = some l[i] := List.getElem?_eq_getElem (by omega)
  have a2 : l[i + 1]? = some l[i + 1] := List.getElem?_eq_getElem hi'
  have b1 : ixV [] (.tup (l.map .int)) (.int (i : Nat)) = some (.int l[i]) := ixT (by rw [List.getElem?_map, a1]; rfl)
  have b2 : ixV [] (.tup (l.map .int)) (.int ((i + 1 : Nat) : Int)) = some (.int l[i + 1]) := ixT (by rw [List.getElem?_map, a2]; rfl)
  have lt := List.pairwise_iff_getElem.mp h i (i + 1) (by omega) hi' (Nat.lt_succ_self i)
  have z1 : qe (pf k) (pm k) (.var 1) [some (.v (.tup (l.map .int))), some (.v (.int (0 + (i : Nat))))] = some (.int (i : Nat)) := by rw [Int.zero_add]; exact qe_var rfl
  refine qe_cmp (qe_ix (qe_var rfl) z1 b1) (qe_ix (qe_var rfl) (qe_add (i := (i : Nat)) (j := 1) z1 (qe_cst rfl)) b2) ?_
  simp only [cmpV, ordV]
  congr 1
  exact decide_eq_true lt
theorem is_kept {p : Plan} (V : Valid p) {q : Pl} (h : okPl p q) : pf (k + 2) F_is_kept [emG p, emPlc q] = some (.v (.bl true)) := by
  have l4 : q.2.length ≤ 4 := V.st4 _ (List.mem_of_getElem? h.st)
  have hs : q.1 < p.states.length := (List.getElem?_eq_some_iff.mp h.st).1
  refine pf_at (d := c_is_kept) (r := .ret (.bl true)) rfl rfl ?_ rfl
  show qx (pf (k + 1)) (pm (k + 1)) sub0 c_is_kept.body [some (.v (emG p)), some (.v (emPlc q)), none] = _
  rw [c_is_kept]
  have i0 : ∀ ρ : QEnv, ρ[1]? = some (some (QV.v (emPlc q))) → qe (pf (k + 1)) (pm (k + 1)) (.ix (.var 1) (.cst (.int 0))) ρ = some (.int (q.1 : Nat)) := fun ρ h => qe_ix (x := emPlc q) (qe_var h) (qe_cst (v := .int 0) rfl) rfl
  have i1 : ∀ ρ : QEnv, ρ[1]? = some (some (QV.v (emPlc q))) → qe (pf (k + 1)) (pm (k + 1)) (.ix (.var 1) (.cst (.int 1))) ρ = some (.tup (q.2.map .int)) := fun ρ h => qe_ix (x := emPlc q) (qe_var h) (qe_cst (v := .int 1) rfl) rfl
  have f2 : ∀ ρ : QEnv, ρ[0]? = some (some (QV.v (emG p))) → qe (pf (k + 1)) (pm (k + 1)) (.fld (.var 0) 2) ρ = some (emNs p.states) := fun ρ h => qe_fldV (qe_var h) rfl
  refine (qx_iff0 (qe_or (i := false) (j := false) (qe_not (i := true) (qe_isi (qe_var rfl) rfl)) fun _ => qe_or (i := false) (j := false) (qe_cmp (qe_len (n := 2) (qe_var rfl) rfl) (qe_cst rfl) (by simp only [cmpV, eq_int]; rfl)) fun _ => qe_not (i := true) (qe_isi (i1 _ rfl) rfl))).trans ?_
  refine (qx_iff0 (qe_not (i := true) (qe_call (qes_cons (i0 _ rfl) (qes_cons (qe_cst rfl) (qes_cons (qe_sub (qe_len (n := p.states.length) (f2 _ rfl) (by unfold emNs; rw [lenT, List.length_map])) (qe_cst rfl)) qes_nil))) (v := .bl true) ?_))).trans ?_
  · rw [is_int k, decide_eq_true (by omega), decide_eq_true (by omega)]; rfl
  refine (qx_iff0 (qe_cmp (qe_len (n := q.2.length) (i1 _ rfl) (by rw [lenT, List.length_map])) (qe_ix (v := .int (q.2.length : Nat)) (f2 _ rfl) (i0 _ rfl) ?_) (by simp only [cmpV, eq_int]; simp))).trans ?_
  · have := ix_Ns hs
    rw [List.getD_eq_getElem?_getD, h.st] at this
    exact this
  refine (qx_iff0 (qe_not (i := true) (qe_gen (xs := q.2.map .int) (qi_seq (i1 _ rfl) rfl) (qgen_all fun y hy => ?_)))).trans ?_
  · obtain ⟨i, _, rfl⟩ := List.mem_map.mp hy
    exact ⟨_, by rw [qt], qe_and (i := true) (j := true) (qe_isi (qe_var rfl) rfl) fun _ => qe_not (i := false) (qe_isi (qe_var rfl) rfl)⟩
  exact qx_ret (qe_call (qes_cons (i1 _ rfl) qes_nil) (ascI (k := k) h.asc (by omega)))
structure okB (c : CP) (pls : List Pl) : Prop where
  len : pls.length = c.ps.length
  ok : ∀ (i : Nat) (p : Plan) (q : Pl), c.ps[i]? = some p → pls[i]? = some q → okPl p q
theorem f4 {c : CP} {ρ : QEnv} (h : ρ[0]? = some (some (QV.v (emCh c)))) : qe (pf k) (pm k) (.fld (.var 0) 4) ρ = some (.tup (c.ps.map emG)) := qe_fldV (qe_var h) rfl
theorem f5 {c : CP} {ρ : QEnv} (h : ρ[0]? = some (some (QV.v (emCh c)))) : qe (pf k) (pm k) (.fld (.var 0) 5) ρ = some (.tup (c.ls.map .str)) := qe_fldV (qe_var h) rfl
theorem is_beginning {c : CP} (V : VC c) {pls : List Pl} (h : okB c pls) : pf (k + 3) F_is_beginning [emCh c, .tup (pls.map emPlc)] = some (.v (.bl true)) := by
  refine pf_at (d := c_is_beginning) (r := .ret (.bl true)) rfl rfl ?_ rfl
  show qx (pf (k + 2)) (pm (k + 2)) sub0 c_is_beginning.body [some (.v (emCh c)), some (.v (.tup (pls.map emPlc))), none, none] = _
  rw [c_is_beginning]
  refine (qx_iff0 (qe_or (i := false) (j := false) (qe_not (i := true) (qe_isi (qe_var rfl) rfl)) fun _ => qe_cmp (qe_len (n := pls.length) (qe_var (v := .tup (pls.map emPlc)) rfl) (by rw [lenT, List.length_map])) (qe_len (n := c.ps.length) (f4 rfl) (by rw [lenT, List.length_map])) (by simp only [cmpV, eq_int, h.len]; simp))).trans ?_
  refine qx_ret (qe_gen (qi_zip (f4 rfl) (qe_var (v := .tup (pls.map emPlc)) rfl) rfl rfl rfl ?_) (qgen_all fun y hy => ?_))
  · rw [List.all_eq_true]
    rintro ⟨a, b⟩ hab
    obtain ⟨i, hi, e⟩ := List.mem_iff_getElem.mp hab
    rw [List.getElem_zip] at e
    simp only [List.getElem_map, Prod.mk.injEq] at e
    rw [← e.1]
    rfl
  · obtain ⟨⟨a, b⟩, hab, rfl⟩ := List.mem_map.mp hy
    obtain ⟨i, hi, e⟩ := List.mem_iff_getElem.mp hab
    rw [List.getElem_zip] at e
    simp only [List.getElem_map, Prod.mk.injEq] at e
    have hl := h.len
    simp only [List.length_zip, List.length_map] at hi
    have q1 : c.ps[i]? = some (c.ps[i]'(by omega)) := List.getElem?_eq_getElem (by omega)
    have q2 : pls[i]? = some (pls[i]'(by omega)) := List.getElem?_eq_getElem (by omega)
    refine ⟨_, qt_pair, ?_⟩
    rw [← e.1, ← e.2]
    exact qe_call (qes_cons (qe_var rfl) (qes_cons (qe_var rfl) qes_nil)) (is_kept (k := k) (V.val _ (List.mem_of_getElem? q1)) (h.ok i _ _ q1 q2))
def CP.nm (c : CP) : List Str := (c.ps.getD 0 ⟨[], [], [], []⟩).names
theorem VC.p0 {c : CP} (V : VC c) : ∃ p, c.ps[0]? = some p ∧ Valid p ∧ c.nm = p.names := by
  have l := V.len.1
  have e : c.ps[0]? = some (c.ps[0]'(by omega)) := List.getElem?_eq_getElem (by omega)
  exact ⟨_, e, V.val _ (List.mem_of_getElem? e), by unfold CP.nm; rw [List.getD_eq_getElem?_getD, e]; rfl⟩
theorem names_of {c : CP} (V : VC c) : pf (k + 1) F_names_of [emCh c] = some (.v (emWs c.nm)) := by
  obtain ⟨p, h0, _, e⟩ := V.p0
  refine pf_at (d := c_names_of) (r := .ret (emWs c.nm)) rfl rfl ?_ rfl
  show qx (pf k) (pm k) sub0 c_names_of.body [some (.v (emCh c))] = _
  rw [c_names_of, e]
  exact qx_ret (qe_fldV (x := emG p) (qe_ix (f4 rfl) (qe_cst (v := .int 0) rfl) (ixT (i := 0) (by rw [List.getElem?_map, h0]; rfl))) rfl)
theorem VC.nmOk {c : CP} (V : VC c) : ∀ w ∈ c.nm, okW w := by
  obtain ⟨p, _, Vp, e⟩ := V.p0
  rw [e]; exact Vp.names.2.2.1
theorem is_message {c : CP} (V : VC c) {m : Str × Int} (h : m.1 ∈ c.nm) : pf (k + 2) F_is_message [emCh c, emM m] = some (.v (.bl true)) := by
  refine pf_at (d := c_is_message) (r := .ret (.bl true)) rfl rfl ?_ rfl
  show qx (pf (k + 1)) (pm (k + 1)) sub0 c_is_message.body [some (.v (emCh c)), some (.v (emM m))] = _
  rw [c_is_message]
  have i1 : ∀ ρ : QEnv, ρ[1]? = some (some (QV.v (emM m))) → qe (pf (k + 1)) (pm (k + 1)) (.ix (.var 1) (.cst (.int 1))) ρ = some (.int m.2) := fun ρ h => qe_ix (x := emM m) (qe_var h) (qe_cst (v := .int 1) rfl) rfl
  refine (qx_iff0 (qe_or (i := false) (j := false) (qe_not (i := true) (qe_isi (qe_var rfl) rfl)) fun _ => qe_or (i := false) (j := false) (qe_cmp (qe_len (n := 2) (qe_var rfl) rfl) (qe_cst rfl) (by simp only [cmpV, eq_int]; rfl)) fun _ => qe_cmp (x := .str m.1) (qe_ix (x := emM m) (qe_var rfl) (qe_cst (v := .int 0) rfl) rfl) (qe_call (qes_cons (qe_var rfl) qes_nil) (names_of (k := k) V)) ?_)).trans ?_
  · simp only [cmpV, emWs, inV]
    rw [any_strs (V.nmOk _ h).sOk fun w hw => (V.nmOk w hw).sOk, decide_eq_true h]; rfl
  exact qx_ret (qe_and (i := true) (j := true) (qe_isi (i1 _ rfl) rfl) fun _ => qe_not (i := false) (qe_isi (i1 _ rfl) rfl))
structure inM (mv : PV) (ms : List (Str × Int)) : Prop where
  fz : fzn mv = .tup (ms.map emM)
  dp : dep mv ≤ 2
  wd : wid mv = true
theorem check_input {c : CP} (V : VC c) {mv : PV} {ms : List (Str × Int)} (h : inM mv ms) (hm : ∀ m ∈ ms, m.1 ∈ c.nm) : pf (k + 4) F_check_input [emCh c, mv] = some (.v .non) := by
  refine pf_at (d := c_check_input) (r := .nx [some (.v (emCh c)), some (.v mv), some (.v (.tup (ms.map emM))), none]) rfl rfl ?_ rfl
  show qx (pf (k + 3)) (pm (k + 3)) sub0 c_check_input.body [some (.v (emCh c)), some (.v mv), none, none] = _
  rw [c_check_input]
  have fr := frozen_ok (k + 2) mv (by have := h.dp; omega) h.wd
  rw [h.fz] at fr
  refine (qx_set rfl (qe_call (qes_cons (qe_var rfl) qes_nil) fr)).trans ?_
  refine (qx_iff0 (qe_or (i := false) (j := false) (qe_not (i := true) (qe_isi (qe_var rfl) rfl)) fun _ => qe_not (i := true) (qe_gen (xs := ms.map emM) (qi_seq (qe_var rfl) rfl) (qgen_all fun y hy => ?_)))).trans qx_nil
  obtain ⟨m, hmm, rfl⟩ := List.mem_map.mp hy
  exact ⟨_, by rw [qt], qe_call (qes_cons (qe_var rfl) (qes_cons (qe_var rfl) qes_nil)) (is_message (k := k + 1) V (hm m hmm))⟩
end K06
end
section
namespace K06
open PySem PM
variable {k : Nat}
abbrev Out3 := Str × Str × Int
abbrev Msg := Str × Int
def emO3 (o : Out3) : PV := .tup [.str o.1, .str o.2.1, .int o.2.2]
def rowOf (p : Plan) (key : Nat × Str × Nat) : Row := (p.rows.find? fun r => decide (r.key = key)).getD ⟨0, ⟨#[]⟩, 0, 0, [], []⟩
theorem rowOf_ok {p : Plan} (V : Valid p) {r : Row} (hr : r ∈ p.rows) : rowOf p r.key = r := by
  unfold rowOf
  cases h : p.rows.find? fun x => decide (x.key = r.key) with
  | none =>
    have := List.find?_eq_none.mp h r hr
    simp at this
  | some x =>
    have h1 := List.mem_of_find?_eq_some h
    have h2 := List.find?_some h
    exact row_unique V h1 hr (of_decide_eq_true h2)
def stepF (p : Plan) (q : Pl) (m : Msg) : Pl × List Out3 :=
  ((( rowOf p (q.1, m.1, posI m.2 q.2)).tg, nextL (rowOf p (q.1, m.1, posI m.2 q.2)) (knL m.2 q.2)), (rowOf p (q.1, m.1, posI m.2 q.2)).out.map fun o => (o.1, o.2.1, (knL m.2 q.2).getD o.2.2 0))
theorem rowOf_ex {p : Plan} (V : Valid p) {q : Pl} {m : Msg} (h : okPl p q) (hn : m.1 ∈ p.names) : ∃ r ∈ p.rows, r.key = (q.1, m.1, posI m.2 q.2) ∧ rowOf p (q.1, m.1, posI m.2 q.2) = r := by
  obtain ⟨r, hr, hk, _⟩ := rule_of (k := 0) V (q := posI m.2 q.2) h.st hn pos_le
  exact ⟨r, hr, hk, by rw [← hk]; exact rowOf_ok V hr⟩
theorem resO_eq (r : Row) (kn : List Int) : resO r kn = .tup ((r.out.map fun o => ((o.1, o.2.1, kn.getD o.2.2 0) : Out3)).map emO3) := by
  unfold resO
  rw [List.map_map]; rfl
theorem step_F {p : Plan} (V : Valid p) {q : Pl} {m : Msg} {cv mv kv : PV} (h : okPl p q) (hn : m.1 ∈ p.names) (hc : seqOf [] cv = some [emN q.1, kv]) (hm : seqOf [] mv = some [.str m.1, .int m.2]) (hkv : kvOk kv q.2) :
    pf (k + 2) F_step [emG p, cv, mv] = some (.v (.tup [emPlc (stepF p q m).1, .tup ((stepF p q m).2.map emO3)])) := by
  obtain ⟨r, hr, hk, e⟩ := rowOf_ex V h hn
  have := step_ok (k := k) V hr hk h.st h.asc hn hc hm hkv
  rw [resP_eq, resO_eq] at this
  unfold stepF
  rw [e]; exact this
theorem law_step_F {p : Plan} (V : Valid p) {q : Pl} {m : Msg} (h : okPl p q) (hn : m.1 ∈ p.names) :
    pf (k + 2) F__law_step [emP p, emPlc q, emM m] = some (.v (.lst [emPlc (stepF p q m).1, .tup ((stepF p q m).2.map emO3)])) := by
  obtain ⟨r, hr, hk, e⟩ := rowOf_ex V h hn
  have := law_step (k := k) V hr hk h.st h.asc hn
  rw [resP_eq, resO_eq] at this
  unfold stepF
  rw [e]; exact this
theorem stepF_ok {p : Plan} (V : Valid p) {q : Pl} {m : Msg} (h : okPl p q) (hn : m.1 ∈ p.names) : okPl p (stepF p q m).1 := by
  obtain ⟨r, hr, hk, e⟩ := rowOf_ex V h hn
  have := next_ok V hr hk h.st h.asc
  unfold stepF
  rw [e]; exact ⟨this.1, this.2⟩
def outOk (p : Plan) (o : Out3) : Prop := ∃ c ∈ p.chans, c.1 = o.1 ∧ o.2.1 ∈ c.2
theorem stepF_out {p : Plan} (V : Valid p) {q : Pl} {m : Msg} (h : okPl p q) (hn : m.1 ∈ p.names) : (stepF p q m).2.length ≤ 3 ∧ ∀ o ∈ (stepF p q m).2, outOk p o := by
  obtain ⟨r, hr, hk, e⟩ := rowOf_ex V h hn
  have ok := V.rows r hr
  unfold stepF
  rw [e]
  refine ⟨by rw [List.length_map]; exact ok.outL, fun o ho => ?_⟩
  obtain ⟨x, hx, rfl⟩ := List.mem_map.mp ho
  exact (ok.out x hx).2
def heardF (p : Plan) : Pl → List Msg → Pl × List Out3
  | q, [] => (q, [])
  | q, m :: ms => ((heardF p (stepF p q m).1 ms).1, (stepF p q m).2 ++ (heardF p (stepF p q m).1 ms).2)
theorem heardF_ok {p : Plan} (V : Valid p) : ∀ {ms : List Msg} {q : Pl}, okPl p q → (∀ m ∈ ms, m.1 ∈ p.names) → okPl p (heardF p q ms).1 ∧ (heardF p q ms).2.length ≤ 3 * ms.length ∧ ∀ o ∈ (heardF p q ms).2, outOk p o
  | [], q, h, _ => ⟨h, Nat.le_refl _, fun o ho => by cases ho⟩
  | m :: ms, q, h, hn => by
    have h1 := stepF_ok V h (hn m List.mem_cons_self)
    have h2 := stepF_out V h (hn m List.mem_cons_self)
    have h3 := heardF_ok V (ms := ms) h1 fun x hx => hn x (List.mem_cons_of_mem _ hx)
    refine ⟨h3.1, ?_, fun o ho => ?_⟩
    · simp only [heardF, List.length_append, List.length_cons]
      omega
    · rcases List.mem_append.mp ho with ho | ho
      · exact h2.2 o ho
      · exact h3.2.2 o ho
def plV (cv : PV) (q : Pl) : Prop := ∃ kv, seqOf [] cv = some [emN q.1, kv] ∧ kvOk kv q.2
theorem plV_emPlc (q : Pl) : plV (emPlc q) q := ⟨.tup (q.2.map .int), rfl, .inl rfl⟩
theorem seq_ix {v : PV} {xs : List PV} {i : Nat} {x : PV} (h : seqOf [] v = some xs) (hx : xs[i]? = some x) : ixV [] v (.int (i : Nat)) = some x := by
  cases v <;> simp [seqOf, lstOf] at h
  · subst h; exact ixT hx
  · subst h; exact ixL hx
  · subst h; exact ixO hx
theorem heard_ok {p : Plan} (V : Valid p) {f : Msg → PV} (hf : ∀ m : Msg, seqOf [] (f m) = some [.str m.1, .int m.2]) {cv msv : PV} {q : Pl} {ms : List Msg} (hc : plV cv q) (h : okPl p q) (hn : ∀ m ∈ ms, m.1 ∈ p.names) (hl : ms.length ≤ 1000) (hms : itemsQ msv = some (ms.map f)) :
    ∃ cv', plV cv' (heardF p q ms).1 ∧ pf (k + 3) F_heard [emG p, cv, msv] = some (.v (.tup [cv', .tup ((heardF p q ms).2.map emO3)])) := by
  let body : CSs := (.asg (.tup (.cons (.var 1) (.cons (.var 5) .nil))) (.fz (.call F_step (.cons (.var 0) (.cons (.var 1) (.cons (.var 4) .nil)))))
   (.asg (.var 3) (.fz (.bop .add (.var 3) (.fz (.bi .list (.cons (.var 5) .nil)))))
   .nil))
  have loop : ∀ (ms : List Msg) (q : Pl) (cv : PV) (os : List Out3) (z4 z5 : Option QV), plV cv q → okPl p q → (∀ m ∈ ms, m.1 ∈ p.names) → os.length + 3 * ms.length ≤ 4000 →
      ∃ cv' z4' z5', plV cv' (heardF p q ms).1 ∧ qfor (qt (pf (k + 2)) (pm (k + 2)) (.var 4)) (qx (pf (k + 2)) (pm (k + 2)) sub0 body) (ms.map f) [some (.v (emG p)), some (.v cv), some (.v msv), some (.v (.lst (os.map emO3))), z4, z5] = some (.nx [some (.v (emG p)), some (.v cv'), some (.v msv), some (.v (.lst ((os ++ (heardF p q ms).2).map emO3))), z4', z5']) := by
    intro ms
    induction ms with
    | nil => intro q cv os z4 z5 hc _ _ _; exact ⟨cv, z4, z5, hc, by simp [qfor, heardF]⟩
    | cons m ms ih =>
      intro q cv os z4 z5 hc h hn hl
      obtain ⟨kv, hc1, hc2⟩ := hc
      have st := step_F (k := k) V (m := m) h (hn m List.mem_cons_self) hc1 (hf m) hc2
      have h1 := stepF_ok V h (hn m List.mem_cons_self)
      have h2 := (stepF_out V h (hn m List.mem_cons_self)).1
      simp only [List.length_cons] at hl
      obtain ⟨cv', z4', z5', g1, g2⟩ := ih (stepF p q m).1 (emPlc (stepF p q m).1) (os ++ (stepF p q m).2) (some (.v (f m))) (some (.v (.tup ((stepF p q m).2.map emO3)))) (plV_emPlc _) h1 (fun x hx => hn x (List.mem_cons_of_mem _ hx)) (by rw [List.length_append]; omega)
      refine ⟨cv', z4', z5', g1, ?_⟩
      rw [List.append_assoc] at g2
      simp only [List.map_cons, qfor]
      have e1 : qt (pf (k + 2)) (pm (k + 2)) (.var 4) (f m) [some (.v (emG p)), some (.v cv), some (.v msv), some (.v (.lst (os.map emO3))), z4, z5] = some [some (.v (emG p)), some (.v cv), some (.v msv), some (.v (.lst (os.map emO3))), some (.v (f m)), z5] := by simp [qt]
      have e2 : qx (pf (k + 2)) (pm (k + 2)) sub0 body [some (.v (emG p)), some (.v cv), some (.v msv), some (.v (.lst (os.map emO3))), some (.v (f m)), z5] = some (.nx [some (.v (emG p)), some (.v (emPlc (stepF p q m).1)), some (.v msv), some (.v (.lst ((os ++ (stepF p q m).2).map emO3))), some (.v (f m)), some (.v (.tup ((stepF p q m).2.map emO3)))]) := by
        refine (qx_tup rfl (qe_call (qes_cons (qe_var rfl) (qes_cons (qe_var rfl) (qes_cons (qe_var rfl) qes_nil))) st) qt_pair).trans ?_
        refine (qx_set rfl (v := .lst ((os ++ (stepF p q m).2).map emO3)) ?_).trans (by rw [qx_nil]; rfl)
        rw [List.map_append]
        exact qe_fzadd (x := .lst (os.map emO3)) (qe_var rfl) (qe_list (x := .tup ((stepF p q m).2.map emO3)) (qe_var rfl) rfl rfl) (addL (by simp [LIM]; omega))
      simp only [e1, e2, Option.bind_some, QR.seq]
      exact g2
  obtain ⟨cv', z4, z5, g1, g2⟩ := loop ms q cv [] none none hc h hn (by simp; omega)
  refine ⟨cv', g1, pf_at (d := c_heard) (r := .ret (.tup [cv', .tup ((heardF p q ms).2.map emO3)])) rfl rfl ?_ rfl⟩
  show qx (pf (k + 2)) (pm (k + 2)) sub0 c_heard.body [some (.v (emG p)), some (.v cv), some (.v msv), none, none, none] = _
  rw [c_heard]
  refine (qx_set rfl (v := .lst []) (qe_lstD qes_nil (by simp [LIM]))).trans ?_
  refine (qx_for (xs := ms.map f) (qi_seq (qe_var rfl) hms) g2).trans ?_
  exact qx_ret (qe_tupD (qes_cons (qe_var rfl) (qes_cons (qe_tupB (x := .lst ((heardF p q ms).2.map emO3)) (qe_var rfl) rfl) qes_nil)) (by simp [LIM]))
end K06
end
section
namespace K06
open PySem PM
variable {k : Nat}
def P0 : Plan := ⟨[], [], [], []⟩
def flt (l : Str) (os : List Out3) : List Msg := (os.filter fun o => decide (o.1 = l)).map fun o => o.2
def hearM (c : CP) (pls : List Pl) (m : Msg) : Nat → List Msg
  | 0 => [m]
  | i + 1 => flt (c.ls.getD i ⟨#[]⟩) (heardF (c.ps.getD i P0) (pls.getD i (0, [])) (hearM c pls m i)).2
def hF (c : CP) (pls : List Pl) (m : Msg) (i : Nat) : Pl × List Out3 := heardF (c.ps.getD i P0) (pls.getD i (0, [])) (hearM c pls m i)
def partsF (c : CP) (pls : List Pl) (m : Msg) : List (Pl × List Out3) := (List.range c.ps.length).map (hF c pls m)
def placesF (c : CP) (pls : List Pl) (m : Msg) : List Pl := (partsF c pls m).map (·.1)
def emPart (x : Pl × List Out3) : PV := .tup [emN x.1.1, .tup (x.1.2.map .int), .tup (x.2.map emO3)]
theorem VC.pi {c : CP} (V : VC c) {i : Nat} (hi : i < c.ps.length) : c.ps[i]? = some (c.ps.getD i P0) ∧ Valid (c.ps.getD i P0) := by
  have e : c.ps[i]? = some (c.ps.getD i P0) := by rw [List.getD_eq_getElem?_getD, List.getElem?_eq_getElem hi]; rfl
  exact ⟨e, V.val _ (List.mem_of_getElem? e)⟩
theorem okB.pi {c : CP} {pls : List Pl} (h : okB c pls) {i : Nat} (hi : i < c.ps.length) : pls[i]? = some (pls.getD i (0, [])) := by
  have := h.len
  rw [List.getD_eq_getElem?_getD, List.getElem?_eq_getElem (by omega)]; rfl
theorem VC.li {c : CP} (V : VC c) {i : Nat} (hi : i + 1 < c.ps.length) : c.ls[i]? = some (c.ls.getD i ⟨#[]⟩) ∧ (c.ls.getD i ⟨#[]⟩, (c.ps.getD (i + 1) P0).names) ∈ (c.ps.getD i P0).chans := by
  have := V.ll
  have e : c.ls[i]? = some (c.ls.getD i ⟨#[]⟩) := by rw [List.getD_eq_getElem?_getD, List.getElem?_eq_getElem (by omega)]; rfl
  exact ⟨e, V.link i _ _ _ e (V.pi (by omega)).1 (V.pi hi).1⟩
theorem hear_ok {c : CP} (V : VC c) {pls : List Pl} (h : okB c pls) {m : Msg} (hm : m.1 ∈ c.nm) : ∀ i, i < c.ps.length → (∀ x ∈ hearM c pls m i, x.1 ∈ (c.ps.getD i P0).names) ∧ (hearM c pls m i).length ≤ 3 ^ i
  | 0, hi => by
    refine ⟨fun x hx => ?_, Nat.le_refl _⟩
    rw [hearM, List.mem_singleton] at hx
    subst hx; exact hm
  | i + 1, hi => by
    obtain ⟨h1, h2⟩ := hear_ok V h hm i (by omega)
    obtain ⟨e1, V1⟩ := V.pi (i := i) (by omega)
    obtain ⟨_, lk⟩ := V.li hi
    have hq := h.ok i _ _ e1 (h.pi (by omega))
    have H := heardF_ok V1 hq h1
    refine ⟨fun x hx => ?_, ?_⟩
    · rw [hearM, flt, List.mem_map] at hx
      obtain ⟨o, ho, rfl⟩ := hx
      rw [List.mem_filter, decide_eq_true_eq] at ho
      obtain ⟨ch, hch, g1, g2⟩ := H.2.2 o ho.1
      have nd : ((c.ps.getD i P0).chans.map (·.1)).Nodup := V1.chN.2.2.2
      obtain ⟨a, ha, ea⟩ := List.mem_iff_getElem.mp hch
      obtain ⟨b, hb, eb⟩ := List.mem_iff_getElem.mp lk
      have e : ((c.ps.getD i P0).chans.map (·.1))[a]? = ((c.ps.getD i P0).chans.map (·.1))[b]? := by
        rw [List.getElem?_map, List.getElem?_map, List.getElem?_eq_getElem ha, List.getElem?_eq_getElem hb, ea, eb]
        simp [g1, ho.2]
      have := (List.getElem?_inj (by rw [List.length_map]; exact ha) nd).mp e
      subst this
      rw [ea] at eb
      rw [eb] at g2
      exact g2
    · rw [hearM, flt, List.length_map]
      have l1 := List.length_filter_le (fun o : Out3 => decide (o.1 = c.ls.getD i ⟨#[]⟩)) (heardF (c.ps.getD i P0) (pls.getD i (0, [])) (hearM c pls m i)).2
      have l2 := H.2.1
      rw [Nat.pow_succ]
      omega
theorem hF_ok {c : CP} (V : VC c) {pls : List Pl} (h : okB c pls) {m : Msg} (hm : m.1 ∈ c.nm) {i : Nat} (hi : i < c.ps.length) : okPl (c.ps.getD i P0) (hF c pls m i).1 ∧ (hF c pls m i).2.length ≤ 3 * 3 ^ i ∧ ∀ o ∈ (hF c pls m i).2, outOk (c.ps.getD i P0) o := by
  obtain ⟨h1, h2⟩ := hear_ok V h hm i hi
  obtain ⟨e1, V1⟩ := V.pi hi
  have H := heardF_ok V1 (h.ok i _ _ e1 (h.pi hi)) h1
  exact ⟨H.1, Nat.le_trans H.2.1 (Nat.mul_le_mul_left 3 h2), H.2.2⟩
theorem places_ok {c : CP} (V : VC c) {pls : List Pl} (h : okB c pls) {m : Msg} (hm : m.1 ∈ c.nm) : okB c (placesF c pls m) where
  len := by simp [placesF, partsF]
  ok := fun i p q hp hq => by
    have hi : i < c.ps.length := (List.getElem?_eq_some_iff.mp hp).1
    unfold placesF partsF at hq
    rw [List.getElem?_map, List.getElem?_map, List.getElem?_range hi] at hq
    cases hq
    rw [(V.pi hi).1] at hp
    cases hp
    exact (hF_ok V h hm hi).1
theorem pow3 {i : Nat} (h : i < 3) : 3 ^ i ≤ 9 := by
  rcases (show i = 0 ∨ i = 1 ∨ i = 2 by omega) with rfl | rfl | rfl <;> decide
theorem take_succ_range {β : Type} {f : Nat → β} {n i : Nat} (hi : i < n) : ((List.range n).map f).take (i + 1) = ((List.range n).map f).take i ++ [f i] := by
  rw [List.take_add_one, List.getElem?_map, List.getElem?_range hi]; rfl
theorem out_sOk {p : Plan} (V : Valid p) {o : Out3} (h : outOk p o) : sOk o.1 ∧ sOk o.2.1 := by
  obtain ⟨c, hc, e1, e2⟩ := h
  have s1 := (V.chOk c hc).1
  have s2 := (V.chOk c hc).2 _ e2
  rw [e1] at s1
  exact ⟨s1, s2⟩
def bgV (bv : PV) (pls : List Pl) : Prop := ∃ bs, seqOf [] bv = some bs ∧ bs.length = pls.length ∧ ∀ (i : Nat) (b : PV) (q : Pl), bs[i]? = some b → pls[i]? = some q → plV b q
theorem bgV_emPlc (pls : List Pl) : bgV (.tup (pls.map emPlc)) pls := ⟨pls.map emPlc, rfl, by simp, fun i b q hb hq => by
  rw [List.getElem?_map, hq] at hb
  cases hb; exact plV_emPlc q⟩
theorem kvOk.tupd {ρ : QEnv} {e : CE} {kv : PV} {l : List Int} (h : kvOk kv l) (he : qe (pf k) (pm k) e ρ = some kv) : qe (pf k) (pm k) (.bi .tuple (.cons e .nil)) ρ = some (.tup (l.map .int)) := by
  rcases h with rfl | rfl
  · exact qe_tupT he
  · exact qe_tupB he rfl
theorem chain_step {c : CP} (V : VC c) {pls : List Pl} (h : okB c pls) {m : Msg} (hm : m.1 ∈ c.nm) {bv mv : PV} (hb : bgV bv pls) (hmv : seqOf [] mv = some [.str m.1, .int m.2]) :
    pf (k + 4) F_chain_step [emCh c, bv, mv] = some (.v (.tup [.tup ((placesF c pls m).map emPlc), .tup ((partsF c pls m).map emPart)])) := by
  obtain ⟨bs, hbs, hbl, hbp⟩ := hb
  have len := V.len
  have hpl := h.len
  let C : QV := .v (emCh c)
  let body : CSs := (.asg (.tup (.cons (.var 8) (.cons (.var 9) .nil))) (.fz (.call F_heard (.cons (.var 7) (.cons (.ix (.var 1) (.var 6)) (.cons (.var 3) .nil)))))
   (.asg (.var 8) (.tup (.cons (.ix (.var 8) (.cst (.int 0))) (.cons (.bi .tuple (.cons (.ix (.var 8) (.cst (.int 1))) .nil)) .nil)))
   (.ex (.lm .append (.var 4) (.cons (.var 8) .nil))
   (.ex (.lm .append (.var 5) (.cons (.tup (.cons (.ix (.var 8) (.cst (.int 0))) (.cons (.ix (.var 8) (.cst (.int 1))) (.cons (.var 9) .nil)))) .nil))
   (.iff (.cmp .lt (.var 6) (.bi .len (.cons (.fld (.var 0) 5) .nil)))
    (.asg (.var 3) (.fz (.comp (.tup (.cons (.var 11) (.cons (.var 12) .nil))) [10, 11, 12] (.tup (.cons (.var 10) (.cons (.var 11) (.cons (.var 12) .nil)))) (.seq (.var 9)) (.some (.cmp .eq (.var 10) (.ix (.fld (.var 0) 5) (.var 6))))))
    .nil)
    .nil
   .nil)))))
  let I : Nat → QEnv → Prop := fun i ρ => ∃ (m3 : PV) (z6 z7 z8 z9 z10 z11 z12 : Option QV), (i < c.ps.length → ∃ f : Msg → PV, (∀ m : Msg, seqOf [] (f m) = some [.str m.1, .int m.2]) ∧ ((∀ x : Msg, f x = emM x) ∨ i = 0) ∧ itemsQ m3 = some ((hearM c pls m i).map f)) ∧
    ρ = [some C, some (.v bv), some (.v mv), some (.v m3), some (.o (.lst (((placesF c pls m).take i).map emPlc))), some (.o (.lst (((partsF c pls m).take i).map emPart))), z6, z7, z8, z9, z10, z11, z12]
  obtain ⟨ρ', e, m3, z6, z7, z8, z9, z10, z11, z12, _, rfl⟩ := qfor_inv (asg := qt (pf (k + 3)) (pm (k + 3)) (.tup (.cons (.var 6) (.cons (.var 7) .nil)))) (body := qx (pf (k + 3)) (pm (k + 3)) sub0 body) (I := I) ((c.ps.map emG).zipIdx.map fun p => PV.tup [.int p.2, p.1]) 0 [some C, some (.v bv), some (.v mv), some (.v (.lst [mv])), some (.o (.lst [])), some (.o (.lst [])), none, none, none, none, none, none, none] (fun i x ρ hx hI => by
    obtain ⟨m3, z6, z7, z8, z9, z10, z11, z12, h3, rfl⟩ := hI
    rw [List.getElem?_map, List.getElem?_zipIdx, List.getElem?_map] at hx
    have hi : i < c.ps.length := by
      cases hp : c.ps[i]? with
      | none => rw [hp] at hx; cases hx
      | some p => exact (List.getElem?_eq_some_iff.mp hp).1
    obtain ⟨e1, V1⟩ := V.pi hi
    rw [e1] at hx
    simp only [Option.map_some, Option.some.injEq, Nat.zero_add] at hx h3 ⊢
    subst hx
    obtain ⟨f, hf, _, hms⟩ := h3 hi
    obtain ⟨hn, hlen⟩ := hear_ok V h hm i hi
    have hq := h.pi hi
    have hbi : bs[i]? = some (bs[i]'(by omega)) := List.getElem?_eq_getElem (by omega)
    generalize bs[i]'(by omega) = b at hbi
    have okq := h.ok i _ _ e1 hq
    have p9 := pow3 (i := i) (by omega)
    obtain ⟨cv', ⟨kv, k1, k2⟩, hh⟩ := heard_ok (k := k) V1 hf (hbp i b _ hbi hq) okq hn (by omega) hms
    have HF := hF_ok V h hm hi
    have eF : heardF (c.ps.getD i P0) (pls.getD i (0, [])) (hearM c pls m i) = hF c pls m i := rfl
    rw [eF] at k1 k2 hh
    have hmn : hearM c pls m (i + 1) = flt (c.ls.getD i ⟨#[]⟩) (hF c pls m i).2 := rfl
    generalize hw : hF c pls m i = w at HF k1 k2 hh hmn
    have tp : (placesF c pls m).take (i + 1) = (placesF c pls m).take i ++ [w.1] := by
      unfold placesF partsF
      rw [List.map_map, take_succ_range hi]
      simp [hw]
    have tq : (partsF c pls m).take (i + 1) = (partsF c pls m).take i ++ [w] := by
      unfold partsF
      rw [take_succ_range hi, hw]
    have ltp : ((placesF c pls m).take i).length ≤ 3 := by rw [List.length_take]; omega
    have ltq : ((partsF c pls m).take i).length ≤ 3 := by rw [List.length_take]; omega
    let E : PV → QEnv := fun m3 => [some C, some (.v bv), some (.v mv), some (.v m3), some (.o (.lst (((placesF c pls m).take (i + 1)).map emPlc))), some (.o (.lst (((partsF c pls m).take (i + 1)).map emPart))), some (.v (.int (i : Nat))), some (.v (emG (c.ps.getD i P0))), some (.v (emPlc w.1)), some (.v (.tup (w.2.map emO3))), z10, z11, z12]
    refine ⟨[some C, some (.v bv), some (.v mv), some (.v m3), some (.o (.lst (((placesF c pls m).take i).map emPlc))), some (.o (.lst (((partsF c pls m).take i).map emPart))), some (.v (.int (i : Nat))), some (.v (emG (c.ps.getD i P0))), z8, z9, z10, z11, z12], qt_pair, ?_⟩
    have run1 : ∀ rest, qx (pf (k + 3)) (pm (k + 3)) sub0 (.asg (.tup (.cons (.var 8) (.cons (.var 9) .nil))) (.fz (.call F_heard (.cons (.var 7) (.cons (.ix (.var 1) (.var 6)) (.cons (.var 3) .nil)))))
       (.asg (.var 8) (.tup (.cons (.ix (.var 8) (.cst (.int 0))) (.cons (.bi .tuple (.cons (.ix (.var 8) (.cst (.int 1))) .nil)) .nil)))
       (.ex (.lm .append (.var 4) (.cons (.var 8) .nil))
       (.ex (.lm .append (.var 5) (.cons (.tup (.cons (.ix (.var 8) (.cst (.int 0))) (.cons (.ix (.var 8) (.cst (.int 1))) (.cons (.var 9) .nil)))) .nil)) rest)))) [some C, some (.v bv), some (.v mv), some (.v m3), some (.o (.lst (((placesF c pls m).take i).map emPlc))), some (.o (.lst (((partsF c pls m).take i).map emPart))), some (.v (.int (i : Nat))), some (.v (emG (c.ps.getD i P0))), z8, z9, z10, z11, z12] = qx (pf (k + 3)) (pm (k + 3)) sub0 rest (E m3) := fun rest => by
      refine (qx_tup rfl (qe_call (qes_cons (qe_var rfl) (qes_cons (qe_ix (x := bv) (qe_var rfl) (qe_var rfl) (seq_ix hbs hbi)) (qes_cons (qe_var rfl) qes_nil))) hh) qt_pair).trans ?_
      refine (qx_set rfl (v := emPlc w.1) (qe_tupD (qes_cons (qe_ix (x := cv') (qe_var rfl) (qe_cst (v := .int 0) rfl) (seq_ix (i := 0) k1 rfl)) (qes_cons (k2.tupd (qe_ix (x := cv') (qe_var rfl) (qe_cst (v := .int 1) rfl) (seq_ix (i := 1) k1 rfl))) qes_nil)) (by simp [LIM]))).trans ?_
      refine (qx_app (v := emPlc w.1) (xs := ((placesF c pls m).take i).map emPlc) (qe_var rfl) rfl (by rw [List.length_map]; simp only [LIM]; omega)).trans ?_
      refine (qx_app (v := emPart w) (xs := ((partsF c pls m).take i).map emPart) (qe_tupD (qes_cons (qe_ix (x := emPlc w.1) (qe_var rfl) (qe_cst (v := .int 0) rfl) rfl) (qes_cons (qe_ix (x := emPlc w.1) (qe_var rfl) (qe_cst (v := .int 1) rfl) rfl) (qes_cons (qe_var rfl) qes_nil))) (by simp [LIM])) rfl (by rw [List.length_map]; simp only [LIM]; omega)).trans ?_
      show qx _ _ sub0 rest [some C, some (.v bv), some (.v mv), some (.v m3), some (.o (.lst (((placesF c pls m).take i).map emPlc ++ [emPlc w.1]))), some (.o (.lst (((partsF c pls m).take i).map emPart ++ [emPart w]))), some (.v (.int (i : Nat))), some (.v (emG (c.ps.getD i P0))), some (.v (emPlc w.1)), some (.v (.tup (w.2.map emO3))), z10, z11, z12] = _
      have a1 : ((placesF c pls m).take i).map emPlc ++ [emPlc w.1] = ((placesF c pls m).take (i + 1)).map emPlc := by rw [tp, List.map_append]; rfl
      have a2 : ((partsF c pls m).take i).map emPart ++ [emPart w] = ((partsF c pls m).take (i + 1)).map emPart := by rw [tq, List.map_append]; rfl
      rw [a1, a2]
    have cond : qe (pf (k + 3)) (pm (k + 3)) (.cmp .lt (.var 6) (.bi .len (.cons (.fld (.var 0) 5) .nil))) (E m3) = some (.bl (decide ((i : Int) < (c.ls.length : Nat)))) := by
      refine qe_cmp (x := .int (i : Nat)) (qe_var rfl) (qe_len (n := c.ls.length) (f5 rfl) (by rw [lenT, List.length_map])) ?_
      rfl
    have ll := V.ll
    by_cases hl : i + 1 < c.ps.length
    · rw [decide_eq_true (by omega)] at cond
      obtain ⟨el, lk⟩ := V.li hl
      have sl := (V1.chOk _ lk).1
      dsimp only at sl
      refine ⟨E (.lst ((hearM c pls m (i + 1)).map emM)), ?_, _, _, _, _, _, _, _, _, fun _ => ⟨emM, fun _ => rfl, .inl fun _ => rfl, rfl⟩, rfl⟩
      refine (run1 _).trans ((qx_iffT (ρ2 := E (.lst ((hearM c pls m (i + 1)).map emM))) cond ?_).trans qx_nil)
      refine (qx_set rfl (v := .lst ((hearM c pls m (i + 1)).map emM)) (qe_comp (xs := w.2.map emO3) (qi_seq (v := .tup (w.2.map emO3)) (qe_var rfl) rfl) (by have := HF.2.1; simp only [List.length_map, LIM]; omega) ?_)).trans (by rw [qx_nil]; rfl)
      rw [hmn]
      unfold flt
      rw [List.map_map]
      refine qcomp_filterM emO3 _ _ ?_
      intro o ho
      refine ⟨[some C, some (.v bv), some (.v mv), some (.v m3), some (.o (.lst (((placesF c pls m).take (i + 1)).map emPlc))), some (.o (.lst (((partsF c pls m).take (i + 1)).map emPart))), some (.v (.int (i : Nat))), some (.v (emG (c.ps.getD i P0))), some (.v (emPlc w.1)), some (.v (.tup (w.2.map emO3))), some (.v (.str o.1)), some (.v (.str o.2.1)), some (.v (.int o.2.2))], by simp [qt, qts, emO3, seqOf, qwipe, E], qb_some ?_, fun _ => qe_tupD (qes_cons (qe_var rfl) (qes_cons (qe_var rfl) qes_nil)) (by simp [LIM])⟩
      refine qe_cmp (x := .str o.1) (y := .str (c.ls.getD i ⟨#[]⟩)) (qe_var rfl) (qe_ix (f5 rfl) (qe_var rfl) (ixT (by rw [List.getElem?_map, el]; rfl))) ?_
      exact eq_str (out_sOk V1 (HF.2.2 o ho)).1 sl
    · rw [decide_eq_false (by omega)] at cond
      refine ⟨E m3, (run1 _).trans ((qx_iff0 cond).trans qx_nil), _, _, _, _, _, _, _, _, fun hlt => absurd hlt (by omega), rfl⟩) ⟨.lst [mv], none, none, none, none, none, none, none, fun _ => ⟨fun x => if x = m then mv else emM x, fun x => by
        dsimp only
        split
        · rename_i hxm; subst hxm; exact hmv
        · rfl, .inr rfl, by simp [itemsQ, seqOf, lstOf, hearM]⟩, rfl⟩
  have hlen : ((c.ps.map emG).zipIdx.map fun p => PV.tup [.int p.2, p.1]).length = c.ps.length := by simp
  rw [hlen, Nat.zero_add] at e
  have t1 : (placesF c pls m).take c.ps.length = placesF c pls m := List.take_of_length_le (by simp [placesF, partsF])
  have t2 : (partsF c pls m).take c.ps.length = partsF c pls m := List.take_of_length_le (by simp [partsF])
  rw [t1, t2] at e
  refine pf_at (d := c_chain_step) (r := .ret (.tup [.tup ((placesF c pls m).map emPlc), .tup ((partsF c pls m).map emPart)])) rfl rfl ?_ rfl
  show qx (pf (k + 3)) (pm (k + 3)) sub0 c_chain_step.body [some C, some (.v bv), some (.v mv), none, none, none, none, none, none, none, none, none, none] = _
  rw [c_chain_step]
  refine (qx_set rfl (v := .lst [mv]) (qe_lstD (qes_cons (qe_var rfl) qes_nil) (by simp [LIM]))).trans ?_
  refine (qx_live rfl (o := .lst []) (by simp [qnew, qes, LIM]) (by simp)).trans ?_
  refine (qx_live rfl (o := .lst []) (by simp [qnew, qes, LIM]) (by simp)).trans ?_
  refine (qx_for (qi_enum (v := .tup (c.ps.map emG)) (f4 rfl) rfl) e).trans ?_
  exact qx_ret (qe_tupD (qes_cons (qe_tupleO rfl) (qes_cons (qe_tupleO rfl) qes_nil)) (by simp [LIM]))
end K06
end
section
namespace K06
open PySem PM
variable {k : Nat}
theorem nm_o3 : ∀ os : List Out3, nmC (os.map emO3) = false
  | [] => rfl
  | o :: os => rfl
theorem law_chain_step {c : CP} (V : VC c) {pls : List Pl} (h : okB c pls) {m : Msg} (hm : m.1 ∈ c.nm) :
    pf (k + 3) F__law_chain_step [emPl c, .tup (pls.map emPlc), emM m] = some (.v (.lst [.tup ((placesF c pls m).map emPlc), .tup ((partsF c pls m).map emPart)])) := by
  have len := V.len
  have hpl := h.len
  let C : QV := .v (emPl c)
  let B : QV := .v (.tup (pls.map emPlc))
  let M : QV := .v (emM m)
  let inner : CSs := (.asg (.tup (.cons (.var 7) (.cons (.var 10) .nil))) (.fz (.call F__law_step (.cons (.ix (.ix (.var 0) (.cst (.int 0))) (.var 6)) (.cons (.var 7) (.cons (.var 9) .nil)))))
    (.asg (.var 8) (.fz (.bop .add (.var 8) (.var 10)))
    .nil))
  let body : CSs := (.asg (.var 7) (.ix (.var 1) (.var 6))
   (.asg (.var 8) (.tup .nil)
   (.for (.var 9) (.seq (.var 3)) inner
   (.ex (.lm .append (.var 4) (.cons (.var 7) .nil))
   (.ex (.lm .append (.var 5) (.cons (.tup (.cons (.ix (.var 7) (.cst (.int 0))) (.cons (.ix (.var 7) (.cst (.int 1))) (.cons (.var 8) .nil)))) .nil))
   (.iff (.cmp .lt (.var 6) (.bi .len (.cons (.ix (.var 0) (.cst (.int 1))) .nil)))
    (.asg (.var 3) (.fz (.comp (.tup (.cons (.ix (.var 11) (.cst (.int 1))) (.cons (.ix (.var 11) (.cst (.int 2))) .nil))) [11] (.var 11) (.seq (.var 8)) (.some (.cmp .eq (.ix (.var 11) (.cst (.int 0))) (.ix (.ix (.var 0) (.cst (.int 1))) (.var 6))))))
    .nil)
    .nil
   .nil))))))
  let I : Nat → QEnv → Prop := fun i ρ => ∃ (m3 : PV) (z6 z7 z8 z9 z10 z11 : Option QV), (i < c.ps.length → m3 = .lst ((hearM c pls m i).map emM)) ∧
    ρ = [some C, some B, some M, some (.v m3), some (.o (.lst (((placesF c pls m).take i).map emPlc))), some (.o (.lst (((partsF c pls m).take i).map emPart))), z6, z7, z8, z9, z10, z11]
  obtain ⟨ρ', e, m3, z6, z7, z8, z9, z10, z11, _, rfl⟩ := qfor_inv (asg := qt (pf (k + 2)) (pm (k + 2)) (.var 6)) (body := qx (pf (k + 2)) (pm (k + 2)) sub0 body) (I := I) (rngL 0 (c.ps.length : Nat)) 0 [some C, some B, some M, some (.v (.lst [emM m])), some (.o (.lst [])), some (.o (.lst [])), none, none, none, none, none, none] (fun i x ρ hx hI => by
    obtain ⟨m3, z6, z7, z8, z9, z10, z11, h3, rfl⟩ := hI
    obtain ⟨hi, rfl⟩ := rng_at hx
    simp only [Nat.zero_add] at h3 ⊢
    have h3 := h3 hi
    subst h3
    obtain ⟨e1, V1⟩ := V.pi hi
    obtain ⟨hn, hlen⟩ := hear_ok V h hm i hi
    have hq := h.pi hi
    have okq := h.ok i _ _ e1 hq
    have p9 := pow3 (i := i) (by omega)
    have HF := hF_ok V h hm hi
    have eF : heardF (c.ps.getD i P0) (pls.getD i (0, [])) (hearM c pls m i) = hF c pls m i := rfl
    have hmn : hearM c pls m (i + 1) = flt (c.ls.getD i ⟨#[]⟩) (hF c pls m i).2 := rfl
    let F := some (QV.o (.lst (((placesF c pls m).take i).map emPlc)))
    let P := some (QV.o (.lst (((partsF c pls m).take i).map emPart)))
    let J : PV := .lst ((hearM c pls m i).map emM)
    have px : ∀ ρ : QEnv, ρ[0]? = some (some C) → ρ[6]? = some (some (QV.v (.int (i : Nat)))) → qe (pf (k + 2)) (pm (k + 2)) (.ix (.ix (.var 0) (.cst (.int 0))) (.var 6)) ρ = some (emP (c.ps.getD i P0)) := fun ρ g0 g6 =>
      qe_ix (x := .lst (c.ps.map emP)) (qe_ix (x := emPl c) (qe_var g0) (qe_cst (v := .int 0) rfl) rfl) (qe_var g6) (ixL (by rw [List.getElem?_map, e1]; rfl))
    have loop : ∀ (ms : List Msg) (q : Pl) (os : List Out3) (z9 z10 : Option QV), okPl (c.ps.getD i P0) q → (∀ x ∈ ms, x.1 ∈ (c.ps.getD i P0).names) → os.length + 3 * ms.length ≤ 4000 →
        ∃ z9' z10', qfor (qt (pf (k + 2)) (pm (k + 2)) (.var 9)) (qx (pf (k + 2)) (pm (k + 2)) sub0 inner) (ms.map emM) [some C, some B, some M, some (.v J), F, P, some (.v (.int (i : Nat))), some (.v (emPlc q)), some (.v (.tup (os.map emO3))), z9, z10, z11] = some (.nx [some C, some B, some M, some (.v J), F, P, some (.v (.int (i : Nat))), some (.v (emPlc (heardF (c.ps.getD i P0) q ms).1)), some (.v (.tup ((os ++ (heardF (c.ps.getD i P0) q ms).2).map emO3))), z9', z10', z11]) := by
      intro ms
      induction ms with
      | nil => intro q os z9 z10 _ _ _; exact ⟨z9, z10, by simp [qfor, heardF]⟩
      | cons x ms ih =>
        intro q os z9 z10 hq hn hl
        have hnx := hn x List.mem_cons_self
        have st := law_step_F (k := k) V1 (m := x) hq hnx
        have q1 := stepF_ok V1 hq hnx
        have q2 := (stepF_out V1 hq hnx).1
        simp only [List.length_cons] at hl
        obtain ⟨z9', z10', g⟩ := ih (stepF (c.ps.getD i P0) q x).1 (os ++ (stepF (c.ps.getD i P0) q x).2) (some (.v (emM x))) (some (.v (.tup ((stepF (c.ps.getD i P0) q x).2.map emO3)))) q1 (fun y hy => hn y (List.mem_cons_of_mem _ hy)) (by rw [List.length_append]; omega)
        refine ⟨z9', z10', ?_⟩
        rw [List.append_assoc] at g
        simp only [List.map_cons, qfor]
        have a1 : qt (pf (k + 2)) (pm (k + 2)) (.var 9) (emM x) [some C, some B, some M, some (.v J), F, P, some (.v (.int (i : Nat))), some (.v (emPlc q)), some (.v (.tup (os.map emO3))), z9, z10, z11] = some [some C, some B, some M, some (.v J), F, P, some (.v (.int (i : Nat))), some (.v (emPlc q)), some (.v (.tup (os.map emO3))), some (.v (emM x)), z10, z11] := by simp [qt]
        have a2 : qx (pf (k + 2)) (pm (k + 2)) sub0 inner [some C, some B, some M, some (.v J), F, P, some (.v (.int (i : Nat))), some (.v (emPlc q)), some (.v (.tup (os.map emO3))), some (.v (emM x)), z10, z11] = some (.nx [some C, some B, some M, some (.v J), F, P, some (.v (.int (i : Nat))), some (.v (emPlc (stepF (c.ps.getD i P0) q x).1)), some (.v (.tup ((os ++ (stepF (c.ps.getD i P0) q x).2).map emO3))), some (.v (emM x)), some (.v (.tup ((stepF (c.ps.getD i P0) q x).2.map emO3))), z11]) := by
          refine (qx_tup rfl (qe_call (qes_cons (px _ rfl rfl) (qes_cons (qe_var rfl) (qes_cons (qe_var rfl) qes_nil))) st) (qt2 rfl)).trans ?_
          refine (qx_set rfl (v := .tup ((os ++ (stepF (c.ps.getD i P0) q x).2).map emO3)) ?_).trans (by rw [qx_nil]; rfl)
          rw [List.map_append]
          refine qe_fzadd (x := .tup (os.map emO3)) (qe_var rfl) (qe_var rfl) (addT (by simp only [List.length_map, LIM]; omega) ?_)
          rw [← List.map_append]; exact nm_o3 _
        simp only [a1, a2, Option.bind_some, QR.seq]
        exact g
    obtain ⟨z9', z10', lp⟩ := loop (hearM c pls m i) (pls.getD i (0, [])) [] z9 z10 okq hn (by simp; omega)
    rw [eF] at lp
    generalize hw : hF c pls m i = w at HF hmn lp
    have tp : (placesF c pls m).take (i + 1) = (placesF c pls m).take i ++ [w.1] := by
      unfold placesF partsF
      rw [List.map_map, take_succ_range hi]
      simp [hw]
    have tq : (partsF c pls m).take (i + 1) = (partsF c pls m).take i ++ [w] := by
      unfold partsF
      rw [take_succ_range hi, hw]
    have ltp : ((placesF c pls m).take i).length ≤ 3 := by rw [List.length_take]; omega
    have ltq : ((partsF c pls m).take i).length ≤ 3 := by rw [List.length_take]; omega
    let E : PV → QEnv := fun m3 => [some C, some B, some M, some (.v m3), some (.o (.lst (((placesF c pls m).take (i + 1)).map emPlc))), some (.o (.lst (((partsF c pls m).take (i + 1)).map emPart))), some (.v (.int (i : Nat))), some (.v (emPlc w.1)), some (.v (.tup (w.2.map emO3))), z9', z10', z11]
    refine ⟨[some C, some B, some M, some (.v J), F, P, some (.v (.int (i : Nat))), z7, z8, z9, z10, z11], by simp [qt, C, B, M, F, P, J], ?_⟩
    have run1 : ∀ rest, qx (pf (k + 2)) (pm (k + 2)) sub0 (.asg (.var 7) (.ix (.var 1) (.var 6)) (.asg (.var 8) (.tup .nil) (.for (.var 9) (.seq (.var 3)) inner (.ex (.lm .append (.var 4) (.cons (.var 7) .nil)) (.ex (.lm .append (.var 5) (.cons (.tup (.cons (.ix (.var 7) (.cst (.int 0))) (.cons (.ix (.var 7) (.cst (.int 1))) (.cons (.var 8) .nil)))) .nil)) rest))))) [some C, some B, some M, some (.v J), F, P, some (.v (.int (i : Nat))), z7, z8, z9, z10, z11] = qx (pf (k + 2)) (pm (k + 2)) sub0 rest (E J) := fun rest => by
      refine (qx_set rfl (v := emPlc (pls.getD i (0, []))) (qe_ix (x := .tup (pls.map emPlc)) (qe_var rfl) (qe_var rfl) (ixT (by rw [List.getElem?_map, hq]; rfl)))).trans ?_
      refine (qx_set rfl (v := .tup []) (qe_tupD qes_nil (by simp [LIM]))).trans ?_
      refine (qx_for (xs := (hearM c pls m i).map emM) (qi_seq (v := J) (qe_var rfl) rfl) lp).trans ?_
      refine (qx_app (v := emPlc w.1) (xs := ((placesF c pls m).take i).map emPlc) (qe_var rfl) rfl (by rw [List.length_map]; simp only [LIM]; omega)).trans ?_
      refine (qx_app (v := emPart w) (xs := ((partsF c pls m).take i).map emPart) (qe_tupD (qes_cons (qe_ix (x := emPlc w.1) (qe_var rfl) (qe_cst (v := .int 0) rfl) rfl) (qes_cons (qe_ix (x := emPlc w.1) (qe_var rfl) (qe_cst (v := .int 1) rfl) rfl) (qes_cons (qe_var rfl) qes_nil))) (by simp [LIM])) rfl (by rw [List.length_map]; simp only [LIM]; omega)).trans ?_
      show qx _ _ sub0 rest [some C, some B, some M, some (.v J), some (.o (.lst (((placesF c pls m).take i).map emPlc ++ [emPlc w.1]))), some (.o (.lst (((partsF c pls m).take i).map emPart ++ [emPart w]))), some (.v (.int (i : Nat))), some (.v (emPlc w.1)), some (.v (.tup (([] ++ w.2).map emO3))), z9', z10', z11] = _
      have a1 : ((placesF c pls m).take i).map emPlc ++ [emPlc w.1] = ((placesF c pls m).take (i + 1)).map emPlc := by rw [tp, List.map_append]; rfl
      have a2 : ((partsF c pls m).take i).map emPart ++ [emPart w] = ((partsF c pls m).take (i + 1)).map emPart := by rw [tq, List.map_append]; rfl
      rw [a1, a2, List.nil_append]
    have cond : qe (pf (k + 2)) (pm (k + 2)) (.cmp .lt (.var 6) (.bi .len (.cons (.ix (.var 0) (.cst (.int 1))) .nil))) (E J) = some (.bl (decide ((i : Int) < (c.ls.length : Nat)))) := by
      refine qe_cmp (x := .int (i : Nat)) (qe_var rfl) (qe_len (n := c.ls.length) (qe_ix (x := emPl c) (qe_var rfl) (qe_cst (v := .int 1) rfl) rfl) (by rw [lenL, List.length_map])) ?_
      rfl
    have ll := V.ll
    by_cases hl : i + 1 < c.ps.length
    · rw [decide_eq_true (by omega)] at cond
      obtain ⟨el, lk⟩ := V.li hl
      have sl := (V1.chOk _ lk).1
      dsimp only at sl
      refine ⟨E (.lst ((hearM c pls m (i + 1)).map emM)), ?_, _, _, _, _, _, _, _, fun _ => rfl, rfl⟩
      refine (run1 _).trans ((qx_iffT (ρ2 := E (.lst ((hearM c pls m (i + 1)).map emM))) cond ?_).trans qx_nil)
      refine (qx_set rfl (v := .lst ((hearM c pls m (i + 1)).map emM)) (qe_comp (xs := w.2.map emO3) (qi_seq (v := .tup (w.2.map emO3)) (qe_var rfl) rfl) (by have := HF.2.1; simp only [List.length_map, LIM]; omega) ?_)).trans (by rw [qx_nil]; rfl)
      rw [hmn]
      unfold flt
      rw [List.map_map]
      refine qcomp_filterM emO3 _ _ ?_
      intro o ho
      refine ⟨_, by rw [qt], qb_some ?_, fun _ => qe_tupD (qes_cons (qe_ix (x := emO3 o) (v := .str o.2.1) (qe_var rfl) (qe_cst (v := .int 1) rfl) rfl) (qes_cons (qe_ix (x := emO3 o) (v := .int o.2.2) (qe_var rfl) (qe_cst (v := .int 2) rfl) rfl) qes_nil)) (by simp [LIM])⟩
      refine qe_cmp (x := .str o.1) (y := .str (c.ls.getD i ⟨#[]⟩)) (qe_ix (x := emO3 o) (qe_var rfl) (qe_cst (v := .int 0) rfl) rfl) (qe_ix (x := .lst (c.ls.map .str)) (qe_ix (x := emPl c) (qe_var rfl) (qe_cst (v := .int 1) rfl) rfl) (qe_var rfl) (ixL (by rw [List.getElem?_map, el]; rfl))) ?_
      exact eq_str (out_sOk V1 (HF.2.2 o ho)).1 sl
    · rw [decide_eq_false (by omega)] at cond
      refine ⟨E J, (run1 _).trans ((qx_iff0 cond).trans qx_nil), _, _, _, _, _, _, _, fun hlt => absurd hlt (by omega), rfl⟩) ⟨.lst [emM m], none, none, none, none, none, none, fun _ => rfl, rfl⟩
  rw [rng_length, Nat.zero_add] at e
  have t1 : (placesF c pls m).take c.ps.length = placesF c pls m := List.take_of_length_le (by simp [placesF, partsF])
  have t2 : (partsF c pls m).take c.ps.length = partsF c pls m := List.take_of_length_le (by simp [partsF])
  rw [t1, t2] at e
  refine pf_at (d := c__law_chain_step) (r := .ret (.lst [.tup ((placesF c pls m).map emPlc), .tup ((partsF c pls m).map emPart)])) rfl rfl ?_ rfl
  show qx (pf (k + 2)) (pm (k + 2)) sub0 c__law_chain_step.body [some C, some B, some M, none, none, none, none, none, none, none, none, none] = _
  rw [c__law_chain_step]
  refine (qx_set rfl (v := .lst [emM m]) (qe_lstD (qes_cons (qe_var rfl) qes_nil) (by simp [LIM]))).trans ?_
  refine (qx_live rfl (o := .lst []) (by simp [qnew, qes, LIM]) (by simp)).trans ?_
  refine (qx_live rfl (o := .lst []) (by simp [qnew, qes, LIM]) (by simp)).trans ?_
  refine (qx_for (qi_rng1 (n := (c.ps.length : Nat)) (qe_len (x := .lst (c.ps.map emP)) (qe_ix (x := emPl c) (qe_var rfl) (qe_cst (v := .int 0) rfl) rfl) (by rw [lenL, List.length_map])) (okRn (by omega))) e).trans ?_
  exact qx_ret (qe_lstD (qes_cons (qe_tupleO rfl) (qes_cons (qe_tupleO rfl) qes_nil)) (by simp [LIM]))
end K06
end
section
namespace K06
open PySem PM
variable {k : Nat}
abbrev Part := List (Pl × List Out3)
def deedF (c : CP) : List Pl → List Msg → List Part × List Pl
  | pls, [] => ([], pls)
  | pls, m :: ms => (partsF c pls m :: (deedF c (placesF c pls m) ms).1, (deedF c (placesF c pls m) ms).2)
def emParts (ps : Part) : PV := .tup (ps.map emPart)
def emDeed (d : List Part) : PV := .lst (d.map emParts)
theorem deedF_len (c : CP) : ∀ (ms : List Msg) (pls : List Pl), (deedF c pls ms).1.length = ms.length
  | [], _ => rfl
  | m :: ms, pls => by simp [deedF, deedF_len c ms]
theorem deedF_end {c : CP} (V : VC c) : ∀ {ms : List Msg} {pls : List Pl}, okB c pls → (∀ m ∈ ms, m.1 ∈ c.nm) → okB c (deedF c pls ms).2
  | [], _, h, _ => h
  | m :: ms, pls, h, hm => deedF_end V (ms := ms) (places_ok V h (hm m List.mem_cons_self)) fun x hx => hm x (List.mem_cons_of_mem _ hx)
structure dOk (c : CP) (ps : Part) : Prop where
  len : ps.length = c.ps.length
  pl : okB c (ps.map (·.1))
  out : ∀ (i : Nat) (x : Pl × List Out3), ps[i]? = some x → x.2.length ≤ 27 ∧ ∀ o ∈ x.2, outOk (c.ps.getD i P0) o
theorem partsF_ok {c : CP} (V : VC c) {pls : List Pl} (h : okB c pls) {m : Msg} (hm : m.1 ∈ c.nm) : dOk c (partsF c pls m) where
  len := by simp [partsF]
  pl := places_ok V h hm
  out := fun i x hx => by
    unfold partsF at hx
    rw [List.getElem?_map] at hx
    have hi : i < c.ps.length := by
      cases hr : (List.range c.ps.length)[i]? with
      | none => rw [hr] at hx; cases hx
      | some j => simpa using (List.getElem?_eq_some_iff.mp hr).1
    rw [List.getElem?_range hi] at hx
    cases hx
    have HF := hF_ok V h hm hi
    have := V.len.2
    have p9 := pow3 (i := i) (by omega)
    exact ⟨by have := HF.2.1; omega, HF.2.2⟩
theorem deedF_ok {c : CP} (V : VC c) : ∀ {ms : List Msg} {pls : List Pl}, okB c pls → (∀ m ∈ ms, m.1 ∈ c.nm) → ∀ ps ∈ (deedF c pls ms).1, dOk c ps
  | [], _, _, _, ps, hp => by cases hp
  | m :: ms, pls, h, hm, ps, hp => by
    have h1 := hm m List.mem_cons_self
    rcases List.mem_cons.mp hp with rfl | hp
    · exact partsF_ok V h h1
    · exact deedF_ok V (places_ok V h h1) (fun x hx => hm x (List.mem_cons_of_mem _ hx)) ps hp
theorem deedF_last (c : CP) : ∀ (ms : List Msg) (pls : List Pl), 0 < ms.length → ∃ ps, (deedF c pls ms).1[(deedF c pls ms).1.length - 1]? = some ps ∧ (deedF c pls ms).2 = ps.map (·.1)
  | [], _, h => absurd h (by simp)
  | [m], pls, _ => ⟨partsF c pls m, rfl, rfl⟩
  | m :: m2 :: ms, pls, _ => by
    obtain ⟨ps, h1, h2⟩ := deedF_last c (m2 :: ms) (placesF c pls m) (by simp)
    refine ⟨ps, ?_, h2⟩
    have hl := deedF_len c (m2 :: ms) (placesF c pls m)
    show (partsF c pls m :: (deedF c (placesF c pls m) (m2 :: ms)).1)[((deedF c (placesF c pls m) (m2 :: ms)).1.length + 1) - 1]? = some ps
    rw [hl] at h1 ⊢
    exact h1
structure msV (mv : PV) (ms : List Msg) : Prop where
  inm : inM mv ms
  it : ∃ f : Msg → PV, (∀ m : Msg, seqOf [] (f m) = some [.str m.1, .int m.2]) ∧ itemsQ mv = some (ms.map f)
def emML (m : Msg) : PV := .lst [.str m.1, .int m.2]
theorem dep_M (m : Msg) : dep (emM m) ≤ 1 := by simp [emM, dep, deps]
theorem wid_M (m : Msg) : wid (emM m) = true := by simp [emM, wid, wids, LIM]
theorem msV_lst {ms : List Msg} (h : ms.length ≤ 1000) : msV (.lst (ms.map emM)) ms where
  inm := ⟨by simp only [fzn]; rw [fznsM fun b _ => by simp [emM, fzn, fzns]], by have := depsM (f := emM) (d := 1) (l := ms) fun b _ => dep_M b; simp only [dep]; omega, by
    simp only [wid, Bool.and_eq_true, decide_eq_true_eq, List.length_map]
    exact ⟨by simp only [LIM]; omega, widsM fun b _ => wid_M b⟩⟩
  it := ⟨emM, fun _ => rfl, rfl⟩
theorem msV_tup {ms : List Msg} (h : ms.length ≤ 1000) : msV (.tup (ms.map emM)) ms where
  inm := ⟨by simp only [fzn]; rw [fznsM fun b _ => by simp [emM, fzn, fzns]], by have := depsM (f := emM) (d := 1) (l := ms) fun b _ => dep_M b; simp only [dep]; omega, by
    simp only [wid, Bool.and_eq_true, decide_eq_true_eq, List.length_map]
    exact ⟨by simp only [LIM]; omega, widsM fun b _ => wid_M b⟩⟩
  it := ⟨emM, fun _ => rfl, rfl⟩
theorem msV_ll {ms : List Msg} (h : ms.length ≤ 1000) : msV (.lst (ms.map emML)) ms where
  inm := ⟨by
      simp only [fzn]
      rw [fzns_map, List.map_map]
      congr 1
      , by have := depsM (f := emML) (d := 1) (l := ms) fun b _ => by simp [emML, dep, deps]
           simp only [dep]; omega, by
    simp only [wid, Bool.and_eq_true, decide_eq_true_eq, List.length_map]
    exact ⟨by simp only [LIM]; omega, widsM fun b _ => by simp [emML, wid, wids, LIM]⟩⟩
  it := ⟨emML, fun _ => rfl, rfl⟩
structure bgF (bv : PV) (pls : List Pl) : Prop where
  fz : fzn bv = .tup (pls.map emPlc)
  dp : dep bv ≤ 3
  wd : wid bv = true
theorem fzn_Plc (q : Pl) : fzn (emPlc q) = emPlc q := by simp [emPlc, fzn, fzns, emN]; rw [fznsM fun b _ => rfl]
theorem dep_ints' (l : List Int) : deps (l.map PV.int) ≤ 0 := depsM fun b _ => Nat.le_refl _
theorem bgF_tup {pls : List Pl} (h : pls.length ≤ 1000) (hk : ∀ q ∈ pls, q.2.length ≤ 1000) : bgF (.tup (pls.map emPlc)) pls where
  fz := by simp only [fzn]; rw [fznsM fun b _ => fzn_Plc b]
  dp := by
    have := depsM (f := emPlc) (d := 2) (l := pls) fun b _ => by
      have := dep_ints' b.2
      simp only [emPlc, dep, deps, emN]; omega
    simp only [dep]; omega
  wd := by
    simp only [wid, Bool.and_eq_true, decide_eq_true_eq, List.length_map]
    refine ⟨by simp only [LIM]; omega, widsM fun b hb => ?_⟩
    have := hk b hb
    have h1 : wids (b.2.map PV.int) = true := widsM fun _ _ => rfl
    have h2 : b.2.length ≤ LIM := by simp only [LIM]; omega
    simp [emPlc, wid, wids, emN, h1, h2]
    simp [LIM]
def emPlcL (q : Pl) : PV := .lst [emN q.1, .lst (q.2.map .int)]
theorem bgF_ll {pls : List Pl} (h : pls.length ≤ 1000) (hk : ∀ q ∈ pls, q.2.length ≤ 1000) : bgF (.lst (pls.map emPlcL)) pls where
  fz := by
    simp only [fzn]
    rw [fzns_map, List.map_map]
    congr 1
    refine List.map_congr_left fun q _ => ?_
    simp only [Function.comp, emPlcL, emPlc, fzn, fzns, emN]
    rw [fznsM fun b _ => rfl]
  dp := by
    have := depsM (f := emPlcL) (d := 2) (l := pls) fun b _ => by
      have := dep_ints' b.2
      simp only [emPlcL, dep, deps, emN]; omega
    simp only [dep]; omega
  wd := by
    simp only [wid, Bool.and_eq_true, decide_eq_true_eq, List.length_map]
    refine ⟨by simp only [LIM]; omega, widsM fun b hb => ?_⟩
    have := hk b hb
    have h1 : wids (b.2.map PV.int) = true := widsM fun _ _ => rfl
    have h2 : b.2.length ≤ LIM := by simp only [LIM]; omega
    simp [emPlcL, wid, wids, emN, h1, h2]
    simp [LIM]
theorem deed_from {c : CP} (V : VC c) {pls : List Pl} (h : okB c pls) {ms : List Msg} (hm : ∀ m ∈ ms, m.1 ∈ c.nm) (hl : ms.length ≤ 1000) {bv mv : PV} (hb : bgF bv pls) (hmv : msV mv ms) :
    pf (k + 5) F_deed_from [emCh c, bv, mv] = some (.v (emDeed (deedF c pls ms).1)) := by
  obtain ⟨inm, f, hf, hit⟩ := hmv
  let C : QV := .v (emCh c)
  let body : CSs := (.asg (.tup (.cons (.var 3) (.cons (.var 6) .nil))) (.fz (.call F_chain_step (.cons (.var 0) (.cons (.var 3) (.cons (.var 5) .nil)))))
   (.ex (.lm .append (.var 4) (.cons (.var 6) .nil))
   .nil))
  have loop : ∀ (ms : List Msg) (pls : List Pl) (d : List Part) (z5 z6 : Option QV), okB c pls → (∀ m ∈ ms, m.1 ∈ c.nm) → d.length + ms.length ≤ 1000 →
      ∃ z3 z5' z6', qfor (qt (pf (k + 4)) (pm (k + 4)) (.var 5)) (qx (pf (k + 4)) (pm (k + 4)) sub0 body) (ms.map f) [some C, some (.v bv), some (.v mv), some (.v (.tup (pls.map emPlc))), some (.o (.lst (d.map emParts))), z5, z6] = some (.nx [some C, some (.v bv), some (.v mv), z3, some (.o (.lst ((d ++ (deedF c pls ms).1).map emParts))), z5', z6']) := by
    intro ms
    induction ms with
    | nil => intro pls d z5 z6 _ _ _; exact ⟨some (.v (.tup (pls.map emPlc))), z5, z6, by simp only [List.map_nil, qfor, deedF, List.append_nil]⟩
    | cons m ms ih =>
      intro pls d z5 z6 h hm hl
      have h1 := hm m List.mem_cons_self
      have st := chain_step (k := k) V h h1 (bgV_emPlc pls) (hf m)
      simp only [List.length_cons] at hl
      obtain ⟨z3, z5', z6', g⟩ := ih (placesF c pls m) (d ++ [partsF c pls m]) (some (.v (f m))) (some (.v (emParts (partsF c pls m)))) (places_ok V h h1) (fun x hx => hm x (List.mem_cons_of_mem _ hx)) (by rw [List.length_append]; simp only [List.length_cons, List.length_nil]; omega)
      refine ⟨z3, z5', z6', ?_⟩
      rw [List.append_assoc] at g
      simp only [List.map_cons, qfor]
      have a1 : qt (pf (k + 4)) (pm (k + 4)) (.var 5) (f m) [some C, some (.v bv), some (.v mv), some (.v (.tup (pls.map emPlc))), some (.o (.lst (d.map emParts))), z5, z6] = some [some C, some (.v bv), some (.v mv), some (.v (.tup (pls.map emPlc))), some (.o (.lst (d.map emParts))), some (.v (f m)), z6] := by simp [qt]
      have a2 : qx (pf (k + 4)) (pm (k + 4)) sub0 body [some C, some (.v bv), some (.v mv), some (.v (.tup (pls.map emPlc))), some (.o (.lst (d.map emParts))), some (.v (f m)), z6] = some (.nx [some C, some (.v bv), some (.v mv), some (.v (.tup ((placesF c pls m).map emPlc))), some (.o (.lst ((d ++ [partsF c pls m]).map emParts))), some (.v (f m)), some (.v (emParts (partsF c pls m)))]) := by
        refine (qx_tup rfl (qe_call (qes_cons (qe_var rfl) (qes_cons (qe_var rfl) (qes_cons (qe_var rfl) qes_nil))) st) qt_pair).trans ?_
        refine (qx_app (v := emParts (partsF c pls m)) (xs := d.map emParts) (qe_var rfl) rfl (by rw [List.length_map]; simp only [LIM]; omega)).trans ?_
        rw [qx_nil, List.map_append]; rfl
      simp only [a1, a2, Option.bind_some, QR.seq]
      exact g
  obtain ⟨z3, z5', z6', e⟩ := loop ms pls [] none none h hm (by simpa using hl)
  rw [List.nil_append] at e
  refine pf_at (d := c_deed_from) (r := .ret (emDeed (deedF c pls ms).1)) rfl rfl ?_ rfl
  show qx (pf (k + 4)) (pm (k + 4)) sub0 c_deed_from.body [some C, some (.v bv), some (.v mv), none, none, none, none] = _
  rw [c_deed_from]
  have fr := frozen_ok (k + 3) bv (by have := hb.dp; omega) hb.wd
  rw [hb.fz] at fr
  refine (qx_set rfl (qe_call (qes_cons (qe_var rfl) qes_nil) fr)).trans ?_
  refine (qx_iff0 (qe_not (i := true) (qe_call (qes_cons (qe_var rfl) (qes_cons (qe_var rfl) qes_nil)) (is_beginning (k := k + 1) V h)))).trans ?_
  refine (qx_ex (qe_call (qes_cons (qe_var rfl) (qes_cons (qe_var rfl) qes_nil)) (check_input (k := k) V inm hm))).trans ?_
  refine (qx_live rfl (o := .lst []) (by simp [qnew, qes, LIM]) (by simp)).trans ?_
  refine (qx_for (qi_seq (qe_var rfl) hit) e).trans ?_
  exact qx_retO rfl
theorem law_deed {c : CP} (V : VC c) {pls : List Pl} (h : okB c pls) {ms : List Msg} (hm : ∀ m ∈ ms, m.1 ∈ c.nm) (hl : ms.length ≤ 1000) :
    pf (k + 4) F__law_deed [emPl c, .tup (pls.map emPlc), .lst (ms.map emM)] = some (.v (.lst [emDeed (deedF c pls ms).1, .tup ((deedF c pls ms).2.map emPlc)])) := by
  let C : QV := .v (emPl c)
  let M : QV := .v (.lst (ms.map emM))
  let body : CSs := (.asg (.tup (.cons (.var 1) (.cons (.var 5) .nil))) (.fz (.call F__law_chain_step (.cons (.var 0) (.cons (.var 1) (.cons (.var 4) .nil)))))
   (.ex (.lm .append (.var 3) (.cons (.var 5) .nil))
   .nil))
  have loop : ∀ (ms : List Msg) (pls : List Pl) (d : List Part) (z4 z5 : Option QV), okB c pls → (∀ m ∈ ms, m.1 ∈ c.nm) → d.length + ms.length ≤ 1000 →
      ∃ z4' z5', qfor (qt (pf (k + 3)) (pm (k + 3)) (.var 4)) (qx (pf (k + 3)) (pm (k + 3)) sub0 body) (ms.map emM) [some C, some (.v (.tup (pls.map emPlc))), some M, some (.o (.lst (d.map emParts))), z4, z5] = some (.nx [some C, some (.v (.tup ((deedF c pls ms).2.map emPlc))), some M, some (.o (.lst ((d ++ (deedF c pls ms).1).map emParts))), z4', z5']) := by
    intro ms
    induction ms with
    | nil => intro pls d z5 z6 _ _ _; exact ⟨z5, z6, by simp only [List.map_nil, qfor, deedF, List.append_nil]⟩
    | cons m ms ih =>
      intro pls d z5 z6 h hm hl
      have h1 := hm m List.mem_cons_self
      have st := law_chain_step (k := k) V h h1
      simp only [List.length_cons] at hl
      obtain ⟨z5', z6', g⟩ := ih (placesF c pls m) (d ++ [partsF c pls m]) (some (.v (emM m))) (some (.v (emParts (partsF c pls m)))) (places_ok V h h1) (fun x hx => hm x (List.mem_cons_of_mem _ hx)) (by rw [List.length_append]; simp only [List.length_cons, List.length_nil]; omega)
      refine ⟨z5', z6', ?_⟩
      rw [List.append_assoc] at g
      simp only [List.map_cons, qfor]
      have a1 : qt (pf (k + 3)) (pm (k + 3)) (.var 4) (emM m) [some C, some (.v (.tup (pls.map emPlc))), some M, some (.o (.lst (d.map emParts))), z5, z6] = some [some C, some (.v (.tup (pls.map emPlc))), some M, some (.o (.lst (d.map emParts))), some (.v (emM m)), z6] := by simp [qt]
      have a2 : qx (pf (k + 3)) (pm (k + 3)) sub0 body [some C, some (.v (.tup (pls.map emPlc))), some M, some (.o (.lst (d.map emParts))), some (.v (emM m)), z6] = some (.nx [some C, some (.v (.tup ((placesF c pls m).map emPlc))), some M, some (.o (.lst ((d ++ [partsF c pls m]).map emParts))), some (.v (emM m)), some (.v (emParts (partsF c pls m)))]) := by
        refine (qx_tup rfl (qe_call (qes_cons (qe_var rfl) (qes_cons (qe_var rfl) (qes_cons (qe_var rfl) qes_nil))) st) (qt2 rfl)).trans ?_
        refine (qx_app (v := emParts (partsF c pls m)) (xs := d.map emParts) (qe_var rfl) rfl (by rw [List.length_map]; simp only [LIM]; omega)).trans ?_
        rw [qx_nil, List.map_append]; rfl
      simp only [a1, a2, Option.bind_some, QR.seq]
      exact g
  obtain ⟨z5', z6', e⟩ := loop ms pls [] none none h hm (by simpa using hl)
  rw [List.nil_append] at e
  refine pf_at (d := c__law_deed) (r := .ret (.lst [emDeed (deedF c pls ms).1, .tup ((deedF c pls ms).2.map emPlc)])) rfl rfl ?_ rfl
  show qx (pf (k + 3)) (pm (k + 3)) sub0 c__law_deed.body [some C, some (.v (.tup (pls.map emPlc))), some M, none, none, none] = _
  rw [c__law_deed]
  refine (qx_live rfl (o := .lst []) (by simp [qnew, qes, LIM]) (by simp)).trans ?_
  refine (qx_for (qi_seq (v := .lst (ms.map emM)) (qe_var rfl) rfl) e).trans ?_
  exact qx_retL (qrs_consO rfl (qrs_cons (qe_var rfl) qrs_nil)) (by simp [LIM])
end K06
end
section
namespace K06
open PySem PM
variable {k : Nat}
theorem qt3 {a b d : Nat} {ρ : QEnv} {v x y z : PV} (h : seqOf [] v = some [x, y, z]) : qt (pf k) (pm k) (.tup (.cons (.var a) (.cons (.var b) (.cons (.var d) .nil)))) v ρ = some (((ρ.set a (some (.v x))).set b (some (.v y))).set d (some (.v z))) := by simp [qt, qts, h]
structure dvV (dv : PV) (d : List Part) : Prop where
  it : ∃ g : Part → PV, itemsQ dv = some (d.map g) ∧ (∀ ps, d[d.length - 1]? = some ps → ixV [] dv (.int (-1)) = some (g ps)) ∧ (∀ ps ∈ d, ∃ e : Pl × List Out3 → PV, seqOf [] (g ps) = some (ps.map e) ∧ itemsQ (g ps) = some (ps.map e) ∧ ∀ x ∈ ps, ∃ (kv ov : PV) (eo : Out3 → PV), seqOf [] (e x) = some [emN x.1.1, kv, ov] ∧ kvOk kv x.1.2 ∧ itemsQ ov = some (x.2.map eo) ∧ ∀ o, seqOf [] (eo o) = some [.str o.1, .str o.2.1, .int o.2.2])
def emOL (o : Out3) : PV := .lst [.str o.1, .str o.2.1, .int o.2.2]
def emPartN (x : Pl × List Out3) : PV := .lst [emN x.1.1, .lst (x.1.2.map .int), .lst (x.2.map emOL)]
def emPartsN (ps : Part) : PV := .lst (ps.map emPartN)
def emDeedN (d : List Part) : PV := .lst (d.map emPartsN)
theorem dvV_deed (d : List Part) : dvV (emDeed d) d where
  it := ⟨emParts, rfl, fun ps h => ix_last (by rw [List.length_map, List.getElem?_map, h]; rfl), fun ps _ => ⟨emPart, rfl, rfl, fun x _ => ⟨_, _, emO3, rfl, .inl rfl, rfl, fun _ => rfl⟩⟩⟩
theorem dvV_nest (d : List Part) : dvV (emDeedN d) d where
  it := ⟨emPartsN, rfl, fun ps h => ix_last (by rw [List.length_map, List.getElem?_map, h]; rfl), fun ps _ => ⟨emPartN, rfl, rfl, fun x _ => ⟨_, _, emOL, rfl, .inr rfl, rfl, fun _ => rfl⟩⟩⟩
theorem after_deed {dv : PV} {d : List Part} (h : dvV dv d) {ps : Part} (hl : d[d.length - 1]? = some ps) (hp : ps.length ≤ 1000) : pf (k + 1) F_after_deed [dv] = some (.v (.tup ((ps.map (·.1)).map emPlc))) := by
  obtain ⟨g, h1, h2, h3⟩ := h.it
  obtain ⟨e, g1, g2, g3⟩ := h3 ps (List.mem_of_getElem? hl)
  refine pf_at (d := c_after_deed) (r := .ret (.tup ((ps.map (·.1)).map emPlc))) rfl rfl ?_ rfl
  show qx (pf k) (pm k) sub0 c_after_deed.body [some (.v dv), none, none, none] = _
  rw [c_after_deed]
  refine qx_ret (qe_tupB (x := .lst ((ps.map (·.1)).map emPlc)) (qe_comp (xs := ps.map e) (qi_seq (qe_ix (x := dv) (qe_var rfl) (qe_neg (i := 1) (qe_cst rfl)) (h2 ps hl)) g2) (by simp only [List.length_map, LIM]; omega) ?_) rfl)
  rw [List.map_map]
  refine qcomp_mapM e _ ?_
  intro x hx
  obtain ⟨kv, ov, eo, q1, q2, _⟩ := g3 x hx
  refine ⟨_, qt3 q1, by rw [qb], ?_⟩
  exact qe_tupD (qes_cons (qe_var rfl) (qes_cons (q2.tupd (qe_var rfl)) qes_nil)) (by simp [LIM])
def toldF (d : List Part) (i : Nat) (ch : Str) : List Msg := d.flatMap fun ps => flt ch (ps.getD i ((0, []), [])).2
theorem flt_cons (ch : Str) (o : Out3) (os : List Out3) : flt ch (o :: os) = (if o.1 = ch then [o.2] else []) ++ flt ch os := by
  unfold flt
  rw [List.filter_cons]
  by_cases h : o.1 = ch
  · rw [decide_eq_true h, if_pos h]; rfl
  · rw [decide_eq_false h, if_neg h]; rfl
theorem flt_len (ch : Str) (os : List Out3) : (flt ch os).length ≤ os.length := by
  unfold flt
  rw [List.length_map]
  exact List.length_filter_le _ _
theorem written {c : CP} (V : VC c) {dv : PV} {d : List Part} (h : dvV dv d) (hd : ∀ ps ∈ d, dOk c ps) (hdl : d.length ≤ 1000) {i : Nat} (hi : i < c.ps.length) {ch : Str} (hch : sOk ch) :
    pf (k + 1) F_written [dv, .int (i : Nat), .str ch] = some (.v (.lst ((toldF d i ch).map emM))) := by
  obtain ⟨g, h1, h2, h3⟩ := h.it
  let body2 : CSs := (.iff (.cmp .eq (.var 5) (.var 2))
     (.ex (.lm .append (.var 3) (.cons (.tup (.cons (.var 6) (.cons (.var 7) .nil))) .nil))
     .nil)
     .nil
    .nil)
  let body : CSs := (.for (.tup (.cons (.var 5) (.cons (.var 6) (.cons (.var 7) .nil)))) (.seq (.ix (.ix (.var 4) (.var 1)) (.cst (.int 2)))) body2 .nil)
  let E : List Msg → List (Option QV) → QEnv := fun c z => [some (.v dv), some (.v (.int (i : Nat))), some (.v (.str ch)), some (.o (.lst (c.map emM))), z.getD 0 none, z.getD 1 none, z.getD 2 none, z.getD 3 none]
  obtain ⟨e1, V1⟩ := V.pi hi
  obtain ⟨z', e⟩ := qfor_fold (em := g) (env := E) (step := fun c ps => c ++ flt ch (ps.getD i ((0, []), [])).2) (P := fun c bs => c.length + 27 * bs.length ≤ 28000 ∧ ∀ ps ∈ bs, ps ∈ d)
    (asg := qt (pf k) (pm k) (.var 4)) (body := qx (pf k) (pm k) sub0 body) (fun cc ps bs z hp => by
      obtain ⟨hp1, hp2⟩ := hp
      simp only [List.length_cons] at hp1
      have hpd := hp2 ps List.mem_cons_self
      have ok := hd ps hpd
      have hx : ps[i]? = some (ps.getD i ((0, []), [])) := by
        have := ok.len
        rw [List.getD_eq_getElem?_getD, List.getElem?_eq_getElem (by omega)]; rfl
      generalize ps.getD i ((0, []), []) = x at hx
      obtain ⟨x27, xo⟩ := ok.out i x hx
      obtain ⟨e, g1, g2, g3⟩ := h3 ps hpd
      obtain ⟨kv, ov, eo, q1, q2, q3, q4⟩ := g3 x (List.mem_of_getElem? hx)
      have fl := flt_len ch x.2
      refine ⟨⟨by rw [List.length_append]; omega, fun y hy => hp2 y (List.mem_cons_of_mem _ hy)⟩, E cc [some (.v (g ps)), z.getD 1 none, z.getD 2 none, z.getD 3 none], by simp [qt, E], ?_⟩
      let E2 : List Msg → List (Option QV) → QEnv := fun c z => [some (.v dv), some (.v (.int (i : Nat))), some (.v (.str ch)), some (.o (.lst (c.map emM))), some (.v (g ps)), z.getD 0 none, z.getD 1 none, z.getD 2 none]
      obtain ⟨z2, e2⟩ := qfor_fold (em := eo) (env := E2) (step := fun c (o : Out3) => c ++ (if o.1 = ch then [o.2] else [])) (P := fun c bs => c.length + bs.length ≤ 29000 ∧ ∀ o ∈ bs, o ∈ x.2)
        (asg := qt (pf k) (pm k) (.tup (.cons (.var 5) (.cons (.var 6) (.cons (.var 7) .nil))))) (body := qx (pf k) (pm k) sub0 body2) (fun cc o bs z hp => by
          obtain ⟨hp1, hp2⟩ := hp
          simp only [List.length_cons] at hp1
          have so := (out_sOk V1 (xo o (hp2 o List.mem_cons_self))).1
          have cond : qe (pf k) (pm k) (.cmp .eq (.var 5) (.var 2)) (E2 cc [some (.v (.str o.1)), some (.v (.str o.2.1)), some (.v (.int o.2.2))]) = some (.bl (decide (o.1 = ch))) := qe_cmp (x := .str o.1) (y := .str ch) (qe_var rfl) (qe_var rfl) (eq_str so hch)
          refine ⟨⟨?_, fun y hy => hp2 y (List.mem_cons_of_mem _ hy)⟩, E2 cc [some (.v (.str o.1)), some (.v (.str o.2.1)), some (.v (.int o.2.2))], qt3 (q4 o), [some (.v (.str o.1)), some (.v (.str o.2.1)), some (.v (.int o.2.2))], ?_⟩
          · split <;> simp <;> omega
          · by_cases hc : o.1 = ch
            · rw [decide_eq_true hc] at cond
              rw [if_pos hc]
              refine (qx_iffT (ρ2 := E2 (cc ++ [o.2]) [some (.v (.str o.1)), some (.v (.str o.2.1)), some (.v (.int o.2.2))]) cond ?_).trans qx_nil
              refine (qx_app (v := emM o.2) (xs := cc.map emM) (qe_tupD (qes_cons (qe_var rfl) (qes_cons (qe_var rfl) qes_nil)) (by simp [LIM])) rfl (by simp only [List.length_map, LIM]; omega)).trans ?_
              rw [qx_nil]
              simp [E2]
            · rw [decide_eq_false hc] at cond
              rw [if_neg hc, List.append_nil]
              exact (qx_iff0 cond).trans qx_nil) x.2 cc [z.getD 1 none, z.getD 2 none, z.getD 3 none] ⟨by omega, fun o ho => ho⟩
      rw [foldl_flat] at e2
      have ef : (x.2.flatMap fun o : Out3 => if o.1 = ch then [o.2] else []) = flt ch x.2 := by
        generalize x.2 = os
        induction os with
        | nil => rfl
        | cons o os ih => rw [List.flatMap_cons, flt_cons, ih]
      rw [ef] at e2
      refine ⟨[some (.v (g ps)), z2.getD 0 none, z2.getD 1 none, z2.getD 2 none], ?_⟩
      refine (qx_for (xs := x.2.map eo) (qi_seq (v := ov) (qe_ix (x := e x) (qe_ix (x := g ps) (qe_var rfl) (qe_var rfl) (seq_ix g1 (by rw [List.getElem?_map, hx]; rfl))) (qe_cst (v := .int 2) rfl) (seq_ix (i := 2) q1 rfl)) q3) e2).trans ?_
      rw [qx_nil]
      simp [E, E2]) d [] [] ⟨by simp; omega, fun _ h => h⟩
  rw [foldl_flat, List.nil_append] at e
  refine pf_at (d := c_written) (r := .ret (.lst ((toldF d i ch).map emM))) rfl rfl ?_ rfl
  show qx (pf k) (pm k) sub0 c_written.body [some (.v dv), some (.v (.int (i : Nat))), some (.v (.str ch)), none, none, none, none, none] = _
  rw [c_written]
  refine (qx_live rfl (o := .lst []) (by simp [qnew, qes, LIM]) (by simp)).trans ?_
  refine (qx_for (qi_seq (qe_var rfl) h1) e).trans ?_
  exact qx_retO rfl
end K06
end
section
namespace K06
open PySem PM
variable {k : Nat}
theorem getD_at {β : Type} {l : List β} {d : β} {i : Nat} (h : i < l.length) : l[i]? = some (l.getD i d) := by rw [List.getD_eq_getElem?_getD, List.getElem?_eq_getElem h]; rfl
def startF (c : CP) : List Pl := c.ps.map fun _ => (0, [])
theorem start_okB {c : CP} (V : VC c) : okB c (startF c) where
  len := by simp [startF]
  ok := fun i p q hp hq => by
    unfold startF at hq
    rw [List.getElem?_map, hp] at hq
    cases hq
    exact ⟨(V.val p (List.mem_of_getElem? hp)).st0, List.Pairwise.nil⟩
theorem plan0 {c : CP} {ρ : QEnv} (h : ρ[0]? = some (some (QV.v (emPl c)))) : qe (pf k) (pm k) (.ix (.var 0) (.cst (.int 0))) ρ = some (.lst (c.ps.map emP)) := qe_ix (x := emPl c) (qe_var h) (qe_cst (v := .int 0) rfl) rfl
theorem law_start {c : CP} (V : VC c) : pf (k + 1) F__law_start [emPl c] = some (.v (.tup ((startF c).map emPlc))) := by
  refine pf_at (d := c__law_start) (r := .ret (.tup ((startF c).map emPlc))) rfl rfl ?_ rfl
  show qx (pf k) (pm k) sub0 c__law_start.body [some (.v (emPl c)), none] = _
  rw [c__law_start]
  have := V.len
  refine qx_ret (qe_tupB (x := .lst ((startF c).map emPlc)) (qe_comp (xs := c.ps.map emP) (qi_seq (plan0 rfl) rfl) (by simp only [List.length_map, LIM]; omega) ?_) rfl)
  unfold startF
  rw [List.map_map]
  refine qcomp_mapM emP _ ?_
  intro p hp
  exact ⟨_, by rw [qt], by rw [qb], qe_tupD (qes_cons (qe_cst rfl) (qes_cons (qe_tupD qes_nil (by simp [LIM])) qes_nil)) (by simp [LIM])⟩
def keptF (row : List Nat) (i n : Nat) : List Int := (List.range n).map fun a => ((row.getD (8 * i + 1 + a) 0 % 5 : Nat) : Int) - 2 + 7 * (a : Nat)
theorem keptF_asc (row : List Nat) (i n : Nat) : asc (keptF row i n) := by
  unfold keptF asc
  rw [List.pairwise_map]
  refine List.pairwise_lt_range.imp fun {a b} hab => ?_
  have h1 : row.getD (8 * i + 1 + a) 0 % 5 < 5 := Nat.mod_lt _ (by decide)
  omega
theorem law_beginning {c : CP} (V : VC c) (cell : Int) : ∃ pls, okB c pls ∧ pf (k + 2) F__law_beginning [emPl c, .int cell] = some (.v (.tup (pls.map emPlc))) := by
  obtain ⟨row, rl, _, er⟩ := row_ex (k := k) cell (n := 24) (by decide)
  have len := V.len
  let C : QV := .v (emPl c)
  let N : QV := .v (.int cell)
  let R : QV := .v (.lst (row.map emN))
  have rowE : ∀ {j : Nat}, j < 24 → ixV [] (.lst (row.map emN)) (.int (j : Nat)) = some (.int (row.getD j 0 : Nat)) := fun {j} hj => by
    rw [ixR (by omega), List.getD_eq_getElem?_getD, List.getElem?_eq_getElem (by omega)]; rfl
  let body2 : CSs := (.ex (.lm .append (.var 7) (.cons (.bop .add (.bop .sub (.bop .mod (.ix (.var 2) (.bop .add (.bop .add (.bop .mul (.cst (.int 8)) (.var 4)) (.cst (.int 1))) (.var 8))) (.cst (.int 5))) (.cst (.int 2))) (.bop .mul (.cst (.int 7)) (.var 8))) .nil))
    .nil)
  let body : CSs := (.asg (.var 5) (.ix (.ix (.ix (.var 0) (.cst (.int 0))) (.var 4)) (.cst (.int 2)))
   (.asg (.var 6) (.bop .mod (.ix (.var 2) (.bop .mul (.cst (.int 8)) (.var 4))) (.bi .len (.cons (.var 5) .nil)))
   (.asg (.var 7) (.lst .nil)
   (.for (.var 8) (.rng1 (.ix (.var 5) (.var 6))) body2
   (.ex (.lm .append (.var 3) (.cons (.tup (.cons (.var 6) (.cons (.bi .tuple (.cons (.var 7) .nil)) .nil))) .nil))
   .nil)))))
  let I : Nat → QEnv → Prop := fun i ρ => ∃ (pls : List Pl) (z4 z5 z6 z7 z8 : Option QV), pls.length = i ∧ (∀ (j : Nat) (p : Plan) (q : Pl), c.ps[j]? = some p → pls[j]? = some q → okPl p q) ∧ ρ = [some C, some N, some R, some (.o (.lst (pls.map emPlc))), z4, z5, z6, z7, z8]
  obtain ⟨ρ', e, pls, z4, z5, z6, z7, z8, i1, i2, rfl⟩ := qfor_inv (asg := qt (pf (k + 1)) (pm (k + 1)) (.var 4)) (body := qx (pf (k + 1)) (pm (k + 1)) sub0 body) (I := I) (rngL 0 (c.ps.length : Nat)) 0 [some C, some N, some R, some (.o (.lst [])), none, none, none, none, none] (fun i x ρ hx hI => by
    obtain ⟨pls, z4, z5, z6, z7, z8, i1, i2, rfl⟩ := hI
    obtain ⟨hi, rfl⟩ := rng_at hx
    simp only [Nat.zero_add] at i1 ⊢
    obtain ⟨e1, V1⟩ := V.pi hi
    have s1 := V1.stL.1
    have hst : row.getD (8 * i) 0 % (c.ps.getD i P0).states.length < (c.ps.getD i P0).states.length := Nat.mod_lt _ (by omega)
    generalize hS : row.getD (8 * i) 0 % (c.ps.getD i P0).states.length = st at hst
    have hst' : (c.ps.getD i P0).states[st]? = some ((c.ps.getD i P0).states.getD st 0) := getD_at hst
    have c4 := V1.st4 _ (List.mem_of_getElem? hst')
    generalize hcn : (c.ps.getD i P0).states.getD st 0 = cnt at hst' c4
    let L := some (QV.o (.lst (pls.map emPlc)))
    let E : List Int → List (Option QV) → QEnv := fun l z => [some C, some N, some R, L, some (.v (.int (i : Nat))), some (.v (emNs (c.ps.getD i P0).states)), some (.v (.int (st : Nat))), some (.o (.lst (l.map .int))), z.getD 0 none]
    obtain ⟨z', e2⟩ := qfor_fold (em := fun a : Nat => PV.int (a : Nat)) (env := E) (step := fun l a => l ++ [((row.getD (8 * i + 1 + a) 0 % 5 : Nat) : Int) - 2 + 7 * (a : Nat)]) (P := fun l bs => l.length + bs.length ≤ 100 ∧ ∀ a ∈ bs, a < 4)
      (asg := qt (pf (k + 1)) (pm (k + 1)) (.var 8)) (body := qx (pf (k + 1)) (pm (k + 1)) sub0 body2) (fun l a bs z hp => by
        obtain ⟨hp1, hp2⟩ := hp
        simp only [List.length_cons] at hp1
        have ha := hp2 a List.mem_cons_self
        refine ⟨⟨by rw [List.length_append]; simp only [List.length_cons, List.length_nil]; omega, fun b hb => hp2 b (List.mem_cons_of_mem _ hb)⟩, E l [some (.v (.int (a : Nat)))], by simp [qt, E], [some (.v (.int (a : Nat)))], ?_⟩
        refine (qx_app (v := .int (((row.getD (8 * i + 1 + a) 0 % 5 : Nat) : Int) - 2 + 7 * (a : Nat))) (xs := l.map .int) (qe_add (qe_sub (md (m := 5) (k := k + 1) (n := row.getD (8 * i + 1 + a) 0) (qe_ix (x := .lst (row.map emN)) (y := .int ((8 * i + 1 + a : Nat) : Int)) (qe_var rfl) ?_ (rowE (by omega))) (by decide)) (qe_cst rfl)) (qe_mul (i := 7) (j := (a : Nat)) (qe_cst rfl) (qe_var rfl) (by simp [small]))) rfl (by simp only [List.length_map, LIM]; omega)).trans ?_
        · have := qe_add (pf := pf (k + 1)) (pm := pm (k + 1)) (ρ := E l [some (.v (.int (a : Nat)))]) (a := .bop .add (.bop .mul (.cst (.int 8)) (.var 4)) (.cst (.int 1))) (b := .var 8) (j := (a : Nat)) (qe_add (qe_mul (i := 8) (j := (i : Nat)) (qe_cst rfl) (qe_var rfl) (by simp [small])) (qe_cst (v := .int 1) rfl)) (qe_var rfl)
          rw [show ((8 * i + 1 + a : Nat) : Int) = 8 * (i : Int) + 1 + (a : Int) by omega]
          exact this
        · rw [qx_nil]; simp [E]) (List.range cnt) [] [z8] ⟨by simp; omega, fun a ha => by rw [List.mem_range] at ha; omega⟩
    rw [foldl_flat, flat_one, List.nil_append] at e2
    have ek : ((List.range cnt).map fun a : Nat => ((row.getD (8 * i + 1 + a) 0 % 5 : Nat) : Int) - 2 + 7 * (a : Nat)) = keptF row i cnt := rfl
    rw [ek] at e2
    have kl : (keptF row i cnt).length = cnt := by simp [keptF]
    have ka := keptF_asc row i cnt
    generalize keptF row i cnt = kept at e2 kl ka
    refine ⟨[some C, some N, some R, L, some (.v (.int (i : Nat))), z5, z6, z7, z8], by simp [qt, L], [some C, some N, some R, some (.o (.lst ((pls ++ [((st, kept) : Pl)]).map emPlc))), some (.v (.int (i : Nat))), some (.v (emNs (c.ps.getD i P0).states)), some (.v (.int (st : Nat))), some (.o (.lst (kept.map .int))), z'.getD 0 none], ?_, pls ++ [(st, kept)], _, _, _, _, _, by simp [i1], fun j p q hp hq => ?_, rfl⟩
    · refine (qx_set rfl (v := emNs (c.ps.getD i P0).states) (qe_ix (x := emP (c.ps.getD i P0)) (qe_ix (plan0 (k := k + 1) rfl) (qe_var rfl) (ixL (by rw [List.getElem?_map, e1]; rfl))) (qe_cst (v := .int 2) rfl) rfl)).trans ?_
      refine (qx_set rfl (v := .int (st : Nat)) ?_).trans ?_
      · rw [← hS]
        refine md2 (n := row.getD (8 * i) 0) (m := (c.ps.getD i P0).states.length) (qe_ix (x := .lst (row.map emN)) (y := .int ((8 * i : Nat) : Int)) (qe_var rfl) ?_ (rowE (by omega))) (qe_len (x := emNs (c.ps.getD i P0).states) (qe_var rfl) (by unfold emNs; rw [lenT, List.length_map])) (by omega)
        have := qe_mul (pf := pf (k + 1)) (pm := pm (k + 1)) (ρ := [some C, some N, some R, L, some (.v (.int (i : Nat))), some (.v (emNs (c.ps.getD i P0).states)), z6, z7, z8]) (a := .cst (.int 8)) (b := .var 4) (i := 8) (j := (i : Nat)) (qe_cst rfl) (qe_var rfl) (by simp [small])
        rw [show ((8 * i : Nat) : Int) = 8 * (i : Int) by omega]
        exact this
      refine (qx_live rfl (o := .lst []) (by simp [qnew, qes, LIM]) (by simp)).trans ?_
      refine (qx_for (xs := (List.range cnt).map fun a : Nat => PV.int (a : Nat)) ?_ e2).trans ?_
      · rw [← rng_map]
        refine qi_rng1 (qe_ix (x := emNs (c.ps.getD i P0).states) (y := .int (st : Nat)) (qe_var rfl) (qe_var rfl) ?_) (okRn (by omega))
        have := ix_Ns hst
        rw [hcn] at this; exact this
      refine (qx_app (v := emPlc (st, kept)) (xs := pls.map emPlc) (qe_tupD (qes_cons (qe_var rfl) (qes_cons (qe_tupleO rfl) qes_nil)) (by simp [LIM])) rfl (by simp only [List.length_map, LIM]; omega)).trans ?_
      rw [qx_nil, List.map_append]; rfl
    · by_cases hj : j < i
      · rw [List.getElem?_append_left (by omega)] at hq
        exact i2 j p q hp hq
      · have hj2 := (List.getElem?_eq_some_iff.mp hq).1
        rw [List.length_append, i1] at hj2
        simp only [List.length_cons, List.length_nil] at hj2
        have : j = i := by omega
        subst this
        rw [getL_app i1] at hq
        cases hq
        rw [e1] at hp
        cases hp
        exact ⟨by show (c.ps.getD j P0).states[st]? = some kept.length; rw [hst', kl], ka⟩) ⟨[], none, none, none, none, none, rfl, fun j p q hp hq => by simp at hq, rfl⟩
  rw [rng_length, Nat.zero_add] at i1
  refine ⟨pls, ⟨i1, i2⟩, pf_at (d := c__law_beginning) (r := .ret (.tup (pls.map emPlc))) rfl rfl ?_ rfl⟩
  show qx (pf (k + 1)) (pm (k + 1)) sub0 c__law_beginning.body [some C, some N, none, none, none, none, none, none, none] = _
  rw [c__law_beginning]
  refine (qx_set rfl (v := .lst (row.map emN)) (qe_call (qes_cons (qe_var rfl) (qes_cons (qe_cst rfl) qes_nil)) er)).trans ?_
  refine (qx_live rfl (o := .lst []) (by simp [qnew, qes, LIM]) (by simp)).trans ?_
  refine (qx_for (qi_rng1 (n := (c.ps.length : Nat)) (qe_len (plan0 (k := k + 1) rfl) (by rw [lenL, List.length_map])) (okRn (by omega))) e).trans ?_
  exact qx_ret (qe_tupleO rfl)
end K06
end
section
namespace K06
open PySem PM
variable {k : Nat}
theorem VC.nmL {c : CP} (V : VC c) : 0 < c.nm.length := by
  obtain ⟨p, _, Vp, e⟩ := V.p0
  rw [e]; exact Vp.names.1
theorem ix2 {x y : PV} (b : Bool) : ixV [] (.lst [x, y]) (.int (if b = true then 1 else 0)) = some (if b = true then y else x) := by
  cases b <;> rfl
theorem law_input {c : CP} (V : VC c) (cell : Int) {n : Nat} (hn : n ≤ 100) : ∃ ms : List Msg, ms.length = n ∧ (∀ m ∈ ms, m.1 ∈ c.nm) ∧ pf (k + 2) F__law_input [emPl c, .int cell, .int (n : Nat)] = some (.v (.lst (ms.map emM))) := by
  obtain ⟨row, rl, _, er⟩ := row_ex (k := k) cell (n := n) (by omega)
  have np := V.nmL
  let C : QV := .v (emPl c)
  let N : QV := .v (.int cell)
  let Z : QV := .v (.int (n : Nat))
  let W : QV := .v (emWs c.nm)
  let bb := decide (cell % 5 = 1)
  let b : Nat := if bb = true then 200 else 6
  have b0 : 0 < b := by show 0 < (if _ then _ else _ : Nat); split <;> decide
  let g : Nat → Msg := fun x => (nmA c.nm (x : Nat), ((x / 4 % b : Nat) : Int) - 2)
  let body : CSs := (.ex (.lm .append (.var 3) (.cons (.tup (.cons (.ix (.var 4) (.bop .mod (.var 5) (.bi .len (.cons (.var 4) .nil)))) (.cons (.bop .sub (.bop .mod (.bop .fdiv (.var 5) (.cst (.int 4))) (.ix (.fz (.lst (.cons (.cst (.int 6)) (.cons (.cst (.int 200)) .nil)))) (.bi .int (.cons (.cmp .eq (.bop .mod (.bi .int (.cons (.var 1) .nil)) (.cst (.int 5))) (.cst (.int 1))) .nil)))) (.cst (.int 2))) .nil))) .nil))
   .nil)
  let E : List Msg → List (Option QV) → QEnv := fun l z => [some C, some N, some Z, some (.o (.lst (l.map emM))), some W, z.getD 0 none, none]
  obtain ⟨z', e⟩ := qfor_fold (em := emN) (env := E) (step := fun l x => l ++ [g x]) (P := fun l bs => l.length + bs.length ≤ 1000)
    (asg := qt (pf (k + 1)) (pm (k + 1)) (.var 5)) (body := qx (pf (k + 1)) (pm (k + 1)) sub0 body) (fun l x bs z hp => by
      simp only [List.length_cons] at hp
      refine ⟨by rw [List.length_append]; simp only [List.length_cons, List.length_nil]; omega, E l [some (.v (emN x))], by simp [qt, E], [some (.v (emN x))], ?_⟩
      refine (qx_app (v := emM (g x)) (xs := l.map emM) (qe_tupD (qes_cons (qe_ix (x := emWs c.nm) (qe_var rfl) (qe_mod (i := (x : Nat)) (j := (c.nm.length : Nat)) (qe_var rfl) (qe_len (x := emWs c.nm) (qe_var rfl) (by unfold emWs; rw [lenT, List.length_map])) (by omega)) (nmA_ok np _).2) (qes_cons (v := .int (((x / 4 % b : Nat) : Int) - 2)) (qe_sub (md2 (n := x / 4) (m := b) (fd (n := x) (m := 4) rfl (by decide) (by decide)) ?_ b0) (qe_cst rfl)) qes_nil)) (by simp [LIM])) rfl (by simp only [List.length_map, LIM]; omega)).trans ?_
      · refine qe_ix (x := .lst [.int 6, .int 200]) (y := .int (if bb = true then 1 else 0)) (qe_lstD (qes_cons (qe_cst rfl) (qes_cons (qe_cst rfl) qes_nil)) (by simp [LIM])) (qe_int (x := .bl bb) (qe_cmp (o := .eq) (x := .int (cell % 5)) (y := .int 1) (qe_mod (qe_int (x := .int cell) (qe_var rfl) rfl) (qe_cst rfl) (by decide)) (qe_cst rfl) (show eqS [] (.int (cell % 5)) (.int 1) = some bb from eq_int _ _)) ?_) ?_
        · rfl
        · rw [ix2]
          show some _ = some (PV.int ((if bb = true then 200 else 6 : Nat) : Int))
          split <;> rfl
      · rw [qx_nil]
        simp only [E, List.map_append]
        rfl) row [] [] (by simp; omega)
  rw [foldl_flat, flat_one, List.nil_append] at e
  have hms : ∀ m ∈ row.map g, m.1 ∈ c.nm := fun m hm => by
    obtain ⟨x, _, rfl⟩ := List.mem_map.mp hm
    exact (nmA_ok np _).1
  have hml : (row.map g).length = n := by rw [List.length_map, rl]
  generalize row.map g = ms at e hms hml
  have cond : qe (pf (k + 1)) (pm (k + 1)) (.cmp .eq (.bop .mod (.bi .int (.cons (.var 1) .nil)) (.cst (.int 3))) (.cst (.int 0))) (E ms z') = some (.bl (decide (cell % 3 = 0))) :=
    qe_cmp (x := .int (cell % 3)) (y := .int 0) (qe_mod (qe_int (x := .int cell) (qe_var rfl) rfl) (qe_cst rfl) (by decide)) (qe_cst rfl) (eq_int _ _)
  have head : ∀ r, qx (pf (k + 1)) (pm (k + 1)) sub0 (.iff (.cmp .eq (.bop .mod (.bi .int (.cons (.var 1) .nil)) (.cst (.int 3))) (.cst (.int 0)))
      (.asg (.var 3) (.fz (.comp (.tup (.cons (.ix (.var 6) (.cst (.int 0))) (.cons (.bop .add (.bop .mul (.ix (.var 6) (.cst (.int 1))) (.cst (.int 1000003))) (.cst (.int 17))) .nil))) [6] (.var 6) (.seq (.var 3)) .none)) .nil) .nil (.ret (.var 3))) (E ms z') = some (.ret r) → pf (k + 2) F__law_input [emPl c, .int cell, .int (n : Nat)] = some (.v r) := fun r hr => by
    refine pf_at (d := c__law_input) (r := .ret r) rfl rfl ?_ rfl
    show qx (pf (k + 1)) (pm (k + 1)) sub0 c__law_input.body [some C, some N, some Z, none, none, none, none] = _
    rw [c__law_input]
    refine (qx_live rfl (o := .lst []) (by simp [qnew, qes, LIM]) (by simp)).trans ?_
    obtain ⟨p, h0, _, en⟩ := V.p0
    refine (qx_set rfl (v := emWs c.nm) ?_).trans ?_
    · rw [en]
      exact qe_ix (x := emP p) (qe_ix (plan0 (k := k + 1) rfl) (qe_cst (v := .int 0) rfl) (ixL (i := 0) (by rw [List.getElem?_map, h0]; rfl))) (qe_cst (v := .int 0) rfl) rfl
    refine (qx_for (xs := row.map emN) (qi_seq (qe_call (qes_cons (qe_var rfl) (qes_cons (qe_var rfl) qes_nil)) er) rfl) e).trans ?_
    exact hr
  cases hc : decide (cell % 3 = 0) with
  | true =>
    rw [hc] at cond
    refine ⟨ms.map fun m => (m.1, m.2 * 1000003 + 17), by rw [List.length_map, hml], fun m hm => ?_, head _ ?_⟩
    · obtain ⟨x, hx, rfl⟩ := List.mem_map.mp hm
      exact hms x hx
    · let ms2 : List Msg := ms.map fun m => (m.1, m.2 * 1000003 + 17)
      refine (qx_iffT (ρ2 := [some C, some N, some Z, some (.v (.lst (ms2.map emM))), some W, z'.getD 0 none, none]) cond ?_).trans (qx_ret (qe_var rfl))
      refine (qx_set rfl (v := .lst (ms2.map emM)) (qe_compL (xs := ms.map emM) rfl (by simp only [List.length_map, LIM]; omega) ?_)).trans (by rw [qx_nil]; rfl)
      have h2 : ms2.map emM = ms.map fun m => emM (m.1, m.2 * 1000003 + 17) := by
        show (ms.map _).map emM = _
        rw [List.map_map]; rfl
      rw [h2]
      refine qcomp_mapM emM _ ?_
      intro m hm
      exact ⟨_, by rw [qt], by rw [qb], qe_tupD (qes_cons (qe_ix (x := emM m) (v := .str m.1) (qe_var rfl) (qe_cst (v := .int 0) rfl) rfl) (qes_cons (qe_add (qe_mul (qe_ix (x := emM m) (v := .int m.2) (qe_var rfl) (qe_cst (v := .int 1) rfl) rfl) (qe_cst rfl) (by simp [small])) (qe_cst rfl)) qes_nil)) (by simp [LIM])⟩
  | false =>
    rw [hc] at cond
    refine ⟨ms, hml, hms, head _ ?_⟩
    exact (qx_iff0 cond).trans (qx_retO rfl)
end K06
end
section
namespace K06
open PySem PM
variable {k : Nat}
theorem dok_Plc (q : Pl) : dok 2 (emPlc q) := dok_tup fun v hv => by
  simp only [List.mem_cons, List.not_mem_nil, or_false] at hv
  rcases hv with rfl | rfl
  · exact (dok_int _).mono (by decide)
  · exact dok_ints _
theorem dok_pls (pls : List Pl) : dok 3 (.tup (pls.map emPlc)) := dok_tup fun v hv => by
  obtain ⟨q, _, rfl⟩ := List.mem_map.mp hv
  exact dok_Plc q
theorem dok_o3 {p : Plan} (V : Valid p) {o : Out3} (h : outOk p o) : dok 1 (emO3 o) := dok_tup fun v hv => by
  obtain ⟨s1, s2⟩ := out_sOk V h
  simp only [List.mem_cons, List.not_mem_nil, or_false] at hv
  rcases hv with rfl | rfl | rfl
  · exact dok_str s1
  · exact dok_str s2
  · exact dok_int _
theorem dok_parts {c : CP} (V : VC c) {ps : Part} (h : dOk c ps) : dok 4 (emParts ps) := dok_tup fun v hv => by
  obtain ⟨x, hx, rfl⟩ := List.mem_map.mp hv
  obtain ⟨i, hi, e⟩ := List.mem_iff_getElem.mp hx
  have hl := h.len
  have ok := h.out i x (by rw [List.getElem?_eq_getElem hi, e])
  refine dok_tup fun v hv => ?_
  simp only [List.mem_cons, List.not_mem_nil, or_false] at hv
  rcases hv with rfl | rfl | rfl
  · exact (dok_int _).mono (by decide)
  · exact (dok_ints _).mono (by decide)
  · refine dok_tup fun v hv => ?_
    obtain ⟨o, ho, rfl⟩ := List.mem_map.mp hv
    exact dok_o3 (V.pi (i := i) (by omega)).2 (ok.2 o ho)
theorem dok_deed {c : CP} (V : VC c) {d : List Part} (h : ∀ ps ∈ d, dOk c ps) : dok 5 (emDeed d) := dok_lst fun v hv => by
  obtain ⟨ps, hps, rfl⟩ := List.mem_map.mp hv
  exact dok_parts V (h ps hps)
theorem dok_M {m : Msg} (h : sOk m.1) : dok 1 (emM m) := dok_tup fun v hv => by
  simp only [List.mem_cons, List.not_mem_nil, or_false] at hv
  rcases hv with rfl | rfl
  · exact dok_str h
  · exact dok_int _
theorem dok_Ms {ms : List Msg} (h : ∀ m ∈ ms, sOk m.1) : dok 2 (.lst (ms.map emM)) := dok_lst fun v hv => by
  obtain ⟨m, hm, rfl⟩ := List.mem_map.mp hv
  exact dok_M (h m hm)
theorem dok_two {d : Nat} {a b : PV} (ha : dok d a) (hb : dok d b) : dok (d + 1) (.tup [a, b]) := dok_tup fun v hv => by
  simp only [List.mem_cons, List.not_mem_nil, or_false] at hv
  rcases hv with rfl | rfl
  · exact ha
  · exact hb
theorem told_sOk {c : CP} (V : VC c) {d : List Part} (h : ∀ ps ∈ d, dOk c ps) {i : Nat} (hi : i < c.ps.length) {ch : Str} : ∀ m ∈ toldF d i ch, sOk m.1 := fun m hm => by
  unfold toldF at hm
  obtain ⟨ps, hps, hm⟩ := List.mem_flatMap.mp hm
  have ok := h ps hps
  have hx : ps[i]? = some (ps.getD i ((0, []), [])) := getD_at (by have := ok.len; omega)
  obtain ⟨_, xo⟩ := ok.out i _ hx
  unfold flt at hm
  obtain ⟨o, ho, rfl⟩ := List.mem_map.mp hm
  exact (out_sOk (V.pi hi).2 (xo o (List.mem_filter.mp ho).1)).2
theorem nest_qe {ρ : QEnv} {d : List Part} (hd : d.length ≤ 1000) (hp : ∀ ps ∈ d, ps.length ≤ 1000 ∧ ∀ x ∈ ps, x.2.length ≤ 1000) (h9 : ρ[9]? = some (some (QV.v (emDeed d)))) (hl : ρ.length = 20) :
    qe (pf k) (pm k) (.fz (.comp (.fz (.comp (.fz (.lst (.cons (.ix (.var 18) (.cst (.int 0))) (.cons (.fz (.bi .list (.cons (.ix (.var 18) (.cst (.int 1))) .nil))) (.cons (.fz (.comp (.fz (.bi .list (.cons (.var 19) .nil))) [19] (.var 19) (.seq (.ix (.var 18) (.cst (.int 2)))) .none)) .nil))))) [18] (.var 18) (.seq (.var 15)) .none)) [15] (.var 15) (.seq (.var 9)) .none)) ρ = some (emDeedN d) := by
  refine qe_comp (xs := d.map emParts) (qi_seq (qe_var h9) rfl) (by simp only [List.length_map, LIM]; omega) ?_
  refine qcomp_mapM emParts emPartsN ?_
  intro ps hps
  have hps := hp ps hps
  refine ⟨_, by rw [qt], by rw [qb], ?_⟩
  generalize hρ1 : (qwipe ρ [15]).set 15 (some (QV.v (emParts ps))) = ρ1
  have l1 : ρ1.length = 20 := by rw [← hρ1]; simp [qwipe, hl]
  have g15 : ρ1[15]? = some (some (QV.v (emParts ps))) := by
    rw [← hρ1]; simp [qwipe, hl]
  refine qe_comp (xs := ps.map emPart) (qi_seq (qe_var g15) rfl) (by have := hps.1; simp only [List.length_map, LIM]; omega) ?_
  refine qcomp_mapM emPart emPartN ?_
  intro x hx
  refine ⟨_, by rw [qt], by rw [qb], ?_⟩
  generalize hρ2 : (qwipe ρ1 [18]).set 18 (some (QV.v (emPart x))) = ρ2
  have l2 : ρ2.length = 20 := by rw [← hρ2]; simp [qwipe, l1]
  have g18 : ρ2[18]? = some (some (QV.v (emPart x))) := by
    rw [← hρ2]; simp [qwipe, l1]
  refine qe_lstD (qes_cons (v := emN x.1.1) (qe_ix (x := emPart x) (qe_var g18) (qe_cst (v := .int 0) rfl) rfl) (qes_cons (v := .lst (x.1.2.map .int)) (qe_list (x := .tup (x.1.2.map .int)) (qe_ix (x := emPart x) (qe_var g18) (qe_cst (v := .int 1) rfl) rfl) rfl rfl) (qes_cons (v := .lst (x.2.map emOL)) (qe_comp (xs := x.2.map emO3) (qi_seq (v := .tup (x.2.map emO3)) (qe_ix (x := emPart x) (qe_var g18) (qe_cst (v := .int 2) rfl) rfl) rfl) (by have := hps.2 x hx; simp only [List.length_map, LIM]; omega) ?_) qes_nil))) (by simp [LIM])
  refine qcomp_mapM emO3 emOL ?_
  intro o ho
  refine ⟨_, by rw [qt], by rw [qb], ?_⟩
  generalize hρ3 : (qwipe ρ2 [19]).set 19 (some (QV.v (emO3 o))) = ρ3
  have g19 : ρ3[19]? = some (some (QV.v (emO3 o))) := by
    rw [← hρ3]; simp [qwipe, l2]
  exact qe_list (x := emO3 o) (qe_var g19) rfl rfl
end K06
end
section
namespace K06
open PySem PM
variable {k : Nat}
theorem heardF_app (p : Plan) (b : List Msg) : ∀ (a : List Msg) (q : Pl), heardF p q (a ++ b) = ((heardF p (heardF p q a).1 b).1, (heardF p q a).2 ++ (heardF p (heardF p q a).1 b).2)
  | [], q => by simp [heardF]
  | m :: a, q => by
    rw [List.cons_append, heardF, heardF_app p b a, heardF]
    simp only [List.append_assoc]
def outsAt (d : List Part) (i : Nat) : List Out3 := d.flatMap fun ps => (ps.getD i ((0, []), [])).2
theorem flt_app (ch : Str) (a b : List Out3) : flt ch (a ++ b) = flt ch a ++ flt ch b := by
  unfold flt
  rw [List.filter_append, List.map_append]
theorem toldF_outs (i : Nat) (ch : Str) : ∀ d : List Part, toldF d i ch = flt ch (outsAt d i)
  | [] => rfl
  | ps :: d => by
    have ih := toldF_outs i ch d
    unfold toldF outsAt at ih ⊢
    rw [List.flatMap_cons, List.flatMap_cons, flt_app, ih]
theorem partsF_at {c : CP} {pls : List Pl} {m : Msg} {i : Nat} (hi : i < c.ps.length) : (partsF c pls m).getD i ((0, []), []) = hF c pls m i := by
  unfold partsF
  rw [List.getD_eq_getElem?_getD, List.getElem?_map, List.getElem?_range hi]; rfl
theorem placesF_at {c : CP} {pls : List Pl} {m : Msg} {i : Nat} (hi : i < c.ps.length) : (placesF c pls m).getD i (0, []) = (hF c pls m i).1 := by
  unfold placesF partsF
  rw [List.getD_eq_getElem?_getD, List.getElem?_map, List.getElem?_map, List.getElem?_range hi]; rfl
def heardAt (c : CP) (pls : List Pl) (ms : List Msg) : Nat → List Msg
  | 0 => ms
  | i + 1 => toldF (deedF c pls ms).1 i (c.ls.getD i ⟨#[]⟩)
theorem heardAt_nil (c : CP) (pls : List Pl) : ∀ i, heardAt c pls [] i = []
  | 0 => rfl
  | i + 1 => rfl
theorem heardAt_cons (c : CP) (pls : List Pl) (m : Msg) (ms : List Msg) : ∀ i, i < c.ps.length → heardAt c pls (m :: ms) i = hearM c pls m i ++ heardAt c (placesF c pls m) ms i
  | 0, _ => rfl
  | i + 1, hi => by
    show toldF (partsF c pls m :: (deedF c (placesF c pls m) ms).1) i _ = flt _ (hF c pls m i).2 ++ toldF (deedF c (placesF c pls m) ms).1 i _
    unfold toldF
    rw [List.flatMap_cons, partsF_at (by omega)]
theorem whole (c : CP) {i : Nat} (hi : i < c.ps.length) : ∀ (ms : List Msg) (pls : List Pl), heardF (c.ps.getD i P0) (pls.getD i (0, [])) (heardAt c pls ms i) = ((deedF c pls ms).2.getD i (0, []), outsAt (deedF c pls ms).1 i)
  | [], pls => by rw [heardAt_nil]; rfl
  | m :: ms, pls => by
    have ih := whole c hi ms (placesF c pls m)
    rw [placesF_at hi] at ih
    rw [heardAt_cons c pls m ms i hi, heardF_app]
    have e : heardF (c.ps.getD i P0) (pls.getD i (0, [])) (hearM c pls m i) = hF c pls m i := rfl
    rw [e, ih]
    show _ = ((deedF c (placesF c pls m) ms).2.getD i (0, []), outsAt (partsF c pls m :: (deedF c (placesF c pls m) ms).1) i)
    unfold outsAt
    rw [List.flatMap_cons, partsF_at hi]
theorem link_name {c : CP} (V : VC c) {i : Nat} (hi : i + 1 < c.ps.length) {o : Out3} (ho : outOk (c.ps.getD i P0) o) (hl : o.1 = c.ls.getD i ⟨#[]⟩) : o.2.1 ∈ (c.ps.getD (i + 1) P0).names := by
  obtain ⟨e1, V1⟩ := V.pi (i := i) (by omega)
  obtain ⟨_, lk⟩ := V.li hi
  obtain ⟨ch, hch, g1, g2⟩ := ho
  have nd : ((c.ps.getD i P0).chans.map (·.1)).Nodup := V1.chN.2.2.2
  obtain ⟨a, ha, ea⟩ := List.mem_iff_getElem.mp hch
  obtain ⟨b, hb, eb⟩ := List.mem_iff_getElem.mp lk
  have e : ((c.ps.getD i P0).chans.map (·.1))[a]? = ((c.ps.getD i P0).chans.map (·.1))[b]? := by
    rw [List.getElem?_map, List.getElem?_map, List.getElem?_eq_getElem ha, List.getElem?_eq_getElem hb, ea, eb]
    simp [g1, hl]
  have := (List.getElem?_inj (by rw [List.length_map]; exact ha) nd).mp e
  subst this
  rw [ea] at eb
  rw [eb] at g2
  exact g2
theorem heardAt_ok {c : CP} (V : VC c) : ∀ {ms : List Msg} {pls : List Pl}, okB c pls → (∀ m ∈ ms, m.1 ∈ c.nm) → ∀ {i : Nat}, i < c.ps.length → (∀ x ∈ heardAt c pls ms i, x.1 ∈ (c.ps.getD i P0).names) ∧ (heardAt c pls ms i).length ≤ 3 ^ i * ms.length
  | [], pls, _, _, i, _ => by
    rw [heardAt_nil]
    exact ⟨fun x hx => (by cases hx), Nat.zero_le _⟩
  | m :: ms, pls, h, hm, i, hi => by
    have h1 := hm m List.mem_cons_self
    obtain ⟨a1, a2⟩ := heardAt_ok V (places_ok V h h1) (fun x hx => hm x (List.mem_cons_of_mem _ hx)) hi
    obtain ⟨b1, b2⟩ := hear_ok V h h1 i hi
    rw [heardAt_cons c pls m ms i hi]
    refine ⟨fun x hx => ?_, ?_⟩
    · rcases List.mem_append.mp hx with hx | hx
      · exact b1 x hx
      · exact a1 x hx
    · rw [List.length_append, List.length_cons, Nat.mul_add]
      omega
def c1 (p : Plan) : CP := ⟨[p], []⟩
theorem c1_ok {p : Plan} (V : Valid p) : VC (c1 p) where
  len := ⟨Nat.le_refl 1, by show 1 ≤ 3; decide⟩
  ll := rfl
  val := fun q hq => by
    have : q = p := by simpa [c1] using hq
    subst this; exact V
  link := fun k l q q' hl => by simp [c1] at hl
theorem b1_ok {p : Plan} {q : Pl} (h : okPl p q) : okB (c1 p) [q] where
  len := rfl
  ok := fun i a b ha hb => by
    rcases i with _ | i
    · cases ha; cases hb; exact h
    · simp at hb
theorem law_alone {c : CP} (V : VC c) {pls : List Pl} (h : okB c pls) {ms : List Msg} (hm : ∀ m ∈ ms, m.1 ∈ c.nm) (hl : ms.length ≤ 100) (h0 : 0 < ms.length) {j : Nat} (hj : j + 1 < c.ps.length) :
    pf (k + 6) F__law_alone [emPl c, emCh c, .tup (pls.map emPlc), emDeed (deedF c pls ms).1, .int ((j + 1 : Nat) : Int)] = some (.v (.bl true)) := by
  have len := V.len
  obtain ⟨e1, V1⟩ := V.pi hj
  obtain ⟨e0, V0⟩ := V.pi (i := j) (by omega)
  obtain ⟨el, lk⟩ := V.li hj
  have hq := h.pi hj
  have okq := h.ok _ _ _ e1 hq
  obtain ⟨hn, hlen⟩ := heardAt_ok V h hm hj
  have wh := whole c hj ms pls
  have hA : heardAt c pls ms (j + 1) = toldF (deedF c pls ms).1 j (c.ls.getD j ⟨#[]⟩) := rfl
  have p9 : 3 ^ (j + 1) ≤ 9 := by
    rcases (show j = 0 ∨ j = 1 by omega) with rfl | rfl <;> decide
  have dOks := deedF_ok V h hm
  have dlen := deedF_len c ms pls
  obtain ⟨lps, hlps, hend⟩ := deedF_last c ms pls h0
  have V' := c1_ok V1
  have ok' := b1_ok okq
  have sl := (V0.chOk _ lk).1
  dsimp only at sl
  generalize hD : (deedF c pls ms).1 = d at dOks dlen hlps wh hA
  generalize hE : (deedF c pls ms).2 = en at hend wh
  generalize hH : heardAt c pls ms (j + 1) = hs at hn hlen wh hA
  have hlen2 : hs.length ≤ 1000 := Nat.le_trans hlen (Nat.le_trans (Nat.mul_le_mul p9 hl) (by decide))
  have nm1 : (c1 (c.ps.getD (j + 1) P0)).nm = (c.ps.getD (j + 1) P0).names := rfl
  have hn' : ∀ m ∈ hs, m.1 ∈ (c1 (c.ps.getD (j + 1) P0)).nm := hn
  have mk := madeC (k := k + 4) V' (pv := .lst ([c.ps.getD (j + 1) P0].map emG)) (lv := .tup []) (.inl rfl) (.inr rfl)
  have wr := written (k := k + 4) V (dvV_deed d) dOks (by omega) (i := j) (by omega) sl
  rw [← hA] at wr
  have df := deed_from (k := k) V' ok' hn' hlen2 (bgF_tup (pls := [pls.getD (j + 1) (0, [])]) (by simp) fun q hq => by
    have : q = pls.getD (j + 1) (0, []) := by simpa using hq
    subst this
    have := V1.st4 _ (List.mem_of_getElem? okq.st)
    omega) (msV_lst (ms := hs) hlen2)
  have wh1 := whole (c1 (c.ps.getD (j + 1) P0)) (i := 0) Nat.one_pos hs [pls.getD (j + 1) (0, [])]
  have wh1 : heardF (c.ps.getD (j + 1) P0) (pls.getD (j + 1) (0, [])) hs = _ := wh1
  rw [wh] at wh1
  have dOk1 := deedF_ok V' ok' hn'
  have dlen1 := deedF_len (c1 (c.ps.getD (j + 1) P0)) hs [pls.getD (j + 1) (0, [])]
  have dlast1 := deedF_last (c1 (c.ps.getD (j + 1) P0)) hs [pls.getD (j + 1) (0, [])]
  have len1 : ∀ ps ∈ (deedF (c1 (c.ps.getD (j + 1) P0)) [pls.getD (j + 1) (0, [])] hs).1, ps.length = 1 := fun ps hp => (dOk1 ps hp).len
  have end1 : okB (c1 (c.ps.getD (j + 1) P0)) (deedF (c1 (c.ps.getD (j + 1) P0)) [pls.getD (j + 1) (0, [])] hs).2 := deedF_end V' ok' hn'
  have nil1 : hs = [] → (deedF (c1 (c.ps.getD (j + 1) P0)) [pls.getD (j + 1) (0, [])] hs).2 = [pls.getD (j + 1) (0, [])] := fun e => by subst e; rfl
  generalize (deedF (c1 (c.ps.getD (j + 1) P0)) [pls.getD (j + 1) (0, [])] hs).1 = d1 at df wh1 dOk1 dlen1 dlast1 len1
  generalize (deedF (c1 (c.ps.getD (j + 1) P0)) [pls.getD (j + 1) (0, [])] hs).2 = en1 at wh1 dlast1 end1 nil1
  obtain ⟨we, wo⟩ := Prod.mk.inj wh1
  refine pf_at (d := c__law_alone) (r := .ret (.bl true)) rfl rfl ?_ rfl
  let PL : QV := .v (emPl c)
  let CH : QV := .v (emCh c)
  let B : QV := .v (.tup (pls.map emPlc))
  let D : QV := .v (emDeed d)
  let K : QV := .v (.int ((j + 1 : Nat) : Int))
  let AL : QV := .v (emCh (c1 (c.ps.getD (j + 1) P0)))
  show qx (pf (k + 5)) (pm (k + 5)) sub0 c__law_alone.body [some PL, some CH, some B, some D, some K, none, none, none, none] = _
  rw [c__law_alone]
  refine (qx_set rfl (v := emCh (c1 (c.ps.getD (j + 1) P0))) (qe_makeD (qes_cons (qe_lstD (qes_cons (v := emG (c.ps.getD (j + 1) P0)) (qe_ix (x := .tup (c.ps.map emG)) (qe_fldV (x := emCh c) (qe_var rfl) rfl) (qe_var rfl) (ixT (by rw [List.getElem?_map, e1]; rfl))) qes_nil) (by simp [LIM])) qes_nil) mk)).trans ?_
  have k1 : ∀ ρ : QEnv, ρ[4]? = some (some K) → qe (pf (k + 5)) (pm (k + 5)) (.bop .sub (.var 4) (.cst (.int 1))) ρ = some (.int (j : Nat)) := fun ρ h => by
    have e := qe_sub (pf := pf (k + 5)) (pm := pm (k + 5)) (ρ := ρ) (a := .var 4) (b := .cst (.int 1)) (i := ((j + 1 : Nat) : Int)) (j := 1) (qe_var h) (qe_cst rfl)
    rw [show ((j + 1 : Nat) : Int) - 1 = (j : Nat) by omega] at e
    exact e
  refine (qx_set rfl (v := .lst (hs.map emM)) (qe_call (qes_cons (qe_var rfl) (qes_cons (k1 _ rfl) (qes_cons (v := .str (c.ls.getD j ⟨#[]⟩)) (qe_ix (x := .lst (c.ls.map .str)) (qe_ix (x := emPl c) (qe_var rfl) (qe_cst (v := .int 1) rfl) rfl) (k1 _ rfl) (ixL (by rw [List.getElem?_map, el]; rfl))) qes_nil))) wr)).trans ?_
  refine (qx_set rfl (v := emDeed d1) (qe_call (qes_cons (qe_var rfl) (qes_cons (v := .tup ([pls.getD (j + 1) (0, [])].map emPlc)) (qe_tupD (qes_cons (qe_ix (x := .tup (pls.map emPlc)) (qe_var rfl) (qe_var rfl) (ixT (by rw [List.getElem?_map, hq]; rfl))) qes_nil) (by simp [LIM])) (qes_cons (qe_var rfl) qes_nil))) df)).trans ?_
  have loop := qfor_inv (asg := qt (pf (k + 5)) (pm (k + 5)) (.var 8)) (body := qx (pf (k + 5)) (pm (k + 5)) sub0 (.iff (.cmp .ne (.fz (.call F_written (.cons (.var 7) (.cons (.cst (.int 0)) (.cons (.ix (.var 8) (.cst (.int 0))) .nil))))) (.fz (.call F_written (.cons (.var 3) (.cons (.var 4) (.cons (.ix (.var 8) (.cst (.int 0))) .nil))))))
    (.ret (.cst (.bl false)))
    .nil
   .nil)) (I := fun _ ρ => ∃ z, ρ = [some PL, some CH, some B, some D, some K, some AL, some (.v (.lst (hs.map emM))), some (.v (emDeed d1)), z]) ((c.ps.getD (j + 1) P0).chans.map emC) 0 [some PL, some CH, some B, some D, some K, some AL, some (.v (.lst (hs.map emM))), some (.v (emDeed d1)), none] (fun i y ρ hy hI => by
      obtain ⟨z, rfl⟩ := hI
      rw [List.getElem?_map] at hy
      obtain ⟨ch, hch, rfl⟩ := Option.map_eq_some_iff.mp hy
      have sch := (V1.chOk ch (List.mem_of_getElem? hch)).1
      refine ⟨[some PL, some CH, some B, some D, some K, some AL, some (.v (.lst (hs.map emM))), some (.v (emDeed d1)), some (.v (emC ch))], by rw [qt]; rfl, [some PL, some CH, some B, some D, some K, some AL, some (.v (.lst (hs.map emM))), some (.v (emDeed d1)), some (.v (emC ch))], ?_, _, rfl⟩
      have w1 := written (k := k + 4) V' (dvV_deed d1) dOk1 (by omega) (i := 0) Nat.one_pos sch
      have w2 := written (k := k + 4) V (dvV_deed d) dOks (by omega) hj sch
      have et : toldF d1 0 ch.1 = toldF d (j + 1) ch.1 := by rw [toldF_outs, toldF_outs, wo]
      rw [et] at w1
      refine (qx_iff0 (qe_cmp (qe_call (qes_cons (qe_var rfl) (qes_cons (qe_cst rfl) (qes_cons (v := .str ch.1) (qe_ix (x := emC ch) (qe_var rfl) (qe_cst (v := .int 0) rfl) rfl) qes_nil))) w1) (qe_call (qes_cons (qe_var rfl) (qes_cons (qe_var rfl) (qes_cons (v := .str ch.1) (qe_ix (x := emC ch) (qe_var rfl) (qe_cst (v := .int 0) rfl) rfl) qes_nil))) w2) (ne_self (dok_Ms (told_sOk V dOks hj)) (by decide)))).trans qx_nil) ⟨none, rfl⟩
  obtain ⟨ρ', lp, z, rfl⟩ := loop
  refine (qx_for (xs := (c.ps.getD (j + 1) P0).chans.map emC) (qi_seq (v := .tup ((c.ps.getD (j + 1) P0).chans.map emC)) (qe_ix (x := emP (c.ps.getD (j + 1) P0)) (qe_ix (x := .lst (c.ps.map emP)) (qe_ix (x := emPl c) (qe_var rfl) (qe_cst (v := .int 0) rfl) rfl) (qe_var rfl) (ixL (by rw [List.getElem?_map, e1]; rfl))) (qe_cst (v := .int 1) rfl) rfl) rfl) lp).trans ?_
  have ad := after_deed (k := k + 4) (dvV_deed d) hlps (by have := (dOks lps (List.mem_of_getElem? hlps)).len; omega)
  rw [← hend] at ad
  have cond : qe (pf (k + 5)) (pm (k + 5)) (.cmp .eq (.bi .len (.cons (.var 7) .nil)) (.cst (.int 0))) [some PL, some CH, some B, some D, some K, some AL, some (.v (.lst (hs.map emM))), some (.v (emDeed d1)), z] = some (.bl (decide ((d1.length : Int) = 0))) :=
    qe_cmp (x := .int (d1.length : Nat)) (y := .int 0) (qe_len (x := emDeed d1) (qe_var rfl) (by unfold emDeed; rw [lenL, List.length_map])) (qe_cst rfl) (eq_int _ _)
  have enl : en.length = c.ps.length := by
    rw [hend, List.length_map]; exact (dOks lps (List.mem_of_getElem? hlps)).len
  have hen : en[j + 1]? = some (en.getD (j + 1) (0, [])) := getD_at (by omega)
  have eqP : cmpV .eq [] (emPlc (en.getD (j + 1) (0, []))) (emPlc (en.getD (j + 1) (0, []))) = some true := by
    simp only [cmpV]; exact (dok_Plc _).eq (by decide)
  have aj : ∀ ρ : QEnv, ρ[3]? = some (some D) → ρ[4]? = some (some K) → qe (pf (k + 5)) (pm (k + 5)) (.ix (.fz (.call F_after_deed (.cons (.var 3) .nil))) (.var 4)) ρ = some (emPlc (en.getD (j + 1) (0, []))) := fun ρ g3 g4 => qe_ix (qe_call (qes_cons (qe_var g3) qes_nil) ad) (qe_var g4) (ixT (by rw [List.getElem?_map, hen]; rfl))
  have en1l := end1.len
  by_cases hz : hs = []
  · have dz : d1.length = 0 := by rw [dlen1, hz]; rfl
    rw [decide_eq_true (by omega)] at cond
    have e2 := nil1 hz
    rw [e2] at we
    have we : en.getD (j + 1) (0, []) = pls.getD (j + 1) (0, []) := we
    refine (qx_iff1 (q := .ret (.bl true)) cond (qx_ret (qe_cmp (aj _ rfl rfl) (y := emPlc (en.getD (j + 1) (0, []))) (qe_ix (x := .tup (pls.map emPlc)) (qe_var rfl) (qe_var rfl) (ixT (by rw [List.getElem?_map, hq, we]; rfl))) eqP))).trans rfl
  · have hp : 0 < hs.length := by
      cases hs with
      | nil => exact absurd rfl hz
      | cons a l => simp
    rw [decide_eq_false (by omega)] at cond
    obtain ⟨lp1, g1, g2⟩ := dlast1 hp
    have ad1 := after_deed (k := k + 4) (dvV_deed d1) g1 (by have := len1 lp1 (List.mem_of_getElem? g1); omega)
    rw [← g2] at ad1
    have h1 : en1[0]? = some (en1.getD 0 (0, [])) := getD_at (by rw [en1l]; exact Nat.one_pos)
    refine (qx_iff0 cond).trans (qx_ret (qe_cmp (x := emPlc (en.getD (j + 1) (0, []))) (qe_ix (qe_call (qes_cons (qe_var rfl) qes_nil) ad1) (qe_cst (v := .int 0) rfl) (ixT (i := 0) (by rw [List.getElem?_map, h1, we]; rfl))) (aj _ rfl rfl) eqP))
end K06
end
section
namespace K06
open PySem PM
variable {k : Nat}
theorem deedF_app (c : CP) (b : List Msg) : ∀ (a : List Msg) (pls : List Pl), deedF c pls (a ++ b) = ((deedF c pls a).1 ++ (deedF c (deedF c pls a).2 b).1, (deedF c (deedF c pls a).2 b).2)
  | [], pls => rfl
  | m :: a, pls => by
    rw [List.cons_append, deedF, deedF_app c b a]
    rfl
theorem okB.sz {c : CP} (V : VC c) {pls : List Pl} (h : okB c pls) : pls.length ≤ 3 ∧ ∀ q ∈ pls, q.2.length ≤ 4 := by
  have hl := h.len
  have := V.len.2
  refine ⟨by omega, fun q hq => ?_⟩
  obtain ⟨i, hi, e⟩ := List.mem_iff_getElem.mp hq
  obtain ⟨e1, V1⟩ := V.pi (i := i) (by omega)
  have ok := h.ok i _ q e1 (by rw [List.getElem?_eq_getElem hi, e])
  exact V1.st4 _ (List.mem_of_getElem? ok.st)
def fb : CSs → CSs
  | .for _ _ b _ => b
  | s => s
def rs : CSs → CSs
  | .asg _ _ r => r
  | .iff _ _ _ r => r
  | .for _ _ _ r => r
  | .ex _ r => r
  | s => s
def lB : CSs := fb (rs (rs c_law.body))
def lT : CSs := rs (rs (rs (rs (rs (rs (rs (rs lB)))))))
theorem body_ok {c : CP} (V : VC c) (S : QV) (cell : Int) (z4 z5 z6 z7 z8 z9 z10 : Option QV) :
    ∃ y4 y5 y6 y7 y8 y9 y10, qx (pf (k + 7)) (pm (k + 7)) sub0 lB [some S, some (.v (emPl c)), some (.v (emCh c)), some (.v (.int cell)), z4, z5, z6, z7, z8, z9, z10] = some (.nx [some S, some (.v (emPl c)), some (.v (emCh c)), some (.v (.int cell)), y4, y5, y6, y7, y8, y9, y10]) := by
  let PL : QV := .v (emPl c)
  let CH : QV := .v (emCh c)
  let CE : QV := .v (.int cell)
  obtain ⟨pls, okp, ep⟩ := law_beginning (k := k + 5) V cell
  obtain ⟨sz1, sz2⟩ := okp.sz V
  have n0 : 0 ≤ cell / 9 % 60 := Int.emod_nonneg _ (by decide)
  have n1 : cell / 9 % 60 < 60 := Int.emod_lt_of_pos _ (by decide)
  obtain ⟨ms, l1, hms, ei⟩ := law_input (k := k + 5) V (cell / 3) (n := (cell / 9 % 60).toNat) (by omega)
  rw [Int.toNat_of_nonneg n0] at ei
  have hml : ms.length ≤ 60 := by omega
  have t0 : 0 ≤ cell / 540 % ((ms.length : Nat) + 1) := Int.emod_nonneg _ (by omega)
  have t1 : cell / 540 % ((ms.length : Nat) + 1) < (ms.length : Nat) + 1 := Int.emod_lt_of_pos _ (by omega)
  obtain ⟨t, ht⟩ : ∃ t : Nat, (t : Int) = cell / 540 % ((ms.length : Nat) + 1) := ⟨_, Int.toNat_of_nonneg t0⟩
  have htl : t ≤ ms.length := by omega
  have bf := bgF_tup (pls := pls) (by omega) fun q hq => by have := sz2 q hq; omega
  have hA : ∀ m ∈ ms.take t, m.1 ∈ c.nm := fun m hm => hms m (List.mem_of_mem_take hm)
  have hB : ∀ m ∈ ms.drop t, m.1 ∈ c.nm := fun m hm => hms m (List.mem_of_mem_drop hm)
  have lA : (ms.take t).length = t := by rw [List.length_take]; omega
  have lBn : (ms.drop t).length ≤ 60 := by rw [List.length_drop]; omega
  have ok2 := deedF_end V okp hA
  obtain ⟨sy1, sy2⟩ := ok2.sz V
  have df0 := deed_from (k := k + 2) V okp hms (by omega) bf (msV_lst (ms := ms) (by omega))
  have df1 := deed_from (k := k + 2) V okp hA (by omega) bf (msV_lst (ms := ms.take t) (by omega))
  have df2 := deed_from (k := k + 2) V ok2 hB (by omega) (bgF_tup (pls := (deedF c pls (ms.take t)).2) (by omega) fun q hq => by have := sy2 q hq; omega) (msV_lst (ms := ms.drop t) (by omega))
  have dapp := deedF_app c (ms.drop t) (ms.take t) pls
  rw [List.take_append_drop] at dapp
  have dlast := deedF_last c (ms.take t) pls
  have dOk1 := deedF_ok V okp hA
  have dOks := deedF_ok V okp hms
  have dlen1 := deedF_len c (ms.take t) pls
  have dlen2 := deedF_len c (ms.drop t) (deedF c pls (ms.take t)).2
  have nil1 : t = 0 → (deedF c pls (ms.take t)).2 = pls := fun e => by subst e; rfl
  have dkD := dok_deed V dOks
  have al : ∀ {j : Nat}, j + 1 < c.ps.length → 0 < ms.length → _ := fun {j} hj h0 => law_alone (k := k + 1) V okp hms (by omega) h0 hj
  have dcat := congrArg Prod.fst dapp
  dsimp only at dcat
  generalize (deedF c pls ms).1 = d at df0 dcat dOks dkD al
  generalize (deedF c pls (ms.take t)).1 = d1 at df1 dcat dlast dOk1 dlen1
  generalize (deedF c pls (ms.take t)).2 = en1 at df2 dcat dlast nil1 ok2 dlen2
  generalize (deedF c en1 (ms.drop t)).1 = d2 at df2 dcat dlen2
  let X : Option QV → QEnv := fun z10 => [some S, some PL, some CH, some CE, some (.v (.tup (pls.map emPlc))), some (.v (.lst (ms.map emM))), some (.v (emDeed d)), some (.v (.int (t : Nat))), some (.v (emDeed d1)), some (.v (.tup (en1.map emPlc))), z10]
  have lenM : ∀ {ρ : QEnv}, ρ[5]? = some (some (QV.v (.lst (ms.map emM)))) → qe (pf (k + 7)) (pm (k + 7)) (.bi .len (.cons (.var 5) .nil)) ρ = some (.int (ms.length : Nat)) := fun h => qe_len (x := .lst (ms.map emM)) (qe_var h) (by rw [lenL, List.length_map])
  obtain ⟨ρ', lp, y10, rfl⟩ := qfor_inv (asg := qt (pf (k + 7)) (pm (k + 7)) (.var 10)) (body := qx (pf (k + 7)) (pm (k + 7)) sub0 (fb lT)) (I := fun _ ρ => ∃ z, ρ = X z) (rngL 1 (c.ps.length : Nat)) 0 (X z10) (fun i y ρ hy hI => by
    obtain ⟨z, rfl⟩ := hI
    have hi : i < ((c.ps.length : Int) - 1).toNat := by
      have := (List.getElem?_eq_some_iff.mp hy).1
      simpa [rngL] using this
    rw [rngQ_at hi] at hy
    cases hy
    refine ⟨X (some (.v (.int (1 + (i : Nat))))), by rw [qt]; rfl, X (some (.v (.int (1 + (i : Nat))))), ?_, _, rfl⟩
    have c1 : qe (pf (k + 7)) (pm (k + 7)) (.cmp .gt (.bi .len (.cons (.var 5) .nil)) (.cst (.int 0))) (X (some (.v (.int (1 + (i : Nat)))))) = some (.bl (decide ((0 : Int) < (ms.length : Nat)))) := qe_cmp (x := .int (ms.length : Nat)) (y := .int 0) (lenM rfl) (qe_cst rfl) rfl
    refine (qx_iff0 ?_).trans qx_nil
    by_cases h0 : 0 < ms.length
    · rw [decide_eq_true (by omega)] at c1
      have a1 := al (j := i) (by omega) h0
      refine qe_and (i := true) (j := false) c1 fun _ => qe_not (i := true) (qe_call (qes_cons (qe_var rfl) (qes_cons (qe_var rfl) (qes_cons (qe_var rfl) (qes_cons (qe_var rfl) (qes_cons (v := .int ((i + 1 : Nat) : Int)) ?_ qes_nil))))) a1)
      rw [show ((i + 1 : Nat) : Int) = 1 + (i : Nat) by omega]
      exact qe_var rfl
    · rw [decide_eq_false (by omega)] at c1
      exact qe_and (i := false) (j := false) c1 fun h => by cases h) ⟨_, rfl⟩
  refine ⟨some (.v (.tup (pls.map emPlc))), some (.v (.lst (ms.map emM))), some (.v (emDeed d)), some (.v (.int (t : Nat))), some (.v (emDeed d1)), some (.v (.tup (en1.map emPlc))), y10, ?_⟩
  refine (qx_set rfl (qe_call (qes_cons (qe_var rfl) (qes_cons (qe_var rfl) qes_nil)) ep)).trans ?_
  refine (qx_set rfl (qe_call (qes_cons (qe_var rfl) (qes_cons (qe_fdiv (qe_var rfl) (qe_cst rfl) (by decide) (by decide)) (qes_cons (qe_mod (qe_fdiv (qe_var rfl) (qe_cst rfl) (by decide) (by decide)) (qe_cst rfl) (by decide)) qes_nil))) ei)).trans ?_
  refine (qx_set rfl (qe_call (qes_cons (qe_var rfl) (qes_cons (qe_var rfl) (qes_cons (qe_var rfl) qes_nil))) df0)).trans ?_
  refine (qx_set rfl (v := .int (t : Nat)) ?_).trans ?_
  · rw [ht]
    exact qe_mod (qe_fdiv (qe_var rfl) (qe_cst rfl) (by decide) (by decide)) (qe_add (lenM rfl) (qe_cst rfl)) (by omega)
  refine (qx_set rfl (qe_call (qes_cons (qe_var rfl) (qes_cons (qe_var rfl) (qes_cons (v := .lst ((ms.take t).map emM)) (qe_sl (x := .lst (ms.map emM)) (qe_var rfl) qo_none (qo_some (i := (t : Nat)) (qe_var rfl)) (by rw [slA, cut_toQ, ← List.map_take])) qes_nil))) df1)).trans ?_
  refine (qx_set rfl (v := .tup (pls.map emPlc)) (qe_var rfl)).trans ?_
  have beh : ∀ rest, qx (pf (k + 7)) (pm (k + 7)) sub0 (.iff (.cmp .gt (.var 7) (.cst (.int 0))) (.asg (.var 9) (.fz (.call F_after_deed (.cons (.var 8) .nil))) .nil) .nil rest) [some S, some PL, some CH, some CE, some (.v (.tup (pls.map emPlc))), some (.v (.lst (ms.map emM))), some (.v (emDeed d)), some (.v (.int (t : Nat))), some (.v (emDeed d1)), some (.v (.tup (pls.map emPlc))), z10] = qx (pf (k + 7)) (pm (k + 7)) sub0 rest (X z10) := fun rest => by
    have cond : qe (pf (k + 7)) (pm (k + 7)) (.cmp .gt (.var 7) (.cst (.int 0))) [some S, some PL, some CH, some CE, some (.v (.tup (pls.map emPlc))), some (.v (.lst (ms.map emM))), some (.v (emDeed d)), some (.v (.int (t : Nat))), some (.v (emDeed d1)), some (.v (.tup (pls.map emPlc))), z10] = some (.bl (decide ((0 : Int) < (t : Nat)))) := qe_cmp (x := .int (t : Nat)) (y := .int 0) (qe_var rfl) (qe_cst rfl) rfl
    by_cases h0 : 0 < t
    · rw [decide_eq_true (by omega)] at cond
      obtain ⟨ps, g1, g2⟩ := dlast (by omega)
      have ad := after_deed (k := k + 6) (dvV_deed d1) g1 (by have := (dOk1 ps (List.mem_of_getElem? g1)).len; have := V.len.2; omega)
      rw [← g2] at ad
      refine (qx_iffT (ρ2 := X z10) cond ?_).trans rfl
      exact (qx_set rfl (qe_call (qes_cons (qe_var rfl) qes_nil) ad)).trans (by rw [qx_nil]; rfl)
    · rw [decide_eq_false (by omega)] at cond
      have e := nil1 (by omega)
      refine (qx_iff0 cond).trans ?_
      simp only [X, e]
  refine (beh _).trans ?_
  refine (qx_iff0 (qe_cmp (x := emDeed d) (y := emDeed d) ?_ (qe_var rfl) (ne_self dkD (by decide)))).trans ?_
  · rw [dcat]
    unfold emDeed
    rw [List.map_append]
    exact qe_fzadd (x := .lst (d1.map emParts)) (y := .lst (d2.map emParts)) (qe_var rfl) (qe_call (qes_cons (qe_var rfl) (qes_cons (qe_var rfl) (qes_cons (v := .lst ((ms.drop t).map emM)) (qe_sl (x := .lst (ms.map emM)) (qe_var rfl) (qo_some (i := (t : Nat)) (qe_var rfl)) qo_none (by rw [slA, cut_fromQ, ← List.map_drop])) qes_nil))) df2) (addL (by simp only [List.length_map, LIM]; omega))
  refine (qx_for (qi_rng2 (m := 1) (n := (c.ps.length : Nat)) (qe_cst rfl) (qe_len (x := .lst (c.ps.map emP)) (qe_ix (x := emPl c) (qe_var rfl) (qe_cst (v := .int 0) rfl) rfl) (by rw [lenL, List.length_map])) ?_) lp).trans ?_
  · have := V.len
    simp only [okR, LIM]
    first
      | (apply decide_eq_true; omega)
      | (simp; omega)
  rw [qx_nil]
theorem law_plain (ns : List Int) (hl : ns.length ≤ 63) : pf (k + 8) F_law [.ro (ns.map .int)] = some (.v (.bl true)) := by
  refine pf_at (d := c_law) (r := .ret (.bl true)) rfl rfl ?_ rfl
  let S : QV := .v (.ro (ns.map .int))
  show qx (pf (k + 7)) (pm (k + 7)) sub0 c_law.body [some S, none, none, none, none, none, none, none, none, none, none] = _
  obtain ⟨c, V, ep⟩ := chain_plan (k := k + 3) ns
  have ec := law_chain (k := k) V
  obtain ⟨c3, e3⟩ := cell_ex (k := k + 6) ns 3
  obtain ⟨c4, e4⟩ := cell_ex (k := k + 6) ns 4
  let I : Nat → QEnv → Prop := fun i ρ => ∃ z3 z4 z5 z6 z7 z8 z9 z10, ρ = [some S, some (.v (emPl c)), some (.v (emCh c)), z3, z4, z5, z6, z7, z8, z9, z10]
  let cells : List Int := [c3, c4] ++ (ns.take 8).drop 5
  obtain ⟨ρ', e, z3, z4, z5, z6, z7, z8, z9, z10, rfl⟩ := qfor_inv (asg := qt (pf (k + 7)) (pm (k + 7)) (.var 3)) (body := qx (pf (k + 7)) (pm (k + 7)) sub0 lB) (I := I) (cells.map .int) 0 [some S, some (.v (emPl c)), some (.v (emCh c)), none, none, none, none, none, none, none, none] (fun i x ρ hx hI => by
    obtain ⟨z3, z4, z5, z6, z7, z8, z9, z10, rfl⟩ := hI
    rw [List.getElem?_map] at hx
    obtain ⟨cell, _, rfl⟩ := Option.map_eq_some_iff.mp hx
    obtain ⟨y4, y5, y6, y7, y8, y9, y10, h⟩ := body_ok (k := k) V S cell z4 z5 z6 z7 z8 z9 z10
    exact ⟨_, by rw [qt]; rfl, _, h, _, _, _, _, _, _, _, _, rfl⟩) ⟨_, _, _, _, _, _, _, _, rfl⟩
  refine (qx_set rfl (v := emPl c) (qe_call (qes_cons (qe_var rfl) qes_nil) ep)).trans ?_
  refine (qx_set rfl (v := emCh c) (qe_call (qes_cons (qe_var rfl) qes_nil) ec)).trans ?_
  refine (qx_for (xs := cells.map .int) (qi_seq (v := .lst (cells.map .int)) ?_ rfl) e).trans ?_
  · show _ = some (PV.lst (([c3, c4] ++ (ns.take 8).drop 5).map .int))
    rw [List.map_append]
    exact qe_fzadd (x := .lst [.int c3, .int c4]) (y := .lst (((ns.take 8).drop 5).map .int)) (qe_lstD (qes_cons (qe_call (qes_cons (qe_var rfl) (qes_cons (qe_cst rfl) qes_nil)) e3) (qes_cons (qe_call (qes_cons (qe_var rfl) (qes_cons (qe_cst rfl) qes_nil)) e4) qes_nil)) (by simp [LIM])) (qe_sl (x := .ro (ns.map .int)) (qe_var rfl) (qo_some (i := (5 : Nat)) (qe_cst rfl)) (qo_some (i := (8 : Nat)) (qe_cst rfl)) (by rw [slA, cut_midQ, ← List.map_take, ← List.map_drop])) (addL (by simp only [List.length_map, List.length_drop, List.length_take, LIM, List.length_cons, List.length_nil]; omega))
  exact qx_ret (qe_cst rfl)
end K06
end
section
open PySem PySem.W PySem.Calls PyProof.Rows
theorem K06.answers : PM.Answers K06.defs 30 42 := fun ns hl => PM.answers_q (K06.law_plain (k := 22) ns hl)
theorem PySem.Challenge.cw_piecetold_k06_whole_runs_in_parts_holds : PySem.Challenge.rw_piecetold_k06_whole_runs_in_parts.Holds := by
  exact K06.holds_of K06.answers
end
