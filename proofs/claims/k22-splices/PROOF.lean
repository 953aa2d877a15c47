import PyProof.Rows.All
import PySem.Challenge.RW_piecetold_k22_splices
import HandS.ForMost
import HandS.ForExc
import HandS.Deep
import HandS.TupAny
import HandS.TupMul
import HandS.TupLe
import HandS.IsInst
import HandS.NoneIn
import HandS.Style
import HandS.Flow
import HandS.Conv
import HandS.Sort
import KE.KDictKeyed
import HandS.CallSlots
import HandS.Comp
import HandS.More
import HandS.WordsExc
import HandS.Defaults
import KE.KStateDown
import HandS.Ends
import HandS.Head0
import HandS.Head1
import HandS.Head2
import HandS.HeadEnd
import HandS.HeadHook1
import HandS.HeadHook2
set_option Elab.async false
set_option linter.all false
set_option maxRecDepth 100000
set_option maxHeartbeats 0
section
namespace PM
open PySem

inductive PV where
  | non | bl (b : Bool) | int (i : Int) | str (x : Str)
  | tup (xs : List PV) | lst (xs : List PV) | ro (xs : List PV) | obj (c : Nat) (ns : List Nat) (xs : List PV)
  | loc (l : Nat)

mutual
def PV.beq : PV → PV → Bool
  | .non, y => match y with | .non => true | _ => false
  | .bl a, y => match y with | .bl b => a == b | _ => false
  | .int a, y => match y with | .int b => decide (a = b) | _ => false
  | .str a, y => match y with | .str b => decide (a = b) | _ => false
  | .tup a, y => match y with | .tup b => PV.beqs a b | _ => false
  | .lst a, y => match y with | .lst b => PV.beqs a b | _ => false
  | .ro a, y => match y with | .ro b => PV.beqs a b | _ => false
  | .obj c n a, y => match y with | .obj d m b => decide (c = d) && decide (n = m) && PV.beqs a b | _ => false
  | .loc a, y => match y with | .loc b => decide (a = b) | _ => false
def PV.beqs : List PV → List PV → Bool
  | [], ys => match ys with | [] => true | _ :: _ => false
  | x :: xs, ys => match ys with | [] => false | y :: ys => PV.beq x y && PV.beqs xs ys
end
mutual
theorem PV.beq_self : ∀ x : PV, PV.beq x x = true
  | .non => rfl
  | .bl b => by cases b <;> rfl
  | .int a => by simp [PV.beq]
  | .str a => by simp [PV.beq]
  | .tup a => by simp [PV.beq, PV.beqs_self a]
  | .lst a => by simp [PV.beq, PV.beqs_self a]
  | .ro a => by simp [PV.beq, PV.beqs_self a]
  | .obj c n a => by simp [PV.beq, PV.beqs_self a]
  | .loc a => by simp [PV.beq]
theorem PV.beqs_self : ∀ xs : List PV, PV.beqs xs xs = true
  | [] => rfl
  | x :: xs => by simp [PV.beqs, PV.beq_self x, PV.beqs_self xs]
end
mutual
theorem PV.eq_of_beq : ∀ x y : PV, PV.beq x y = true → x = y
  | .non, y, h => by cases y <;> simp [PV.beq] at h <;> rfl
  | .bl a, y, h => by cases y <;> simp [PV.beq] at h <;> rw [h]
  | .int a, y, h => by cases y <;> simp [PV.beq] at h <;> rw [h]
  | .str a, y, h => by cases y <;> simp [PV.beq] at h <;> rw [h]
  | .tup a, y, h => by cases y <;> simp [PV.beq] at h <;> rw [PV.eq_of_beqs a _ h]
  | .lst a, y, h => by cases y <;> simp [PV.beq] at h <;> rw [PV.eq_of_beqs a _ h]
  | .ro a, y, h => by cases y <;> simp [PV.beq] at h <;> rw [PV.eq_of_beqs a _ h]
  | .obj c n a, y, h => by
    cases y <;> simp [PV.beq] at h
    rw [PV.eq_of_beqs a _ h.2, h.1.1, h.1.2]
  | .loc a, y, h => by cases y <;> simp [PV.beq] at h <;> rw [h]
theorem PV.eq_of_beqs : ∀ xs ys : List PV, PV.beqs xs ys = true → xs = ys
  | [], ys, h => by cases ys <;> simp [PV.beqs] at h <;> rfl
  | x :: xs, ys, h => by
    cases ys <;> simp [PV.beqs] at h
    rw [PV.eq_of_beq x _ h.1, PV.eq_of_beqs xs _ h.2]
end
instance : DecidableEq PV := fun a b => if h : PV.beq a b = true then isTrue (PV.eq_of_beq a b h) else isFalse fun e => h (e ▸ PV.beq_self a)

inductive MO where
  | lst (xs : List PV) | dic (kvs : List (PV × PV)) | dkn (kvs : List (PV × PV)) | ins (c : Nat) (fs : List (Nat × PV))
  deriving DecidableEq
abbrev Sto := List MO
inductive Res (α : Type) where
  | ok (a : α) (S : Sto) | exc (c : Nat) (S : Sto) | bad
abbrev Env := List (Option PV)

@[inline] def Res.bind {α β : Type} (m : Res α) (f : α → Sto → Res β) : Res β := match m with
  | .ok a S => f a S
  | .exc c S => .exc c S
  | .bad => .bad
theorem Res.bind_ok {α β : Type} (a : α) (S : Sto) (f : α → Sto → Res β) : (Res.ok a S).bind f = f a S := rfl
theorem Res.bind_exc {α β : Type} (c : Nat) (S : Sto) (f : α → Sto → Res β) : (Res.exc c S : Res α).bind f = .exc c S := rfl
theorem Res.bind_bad {α β : Type} (f : α → Sto → Res β) : (Res.bad : Res α).bind f = .bad := rfl
@[inline] def Res.need {α : Type} (b : Bool) (m : Res α) : Res α := if b = true then m else .bad
@[inline] def Res.opt {α β : Type} (o : Option α) (f : α → Res β) : Res β := match o with
  | some a => f a
  | none => .bad

def LIM : Nat := 16777216
theorem lim_eq : LIM = sizeLine := sizeLine_eq.symm

def trk (S : Sto) : PV → Option (List PV)
  | .lst xs => some xs
  | .loc l => match S[l]? with
    | some (.lst xs) => some xs
    | _ => none
  | _ => none
def lstOf (S : Sto) : PV → Option (List PV)
  | .lst xs => some xs
  | .ro xs => some xs
  | .loc l => match S[l]? with
    | some (.lst xs) => some xs
    | _ => none
  | _ => none
def seqOf (S : Sto) : PV → Option (List PV)
  | .tup xs => some xs
  | x => lstOf S x
def new (S : Sto) (o : MO) : Res PV := .ok (.loc S.length) (S ++ [o])

mutual
def toDw (g : Nat → Option PyData) : PV → Option PyData
  | .non => some .none
  | .bl b => some (.bool b)
  | .int i => some (.int i)
  | .str x => some (.str x)
  | .tup xs => (toDws g xs).map .tuple
  | .lst xs => (toDws g xs).map .list
  | .ro xs => (toDws g xs).map .list
  | .obj _ _ _ => none
  | .loc l => g l
def toDws (g : Nat → Option PyData) : List PV → Option (List PyData)
  | [] => some []
  | x :: xs => match toDw g x, toDws g xs with
    | some d, some ds => some (d :: ds)
    | _, _ => none
end
def toDL (S : Sto) : Nat → Nat → Option PyData
  | 0 => fun _ => none
  | k + 1 => fun l => match S[l]? with
    | some (.lst xs) => (toDws (toDL S k) xs).map .list
    | _ => none
def toD (S : Sto) (v : PV) : Option PyData := toDw (toDL S 6) v
def eqS (S : Sto) (v w : PV) : Option Bool := match toD S v, toD S w with
  | some d, some e => if SeqAt.shaped d = true ∧ SeqAt.shaped e = true then some (PyData.eqv d e) else none
  | _, _ => none

mutual
def sbst (g : Nat → Option PV) : PV → Option PV
  | .non => some .non
  | .bl b => some (.bl b)
  | .int i => some (.int i)
  | .str x => some (.str x)
  | .tup xs => (sbsts g xs).map .tup
  | .lst xs => (sbsts g xs).map .lst
  | .ro xs => (sbsts g xs).map .ro
  | .obj c n xs => (sbsts g xs).map (.obj c n)
  | .loc l => g l
def sbsts (g : Nat → Option PV) : List PV → Option (List PV)
  | [] => some []
  | x :: xs => match sbst g x, sbsts g xs with
    | some d, some ds => some (d :: ds)
    | _, _ => none
end
def frzL (n : Nat) (S : Sto) : Nat → Nat → Option PV
  | 0 => fun _ => none
  | k + 1 => fun l => if l < n then some (.loc l) else match S[l]? with
    | some (.lst xs) => (sbsts (frzL n S k) xs).map .lst
    | some (.ins c fs) => (sbsts (frzL n S k) (fs.map (·.2))).map (.obj c (fs.map (·.1)))
    | _ => none
def frz (n : Nat) (S : Sto) (v : PV) : Option PV := sbst (frzL n S 8) v
mutual
def pur : PV → Bool
  | .tup xs => purs xs
  | .lst xs => purs xs
  | .ro xs => purs xs
  | .obj _ _ xs => purs xs
  | .loc _ => false
  | _ => true
def purs : List PV → Bool
  | [] => true
  | x :: xs => pur x && purs xs
end
mutual
theorem sbst_pur (g : Nat → Option PV) : ∀ v : PV, pur v = true → sbst g v = some v
  | .non, _ => rfl
  | .bl _, _ => rfl
  | .int _, _ => rfl
  | .str _, _ => rfl
  | .tup xs, h => by simp only [pur] at h; simp [sbst, sbsts_pur g xs h]
  | .lst xs, h => by simp only [pur] at h; simp [sbst, sbsts_pur g xs h]
  | .ro xs, h => by simp only [pur] at h; simp [sbst, sbsts_pur g xs h]
  | .obj c n xs, h => by simp only [pur] at h; simp [sbst, sbsts_pur g xs h]
  | .loc _, h => by simp [pur] at h
theorem sbsts_pur (g : Nat → Option PV) : ∀ xs : List PV, purs xs = true → sbsts g xs = some xs
  | [], _ => rfl
  | x :: xs, h => by
    simp only [purs, Bool.and_eq_true] at h
    simp [sbsts, sbst_pur g x h.1, sbsts_pur g xs h.2]
end

inductive BOp where | add | sub | mul | fdiv | mod
  deriving DecidableEq
inductive COp where | eq | ne | lt | le | gt | ge | isin | nin | is | isnt
  deriving DecidableEq
def addV (S : Sto) (x y : PV) : Res PV := match x, y with
  | .int i, .int j => .ok (.int (i + j)) S
  | .str a, .str b => .need (decide (a.length + b.length ≤ LIM)) (.ok (.str (a ++ b)) S)
  | .tup a, .tup b => .need (decide (a.length + b.length ≤ LIM)) (.ok (.tup (a ++ b)) S)
  | x, y => .opt (trk S x) fun a => .opt (trk S y) fun b => .need (decide (a.length + b.length ≤ LIM)) (new S (.lst (a ++ b)))
def subV (S : Sto) (x y : PV) : Res PV := match x, y with
  | .int i, .int j => .ok (.int (i - j)) S
  | _, _ => .bad
def small (i : Int) : Bool := decide (-18446744073709551616 < i) && decide (i < 18446744073709551616)
def mulV (S : Sto) (x y : PV) : Res PV := match x, y with
  | .int i, .int j => .need (small i || small j) (.ok (.int (i * j)) S)
  | .tup a, .int k => .need (!a.isEmpty && decide (2 ≤ k) && decide (k ≤ 1000) && decide (a.length ≤ 1000)) (.ok (.tup (List.replicate k.toNat a).flatten) S)
  | x, .int k => .opt (trk S x) fun a => .need (decide (-1000000 ≤ k) && decide (k ≤ 1000000) && decide (a.length * k.toNat ≤ LIM)) (new S (.lst (List.replicate k.toNat a).flatten))
  | _, _ => .bad
def fdivV (S : Sto) (x y : PV) : Res PV := match x, y with
  | .int i, .int j => .need (decide (0 < j) && decide (j < 1073741824)) (.ok (.int (i / j)) S)
  | _, _ => .bad
def modV (S : Sto) (x y : PV) : Res PV := match x, y with
  | .int i, .int j => .need (decide (0 < j)) (.ok (.int (i % j)) S)
  | _, _ => .bad
def bopV : BOp → Sto → PV → PV → Res PV
  | .add => addV | .sub => subV | .mul => mulV | .fdiv => fdivV | .mod => modV

def ordV (p : Int → Int → Bool) (x y : PV) : Option Bool := match x, y with
  | .int i, .int j => some (p i j)
  | _, _ => none
def anyEq (S : Sto) (x : PV) (ys : List PV) : Option Bool := match toD S x, toDws (toDL S 6) ys with
  | some d, some ds => if SeqAt.shaped d = true ∧ SeqAt.shaped (.list ds) = true then some (ds.any fun z => PyData.eqv z d) else none
  | _, _ => none
def keyF : PV → Option L2.Key
  | .int i => some (.inl i)
  | .str x => some (.inr x)
  | _ => none
mutual
def keyN : PV → Option NestedKey
  | .non => some .none
  | .bl b => some (.num (if b then 1 else 0))
  | .int i => some (.num i)
  | .str x => some (.text x)
  | .tup xs => (keyNs xs).map .tup
  | _ => none
def keyNs : List PV → Option (List NestedKey)
  | [] => some []
  | x :: xs => match keyN x, keyNs xs with
    | some d, some ds => some (d :: ds)
    | _, _ => none
end
def keyT (v : PV) : Option NestedKey := match v with
  | .tup xs => match (keyNs xs).map NestedKey.tup with
    | some k => if k.depth ≤ 8 then some k else none
    | none => none
  | _ => none
def findF (kvs : List (PV × PV)) (k : L2.Key) : Option PV := (kvs.find? fun p => decide (keyF p.1 = some k)).map (·.2)
def findT (kvs : List (PV × PV)) (k : NestedKey) : Option PV := (kvs.find? fun p => decide (keyT p.1 = some k)).map (·.2)
def dfind (S : Sto) (l : Nat) (k : PV) : Option (Option PV) := match S[l]? with
  | some (.dic kvs) => (keyF k).map (findF kvs)
  | some (.dkn kvs) => (keyT k).map (findT kvs)
  | _ => none
def inV (S : Sto) (x y : PV) : Option Bool := match y with
  | .str z => match x with
    | .str t => match t.cps.toList with
      | [c] => some (decide (c ∈ z.cps.toList))
      | _ => none
    | _ => none
  | .tup ys => anyEq S x ys
  | .lst ys => anyEq S x ys
  | .ro ys => anyEq S x ys
  | .loc l => match S[l]? with
    | some (.lst ys) => anyEq S x ys
    | _ => (dfind S l x).map (·.isSome)
  | _ => none
def isV (x y : PV) : Option Bool := match x, y with
  | .bl a, .bl b => some (decide (a = b))
  | x, .non => some (decide (x = .non))
  | _, _ => none
def cmpV : COp → Sto → PV → PV → Option Bool
  | .eq => eqS
  | .ne => fun S x y => (eqS S x y).map (!·)
  | .lt => fun _ => ordV fun i j => decide (i < j)
  | .le => fun _ => ordV fun i j => decide (i ≤ j)
  | .gt => fun _ => ordV fun i j => decide (j < i)
  | .ge => fun _ => ordV fun i j => decide (j ≤ i)
  | .isin => inV
  | .nin => fun S x y => (inV S x y).map (!·)
  | .is => fun _ => isV
  | .isnt => fun _ x y => (isV x y).map (!·)
def truth (S : Sto) : PV → Option Bool
  | .non => some false
  | .bl b => some b
  | .int i => some (i != 0)
  | .str x => if x.length ≤ LIM then some (x.length != 0) else none
  | .tup xs => some (!xs.isEmpty)
  | .lst xs => some (!xs.isEmpty)
  | .ro xs => some (!xs.isEmpty)
  | .loc l => match S[l]? with
    | some (.lst xs) => some (!xs.isEmpty)
    | _ => none
  | .obj _ _ _ => none
def ixV (S : Sto) (x i : PV) : Option PV := match x, i with
  | .str z, .int i => if z.length ≤ LIM then (L2.atI z.cps.toList i).map fun c => .str ⟨#[c]⟩ else none
  | .loc l, i => match S[l]?, i with
    | some (.lst xs), .int i => L2.atI xs i
    | _, i => (dfind S l i).bind id
  | x, .int i => (seqOf S x).bind fun xs => L2.atI xs i
  | _, _ => none
def cutP (xs : List PV) (lo hi : Option Int) : List PV := (xs.drop (HT.sIx xs.length 0 lo)).take (HT.sIx xs.length xs.length hi - HT.sIx xs.length 0 lo)
def slV (S : Sto) (x : PV) (lo hi : Option Int) : Res PV := match x with
  | .tup xs => .ok (.tup (cutP xs lo hi)) S
  | x => .opt (lstOf S x) fun xs => new S (.lst (cutP xs lo hi))
def revV (S : Sto) (x : PV) : Res PV := .opt (lstOf S x) fun xs => new S (.lst xs.reverse)
def fldV (S : Sto) (x : PV) (f : Nat) : Option PV := match x with
  | .obj _ ns xs => (ns.zip xs).lookup f
  | .loc l => match S[l]? with
    | some (.ins _ fs) => fs.lookup f
    | _ => none
  | _ => none
inductive KN where | int | bool | str | list | tuple | cls (c : Nat)
  deriving DecidableEq
end PM
end
section
namespace PM
open PySem

inductive BI where
  | len | int | list | tuple | sorted | min2 | min1 | max1 | sum | str | repr | listR1 | tupR1 | tupR2 | bool
  deriving DecidableEq
inductive LM where
  | append | pop0 | popk | popd | get1 | get2 | index
  deriving DecidableEq

mutual
inductive CE where
  | cst (v : PV) | var (i : Nat) | glo (x : Str) (v : PV) | pow (i j : Nat)
  | bop (o : BOp) (a b : CE) | cmp (o : COp) (a b : CE) | cmp2 (o o' : COp) (a b c : CE)
  | and (a b : CE) | or (a b : CE) | not (a : CE) | neg (a : CE) | ife (t a b : CE)
  | tup (es : CEs) | lst (es : CEs) | dnew (n : Bool)
  | ix (a i : CE) | sl (a : CE) (lo hi : CEo) | rev (a : CE)
  | fld (a : CE) (f : Nat)
  | call (f : Nat) (es : CEs) | make (c f : Nat) (es : CEs) (dv : List PV) | meth (c f : Nat) (o : CE) (es : CEs)
  | bi (b : BI) (es : CEs) | isi (e : CE) (ks : List KN) | lm (m : LM) (o : CE) (es : CEs)
  | comp (elt : CE) (own : List Nat) (tg : CT) (it : CI) (cond : CEo)
  | gen (all : Bool) (elt : CE) (own : List Nat) (tg : CT) (it : CI)
  | dcomp (nest : Bool) (k v : CE) (own : List Nat) (tg : CT) (it : CI)
  | dcomp2 (k v : CE) (own own2 : List Nat) (tg : CT) (it : CI) (tg2 : CT) (it2 : CI)
  | fz (e : CE)
inductive CEs where | nil | cons (e : CE) (es : CEs)
inductive CEo where | none | some (e : CE)
inductive CI where | seq (e : CE) | rng1 (e : CE) | rng2 (a b : CE) | enum (e : CE) | zip (a b : CE)
inductive CT where | var (i : Nat) | fld (o : CE) (f : Nat) | sub (o i : CE) | tup (ts : CTs)
inductive CTs where | nil | cons (t : CT) (ts : CTs)
end

inductive CSs where
  | nil | asg (t : CT) (e : CE) (r : CSs) | par (is : List Nat) (es : CEs) (r : CSs) | aug (i : Nat) (o : BOp) (e : CE) (r : CSs) | ex (e : CE) (r : CSs)
  | ret (e : CE) | retN | iff (c : CE) (a b r : CSs) | for (t : CT) (it : CI) (body r : CSs) | wh (n : Nat) (c : CE) (body r : CSs)
  | raise (c : Nat) | try1 (body : CSs) (c : Nat) (n : Option Nat) (suite r : CSs) | pass (r : CSs)

inductive RS where
  | nx (ρ : Env) (S : Sto) | ret (v : PV) (S : Sto) | exc (c : Nat) (ρ : Env) (S : Sto) | bad
def RS.seq (q : RS) (f : Env → Sto → RS) : RS := match q with
  | .nx ρ S => f ρ S
  | r => r
def RS.fst {β : Type} (ρ : Env) (m : Res β) (f : β → Sto → RS) : RS := match m with
  | .ok v S => f v S
  | .exc c S => .exc c ρ S
  | .bad => .bad
abbrev RT := Option (Env × Sto)

structure Cf where
  fn : Nat → List PV → Sto → Res PV
  sub : Nat → Nat → Bool

@[inline] def Res.bnd {α β : Type} (m : Res α) (f : α → Sto → Res β) : Res β := match m with
  | .ok a S => f a S
  | _ => .bad
def intsV : List PV → Option (List Int)
  | [] => some []
  | x :: xs => match x, intsV xs with
    | .int i, some is => some (i :: is)
    | _, _ => none
def insI (i : Int) : List Int → List Int
  | [] => [i]
  | j :: r => if i ≤ j then i :: j :: r else j :: insI i r
def sortI : List Int → List Int
  | [] => []
  | i :: r => insI i (sortI r)
def minI : Int → List Int → Int
  | m, [] => m
  | m, j :: r => minI (if j < m then j else m) r
def maxI : Int → List Int → Int
  | m, [] => m
  | m, j :: r => maxI (if m < j then j else m) r
def keysOf (S : Sto) : PV → Option (List PV)
  | .loc l => match S[l]? with
    | some (.dic kvs) => some (kvs.map (·.1))
    | some (.dkn kvs) => some (kvs.map (·.1))
    | _ => none
  | _ => none
def rngL (lo hi : Int) : List PV := (List.range (hi - lo).toNat).map fun i => .int (lo + (i : Nat))
def okR (lo hi : Int) : Bool := decide (-1000000000 ≤ lo) && decide (lo ≤ 1000000000) && decide (-1000000000 ≤ hi) && decide (hi ≤ 1000000000) && decide ((hi - lo).toNat ≤ LIM)
def lenV (S : Sto) : PV → Option Nat
  | .str x => if x.length ≤ LIM then some x.length else none
  | .loc l => match S[l]? with
    | some (.lst xs) => some xs.length
    | some (.dic kvs) => some kvs.length
    | _ => none
  | x => (seqOf S x).map (·.length)
def b1 (f : PV → Res PV) : List PV → Res PV
  | [x] => f x
  | _ => .bad
def b2 (f : PV → PV → Res PV) : List PV → Res PV
  | [x, y] => f x y
  | _ => .bad
def intB (S : Sto) : PV → Res PV
  | .int i => .ok (.int i) S
  | .bl k => .ok (.int (if k then 1 else 0)) S
  | _ => .bad
def listB (S : Sto) (x : PV) : Res PV := match keysOf S x with
  | some ks => new S (.lst ks)
  | none => .opt (seqOf S x) fun xs => new S (.lst xs)
def tupB (S : Sto) (x : PV) : Res PV := match x with
  | .tup xs => .ok (.tup xs) S
  | x => .opt (lstOf S x) fun xs => .ok (.tup xs) S
def sortB (S : Sto) (x : PV) : Res PV := match keysOf S x with
  | some ks => .opt (intsV ks) fun is => .need (decide (is.length < 64)) (new S (.lst ((sortI is).map .int)))
  | none => .opt ((lstOf S x).bind intsV) fun is => .need (decide (is.length < 64)) (new S (.lst ((sortI is).map .int)))
def min2B (S : Sto) (x y : PV) : Res PV := match x, y with
  | .int i, .int j => .ok (.int (if j < i then j else i)) S
  | _, _ => .bad
def sumB (S : Sto) (x : PV) : Res PV := .opt ((lstOf S x).bind intsV) fun is => .ok (.int is.sum) S
def strB (S : Sto) (x : PV) : Res PV := match x with
  | .int i => .need (decide (i.natAbs < 1000000000)) (.ok (.str (toString i)) S)
  | _ => .bad
def listR1B (S : Sto) (x : PV) : Res PV := match x with
  | .int n => .need (okR 0 n) (new S (.lst (rngL 0 n)))
  | _ => .bad
def tupR1B (S : Sto) (x : PV) : Res PV := match x with
  | .int n => .need (okR 0 n) (.ok (.tup (rngL 0 n)) S)
  | _ => .bad
def tupR2B (S : Sto) (x y : PV) : Res PV := match x, y with
  | .int m, .int n => .need (okR m n) (.ok (.tup (rngL m n)) S)
  | _, _ => .bad
def biV (b : BI) (S : Sto) : List PV → Res PV := match b with
  | .len => b1 fun x => .opt (lenV S x) fun n => .ok (.int n) S
  | .int => b1 (intB S)
  | .list => b1 (listB S)
  | .tuple => b1 (tupB S)
  | .sorted => b1 (sortB S)
  | .min2 => b2 (min2B S)
  | .sum => b1 (sumB S)
  | .str => b1 (strB S)
  | .listR1 => b1 (listR1B S)
  | .tupR1 => b1 (tupR1B S)
  | .tupR2 => b2 (tupR2B S)
  | _ => fun _ => .bad
def isiV (S : Sto) (cf : Cf) (x : PV) (ks : List KN) : Option Bool := match x with
  | .non => some false
  | .bl _ => some (ks.contains .bool || ks.contains .int)
  | .int _ => some (ks.contains .int)
  | .str _ => some (ks.contains .str)
  | .tup _ => some (ks.contains .tuple)
  | .lst _ => some (ks.contains .list)
  | .ro _ => some (ks.contains .list)
  | .obj c _ _ => some (ks.contains (.cls c))
  | .loc l => match S[l]? with
    | some (.lst _) => some (ks.contains .list)
    | some (.ins c _) => some (ks.contains (.cls c))
    | _ => none
def setF (kvs : List (PV × PV)) (k : PV) (kk : L2.Key) (v : PV) : List (PV × PV) :=
  if kvs.any fun p => decide (keyF p.1 = some kk) then kvs.map fun p => if keyF p.1 = some kk then (p.1, v) else p else kvs ++ [(k, v)]
def setT (kvs : List (PV × PV)) (k : PV) (kk : NestedKey) (v : PV) : List (PV × PV) :=
  if kvs.any fun p => decide (keyT p.1 = some kk) then kvs.map fun p => if keyT p.1 = some kk then (p.1, v) else p else kvs ++ [(k, v)]
def put (S : Sto) (l : Nat) (o : MO) (v : PV) : Res PV := .ok v (S.set l o)
def setV (S : Sto) (o i v : PV) : Option Sto := match o with
  | .loc l => match S[l]?, i with
    | some (.lst xs), .int k => (L2.ixN xs.length k).map fun j => S.set l (.lst (xs.set j v))
    | some (.dic kvs), i => (keyF i).bind fun kk => if kvs.length < LIM then some (S.set l (.dic (setF kvs i kk v))) else none
    | some (.dkn kvs), i => (keyT i).bind fun kk => if kvs.length < LIM then some (S.set l (.dkn (setT kvs i kk v))) else none
    | _, _ => none
  | _ => none
def putP (f : Nat) (v : PV) : List (Nat × PV) → List (Nat × PV)
  | [] => [(f, v)]
  | (g, w) :: r => if f = g then (g, v) :: r else (g, w) :: putP f v r
def setFld (S : Sto) (o : PV) (f : Nat) (v : PV) : Option Sto := match o with
  | .loc l => match S[l]? with
    | some (.ins c fs) => if fs.length < 1000 then some (S.set l (.ins c (putP f v fs))) else none
    | _ => none
  | _ => none
def lmK (m : LM) (S : Sto) (o : PV) : Bool := match m with
  | .index => match o with
    | .tup _ => true
    | _ => false
  | .append | .pop0 => match o with
    | .loc l => match S[l]? with
      | some (.lst _) => true
      | _ => false
    | _ => false
  | _ => match o with
    | .loc l => match S[l]? with
      | some (.dic _) => true
      | some (.dkn _) => true
      | _ => false
    | _ => false
def lmV (m : LM) (S : Sto) (o : PV) (vs : List PV) : Res PV := match m, o, vs with
  | .append, .loc l, [v] => match S[l]? with
    | some (.lst xs) => .need (decide (xs.length < LIM)) (put S l (.lst (xs ++ [v])) .non)
    | _ => .bad
  | .pop0, .loc l, [] => match S[l]? with
    | some (.lst xs) => .opt xs[xs.length - 1]? fun y => put S l (.lst xs.dropLast) y
    | _ => .bad
  | .get1, .loc l, [k] => .opt (dfind S l k) fun r => .ok (r.getD .non) S
  | .get2, .loc l, [k, d] => .opt (dfind S l k) fun r => .ok (r.getD d) S
  | .popk, .loc l, [k] => match S[l]? with
    | some (.dkn kvs) => .opt (keyT k) fun kk => .opt (findT kvs kk) fun v => put S l (.dkn (kvs.filter fun p => decide (keyT p.1 ≠ some kk))) v
    | _ => .bad
  | .popd, .loc l, [k, d] => match S[l]? with
    | some (.dkn kvs) => .opt (keyT k) fun kk => match findT kvs kk with
      | some v => put S l (.dkn (kvs.filter fun p => decide (keyT p.1 ≠ some kk))) v
      | none => .ok d S
    | _ => .bad
  | .index, .tup xs, [.str x] => .opt (xs.findIdx? fun y => decide (y = .str x)) fun j => .need (xs.all fun y => match y with | .str _ => true | _ => false) (.ok (.int j) S)
  | .index, .tup xs, [.int x] => .opt (xs.findIdx? fun y => decide (y = .int x)) fun j => .need (xs.all fun y => match y with | .int _ => true | _ => false) (.ok (.int j) S)
  | _, _, _ => .bad
def fzR (S : Sto) : Res PV → Res PV
  | .ok v S' => if S'.take S.length = S then .opt (frz S.length S' v) fun t => .ok t S else .bad
  | .exc c S' => if S'.take S.length = S then .exc c S else .exc c S'
  | .bad => .bad
def wipe (ρ : Env) : List Nat → Env
  | [] => ρ
  | v :: vs => (wipe ρ vs).set v none
def compL (l0 : Nat) (same : Sto → Bool) (asg : PV → Sto → RT) (cond : Env → Sto → Res Bool) (elt : Env → Sto → Res PV) : List PV → Sto → Res PV
  | [], S => .need (same S) (.ok (.loc l0) S)
  | x :: xs, S => .need (same S) (match asg x S with
    | some (ρ, S0) => (cond ρ S0).bnd fun b S1 => if b = true then (elt ρ S1).bnd fun y S2 => match S2[l0]? with
        | some (.lst acc) => .need (decide (acc.length < LIM)) (compL l0 same asg cond elt xs (S2.set l0 (.lst (acc ++ [y]))))
        | _ => .bad
      else compL l0 same asg cond elt xs S1
    | none => .bad)
def genL (k : Bool) (same : Sto → Bool) (asg : PV → Sto → RT) (elt : Env → Sto → Res PV) : List PV → Sto → Res Bool
  | [], S => .need (same S) (.ok k S)
  | x :: xs, S => .need (same S) (match asg x S with
    | some (ρ, S0) => (elt ρ S0).bnd fun y S1 => .opt (truth S1 y) fun b => if b = k then genL k same asg elt xs S1 else .ok (!k) S1
    | none => .bad)
def dcL (same : Sto → Bool) (asg : PV → Sto → RT) (key val : Env → Sto → Res PV) (ins : List (PV × PV) → PV → PV → Option (List (PV × PV))) : List PV → List (PV × PV) → Sto → Res (List (PV × PV))
  | [], acc, S => .need (same S) (.ok acc S)
  | x :: xs, acc, S => .need (same S) (match asg x S with
    | some (ρ, S0) => (key ρ S0).bnd fun k S1 => (val ρ S1).bnd fun v S2 => .opt (ins acc k v) fun acc' => dcL same asg key val ins xs acc' S2
    | none => .bad)
def forL (same : Sto → Bool) (asg : PV → Env → Sto → RT) (body : Env → Sto → RS) : List PV → Env → Sto → RS
  | [], ρ, S => if same S = true then .nx ρ S else .bad
  | x :: xs, ρ, S => if same S = true then (match asg x ρ S with
    | some (ρ', S') => match body ρ' S' with
      | .nx ρ2 S2 => forL same asg body xs ρ2 S2
      | r => r
    | none => .bad) else .bad
def whL (c : Env → Sto → Res Bool) (body : Env → Sto → RS) : Nat → Env → Sto → RS
  | 0, _, _ => .bad
  | n + 1, ρ, S => match c ρ S with
    | .ok true S' => match body ρ S' with
      | .nx ρ2 S2 => whL c body n ρ2 S2
      | r => r
    | .ok false S' => .nx ρ S'
    | .exc x S' => .exc x ρ S'
    | .bad => .bad
def insF (acc : List (PV × PV)) (k v : PV) : Option (List (PV × PV)) := (keyF k).map fun kk => setF acc k kk v
def insT (acc : List (PV × PV)) (k v : PV) : Option (List (PV × PV)) := (keyT k).map fun kk => setT acc k kk v
structure Itm where
  xs : List PV
  same : Sto → Bool
def seqI (S : Sto) (v : PV) : Option Itm := match keysOf S v with
  | some _ => none
  | none => (seqOf S v).map fun xs => ⟨xs, fun S' => decide (seqOf S' v = some xs)⟩

def augV (o : BOp) (S : Sto) (x y : PV) : Res PV := match x, y with
  | .int _, .int _ => bopV o S x y
  | _, _ => .bad
def par2 : List Nat → List PV → Env → Option Env
  | [], [], ρ => some ρ
  | i :: is, v :: vs, ρ => par2 is vs (ρ.set i (some v))
  | _, _, _ => none
section
variable (cf : Cf)
mutual
def ev : CE → Env → Sto → Res PV
  | .cst v => fun _ S => .ok v S
  | .var i => fun ρ S => match ρ[i]? with
    | some (some v) => .ok v S
    | _ => .bad
  | .glo _ v => fun _ S => .ok v S
  | .pow i j => fun _ S => .ok (.int ((i : Int) ^ j)) S
  | .bop o a b => fun ρ S => (ev a ρ S).bind fun x S1 => (ev b ρ S1).bind fun y S2 => bopV o S2 x y
  | .cmp o a b => fun ρ S => (ev a ρ S).bind fun x S1 => (ev b ρ S1).bind fun y S2 => .opt (cmpV o S2 x y) fun k => .ok (.bl k) S2
  | .cmp2 o o' a b c => fun ρ S => (ev a ρ S).bind fun x S1 => (ev b ρ S1).bind fun y S2 => .opt (cmpV o S2 x y) fun k =>
      if k = true then (ev c ρ S2).bind fun z S3 => .opt (cmpV o' S3 y z) fun k' => .ok (.bl k') S3 else .ok (.bl false) S2
  | .and a b => fun ρ S => (ev a ρ S).bind fun x S1 => match x with
    | .bl true => ev b ρ S1
    | .bl false => .ok (.bl false) S1
    | _ => .bad
  | .or a b => fun ρ S => (ev a ρ S).bind fun x S1 => match x with
    | .bl false => ev b ρ S1
    | .bl true => .ok (.bl true) S1
    | _ => .bad
  | .not a => fun ρ S => (ev a ρ S).bind fun x S1 => .opt (truth S1 x) fun k => .ok (.bl (!k)) S1
  | .neg a => fun ρ S => (ev a ρ S).bind fun x S1 => match x with
    | .int i => .ok (.int (-i)) S1
    | _ => .bad
  | .ife t a b => fun ρ S => (ev t ρ S).bind fun x S1 => .opt (truth S1 x) fun k => if k = true then ev a ρ S1 else ev b ρ S1
  | .tup es => fun ρ S => (evs es ρ S).bind fun vs S1 => .need (decide (vs.length ≤ LIM)) (.ok (.tup vs) S1)
  | .lst es => fun ρ S => (evs es ρ S).bind fun vs S1 => .need (decide (vs.length ≤ LIM)) (new S1 (.lst vs))
  | .dnew n => fun _ S => if n = true then new S (.dkn []) else new S (.dic [])
  | .ix a i => fun ρ S => (ev a ρ S).bind fun x S1 => (ev i ρ S1).bind fun y S2 => .opt (ixV S2 x y) fun v => .ok v S2
  | .sl a lo hi => fun ρ S => (ev a ρ S).bind fun x S1 => (evo lo ρ S1).bind fun l S2 => (evo hi ρ S2).bind fun h S3 => slV S3 x l h
  | .rev a => fun ρ S => (ev a ρ S).bind fun x S1 => revV S1 x
  | .fld a f => fun ρ S => (ev a ρ S).bind fun x S1 => .opt (fldV S1 x f) fun v => .ok v S1
  | .call f es => fun ρ S => (evs es ρ S).bind fun vs S1 => cf.fn f vs S1
  | .make c f es dv => fun ρ S => (evs es ρ S).bind fun vs S1 => (cf.fn f (.loc S1.length :: (vs ++ dv)) (S1 ++ [.ins c []])).bind fun r S2 => .need (decide (r = .non)) (.ok (.loc S1.length) S2)
  | .meth c f o es => fun ρ S => (ev o ρ S).bind fun x S1 => match x with
    | .loc l => match S1[l]? with
      | some (.ins c' _) => .need (decide (c = c')) ((evs es ρ S1).bind fun vs S2 => cf.fn f (x :: vs) S2)
      | _ => .bad
    | _ => .bad
  | .bi b es => fun ρ S => (evs es ρ S).bind fun vs S1 => biV b S1 vs
  | .isi e ks => fun ρ S => (ev e ρ S).bind fun x S1 => .opt (isiV S1 cf x ks) fun k => .ok (.bl k) S1
  | .lm m o es => fun ρ S => (ev o ρ S).bind fun x S1 => .need (lmK m S1 x) ((evs es ρ S1).bind fun vs S2 => lmV m S2 x vs)
  | .comp elt own tg it cond => fun ρ S => (evi it ρ S).bind fun J S1 => compL S1.length J.same (fun x S => evt tg x (wipe ρ own) S) (fun ρ S => evb cond ρ S) (fun ρ S => ev elt ρ S) J.xs (S1 ++ [.lst []])
  | .gen k elt own tg it => fun ρ S => (evi it ρ S).bind fun J S1 => (genL k J.same (fun x S => evt tg x (wipe ρ own) S) (fun ρ S => ev elt ρ S) J.xs S1).bnd fun b S2 => .ok (.bl b) S2
  | .dcomp n k v own tg it => fun ρ S => (evi it ρ S).bind fun J S1 => (dcL J.same (fun x S => evt tg x (wipe ρ own) S) (fun ρ S => ev k ρ S) (fun ρ S => ev v ρ S) (if n = true then insT else insF) J.xs [] S1).bnd fun kvs S2 => new S2 (if n = true then .dkn kvs else .dic kvs)
  | .dcomp2 k v own own2 tg it tg2 it2 => fun _ _ => .bad
  | .fz e => fun ρ S => fzR S (ev e ρ S)
def evs : CEs → Env → Sto → Res (List PV)
  | .nil => fun _ S => .ok [] S
  | .cons e es => fun ρ S => (ev e ρ S).bind fun v S1 => (evs es ρ S1).bind fun vs S2 => .ok (v :: vs) S2
def evo : CEo → Env → Sto → Res (Option Int)
  | .none => fun _ S => .ok none S
  | .some e => fun ρ S => (ev e ρ S).bind fun v S1 => match v with
    | .int i => .ok (some i) S1
    | _ => .bad
def evb : CEo → Env → Sto → Res Bool
  | .none => fun _ S => .ok true S
  | .some e => fun ρ S => (ev e ρ S).bind fun v S1 => .opt (truth S1 v) fun k => .ok k S1
def evi : CI → Env → Sto → Res Itm
  | .seq e => fun ρ S => (ev e ρ S).bind fun v S1 => .opt (seqI S1 v) fun J => .ok J S1
  | .rng1 e => fun ρ S => (ev e ρ S).bind fun v S1 => match v with
    | .int n => .need (okR 0 n) (.ok ⟨rngL 0 n, fun _ => true⟩ S1)
    | _ => .bad
  | .rng2 a b => fun ρ S => (ev a ρ S).bind fun v S1 => (ev b ρ S1).bind fun u S2 => match v, u with
    | .int m, .int n => .need (okR m n) (.ok ⟨rngL m n, fun _ => true⟩ S2)
    | _, _ => .bad
  | .enum e => fun ρ S => (ev e ρ S).bind fun v S1 => .opt (seqOf S1 v) fun xs => .ok ⟨xs.zipIdx.map fun p => .tup [.int p.2, p.1], fun S' => decide (seqOf S' v = some xs)⟩ S1
  | .zip a b => fun ρ S => (ev a ρ S).bind fun v S1 => (ev b ρ S1).bind fun u S2 => .opt (seqOf S2 v) fun xs => .opt (seqOf S2 u) fun ys =>
      .ok ⟨(xs.zip ys).map fun p => .tup [p.1, p.2], fun S' => decide (seqOf S' v = some xs) && decide (seqOf S' u = some ys)⟩ S2
def evt : CT → PV → Env → Sto → RT
  | .var i => fun v ρ S => some (ρ.set i (some v), S)
  | .fld o f => fun v ρ S => match ev o ρ S with
    | .ok x S1 => (setFld S1 x f v).map fun S2 => (ρ, S2)
    | _ => none
  | .sub o i => fun v ρ S => match ev o ρ S with
    | .ok x S1 => match ev i ρ S1 with
      | .ok y S2 => (setV S2 x y v).map fun S3 => (ρ, S3)
      | _ => none
    | _ => none
  | .tup ts => fun v ρ S => match seqOf S v with
    | some vs => evts ts vs ρ S
    | none => none
def evts : CTs → List PV → Env → Sto → RT
  | .nil => fun vs ρ S => match vs with
    | [] => some (ρ, S)
    | _ :: _ => none
  | .cons t ts => fun vs ρ S => match vs with
    | [] => none
    | v :: r => match evt t v ρ S with
      | some (ρ', S') => evts ts r ρ' S'
      | none => none
end
def evB (e : CE) : Env → Sto → Res Bool := fun ρ S => (ev cf e ρ S).bind fun v S1 => .opt (truth S1 v) fun k => .ok k S1
def ex : CSs → Env → Sto → RS
  | .nil => fun ρ S => .nx ρ S
  | .pass r => fun ρ S => ex r ρ S
  | .asg t e r => fun ρ S => RS.fst ρ (ev cf e ρ S) fun v S1 => match evt cf t v ρ S1 with
    | some (ρ', S2) => ex r ρ' S2
    | none => .bad
  | .par is es r => fun ρ S => RS.fst ρ (evs cf es ρ S) fun vs S1 => match par2 is vs ρ with
    | some ρ' => ex r ρ' S1
    | none => .bad
  | .aug i o e r => fun ρ S => match ρ[i]? with
    | some (some x) => RS.fst ρ ((ev cf e ρ S).bind fun y S1 => augV o S1 x y) fun z S2 => ex r (ρ.set i (some z)) S2
    | _ => .bad
  | .ex e r => fun ρ S => RS.fst ρ (ev cf e ρ S) fun _ S1 => ex r ρ S1
  | .ret e => fun ρ S => RS.fst ρ (ev cf e ρ S) fun v S1 => .ret v S1
  | .retN => fun _ S => .ret .non S
  | .iff c a b r => fun ρ S => RS.fst ρ (evB cf c ρ S) fun k S1 => (if k = true then ex a ρ S1 else ex b ρ S1).seq (ex r)
  | .for t it body r => fun ρ S => RS.fst ρ (evi cf it ρ S) fun J S1 => (forL J.same (evt cf t) (ex body) J.xs ρ S1).seq (ex r)
  | .wh n c body r => fun ρ S => (whL (evB cf c) (ex body) n ρ S).seq (ex r)
  | .raise c => fun ρ S => .exc c ρ S
  | .try1 body c n suite r => fun ρ S => match ex body ρ S with
    | .exc x ρ1 S1 => if cf.sub x c = true then (match ex suite (match n with | some i => ρ1.set i none | none => ρ1) S1 with
        | .nx ρ2 S2 => ex r (match n with | some i => ρ2.set i none | none => ρ2) S2
        | q => q) else .exc x ρ1 S1
    | .nx ρ2 S2 => ex r ρ2 S2
    | q => q
end
structure Fn where
  n : Nat
  np : Nat
  body : CSs
def startE (n : Nat) (vs : List PV) : Env := vs.map some ++ List.replicate (n - vs.length) none
def runF (cf : Cf) (f : Fn) (vs : List PV) (S : Sto) : Res PV := .need (decide (vs.length = f.np)) (match ex cf f.body (startE f.n vs) S with
  | .nx _ S' => .ok .non S'
  | .ret v S' => .ok v S'
  | .exc c _ S' => .exc c S'
  | .bad => .bad)
def run (tab : Nat → Option Fn) (sub : Nat → Nat → Bool) : Nat → Nat → List PV → Sto → Res PV
  | 0 => fun _ _ _ => .bad
  | k + 1 => fun f vs S => match tab f with
    | some d => runF ⟨run tab sub k, sub⟩ d vs S
    | none => .bad
end PM
end
section
namespace PM
open PySem L2 PySem.Spec PyProof.Rows

structure Cfg where
  K : PySem.W.Frag
  cls : Nat → Addr
  nc : Nat
  fld : List Str
  xc : Nat → Addr
  tabs : List Addr
  hot : Option (Addr × Nat) := none
  fnd : fld.Nodup

structure ClsF (E : Cfg) (c : Nat) : Prop where
  cl : Cls E.K (E.cls c)
  ha : PySem.W.findIn E.K (.ref (E.cls c)) "__class__" = some (some (.builtin "object.__class__"))
  hn : PySem.W.specialIn E.K (.builtin "object.__class__") "__get__" = some (some (.builtin "getset_descriptor.__get__"))
  htk : PySem.W.takesIn E.K (.builtin "object.__class__") = some true
  hm : PySem.W.mroIn E.K (E.cls c) (.type "object") = some true
  ty : ∀ T ∈ ["int", "bool", "str", "list", "tuple"], PySem.W.kitOne E.K (.ref (E.cls c)) (.type T) = some false
  rev : ∀ T ∈ ["NoneType", "int", "bool", "str", "list", "tuple"], PySem.W.kitOne E.K (.type T) (.ref (E.cls c)) = some false
  own : ∀ d, d < E.nc → PySem.W.kitOne E.K (.ref (E.cls c)) (.ref (E.cls d)) = some (decide (c = d))
  noa : ∀ f ∈ E.fld, NoAttr E.K (E.cls c) f
def NsR (E : Cfg) (ns : List Nat) (fs : List (Str × V)) : Prop := ns.map (E.fld[·]?) = fs.map fun p => some p.1

def SqZ (K : PySem.W.Frag) (H : Hp) (a : Addr) (xs : List V) : Prop := (∃ o, H a = some (.frz o (.lst xs))) ∨
  ∃ (o : Obj) (its : Array Value) (n : Nat), K.lookup a = some o ∧ o.cls = .type "list" ∧ o.dict = none ∧ o.data = .seq its n ∧ its.size ≤ sizeLine ∧ Vals xs its.toList
theorem SqZ.sq {K : PySem.W.Frag} {H : Hp} {a : Addr} {xs : List V} (h : SqZ K H a xs) : SqL K H a xs := h.elim (fun ⟨o, e⟩ => .inl (.inr ⟨o, e⟩)) .inr
section
variable (E : Cfg) (α : Nat → Addr) (n : Nat) (H : Hp)
mutual
def Rp : PV → V → Prop
  | .non, x => x = .non
  | .bl b, x => x = .bl b
  | .int i, x => x = .int i
  | .str s, x => x = .str s
  | .tup vs, x => ∃ a xs, x = .ref a ∧ SqT E.K H a xs ∧ RpL vs xs
  | .lst vs, x => ∃ a xs, x = .ref a ∧ H a = some (.lst xs) ∧ (∀ l, l < n → α l ≠ a) ∧ RpL vs xs
  | .ro vs, x => ∃ a xs, x = .ref a ∧ SqZ E.K H a xs ∧ RpL vs xs
  | .obj c ns vs, x => ∃ a dx fs, x = .ref a ∧ H a = some (.ins (E.cls c) dx fs) ∧ (∀ l, l < n → α l ≠ a) ∧ NsR E ns fs ∧ RpL vs (fs.map (·.2)) ∧ ClsF E c
  | .loc l, x => l < n ∧ x = .ref (α l)
def RpL : List PV → List V → Prop
  | [], xs => xs = []
  | v :: vs, xs => ∃ y ys, xs = y :: ys ∧ Rp v y ∧ RpL vs ys
end
def DF : List (PV × PV) → List (Key × V) → Prop
  | [], ks => ks = []
  | p :: r, ks => ∃ k y ks', ks = (k, y) :: ks' ∧ keyF p.1 = some k ∧ Rp E α n H p.2 y ∧ DF r ks'
def OR (a : Addr) : MO → Prop
  | .lst vs => ∃ xs, H a = some (.lst xs) ∧ RpL E α n H vs xs
  | .dic kvs => ∃ ks, H a = some (.dK ks) ∧ DF E α n H kvs ks
  | .dkn _ => False
  | .ins c fs => ∃ dx gs, H a = some (.ins (E.cls c) dx gs) ∧ NsR E (fs.map (·.1)) gs ∧ RpL E α n H (fs.map (·.2)) (gs.map (·.2)) ∧ ClsF E c
end

structure Rel (E : Cfg) (α : Nat → Addr) (S : Sto) (H : Hp) : Prop where
  inj : ∀ i j, i < S.length → j < S.length → α i = α j → i = j
  obj : ∀ l o, S[l]? = some o → OR E α S.length H (α l) o
structure Ext (α : Nat → Addr) (S : Sto) (H : Hp) (α' : Nat → Addr) (S' : Sto) (H' : Hp) : Prop where
  len : S.length ≤ S'.length
  same : ∀ l, l < S.length → α' l = α l
  keep : ∀ a o, H a = some o → (∀ ps, o ≠ .tbl ps) → (∀ l, l < S.length → α l ≠ a) → H' a = some o
  tup : ∀ a xs, H a = some (.tup xs) → H' a = some (.tup xs)
  frz : ∀ a o u, H a = some (.frz o u) → H' a = some (.frz o u)
  dom : ∀ a, H' a = none → H a = none
  new : ∀ l, S.length ≤ l → l < S'.length → H (α' l) = none
theorem Ext.refl {α : Nat → Addr} {S : Sto} {H : Hp} : Ext α S H α S H :=
  ⟨Nat.le_refl _, fun _ _ => rfl, fun _ _ e _ _ => e, fun _ _ e => e, fun _ _ _ e => e, fun _ e => e, fun l h1 h2 => absurd h2 (Nat.not_lt.mpr h1)⟩
theorem Ext.trans {α α1 α2 : Nat → Addr} {S S1 S2 : Sto} {H H1 H2 : Hp} (x : Ext α S H α1 S1 H1) (y : Ext α1 S1 H1 α2 S2 H2) : Ext α S H α2 S2 H2 where
  len := Nat.le_trans x.len y.len
  same := fun l h => (y.same l (Nat.lt_of_lt_of_le h x.len)).trans (x.same l h)
  keep := fun a o e nt h => by
    refine y.keep a o (x.keep a o e nt h) nt fun l hl z => ?_
    by_cases hs : l < S.length
    · exact h l hs ((x.same l hs).symm.trans z)
    · have q := x.new l (Nat.not_lt.mp hs) hl
      rw [z, e] at q; cases q
  tup := fun a xs e => y.tup a xs (x.tup a xs e)
  frz := fun a o u e => y.frz a o u (x.frz a o u e)
  dom := fun a e => x.dom a (y.dom a e)
  new := fun l h1 h2 => by
    by_cases hs : l < S1.length
    · rw [y.same l hs]; exact x.new l h1 hs
    · exact x.dom _ (y.new l (Nat.not_lt.mp hs) h2)

section
variable {E : Cfg} {α α' : Nat → Addr} {S S' : Sto} {H H' : Hp}
theorem SqT.ext (x : Ext α S H α' S' H') {a : Addr} {xs : List V} (h : SqT E.K H a xs) : SqT E.K H' a xs := by
  rcases h with (h | ⟨o, h⟩) | h
  · exact .inl (.inl (x.tup a xs h))
  · exact .inl (.inr ⟨o, x.frz a o _ h⟩)
  · exact .inr h
theorem SqL.ext (x : Ext α S H α' S' H') {a : Addr} {xs : List V} (h : SqL E.K H a xs) (nl : ∀ l, l < S.length → α l ≠ a) : SqL E.K H' a xs := by
  rcases h with (h | ⟨o, h⟩) | h
  · exact .inl (.inl (x.keep a _ h (fun ps z => by cases z) nl))
  · exact .inl (.inr ⟨o, x.frz a o _ h⟩)
  · exact .inr h
theorem SqZ.ext (x : Ext α S H α' S' H') {a : Addr} {xs : List V} (h : SqZ E.K H a xs) : SqZ E.K H' a xs := h.elim (fun ⟨o, e⟩ => .inl ⟨o, x.frz a o _ e⟩) .inr
theorem Ext.nl (x : Ext α S H α' S' H') {a : Addr} (e : H a ≠ none) (h : ∀ l, l < S.length → α l ≠ a) : ∀ l, l < S'.length → α' l ≠ a := fun l hl z => by
  by_cases hs : l < S.length
  · exact h l hs ((x.same l hs).symm.trans z)
  · have q := x.new l (Nat.not_lt.mp hs) hl
    rw [z] at q; exact e q
theorem SqL.there {K : PySem.W.Frag} {a : Addr} {xs : List V} (h : SqL K H a xs) : H a ≠ none ∨ ∃ o its n, K.lookup a = some o ∧ o.cls = .type "list" ∧ o.dict = none ∧ o.data = .seq its n ∧ its.size ≤ sizeLine ∧ Vals xs its.toList := by
  rcases h with (h | ⟨o, h⟩) | h
  · exact .inl (by rw [h]; simp)
  · exact .inl (by rw [h]; simp)
  · exact .inr h
mutual
theorem Rp.ext (x : Ext α S H α' S' H') : ∀ (v : PV) (y : V), Rp E α S.length H v y → Rp E α' S'.length H' v y
  | .non, _, h => by simp only [Rp] at h ⊢; exact h
  | .bl _, _, h => by simp only [Rp] at h ⊢; exact h
  | .int _, _, h => by simp only [Rp] at h ⊢; exact h
  | .str _, _, h => by simp only [Rp] at h ⊢; exact h
  | .tup vs, _, h => by
    simp only [Rp] at h ⊢
    obtain ⟨a, xs, e, q, r⟩ := h
    exact ⟨a, xs, e, SqT.ext x q, RpL.ext x vs xs r⟩
  | .lst vs, _, h => by
    simp only [Rp] at h ⊢
    obtain ⟨a, xs, e, q, nl, r⟩ := h
    exact ⟨a, xs, e, x.keep a _ q (fun ps z => by cases z) nl, x.nl (by rw [q]; simp) nl, RpL.ext x vs xs r⟩
  | .ro vs, _, h => by
    simp only [Rp] at h ⊢
    obtain ⟨a, xs, e, q, r⟩ := h
    exact ⟨a, xs, e, q.ext x, RpL.ext x vs xs r⟩
  | .obj c ns vs, _, h => by
    simp only [Rp] at h ⊢
    obtain ⟨a, dx, fs, e, q, nl, hn, r, cf⟩ := h
    exact ⟨a, dx, fs, e, x.keep a _ q (fun ps z => by cases z) nl, x.nl (by rw [q]; simp) nl, hn, RpL.ext x vs _ r, cf⟩
  | .loc l, _, h => by
    simp only [Rp] at h ⊢
    exact ⟨Nat.lt_of_lt_of_le h.1 x.len, by rw [x.same l h.1]; exact h.2⟩
theorem RpL.ext (x : Ext α S H α' S' H') : ∀ (vs : List PV) (ys : List V), RpL E α S.length H vs ys → RpL E α' S'.length H' vs ys
  | [], _, h => by simp only [RpL] at h ⊢; exact h
  | v :: vs, _, h => by
    simp only [RpL] at h ⊢
    obtain ⟨y, ys, e, h1, h2⟩ := h
    exact ⟨y, ys, e, Rp.ext x v y h1, RpL.ext x vs ys h2⟩
end
end
end PM
end
section
namespace PM
open PySem L2 PySem.Spec PyProof.Rows
section
variable {E : Cfg} {α α' : Nat → Addr} {S S' : Sto} {H H' : Hp}
theorem DF.ext (x : Ext α S H α' S' H') : ∀ (kvs : List (PV × PV)) (ks : List (Key × V)), DF E α S.length H kvs ks → DF E α' S'.length H' kvs ks
  | [], _, h => h
  | p :: r, _, h => by
    obtain ⟨k, y, ks', e, h1, h2, h3⟩ := h
    exact ⟨k, y, ks', e, h1, h2.ext x, DF.ext x r ks' h3⟩
theorem OR.ext (x : Ext α S H α' S' H') {a b : Addr} (e : H' b = H a) : ∀ (o : MO), OR E α S.length H a o → OR E α' S'.length H' b o
  | .lst vs, h => by
    obtain ⟨xs, q, r⟩ := h
    exact ⟨xs, e.trans q, RpL.ext x vs xs r⟩
  | .dic kvs, h => by
    obtain ⟨ks, q, r⟩ := h
    exact ⟨ks, e.trans q, DF.ext x kvs ks r⟩
  | .dkn _, h => h.elim
  | .ins c fs, h => by
    obtain ⟨dx, gs, q, hn, r, cf⟩ := h
    exact ⟨dx, gs, e.trans q, hn, RpL.ext x _ _ r, cf⟩
theorem OR.there {n : Nat} {a : Addr} : ∀ {o : MO}, OR E α n H a o → H a ≠ none
  | .lst vs, ⟨xs, q, _⟩ => by rw [q]; simp
  | .dic kvs, ⟨ks, q, _⟩ => by rw [q]; simp
  | .dkn _, h => h.elim
  | .ins c fs, ⟨dx, gs, q, _⟩ => by rw [q]; simp
theorem OR.mut {n : Nat} {a : Addr} : ∀ {o : MO}, OR E α n H a o → (∀ xs, H a ≠ some (.tup xs)) ∧ (∀ o u, H a ≠ some (.frz o u)) ∧ (∀ ps, H a ≠ some (.tbl ps)) ∧ (∀ y, H a ≠ some (.own y))
  | .lst vs, ⟨xs, q, _⟩ => by rw [q]; simp
  | .dic kvs, ⟨ks, q, _⟩ => by rw [q]; simp
  | .dkn _, h => h.elim
  | .ins c fs, ⟨dx, gs, q, _⟩ => by rw [q]; simp
theorem Rel.at (R : Rel E α S H) {l : Nat} (h : l < S.length) : ∃ o, S[l]? = some o ∧ OR E α S.length H (α l) o := ⟨S[l], by simp [h], R.obj l _ (by simp [h])⟩
theorem Rel.there (R : Rel E α S H) {l : Nat} (h : l < S.length) : H (α l) ≠ none := let ⟨_, _, q⟩ := R.at h; q.there
theorem Ext.fresh {p : Addr} {o : HO} (hp : H p = none) : Ext α S H α S (upd H p o) where
  len := Nat.le_refl _
  same := fun _ _ => rfl
  keep := fun a u e _ _ => by rw [upd_ne (ne_of_none e hp)]; exact e
  tup := fun a xs e => by rw [upd_ne (ne_of_none e hp)]; exact e
  frz := fun a u v e => by rw [upd_ne (ne_of_none e hp)]; exact e
  dom := fun a e => by
    by_cases h : a = p
    · rw [h]; exact hp
    · rw [upd_ne h] at e; exact e
  new := fun l h1 h2 => absurd h2 (Nat.not_lt.mpr h1)
theorem Rel.still (R : Rel E α S H) (x : Ext α S H α S H') (k : ∀ l, l < S.length → H' (α l) = H (α l)) : Rel E α S H' :=
  ⟨R.inj, fun l o e => (R.obj l o e).ext x (k l (List.getElem?_eq_some_iff.mp e).1)⟩
theorem Rel.nl (R : Rel E α S H) {p : Addr} (hp : H p = none) : ∀ l, l < S.length → α l ≠ p := fun l h z => R.there h (by rw [z]; exact hp)
theorem Rel.fresh (R : Rel E α S H) {p : Addr} {o : HO} (hp : H p = none) : Rel E α S (upd H p o) :=
  R.still (Ext.fresh hp) fun l h => upd_ne (R.nl hp l h)
def put1 (α : Nat → Addr) (n : Nat) (p : Addr) : Nat → Addr := fun l => if l = n then p else α l
theorem put1_same {n : Nat} {p : Addr} : put1 α n p n = p := by simp [put1]
theorem put1_ne {n l : Nat} {p : Addr} (h : l ≠ n) : put1 α n p l = α l := by simp [put1, h]
theorem Ext.laid {p : Addr} {o : HO} {m : MO} (hp : H p = none) : Ext α S H (put1 α S.length p) (S ++ [m]) (upd H p o) where
  len := by simp
  same := fun l h => put1_ne (Nat.ne_of_lt h)
  keep := (Ext.fresh (α := α) (S := S) hp).keep
  tup := (Ext.fresh (α := α) (S := S) hp).tup
  frz := (Ext.fresh (α := α) (S := S) hp).frz
  dom := (Ext.fresh (α := α) (S := S) hp).dom
  new := fun l h1 h2 => by
    have e : l = S.length := by simp at h2; omega
    rw [e, put1_same]; exact hp
theorem Rel.laid (R : Rel E α S H) {p : Addr} {o : HO} {m : MO} (hp : H p = none) (h : OR E (put1 α S.length p) (S.length + 1) (upd H p o) p m) : Rel E (put1 α S.length p) (S ++ [m]) (upd H p o) where
  inj := fun i j hi hj e => by
    simp at hi hj
    by_cases h1 : i = S.length
    · by_cases h2 : j = S.length
      · rw [h1, h2]
      · rw [h1, put1_same, put1_ne h2] at e
        exact absurd e.symm (R.nl hp j (by omega))
    · by_cases h2 : j = S.length
      · rw [h2, put1_same, put1_ne h1] at e
        exact absurd e (R.nl hp i (by omega))
      · rw [put1_ne h1, put1_ne h2] at e
        exact R.inj i j (by omega) (by omega) e
  obj := fun l u e => by
    by_cases hl : l = S.length
    · subst hl
      simp at e
      subst e
      rw [put1_same]
      simpa using h
    · have hlt : l < S.length := by
        have := (List.getElem?_eq_some_iff.mp e).1
        simp at this; omega
      rw [List.getElem?_append_left hlt] at e
      rw [put1_ne hl]
      exact OR.ext (Ext.laid hp) (upd_ne (R.nl hp l hlt)) u (R.obj l u e)
theorem Ext.wrote (R : Rel E α S H) {l : Nat} {o : HO} {m : MO} (hl : l < S.length) : Ext α S H α (S.set l m) (upd H (α l) o) where
  len := by simp
  same := fun _ _ => rfl
  keep := fun a u e _ nl => by rw [upd_ne (Ne.symm (nl l hl))]; exact e
  tup := fun a xs e => by
    obtain ⟨m', _, q⟩ := R.at hl
    rw [upd_ne (fun (z : a = α l) => q.mut.1 xs (by rw [← z]; exact e))]; exact e
  frz := fun a ob u e => by
    obtain ⟨m', _, q⟩ := R.at hl
    rw [upd_ne (fun (z : a = α l) => q.mut.2.1 ob u (by rw [← z]; exact e))]; exact e
  dom := fun a e => by
    by_cases h : a = α l
    · rw [h, upd_same] at e; cases e
    · rw [upd_ne h] at e; exact e
  new := fun j h1 h2 => by simp at h2; omega
theorem Rel.wrote (R : Rel E α S H) {l : Nat} {o : HO} {m : MO} (hl : l < S.length) (h : OR E α S.length (upd H (α l) o) (α l) m) : Rel E α (S.set l m) (upd H (α l) o) where
  inj := fun i j hi hj e => by simp at hi hj; exact R.inj i j hi hj e
  obj := fun j u e => by
    by_cases hj : j = l
    · subst hj
      simp [hl] at e
      subst e
      simpa using h
    · rw [List.getElem?_set_ne (Ne.symm hj)] at e
      have hlt := (List.getElem?_eq_some_iff.mp e).1
      have z := OR.ext (b := α j) (Ext.wrote (o := o) (m := m) R hl) (upd_ne (fun (z : α j = α l) => hj (R.inj j l hlt hl z))) u (R.obj j u e)
      simpa using z

structure EnvR (E : Cfg) (α : Nat → Addr) (n : Nat) (H : Hp) (ρ : Env) (σ : L2.St) : Prop where
  len : ρ.length = σ.length
  at_ : ∀ (i : Nat) (v : PV), ρ[i]? = some (some v) → ∃ x, σ[i]? = some (some x) ∧ Rp E α n H v x
theorem EnvR.ext (x : Ext α S H α' S' H') {ρ : Env} {σ : L2.St} (h : EnvR E α S.length H ρ σ) : EnvR E α' S'.length H' ρ σ :=
  ⟨h.len, fun i v e => let ⟨y, e2, r⟩ := h.at_ i v e; ⟨y, e2, r.ext x⟩⟩
theorem EnvR.set {n : Nat} {ρ : Env} {σ : L2.St} (h : EnvR E α n H ρ σ) {i : Nat} {v : PV} {x : V} (r : Rp E α n H v x) : EnvR E α n H (ρ.set i (some v)) (σ.set i (some x)) :=
  ⟨by simp [h.len], fun j w e => by
    by_cases hj : i = j
    · subst hj
      by_cases hi : i < ρ.length
      · rw [List.getElem?_set_self hi] at e
        cases e
        exact ⟨x, List.getElem?_set_self (h.len ▸ hi), r⟩
      · rw [List.getElem?_eq_none (by simpa using hi)] at e; cases e
    · rw [List.getElem?_set_ne hj] at e ⊢
      exact h.at_ j w e⟩
theorem EnvR.wipe {n : Nat} {ρ : Env} {σ : L2.St} (h : EnvR E α n H ρ σ) : ∀ own : List Nat, EnvR E α n H (wipe ρ own) (L2.wipe σ own)
  | [] => h
  | i :: own => by
    have q := EnvR.wipe h own
    refine ⟨by simp only [PM.wipe, L2.wipe, List.length_set, q.len], fun j w e => ?_⟩
    simp only [PM.wipe, L2.wipe] at e ⊢
    by_cases hj : i = j
    · subst hj
      by_cases hi : i < (PM.wipe ρ own).length
      · rw [List.getElem?_set_self hi] at e; cases e
      · rw [List.getElem?_eq_none (by simpa using hi)] at e; cases e
    · rw [List.getElem?_set_ne hj] at e ⊢
      exact q.at_ j w e
end

section
variable (E : Cfg) (W : WX)
def Kt {β γ : Type} (R : (Nat → Addr) → Nat → Hp → β → γ → Prop) (α : Nat → Addr) (S : Sto) (σ : L2.St) (H : Hp) : Res β → (γ → Hp → Prop) → Prop
  | .ok v S', Q => ∀ α' x H', Ext α S H α' S' H' → Rel E α' S' H' → R α' S'.length H' v x → Q x H'
  | .exc c S', _ => ∀ α' H', Ext α S H α' S' H' → Rel E α' S' H' → W (.ref (E.xc c)) none σ H'
  | .bad, _ => False
def tG {β γ : Type} (R : (Nat → Addr) → Nat → Hp → β → γ → Prop) (m : Env → Sto → Res β) (σ : L2.St) (H : Hp) (Q : γ → Hp → Prop) : Prop :=
  ∃ α ρ S, Rel E α S H ∧ EnvR E α S.length H ρ σ ∧ Kt E W R α S σ H (m ρ S) Q
abbrev tE (m : Env → Sto → Res PV) : TE := tG E W (Rp E) m
abbrev tA (m : Env → Sto → Res (List PV)) : TA := tG E W (RpL E) m
def RB : (Nat → Addr) → Nat → Hp → Bool → Bool → Prop := fun _ _ _ b k => k = b
abbrev tB (m : Env → Sto → Res Bool) : TT := tG E W RB m
def RO : (Nat → Addr) → Nat → Hp → Option Int → Option Int → Prop := fun _ _ _ b k => k = b
abbrev tO (m : Env → Sto → Res (Option Int)) : TO := tG E W RO m
end
section
variable {E : Cfg} {W : WX} {β γ δ ε : Type} {R : (Nat → Addr) → Nat → Hp → β → γ → Prop} {R' : (Nat → Addr) → Nat → Hp → δ → ε → Prop} {α α1 : Nat → Addr} {S S1 : Sto} {σ : L2.St} {H H1 : Hp}
theorem Kt.move (x : Ext α S H α1 S1 H1) {r : Res β} {Q : γ → Hp → Prop} (h : Kt E W R α S σ H r Q) : Kt E W R α1 S1 σ H1 r Q := by
  cases r with
  | ok v S' => exact fun α' y H' e => h α' y H' (x.trans e)
  | exc c S' => exact fun α' H' e => h α' H' (x.trans e)
  | bad => exact h
theorem Kt.bind {m : Res δ} {f : δ → Sto → Res β} {Q : γ → Hp → Prop} {P : ε → Hp → Prop} (h : Kt E W R α S σ H (m.bind f) Q)
    (k : ∀ v S1 α1 x H1, Ext α S H α1 S1 H1 → Rel E α1 S1 H1 → R' α1 S1.length H1 v x → Kt E W R α1 S1 σ H1 (f v S1) Q → P x H1) : Kt E W R' α S σ H m P := by
  cases m with
  | ok v S' => exact fun α' y H' e r q => k v S' α' y H' e r q (h.move e)
  | exc c S' => exact h
  | bad => exact h
theorem tG.first {ma : Env → Sto → Res δ} {f : δ → Env → Sto → Res β} {Q : γ → Hp → Prop} {P : ε → Hp → Prop} (h : tG E W R (fun ρ S => (ma ρ S).bind fun v S1 => f v ρ S1) σ H Q)
    (k : ∀ α ρ S v x H1, Rel E α S H1 → EnvR E α S.length H1 ρ σ → R' α S.length H1 v x → Kt E W R α S σ H1 (f v ρ S) Q → P x H1) : tG E W R' ma σ H P := by
  obtain ⟨α, ρ, S, r, en, q⟩ := h
  exact ⟨α, ρ, S, r, en, q.bind fun v S1 α1 x H1 e r1 rv kt => k α1 ρ S1 v x H1 r1 (en.ext e) rv kt⟩
theorem Kt.need {b : Bool} {m : Res β} {Q : γ → Hp → Prop} (h : Kt E W R α S σ H (Res.need b m) Q) : b = true ∧ Kt E W R α S σ H m Q := by
  cases b with
  | true => exact ⟨rfl, h⟩
  | false => exact h.elim
theorem Kt.opt {o : Option δ} {f : δ → Res β} {Q : γ → Hp → Prop} (h : Kt E W R α S σ H (Res.opt o f) Q) : ∃ a, o = some a ∧ Kt E W R α S σ H (f a) Q := by
  cases o with
  | some a => exact ⟨a, rfl, h⟩
  | none => exact h.elim
theorem Kt.here {v : β} {x : γ} {Q : γ → Hp → Prop} (h : Kt E W R α S σ H (.ok v S) Q) (r : Rel E α S H) (rv : R α S.length H v x) : Q x H := h α x H Ext.refl r rv
end

section
variable {X : Cx}
theorem PE.imp {e : Expr} {t t' : TE} (h : PE X e t) (k : ∀ σ H Q, t' σ H Q → t σ H Q) : PE X e t' := ⟨fun pins s σ H Q I q => h.run pins s σ H Q I (k σ H Q q)⟩
theorem PT.imp {e : Expr} {t t' : TT} (h : PT X e t) (k : ∀ σ H Q, t' σ H Q → t σ H Q) : PT X e t' := ⟨fun pins s σ H Q I q => h.run pins s σ H Q I (k σ H Q q)⟩
theorem PA.imp {e : List Expr} {t t' : TA} (h : PA X e t) (k : ∀ σ H Q, t' σ H Q → t σ H Q) : PA X e t' := ⟨fun pos pins s σ H Q I q => h.run pos pins s σ H Q I (k σ H Q q)⟩
theorem PS.imp {e : Stmt} {t t' : TS} (h : PS X e t) (k : ∀ D σ H, t' D σ H → t D σ H) : PS X e t' := ⟨fun pins s σ H D I q => h.run pins s σ H D I (k D σ H q)⟩
theorem PSs.imp {e : List Stmt} {t t' : TS} (h : PSs X e t) (k : ∀ D σ H, t' D σ H → t D σ H) : PSs X e t' := ⟨fun pins s σ H D I q => h.run pins s σ H D I (k D σ H q)⟩
def Szs (H : Hp) : Prop := ∀ a, (∀ xs, H a = some (.lst xs) → xs.length ≤ sizeLine) ∧ (∀ xs, H a = some (.tup xs) → xs.length ≤ sizeLine) ∧ (∀ ks, H a = some (.dK ks) → ks.length ≤ sizeLine)
theorem Inv.szs {pins : List (Addr × Obj)} {σ : L2.St} {H : Hp} {s : Shared} (I : Inv X pins σ H s) : Szs H := fun a => ⟨fun xs e => (I.hok a _ e).1, fun xs e => (I.hok a _ e).1, fun ks e => (I.hok a _ e).1⟩
theorem PE.szs {e : Expr} {t : TE} (h : PE X e t) : PE X e (fun σ H Q => Szs H → t σ H fun x H1 => Szs H1 → Q x H1) := ⟨fun pins s σ H Q I q =>
  wpAny_mono (h.run pins s σ H _ I (q (Inv.szs I))) (fun u s' ⟨v, H', I', r, q'⟩ => ⟨v, H', I', r, q' (Inv.szs I')⟩) fun _ _ z => z⟩
end
end PM
end
section
namespace PM
open PySem L2 PySem.Spec PyProof.Rows
section
variable {E : Cfg} {α α' : Nat → Addr} {n : Nat} {S S' : Sto} {H H' : Hp}
theorem RpL.len : ∀ {vs : List PV} {xs : List V}, RpL E α n H vs xs → vs.length = xs.length
  | [], _, h => by simp only [RpL] at h; rw [h]; rfl
  | v :: vs, _, h => by
    simp only [RpL] at h
    obtain ⟨y, ys, e, _, h2⟩ := h
    rw [e, List.length_cons, List.length_cons, RpL.len h2]
theorem RpL.cons {v : PV} {x : V} {vs : List PV} {xs : List V} (a : Rp E α n H v x) (b : RpL E α n H vs xs) : RpL E α n H (v :: vs) (x :: xs) := by
  simp only [RpL]; exact ⟨x, xs, rfl, a, b⟩
theorem RpL.nil : RpL E α n H [] [] := by simp only [RpL]
theorem RpL.append : ∀ {vs ws : List PV} {xs ys : List V}, RpL E α n H vs xs → RpL E α n H ws ys → RpL E α n H (vs ++ ws) (xs ++ ys)
  | [], _, _, _, h, k => by simp only [RpL] at h; subst h; exact k
  | v :: vs, _, _, _, h, k => by
    simp only [RpL] at h
    obtain ⟨y, ys, e, h1, h2⟩ := h
    subst e
    exact RpL.cons h1 (RpL.append h2 k)
theorem RpL.drop : ∀ {vs : List PV} {xs : List V} (i : Nat), RpL E α n H vs xs → RpL E α n H (vs.drop i) (xs.drop i)
  | [], _, i, h => by simp only [RpL] at h; subst h; simp [RpL.nil]
  | v :: vs, _, 0, h => h
  | v :: vs, _, i + 1, h => by
    simp only [RpL] at h
    obtain ⟨y, ys, e, h1, h2⟩ := h
    subst e
    exact RpL.drop i h2
theorem RpL.take : ∀ {vs : List PV} {xs : List V} (i : Nat), RpL E α n H vs xs → RpL E α n H (vs.take i) (xs.take i)
  | [], _, i, h => by simp only [RpL] at h; subst h; simp [RpL.nil]
  | v :: vs, _, 0, h => by simp [RpL.nil]
  | v :: vs, _, i + 1, h => by
    simp only [RpL] at h
    obtain ⟨y, ys, e, h1, h2⟩ := h
    subst e
    exact RpL.cons h1 (RpL.take i h2)
theorem RpL.cut {vs : List PV} {xs : List V} (lo hi : Option Int) (h : RpL E α n H vs xs) : RpL E α n H (cutP vs lo hi) (cutV xs lo hi) := by
  unfold cutP cutV
  rw [h.len]
  exact RpL.take _ (RpL.drop _ h)
theorem RpL.get : ∀ {vs : List PV} {xs : List V} {i : Nat} {v : PV}, RpL E α n H vs xs → vs[i]? = some v → ∃ x, xs[i]? = some x ∧ Rp E α n H v x
  | [], _, _, _, _, e => by simp at e
  | v :: vs, _, 0, w, h, e => by
    simp only [RpL] at h
    obtain ⟨y, ys, e2, h1, h2⟩ := h
    subst e2
    simp at e
    subst e
    exact ⟨y, rfl, h1⟩
  | v :: vs, _, i + 1, w, h, e => by
    simp only [RpL] at h
    obtain ⟨y, ys, e2, h1, h2⟩ := h
    subst e2
    simpa using RpL.get h2 (by simpa using e)
theorem RpL.get' : ∀ {vs : List PV} {xs : List V} {i : Nat} {x : V}, RpL E α n H vs xs → xs[i]? = some x → ∃ v, vs[i]? = some v ∧ Rp E α n H v x := fun {vs xs i x} h e => by
  have hi : i < vs.length := by rw [h.len]; exact (List.getElem?_eq_some_iff.mp e).1
  obtain ⟨y, e2, r⟩ := h.get (List.getElem?_eq_getElem hi)
  rw [e] at e2; cases e2
  exact ⟨_, List.getElem?_eq_getElem hi, r⟩
theorem RpL.atI {vs : List PV} {xs : List V} {i : Int} {v : PV} (h : RpL E α n H vs xs) (e : L2.atI vs i = some v) : ∃ x, L2.atI xs i = some x ∧ Rp E α n H v x := by
  unfold L2.atI at e ⊢
  rw [← h.len]
  obtain ⟨j, e1, e2⟩ := Option.bind_eq_some_iff.mp e
  obtain ⟨x, e3, r⟩ := h.get e2
  exact ⟨x, by rw [e1]; exact e3, r⟩
theorem RpL.rep {vs : List PV} {xs : List V} (h : RpL E α n H vs xs) : ∀ k : Nat, RpL E α n H (List.replicate k vs).flatten (List.replicate k xs).flatten
  | 0 => by simp [RpL.nil]
  | k + 1 => by rw [List.replicate_succ, List.replicate_succ, List.flatten_cons, List.flatten_cons]; exact h.append (RpL.rep h k)
theorem RpL.rev : ∀ {vs : List PV} {xs : List V}, RpL E α n H vs xs → RpL E α n H vs.reverse xs.reverse
  | [], _, h => by simp only [RpL] at h; subst h; exact RpL.nil
  | v :: vs, _, h => by
    simp only [RpL] at h
    obtain ⟨y, ys, e, h1, h2⟩ := h
    subst e
    rw [List.reverse_cons, List.reverse_cons]
    exact (RpL.rev h2).append (RpL.cons h1 RpL.nil)
theorem RpL.dropLast : ∀ {vs : List PV} {xs : List V}, RpL E α n H vs xs → RpL E α n H vs.dropLast xs.dropLast := fun {vs xs} h => by
  rw [List.dropLast_eq_take, List.dropLast_eq_take, h.len]
  exact RpL.take _ h
theorem RpL.set : ∀ {vs : List PV} {xs : List V} (j : Nat) {v : PV} {x : V}, RpL E α n H vs xs → Rp E α n H v x → RpL E α n H (vs.set j v) (xs.set j x)
  | [], _, _, _, _, h, _ => by simp only [RpL] at h; subst h; exact RpL.nil
  | w :: vs, _, 0, v, x, h, r => by
    simp only [RpL] at h
    obtain ⟨y, ys, e, h1, h2⟩ := h
    subst e
    exact RpL.cons r h2
  | w :: vs, _, j + 1, v, x, h, r => by
    simp only [RpL] at h
    obtain ⟨y, ys, e, h1, h2⟩ := h
    subst e
    exact RpL.cons h1 (RpL.set j h2 r)
theorem RpL.intsV : ∀ {vs : List PV} {xs : List V} {is : List Int}, RpL E α n H vs xs → PM.intsV vs = some is → xs = is.map V.int
  | [], _, _, h, e => by
    simp only [RpL] at h; subst h
    simp only [PM.intsV, Option.some.injEq] at e; subst e; rfl
  | v :: vs, _, is, h, e => by
    simp only [RpL] at h
    obtain ⟨y, ys, e2, h1, h2⟩ := h
    subst e2
    unfold PM.intsV at e
    split at e
    · rename_i i is' e3
      cases e
      simp only [Rp] at h1
      rw [h1, RpL.intsV h2 e3]; rfl
    · cases e
theorem RpL.ofInts : ∀ is : List Int, RpL E α n H (is.map PV.int) (is.map V.int)
  | [] => RpL.nil
  | i :: is => RpL.cons (by simp only [Rp]) (RpL.ofInts is)

theorem rd_trk (R : Rel E α S H) {v : PV} {x : V} {vs : List PV} (r : Rp E α S.length H v x) (e : trk S v = some vs) : ∃ a xs, x = .ref a ∧ H a = some (.lst xs) ∧ RpL E α S.length H vs xs := by
  unfold trk at e
  split at e
  · cases e
    simp only [Rp] at r
    obtain ⟨a, xs, e1, e2, _, e3⟩ := r
    exact ⟨a, xs, e1, e2, e3⟩
  · rename_i l
    split at e
    · rename_i ys e4
      cases e
      simp only [Rp] at r
      obtain ⟨xs, e5, e6⟩ := R.obj l _ e4
      exact ⟨α l, xs, r.2, e5, e6⟩
    · cases e
  · cases e
theorem rd_lst (R : Rel E α S H) {v : PV} {x : V} {vs : List PV} (r : Rp E α S.length H v x) (e : lstOf S v = some vs) : ∃ a xs, x = .ref a ∧ SqL E.K H a xs ∧ RpL E α S.length H vs xs := by
  unfold lstOf at e
  split at e
  · cases e
    simp only [Rp] at r
    obtain ⟨a, xs, e1, e2, _, e3⟩ := r
    exact ⟨a, xs, e1, .of e2, e3⟩
  · cases e
    simp only [Rp] at r
    obtain ⟨a, xs, e1, e2, e3⟩ := r
    exact ⟨a, xs, e1, e2.sq, e3⟩
  · rename_i l
    split at e
    · rename_i ys e4
      cases e
      simp only [Rp] at r
      obtain ⟨xs, e5, e6⟩ := R.obj l _ e4
      exact ⟨α l, xs, r.2, .of e5, e6⟩
    · cases e
  · cases e
theorem rd_tup {vs : List PV} {x : V} (r : Rp E α n H (.tup vs) x) : ∃ a xs, x = .ref a ∧ SqT E.K H a xs ∧ RpL E α n H vs xs := by
  simp only [Rp] at r; exact r
theorem rd_seq (R : Rel E α S H) {v : PV} {x : V} {vs : List PV} (r : Rp E α S.length H v x) (e : seqOf S v = some vs) : ∃ a xs, x = .ref a ∧ (SqL E.K H a xs ∨ SqT E.K H a xs) ∧ RpL E α S.length H vs xs := by
  unfold seqOf at e
  split at e
  · cases e
    obtain ⟨a, xs, e1, e2, e3⟩ := rd_tup r
    exact ⟨a, xs, e1, .inr e2, e3⟩
  · obtain ⟨a, xs, e1, e2, e3⟩ := rd_lst R r e
    exact ⟨a, xs, e1, .inl e2, e3⟩
end

section
variable {E : Cfg} {W : WX} {α : Nat → Addr} {S : Sto} {σ : L2.St} {H : Hp} {Q : VK}
theorem mk_lst {vs : List PV} {xs : List V} (h : Kt E W (Rp E) α S σ H (new S (.lst vs)) Q) (R : Rel E α S H) (r : RpL E α S.length H vs xs) {p : Addr} (hp : H p = none) : Q (.ref p) (upd H p (.lst xs)) := by
  have x := Ext.laid (α := α) (S := S) (o := .lst xs) (m := .lst vs) hp
  have r' := RpL.ext x vs xs r
  refine h (put1 α S.length p) (.ref p) _ x (R.laid hp ⟨xs, upd_same, by simpa using r'⟩) ?_
  simp only [Rp]
  exact ⟨by simp, by rw [put1_same]⟩
theorem mk_tup {vs : List PV} {xs : List V} (h : Kt E W (Rp E) α S σ H (.ok (.tup vs) S) Q) (R : Rel E α S H) (r : RpL E α S.length H vs xs) {p : Addr} (hp : H p = none) : Q (.ref p) (upd H p (.tup xs)) := by
  have x := Ext.fresh (α := α) (S := S) (o := .tup xs) hp
  refine h α (.ref p) _ x (R.fresh hp) ?_
  simp only [Rp]
  exact ⟨p, xs, rfl, .of upd_same, RpL.ext x vs xs r⟩
theorem is_tup {vs : List PV} {a : Addr} {xs : List V} (h : Kt E W (Rp E) α S σ H (.ok (.tup vs) S) Q) (R : Rel E α S H) (ha : SqT E.K H a xs) (r : RpL E α S.length H vs xs) : Q (.ref a) H := by
  refine h.here R ?_
  simp only [Rp]
  exact ⟨a, xs, rfl, ha, r⟩
theorem is_int {i : Int} (h : Kt E W (Rp E) α S σ H (.ok (.int i) S) Q) (R : Rel E α S H) : Q (.int i) H := h.here R (by simp only [Rp])
theorem is_bl {b : Bool} (h : Kt E W (Rp E) α S σ H (.ok (.bl b) S) Q) (R : Rel E α S H) : Q (.bl b) H := h.here R (by simp only [Rp])
theorem is_str {b : Str} (h : Kt E W (Rp E) α S σ H (.ok (.str b) S) Q) (R : Rel E α S H) : Q (.str b) H := h.here R (by simp only [Rp])
theorem is_non (h : Kt E W (Rp E) α S σ H (.ok .non S) Q) (R : Rel E α S H) : Q .non H := h.here R (by simp only [Rp])
end

section
variable {E : Cfg} {W : WX} {α : Nat → Addr} {S : Sto} {σ : L2.St} {H : Hp} {Q : VK} {X : Cx} {v w : PV} {x y : V}
def RAdd (K : PySem.W.Frag) : R2 := fun x y H Q => (rI0 fun i j => .int (i + j)) x y H Q ∨ (fun x y H Q => ∃ i j, x = .str i ∧ y = .str j ∧ i.length + j.length ≤ sizeLine ∧ Q (.str (i ++ j)) H : R2) x y H Q ∨ rCatA K x y H Q ∨ rCat x y H Q
theorem or_add : OpR X (binaryOp .Add) (RAdd X.K) := op_add.or (op_add_str.or (op_catA.or op_cat))
theorem lim_le {n : Nat} (h : decide (n ≤ LIM) = true) : n ≤ sizeLine := by
  rw [← lim_eq]; exact of_decide_eq_true h
theorem add_rd (R : Rel E α S H) (rv : Rp E α S.length H v x) (rw' : Rp E α S.length H w y) (h : Kt E W (Rp E) α S σ H (addV S v w) Q) : RAdd E.K x y H Q := by
  unfold addV at h
  split at h
  · simp only [Rp] at rv rw'
    exact .inl ⟨_, _, rv, rw', is_int h R⟩
  · simp only [Rp] at rv rw'
    obtain ⟨h1, h2⟩ := h.need
    exact .inr (.inl ⟨_, _, rv, rw', lim_le h1, is_str h2 R⟩)
  · obtain ⟨a, xs, rfl, ha, r1⟩ := rd_tup rv
    obtain ⟨b, ys, rfl, hb, r2⟩ := rd_tup rw'
    obtain ⟨h1, h2⟩ := h.need
    refine .inr (.inr (.inl ⟨a, b, xs, ys, rfl, rfl, ha, hb, by rw [← r1.len, ← r2.len]; exact lim_le h1, fun e => ?_, fun e1 e2 => ?_, fun e1 e2 p hp => ?_⟩))
    · have q := is_tup (xs := xs ++ ys) (a := b) h2 R (by rw [e]; exact hb) (r1.append r2)
      exact q
    · exact is_tup (xs := xs ++ ys) (a := a) h2 R (by rw [e2, List.append_nil]; exact ha) (r1.append r2)
    · exact mk_tup h2 R (r1.append r2) hp
  · obtain ⟨vs, e1, h⟩ := h.opt
    obtain ⟨ws, e2, h⟩ := h.opt
    obtain ⟨h1, h2⟩ := h.need
    obtain ⟨a, xs, rfl, ha, r1⟩ := rd_trk R rv e1
    obtain ⟨b, ys, rfl, hb, r2⟩ := rd_trk R rw' e2
    exact .inr (.inr (.inr ⟨a, b, xs, ys, rfl, rfl, ha, hb, by rw [← r1.len, ← r2.len]; exact lim_le h1, fun p hp => mk_lst h2 R (r1.append r2) hp⟩))
theorem sub_rd (R : Rel E α S H) (rv : Rp E α S.length H v x) (rw' : Rp E α S.length H w y) (h : Kt E W (Rp E) α S σ H (subV S v w) Q) : (rI0 fun i j => .int (i - j)) x y H Q := by
  unfold subV at h
  split at h
  · simp only [Rp] at rv rw'
    exact ⟨_, _, rv, rw', is_int h R⟩
  · exact h.elim
def RMul (K : PySem.W.Frag) : R2 := fun x y H Q => (rI CMul fun i j => .int (i * j)) x y H Q ∨ rRepT K x y H Q ∨ rRep x y H Q
theorem or_mul : OpR X (binaryOp .Mult) (RMul X.K) := op_mul.or (op_repT.or op_rep)
theorem mul_rd (R : Rel E α S H) (rv : Rp E α S.length H v x) (rw' : Rp E α S.length H w y) (h : Kt E W (Rp E) α S σ H (mulV S v w) Q) : RMul E.K x y H Q := by
  unfold mulV at h
  split at h
  · simp only [Rp] at rv rw'
    obtain ⟨h1, h2⟩ := h.need
    refine .inl ⟨_, _, rv, rw', ?_, is_int h2 R⟩
    simp only [small, Bool.or_eq_true, Bool.and_eq_true, decide_eq_true_eq] at h1
    unfold CMul
    omega
  · rename_i vs k
    obtain ⟨h1, h2⟩ := h.need
    simp only [Bool.and_eq_true, decide_eq_true_eq, Bool.not_eq_true'] at h1
    obtain ⟨⟨⟨h3, h4⟩, h5⟩, h6⟩ := h1
    obtain ⟨a, xs, rfl, ha, r1⟩ := rd_tup rv
    simp only [Rp] at rw'
    refine .inr (.inl ⟨a, k, xs, rfl, rw', ha, fun e => ?_, h4, h5, by rw [← r1.len]; exact h6, fun p hp => mk_tup h2 R (r1.rep _) hp⟩)
    have := r1.len
    rw [e] at this
    rw [List.length_eq_zero_iff.mp this] at h3
    cases h3
  · rename_i k _ _
    obtain ⟨vs, e1, h⟩ := h.opt
    obtain ⟨h1, h2⟩ := h.need
    simp only [Bool.and_eq_true, decide_eq_true_eq] at h1
    obtain ⟨⟨h3, h4⟩, h5⟩ := h1
    obtain ⟨a, xs, rfl, ha, r1⟩ := rd_trk R rv e1
    simp only [Rp] at rw'
    exact .inr (.inr ⟨a, k, xs, rfl, rw', ha, by omega, by omega, by rw [← r1.len, ← lim_eq]; exact h5, fun p hp => mk_lst h2 R (r1.rep _) hp⟩)
  · exact h.elim
theorem fdiv_rd (R : Rel E α S H) (rv : Rp E α S.length H v x) (rw' : Rp E α S.length H w y) (h : Kt E W (Rp E) α S σ H (fdivV S v w) Q) : (rI CDiv fun i j => .int (i / j)) x y H Q := by
  unfold fdivV at h
  split at h
  · simp only [Rp] at rv rw'
    obtain ⟨h1, h2⟩ := h.need
    simp only [Bool.and_eq_true, decide_eq_true_eq] at h1
    exact ⟨_, _, rv, rw', h1, is_int h2 R⟩
  · exact h.elim
theorem mod_rd (R : Rel E α S H) (rv : Rp E α S.length H v x) (rw' : Rp E α S.length H w y) (h : Kt E W (Rp E) α S σ H (modV S v w) Q) : (rI (fun _ j => 0 < j) fun i j => .int (i % j)) x y H Q := by
  unfold modV at h
  split at h
  · simp only [Rp] at rv rw'
    obtain ⟨h1, h2⟩ := h.need
    simp only [decide_eq_true_eq] at h1
    exact ⟨_, _, rv, rw', h1, is_int h2 R⟩
  · exact h.elim

mutual
theorem rd_toDw {g : Nat → Option PyData} (hg : ∀ l d, g l = some d → ∀ y, Rp E α S.length H (.loc l) y → Dp E.K H y d) : ∀ (v : PV) (x : V) (d : PyData), Rp E α S.length H v x → toDw g v = some d → Dp E.K H x d
  | .non, _, _, r, e => by simp only [Rp] at r; simp only [toDw, Option.some.injEq] at e; subst r e; exact .non
  | .bl _, _, _, r, e => by simp only [Rp] at r; simp only [toDw, Option.some.injEq] at e; subst r e; exact .bl _
  | .int _, _, _, r, e => by simp only [Rp] at r; simp only [toDw, Option.some.injEq] at e; subst r e; exact .int _
  | .str _, _, _, r, e => by simp only [Rp] at r; simp only [toDw, Option.some.injEq] at e; subst r e; exact .str _
  | .tup vs, _, _, r, e => by
    simp only [Rp] at r
    simp only [toDw] at e
    obtain ⟨ds, e1, e2⟩ := Option.map_eq_some_iff.mp e
    obtain ⟨a, xs, e3, e4, e5⟩ := r
    subst e2 e3
    exact .tup e4 (rd_toDws hg vs xs ds e5 e1)
  | .lst vs, _, _, r, e => by
    simp only [Rp] at r
    simp only [toDw] at e
    obtain ⟨ds, e1, e2⟩ := Option.map_eq_some_iff.mp e
    obtain ⟨a, xs, e3, e4, _, e5⟩ := r
    subst e2 e3
    exact .lst (.of e4) (rd_toDws hg vs xs ds e5 e1)
  | .ro vs, _, _, r, e => by
    simp only [Rp] at r
    simp only [toDw] at e
    obtain ⟨ds, e1, e2⟩ := Option.map_eq_some_iff.mp e
    obtain ⟨a, xs, e3, e4, e5⟩ := r
    subst e2 e3
    exact .lst e4.sq (rd_toDws hg vs xs ds e5 e1)
  | .obj _ _ _, _, _, _, e => by simp [toDw] at e
  | .loc l, x, d, r, e => hg l d (by simpa only [toDw] using e) x r
theorem rd_toDws {g : Nat → Option PyData} (hg : ∀ l d, g l = some d → ∀ y, Rp E α S.length H (.loc l) y → Dp E.K H y d) : ∀ (vs : List PV) (xs : List V) (ds : List PyData), RpL E α S.length H vs xs → toDws g vs = some ds → DpAll E.K H xs ds
  | [], _, _, r, e => by simp only [RpL] at r; simp only [toDws, Option.some.injEq] at e; subst r e; exact .nil
  | v :: vs, _, _, r, e => by
    simp only [RpL] at r
    obtain ⟨y, ys, e1, h1, h2⟩ := r
    subst e1
    simp only [toDws] at e
    split at e
    · rename_i d ds e2 e3
      cases e
      exact .cons (rd_toDw hg v y d h1 e2) (rd_toDws hg vs ys ds h2 e3)
    · cases e
end
theorem rd_toDL (R : Rel E α S H) : ∀ (k l : Nat) (d : PyData), toDL S k l = some d → ∀ y, Rp E α S.length H (.loc l) y → Dp E.K H y d
  | 0, _, _, e => by simp [toDL] at e
  | k + 1, l, d, e => by
    intro y r
    simp only [toDL] at e
    split at e
    · rename_i vs e1
      obtain ⟨ds, e2, e3⟩ := Option.map_eq_some_iff.mp e
      subst e3
      obtain ⟨xs, e4, e5⟩ := R.obj l _ e1
      simp only [Rp] at r
      rw [r.2]
      exact .lst (.of e4) (rd_toDws (rd_toDL R k) vs xs ds e5 e2)
    · cases e
theorem rd_toD (R : Rel E α S H) {d : PyData} (r : Rp E α S.length H v x) (e : toD S v = some d) : Dp E.K H x d := rd_toDw (rd_toDL R 6) v x d r e
theorem eq_rd (R : Rel E α S H) (rv : Rp E α S.length H v x) (rw' : Rp E α S.length H w y) {b : Bool} (e : eqS S v w = some b) : ∃ d e, Dp E.K H x d ∧ Dp E.K H y e ∧ SeqAt.shaped d = true ∧ SeqAt.shaped e = true ∧ b = PyData.eqv d e := by
  unfold eqS at e
  split at e
  · rename_i d e' e1 e2
    split at e
    · rename_i hs
      cases e
      exact ⟨d, e', rd_toD R rv e1, rd_toD R rw' e2, hs.1, hs.2, rfl⟩
    · cases e
  · cases e
end
end PM
end
section
namespace PM
open PySem L2 PySem.Spec PyProof.Rows
section
variable {E : Cfg} {W : WX} {X : Cx} {σ : L2.St} {H : Hp} {Q : VK} {ma mb mc : Env → Sto → Res PV} {a b c : Expr} {pos : Pos}
theorem two {f : PV → PV → Sto → Res PV} (h : tE E W (fun ρ S => (ma ρ S).bind fun x S1 => (mb ρ S1).bind fun y S2 => f x y S2) σ H Q) {r : R2}
    (k : ∀ α S v w x y H, Rel E α S H → Rp E α S.length H v x → Rp E α S.length H w y → Kt E W (Rp E) α S σ H (f v w S) Q → r x y H Q) : tOp r (tE E W ma) (tE E W mb) σ H Q := by
  refine tG.first (R := Rp E) (f := fun x ρ S => (mb ρ S).bind fun y S2 => f x y S2) h fun α ρ S v x H1 R en rv kt => ?_
  refine ⟨α, ρ, S, R, en, Kt.bind kt fun w S1 α1 y H2 e R1 rw' kt => ?_⟩
  exact k α1 S1 v w x y H2 R1 (rv.ext e) rw' kt
theorem one {f : PV → Sto → Res PV} (h : tE E W (fun ρ S => (ma ρ S).bind fun x S1 => f x S1) σ H Q) {r : V → Hp → Prop}
    (k : ∀ α S v x H, Rel E α S H → Rp E α S.length H v x → Kt E W (Rp E) α S σ H (f v S) Q → r x H) : tE E W ma σ H r :=
  tG.first (R := Rp E) (f := fun x _ S => f x S) h fun α ρ S v x H1 R en rv kt => k α S v x H1 R rv kt
theorem many {ms : Env → Sto → Res (List PV)} {f : List PV → Sto → Res PV} (h : tE E W (fun ρ S => (ms ρ S).bind fun x S1 => f x S1) σ H Q) {r : List V → Hp → Prop}
    (k : ∀ α S vs xs H, Rel E α S H → RpL E α S.length H vs xs → Kt E W (Rp E) α S σ H (f vs S) Q → r xs H) : tA E W ms σ H r :=
  tG.first (R := Rp E) (f := fun x _ S => f x S) h fun α ρ S v x H1 R en rv kt => k α S v x H1 R rv kt

theorem s_int {i : Int} {j : Nat} {pos : Pos} : PE X (.Constant (.int i) j pos) (tE E W fun _ S => .ok (.int i) S) := PE.imp pe_int fun σ H Q ⟨α, ρ, S, R, _, kt⟩ => is_int kt R
theorem s_bl {i : Bool} {j : Nat} {pos : Pos} : PE X (.Constant (.bool i) j pos) (tE E W fun _ S => .ok (.bl i) S) := PE.imp pe_bl fun σ H Q ⟨α, ρ, S, R, _, kt⟩ => is_bl kt R
theorem s_str {i : Str} {j : Nat} {pos : Pos} : PE X (.Constant (.str i) j pos) (tE E W fun _ S => .ok (.str i) S) := PE.imp pe_str fun σ H Q ⟨α, ρ, S, R, _, kt⟩ => is_str kt R
theorem s_non {j : Nat} {pos : Pos} : PE X (.Constant .none j pos) (tE E W fun _ S => .ok .non S) := PE.imp pe_non fun σ H Q ⟨α, ρ, S, R, _, kt⟩ => is_non kt R
theorem s_var {i : Nat} {x : Str} {pos : Pos} (hN : X.N[i]? = some x) (hv : Vis X.env.scope x) (hd : (x == ("__debug__" : Str)) = false) (hcd : (x == ("__classdict__" : Str)) = false) :
    PE X (.Name x pos) (tE E W fun ρ S => match ρ[i]? with | some (some v) => .ok v S | _ => .bad) := PE.imp (pe_var hN hv hd hcd) fun σ H Q ⟨α, ρ, S, R, en, kt⟩ => by
  change Kt E W (Rp E) α S σ H (match ρ[i]? with | some (some v) => .ok v S | _ => .bad) Q at kt
  split at kt
  · rename_i v e
    obtain ⟨y, e2, r⟩ := en.at_ i v e
    exact ⟨y, e2, kt.here R r⟩
  · exact kt.elim
theorem s_pow {i j : Nat} {k k2 : Nat} {p1 p2 pos : Pos} (hi : i < 2 ^ 64) (hj : j ≤ 1000) : PE X (.BinOp (.Constant (.int i) k p1) .Pow (.Constant (.int j) k2 p2) pos) (tE E W fun _ S => .ok (.int ((i : Int) ^ j)) S) :=
  PE.imp (pe_op op_pow pe_int pe_int) fun σ H Q ⟨α, ρ, S, R, _, kt⟩ => ⟨_, _, rfl, rfl, ⟨by omega, by omega, by simpa using hi⟩, by
    have := is_int kt R
    simpa using this⟩

def opB : BOp → Operator | .add => .Add | .sub => .Sub | .mul => .Mult | .fdiv => .FloorDiv | .mod => .Mod
theorem s_bop {o : BOp} (ha : PE X a (tE E W ma)) (hb : PE X b (tE E W mb)) (hK : X.K = E.K) : PE X (.BinOp a (opB o) b pos) (tE E W fun ρ S => (ma ρ S).bind fun x S1 => (mb ρ S1).bind fun y S2 => bopV o S2 x y) := by
  cases o with
  | add => exact PE.imp (pe_op or_add ha hb) fun σ H Q h => two (f := fun x y S => addV S x y) h fun α S v w x y H R rv rw' kt => by rw [hK]; exact add_rd R rv rw' kt
  | sub => exact PE.imp (pe_op op_sub ha hb) fun σ H Q h => two (f := fun x y S => subV S x y) h fun α S v w x y H R rv rw' kt => sub_rd R rv rw' kt
  | mul => exact PE.imp (pe_op or_mul ha hb) fun σ H Q h => two (f := fun x y S => mulV S x y) h fun α S v w x y H R rv rw' kt => by rw [hK]; exact mul_rd R rv rw' kt
  | fdiv => exact PE.imp (pe_op op_fdiv ha hb) fun σ H Q h => two (f := fun x y S => fdivV S x y) h fun α S v w x y H R rv rw' kt => fdiv_rd R rv rw' kt
  | mod => exact PE.imp (pe_op op_mod ha hb) fun σ H Q h => two (f := fun x y S => modV S x y) h fun α S v w x y H R rv rw' kt => mod_rd R rv rw' kt

def rInT (K : PySem.W.Frag) : R2 := fun x y H Q => ∃ d ds, Dp K H x d ∧ Dp K H y (.tuple ds) ∧ SeqAt.shaped d = true ∧ SeqAt.shaped (.list ds) = true ∧ Q (.bl (ds.any fun z => PyData.eqv z d)) H
theorem op_inT (hu : X.A.units + 65 < cLine) : OpR X (compareOp .In) (rInT X.K) := by
  intro pins s σ H x y v u Q I rx ry h
  obtain ⟨d, ds, hd, he, sd, se, q⟩ := h
  obtain ⟨as, r1⟩ := Dp.reads I d x v hd rx
  obtain ⟨bs, r2⟩ := Dp.reads I (.tuple ds) y u he ry
  have hl : PyData.canLayAll0 ds = true := SeqAt.canLay_of_shaped se
  exact SeqAt.in_tuple_reads r2 r1 hl (SeqAt.canLay_of_shaped sd) (room_in_shaped sd hu) ⟨.bl _, H, I, rfl, q⟩
def rNinT (K : PySem.W.Frag) : R2 := fun x y H Q => ∃ d ds, Dp K H x d ∧ Dp K H y (.tuple ds) ∧ SeqAt.shaped d = true ∧ SeqAt.shaped (.list ds) = true ∧ Q (.bl (!ds.any fun z => PyData.eqv z d)) H
theorem op_ninT (hu : X.A.units + 65 < cLine) : OpR X (compareOp .NotIn) (rNinT X.K) := by
  intro pins s σ H x y v u Q I rx ry h
  obtain ⟨d, ds, hd, he, sd, se, q⟩ := h
  obtain ⟨as, r1⟩ := Dp.reads I d x v hd rx
  obtain ⟨bs, r2⟩ := Dp.reads I (.tuple ds) y u he ry
  have hl : PyData.canLayAll0 ds = true := SeqAt.canLay_of_shaped se
  exact SeqAt.notIn_tuple_reads r2 r1 hl (SeqAt.canLay_of_shaped sd) (room_in_shaped sd hu) ⟨.bl _, H, I, rfl, q⟩
def rSign (neg : Bool) : R2 := fun x y H Q => ∃ (c : Nat) (z : Str), x = .str ⟨#[c]⟩ ∧ y = .str z ∧ Q (.bl (if neg = true then !decide (c ∈ z.cps.toList) else decide (c ∈ z.cps.toList))) H
theorem op_sign : OpR X (compareOp .In) (rSign false) := op_in_sign
theorem op_nsign : OpR X (compareOp .NotIn) (rSign true) := op_notIn_sign
def rIsA : R2 := fun x y H Q => (∃ a b, x = .bl a ∧ y = .bl b ∧ Q (.bl (decide (a = b))) H) ∨ (y = .non ∧ Q (.bl (decide (x = .non))) H)
def rIsntA : R2 := fun x y H Q => (∃ a b, x = .bl a ∧ y = .bl b ∧ Q (.bl (!decide (a = b))) H) ∨ (y = .non ∧ Q (.bl (!decide (x = .non))) H)
theorem op_isA : OpR X (compareOp .Is) rIsA := op_is_bl.or op_isN
theorem op_isntA : OpR X (compareOp .IsNot) rIsntA := op_isnot_bl.or op_notN
def rDIn (neg : Bool) : R2 := fun x y H Q => ∃ a o, y = .ref a ∧ DGet H a x o ∧ Q (.bl (if neg = true then !o.isSome else o.isSome)) H
theorem op_dIn (hu : X.A.units + 1 < cLine) : OpR X (compareOp .In) (rDIn false) := by
  intro pins s σ H x y v u Q I rx ry h
  obtain ⟨a, o, rfl, g, q⟩ := h
  cases ry
  exact d_in hu I g rx fun s' I' => ⟨.bl _, H, I', rfl, by simpa using q⟩
theorem op_dNin (hu : X.A.units + 1 < cLine) : OpR X (compareOp .NotIn) (rDIn true) := by
  intro pins s σ H x y v u Q I rx ry h
  obtain ⟨a, o, rfl, g, q⟩ := h
  cases ry
  exact d_notIn hu I g rx fun s' I' => ⟨.bl _, H, I', rfl, by simpa using q⟩
def opC : COp → CmpOp | .eq => .Eq | .ne => .NotEq | .lt => .Lt | .le => .LtE | .gt => .Gt | .ge => .GtE | .isin => .In | .nin => .NotIn | .is => .Is | .isnt => .IsNot
def rC (K : PySem.W.Frag) : COp → R2
  | .eq => rEqD K
  | .ne => rNeD K
  | .lt => rI0 fun i j => .bl (decide (i < j))
  | .le => rI0 fun i j => .bl (decide (i ≤ j))
  | .gt => rI0 fun i j => .bl (decide (j < i))
  | .ge => rI0 fun i j => .bl (decide (j ≤ i))
  | .isin => fun x y H Q => rSign false x y H Q ∨ rInD K x y H Q ∨ rInT K x y H Q ∨ rDIn false x y H Q
  | .nin => fun x y H Q => rSign true x y H Q ∨ rNotInD K x y H Q ∨ rNinT K x y H Q ∨ rDIn true x y H Q
  | .is => rIsA
  | .isnt => rIsntA
theorem or_cmp (hu : X.A.units + 65 < cLine) : ∀ o : COp, OpR X (compareOp (opC o)) (rC X.K o)
  | .eq => op_eqD (by omega)
  | .ne => op_neD (by omega)
  | .lt => op_lt
  | .le => op_le
  | .gt => op_gt
  | .ge => op_ge
  | .isin => op_sign.or ((op_inD hu).or ((op_inT hu).or (op_dIn (by omega))))
  | .nin => op_nsign.or ((op_notInD hu).or ((op_ninT hu).or (op_dNin (by omega))))
  | .is => op_isA
  | .isnt => op_isntA
section
variable {α : Nat → Addr} {S : Sto} {v w : PV} {x y : V}
theorem ord_rd {p : Int → Int → Bool} (R : Rel E α S H) (rv : Rp E α S.length H v x) (rw' : Rp E α S.length H w y) {k : Bool} (e : ordV p v w = some k) (q : Q (.bl k) H) : (rI0 fun i j => .bl (p i j)) x y H Q := by
  unfold ordV at e
  split at e
  · cases e
    simp only [Rp] at rv rw'
    exact ⟨_, _, rv, rw', q⟩
  · cases e
theorem any_rd (R : Rel E α S H) {ws : List PV} {ys : List V} (rv : Rp E α S.length H v x) (rw' : RpL E α S.length H ws ys) {k : Bool} (e : anyEq S v ws = some k) :
    ∃ d ds, Dp E.K H x d ∧ DpAll E.K H ys ds ∧ SeqAt.shaped d = true ∧ SeqAt.shaped (.list ds) = true ∧ k = ds.any fun z => PyData.eqv z d := by
  unfold anyEq at e
  split at e
  · rename_i d ds e1 e2
    split at e
    · rename_i hs
      cases e
      exact ⟨d, ds, rd_toD R rv e1, rd_toDws (rd_toDL R 6) ws ys ds rw' e2, hs.1, hs.2, rfl⟩
    · cases e
  · cases e
theorem in_rd (R : Rel E α S H) (rv : Rp E α S.length H v x) (rw' : Rp E α S.length H w y) {k : Bool} (e : inV S v w = some k) :
    (∃ (c : Nat) (z : Str), x = .str ⟨#[c]⟩ ∧ y = .str z ∧ k = decide (c ∈ z.cps.toList)) ∨ (∃ d ds, Dp E.K H x d ∧ (Dp E.K H y (.list ds) ∨ Dp E.K H y (.tuple ds)) ∧ SeqAt.shaped d = true ∧ SeqAt.shaped (.list ds) = true ∧ k = ds.any fun z => PyData.eqv z d) ∨ (∃ l, w = .loc l ∧ (∀ ys, S[l]? ≠ some (.lst ys)) ∧ (dfind S l v).map (·.isSome) = some k) := by
  unfold inV at e
  split at e
  · split at e
    · rename_i t
      split at e
      · rename_i c ec
        cases e
        simp only [Rp] at rv rw'
        refine .inl ⟨c, _, ?_, rw', rfl⟩
        obtain ⟨cps⟩ := t
        have : cps = #[c] := by
          have h2 : cps.toList = (#[c] : Array Nat).toList := ec
          exact Array.toList_inj.mp h2
        rw [rv, this]
      · cases e
    · cases e
  · obtain ⟨a, xs, rfl, ha, r1⟩ := rd_tup rw'
    obtain ⟨d, ds, h1, h2, h3, h4, h5⟩ := any_rd R rv r1 e
    exact .inr (.inl ⟨d, ds, h1, .inr (.tup ha h2), h3, h4, h5⟩)
  · simp only [Rp] at rw'
    obtain ⟨a, xs, rfl, ha, _, r1⟩ := rw'
    obtain ⟨d, ds, h1, h2, h3, h4, h5⟩ := any_rd R rv r1 e
    exact .inr (.inl ⟨d, ds, h1, .inl (.lst (.of ha) h2), h3, h4, h5⟩)
  · simp only [Rp] at rw'
    obtain ⟨a, xs, rfl, hz, r1⟩ := rw'
    have ha := hz.sq
    obtain ⟨d, ds, h1, h2, h3, h4, h5⟩ := any_rd R rv r1 e
    exact .inr (.inl ⟨d, ds, h1, .inl (.lst ha h2), h3, h4, h5⟩)
  · rename_i l
    split at e
    · rename_i ys e1
      obtain ⟨xs, ha, r1⟩ := R.obj l _ e1
      simp only [Rp] at rw'
      obtain ⟨d, ds, h1, h2, h3, h4, h5⟩ := any_rd R rv r1 e
      exact .inr (.inl ⟨d, ds, h1, .inl (by rw [rw'.2]; exact .lst (.of ha) h2), h3, h4, h5⟩)
    · rename_i hn
      exact .inr (.inr ⟨l, rfl, hn, e⟩)
  · cases e
theorem rp_non {n : Nat} (rv : Rp E α n H v x) : decide (v = .non) = decide (x = V.non) := by
  cases v <;> simp only [Rp] at rv
  case non => rw [rv]; rfl
  case bl => rw [rv]; rfl
  case int => rw [rv]; rfl
  case str => rw [rv]; rfl
  case tup => obtain ⟨a, xs, e, _⟩ := rv; rw [e]; rfl
  case lst => obtain ⟨a, xs, e, _⟩ := rv; rw [e]; rfl
  case ro => obtain ⟨a, xs, e, _⟩ := rv; rw [e]; rfl
  case obj => obtain ⟨a, dx, fs, e, _⟩ := rv; rw [e]; rfl
  case loc => rw [rv.2]; rfl
theorem is_rd (rv : Rp E α S.length H v x) (rw' : Rp E α S.length H w y) {k : Bool} (e : isV v w = some k) : (∃ a b, x = .bl a ∧ y = .bl b ∧ k = decide (a = b)) ∨ (y = .non ∧ k = decide (x = V.non)) := by
  unfold isV at e
  split at e
  · cases e
    simp only [Rp] at rv rw'
    exact .inl ⟨_, _, rv, rw', rfl⟩
  · cases e
    simp only [Rp] at rw'
    exact .inr ⟨rw', rp_non rv⟩
  · cases e
theorem rd_dic (R : Rel E α S H) {l : Nat} {kvs : List (PV × PV)} (e : S[l]? = some (.dic kvs)) : ∃ ks, H (α l) = some (.dK ks) ∧ DF E α S.length H kvs ks := R.obj l _ e
theorem keyF_kV {n : Nat} {k : Key} (rv : Rp E α n H v x) (e : keyF v = some k) : x = kV k := by
  unfold keyF at e
  split at e
  · cases e; simp only [Rp] at rv; exact rv
  · cases e; simp only [Rp] at rv; exact rv
  · cases e
theorem DF.find {n : Nat} : ∀ {kvs : List (PV × PV)} {ks : List (Key × V)} (k : Key), DF E α n H kvs ks → match findF kvs k with
    | some v => ∃ y, valV ks k = some y ∧ Rp E α n H v y
    | none => valV ks k = none
  | [], _, k, h => by
    have h : _ = [] := h
    subst h; rfl
  | p :: r, _, k, h => by
    obtain ⟨k', y, ks', e, h1, h2, h3⟩ := h
    subst e
    by_cases hk : k' = k
    · subst hk
      have e1 : findF (p :: r) k' = some p.2 := by simp [findF, h1]
      rw [e1]
      exact ⟨y, valV_pos rfl, h2⟩
    · have e1 : findF (p :: r) k = findF r k := by simp [findF, h1, hk]
      rw [e1, valV_neg (show ¬ (k', y).1 = k from hk)]
      exact DF.find k h3
theorem dfind_rd (R : Rel E α S H) {l : Nat} (rv : Rp E α S.length H v x) {o : Option PV} (e : dfind S l v = some o) : match o with
    | some z => ∃ y, DGet H (α l) x (some y) ∧ Rp E α S.length H z y
    | none => DGet H (α l) x none := by
  unfold dfind at e
  split at e
  · rename_i kvs e1
    obtain ⟨ks, h1, h2⟩ := rd_dic R e1
    obtain ⟨k, e2, e3⟩ := Option.map_eq_some_iff.mp e
    have hx := keyF_kV rv e2
    subst hx
    have q := DF.find k h2
    rw [e3] at q
    cases o with
    | some z =>
      obtain ⟨y, q1, q2⟩ := q
      exact ⟨y, by rw [← q1]; exact DGet.k h1, q2⟩
    | none =>
      have q : valV ks k = none := q
      show DGet H (α l) (kV k) none
      rw [← q]; exact DGet.k h1
  · rename_i kvs e1
    exact (R.obj l _ e1).elim
  · cases e
theorem cmp_rd (R : Rel E α S H) (rv : Rp E α S.length H v x) (rw' : Rp E α S.length H w y) {o : COp} {k : Bool} (e : cmpV o S v w = some k) (q : Q (.bl k) H) : rC E.K o x y H Q := by
  cases o with
  | eq =>
    obtain ⟨d, e', h1, h2, h3, h4, h5⟩ := eq_rd R rv rw' e
    exact ⟨d, e', h1, h2, h3, h4, h5 ▸ q⟩
  | ne =>
    obtain ⟨b, e1, e2⟩ := Option.map_eq_some_iff.mp (show (eqS S v w).map (!·) = some k from e)
    obtain ⟨d, e', h1, h2, h3, h4, h5⟩ := eq_rd R rv rw' e1
    refine ⟨d, e', h1, h2, h3, h4, ?_⟩
    rw [← h5, e2]; exact q
  | lt => exact ord_rd R rv rw' e q
  | le => exact ord_rd R rv rw' e q
  | gt => exact ord_rd R rv rw' e q
  | ge => exact ord_rd R rv rw' e q
  | isin =>
    rcases in_rd R rv rw' e with ⟨c, z, h1, h2, h3⟩ | ⟨d, ds, h1, h2 | h2, h3, h4, h5⟩ | ⟨l, h1, h2, h3⟩
    · exact .inl ⟨c, z, h1, h2, by rw [if_neg (by decide)]; exact h3 ▸ q⟩
    · exact .inr (.inl ⟨d, ds, h1, h2, h3, h4, h5 ▸ q⟩)
    · exact .inr (.inr (.inl ⟨d, ds, h1, h2, h3, h4, h5 ▸ q⟩))
    · subst h1
      obtain ⟨o, e1, e2⟩ := Option.map_eq_some_iff.mp h3
      have g := dfind_rd R rv e1
      simp only [Rp] at rw'
      refine .inr (.inr (.inr ?_))
      cases o with
      | some z =>
        obtain ⟨y', g1, _⟩ := g
        exact ⟨_, _, rw'.2, g1, by rw [if_neg (by decide)]; rw [← e2] at q; exact q⟩
      | none => exact ⟨_, _, rw'.2, g, by rw [if_neg (by decide)]; rw [← e2] at q; exact q⟩
  | nin =>
    obtain ⟨b, e1, e2⟩ := Option.map_eq_some_iff.mp (show (inV S v w).map (!·) = some k from e)
    rcases in_rd R rv rw' e1 with ⟨c, z, h1, h2, h3⟩ | ⟨d, ds, h1, h2 | h2, h3, h4, h5⟩ | ⟨l, h1, h2, h3⟩
    · exact .inl ⟨c, z, h1, h2, by rw [if_pos rfl, ← h3, e2]; exact q⟩
    · exact .inr (.inl ⟨d, ds, h1, h2, h3, h4, by rw [← h5, e2]; exact q⟩)
    · exact .inr (.inr (.inl ⟨d, ds, h1, h2, h3, h4, by rw [← h5, e2]; exact q⟩))
    · subst h1
      obtain ⟨o, e3, e4⟩ := Option.map_eq_some_iff.mp h3
      have g := dfind_rd R rv e3
      simp only [Rp] at rw'
      refine .inr (.inr (.inr ?_))
      subst e4
      cases o with
      | some z =>
        obtain ⟨y', g1, _⟩ := g
        exact ⟨_, _, rw'.2, g1, by rw [if_pos rfl]; rw [← e2] at q; exact q⟩
      | none => exact ⟨_, _, rw'.2, g, by rw [if_pos rfl]; rw [← e2] at q; exact q⟩
  | is =>
    rcases is_rd rv rw' e with ⟨a, b, h1, h2, h3⟩ | ⟨h1, h2⟩
    · exact .inl ⟨a, b, h1, h2, h3 ▸ q⟩
    · exact .inr ⟨h1, h2 ▸ q⟩
  | isnt =>
    obtain ⟨b, e1, e2⟩ := Option.map_eq_some_iff.mp (show (isV v w).map (!·) = some k from e)
    rcases is_rd rv rw' e1 with ⟨a, b', h1, h2, h3⟩ | ⟨h1, h2⟩
    · exact .inl ⟨a, b', h1, h2, by rw [← h3, e2]; exact q⟩
    · exact .inr ⟨h1, by rw [← h2, e2]; exact q⟩
end
end
end PM
end
section
namespace PM
open PySem L2 PySem.Spec PyProof.Rows
section
variable {E : Cfg} {W : WX} {X : Cx} {σ : L2.St} {H : Hp} {Q : VK} {α : Nat → Addr} {S : Sto} {v w : PV} {x y : V}
theorem isE {vs : List PV} {xs : List V} {n : Nat} (r : RpL E α n H vs xs) : vs.isEmpty = xs.isEmpty := by
  cases vs with
  | nil => simp only [RpL] at r; rw [r]; rfl
  | cons a b => simp only [RpL] at r; obtain ⟨y, ys, e, _⟩ := r; rw [e]; rfl
theorem truth_rd (R : Rel E α S H) (rv : Rp E α S.length H v x) {k : Bool} (e : truth S v = some k) : TruV E.K x H k := by
  unfold truth at e
  split at e
  · cases e; simp only [Rp] at rv; subst rv; rfl
  · cases e; simp only [Rp] at rv; subst rv; rfl
  · cases e; simp only [Rp] at rv; subst rv; rfl
  · simp only [Rp] at rv; subst rv
    split at e
    · rename_i hl
      cases e
      refine ⟨by rw [← lim_eq]; exact hl, ?_⟩
      rename_i z
      cases hz : z.length with
      | zero => rfl
      | succ n =>
        show (n + 1 != 0) = (((n + 1 : Nat) : Int) != 0)
        rw [Bool.eq_iff_iff]
        simp only [bne_iff_ne, ne_eq]
        omega
    · cases e
  · cases e
    obtain ⟨a, xs, rfl, ha, r⟩ := rd_tup rv
    exact .inr (.inl ⟨xs, ha, by rw [isE r]⟩)
  · cases e
    simp only [Rp] at rv
    obtain ⟨a, xs, rfl, ha, _, r⟩ := rv
    exact .inl ⟨xs, .of ha, by rw [isE r]⟩
  · cases e
    simp only [Rp] at rv
    obtain ⟨a, xs, rfl, hz, r⟩ := rv
    have ha := hz.sq
    exact .inl ⟨xs, ha, by rw [isE r]⟩
  · split at e
    · rename_i e1
      cases e
      obtain ⟨xs, ha, r⟩ := R.obj _ _ e1
      simp only [Rp] at rv
      rw [rv.2]
      exact .inl ⟨xs, .of ha, by rw [isE r]⟩
    · cases e
  · cases e

def bV (m : Env → Sto → Res PV) : Env → Sto → Res Bool := fun ρ S => (m ρ S).bind fun v S1 => .opt (truth S1 v) fun k => .ok k S1
structure Snd (E : Cfg) (W : WX) (X : Cx) (e : Expr) (m : Env → Sto → Res PV) : Prop where
  pe : PE X e (tE E W m)
  pt : PT X e (tB E W (bV m))
def plainT : Expr → Bool
  | .UnaryOp .Not _ _ => false
  | .BoolOp _ _ _ => false
  | .IfExp _ _ _ _ => false
  | .Compare _ _ _ _ => false
  | _ => true
theorem plainT_is {e : Expr} {env : PySem.Env} (h : plainT e = true) : ∀ whole, isTrue e env whole = (do let v ← whole; standAt e.pos; holding [v] (truthy v)) := by
  intro whole
  cases e with
  | UnaryOp op a pos => cases op <;> first | rfl | simp [plainT] at h
  | BoolOp _ _ _ => simp [plainT] at h
  | IfExp _ _ _ _ => simp [plainT] at h
  | Compare _ _ _ _ => simp [plainT] at h
  | _ => rfl
theorem tB_of {m : Env → Sto → Res PV} {Q : Bool → Hp → Prop} (h : tB E W (bV m) σ H Q) : tE E W m σ H fun x H' => ∃ k, TruV E.K x H' k ∧ Q k H' := by
  refine tG.first (R := RB) (f := fun v _ S1 => .opt (truth S1 v) fun k => .ok k S1) h fun α ρ S v x H1 R en rv kt => ?_
  obtain ⟨k, e, kt⟩ := kt.opt
  exact ⟨k, truth_rd R rv e, kt.here R rfl⟩
theorem Snd.of {e : Expr} {m : Env → Sto → Res PV} (hK : X.K = E.K) (h : PE X e (tE E W m)) (p : plainT e = true) : Snd E W X e m :=
  ⟨h, PT.imp (pt_truth h (plainT_is p)) fun σ H Q q => by rw [hK]; exact tB_of q⟩

variable {ma mb mc : Env → Sto → Res PV} {a b c : Expr} {pos : Pos} {es : List Expr}
def andV (ma mb : Env → Sto → Res PV) : Env → Sto → Res PV := fun ρ S => (ma ρ S).bind fun x S1 => match x with
    | .bl true => mb ρ S1
    | .bl false => .ok (.bl false) S1
    | _ => .bad
def orV (ma mb : Env → Sto → Res PV) : Env → Sto → Res PV := fun ρ S => (ma ρ S).bind fun x S1 => match x with
    | .bl false => mb ρ S1
    | .bl true => .ok (.bl true) S1
    | _ => .bad
structure SndB (E : Cfg) (W : WX) (X : Cx) (op : BoolOp) (es : List Expr) (pos : Pos) (m : Env → Sto → Res PV) : Prop where
  pe : PE X (.BoolOp op es pos) (tE E W m)
  pw : PW X (.BoolOp op es pos) (tB E W (bV m))
theorem SndB.one {op : BoolOp} (h : Snd E W X a ma) : SndB E W X op [a] pos ma := ⟨pe_one h.pe, by cases op; exact pw_and1 h.pt; exact pw_or1 h.pt⟩
theorem SndB.snd {op : BoolOp} (h : SndB E W X op es pos ma) : Snd E W X (.BoolOp op es pos) ma := ⟨h.pe, h.pw.pt⟩
theorem PW.imp {e : Expr} {t t' : TT} (h : PW X e t) (k : ∀ σ H Q, t' σ H Q → t σ H Q) : PW X e t' := ⟨fun wh pins s σ H Q I q => h.run wh pins s σ H Q I (k σ H Q q)⟩
theorem Res.bind_assoc {α β γ : Type} (m : Res α) (f : α → Sto → Res β) (g : β → Sto → Res γ) : (m.bind f).bind g = m.bind fun a S => (f a S).bind g := by cases m <;> rfl
theorem bV_bind (f : PV → Env → Sto → Res PV) : bV (fun ρ S => (ma ρ S).bind fun x S1 => f x ρ S1) = fun ρ S => (ma ρ S).bind fun x S1 => bV (f x) ρ S1 := by
  funext ρ S
  unfold bV
  rw [Res.bind_assoc]
theorem SndB.and (ha : Snd E W X a ma) (hb : SndB E W X .And (b :: es) pos mb) : SndB E W X .And (a :: b :: es) pos (andV ma mb) where
  pe := PE.imp (pe_and ha.pe hb.pe) fun σ H Q h => by
    refine tG.first (R := Rp E) (f := fun x ρ S1 => match x with | .bl true => mb ρ S1 | .bl false => .ok (.bl false) S1 | _ => .bad) (show tE E W (fun ρ S => (ma ρ S).bind fun x S1 => match x with | .bl true => mb ρ S1 | .bl false => .ok (.bl false) S1 | _ => .bad) σ H Q from h) fun α ρ S v x H1 R en rv kt => ?_
    split at kt
    · simp only [Rp] at rv
      exact ⟨true, rv, by rw [if_pos rfl]; exact ⟨α, ρ, S, R, en, kt⟩⟩
    · simp only [Rp] at rv
      exact ⟨false, rv, by rw [if_neg (by decide)]; exact is_bl kt R⟩
    · exact kt.elim
  pw := PW.imp (pw_and ha.pt hb.pw) fun σ H Q h => by
    have e1 : bV (andV ma mb) = fun ρ S => (ma ρ S).bind fun x S1 => bV (fun ρ S1 => match x with | .bl true => mb ρ S1 | .bl false => .ok (.bl false) S1 | _ => .bad) ρ S1 := bV_bind (fun x ρ S1 => match x with | .bl true => mb ρ S1 | .bl false => .ok (.bl false) S1 | _ => .bad)
    rw [e1] at h
    have h2 : tB E W (fun ρ S => (bV ma ρ S).bind fun k S1 => if k = true then bV mb ρ S1 else .ok false S1) σ H Q := by
      obtain ⟨α, ρ, S, R, en, kt⟩ := h
      refine ⟨α, ρ, S, R, en, ?_⟩
      unfold bV
      dsimp only
      rw [Res.bind_assoc]
      dsimp only at kt
      cases hm : ma ρ S with
      | ok v S1 =>
        rw [hm] at kt
        simp only [Res.bind_ok] at kt ⊢
        cases v <;> first | exact kt.elim | skip
        rename_i k
        cases k <;> exact kt
      | exc c S1 => rw [hm] at kt; exact kt
      | bad => rw [hm] at kt; exact kt
    refine tG.first (R := RB) (f := fun k ρ S1 => if k = true then bV mb ρ S1 else .ok false S1) h2 fun α ρ S v k H1 R en rv kt => ?_
    have rv : k = v := rv
    subst rv
    cases k with
    | true => rw [if_pos rfl]; rw [if_pos rfl] at kt; exact ⟨α, ρ, S, R, en, kt⟩
    | false => rw [if_neg (by decide)]; rw [if_neg (by decide)] at kt; exact kt.here R rfl
theorem SndB.or (ha : Snd E W X a ma) (hb : SndB E W X .Or (b :: es) pos mb) : SndB E W X .Or (a :: b :: es) pos (orV ma mb) where
  pe := PE.imp (pe_or ha.pe hb.pe) fun σ H Q h => by
    refine tG.first (R := Rp E) (f := fun x ρ S1 => match x with | .bl false => mb ρ S1 | .bl true => .ok (.bl true) S1 | _ => .bad) (show tE E W (fun ρ S => (ma ρ S).bind fun x S1 => match x with | .bl false => mb ρ S1 | .bl true => .ok (.bl true) S1 | _ => .bad) σ H Q from h) fun α ρ S v x H1 R en rv kt => ?_
    split at kt
    · simp only [Rp] at rv
      exact ⟨false, rv, by rw [if_neg (by decide)]; exact ⟨α, ρ, S, R, en, kt⟩⟩
    · simp only [Rp] at rv
      exact ⟨true, rv, by rw [if_pos rfl]; exact is_bl kt R⟩
    · exact kt.elim
  pw := PW.imp (pw_or ha.pt hb.pw) fun σ H Q h => by
    have e1 : bV (orV ma mb) = fun ρ S => (ma ρ S).bind fun x S1 => bV (fun ρ S1 => match x with | .bl false => mb ρ S1 | .bl true => .ok (.bl true) S1 | _ => .bad) ρ S1 := bV_bind (fun x ρ S1 => match x with | .bl false => mb ρ S1 | .bl true => .ok (.bl true) S1 | _ => .bad)
    rw [e1] at h
    have h2 : tB E W (fun ρ S => (bV ma ρ S).bind fun k S1 => if k = true then .ok true S1 else bV mb ρ S1) σ H Q := by
      obtain ⟨α, ρ, S, R, en, kt⟩ := h
      refine ⟨α, ρ, S, R, en, ?_⟩
      unfold bV
      dsimp only
      rw [Res.bind_assoc]
      dsimp only at kt
      cases hm : ma ρ S with
      | ok v S1 =>
        rw [hm] at kt
        simp only [Res.bind_ok] at kt ⊢
        cases v <;> first | exact kt.elim | skip
        rename_i k
        cases k <;> exact kt
      | exc c S1 => rw [hm] at kt; exact kt
      | bad => rw [hm] at kt; exact kt
    refine tG.first (R := RB) (f := fun k ρ S1 => if k = true then .ok true S1 else bV mb ρ S1) h2 fun α ρ S v k H1 R en rv kt => ?_
    have rv : k = v := rv
    subst rv
    cases k with
    | true => rw [if_pos rfl]; rw [if_pos rfl] at kt; exact kt.here R rfl
    | false => rw [if_neg (by decide)]; rw [if_neg (by decide)] at kt; exact ⟨α, ρ, S, R, en, kt⟩
def notV (ma : Env → Sto → Res PV) : Env → Sto → Res PV := fun ρ S => (ma ρ S).bind fun x S1 => .opt (truth S1 x) fun k => .ok (.bl (!k)) S1
theorem s_not (hK : X.K = E.K) (ha : Snd E W X a ma) : Snd E W X (.UnaryOp .Not a pos) (notV ma) where
  pe := PE.imp (pe_notT ha.pe) fun σ H Q h => one (f := fun x S1 => .opt (truth S1 x) fun k => .ok (.bl (!k)) S1) h fun α S v x H R rv kt => by
    obtain ⟨k, e, kt⟩ := kt.opt
    exact ⟨k, by rw [hK]; exact truth_rd R rv e, is_bl kt R⟩
  pt := PT.imp (pt_not ha.pt) fun σ H Q h => by
    have h2 : tB E W (fun ρ S => (bV ma ρ S).bind fun k S1 => .ok (!k) S1) σ H Q := by
      obtain ⟨α, ρ, S, R, en, kt⟩ := h
      refine ⟨α, ρ, S, R, en, ?_⟩
      unfold bV notV at kt
      unfold bV
      dsimp only at kt ⊢
      rw [Res.bind_assoc] at kt ⊢
      cases hm : ma ρ S with
      | ok v S1 =>
        rw [hm] at kt
        simp only [Res.bind_ok] at kt ⊢
        cases ht : truth S1 v with
        | some k => rw [ht] at kt; exact kt
        | none => rw [ht] at kt; exact kt.elim
      | exc c S1 => rw [hm] at kt; exact kt
      | bad => rw [hm] at kt; exact kt
    refine tG.first (R := RB) (f := fun k ρ S1 => .ok (!k) S1) h2 fun α ρ S v k H1 R en rv kt => ?_
    have rv : k = v := rv
    subst rv
    exact kt.here R rfl
theorem s_neg (ha : PE X a (tE E W ma)) : PE X (.UnaryOp .USub a pos) (tE E W fun ρ S => (ma ρ S).bind fun x S1 => match x with | .int i => .ok (.int (-i)) S1 | _ => .bad) :=
  PE.imp (pe_un un_neg ha) fun σ H Q h => one (f := fun x S1 => match x with | .int i => .ok (.int (-i)) S1 | _ => .bad) h fun α S v x H R rv kt => by
    split at kt
    · simp only [Rp] at rv
      exact ⟨_, rv, is_int kt R⟩
    · exact kt.elim
def cmpM (o : COp) (ma mb : Env → Sto → Res PV) : Env → Sto → Res PV := fun ρ S => (ma ρ S).bind fun x S1 => (mb ρ S1).bind fun y S2 => .opt (cmpV o S2 x y) fun k => .ok (.bl k) S2
theorem cmpM_bl (o : COp) (ma mb : Env → Sto → Res PV) (ρ : Env) (S : Sto) : (∃ k S1, cmpM o ma mb ρ S = .ok (.bl k) S1) ∨ (∃ c S1, cmpM o ma mb ρ S = .exc c S1) ∨ cmpM o ma mb ρ S = .bad := by
  unfold cmpM
  cases ma ρ S with
  | bad => exact .inr (.inr rfl)
  | exc c S1 => exact .inr (.inl ⟨c, S1, rfl⟩)
  | ok v S1 =>
    rw [Res.bind_ok]
    cases mb ρ S1 with
    | bad => exact .inr (.inr rfl)
    | exc c S1 => exact .inr (.inl ⟨c, S1, rfl⟩)
    | ok w S2 =>
      rw [Res.bind_ok]
      cases cmpV o S2 v w with
      | none => exact .inr (.inr rfl)
      | some k => exact .inl ⟨k, S2, rfl⟩
theorem s_cmp {o : COp} (hK : X.K = E.K) (hu : X.A.units + 65 < cLine) (ha : PE X a (tE E W ma)) (hb : PE X b (tE E W mb)) (hm : behindInMarks (opC o) b = false) : Snd E W X (.Compare a [opC o] [b] pos) (cmpM o ma mb) where
  pe := PE.imp (pe_cmpR (or_cmp hu o) ha hb hm) fun σ H Q h => two (f := fun x y S => .opt (cmpV o S x y) fun k => .ok (.bl k) S) h fun α S v w x y H R rv rw' kt => by
    obtain ⟨k, e, kt⟩ := kt.opt
    rw [hK]; exact cmp_rd R rv rw' e (is_bl kt R)
  pt := PT.imp (pt_cmpR (or_cmp hu o) ha hb hm) fun σ H Q h => by
    have h2 : tE E W (fun ρ S => (ma ρ S).bind fun x S1 => (mb ρ S1).bind fun y S2 => .opt (cmpV o S2 x y) fun k => .ok (.bl k) S2) σ H (fun x H' => ∃ k, x = .bl k ∧ Q k H') := by
      obtain ⟨α, ρ, S, R, en, kt⟩ := h
      refine ⟨α, ρ, S, R, en, ?_⟩
      show Kt E W (Rp E) α S σ H (cmpM o ma mb ρ S) _
      have kt : Kt E W RB α S σ H ((cmpM o ma mb ρ S).bind fun v S1 => .opt (truth S1 v) fun k => .ok k S1) Q := kt
      rcases cmpM_bl o ma mb ρ S with ⟨k, S1, e⟩ | ⟨c, S1, e⟩ | e
      · rw [e] at kt ⊢
        exact fun α' x H' e1 R1 rv => ⟨k, by simpa only [Rp] using rv, kt α' k H' e1 R1 rfl⟩
      · rw [e] at kt ⊢; exact kt
      · rw [e] at kt; exact kt.elim
    exact two (f := fun x y S => .opt (cmpV o S x y) fun k => .ok (.bl k) S) h2 fun α S v w x y H R rv rw' kt => by
      obtain ⟨k, e, kt⟩ := kt.opt
      rw [hK]; exact cmp_rd R rv rw' e (is_bl kt R)
end
end PM
end
section
namespace PM
open PySem L2 PySem.Spec PyProof.Rows
section
variable {E : Cfg} {W : WX} {X : Cx} {σ : L2.St} {H : Hp} {Q : VK} {ma mb mc : Env → Sto → Res PV} {a b c : Expr} {pos : Pos}
def cmp2M (o o' : COp) (ma mb mc : Env → Sto → Res PV) : Env → Sto → Res PV := fun ρ S => (ma ρ S).bind fun x S1 => (mb ρ S1).bind fun y S2 => .opt (cmpV o S2 x y) fun k =>
      if k = true then (mc ρ S2).bind fun z S3 => .opt (cmpV o' S3 y z) fun k' => .ok (.bl k') S3 else .ok (.bl false) S2
theorem cmp2M_bl (o o' : COp) (ma mb mc : Env → Sto → Res PV) (ρ : Env) (S : Sto) : (∃ k S1, cmp2M o o' ma mb mc ρ S = .ok (.bl k) S1) ∨ (∃ c S1, cmp2M o o' ma mb mc ρ S = .exc c S1) ∨ cmp2M o o' ma mb mc ρ S = .bad := by
  unfold cmp2M
  cases ma ρ S with
  | bad => exact .inr (.inr rfl)
  | exc c S1 => exact .inr (.inl ⟨c, S1, rfl⟩)
  | ok v S1 =>
    rw [Res.bind_ok]
    cases mb ρ S1 with
    | bad => exact .inr (.inr rfl)
    | exc c S1 => exact .inr (.inl ⟨c, S1, rfl⟩)
    | ok w S2 =>
      rw [Res.bind_ok]
      cases cmpV o S2 v w with
      | none => exact .inr (.inr rfl)
      | some k =>
        cases k with
        | false => exact .inl ⟨false, S2, rfl⟩
        | true =>
          simp only [Res.opt, if_true]
          cases mc ρ S2 with
          | bad => exact .inr (.inr rfl)
          | exc c S1 => exact .inr (.inl ⟨c, S1, rfl⟩)
          | ok z S3 =>
            rw [Res.bind_ok]
            cases cmpV o' S3 w z with
            | none => exact .inr (.inr rfl)
            | some k => exact .inl ⟨k, S3, rfl⟩
theorem cmp2_pe {o o' : COp} {f : PV → PV → Sto → Res PV} (h : tE E W (cmp2M o o' ma mb mc) σ H Q) : tChain (rC E.K o) (rC E.K o') (tE E W ma) (tE E W mb) (tE E W mc) σ H Q := by
  refine tG.first (R := Rp E) (f := fun x ρ S1 => (mb ρ S1).bind fun y S2 => .opt (cmpV o S2 x y) fun k =>
      if k = true then (mc ρ S2).bind fun z S3 => .opt (cmpV o' S3 y z) fun k' => .ok (.bl k') S3 else .ok (.bl false) S2) h fun α ρ S v x H1 R en rv kt => ?_
  refine ⟨α, ρ, S, R, en, Kt.bind kt fun w S2 α2 y H2 e R2 rw' kt => ?_⟩
  obtain ⟨k, e1, kt⟩ := kt.opt
  refine cmp_rd R2 (rv.ext e) rw' e1 ⟨k, rfl, ?_⟩
  cases k with
  | false => rw [if_neg (by decide)]; exact is_bl kt R2
  | true =>
    rw [if_pos rfl]
    rw [if_pos rfl] at kt
    refine ⟨α2, ρ, S2, R2, en.ext e, Kt.bind (R' := Rp E) kt fun z S3 α3 z' H3 e3 R3 rz kt => ?_⟩
    obtain ⟨k, e1, kt⟩ := kt.opt
    exact cmp_rd R3 (rw'.ext e3) rz e1 (is_bl kt R3)
theorem s_cmp2 {o o' : COp} (hK : X.K = E.K) (hu : X.A.units + 65 < cLine) (ha : PE X a (tE E W ma)) (hb : PE X b (tE E W mb)) (hc : PE X c (tE E W mc)) (hm : lastMarks [opC o, opC o'] [b, c] = false) : Snd E W X (.Compare a [opC o, opC o'] [b, c] pos) (cmp2M o o' ma mb mc) where
  pe := PE.imp (pe_chain (or_cmp hu o) (or_cmp hu o') ha hb hc hm) fun σ H Q h => by rw [hK]; exact cmp2_pe (f := fun _ _ _ => .bad) h
  pt := PT.imp (pt_chain (or_cmp hu o) (or_cmp hu o') ha hb hc hm) fun σ H Q h => by
    rw [hK]
    refine cmp2_pe (f := fun _ _ _ => .bad) (Q := fun x H' => ∃ k, x = .bl k ∧ Q k H') ?_
    obtain ⟨α, ρ, S, R, en, kt⟩ := h
    refine ⟨α, ρ, S, R, en, ?_⟩
    have kt : Kt E W RB α S σ H ((cmp2M o o' ma mb mc ρ S).bind fun v S1 => .opt (truth S1 v) fun k => .ok k S1) Q := kt
    rcases cmp2M_bl o o' ma mb mc ρ S with ⟨k, S1, e⟩ | ⟨c, S1, e⟩ | e
    · rw [e] at kt ⊢
      exact fun α' x H' e1 R1 rv => ⟨k, by simpa only [Rp] using rv, kt α' k H' e1 R1 rfl⟩
    · rw [e] at kt ⊢; exact kt
    · rw [e] at kt; exact kt.elim

def notStar : Expr → Bool
  | .Starred _ _ => false
  | _ => true
theorem star1 {e : Expr} {es : List Expr} {env : PySem.Env} (h : notStar e = true) : starEach (e :: es) env = (false, eval e env) :: starEach es env := by
  cases e <;> first | rfl | simp [notStar] at h
theorem stars {es : List Expr} {env : PySem.Env} {pos : Pos} (h : es.all notStar = true) : (backTo pos (starEach es env)).any (·.1) = false := by
  induction es with
  | nil => rfl
  | cons e es ih =>
    simp only [List.all_cons, Bool.and_eq_true] at h
    rw [star1 h.1]
    simp only [backTo, List.map_cons, List.any_cons, Bool.false_or]
    exact ih h.2
theorem a_nil : PA X [] (tA E W fun _ S => .ok [] S) := PA.imp pa_nil fun σ H Q ⟨α, ρ, S, R, _, kt⟩ => kt.here R RpL.nil
theorem a_cons {es : List Expr} {ms : Env → Sto → Res (List PV)} (h0 : notStar a = true) (ha : PE X a (tE E W ma)) (hs : PA X es (tA E W ms)) :
    PA X (a :: es) (tA E W fun ρ S => (ma ρ S).bind fun v S1 => (ms ρ S1).bind fun vs S2 => .ok (v :: vs) S2) := PA.imp (pa_cons ha hs (star1 h0)) fun σ H Q h => by
  refine tG.first (R := RpL E) (f := fun v ρ S1 => (ms ρ S1).bind fun vs S2 => .ok (v :: vs) S2) h fun α ρ S v x H1 R en rv kt => ?_
  refine ⟨α, ρ, S, R, en, Kt.bind kt fun vs S2 α2 ys H2 e R2 rs kt => ?_⟩
  exact kt.here R2 (RpL.cons (rv.ext e) rs)
variable {ms : Env → Sto → Res (List PV)} {es : List Expr}
theorem s_tup {k : Nat} (hs : PA X es (tA E W ms)) : PE X (.Tuple es k pos) (tE E W fun ρ S => (ms ρ S).bind fun vs S1 => .need (decide (vs.length ≤ LIM)) (.ok (.tup vs) S1)) :=
  PE.imp (pe_tup hs) fun σ H Q h => many (f := fun vs S1 => .need (decide (vs.length ≤ LIM)) (.ok (.tup vs) S1)) h fun α S vs xs H R rs kt => by
    obtain ⟨h1, kt⟩ := kt.need
    exact ⟨by rw [← rs.len]; exact lim_le h1, fun p hp => mk_tup kt R rs hp⟩
theorem s_lst (hs : PA X es (tA E W ms)) : PE X (.List es pos) (tE E W fun ρ S => (ms ρ S).bind fun vs S1 => .need (decide (vs.length ≤ LIM)) (new S1 (.lst vs))) :=
  PE.imp (pe_lst hs) fun σ H Q h => many (f := fun vs S1 => .need (decide (vs.length ≤ LIM)) (new S1 (.lst vs))) h fun α S vs xs H R rs kt => by
    obtain ⟨h1, kt⟩ := kt.need
    exact ⟨by rw [← rs.len]; exact lim_le h1, fun p hp => mk_lst kt R rs hp⟩

def plainIx : Expr → Bool
  | .Slice _ _ _ _ => false
  | _ => true
theorem plainIx_is {e : Expr} (h : plainIx e = true) : ∀ o i, subscripted e false o i = operate [o, i] (getItem o i) := by
  intro o i
  cases e <;> first | rfl | simp [plainIx] at h
def rIxA (K : PySem.W.Frag) : R2 := fun x y H Q => rIx K x y H Q ∨ (∃ a v, x = .ref a ∧ DGet H a y (some v) ∧ Q v H)
theorem ix_dict (hu : X.A.units + 1 < cLine) : IxR X (fun x y H Q => ∃ a v, x = .ref a ∧ DGet H a y (some v) ∧ Q v H) := by
  intro value slice pins s σ H x y v u Q I rx ry h hs
  obtain ⟨a, z, rfl, g, q⟩ := h
  cases rx
  exact tail_any (ops := [.ref a, u]) (dict_typeIs I g) (PySem.slot_dict_getitem.lookup) (d_getItem hu I g ry fun w' s' I' r => ⟨z, H, I', r, q⟩) hs
theorem or_ix (hu : X.A.units + 1 < cLine) : IxR X (rIxA X.K) := ix_seq.or (ix_dict hu)
theorem ix_rd {α : Nat → Addr} {S : Sto} {v w z : PV} {x y : V} (R : Rel E α S H) (rv : Rp E α S.length H v x) (rw' : Rp E α S.length H w y) (e : ixV S v w = some z) (kt : Kt E W (Rp E) α S σ H (.ok z S) Q) : rIxA E.K x y H Q := by
  unfold ixV at e
  split at e
  · split at e
    · rename_i hl
      obtain ⟨c, e1, e2⟩ := Option.map_eq_some_iff.mp e
      subst e2
      simp only [Rp] at rv rw'
      exact .inl (.inr (.inr ⟨_, _, c, rv, rw', by rw [← lim_eq]; exact hl, e1, is_str kt R⟩))
    · cases e
  · rename_i l
    split at e
    · rename_i xs j e1 
      obtain ⟨ys, h1, h2⟩ := R.obj l _ e1
      simp only [Rp] at rv rw'
      obtain ⟨y', e3, r⟩ := h2.atI e
      exact .inl (.inl ⟨α l, ys, j, y', rv.2, rw', .of h1, e3, kt.here R r⟩)
    · rename_i hn
      obtain ⟨o, e1, e2⟩ := Option.bind_eq_some_iff.mp e
      have g := dfind_rd R rw' e1
      have e2 : o = some z := e2
      subst e2
      obtain ⟨y', g1, r⟩ := g
      simp only [Rp] at rv
      exact .inr ⟨α l, y', rv.2, g1, kt.here R r⟩
  · obtain ⟨xs, e1, e2⟩ := Option.bind_eq_some_iff.mp e
    obtain ⟨a, ys, rfl, ha, r⟩ := rd_seq R rv e1
    simp only [Rp] at rw'
    obtain ⟨y', e3, r'⟩ := r.atI e2
    rcases ha with ha | ha
    · exact .inl (.inl ⟨a, ys, _, y', rfl, rw', ha, e3, kt.here R r'⟩)
    · exact .inl (.inr (.inl ⟨a, ys, _, y', rfl, rw', ha, e3, kt.here R r'⟩))
  · cases e
theorem s_ix (hK : X.K = E.K) (hu : X.A.units + 1 < cLine) (h0 : plainIx b = true) (ha : PE X a (tE E W ma)) (hb : PE X b (tE E W mb)) :
    PE X (.Subscript a b pos) (tE E W fun ρ S => (ma ρ S).bind fun x S1 => (mb ρ S1).bind fun y S2 => .opt (ixV S2 x y) fun v => .ok v S2) :=
  PE.imp (pe_ix (or_ix hu) ha hb (plainIx_is h0)) fun σ H Q h => two (f := fun x y S => .opt (ixV S x y) fun v => .ok v S) h fun α S v w x y H R rv rw' kt => by
    obtain ⟨z, e, kt⟩ := kt.opt
    rw [hK]; exact ix_rd R rv rw' e kt
variable {lo hi : Option Expr} {ml mh : Env → Sto → Res (Option Int)}
theorem o_none : PO X none (tO E W fun _ S => .ok none S) := ⟨fun pins s σ H Q I ⟨α, ρ, S, R, _, kt⟩ => po_none.run pins s σ H Q I (kt.here R rfl)⟩
theorem o_some (ha : PE X a (tE E W ma)) : PO X (some a) (tO E W fun ρ S => (ma ρ S).bind fun v S1 => match v with | .int i => .ok (some i) S1 | _ => .bad) :=
  ⟨fun pins s σ H Q I h => (po_some ha).run pins s σ H Q I (tG.first (R := RO) (f := fun v _ S1 => match v with | .int i => .ok (some i) S1 | _ => .bad) h fun α ρ S v x H1 R en rv kt => by
    split at kt
    · simp only [Rp] at rv
      exact ⟨_, rv, kt.here R rfl⟩
    · exact kt.elim)⟩
def rSlB (K : PySem.W.Frag) : V → Option Int → Option Int → Hp → VK → Prop := fun x lo hi H Q => rSlA K x lo hi H Q ∨ rSlL K x lo hi H Q
theorem or_sl : SlR X (rSlB X.K) := sl_tupA.or sl_list
theorem HT.whole {α : Type} {xs : List α} {lo hi : Option Int} (h : HT.sIx xs.length 0 lo = 0 ∧ HT.sIx xs.length xs.length hi = xs.length) : (xs.drop (HT.sIx xs.length 0 lo)).take (HT.sIx xs.length xs.length hi - HT.sIx xs.length 0 lo) = xs := by
  rw [h.1, h.2, List.drop_zero, Nat.sub_zero, List.take_length]
theorem s_sl {p2 : Pos} (hK : X.K = E.K) (ha : PE X a (tE E W ma)) (hl : PO X lo (tO E W ml)) (hh : PO X hi (tO E W mh)) :
    PE X (.Subscript a (.Slice lo hi none p2) pos) (tE E W fun ρ S => (ma ρ S).bind fun x S1 => (ml ρ S1).bind fun l S2 => (mh ρ S2).bind fun h S3 => slV S3 x l h) :=
  PE.imp (pe_slice or_sl ha hl hh) fun σ H Q h => by
    refine tG.first (R := Rp E) (f := fun x ρ S1 => (ml ρ S1).bind fun l S2 => (mh ρ S2).bind fun h S3 => slV S3 x l h) h fun α ρ S v x H1 R en rv kt => ?_
    refine ⟨α, ρ, S, R, en, Kt.bind kt fun l S2 α2 l' H2 e R2 rl kt => ?_⟩
    refine ⟨α2, ρ, S2, R2, en.ext e, Kt.bind kt fun h S3 α3 h' H3 e3 R3 rh kt => ?_⟩
    have rl : l' = l := rl
    have rh : h' = h := rh
    subst rl rh
    have rv := (rv.ext e).ext e3
    rw [hK]
    unfold slV at kt
    split at kt
    · obtain ⟨p, xs, rfl, hp, r⟩ := rd_tup rv
      refine .inl ⟨p, xs, rfl, hp, fun hw => ?_, fun _ q hq => mk_tup kt R3 (r.cut _ _) hq⟩
      have := r.cut l' h'
      rw [show cutV xs l' h' = xs from HT.whole hw] at this
      exact is_tup kt R3 hp this
    · obtain ⟨vs, e1, kt⟩ := kt.opt
      obtain ⟨p, xs, rfl, hp, r⟩ := rd_lst R3 rv e1
      exact .inr ⟨p, xs, rfl, hp, fun q hq => mk_lst kt R3 (r.cut _ _) hq⟩
theorem s_rev {k : Nat} {p1 p2 p3 : Pos} (hK : X.K = E.K) (ha : PE X a (tE E W ma)) : PE X (.Subscript a (.Slice none none (some (.UnaryOp .USub (.Constant (.int 1) k p1) p2)) p3) pos) (tE E W fun ρ S => (ma ρ S).bind fun x S1 => revV S1 x) :=
  PE.imp (pe_revL ha) fun σ H Q h => one (f := fun x S1 => revV S1 x) h fun α S v x H R rv kt => by
    obtain ⟨vs, e1, kt⟩ := kt.opt
    obtain ⟨p, xs, rfl, hp, r⟩ := rd_lst R rv e1
    exact ⟨p, xs, rfl, by rw [hK]; exact hp, fun q hq => mk_lst kt R r.rev hq⟩
end
end PM
end
section
namespace PM
open PySem L2 PySem.Spec PyProof.Rows
section
variable {E : Cfg} {W : WX} {X : Cx} {σ : L2.St} {H : Hp} {Q : VK} {ma mb mc : Env → Sto → Res PV} {a b c e : Expr} {pos p : Pos} {es : List Expr} {ms : Env → Sto → Res (List PV)}
theorem s_callB {id : String} {x : Str} {r : List V → Hp → VK → Prop} {f : List PV → Sto → Res PV} (hc : CallR X (.builtin id) r) (hg : Gl X x) (hm : X.mg x = none) (hv : bootBuiltins x = some (.builtin id)) (h0 : (e :: es).all notStar = true) (ha : PA X (e :: es) (tA E W ms))
    (hn : x ≠ "__name__") (hdb : (x == ("__debug__" : Str)) = false) (k : ∀ α S σ vs xs H Q, Rel E α S H → RpL E α S.length H vs xs → Kt E W (Rp E) α S σ H (f vs S) Q → r xs H Q) :
    PE X (.Call (.Name x p) (e :: es) [] pos) (tE E W fun ρ S => (ms ρ S).bind fun vs S1 => f vs S1) := by
  simp only [List.all_cons, Bool.and_eq_true] at h0
  exact PE.imp (pe_callB hc hg hm hv ha hn hdb (star1 h0.1) (stars h0.2)) fun σ H Q h => many (f := f) h fun α S vs xs H R rs kt => k α S σ vs xs H Q R rs kt
theorem s_callT {T : String} {x : Str} {r : List V → Hp → VK → Prop} {f : List PV → Sto → Res PV} (hc : CallR X (.type T) r) (hg : Gl X x) (hm : X.mg x = none) (hv : bootBuiltins x = some (.type T)) (h0 : (e :: es).all notStar = true) (ha : PA X (e :: es) (tA E W ms))
    (hn : x ≠ "__name__") (hdb : (x == ("__debug__" : Str)) = false) (k : ∀ α S σ vs xs H Q, Rel E α S H → RpL E α S.length H vs xs → Kt E W (Rp E) α S σ H (f vs S) Q → r xs H Q) :
    PE X (.Call (.Name x p) (e :: es) [] pos) (tE E W fun ρ S => (ms ρ S).bind fun vs S1 => f vs S1) := by
  simp only [List.all_cons, Bool.and_eq_true] at h0
  exact PE.imp (pe_callTy hc hg hm hv ha hn hdb (star1 h0.1) (stars h0.2)) fun σ H Q h => many (f := f) h fun α S vs xs H R rs kt => k α S σ vs xs H Q R rs kt
theorem rl1 {α : Nat → Addr} {n : Nat} {v : PV} {xs : List V} (r : RpL E α n H [v] xs) : ∃ x, xs = [x] ∧ Rp E α n H v x := by
  simp only [RpL] at r
  obtain ⟨y, ys, e, h1, h2⟩ := r
  exact ⟨y, by rw [e, h2], h1⟩
theorem rl2 {α : Nat → Addr} {n : Nat} {v w : PV} {xs : List V} (r : RpL E α n H [v, w] xs) : ∃ x y, xs = [x, y] ∧ Rp E α n H v x ∧ Rp E α n H w y := by
  simp only [RpL] at r
  obtain ⟨y, ys, e, h1, z, zs, e2, h2, h3⟩ := r
  exact ⟨y, z, by rw [e, e2, h3], h1, h2⟩
def rLenD : List V → Hp → VK → Prop := fun xs H Q => ∃ a kvs, xs = [.ref a] ∧ H a = some (.dK kvs) ∧ Q (.int kvs.length) H
theorem call_lenK : CallR X (.builtin "len") rLenD := by
  intro pins s σ H xs us Q I r h
  obtain ⟨a, kvs, rfl, e, q⟩ := h
  have := Vals.ref1 r
  subst this
  exact d_len I (.inl e) fun t s' I' => ⟨.int kvs.length, H, I', ⟨t, rfl⟩, q⟩
def rLenA (K : PySem.W.Frag) : List V → Hp → VK → Prop := fun xs H Q => (∃ x n, xs = [x] ∧ LenV K x H n ∧ Q (.int n) H) ∨ rLenD xs H Q
theorem call_lenA : CallR X (.builtin "len") (rLenA X.K) := call_len.or call_lenK
theorem DF.len {α : Nat → Addr} {n : Nat} : ∀ {kvs : List (PV × PV)} {ks : List (Key × V)}, DF E α n H kvs ks → kvs.length = ks.length
  | [], _, h => by have h : _ = [] := h; rw [h]; rfl
  | p :: r, _, h => by
    obtain ⟨k, y, ks', e, _, _, h3⟩ := h
    rw [e, List.length_cons, List.length_cons, DF.len h3]
section
variable {α : Nat → Addr} {S : Sto} {v : PV} {xs : List V} {vs : List PV}
theorem Kt.b1 {f : PV → Res PV} (rs : RpL E α S.length H vs xs) (kt : Kt E W (Rp E) α S σ H (PM.b1 f vs) Q) : ∃ v x, xs = [x] ∧ Rp E α S.length H v x ∧ Kt E W (Rp E) α S σ H (f v) Q := by
  rcases vs with _ | ⟨v, _ | ⟨w, vs⟩⟩
  · exact (show False from kt).elim
  · obtain ⟨x, rfl, rv⟩ := rl1 rs
    exact ⟨v, x, rfl, rv, kt⟩
  · exact (show False from kt).elim
theorem Kt.b2 {f : PV → PV → Res PV} (rs : RpL E α S.length H vs xs) (kt : Kt E W (Rp E) α S σ H (PM.b2 f vs) Q) : ∃ v w x y, xs = [x, y] ∧ Rp E α S.length H v x ∧ Rp E α S.length H w y ∧ Kt E W (Rp E) α S σ H (f v w) Q := by
  rcases vs with _ | ⟨v, _ | ⟨w, _ | ⟨u, vs⟩⟩⟩
  · exact (show False from kt).elim
  · exact (show False from kt).elim
  · obtain ⟨x, y, rfl, rv, rw'⟩ := rl2 rs
    exact ⟨v, w, x, y, rfl, rv, rw', kt⟩
  · exact (show False from kt).elim
theorem len_rd (R : Rel E α S H) (rs : RpL E α S.length H vs xs) (kt : Kt E W (Rp E) α S σ H (biV .len S vs) Q) : rLenA E.K xs H Q := by
  obtain ⟨v, x, rfl, rv, kt⟩ := Kt.b1 rs kt
  obtain ⟨n, e, kt⟩ := kt.opt
  unfold lenV at e
  split at e
  · split at e
    · rename_i hl
      cases e
      simp only [Rp] at rv
      exact .inl ⟨x, _, rfl, by rw [rv]; exact ⟨by rw [← lim_eq]; exact hl, rfl⟩, is_int kt R⟩
    · cases e
  · rename_i l
    simp only [Rp] at rv
    split at e
    · rename_i ys e1
      cases e
      obtain ⟨zs, h1, h2⟩ := R.obj l _ e1
      exact .inl ⟨x, _, rfl, by rw [rv.2]; exact .inl ⟨zs, .of h1, h2.len⟩, is_int kt R⟩
    · rename_i kvs e1
      cases e
      obtain ⟨ks, h1, h2⟩ := rd_dic R e1
      exact .inr ⟨α l, ks, by rw [rv.2], h1, by rw [← h2.len]; exact is_int kt R⟩
    · cases e
  · obtain ⟨ys, e1, e2⟩ := Option.map_eq_some_iff.mp e
    subst e2
    obtain ⟨p, zs, rfl, hp, r⟩ := rd_seq R rv e1
    refine .inl ⟨_, _, rfl, ?_, is_int kt R⟩
    rcases hp with hp | hp
    · exact .inl ⟨zs, hp, r.len⟩
    · exact .inr ⟨zs, hp, r.len⟩
theorem int_rd (R : Rel E α S H) (rs : RpL E α S.length H vs xs) (kt : Kt E W (Rp E) α S σ H (biV .int S vs) Q) : (∃ i, xs = [.int i] ∧ Q (.int i) H) ∨ ∃ k, xs = [.bl k] ∧ Q (.int (if k then 1 else 0)) H := by
  obtain ⟨v, x, rfl, rv, kt⟩ := Kt.b1 rs kt
  unfold intB at kt
  split at kt
  · simp only [Rp] at rv
    exact .inl ⟨_, by rw [rv], is_int kt R⟩
  · simp only [Rp] at rv
    exact .inr ⟨_, by rw [rv], is_int kt R⟩
  · exact kt.elim
def rListA (K : PySem.W.Frag) : List V → Hp → VK → Prop := fun xs H Q => (∃ p ys, xs = [.ref p] ∧ (SqL K H p ys ∨ SqT K H p ys) ∧ ∀ l, H l = none → Q (.ref l) (upd H l (.lst ys))) ∨ rListD xs H Q
theorem call_listA (hc : X.calm = true) : CallR X (.type "list") (rListA X.K) := call_list_of.or (call_list_dK hc)
theorem DF.keys {n : Nat} : ∀ {kvs : List (PV × PV)} {ks : List (Key × V)}, DF E α n H kvs ks → RpL E α n H (kvs.map (·.1)) (ks.map fun kv => kV kv.1)
  | [], _, h => by have h : _ = [] := h; rw [h]; exact RpL.nil
  | p :: r, _, h => by
    obtain ⟨k, y, ks', e, h1, _, h3⟩ := h
    subst e
    refine RpL.cons ?_ (DF.keys h3)
    show Rp E α n H p.1 (kV k)
    unfold keyF at h1
    split at h1
    · rename_i e1; cases h1; rw [e1]; simp only [Rp]; rfl
    · rename_i e1; cases h1; rw [e1]; simp only [Rp]; rfl
    · cases h1
theorem rd_keys (R : Rel E α S H) {x : V} {ks : List PV} (rv : Rp E α S.length H v x) (e : keysOf S v = some ks) : ∃ a kvs, x = .ref a ∧ H a = some (.dK kvs) ∧ RpL E α S.length H ks (kvs.map fun kv => kV kv.1) := by
  unfold keysOf at e
  split at e
  · rename_i l
    split at e
    · rename_i kvs e1
      cases e
      obtain ⟨ks, h1, h2⟩ := rd_dic R e1
      simp only [Rp] at rv
      exact ⟨α l, ks, rv.2, h1, h2.keys⟩
    · rename_i kvs e1
      exact (R.obj l _ e1).elim
    · cases e
  · cases e
theorem list_rd (R : Rel E α S H) (rs : RpL E α S.length H vs xs) (kt : Kt E W (Rp E) α S σ H (biV .list S vs) Q) : rListA E.K xs H Q := by
  obtain ⟨v, x, rfl, rv, kt⟩ := Kt.b1 rs kt
  unfold listB at kt
  split at kt
  · rename_i ks e
    obtain ⟨a, kvs, rfl, h1, h2⟩ := rd_keys R rv e
    exact .inr ⟨a, kvs, rfl, h1, fun q hq => mk_lst kt R h2 hq⟩
  · obtain ⟨ys, e, kt⟩ := kt.opt
    obtain ⟨p, zs, rfl, hp, r⟩ := rd_seq R rv e
    exact .inl ⟨p, zs, rfl, hp, fun q hq => mk_lst kt R r hq⟩
theorem tuple_rd (R : Rel E α S H) (rs : RpL E α S.length H vs xs) (kt : Kt E W (Rp E) α S σ H (biV .tuple S vs) Q) :
    ∃ p ys, xs = [.ref p] ∧ ((SqL E.K H p ys ∧ ∀ l, H l = none → Q (.ref l) (upd H l (.tup ys))) ∨ (SqT E.K H p ys ∧ Q (.ref p) H)) := by
  obtain ⟨v, x, rfl, rv, kt⟩ := Kt.b1 rs kt
  unfold tupB at kt
  split at kt
  · obtain ⟨p, zs, rfl, hp, r⟩ := rd_tup rv
    exact ⟨p, zs, rfl, .inr ⟨hp, is_tup kt R hp r⟩⟩
  · obtain ⟨ys, e, kt⟩ := kt.opt
    obtain ⟨p, zs, rfl, hp, r⟩ := rd_lst R rv e
    exact ⟨p, zs, rfl, .inl ⟨hp, fun q hq => mk_tup kt R r hq⟩⟩
theorem min2_rd (R : Rel E α S H) (rs : RpL E α S.length H vs xs) (kt : Kt E W (Rp E) α S σ H (biV .min2 S vs) Q) : ∃ i j, xs = [.int i, .int j] ∧ Q (.int (if j < i then j else i)) H := by
  obtain ⟨v, w, x, y, rfl, r1, r2, kt⟩ := Kt.b2 rs kt
  unfold min2B at kt
  split at kt
  · simp only [Rp] at r1 r2
    exact ⟨_, _, by rw [r1, r2], is_int kt R⟩
  · exact kt.elim
theorem str_rd (R : Rel E α S H) (rs : RpL E α S.length H vs xs) (kt : Kt E W (Rp E) α S σ H (biV .str S vs) Q) : ∃ i : Int, xs = [.int i] ∧ i.natAbs.log2 < 1920 ∧ Q (.str (toString i)) H := by
  obtain ⟨v, x, rfl, r1, kt⟩ := Kt.b1 rs kt
  unfold strB at kt
  split at kt
  · rename_i i
    obtain ⟨h1, kt⟩ := kt.need
    simp only [Rp] at r1
    refine ⟨i, by rw [r1], ?_, is_str kt R⟩
    have h1 : i.natAbs < 1000000000 := of_decide_eq_true h1
    by_cases h0 : i.natAbs = 0
    · rw [h0]; decide
    · exact Nat.lt_of_lt_of_le ((Nat.log2_lt h0).mpr (show i.natAbs < 2 ^ 30 by omega)) (by omega)
  · exact kt.elim
theorem sum_rd (R : Rel E α S H) (rs : RpL E α S.length H vs xs) (kt : Kt E W (Rp E) α S σ H (biV .sum S vs) Q) : rSum E.K xs H Q := by
  obtain ⟨v, x, rfl, rv, kt⟩ := Kt.b1 rs kt
  obtain ⟨is, e, kt⟩ := kt.opt
  obtain ⟨ys, e1, e2⟩ := Option.bind_eq_some_iff.mp e
  obtain ⟨p, zs, rfl, hp, r⟩ := rd_lst R rv e1
  have := r.intsV e2
  subst this
  exact ⟨p, is, rfl, hp, is_int kt R⟩
end

def knV : KN → Cfg → V
  | .int, _ => .ty "int"
  | .bool, _ => .ty "bool"
  | .str, _ => .ty "str"
  | .list, _ => .ty "list"
  | .tuple, _ => .ty "tuple"
  | .cls c, E => .ref (E.cls c)
def knU : KN → Cfg → Value
  | .int, _ => .type "int"
  | .bool, _ => .type "bool"
  | .str, _ => .type "str"
  | .list, _ => .type "list"
  | .tuple, _ => .type "tuple"
  | .cls c, E => .ref (E.cls c)
theorem kn_cls (k : KN) : ClsV (knV k E) (knU k E) := by cases k <;> first | exact .ty _ | exact .own _
def tyU (S : Sto) (E : Cfg) : PV → Value
  | .non => .type "NoneType"
  | .bl _ => .type "bool"
  | .int _ => .type "int"
  | .str _ => .type "str"
  | .tup _ => .type "tuple"
  | .lst _ => .type "list"
  | .ro _ => .type "list"
  | .obj c _ _ => .ref (E.cls c)
  | .loc l => match S[l]? with
    | some (.lst _) => .type "list"
    | some (.ins c _) => .ref (E.cls c)
    | _ => .none
section
variable {α : Nat → Addr} {S : Sto} {v : PV} {x : V} {cf : Cf}
theorem ty_tup {a : Addr} {xs : List V} (h : SqT E.K H a xs) : TyX E.K H (.ref a) (.type "tuple") := by
  rcases h with (h | ⟨o, h⟩) | ⟨o, its, n, hk, hc, _⟩
  · exact .base (.tup h)
  · exact .fTuple h
  · exact .kTuple hk hc
theorem ty_lst {a : Addr} {xs : List V} (h : SqL E.K H a xs) : TyX E.K H (.ref a) (.type "list") := by
  rcases h with (h | ⟨o, h⟩) | ⟨o, its, n, hk, hc, _⟩
  · exact .base (.lst h)
  · exact .base (.frz h)
  · exact .kList hk hc
theorem ty_rd (R : Rel E α S H) (rv : Rp E α S.length H v x) {ks : List KN} {b : Bool} (e : isiV S cf v ks = some b) : TyX E.K H x (tyU S E v) := by
  cases v with
  | non => simp only [Rp] at rv; subst rv; exact .base .non
  | bl k => simp only [Rp] at rv; subst rv; exact .base (.bl k)
  | int i => simp only [Rp] at rv; subst rv; exact .base (.int i)
  | str i => simp only [Rp] at rv; subst rv; exact .base (.str i)
  | tup vs => obtain ⟨a, xs, rfl, ha, _⟩ := rd_tup rv; exact ty_tup ha
  | lst vs => simp only [Rp] at rv; obtain ⟨a, xs, rfl, ha, _⟩ := rv; exact .base (.lst ha)
  | ro vs => simp only [Rp] at rv; obtain ⟨a, xs, rfl, ha, _⟩ := rv; exact ty_lst ha.sq
  | obj c ns vs => simp only [Rp] at rv; obtain ⟨a, dx, fs, rfl, ha, _, _, _, cf⟩ := rv; exact .base (.ins ha cf.cl cf.ha cf.hn cf.htk cf.hm)
  | loc l =>
    simp only [Rp] at rv
    rw [rv.2]
    simp only [isiV] at e
    simp only [tyU]
    cases hs : S[l]? with
    | none => rw [hs] at e; cases e
    | some o =>
      rw [hs] at e
      have q := R.obj l _ hs
      cases o with
      | lst ys => obtain ⟨zs, h1, _⟩ := q; exact .base (.lst h1)
      | ins c fs => obtain ⟨dx, gs, h1, _, _, cf⟩ := q; exact .base (.ins h1 cf.cl cf.ha cf.hn cf.htk cf.hm)
      | dic _ => cases e
      | dkn _ => cases e
def kitV (nc : Nat) (S : Sto) (v : PV) (k : KN) : Option Bool := match k with
  | .cls d => if d < nc then (match v with
    | .obj c _ _ => some (decide (c = d))
    | .loc l => match S[l]? with
      | some (.ins c _) => some (decide (c = d))
      | _ => some false
    | _ => some false) else none
  | k => match v with
    | .bl _ => some (k == .bool || k == .int)
    | .int _ => some (k == .int)
    | .str _ => some (k == .str)
    | .tup _ => some (k == .tuple)
    | .lst _ => some (k == .list)
    | .ro _ => some (k == .list)
    | .loc l => match S[l]? with
      | some (.lst _) => some (k == .list)
      | _ => some false
    | _ => some false
end
end
end PM
end
section
namespace PM
open PySem L2 PySem.Spec PyProof.Rows
theorem insI_perm (i : Int) : ∀ l : List Int, (insI i l).Perm (i :: l)
  | [] => List.Perm.refl _
  | j :: r => by
    unfold insI
    split
    · exact List.Perm.refl _
    · exact ((insI_perm i r).cons j).trans (List.Perm.swap i j r)
theorem sortI_perm : ∀ l : List Int, (sortI l).Perm l
  | [] => List.Perm.refl _
  | i :: r => (insI_perm i (sortI r)).trans ((sortI_perm r).cons i)
theorem insI_sorted (i : Int) : ∀ l : List Int, l.Pairwise (· ≤ ·) → (insI i l).Pairwise (· ≤ ·)
  | [], _ => by simp [insI]
  | j :: r, h => by
    have hr := List.pairwise_cons.mp h
    unfold insI
    split
    · rename_i hij
      refine List.pairwise_cons.mpr ⟨fun z hz => ?_, h⟩
      rcases List.mem_cons.mp hz with e | e
      · rw [e]; exact hij
      · exact Int.le_trans hij (hr.1 z e)
    · rename_i hij
      refine List.pairwise_cons.mpr ⟨fun z hz => ?_, insI_sorted i r hr.2⟩
      rcases List.mem_cons.mp ((insI_perm i r).mem_iff.mp hz) with e | e
      · rw [e]; omega
      · exact hr.1 z e
theorem sortI_sorted : ∀ l : List Int, (sortI l).Pairwise (· ≤ ·)
  | [] => List.Pairwise.nil
  | i :: r => insI_sorted i _ (sortI_sorted r)
theorem sorted_eq : ∀ (a b : List Int), a.Perm b → a.Pairwise (· ≤ ·) → b.Pairwise (· ≤ ·) → a = b
  | [], b, p, _, _ => (List.nil_perm.mp p).symm
  | x :: a, [], p, _, _ => absurd p.length_eq (by simp)
  | x :: a, y :: b, p, h1, h2 => by
    have h1' := List.pairwise_cons.mp h1
    have h2' := List.pairwise_cons.mp h2
    have e : x = y := by
      have m1 : x ∈ y :: b := p.mem_iff.mp List.mem_cons_self
      have m2 : y ∈ x :: a := p.mem_iff.mpr List.mem_cons_self
      rcases List.mem_cons.mp m1 with e | e
      · exact e
      · rcases List.mem_cons.mp m2 with e2 | e2
        · exact e2.symm
        · have := h2'.1 x e
          have := h1'.1 y e2
          omega
    subst e
    rw [sorted_eq a b (List.Perm.cons_inv p) h1'.2 h2'.2]
theorem sortI_of {a b : List Int} (p : a.Perm b) (h : a.Pairwise (· ≤ ·)) : a = sortI b := sorted_eq _ _ (p.trans (sortI_perm b).symm) h (sortI_sorted b)

section
variable {E : Cfg} {W : WX} {X : Cx} {σ : L2.St} {H : Hp} {Q : VK} {ma mb mc : Env → Sto → Res PV} {a b c e : Expr} {pos p : Pos} {es : List Expr} {ms : Env → Sto → Res (List PV)}
section
variable {α : Nat → Addr} {S : Sto} {v : PV} {x : V} {xs : List V} {vs : List PV} {cf : Cf}
def rSortDI : List V → Hp → VK → Prop := fun xs H Q => ∃ (a : Addr) (kvs : List (Key × V)) (ks : List Int), xs = [.ref a] ∧ Rd H a (.dK kvs) ∧ kvs.map (·.1) = ks.map Sum.inl ∧ ks.length < 64 ∧ ∀ (ns' : List Int) (p : Addr), ns'.Perm ks → ns'.Pairwise (· ≤ ·) → H p = none → Q (.ref p) (upd H p (.lst (ns'.map V.int)))
def rSortA (K : PySem.W.Frag) : List V → Hp → VK → Prop := fun xs H Q => rSorted K xs H Q ∨ rSortDI xs H Q
theorem DF.ints {n : Nat} : ∀ {kvs : List (PV × PV)} {ks : List (Key × V)} {is : List Int}, DF E α n H kvs ks → intsV (kvs.map (·.1)) = some is → ks.map (·.1) = is.map Sum.inl
  | [], _, is, h, e => by
    have h : _ = [] := h
    subst h
    simp only [List.map_nil, intsV, Option.some.injEq] at e
    subst e; rfl
  | q :: r, _, is, h, e => by
    obtain ⟨k, y, ks', e1, h1, _, h3⟩ := h
    subst e1
    simp only [List.map_cons, intsV] at e
    split at e
    · rename_i i is' e2 e3
      cases e
      rw [e2] at h1
      simp only [keyF, Option.some.injEq] at h1
      subst h1
      rw [List.map_cons, List.map_cons, DF.ints h3 e3]
    · cases e
theorem sort_rd (R : Rel E α S H) (rs : RpL E α S.length H vs xs) (kt : Kt E W (Rp E) α S σ H (biV .sorted S vs) Q) : rSortA E.K xs H Q := by
  obtain ⟨v, x, rfl, rv, kt⟩ := Kt.b1 rs kt
  unfold sortB at kt
  split at kt
  · rename_i ks e
    obtain ⟨is, e1, kt1⟩ := kt.opt
    obtain ⟨hl, kt2⟩ := kt1.need
    clear kt kt1
    unfold keysOf at e
    split at e
    · rename_i l
      split at e
      · rename_i kvs e2
        cases e
        obtain ⟨ks', h1, h2⟩ := rd_dic R e2
        simp only [Rp] at rv
        refine .inr ⟨α l, ks', is, by rw [rv.2], .inl h1, h2.ints e1, of_decide_eq_true hl, fun ns' q p1 p2 hq => ?_⟩
        rw [sortI_of p1 p2]
        exact mk_lst kt2 R (RpL.ofInts _) hq
      · rename_i kvs e1
        exact (R.obj l _ e1).elim
      · cases e
    · cases e
  · obtain ⟨is, e, kt⟩ := kt.opt
    obtain ⟨hl, kt⟩ := kt.need
    obtain ⟨ys, e1, e2⟩ := Option.bind_eq_some_iff.mp e
    obtain ⟨p, zs, rfl, hp, r⟩ := rd_lst R rv e1
    have := r.intsV e2
    subst this
    refine .inl ⟨p, is, rfl, hp, of_decide_eq_true hl, fun ns' q p1 p2 hq => ?_⟩
    rw [sortI_of p1 p2]
    exact mk_lst kt R (RpL.ofInts _) hq

theorem kit_b {T : String} {k : KN} (hc : ∀ d, d < E.nc → ClsF E d) (hk : ∀ d, k = .cls d → d < E.nc) (hT : T ∈ ["NoneType", "int", "bool", "str", "list", "tuple"]) {r : Bool}
    (h : (match k with | .int => kitB T "int" | .bool => kitB T "bool" | .str => kitB T "str" | .list => kitB T "list" | .tuple => kitB T "tuple" | .cls _ => some false) = some r) : PySem.W.kitOne E.K (.type T) (knU k E) = some r := by
  cases k with
  | cls d =>
    cases h
    exact (hc d (hk d rfl)).rev T hT
  | int => exact kit_ty h
  | bool => exact kit_ty h
  | str => exact kit_ty h
  | list => exact kit_ty h
  | tuple => exact kit_ty h
theorem kit1 (R : Rel E α S H) (rv : Rp E α S.length H v x) (hc : ∀ d, d < E.nc → ClsF E d) {k : KN} (hk : ∀ d, k = .cls d → d < E.nc) {r : Bool} (h : isiV S cf v [k] = some r) : PySem.W.kitOne E.K (tyU S E v) (knU k E) = some r := by
  have fin : ∀ c, ClsF E c → PySem.W.kitOne E.K (.ref (E.cls c)) (knU k E) = some (([k] : List KN).contains (.cls c)) := fun c cf => by
    cases k with
    | cls d =>
      show PySem.W.kitOne E.K (.ref (E.cls c)) (.ref (E.cls d)) = _
      rw [cf.own d (hk d rfl)]
      congr 1
      by_cases hc : c = d
      · subst hc; simp
      · have : ¬ (KN.cls c = KN.cls d) := fun z => hc (by injection z)
        simp [hc, this]
    | int => exact cf.ty "int" (by simp)
    | bool => exact cf.ty "bool" (by simp)
    | str => exact cf.ty "str" (by simp)
    | list => exact cf.ty "list" (by simp)
    | tuple => exact cf.ty "tuple" (by simp)
  have lst : ([k] : List KN).contains .list = r → PySem.W.kitOne E.K (.type "list") (knU k E) = some r := fun h => by
    refine kit_b hc hk (by simp) ?_
    subst h
    cases k <;> first | decide +kernel | rfl
  cases v with
  | obj c ns ws =>
    simp only [Rp] at rv
    obtain ⟨_, _, _, _, _, _, _, _, cf⟩ := rv
    simp only [isiV] at h
    cases h
    exact fin c cf
  | loc l =>
    simp only [isiV] at h
    simp only [tyU]
    cases hs : S[l]? with
    | none => rw [hs] at h; cases h
    | some o =>
      rw [hs] at h
      cases o with
      | ins c fs =>
        obtain ⟨dx, gs, h1, _, _, cf⟩ := R.obj l _ hs
        cases h
        exact fin c cf
      | lst ys => exact lst (Option.some.inj h)
      | dic _ => cases h
      | dkn _ => cases h
  | lst ws => exact lst (Option.some.inj h)
  | ro ws => exact lst (Option.some.inj h)
  | non => cases h; exact kit_b hc hk (by simp) (by cases k <;> first | decide +kernel | rfl)
  | bl b => cases h; exact kit_b hc hk (by simp) (by cases k <;> first | decide +kernel | rfl)
  | int i => cases h; exact kit_b hc hk (by simp) (by cases k <;> first | decide +kernel | rfl)
  | str i => cases h; exact kit_b hc hk (by simp) (by cases k <;> first | decide +kernel | rfl)
  | tup ws => cases h; exact kit_b hc hk (by simp) (by cases k <;> first | decide +kernel | rfl)
theorem kit2 (R : Rel E α S H) (rv : Rp E α S.length H v x) (hc : ∀ d, d < E.nc → ClsF E d) {r : Bool} (h : isiV S cf v [.list, .tuple] = some r) : PySem.W.kitAny E.K (tyU S E v) [.type "list", .type "tuple"] = some r := by
  obtain ⟨r1, h1⟩ : ∃ r1, isiV S cf v [.list] = some r1 := by
    cases v with
    | loc l =>
      simp only [isiV] at h ⊢
      cases hs : S[l]? with
      | none => rw [hs] at h; cases h
      | some o => rw [hs] at h; cases o <;> first | exact ⟨_, rfl⟩ | cases h
    | _ => exact ⟨_, rfl⟩
  obtain ⟨r2, h2⟩ : ∃ r2, isiV S cf v [.tuple] = some r2 := by
    cases v with
    | loc l =>
      simp only [isiV] at h ⊢
      cases hs : S[l]? with
      | none => rw [hs] at h; cases h
      | some o => rw [hs] at h; cases o <;> first | exact ⟨_, rfl⟩ | cases h
    | _ => exact ⟨_, rfl⟩
  have e : r = (r1 || r2) := by
    cases v with
    | loc l =>
      simp only [isiV] at h h1 h2
      cases hs : S[l]? with
      | none => rw [hs] at h; cases h
      | some o =>
        rw [hs] at h h1 h2
        cases o with
        | lst ys => cases h; cases h1; cases h2; rfl
        | ins c fs => cases h; cases h1; cases h2; rfl
        | dic _ => cases h
        | dkn _ => cases h
    | _ => cases h; cases h1; cases h2; rfl
  have k1 : PySem.W.kitOne E.K (tyU S E v) (.type "list") = some r1 := kit1 R rv hc (k := .list) (fun _ z => nomatch z) h1
  have k2 : PySem.W.kitOne E.K (tyU S E v) (.type "tuple") = some r2 := kit1 R rv hc (k := .tuple) (fun _ z => nomatch z) h2
  unfold PySem.W.kitAny
  rw [k1]
  cases r1 with
  | true => rw [e]; rfl
  | false =>
    show PySem.W.kitAny E.K (tyU S E v) [.type "tuple"] = some r
    unfold PySem.W.kitAny
    rw [k2, e]
    cases r2 <;> rfl
end
structure KnOk (E : Cfg) (X : Cx) (k : KN) (e : Expr) : Prop where
  pe : PE X e (tC (knV k E))
  ns : notStar e = true
def isiM (cf : Cf) (ks : List KN) (ma : Env → Sto → Res PV) : Env → Sto → Res PV := fun ρ S => (ma ρ S).bind fun x S1 => .opt (isiV S1 cf x ks) fun k => .ok (.bl k) S1
theorem s_isi {cf : Cf} {k : KN} (hK : X.K = E.K) (hg : Gl X "isinstance") (hm : X.mg "isinstance" = none) (hc : ∀ d, d < E.nc → ClsF E d) (hk : ∀ d, k = .cls d → d < E.nc) (h0 : notStar a = true) (ha : PE X a (tE E W ma)) (hb : KnOk E X k b) :
    PE X (.Call (.Name "isinstance" p) [a, b] [] pos) (tE E W (isiM cf [k] ma)) := by
  refine PE.imp (pe_callB call_isi hg hm PyProof.Rows.boot_isinstance (pa_cons ha (pa_cons hb.pe pa_nil (star1 hb.ns)) (star1 h0)) (by decide) (by decide) (star1 h0) (stars (by simp [hb.ns]))) fun σ H Q h => ?_
  refine one (f := fun x S1 => .opt (isiV S1 cf x [k]) fun k => .ok (.bl k) S1) h fun α S v x H R rv kt => ?_
  obtain ⟨r, e, kt⟩ := kt.opt
  show rIsi X.K [x, knV k E] H Q
  rw [hK]
  exact ⟨x, knV k E, _, _, r, rfl, kn_cls k, ty_rd R rv e, kit1 R rv hc hk e, is_bl kt R⟩
theorem s_isi2 {cf : Cf} {b1 b2 : Expr} {j : Nat} {p2 : Pos} (hK : X.K = E.K) (hg : Gl X "isinstance") (hm : X.mg "isinstance" = none) (hc : ∀ d, d < E.nc → ClsF E d) (h0 : notStar a = true) (ha : PE X a (tE E W ma)) (hb1 : KnOk E X .list b1) (hb2 : KnOk E X .tuple b2) :
    PE X (.Call (.Name "isinstance" p) [a, .Tuple [b1, b2] j p2] [] pos) (tE E W (isiM cf [.list, .tuple] ma)) := by
  refine PE.imp (pe_callB call_isiT hg hm PyProof.Rows.boot_isinstance (pa_cons ha (pa_cons (pe_tup (pa_cons hb1.pe (pa_cons hb2.pe pa_nil (star1 hb2.ns)) (star1 hb1.ns))) pa_nil (star1 rfl)) (star1 h0)) (by decide) (by decide) (star1 h0) (stars rfl)) fun σ H Q h => ?_
  refine one (f := fun x S1 => .opt (isiV S1 cf x [.list, .tuple]) fun k => .ok (.bl k) S1) h fun α S v x H R rv kt => ?_
  obtain ⟨r, e, kt⟩ := kt.opt
  refine ⟨by show 2 ≤ sizeLine; rw [sizeLine_eq]; decide, fun q hq => ?_⟩
  show rIsiT X.K [x, .ref q] _ Q
  rw [hK]
  have x1 := Ext.fresh (α := α) (S := S) (o := .tup [V.ty "list", V.ty "tuple"]) hq
  exact ⟨x, q, _, _, [.type "list", .type "tuple"], r, rfl, upd_same, .cons (.ty _) (.cons (.ty _) .nil), ty_rd (R.fresh hq) (rv.ext x1) e, kit2 R rv hc e, is_bl (kt.move x1) (R.fresh hq)⟩
end
end PM
end
section
namespace PM
open PySem L2 PySem.Spec PyProof.Rows
def spF (E : Cfg) (cf : Cf) (f : Nat) : Sp := fun vs H Q Ex => ∃ α S args, Rel E α S H ∧ RpL E α S.length H args vs ∧ Kt E (fun cls d _ H => Ex cls d H) (Rp E) α S [] H (cf.fn f args S) Q
structure FnIn (E : Cfg) (cf : Cf) (X : Cx) (k : Nat) (f : Nat) (a : Addr) : Prop where
  kp : PySem.W.keepIn X.K (.ref a) = true
  ok : ∃ (fd : FuncData) (ps : List Str), Binds X.K fd ps [] ∧ FnOk X.prog X.w X.K X.mg X.base (L2.CX X.prog X.w) k a fd ps (spF E cf f)
section
variable {E : Cfg} {W : WX} {X : Cx} {σ : L2.St} {H : Hp} {Q : VK} {ma mb mc : Env → Sto → Res PV} {a b c e : Expr} {pos p : Pos} {es : List Expr} {ms : Env → Sto → Res (List PV)} {cf : Cf} {f k : Nat} {x : Str} {fa : Addr}
theorem Kt.cast {α : Nat → Addr} {S : Sto} {r : Res PV} (kt : Kt E W (Rp E) α S σ H r Q) : Kt E (fun cls d _ H => WE W σ cls d H) (Rp E) α S [] H r Q := by
  cases r with
  | ok v S' => exact kt
  | exc c S' => exact kt
  | bad => exact kt
theorem s_call (F : FnIn E cf X k f fa) (hr : Room k X.A) (hg : Gl X x) (hm : X.mg x = some (.ref fa)) (tk : Takes X W) (h0 : (e :: es).all notStar = true) (ha : PA X (e :: es) (tA E W ms)) (hdb : (x == ("__debug__" : Str)) = false) :
    PE X (.Call (.Name x p) (e :: es) [] pos) (tE E W fun ρ S => (ms ρ S).bind fun vs S1 => cf.fn f vs S1) := by
  obtain ⟨kp, fd, ps, hb, ok⟩ := F
  simp only [List.all_cons, Bool.and_eq_true] at h0
  refine PE.imp (pe_callSD (E := WE W) (dvs := []) (ds := []) ok hr hg hm kp hb .nil (passAt tk) ha hdb (star1 h0.1) (stars h0.2)) fun σ H Q h => ?_
  refine many (f := fun vs S1 => cf.fn f vs S1) h fun α S vs xs H R rs kt => ?_
  rw [List.append_nil]
  exact ⟨α, S, vs, R, rs, kt.cast⟩
theorem s_call0 (F : FnIn E cf X k f fa) (hr : Room k X.A) (hg : Gl X x) (hm : X.mg x = some (.ref fa)) (tk : Takes X W) (hdb : (x == ("__debug__" : Str)) = false) :
    PE X (.Call (.Name x p) [] [] pos) (tE E W fun ρ S => cf.fn f [] S) := by
  obtain ⟨kp, fd, ps, hb, ok⟩ := F
  refine ⟨fun pins s σ H Q I h => ?_⟩
  obtain ⟨α, ρ, S, R, en, kt⟩ := h
  refine wpAny_Call_Name_kw (ld_glob I hg hm ?_ hdb)
  exact PySem.W.callWith_K0 I.kIn kp (run_fnSD (us := []) (vs := []) (dvs := []) (ds := []) (E := WE W) ok hr hb .nil (passAt tk σ) I .nil ⟨α, S, [], R, RpL.nil, kt.cast⟩)
mutual
def bd (n : Nat) : PV → Bool
  | .tup xs => bds n xs
  | .lst xs => bds n xs
  | .ro xs => bds n xs
  | .obj _ _ xs => bds n xs
  | .loc l => decide (l < n)
  | _ => true
def bds (n : Nat) : List PV → Bool
  | [] => true
  | x :: xs => bd n x && bds n xs
end
variable {α : Nat → Addr} {n m : Nat} {S S' : Sto}
mutual
theorem Rp.bd : ∀ (v : PV) (x : V), Rp E α n H v x → PM.bd n v = true
  | .non, _, _ => rfl
  | .bl _, _, _ => rfl
  | .int _, _, _ => rfl
  | .str _, _, _ => rfl
  | .tup vs, _, h => by simp only [Rp] at h; obtain ⟨a, xs, _, _, r⟩ := h; exact RpL.bd vs xs r
  | .lst vs, _, h => by simp only [Rp] at h; obtain ⟨a, xs, _, _, _, r⟩ := h; exact RpL.bd vs xs r
  | .ro vs, _, h => by simp only [Rp] at h; obtain ⟨a, xs, _, _, r⟩ := h; exact RpL.bd vs xs r
  | .obj c ns vs, _, h => by simp only [Rp] at h; obtain ⟨a, dx, fs, _, _, _, _, r, _⟩ := h; exact RpL.bd vs _ r
  | .loc l, _, h => by simp only [Rp] at h; simp only [PM.bd, decide_eq_true_eq]; exact h.1
theorem RpL.bd : ∀ (vs : List PV) (xs : List V), RpL E α n H vs xs → PM.bds n vs = true
  | [], _, _ => rfl
  | v :: vs, _, h => by
    simp only [RpL] at h
    obtain ⟨y, ys, _, h1, h2⟩ := h
    simp only [PM.bds, Bool.and_eq_true]
    exact ⟨Rp.bd v y h1, RpL.bd vs ys h2⟩
end
mutual
theorem Rp.low (hnm : n ≤ m) : ∀ (v : PV) (x : V), Rp E α m H v x → PM.bd n v = true → Rp E α n H v x
  | .non, _, h, _ => by simp only [Rp] at h ⊢; exact h
  | .bl _, _, h, _ => by simp only [Rp] at h ⊢; exact h
  | .int _, _, h, _ => by simp only [Rp] at h ⊢; exact h
  | .str _, _, h, _ => by simp only [Rp] at h ⊢; exact h
  | .tup vs, _, h, b => by simp only [Rp] at h ⊢; obtain ⟨a, xs, h1, h2, r⟩ := h; exact ⟨a, xs, h1, h2, RpL.low hnm vs xs r b⟩
  | .lst vs, _, h, b => by simp only [Rp] at h ⊢; obtain ⟨a, xs, h1, h2, h3, r⟩ := h; exact ⟨a, xs, h1, h2, fun l hl => h3 l (Nat.lt_of_lt_of_le hl hnm), RpL.low hnm vs xs r b⟩
  | .ro vs, _, h, b => by simp only [Rp] at h ⊢; obtain ⟨a, xs, h1, h2, r⟩ := h; exact ⟨a, xs, h1, h2, RpL.low hnm vs xs r b⟩
  | .obj c ns vs, _, h, b => by simp only [Rp] at h ⊢; obtain ⟨a, dx, fs, h1, h2, h3, h4, r, cf⟩ := h; exact ⟨a, dx, fs, h1, h2, fun l hl => h3 l (Nat.lt_of_lt_of_le hl hnm), h4, RpL.low hnm vs _ r b, cf⟩
  | .loc l, _, h, b => by simp only [Rp] at h ⊢; simp only [PM.bd, decide_eq_true_eq] at b; exact ⟨b, h.2⟩
theorem RpL.low (hnm : n ≤ m) : ∀ (vs : List PV) (xs : List V), RpL E α m H vs xs → PM.bds n vs = true → RpL E α n H vs xs
  | [], _, h, _ => by simp only [RpL] at h ⊢; exact h
  | v :: vs, _, h, b => by
    simp only [RpL] at h ⊢
    obtain ⟨y, ys, e, h1, h2⟩ := h
    simp only [PM.bds, Bool.and_eq_true] at b
    exact ⟨y, ys, e, Rp.low hnm v y h1 b.1, RpL.low hnm vs ys h2 b.2⟩
end
def bdF (n : Nat) : List (PV × PV) → Bool
  | [] => true
  | p :: r => bd n p.2 && bdF n r
theorem DF.bd : ∀ (kvs : List (PV × PV)) (ks : List (Key × V)), DF E α n H kvs ks → bdF n kvs = true
  | [], _, _ => rfl
  | p :: r, _, h => by
    obtain ⟨k, y, ks', _, _, h2, h3⟩ := h
    simp only [bdF, Bool.and_eq_true]
    exact ⟨h2.bd _ _, DF.bd r ks' h3⟩
theorem DF.low (hnm : n ≤ m) : ∀ (kvs : List (PV × PV)) (ks : List (Key × V)), DF E α m H kvs ks → bdF n kvs = true → DF E α n H kvs ks
  | [], _, h, _ => h
  | p :: r, _, h, b => by
    obtain ⟨k, y, ks', e, h1, h2, h3⟩ := h
    simp only [bdF, Bool.and_eq_true] at b
    exact ⟨k, y, ks', e, h1, Rp.low hnm _ _ h2 b.1, DF.low hnm r ks' h3 b.2⟩
def bdO (n : Nat) : MO → Bool
  | .lst vs => bds n vs
  | .dic kvs => bdF n kvs
  | .dkn _ => true
  | .ins _ fs => bds n (fs.map (·.2))
theorem OR.bd {a : Addr} : ∀ {o : MO}, OR E α n H a o → bdO n o = true
  | .lst vs, ⟨xs, _, r⟩ => r.bd _ _
  | .dic kvs, ⟨ks, _, r⟩ => DF.bd _ _ r
  | .dkn _, h => h.elim
  | .ins c fs, ⟨dx, gs, _, _, r, _⟩ => r.bd _ _
theorem OR.low (hnm : n ≤ m) {a : Addr} : ∀ {o : MO}, OR E α m H a o → bdO n o = true → OR E α n H a o
  | .lst vs, ⟨xs, e, r⟩, b => ⟨xs, e, r.low hnm _ _ b⟩
  | .dic kvs, ⟨ks, e, r⟩, b => ⟨ks, e, DF.low hnm _ _ r b⟩
  | .dkn _, h, _ => h.elim
  | .ins c fs, ⟨dx, gs, e, hn, r, cf⟩, b => ⟨dx, gs, e, hn, r.low hnm _ _ b, cf⟩
theorem take_get (ht : S'.take S.length = S) {l : Nat} {o : MO} (e : S[l]? = some o) : S'[l]? = some o := by
  have hl := (List.getElem?_eq_some_iff.mp e).1
  have q : (S'.take S.length)[l]? = some o := by rw [ht]; exact e
  rw [List.getElem?_take_of_lt hl] at q
  exact q
theorem take_le (ht : S'.take S.length = S) : S.length ≤ S'.length := by
  have := congrArg List.length ht
  rw [List.length_take] at this
  omega
variable {α' : Nat → Addr} {H' : Hp}
theorem Rel.back (R : Rel E α S H) (R' : Rel E α' S' H') (ht : S'.take S.length = S) : Rel E α' S H' :=
  ⟨fun i j hi hj e => R'.inj i j (Nat.lt_of_lt_of_le hi (take_le ht)) (Nat.lt_of_lt_of_le hj (take_le ht)) e,
   fun l o e => (R'.obj l o (take_get ht e)).low (take_le ht) (R.obj l o e).bd⟩
theorem Ext.back (x : Ext α S H α' S' H') : Ext α S H α' S H' := ⟨Nat.le_refl _, x.same, x.keep, x.tup, x.frz, x.dom, fun l h1 h2 => absurd h2 (Nat.not_lt.mpr h1)⟩
mutual
theorem Rp.sbst {g : Nat → Option PV} (hnm : n ≤ m) (hg : ∀ l t, g l = some t → ∀ y, Rp E α m H (.loc l) y → Rp E α n H t y) : ∀ (v t : PV) (x : V), Rp E α m H v x → PM.sbst g v = some t → Rp E α n H t x
  | .non, _, _, h, e => by simp only [PM.sbst, Option.some.injEq] at e; subst e; simp only [Rp] at h ⊢; exact h
  | .bl _, _, _, h, e => by simp only [PM.sbst, Option.some.injEq] at e; subst e; simp only [Rp] at h ⊢; exact h
  | .int _, _, _, h, e => by simp only [PM.sbst, Option.some.injEq] at e; subst e; simp only [Rp] at h ⊢; exact h
  | .str _, _, _, h, e => by simp only [PM.sbst, Option.some.injEq] at e; subst e; simp only [Rp] at h ⊢; exact h
  | .tup vs, _, _, h, e => by
    simp only [PM.sbst] at e
    obtain ⟨ts, e1, e2⟩ := Option.map_eq_some_iff.mp e
    subst e2
    simp only [Rp] at h ⊢
    obtain ⟨a, xs, h1, h2, r⟩ := h
    exact ⟨a, xs, h1, h2, RpL.sbst hnm hg vs ts xs r e1⟩
  | .lst vs, _, _, h, e => by
    simp only [PM.sbst] at e
    obtain ⟨ts, e1, e2⟩ := Option.map_eq_some_iff.mp e
    subst e2
    simp only [Rp] at h ⊢
    obtain ⟨a, xs, h1, h2, h3, r⟩ := h
    exact ⟨a, xs, h1, h2, fun l hl => h3 l (Nat.lt_of_lt_of_le hl hnm), RpL.sbst hnm hg vs ts xs r e1⟩
  | .ro vs, _, _, h, e => by
    simp only [PM.sbst] at e
    obtain ⟨ts, e1, e2⟩ := Option.map_eq_some_iff.mp e
    subst e2
    simp only [Rp] at h ⊢
    obtain ⟨a, xs, h1, h2, r⟩ := h
    exact ⟨a, xs, h1, h2, RpL.sbst hnm hg vs ts xs r e1⟩
  | .obj c ns vs, _, _, h, e => by
    simp only [PM.sbst] at e
    obtain ⟨ts, e1, e2⟩ := Option.map_eq_some_iff.mp e
    subst e2
    simp only [Rp] at h ⊢
    obtain ⟨a, dx, fs, h1, h2, h3, h4, r, cf⟩ := h
    exact ⟨a, dx, fs, h1, h2, fun l hl => h3 l (Nat.lt_of_lt_of_le hl hnm), h4, RpL.sbst hnm hg vs ts _ r e1, cf⟩
  | .loc l, t, x, h, e => hg l t (by simpa only [PM.sbst] using e) x h
theorem RpL.sbst {g : Nat → Option PV} (hnm : n ≤ m) (hg : ∀ l t, g l = some t → ∀ y, Rp E α m H (.loc l) y → Rp E α n H t y) : ∀ (vs ts : List PV) (xs : List V), RpL E α m H vs xs → PM.sbsts g vs = some ts → RpL E α n H ts xs
  | [], _, _, h, e => by simp only [PM.sbsts, Option.some.injEq] at e; subst e; simp only [RpL] at h ⊢; exact h
  | v :: vs, _, _, h, e => by
    simp only [RpL] at h
    obtain ⟨y, ys, e1, h1, h2⟩ := h
    subst e1
    simp only [PM.sbsts] at e
    split at e
    · rename_i d ds e2 e3
      cases e
      exact RpL.cons (Rp.sbst hnm hg v d y h1 e2) (RpL.sbst hnm hg vs ds ys h2 e3)
    · cases e
end
theorem rd_frzL (R' : Rel E α' S' H') (hn : n ≤ S'.length) : ∀ (k l : Nat) (t : PV), frzL n S' k l = some t → ∀ y, Rp E α' S'.length H' (.loc l) y → Rp E α' n H' t y
  | 0, _, _, e => by simp [frzL] at e
  | k + 1, l, t, e => by
    intro y r
    simp only [frzL] at e
    simp only [Rp] at r
    obtain ⟨hl, rfl⟩ := r
    split at e
    · rename_i h
      cases e
      show Rp E α' n H' (.loc l) (.ref (α' l))
      simp only [Rp]
      exact ⟨h, trivial⟩
    · rename_i h
      have nl : ∀ j, j < n → α' j ≠ α' l := fun j hj z => h (by rw [← R'.inj j l (Nat.lt_of_lt_of_le hj hn) hl z]; exact hj)
      split at e
      · rename_i vs e1
        obtain ⟨ts, e2, e3⟩ := Option.map_eq_some_iff.mp e
        subst e3
        obtain ⟨xs, h1, h2⟩ := R'.obj l _ e1
        simp only [Rp]
        exact ⟨α' l, xs, rfl, h1, nl, RpL.sbst hn (rd_frzL R' hn k) vs ts xs h2 e2⟩
      · rename_i c fs e1
        obtain ⟨ts, e2, e3⟩ := Option.map_eq_some_iff.mp e
        subst e3
        obtain ⟨dx, gs, h1, h2, h3, cf⟩ := R'.obj l _ e1
        simp only [Rp]
        exact ⟨α' l, dx, gs, rfl, h1, nl, h2, RpL.sbst hn (rd_frzL R' hn k) _ ts _ h3 e2, cf⟩
      · cases e
theorem fz_is {m : Env → Sto → Res PV} (h : tE E W (fun ρ S => fzR S (m ρ S)) σ H Q) : tE E W m σ H Q := by
  obtain ⟨α, ρ, S, R, en, kt⟩ := h
  refine ⟨α, ρ, S, R, en, ?_⟩
  have kt : Kt E W (Rp E) α S σ H (fzR S (m ρ S)) Q := kt
  cases hm : m ρ S with
  | bad => rw [hm] at kt; exact kt.elim
  | exc c S' =>
    rw [hm] at kt
    simp only [fzR] at kt
    split at kt
    · rename_i ht
      exact fun α' H' e R' => kt α' H' e.back (R.back R' ht)
    · exact kt
  | ok v S' =>
    rw [hm] at kt
    simp only [fzR] at kt
    split at kt
    · rename_i ht
      obtain ⟨t, e1, kt⟩ := kt.opt
      exact fun α' x H' e R' rv => kt α' x H' e.back (R.back R' ht) (Rp.sbst (take_le ht) (rd_frzL R' (take_le ht) 8) v t x rv e1)
    · exact kt.elim
end
end PM
end
section
namespace PM
open PySem L2 PySem.Spec PyProof.Rows
section
variable {E : Cfg} {W : WX} {X : Cx} {σ : L2.St} {H : Hp} {Q : VK} {ma mb mc : Env → Sto → Res PV} {a b c e : Expr} {pos p : Pos} {es : List Expr} {ms : Env → Sto → Res (List PV)} {cf : Cf}

def plainOb : Expr → Bool
  | .Call (.Name x _) [] [] _ => decide (x ≠ "super")
  | _ => true
theorem base_ok {x : Str} {env : PySem.Env} {w : Sem Value} (h : plainOb e = true) : attributeBase e x env w = w := by
  unfold attributeBase
  split
  · rename_i id p2 p3
    simp only [plainOb, decide_eq_true_eq] at h
    rw [if_pos (by simp [h])]
  · rfl
theorem star_all : ∀ (es : List Expr) (env : PySem.Env), es.all notStar = true → ∀ x ∈ starEach es env, x.1 = false
  | [], _, _, x, hx => by simp [starEach] at hx
  | e :: es, env, h, x, hx => by
    simp only [List.all_cons, Bool.and_eq_true] at h
    rw [star1 h.1] at hx
    rcases List.mem_cons.mp hx with rfl | hx
    · rfl
    · exact star_all es env h.2 x hx
theorem back_all {es : List Expr} {env : PySem.Env} (h : es.all notStar = true) : (backTo pos (starEach es env)).any (·.1) = false := by
  rw [List.any_eq_false]
  intro x hx
  obtain ⟨y, hy, rfl⟩ := List.mem_map.mp hx
  have := star_all es env h y hy
  simp [this]
theorem few_ok {es : List Expr} {env : PySem.Env} (h : (es.all notStar && decide (es.length < 29)) = true) : ((backTo pos (starEach es env)).all (fun x => !x.1) && (backToKw pos (keywordEach [] env)).all (fun x => x.1.isSome)
      && decide (es.length + ([] : List Keyword).length + (if ([] : List Keyword).isEmpty then 0 else 1) < 30)) = true := by
  simp only [Bool.and_eq_true, decide_eq_true_eq] at h
  simp only [Bool.and_eq_true, List.all_eq_true, decide_eq_true_eq]
  refine ⟨⟨fun x hx => ?_, ?_⟩, ?_⟩
  · obtain ⟨y, hy, rfl⟩ := List.mem_map.mp hx
    have := star_all es env h.1 y hy
    simp [this]
  · intro x hx
    simp [backToKw, keywordEach] at hx
  · have := h.2
    simp
    omega
variable {α : Nat → Addr} {S : Sto} {v : PV} {x : V} {xs : List V} {vs : List PV}
theorem rd_live (R : Rel E α S H) {l : Nat} {vs : List PV} (rv : Rp E α S.length H (.loc l) x) (e : S[l]? = some (.lst vs)) : ∃ xs, l < S.length ∧ x = .ref (α l) ∧ H (α l) = some (.lst xs) ∧ RpL E α S.length H vs xs := by
  obtain ⟨xs, e1, r⟩ := R.obj l _ e
  simp only [Rp] at rv
  exact ⟨xs, rv.1, rv.2, e1, r⟩
theorem lmK_lst {m : LM} (h1 : m = .append ∨ m = .pop0) (h : lmK m S v = true) : ∃ l vs, v = .loc l ∧ S[l]? = some (.lst vs) := by
  rcases h1 with rfl | rfl <;>
  · simp only [lmK] at h
    split at h
    · split at h
      · exact ⟨_, _, rfl, by assumption⟩
      · cases h
    · cases h
theorem append_rd (R : Rel E α S H) (rv : Rp E α S.length H v x) (rs : RpL E α S.length H vs xs) (kt : Kt E W (Rp E) α S σ H (lmV .append S v vs) Q) : rAppend x xs H Q := by
  unfold lmV at kt
  split at kt <;> first | exact kt.elim | skip
  · rename_i l w h
    simp only [RpL] at rs
    obtain ⟨y, _, rfl, ry, rfl⟩ := rs
    split at kt
    · rename_i ws e
      obtain ⟨ys, hl, rfl, hH, r⟩ := rd_live R rv e
      obtain ⟨hz, kt⟩ := kt.need
      have hz := of_decide_eq_true hz
      refine ⟨α l, ys, y, rfl, rfl, hH, by rw [← r.len, ← lim_eq]; exact hz, ?_⟩
      have kt : Kt E W (Rp E) α S σ H (.ok .non (S.set l (.lst (ws ++ [w])))) Q := kt
      have xt := Ext.wrote (o := .lst (ys ++ [y])) (m := .lst (ws ++ [w])) R hl
      have rr := RpL.ext xt _ _ (r.append (RpL.cons ry RpL.nil))
      refine kt α .non _ xt (R.wrote hl ⟨_, upd_same, by simpa using rr⟩) (by simp only [Rp])
    · exact kt.elim
  all_goals simp_all
theorem pop_rd (R : Rel E α S H) (rv : Rp E α S.length H v x) (rs : RpL E α S.length H vs xs) (kt : Kt E W (Rp E) α S σ H (lmV .pop0 S v vs) Q) : rPop x xs H Q := by
  unfold lmV at kt
  split at kt <;> first | exact kt.elim | skip
  all_goals first
    | (rename_i l h
       simp only [RpL] at rs
       subst rs
       split at kt
       · rename_i ws e
         obtain ⟨ys, hl, rfl, hH, r⟩ := rd_live R rv e
         obtain ⟨w, ew, kt⟩ := kt.opt
         obtain ⟨y, ey, ry⟩ := r.get ew
         refine ⟨α l, ys, y, rfl, rfl, hH, by rw [← r.len]; exact ey, ?_⟩
         have kt : Kt E W (Rp E) α S σ H (.ok w (S.set l (.lst ws.dropLast))) Q := kt
         have xt := Ext.wrote (o := .lst ys.dropLast) (m := .lst ws.dropLast) R hl
         have rr := RpL.ext xt _ _ r.dropLast
         have ry := Rp.ext xt _ _ ry
         exact kt α y _ xt (R.wrote hl ⟨_, upd_same, by simpa using rr⟩) ry
       · exact kt.elim)
    | simp_all
theorem s_lm {m : LM} {nm : Str} {id : String} {r : V → List V → Hp → VK → Prop} (h1 : m = .append ∨ m = .pop0) (slot : Slot "list" nm id) (hty : typeOf (.builtin id) = pure (.type "method_descriptor")) (hm : MtR X id r) (hK : X.K = E.K)
    (h0 : ((e :: es).all notStar && decide ((e :: es).length < 29)) = true) (hb : plainOb a = true) (hl : (p.endLine == pos.line) = true) (ha : PE X a (tE E W ma)) (hs : PA X (e :: es) (tA E W ms))
    (k : ∀ α S v x vs xs σ H Q, Rel E α S H → Rp E α S.length H v x → RpL E α S.length H vs xs → Kt E W (Rp E) α S σ H (lmV m S v vs) Q → r x xs H Q) :
    PE X (.Call (.Attribute a nm p) (e :: es) [] pos) (tE E W fun ρ S => (ma ρ S).bind fun x S1 => .need (lmK m S1 x) ((ms ρ S1).bind fun vs S2 => lmV m S2 x vs)) := by
  have h00 : (e :: es).all notStar = true := by simp only [Bool.and_eq_true] at h0; exact h0.1
  have h01 : notStar e = true ∧ es.all notStar = true := by simp only [List.all_cons, Bool.and_eq_true] at h00; exact h00
  refine PE.imp (pe_bm PySem.F.plainAttrs_list slot hty hm ha hs (base_ok hb) (few_ok h0) hl (star1 h01.1) (back_all h01.2)) fun σ H Q h => ?_
  refine tG.first (R := Rp E) (f := fun x ρ S1 => .need (lmK m S1 x) ((ms ρ S1).bind fun vs S2 => lmV m S2 x vs)) h fun α ρ S v x H1 R en rv kt => ?_
  obtain ⟨hk, kt⟩ := kt.need
  refine ⟨?_, ?_⟩
  · obtain ⟨l, vs, rfl, e1⟩ := lmK_lst h1 hk
    obtain ⟨xs, _, rfl, e2, _⟩ := rd_live R rv e1
    exact .inl ⟨rfl, xs, .of e2⟩
  · refine ⟨α, ρ, S, R, en, Kt.bind kt fun vs S2 α2 xs H2 x2 R2 rs kt => ?_⟩
    exact k α2 S2 v x vs xs σ H2 Q R2 (rv.ext x2) rs kt
theorem s_lm0 {m : LM} {nm : Str} {id : String} {r : V → List V → Hp → VK → Prop} (h1 : m = .append ∨ m = .pop0) (slot : Slot "list" nm id) (hty : typeOf (.builtin id) = pure (.type "method_descriptor")) (hm : MtR X id r) (hK : X.K = E.K)
    (hb : plainOb a = true) (hl : (p.endLine == pos.line) = true) (ha : PE X a (tE E W ma))
    (k : ∀ α S v x vs xs σ H Q, Rel E α S H → Rp E α S.length H v x → RpL E α S.length H vs xs → Kt E W (Rp E) α S σ H (lmV m S v vs) Q → r x xs H Q) :
    PE X (.Call (.Attribute a nm p) [] [] pos) (tE E W fun ρ S => (ma ρ S).bind fun x S1 => .need (lmK m S1 x) ((Res.ok [] S1 : Res (List PV)).bind fun vs S2 => lmV m S2 x vs)) := by
  refine PE.imp (pe_bm0 PySem.F.plainAttrs_list slot hty hm ha (base_ok hb) hl) fun σ H Q h => ?_
  refine tG.first (R := Rp E) (f := fun x ρ S1 => .need (lmK m S1 x) ((Res.ok [] S1 : Res (List PV)).bind fun vs S2 => lmV m S2 x vs)) h fun α ρ S v x H1 R en rv kt => ?_
  obtain ⟨hk, kt⟩ := kt.need
  refine ⟨?_, ?_⟩
  · obtain ⟨l, vs, rfl, e1⟩ := lmK_lst h1 hk
    obtain ⟨xs, _, rfl, e2, _⟩ := rd_live R rv e1
    exact .inl ⟨rfl, xs, .of e2⟩
  · exact k α S v x [] [] σ H1 Q R rv RpL.nil kt
end
end PM
end
section
namespace PM
open PySem L2 PySem.Spec PyProof.Rows
section
variable {E : Cfg} {W : WX} {X : Cx} {σ : L2.St} {H : Hp} {Q : VK} {ma mb mc : Env → Sto → Res PV} {a b c e : Expr} {pos p : Pos} {es : List Expr} {ms : Env → Sto → Res (List PV)} {cf : Cf}

def RI (E : Cfg) (α : Nat → Addr) (n : Nat) (H : Hp) (I : Itm) (J : It) : Prop := ∀ (S : Sto) (α' : Nat → Addr) (S' : Sto) (H' : Hp), S.length = n → Ext α S H α' S' H' → Rel E α' S' H' → I.same S' = true →
  (∀ i v, I.xs[i]? = some v → J.go i H' ∧ ∀ x H2, J.yld i H' x H2 → Ext α' S' H' α' S' H2 ∧ Rel E α' S' H2 ∧ Rp E α' S'.length H2 v x) ∧ J.stop I.xs.length H'
abbrev tI (E : Cfg) (W : WX) (m : Env → Sto → Res Itm) : TI := tG E W (RI E) m
theorem PI.imp {tg iter : Expr} {t t' : TI} (h : PI X tg iter t) (k : ∀ σ H R, t' σ H R → t σ H R) : PI X tg iter t' := ⟨fun pins s σ H R I q => h.run pins s σ H R I (k σ H R q)⟩
def iSeq (K : PySem.W.Frag) (tl : TE) : TI := fun σ H R => tl σ H fun x H1 => ∃ a xs, x = .ref a ∧ ((SqL K H1 a xs ∧ R (Itl K a) H1) ∨ (SqT K H1 a xs ∧ R (Itt K a) H1))
theorem pi_seq {tg l : Expr} {tl : TE} (hl : PE X l tl) : PI X tg l (iSeq X.K tl) := by
  refine ⟨fun pins s σ H R I h => ?_⟩
  refine thn (hl.run pins s σ H _ I h) fun v s1 ⟨x, H1, I1, r1, q1⟩ => ?_
  obtain ⟨a, xs, e, q⟩ := q1
  subst e
  cases r1
  rcases q with ⟨hq, q⟩ | ⟨hq, q⟩
  · obtain ⟨its, rv, p, hz⟩ := I1.list hq
    refine wpAny_pyIter_list p.isList ?_
    refine ⟨s1.heap.objs.size, [s1.heap.objs.size], _, _, H1, rfl, I1.kept (t' := s1.toks) fun b o e => Heap.get?_push_of_some _ e, turn_list a _, ⟨_, Heap.get?_push_size _ rfl, rfl, rfl⟩, fun b hb => ?_, q⟩
    have e : b = s1.heap.objs.size := by simpa using hb
    subst e
    exact I1.fpOk (Nat.le_refl _) (I1.hok.fresh (Nat.le_refl _))
  · obtain ⟨its, rv, p, hz⟩ := I1.tuple hq
    refine wpAny_pyIter_tuple (show s1.heap.IsTuple a its.toArray from p) ?_
    refine ⟨s1.heap.objs.size, [s1.heap.objs.size], _, _, H1, rfl, I1.kept (t' := s1.toks) fun b o e => Heap.get?_push_of_some _ e, turn_tuple a _, ⟨_, Heap.get?_push_size _ rfl, rfl, rfl⟩, fun b hb => ?_, q⟩
    have e : b = s1.heap.objs.size := by simpa using hb
    subst e
    exact I1.fpOk (Nat.le_refl _) (I1.hok.fresh (Nat.le_refl _))
variable {α : Nat → Addr} {S : Sto} {v : PV} {x : V} {xs : List V} {vs : List PV}
theorem ri_seq {a : Addr} {same : Sto → Bool} (ht : (∃ ys, SqL E.K H a ys) ∨ (∃ ys, SqT E.K H a ys)) (J : It) (hJ : J = Itl E.K a ∧ (∃ ys, SqL E.K H a ys) ∨ J = Itt E.K a ∧ ∃ ys, SqT E.K H a ys) : True := trivial
theorem rd_seqL (R : Rel E α S H) {v : PV} {x : V} {vs : List PV} (r : Rp E α S.length H v x) (e : seqOf S v = some vs) : ((∀ ws, v ≠ .tup ws) ∧ ∃ a xs, x = .ref a ∧ SqL E.K H a xs ∧ RpL E α S.length H vs xs) ∨ ((∃ ws, v = .tup ws) ∧ ∃ a xs, x = .ref a ∧ SqT E.K H a xs ∧ RpL E α S.length H vs xs) := by
  unfold seqOf at e
  split at e
  · cases e
    exact .inr ⟨⟨_, rfl⟩, rd_tup r⟩
  · rename_i h
    exact .inl ⟨fun ws => h ws, rd_lst R r e⟩
theorem s_seqI {tg : Expr} (hK : X.K = E.K) (ha : PE X a (tE E W ma)) : PI X tg a (tI E W fun ρ S => (ma ρ S).bind fun v S1 => .opt (seqI S1 v) fun J => .ok J S1) := by
  refine PI.imp (pi_seq ha) fun σ H R h => ?_
  refine tG.first (R := RI E) (R' := Rp E) (f := fun v ρ S1 => .opt (seqI S1 v) fun J => .ok J S1) h fun α ρ S v x H1 R1 en rv kt => ?_
  obtain ⟨J, eJ, kt⟩ := kt.opt
  unfold seqI at eJ
  split at eJ
  · cases eJ
  · rename_i hk
    obtain ⟨vs, e1, e2⟩ := Option.map_eq_some_iff.mp eJ
    subst e2
    rcases rd_seqL R1 rv e1 with ⟨hn, a, xs, rfl, hq, rs⟩ | ⟨hn, a, xs, rfl, hq, rs⟩
    · refine ⟨a, xs, rfl, .inl ⟨by rw [hK]; exact hq, ?_⟩⟩
      refine kt.here R1 fun S0 α' S' H' hS x' R' sm => ?_
      have sm := of_decide_eq_true sm
      have rv' : Rp E α' S'.length H' v (.ref a) := Rp.ext (S := S0) x' v _ (by rw [hS]; exact rv)
      rcases rd_seqL R' rv' sm with ⟨_, a', ys, ea, hq', rs'⟩ | ⟨⟨ws, hw⟩, _⟩
      · cases ea
        refine ⟨fun i w hw => ?_, ⟨ys, by rw [hK]; exact hq', by rw [← rs'.len]; exact Nat.le_refl _⟩⟩
        obtain ⟨y, ey, ry⟩ := rs'.get hw
        refine ⟨⟨ys, y, by rw [hK]; exact hq', ey⟩, fun z H2 ⟨e2, hz⟩ => ?_⟩
        subst e2
        have hz := hz ys (by rw [hK]; exact hq')
        rw [ey] at hz; cases hz
        exact ⟨Ext.refl, R', ry⟩
      · exact absurd hw (hn ws)
    · refine ⟨a, xs, rfl, .inr ⟨by rw [hK]; exact hq, ?_⟩⟩
      refine kt.here R1 fun S0 α' S' H' hS x' R' sm => ?_
      have sm := of_decide_eq_true sm
      have rv' : Rp E α' S'.length H' v (.ref a) := Rp.ext (S := S0) x' v _ (by rw [hS]; exact rv)
      rcases rd_seqL R' rv' sm with ⟨hn', _⟩ | ⟨_, a', ys, ea, hq', rs'⟩
      · obtain ⟨ws, hw⟩ := hn; exact absurd hw (hn' ws)
      · cases ea
        refine ⟨fun i w hw => ?_, ⟨ys, by rw [hK]; exact hq', by rw [← rs'.len]; exact Nat.le_refl _⟩⟩
        obtain ⟨y, ey, ry⟩ := rs'.get hw
        refine ⟨⟨ys, y, by rw [hK]; exact hq', ey⟩, fun z H2 ⟨e2, hz⟩ => ?_⟩
        subst e2
        have hz := hz ys (by rw [hK]; exact hq')
        rw [ey] at hz; cases hz
        exact ⟨Ext.refl, R', ry⟩
theorem okR_is {lo hi : Int} (h : okR lo hi = true) : -(2 ^ 62) ≤ lo ∧ lo < 2 ^ 62 ∧ -(2 ^ 62) ≤ hi ∧ hi < 2 ^ 62 ∧ (hi - lo).toNat ≤ LIM := by
  simp only [okR, Bool.and_eq_true, decide_eq_true_eq] at h
  obtain ⟨⟨⟨⟨h1, h2⟩, h3⟩, h4⟩, h5⟩ := h
  exact ⟨by omega, by omega, by omega, by omega, h5⟩
theorem rngL_get {lo hi : Int} {i : Nat} {v : PV} (h : (rngL lo hi)[i]? = some v) : i < (hi - lo).toNat ∧ v = .int (lo + i) := by
  unfold rngL at h
  rw [List.getElem?_map] at h
  obtain ⟨j, e1, e2⟩ := Option.map_eq_some_iff.mp h
  obtain ⟨hj, e3⟩ := List.getElem?_eq_some_iff.mp e1
  simp at hj e3
  subst e3
  exact ⟨by omega, e2.symm⟩
theorem rngL_len {lo hi : Int} : (rngL lo hi).length = (hi - lo).toNat := by unfold rngL; simp
theorem ri_rng {lo hi : Int} : RI E α S.length H ⟨rngL lo hi, fun _ => true⟩ (Itr lo (hi - lo).toNat) := fun S0 α' S' H' _ x' R' _ => by
  refine ⟨fun i v h => ?_, ?_⟩
  · obtain ⟨hi', rfl⟩ := rngL_get h
    refine ⟨hi', fun z H2 ⟨e1, e2⟩ => ?_⟩
    subst e1
    exact ⟨Ext.refl, R', by simp only [Rp]; exact e2⟩
  · show (hi - lo).toNat ≤ (rngL lo hi).length
    rw [rngL_len]; exact Nat.le_refl _
theorem tA_one {P : List V → Hp → Prop} (h : tE E W ma σ H fun x H1 => P [x] H1) : tA E W (fun ρ S => (ma ρ S).bind fun v S1 => (Res.ok [] S1 : Res (List PV)).bind fun vs S2 => .ok (v :: vs) S2) σ H P := by
  obtain ⟨α, ρ, S, R, en, kt⟩ := h
  refine ⟨α, ρ, S, R, en, ?_⟩
  show Kt E W (RpL E) α S σ H ((ma ρ S).bind fun v S1 => .ok [v] S1) P
  have kt : Kt E W (Rp E) α S σ H (ma ρ S) (fun x H1 => P [x] H1) := kt
  cases hm : ma ρ S with
  | bad => rw [hm] at kt; exact kt
  | exc c S' => rw [hm] at kt; exact kt
  | ok v S1 =>
    rw [hm] at kt
    intro α' xs H' e R' rs
    obtain ⟨x, rfl, r⟩ := rl1 rs
    exact kt α' x H' e R' r
theorem tA_two {P : List V → Hp → Prop} (h : tE E W ma σ H fun x H1 => tE E W mb σ H1 fun y H2 => P [x, y] H2) :
    True := trivial
theorem s_rng1 {tg : Expr} (hg : Gl X "range") (hm : X.mg "range" = none) (h0 : notStar a = true) (ha : PE X a (tE E W ma)) :
    PI X tg (.Call (.Name "range" p) [a] [] pos) (tI E W fun ρ S => (ma ρ S).bind fun v S1 => match v with | .int n => .need (okR 0 n) (.ok ⟨rngL 0 n, fun _ => true⟩ S1) | _ => .bad) := by
  refine PI.imp (pi_range1 hg hm (a_cons h0 ha a_nil) (star1 h0)) fun σ H R h => ?_
  refine tA_one ?_
  refine tG.first (R := RI E) (R' := Rp E) (f := fun v ρ S1 => match v with | .int n => .need (okR 0 n) (.ok ⟨rngL 0 n, fun _ => true⟩ S1) | _ => .bad) h fun α ρ S v x H1 R1 en rv kt => ?_
  split at kt
  · rename_i n
    simp only [Rp] at rv
    subst rv
    obtain ⟨ok, kt⟩ := kt.need
    obtain ⟨h1, h2, h3, h4, h5⟩ := okR_is ok
    refine ⟨n, rfl, h3, h4, ?_⟩
    have q := kt.here (x := Itr 0 (n - 0).toNat) R1 ri_rng
    rwa [Int.sub_zero] at q
  · exact kt.elim
theorem s_rng2 {tg : Expr} (hg : Gl X "range") (hm : X.mg "range" = none) (h0 : notStar a = true) (h1 : notStar b = true) (ha : PE X a (tE E W ma)) (hb : PE X b (tE E W mb)) :
    PI X tg (.Call (.Name "range" p) [a, b] [] pos) (tI E W fun ρ S => (ma ρ S).bind fun v S1 => (mb ρ S1).bind fun u S2 => match v, u with | .int m, .int n => .need (okR m n) (.ok ⟨rngL m n, fun _ => true⟩ S2) | _, _ => .bad) := by
  refine PI.imp (pi_range2 hg hm (a_cons h0 ha (a_cons h1 hb a_nil)) (by rw [star1 h0, star1 h1]; rfl) (star1 h1)) fun σ H R h => ?_
  refine tG.first (Q := R) (R := RI E) (R' := RpL E) (f := fun vs ρ S2 => match vs with | [.int m, .int n] => .need (okR m n) (.ok ⟨rngL m n, fun _ => true⟩ S2) | _ => .bad) ?_ fun α ρ S vs xs H1 R1 en rs kt => ?_
  · obtain ⟨α, ρ, S, R, en, kt⟩ := h
    refine ⟨α, ρ, S, R, en, ?_⟩
    revert kt
    show Kt E W (RI E) α S σ H ((ma ρ S).bind fun v S1 => (mb ρ S1).bind fun u S2 => match v, u with | .int m, .int n => .need (okR m n) (.ok ⟨rngL m n, fun _ => true⟩ S2) | _, _ => .bad) _ → Kt E W (RI E) α S σ H (((ma ρ S).bind fun v S1 => ((mb ρ S1).bind fun u S2 => (Res.ok [] S2 : Res (List PV)).bind fun vs S3 => .ok (u :: vs) S3).bind fun vs S2 => .ok (v :: vs) S2).bind fun vs S2 => match vs with | [.int m, .int n] => .need (okR m n) (.ok ⟨rngL m n, fun _ => true⟩ S2) | _ => .bad) _
    intro kt
    cases hma : ma ρ S with
    | bad => rw [hma] at kt; exact kt
    | exc c S' => rw [hma] at kt; exact kt
    | ok v S1 =>
      rw [hma] at kt
      simp only [Res.bind] at kt ⊢
      cases hmb : mb ρ S1 with
      | bad => rw [hmb] at kt; exact kt
      | exc c S' => rw [hmb] at kt; exact kt
      | ok u S2 =>
        rw [hmb] at kt
        simp only at kt ⊢
        split at kt
        · exact kt
        · exact kt.elim
  · split at kt
    · rename_i m n
      obtain ⟨x, y, rfl, r1, r2⟩ := rl2 rs
      simp only [Rp] at r1 r2
      subst r1 r2
      obtain ⟨ok, kt⟩ := kt.need
      obtain ⟨h1, h2, h3, h4, h5⟩ := okR_is ok
      exact ⟨m, n, rfl, ⟨h1, h2, h3, h4⟩, kt.here R1 ri_rng⟩
    · exact kt.elim
end
end PM
end
section
namespace PM
open PySem L2 PySem.Spec PyProof.Rows
section
variable {E : Cfg} {W : WX} {X : Cx} {σ : L2.St} {H : Hp} {Q : VK} {ma mb mc : Env → Sto → Res PV} {a b c e : Expr} {pos p : Pos} {es : List Expr} {cf : Cf}
def KT (E : Cfg) (is : List Nat) (α : Nat → Addr) (S : Sto) (σ : L2.St) (H : Hp) (r : RT) (Q : L2.St → Hp → Prop) : Prop := match r with
  | some (ρ', S') => ∀ α' σ' H', Ext α S H α' S' H' → Rel E α' S' H' → EnvR E α' S'.length H' ρ' σ' → (∀ own : List Nat, (∀ i ∈ is, i ∈ own) → L2.wipe σ' own = L2.wipe σ own) → Q σ' H'
  | none => False
def tT (E : Cfg) (is : List Nat) (m : PV → Env → Sto → RT) : TG := fun x σ H Q => ∃ α ρ S v, Rel E α S H ∧ EnvR E α S.length H ρ σ ∧ Rp E α S.length H v x ∧ KT E is α S σ H (m v ρ S) Q
def tTs (E : Cfg) (is : List Nat) (m : List PV → Env → Sto → RT) : TGs := fun xs σ H Q => ∃ α ρ S vs, Rel E α S H ∧ EnvR E α S.length H ρ σ ∧ RpL E α S.length H vs xs ∧ KT E is α S σ H (m vs ρ S) Q
theorem PG.imp {tg : Expr} {t t' : TG} (h : PG X tg t) (k : ∀ v σ H Q, t' v σ H Q → t v σ H Q) : PG X tg t' := ⟨fun pins s σ H v u Q I r q => h.run pins s σ H v u Q I r (k v σ H Q q)⟩
theorem PGs.imp {tg : List Expr} {t t' : TGs} (h : PGs X tg t) (k : ∀ v σ H Q, t' v σ H Q → t v σ H Q) : PGs X tg t' := ⟨fun pins s σ H v u Q I r q => h.run pins s σ H v u Q I r (k v σ H Q q)⟩
theorem wipe_set {i : Nat} {x : Option V} : ∀ {own : List Nat} {σ : L2.St}, i ∈ own → L2.wipe (σ.set i x) own = L2.wipe σ own
  | [], _, h => by cases h
  | j :: own, σ, h => by
    show (L2.wipe (σ.set i x) own).set j none = (L2.wipe σ own).set j none
    by_cases hi : i ∈ own
    · rw [wipe_set hi]
    · have hij : j = i := by
        rcases List.mem_cons.mp h with e | e
        · exact e.symm
        · exact absurd e hi
      subst hij
      have key : ∀ (own : List Nat) (σ : L2.St), j ∉ own → L2.wipe (σ.set j x) own = (L2.wipe σ own).set j x := by
        intro own
        induction own with
        | nil => intro σ _; rfl
        | cons k own ih =>
          intro σ hn
          have h1 : j ≠ k := fun z => hn (by rw [z]; exact List.mem_cons_self)
          show (L2.wipe (σ.set j x) own).set k none = ((L2.wipe σ own).set k none).set j x
          rw [ih σ (fun z => hn (List.mem_cons_of_mem _ z)), List.set_comm _ _ h1]
      rw [key own σ hi, List.set_set]
theorem wipe_sub {own : List Nat} {σ : L2.St} : ∀ {vs : List Nat}, (∀ i ∈ vs, i ∈ own) → L2.wipe (L2.wipe σ vs) own = L2.wipe σ own
  | [], _ => rfl
  | v :: vs, h => by
    show L2.wipe ((L2.wipe σ vs).set v none) own = _
    rw [wipe_set (h v List.mem_cons_self), wipe_sub fun i hi => h i (List.mem_cons_of_mem _ hi)]
theorem wipe_wipe {own : List Nat} {σ : L2.St} : L2.wipe (L2.wipe σ own) own = L2.wipe σ own := wipe_sub fun _ h => h
theorem g_name {i : Nat} {x : Str} (hN : X.N.Nodup) (hi : X.N[i]? = some x) (hx : Loc X.env.scope x) (hf : X.fn x = true ∨ X.env.scope.names.lookup x = some .local) : PG X (.Name x pos) (tT E [i] fun v ρ S => some (ρ.set i (some v), S)) :=
  PG.imp (pg_name hN hi hx hf) fun x σ H Q ⟨α, ρ, S, v, R, en, rv, kt⟩ => kt α _ H Ext.refl R (en.set rv) fun own h => wipe_set (h i List.mem_cons_self)
theorem g_nil : PGs X [] (tTs E [] fun vs ρ S => match vs with | [] => some (ρ, S) | _ :: _ => none) := PGs.imp pgs_nil fun xs σ H Q ⟨α, ρ, S, vs, R, en, rs, kt⟩ => by
  dsimp only at kt
  split at kt
  · simp only [RpL] at rs
    subst rs
    exact ⟨rfl, kt α σ H Ext.refl R en fun _ _ => rfl⟩
  · exact kt.elim
theorem assignEach_cons {env : PySem.Env} (h : notStar e = true) : assignEach (e :: es) env = (false, assign e env) :: assignEach es env := by
  cases e <;> first | rfl | cases h
theorem assignEach_len : ∀ (es : List Expr) (env : PySem.Env), es.all notStar = true → (assignEach es env).length = es.length ∧ (assignEach es env).findIdx? (·.1) = none
  | [], _, _ => ⟨rfl, rfl⟩
  | e :: es, env, h => by
    simp only [List.all_cons, Bool.and_eq_true] at h
    obtain ⟨h1, h2⟩ := assignEach_len es env h.2
    rw [assignEach_cons h.1]
    refine ⟨by simp [h1], ?_⟩
    rw [List.findIdx?_cons]
    simp [h2]
theorem g_cons {is js : List Nat} {m : PV → Env → Sto → RT} {ms : List PV → Env → Sto → RT} (h0 : notStar e = true) (h1 : PG X e (tT E is m)) (h2 : PGs X es (tTs E js ms)) :
    PGs X (e :: es) (tTs E (is ++ js) fun vs ρ S => match vs with | [] => none | v :: r => match m v ρ S with | some (ρ', S') => ms r ρ' S' | none => none) :=
  PGs.imp (pgs_cons h1 h2 (by rw [assignEach_cons h0]; rfl)) fun xs σ H Q ⟨α, ρ, S, vs, R, en, rs, kt⟩ => by
    dsimp only at kt
    split at kt
    · exact kt.elim
    · rename_i v r
      simp only [RpL] at rs
      obtain ⟨y, ys, rfl, rv, rs⟩ := rs
      refine ⟨y, ys, rfl, α, ρ, S, v, R, en, rv, ?_⟩
      split at kt
      · rename_i ρ' S' e1
        rw [e1]
        refine fun α' σ' H' x' R' en' hw => ⟨α', ρ', S', r, R', en', RpL.ext x' r ys rs, ?_⟩
        revert kt
        cases ms r ρ' S' with
        | none => exact fun kt => kt.elim
        | some q =>
          obtain ⟨ρ2, S2⟩ := q
          exact fun kt α2 σ2 H2 x2 R2 en2 hw2 => kt α2 σ2 H2 (x'.trans x2) R2 en2 fun own h => (hw2 own fun i hi => h i (List.mem_append_right _ hi)).trans (hw own fun i hi => h i (List.mem_append_left _ hi))
      · exact kt.elim
def gSeq (K : PySem.W.Frag) (n : Nat) (t : TGs) : TG := fun v σ H Q => ∃ a xs, v = .ref a ∧ (SqL K H a xs ∨ SqT K H a xs) ∧ xs.length = n ∧ t xs σ H Q
theorem pg_seq {k : Nat} {t : TGs} {n : Nat} (hc : X.calm = true) (h : PGs X es t) (hn : (assignEach es X.env).length = n) (hst : (assignEach es X.env).findIdx? (·.1) = none) : PG X (.Tuple es k pos) (gSeq X.K n t) := by
  refine ⟨fun pins s σ H v u Q I r hw => ?_⟩
  obtain ⟨a, xs, e1, hq, hl, hw⟩ := hw
  rcases hq with hq | hq
  · exact (pg_unl hc h hn hst).run pins s σ H v u Q I r ⟨a, xs, e1, hq, hl, hw⟩
  · exact (pg_tup hc h hn hst).run pins s σ H v u Q I r ⟨a, xs, e1, hq, hl, hw⟩
theorem g_tup {k : Nat} {is : List Nat} {ms : List PV → Env → Sto → RT} (hK : X.K = E.K) (hc : X.calm = true) (h0 : es.all notStar = true) (h : PGs X es (tTs E is ms)) (hl : ∀ vs ρ S r, ms vs ρ S = some r → vs.length = es.length) :
    PG X (.Tuple es k pos) (tT E is fun v ρ S => match seqOf S v with | some vs => ms vs ρ S | none => none) := by
  obtain ⟨h1, h2⟩ := assignEach_len es X.env h0
  refine PG.imp (pg_seq hc h h1 h2) fun x σ H Q ⟨α, ρ, S, v, R, en, rv, kt⟩ => ?_
  dsimp only at kt
  split at kt
  · rename_i vs e1
    obtain ⟨a, xs, rfl, hq, rs⟩ := rd_seq R rv e1
    refine ⟨a, xs, rfl, by rw [hK]; exact hq, ?_, α, ρ, S, vs, R, en, rs, kt⟩
    rw [← rs.len]
    cases e2 : ms vs ρ S with
    | none => rw [e2] at kt; exact kt.elim
    | some r => exact hl vs ρ S r e2
  · exact kt.elim

theorem ts_none : PTs X [] (tB E W fun _ S => .ok true S) := ⟨fun pins s σ H Q I ⟨α, ρ, S, R, _, kt⟩ => pts_nil.run pins s σ H Q I (kt.here R rfl)⟩
theorem ts_some (h : Snd E W X a ma) : PTs X [a] (tB E W fun ρ S => (ma ρ S).bind fun v S1 => .opt (truth S1 v) fun k => .ok k S1) := pts_one h.pt
abbrev noW : WX := fun _ _ _ _ => False
theorem Kt.bnd {β γ δ ε : Type} {W' : WX} {R : (Nat → Addr) → Nat → Hp → β → γ → Prop} {R' : (Nat → Addr) → Nat → Hp → δ → ε → Prop} {α : Nat → Addr} {S : Sto} {m : Res δ} {f : δ → Sto → Res β} {Q : γ → Hp → Prop} {P : ε → Hp → Prop} (h : Kt E W R α S σ H (m.bnd f) Q) {σ' : L2.St}
    (k : ∀ v S1 α1 x H1, Ext α S H α1 S1 H1 → Rel E α1 S1 H1 → R' α1 S1.length H1 v x → Kt E W R α1 S1 σ H1 (f v S1) Q → P x H1) : Kt E W' R' α S σ' H m P := by
  cases m with
  | ok v S' => exact fun α' y H' e r q => k v S' α' y H' e r q (h.move e)
  | exc c S' => exact h.elim
  | bad => exact h.elim
theorem EnvR.wiped {α : Nat → Addr} {n : Nat} {ρ : Env} {own : List Nat} : ∀ (h : EnvR E α n H ρ σ), EnvR E α n H (PM.wipe ρ own) (L2.wipe σ own) := fun h => h.wipe own
theorem lc_is {is own : List Nat} {mi : Env → Sto → Res Itm} {mt : PV → Env → Sto → RT} {mc : Env → Sto → Res Bool} (hown : ∀ i ∈ is, i ∈ own) (h : tE E W (fun ρ S => (mi ρ S).bind fun J S1 => compL S1.length J.same (fun x S => mt x (PM.wipe ρ own) S) mc ma J.xs (S1 ++ [.lst []])) σ H Q) :
    tLc (tI E W mi) (tT E is mt) (tB E noW mc) (tE E noW ma) own σ H Q := by
  refine tG.first (R := Rp E) (R' := RI E) (f := fun J ρ S1 => compL S1.length J.same (fun x S => mt x (PM.wipe ρ own) S) mc ma J.xs (S1 ++ [.lst []])) h fun α ρ S I J H1 R1 en ri kt D hD => ?_
  have x0 := Ext.laid (α := α) (S := S) (o := .lst []) (m := .lst []) hD
  have R0 : Rel E (put1 α S.length D) (S ++ [.lst []]) (upd H1 D (.lst [])) := R1.laid hD ⟨[], upd_same, RpL.nil⟩
  refine ⟨fun i m H' => m = I.xs.length - i ∧ i ≤ I.xs.length ∧ ∃ α' S', Ext α S H1 α' S' H' ∧ Rel E α' S' H' ∧ EnvR E α' S'.length H' ρ σ ∧ S.length < S'.length ∧ α' S.length = D ∧
      Kt E W (Rp E) α' S' σ H' (compL S.length I.same (fun x S => mt x (PM.wipe ρ own) S) mc ma (I.xs.drop i) S') Q,
    ⟨I.xs.length, by simp, Nat.zero_le _, put1 α S.length D, _, x0, R0, en.ext x0, by simp, put1_same, by rw [List.drop_zero]; exact kt.move x0⟩, ?_⟩
  rintro i m H' ⟨rfl, hi, α', S', x', R', en', hl, hD', kt⟩
  by_cases hlt : i < I.xs.length
  · have hd : I.xs.drop i = I.xs[i] :: I.xs.drop (i + 1) := List.drop_eq_getElem_cons hlt
    rw [hd] at kt
    simp only [compL] at kt
    obtain ⟨sm, kt⟩ := kt.need
    obtain ⟨serve, _⟩ := ri S α' S' H' rfl x' R' sm
    obtain ⟨hgo, hy⟩ := serve i I.xs[i] (by simp [hlt])
    refine .inr ⟨hgo, fun H'' => ∃ α2 S2, Ext α S H1 α2 S2 H'' ∧ Rel E α2 S2 H'' ∧ EnvR E α2 S2.length H'' ρ σ ∧ S.length < S2.length ∧ α2 S.length = D ∧
      Kt E W (Rp E) α2 S2 σ H'' (compL S.length I.same (fun x S => mt x (PM.wipe ρ own) S) mc ma (I.xs.drop (i + 1)) S2) Q, fun H'' h2 => ⟨I.xs.length - (i + 1), by omega, rfl, hlt, h2⟩, fun x H2 yld => ?_⟩
    obtain ⟨xy, Ry, ry⟩ := hy x H2 yld
    refine ⟨α', PM.wipe ρ own, S', I.xs[i], Ry, (en'.ext xy).wipe own, ry, ?_⟩
    have kt := kt.move xy
    revert kt
    cases hm : mt I.xs[i] (PM.wipe ρ own) S' with
    | none => exact fun kt => kt.elim
    | some r =>
      obtain ⟨ρ3, S3⟩ := r
      intro kt α3 σ3 H3 x3 R3 en3 hw
      have kt : Kt E W (Rp E) α' S' σ H2 ((mc ρ3 S3).bnd fun b S4 => if b = true then (ma ρ3 S4).bnd fun y S2 => match S2[S.length]? with
        | some (.lst acc) => .need (decide (acc.length < LIM)) (compL S.length I.same (fun x S => mt x (PM.wipe ρ own) S) mc ma (I.xs.drop (i + 1)) (S2.set S.length (.lst (acc ++ [y]))))
        | _ => .bad
        else compL S.length I.same (fun x S => mt x (PM.wipe ρ own) S) mc ma (I.xs.drop (i + 1)) S4) Q := kt
      have kt := kt.move x3
      refine ⟨(hw own hown).trans ?_, α3, ρ3, S3, R3, en3, Kt.bnd (R' := RB) kt fun b S4 α4 b' H4 x4 R4 eb kt => ?_⟩
      · exact wipe_wipe
      · have eb : b' = b := eb
        subst eb
        have x14 : Ext α S H1 α4 S4 H4 := ((x'.trans xy).trans x3).trans x4
        cases b' with
        | false =>
          simp only [Bool.false_eq_true, if_false] at kt ⊢
          exact ⟨α4, S4, x14, R4, en'.ext ((xy.trans x3).trans x4), Nat.lt_of_lt_of_le hl (Nat.le_trans x3.len x4.len), by rw [x4.same _ (Nat.lt_of_lt_of_le hl x3.len), x3.same _ hl]; exact hD', kt⟩
        | true =>
          simp only [if_true] at kt ⊢
          refine ⟨α4, ρ3, S4, R4, en3.ext x4, Kt.bnd (R' := Rp E) kt fun y S5 α5 yv H5 x5 R5 rv kt => ?_⟩
          have l5 : S.length < S5.length := Nat.lt_of_lt_of_le hl (Nat.le_trans x3.len (Nat.le_trans x4.len x5.len))
          have d5 : α5 S.length = D := by
            rw [x5.same _ (Nat.lt_of_lt_of_le hl (Nat.le_trans x3.len x4.len)), x4.same _ (Nat.lt_of_lt_of_le hl x3.len), x3.same _ hl]; exact hD'
          split at kt
          · rename_i acc e5
            obtain ⟨hz, kt⟩ := kt.need
            have hz := of_decide_eq_true hz
            obtain ⟨ys, hH, rs⟩ := R5.obj _ _ e5
            rw [d5] at hH
            refine ⟨ys, hH, by rw [← rs.len, ← lim_eq]; exact hz, ?_⟩
            have x6 := Ext.wrote (o := .lst (ys ++ [yv])) (m := .lst (acc ++ [y])) R5 l5
            have rr := RpL.ext x6 _ _ (rs.append (RpL.cons rv RpL.nil))
            have R6 := R5.wrote l5 (o := .lst (ys ++ [yv])) (m := .lst (acc ++ [y])) ⟨_, upd_same, by simpa using rr⟩
            rw [d5] at x6 R6
            exact ⟨α5, _, (x14.trans x5).trans x6, R6, en'.ext ((((xy.trans x3).trans x4).trans x5).trans x6), by simpa using l5, d5, kt.move x6⟩
          · exact kt.elim
  · have e : i = I.xs.length := by omega
    subst e
    rw [List.drop_length] at kt
    simp only [compL] at kt
    obtain ⟨sm, kt⟩ := kt.need
    obtain ⟨_, stop⟩ := ri S α' S' H' rfl x' R' sm
    refine .inl ⟨stop, kt.here R' ?_⟩
    simp only [Rp]
    exact ⟨hl, by rw [hD']⟩
end
end PM
end
section
namespace PM
open PySem L2 PySem.Spec PyProof.Rows
def KS (E : Cfg) (W : WX) (D : Ends) (α : Nat → Addr) (S : Sto) (H : Hp) : RS → Prop
  | .nx ρ S' => ∀ α' σ' H', Ext α S H α' S' H' → Rel E α' S' H' → EnvR E α' S'.length H' ρ σ' → D.nx σ' H'
  | .ret v S' => ∀ α' x H', Ext α S H α' S' H' → Rel E α' S' H' → Rp E α' S'.length H' v x → D.rt x H'
  | .exc c ρ S' => ∀ α' σ' H', Ext α S H α' S' H' → Rel E α' S' H' → EnvR E α' S'.length H' ρ σ' → W (.ref (E.xc c)) none σ' H'
  | .bad => False
def tSt (E : Cfg) (W : WX) (m : Env → Sto → RS) : TS := fun D σ H => ∃ α ρ S, Rel E α S H ∧ EnvR E α S.length H ρ σ ∧ KS E W D α S H (m ρ S)
section
variable {E : Cfg} {W : WX} {X : Cx} {σ : L2.St} {H H1 : Hp} {D : Ends} {ma mb mc : Env → Sto → Res PV} {a b c e : Expr} {pos p : Pos} {es : List Expr} {cf : Cf} {α α1 : Nat → Addr} {S S1 : Sto} {ρ : Env}
theorem KS.move (x : Ext α S H α1 S1 H1) {r : RS} (h : KS E W D α S H r) : KS E W D α1 S1 H1 r := by
  cases r with
  | nx ρ S' => exact fun α' σ' H' e => h α' σ' H' (x.trans e)
  | ret v S' => exact fun α' y H' e => h α' y H' (x.trans e)
  | exc c ρ S' => exact fun α' σ' H' e => h α' σ' H' (x.trans e)
  | bad => exact h
theorem KS.seq {q : RS} {f : Env → Sto → RS} (h : KS E W D α S H (q.seq f)) : KS E W { D with nx := tSt E W f D } α S H q := by
  cases q with
  | nx ρ S' => exact fun α' σ' H' e R en => ⟨α', ρ, S', R, en, h.move e⟩
  | ret v S' => exact h
  | exc c ρ S' => exact h
  | bad => exact h
theorem KS.fst {β γ : Type} {R : (Nat → Addr) → Nat → Hp → β → γ → Prop} {m : Res β} {f : β → Sto → RS} {P : γ → Hp → Prop} (h : KS E W D α S H (RS.fst ρ m f)) (en : EnvR E α S.length H ρ σ)
    (k : ∀ v S1 α1 x H1, Ext α S H α1 S1 H1 → Rel E α1 S1 H1 → R α1 S1.length H1 v x → EnvR E α1 S1.length H1 ρ σ → KS E W D α1 S1 H1 (f v S1) → P x H1) : Kt E W R α S σ H m P := by
  cases m with
  | ok v S' => exact fun α' x H' e R' rv => k v S' α' x H' e R' rv (en.ext e) (h.move e)
  | exc c S' => exact fun α' H' e R' => h α' σ H' e R' (en.ext e)
  | bad => exact h
theorem ss_cons {st : Stmt} {rest : List Stmt} {t : TS} {m n : Env → Sto → RS} (h1 : PS X st t) (h2 : PSs X rest (tSt E W n)) (k : ∀ D σ H, tSt E W m D σ H → t { D with nx := tSt E W n D } σ H) : PSs X (st :: rest) (tSt E W m) := PSs.imp (pss_cons h1 h2) k
theorem ss_nil : PSs X [] (tSt E W fun ρ S => .nx ρ S) := PSs.imp pss_nil fun D σ H ⟨α, ρ, S, R, en, ks⟩ => ks α σ H Ext.refl R en
variable {rest : List Stmt} {n : Env → Sto → RS}
theorem ss_pass (h : PSs X rest (tSt E W n)) : PSs X (.Pass pos :: rest) (tSt E W n) := PSs.imp (pss_cons ps_pass h) fun D σ H q => q
theorem ss_asg {tg : Expr} {is : List Nat} {mt : PV → Env → Sto → RT} (h1 : PS X (.Assign [tg] e pos) (tAsg (tE E W ma) (tT E is mt))) (h2 : PSs X rest (tSt E W n)) :
    PSs X (.Assign [tg] e pos :: rest) (tSt E W fun ρ S => RS.fst ρ (ma ρ S) fun v S1 => match mt v ρ S1 with | some (ρ', S2) => n ρ' S2 | none => .bad) := ss_cons h1 h2 fun D σ H ⟨α, ρ, S, R, en, ks⟩ => by
  refine ⟨α, ρ, S, R, en, KS.fst ks en fun v S1 α1 x H1 e R1 rv en1 ks => ?_⟩
  refine ⟨α1, ρ, S1, v, R1, en1, rv, ?_⟩
  revert ks
  cases mt v ρ S1 with
  | none => exact fun ks => ks.elim
  | some q =>
    obtain ⟨ρ', S2⟩ := q
    exact fun ks α2 σ2 H2 e2 R2 en2 _ => ⟨α2, ρ', S2, R2, en2, ks.move e2⟩
theorem ss_ex (he : PE X e (tE E W ma)) (hs : swapsWith e none pos.line X.env = pure false) (h2 : PSs X rest (tSt E W n)) : PSs X (.Expr e pos :: rest) (tSt E W fun ρ S => RS.fst ρ (ma ρ S) fun _ S1 => n ρ S1) := ss_cons (ps_expr he hs) h2 fun D σ H ⟨α, ρ, S, R, en, ks⟩ =>
  ⟨α, ρ, S, R, en, KS.fst ks en fun v S1 α1 x H1 e R1 rv en1 ks => ⟨α1, ρ, S1, R1, en1, ks⟩⟩
theorem ss_ret (he : PE X e (tE E W ma)) : PSs X [.Return (some e) pos] (tSt E W fun ρ S => RS.fst ρ (ma ρ S) fun v S1 => .ret v S1) := PSs.imp (pss_one (ps_ret he)) fun D σ H ⟨α, ρ, S, R, en, ks⟩ =>
  ⟨α, ρ, S, R, en, KS.fst ks en fun v S1 α1 x H1 e R1 rv en1 ks => ks α1 x H1 Ext.refl R1 rv⟩
theorem ss_retN : PSs X [.Return none pos] (tSt E W fun ρ S => .ret .non S) := PSs.imp (pss_one ps_retN) fun D σ H ⟨α, ρ, S, R, en, ks⟩ => ks α .non H Ext.refl R (by simp only [Rp])
theorem ss_if {sa sb : List Stmt} {na nb : Env → Sto → RS} (hc : Snd E W X c mc) (ha : PSs X sa (tSt E W na)) (hb : PSs X sb (tSt E W nb)) (h2 : PSs X rest (tSt E W n)) :
    PSs X (.If c sa sb pos :: rest) (tSt E W fun ρ S => RS.fst ρ ((mc ρ S).bind fun v S1 => .opt (truth S1 v) fun k => .ok k S1) fun k S1 => (if k = true then na ρ S1 else nb ρ S1).seq n) := ss_cons (ps_if hc.pt ha hb) h2 fun D σ H ⟨α, ρ, S, R, en, ks⟩ => by
  refine ⟨α, ρ, S, R, en, KS.fst ks en fun k S1 α1 k' H1 e R1 rv en1 ks => ?_⟩
  have rv : k' = k := rv
  subst rv
  have ks := KS.seq ks
  cases k' with
  | true => exact ⟨α1, ρ, S1, R1, en1, ks⟩
  | false => exact ⟨α1, ρ, S1, R1, en1, ks⟩
theorem ss_aug {i : Nat} {x : Str} {o : BOp} {f : Int → Int → Int} {op : Operator} {pos' : Pos} (hN : X.N.Nodup) (hi : X.N[i]? = some x) (hx : Loc X.env.scope x) (hf : X.fn x = true ∨ X.env.scope.names.lookup x = some .local) (he : PE X e (tE E W ma)) (ho : PIp X op (ipI f))
    (hb : ∀ S i j, bopV o S (.int i) (.int j) = .ok (.int (f i j)) S) (h2 : PSs X rest (tSt E W n)) :
    PSs X (.AugAssign (.Name x pos') op e pos :: rest) (tSt E W fun ρ S => match ρ[i]? with
      | some (some x) => RS.fst ρ ((ma ρ S).bind fun y S1 => augV o S1 x y) fun z S2 => n (ρ.set i (some z)) S2
      | _ => .bad) := ss_cons (ps_aug hN hi hx he ho hf) h2 fun D σ H ⟨α, ρ, S, R, en, ks⟩ => by
  dsimp only at ks
  split at ks
  · rename_i v ev
    obtain ⟨y, ey, ry⟩ := en.at_ i v ev
    refine ⟨y, ey, α, ρ, S, R, en, ?_⟩
    have key : ∀ m : Res PV, KS E W D α S H (RS.fst ρ (m.bind fun y S1 => augV o S1 v y) fun z S2 => n (ρ.set i (some z)) S2) →
        Kt E W (Rp E) α S σ H m (fun z H1 => ipI f y z H1 fun w H2 => ({ D with nx := tSt E W n D } : Ends).nx (σ.set i (some w)) H2) := fun m ks => by
      cases m with
      | bad => exact ks
      | exc c S' => exact fun α' H' e R' => ks α' σ H' e R' (en.ext e)
      | ok w S' =>
        intro α' z H' e R' rw'
        simp only [Res.bind, augV] at ks
        split at ks
        · rename_i i1 j1 _
          rw [hb] at ks
          simp only [Rp] at ry rw'
          subst ry rw'
          have ks : KS E W D α S H (n (ρ.set i (some (.int (f i1 j1)))) S') := ks
          exact ⟨i1, j1, rfl, rfl, α', _, S', R', (en.ext e).set (by simp only [Rp]), ks.move e⟩
        · exact ks.elim
    exact key _ ks
  · exact ks.elim
theorem whL_succ {cc : Env → Sto → Res Bool} {body : Env → Sto → RS} {k : Nat} {ρ : Env} {S : Sto} : whL cc body (k + 1) ρ S = RS.fst ρ (cc ρ S) fun b S' => if b = true then (body ρ S').seq (whL cc body k) else .nx ρ S' := by
  show (match cc ρ S with | .ok true S' => _ | .ok false S' => _ | .exc x S' => _ | .bad => _) = _
  cases cc ρ S with
  | ok b S' => cases b <;> rfl
  | exc c S' => rfl
  | bad => rfl
theorem ss_while {body : List Stmt} {nb : Env → Sto → RS} {k : Nat} (hp : PassesOwn (model X.prog X.w) X.A X.env X.xe) (hc : Snd E W X c mc) (hb : PSs X body (tSt E W nb)) (h2 : PSs X rest (tSt E W n)) :
    PSs X (.While c body [] pos :: rest) (tSt E W fun ρ S => (whL (fun ρ S => (mc ρ S).bind fun v S1 => .opt (truth S1 v) fun k => .ok k S1) nb k ρ S).seq n) := ss_cons (ps_while hp hc.pt hb) h2 fun D σ H ⟨α, ρ, S, R, en, ks⟩ => by
  have ks := KS.seq ks
  generalize ({ D with nx := tSt E W n D } : Ends) = D1 at ks
  refine ⟨fun m σ H => ∃ α ρ S, Rel E α S H ∧ EnvR E α S.length H ρ σ ∧ KS E W D1 α S H (whL (fun ρ S => (mc ρ S).bind fun v S1 => .opt (truth S1 v) fun k => .ok k S1) nb m ρ S), ⟨k, α, ρ, S, R, en, ks⟩, ?_⟩
  rintro m σ H ⟨α, ρ, S, R, en, ks⟩
  cases m with
  | zero => exact ks.elim
  | succ m =>
    rw [whL_succ] at ks
    refine ⟨α, ρ, S, R, en, KS.fst ks en fun b S1 α1 b' H1 e R1 rb en1 ks => ?_⟩
    have rb : b' = b := rb
    subst rb
    cases b' with
    | true =>
      simp only [if_true] at ks ⊢
      have ks := KS.seq ks
      refine ⟨tSt E W (whL (fun ρ S => (mc ρ S).bind fun v S1 => .opt (truth S1 v) fun k => .ok k S1) nb m) D1, fun σ' H' q => ⟨m, Nat.lt_succ_self _, q⟩, α1, ρ, S1, R1, en1, ?_⟩
      revert ks
      cases nb ρ S1 <;> exact fun ks => ks
    | false =>
      simp only [Bool.false_eq_true, if_false] at ks ⊢
      exact ks α1 σ H1 Ext.refl R1 en1
theorem ss_for {tg iter : Expr} {body : List Stmt} {mi : Env → Sto → Res Itm} {is : List Nat} {mt : PV → Env → Sto → RT} {nb : Env → Sto → RS} (hp : PassesOwn (model X.prog X.w) X.A X.env X.xe) (hcm : X.calm = true) (hi : PI X tg iter (tI E W mi)) (hg : PG X tg (tT E is mt)) (hb : PSs X body (tSt E W nb))
    (hs : ∀ x, foldedSetIterable iter X.env x = pure x) (h2 : PSs X rest (tSt E W n)) :
    PSs X (.For tg iter body [] pos :: rest) (tSt E W fun ρ S => RS.fst ρ (mi ρ S) fun J S1 => (forL J.same mt nb J.xs ρ S1).seq n) := ss_cons (ps_for hp hcm hi hg hb hs) h2 fun D σ H ⟨α, ρ, S, R, en, ks⟩ => by
  refine ⟨α, ρ, S, R, en, KS.fst ks en fun I S1 α1 J H1 e R1 ri en1 ks => ?_⟩
  have ks := KS.seq ks
  generalize ({ D with nx := tSt E W n D } : Ends) = D1 at ks ⊢
  refine ⟨fun i m σ H' => m = I.xs.length - i ∧ i ≤ I.xs.length ∧ ∃ α' ρ' S', Ext α1 S1 H1 α' S' H' ∧ Rel E α' S' H' ∧ EnvR E α' S'.length H' ρ' σ ∧ KS E W D1 α' S' H' (forL I.same mt nb (I.xs.drop i) ρ' S'),
    ⟨I.xs.length, by simp, Nat.zero_le _, α1, ρ, S1, Ext.refl, R1, en1, ks⟩, ?_⟩
  rintro i m σ H' ⟨rfl, hi, α', ρ', S', x', R', en', ks⟩
  by_cases hlt : i < I.xs.length
  · rw [List.drop_eq_getElem_cons hlt] at ks
    simp only [forL] at ks
    split at ks
    · rename_i sm
      obtain ⟨serve, _⟩ := ri S1 α' S' H' rfl x' R' sm
      obtain ⟨hgo, hy⟩ := serve i I.xs[i] (by simp [hlt])
      refine .inr ⟨hgo, fun σ H' => ∃ α' ρ' S', Ext α1 S1 H1 α' S' H' ∧ Rel E α' S' H' ∧ EnvR E α' S'.length H' ρ' σ ∧ KS E W D1 α' S' H' (forL I.same mt nb (I.xs.drop (i + 1)) ρ' S'),
        fun σ' H' q => ⟨I.xs.length - (i + 1), by omega, rfl, hlt, q⟩, fun x H2 yld => ?_⟩
      obtain ⟨xy, Ry, ry⟩ := hy x H2 yld
      refine ⟨α', ρ', S', I.xs[i], Ry, en'.ext xy, ry, ?_⟩
      have ks := ks.move xy
      revert ks
      cases mt I.xs[i] ρ' S' with
      | none => exact fun ks => ks.elim
      | some r =>
        obtain ⟨ρ3, S3⟩ := r
        intro ks α3 σ3 H3 x3 R3 en3 _
        refine ⟨α3, ρ3, S3, R3, en3, ?_⟩
        have ks := ks.move x3
        revert ks
        dsimp only
        cases nb ρ3 S3 with
        | nx ρ4 S4 => exact fun ks α4 σ4 H4 x4 R4 en4 => ⟨α4, ρ4, S4, ((x'.trans xy).trans x3).trans x4, R4, en4, ks.move x4⟩
        | ret v S4 => exact fun ks => ks
        | exc c ρ4 S4 => exact fun ks => ks
        | bad => exact fun ks => ks
    · exact ks.elim
  · have e : i = I.xs.length := by omega
    subst e
    rw [List.drop_length] at ks
    simp only [forL] at ks
    split at ks
    · rename_i sm
      obtain ⟨_, stop⟩ := ri S1 α' S' H' rfl x' R' sm
      exact .inl ⟨stop, ks α' σ H' Ext.refl R' en'⟩
    · exact ks.elim
end
end PM
end
section
namespace PM
open PySem L2 PySem.Spec PyProof.Rows
structure Gx where
  fns : List (Str × Nat)
  bis : List Str
  cls : List (Str × Nat)
  fld : List Str
structure Nm where
  N : List Str
  sc : Scope
  raw : Scope
def Nm.vis (n : Nm) (i : Nat) (x : Str) : Bool := decide (n.N[i]? = some x) && (match n.sc.names.lookup x with | some .local => true | some .cell => true | some .free => true | _ => false) && !(x == ("__debug__" : Str)) && !(x == ("__classdict__" : Str))
def Nm.loc (n : Nm) (i : Nat) (x : Str) : Bool := decide (n.N[i]? = some x) && (decide (n.sc.names.lookup x = some .local) || (decide (n.sc.names.lookup x = some .cell) && decide (n.raw.names.lookup x = some .cell)))
def Nm.gl (n : Nm) (x : Str) : Bool := decide (n.sc.names.lookup x = some .globalImplicit)
def Nm.bi (n : Nm) (G : Gx) (x : Str) : Bool := n.gl x && G.bis.contains x
def cstC (v : PV) (c : Const) : Bool := match v with
  | .int i => (match c with | .int j => decide (i = j) | _ => false)
  | .bl i => (match c with | .bool j => decide (i = j) | _ => false)
  | .str i => (match c with | .str j => decide (i = j) | _ => false)
  | .non => (match c with | .none => true | _ => false)
  | _ => false
def biN : BI → Str
  | .len => "len" | .int => "int" | .list => "list" | .tuple => "tuple" | .sorted => "sorted" | .min2 => "min" | .min1 => "min" | .max1 => "max" | .sum => "sum" | .str => "str" | .repr => "repr"
  | .listR1 => "list" | .tupR1 => "tuple" | .tupR2 => "tuple" | .bool => "bool"
def biP : BI → Bool
  | .len | .int | .list | .tuple | .sorted | .min2 | .sum | .str => true
  | _ => false
def knC (G : Gx) (n : Nm) (k : KN) (e : Expr) : Bool := match e with
  | .Name x _ => (match k with
    | .int => decide (x = "int") && n.bi G x | .bool => decide (x = "bool") && n.bi G x | .str => decide (x = "str") && n.bi G x | .list => decide (x = "list") && n.bi G x | .tuple => decide (x = "tuple") && n.bi G x
    | .cls c => decide (G.cls.lookup x = some c) && n.gl x && !(x == ("__debug__" : Str)))
  | _ => false
def notSet : Expr → Bool
  | .Set _ _ _ => false
  | _ => true
mutual
def tis : CT → List Nat
  | .var i => [i]
  | .fld _ _ => []
  | .sub _ _ => []
  | .tup ts => tiss ts
def tiss : CTs → List Nat
  | .nil => []
  | .cons t ts => tis t ++ tiss ts
end
def CTs.len : CTs → Nat
  | .nil => 0
  | .cons _ ts => ts.len + 1
mutual
def ck (G : Gx) : Nat → Nm → CE → Expr → Bool
  | 0, _, _, _ => false
  | m + 1, n, e, py => match e with
    | .cst v => (match py with | .Constant c _ _ => cstC v c | _ => false)
    | .var i => (match py with | .Name x _ => n.vis i x | _ => false)
    | .pow i j => (match py with | .BinOp a op b _ => decide (op = .Pow) && (match a with | .Constant (.int x) _ _ => (match b with | .Constant (.int y) _ _ => decide (x = i) && decide (y = j) && decide (i < 2 ^ 64) && decide (j ≤ 1000) | _ => false) | _ => false) | _ => false)
    | .bop o a b => (match py with | .BinOp x op y _ => decide (op = opB o) && ck G m n a x && ck G m n b y | _ => false)
    | .cmp o a b => (match py with | .Compare x [op] [y] _ => decide (op = opC o) && !behindInMarks (opC o) y && ck G m n a x && ck G m n b y | _ => false)
    | .cmp2 o o' a b c => (match py with | .Compare x [op, op'] [y, z] _ => decide (op = opC o) && decide (op' = opC o') && !lastMarks [opC o, opC o'] [y, z] && ck G m n a x && ck G m n b y && ck G m n c z | _ => false)
    | .and _ _ => (match py with | .BoolOp op es _ => decide (op = .And) && ckAnd G m n e es | _ => false)
    | .or _ _ => (match py with | .BoolOp op es _ => decide (op = .Or) && ckOr G m n e es | _ => false)
    | .not a => (match py with | .UnaryOp op x _ => decide (op = .Not) && ck G m n a x | _ => false)
    | .neg a => (match py with | .UnaryOp op x _ => decide (op = .USub) && ck G m n a x | _ => false)
    | .tup es => (match py with | .Tuple xs _ _ => cks G m n es xs | _ => false)
    | .lst es => (match py with | .List xs _ => cks G m n es xs | _ => false)
    | .ix a i => (match py with | .Subscript x y _ => plainIx y && ck G m n a x && ck G m n i y | _ => false)
    | .sl a lo hi => (match py with | .Subscript x y _ => (match y with | .Slice l h st _ => st.isNone && ck G m n a x && cko G m n lo l && cko G m n hi h | _ => false) | _ => false)
    | .rev a => (match py with | .Subscript x y _ => (match y with | .Slice l h st _ => l.isNone && h.isNone && (match st with | some (.UnaryOp op (.Constant (.int 1) _ _) _) => decide (op = .USub) | _ => false) && ck G m n a x | _ => false) | _ => false)
    | .call f es => (match py with | .Call g xs kw _ => kw.isEmpty && (match g with | .Name x _ => n.gl x && decide (G.fns.lookup x = some f) && !(x == ("__debug__" : Str)) && cks G m n es xs | _ => false) | _ => false)
    | .bi b es => (match py with | .Call g xs kw _ => kw.isEmpty && (match g with | .Name x _ => biP b && decide (x = biN b) && n.bi G x && !xs.isEmpty && cks G m n es xs | _ => false) | _ => false)
    | .isi a ks => match py with
      | .Call g xs kw _ => kw.isEmpty && (match g with | .Name x _ => decide (x = "isinstance") && n.bi G x | _ => false) && (match xs with
        | [y, z] => notStar y && ck G m n a y && (match ks with
          | [k] => knC G n k z
          | [k, k'] => (match z with | .Tuple [z1, z2] _ _ => decide (k = .list) && decide (k' = .tuple) && knC G n k z1 && knC G n k' z2 | _ => false)
          | _ => false)
        | _ => false)
      | _ => false
    | .lm k o es => match py with
      | .Call g xs kw pos => kw.isEmpty && (match g with
        | .Attribute x nm p => plainOb x && (p.endLine == pos.line) && decide (xs.length < 29) && ck G m n o x && cks G m n es xs && (match k with
          | .append => decide (nm = "append") && !xs.isEmpty
          | .pop0 => decide (nm = "pop") && xs.isEmpty
          | _ => false)
        | _ => false)
      | _ => false
    | .comp elt own tg it cond => match py with
      | .ListComp x gs scope _ => (match gs with
        | [⟨t, iter, ifs, asn⟩] => decide (asn = 0) && notSet iter && blkC n.N n.sc scope (own.map fun i => (n.N.getD i "", i)) && cki G m n it iter && (tis tg).all (fun i => own.contains i) && ckt G m ⟨n.N, relS scope n.sc, scope⟩ tg t
            && ckb G m ⟨n.N, relS scope n.sc, scope⟩ cond ifs && ck G m ⟨n.N, relS scope n.sc, scope⟩ elt x
        | _ => false)
      | _ => false
    | .fz a => plainT py && ck G m n a py
    | _ => false
def ckAnd (G : Gx) : Nat → Nm → CE → List Expr → Bool
  | 0, _, _, _ => false
  | m + 1, n, e, es => match es with
    | [] => false
    | x :: r => if r.isEmpty then ck G m n e x else (match e with | .and a b => ck G m n a x && ckAnd G m n b r | _ => false)
def ckOr (G : Gx) : Nat → Nm → CE → List Expr → Bool
  | 0, _, _, _ => false
  | m + 1, n, e, es => match es with
    | [] => false
    | x :: r => if r.isEmpty then ck G m n e x else (match e with | .or a b => ck G m n a x && ckOr G m n b r | _ => false)
def cks (G : Gx) : Nat → Nm → CEs → List Expr → Bool
  | 0, _, _, _ => false
  | m + 1, n, es, xs => match es with
    | .nil => xs.isEmpty
    | .cons e es => (match xs with | x :: xs => notStar x && ck G m n e x && cks G m n es xs | [] => false)
def cko (G : Gx) : Nat → Nm → CEo → Option Expr → Bool
  | 0, _, _, _ => false
  | m + 1, n, o, x => match o with
    | .none => x.isNone
    | .some e => (match x with | some x => ck G m n e x | none => false)
def ckb (G : Gx) : Nat → Nm → CEo → List Expr → Bool
  | 0, _, _, _ => false
  | m + 1, n, o, xs => match o with
    | .none => xs.isEmpty
    | .some e => (match xs with | [x] => ck G m n e x | _ => false)
def cki (G : Gx) : Nat → Nm → CI → Expr → Bool
  | 0, _, _, _ => false
  | m + 1, n, i, py => match i with
    | .seq e => ck G m n e py
    | .rng1 e => (match py with | .Call g xs kw _ => kw.isEmpty && (match g with | .Name x _ => decide (x = "range") && n.bi G x | _ => false) && (match xs with | [x] => notStar x && ck G m n e x | _ => false) | _ => false)
    | .rng2 e e' => (match py with | .Call g xs kw _ => kw.isEmpty && (match g with | .Name x _ => decide (x = "range") && n.bi G x | _ => false) && (match xs with | [x, y] => notStar x && notStar y && ck G m n e x && ck G m n e' y | _ => false) | _ => false)
    | _ => false
def ckt (G : Gx) : Nat → Nm → CT → Expr → Bool
  | 0, _, _, _ => false
  | m + 1, n, t, py => match t with
    | .var i => (match py with | .Name x _ => n.loc i x | _ => false)
    | .tup ts => (match py with | .Tuple xs _ _ => ckts G m n ts xs | _ => false)
    | _ => false
def ckts (G : Gx) : Nat → Nm → CTs → List Expr → Bool
  | 0, _, _, _ => false
  | m + 1, n, ts, xs => match ts with
    | .nil => xs.isEmpty
    | .cons t ts => (match xs with | x :: xs => notStar x && ckt G m n t x && ckts G m n ts xs | [] => false)
end
structure CxE (E : Cfg) (cf : Cf) (G : Gx) (k : Nat) (n : Nm) (W : WX) (X : Cx) : Prop where
  K : X.K = E.K
  N : X.N = n.N
  nd : n.N.Nodup
  sc : X.env.scope = n.sc
  fn : ∀ x, n.raw.names.lookup x = some .cell → X.fn x = true
  calm : X.calm = true
  room : Room k X.A
  bi : ∀ x ∈ G.bis, X.mg x = none
  fns : ∀ x f, G.fns.lookup x = some f → ∃ a, X.mg x = some (.ref a) ∧ FnIn E cf X k f a
  clsN : ∀ x c, G.cls.lookup x = some c → X.mg x = some (.ref (E.cls c)) ∧ c < E.nc
  cls : ∀ d, d < E.nc → ClsF E d
  tk : Takes X W
section
variable {E : Cfg} {cf : Cf} {G : Gx} {k : Nat} {n : Nm} {W : WX} {X : Cx}
theorem CxE.blk (C : CxE E cf G k n W X) (s : Shared) (H : Hp) (D : Addr) (cl : List (Str × Addr)) (fp : List Addr) (scope : Scope) : CxE E cf G k ⟨n.N, relS scope n.sc, scope⟩ noW (X.blk s H scope (compEnvC scope cl D X.env) fp) where
  K := C.K
  N := C.N
  nd := C.nd
  sc := by rw [← C.sc]; rfl
  fn := fun x h => by
    have h : scope.names.lookup x = some .cell := h
    show (scope.names.lookup x == some .cell) = true
    rw [h]; rfl
  calm := C.calm
  room := C.room
  bi := C.bi
  fns := fun x f h => let ⟨a, h1, h2⟩ := C.fns x f h; ⟨a, h1, h2.kp, h2.ok⟩
  clsN := C.clsN
  cls := C.cls
  tk := takes0
theorem CxE.gl (C : CxE E cf G k n W X) {x : Str} (h : n.gl x = true) : Gl X x := by
  show X.env.scope.names.lookup x = some .globalImplicit
  rw [C.sc]; exact of_decide_eq_true h
theorem CxE.bt (C : CxE E cf G k n W X) {x : Str} (h : n.bi G x = true) : Gl X x ∧ X.mg x = none := by
  simp only [Nm.bi, Bool.and_eq_true, List.contains_iff_mem] at h
  exact ⟨C.gl h.1, C.bi x h.2⟩
theorem CxE.hu (C : CxE E cf G k n W X) : X.A.units + 65 < cLine := by have := C.room.un; omega
theorem CxE.loc (C : CxE E cf G k n W X) {i : Nat} {x : Str} (h : n.loc i x = true) : X.N[i]? = some x ∧ Loc X.env.scope x ∧ (X.fn x = true ∨ X.env.scope.names.lookup x = some .local) := by
  simp only [Nm.loc, Bool.and_eq_true, Bool.or_eq_true, decide_eq_true_eq] at h
  rw [C.N, C.sc]
  rcases h.2 with h2 | ⟨h2, h3⟩
  · exact ⟨h.1, .inl h2, .inr h2⟩
  · exact ⟨h.1, .inr h2, .inl (C.fn x h3)⟩
theorem CxE.kn (C : CxE E cf G k n W X) {c : KN} {e : Expr} (h : knC G n c e = true) : KnOk E X c e ∧ ∀ d, c = .cls d → d < E.nc := by
  cases e <;> simp only [knC] at h <;> try cases h
  rename_i x pos
  cases c <;> simp only [Bool.and_eq_true, decide_eq_true_eq] at h
  · obtain ⟨rfl, h⟩ := h; obtain ⟨g, m⟩ := C.bt h
    exact ⟨⟨pe_bltn g m PyProof.Rows.boot_int rfl, rfl⟩, fun _ z => by cases z⟩
  · obtain ⟨rfl, h⟩ := h; obtain ⟨g, m⟩ := C.bt h
    exact ⟨⟨pe_bltn g m PyProof.Rows.boot_bool rfl, rfl⟩, fun _ z => by cases z⟩
  · obtain ⟨rfl, h⟩ := h; obtain ⟨g, m⟩ := C.bt h
    exact ⟨⟨pe_bltn g m PyProof.Rows.boot_str rfl, rfl⟩, fun _ z => by cases z⟩
  · obtain ⟨rfl, h⟩ := h; obtain ⟨g, m⟩ := C.bt h
    exact ⟨⟨pe_bltn g m PyProof.Rows.boot_list rfl, rfl⟩, fun _ z => by cases z⟩
  · obtain ⟨rfl, h⟩ := h; obtain ⟨g, m⟩ := C.bt h
    exact ⟨⟨pe_bltn g m PyProof.Rows.boot_tuple rfl, rfl⟩, fun _ z => by cases z⟩
  · obtain ⟨⟨h1, h2⟩, h5⟩ := h
    obtain ⟨h3, h4⟩ := C.clsN _ _ h1
    exact ⟨⟨pe_glob (C.gl h2) h3 rfl (by simpa using h5), rfl⟩, fun d z => by cases z; exact h4⟩
end
end PM
end
section
namespace PM
open PySem L2 PySem.Spec PyProof.Rows
structure AllS (E : Cfg) (cf : Cf) (G : Gx) (m : Nat) : Prop where
  e : ∀ {k n W X}, CxE E cf G k n W X → ∀ e py, ck G m n e py = true → Snd E W X py (ev cf e)
  an : ∀ {k n W X}, CxE E cf G k n W X → ∀ e es pos, ckAnd G m n e es = true → SndB E W X .And es pos (ev cf e)
  orr : ∀ {k n W X}, CxE E cf G k n W X → ∀ e es pos, ckOr G m n e es = true → SndB E W X .Or es pos (ev cf e)
  s : ∀ {k n W X}, CxE E cf G k n W X → ∀ es xs, cks G m n es xs = true → PA X xs (tA E W (evs cf es)) ∧ xs.all notStar = true
  o : ∀ {k n W X}, CxE E cf G k n W X → ∀ e x, cko G m n e x = true → PO X x (tO E W (evo cf e))
  b : ∀ {k n W X}, CxE E cf G k n W X → ∀ e xs, ckb G m n e xs = true → PTs X xs (tB E W (evb cf e))
  i : ∀ {k n W X}, CxE E cf G k n W X → ∀ i py tg, cki G m n i py = true → PI X tg py (tI E W (evi cf i))
  t : ∀ {k n W X}, CxE E cf G k n W X → ∀ t py, ckt G m n t py = true → PG X py (tT E (tis t) (evt cf t))
  ts : ∀ {k n W X}, CxE E cf G k n W X → ∀ ts xs, ckts G m n ts xs = true → PGs X xs (tTs E (tiss ts) (evts cf ts)) ∧ xs.all notStar = true ∧ xs.length = ts.len
section
variable {E : Cfg} {cf : Cf} {G : Gx} {k : Nat} {n : Nm} {W : WX} {X : Cx} {m : Nat}
theorem foldSet {e : Expr} (h : notSet e = true) {env : PySem.Env} : ∀ x, foldedSetIterable e env x = pure x := by
  intro x
  cases e <;> first | rfl | simp [notSet] at h
theorem beq_f {x y : Str} (h : (!(x == y)) = true) : (x == y) = false := by simpa using h
theorem s_bi {b : BI} {x : Str} {e : Expr} {es : List Expr} {ms : Env → Sto → Res (List PV)} {p pos : Pos} (C : CxE E cf G k n W X) (hb : biP b = true) (hx : x = biN b) (h : n.bi G x = true) (h0 : (e :: es).all notStar = true) (ha : PA X (e :: es) (tA E W ms)) :
    PE X (.Call (.Name x p) (e :: es) [] pos) (tE E W fun ρ S => (ms ρ S).bind fun vs S1 => biV b S1 vs) := by
  obtain ⟨g, mg⟩ := C.bt h
  subst hx
  cases b <;> simp only [biP] at hb <;> try cases hb
  · exact s_callB (f := fun vs S => biV .len S vs) call_lenA g mg boot_len h0 ha (by decide) (by decide) fun α S σ vs xs H Q R rs kt => by rw [C.K]; exact len_rd R rs kt
  · exact s_callT (f := fun vs S => biV .int S vs) call_int1 g mg PyProof.Rows.boot_int h0 ha (by decide) (by decide) fun α S σ vs xs H Q R rs kt => int_rd R rs kt
  · exact s_callT (f := fun vs S => biV .list S vs) (call_listA C.calm) g mg PyProof.Rows.boot_list h0 ha (by decide) (by decide) fun α S σ vs xs H Q R rs kt => by rw [C.K]; exact list_rd R rs kt
  · exact s_callT (f := fun vs S => biV .tuple S vs) call_tuple_of g mg PyProof.Rows.boot_tuple h0 ha (by decide) (by decide) fun α S σ vs xs H Q R rs kt => by rw [C.K]; exact tuple_rd R rs kt
  · exact s_callB (f := fun vs S => biV .sorted S vs) (cr_sorted.or (call_sortedDI C.calm)) g mg PyProof.Rows.boot_sorted h0 ha (by decide) (by decide) fun α S σ vs xs H Q R rs kt => by rw [C.K]; exact sort_rd R rs kt
  · exact s_callB (f := fun vs S => biV .min2 S vs) (call_min2 C.calm) g mg PyProof.Rows.boot_min h0 ha (by decide) (by decide) fun α S σ vs xs H Q R rs kt => min2_rd R rs kt
  · exact s_callB (f := fun vs S => biV .sum S vs) (cr_sum C.calm) g mg PyProof.Rows.boot_sum h0 ha (by decide) (by decide) fun α S σ vs xs H Q R rs kt => by rw [C.K]; exact sum_rd R rs kt
  · exact s_callT (f := fun vs S => biV .str S vs) call_str_int g mg PyProof.Rows.boot_str h0 ha (by decide) (by decide) fun α S σ vs xs H Q R rs kt => str_rd R rs kt
theorem cst_ok {v : PV} {c : Const} {j : Nat} {pos : Pos} (h : cstC v c = true) : PE X (.Constant c j pos) (tE E W fun _ S => .ok v S) := by
  cases v <;> simp only [cstC] at h <;> try cases h
  · split at h
    · exact s_non
    · cases h
  · split at h
    · rw [of_decide_eq_true h]; exact s_bl
    · cases h
  · split at h
    · rw [of_decide_eq_true h]; exact s_int
    · cases h
  · split at h
    · rw [of_decide_eq_true h]; exact s_str
    · cases h
theorem vis_ok (C : CxE E cf G k n W X) {i : Nat} {x : Str} {pos : Pos} (h : n.vis i x = true) : PE X (.Name x pos) (tE E W fun ρ S => match ρ[i]? with | some (some v) => .ok v S | _ => .bad) := by
  simp only [Nm.vis, Bool.and_eq_true] at h
  obtain ⟨⟨⟨h1, h2⟩, h3⟩, h4⟩ := h
  refine s_var (by rw [C.N]; exact of_decide_eq_true h1) ?_ (beq_f h3) (beq_f h4)
  show Vis X.env.scope x
  rw [C.sc]
  split at h2
  · exact .inl (by assumption)
  · exact .inr (.inl (by assumption))
  · exact .inr (.inr (by assumption))
  · cases h2
theorem step_e (I : AllS E cf G m) (C : CxE E cf G k n W X) (e : CE) (py : Expr) (h : ck G (m + 1) n e py = true) : Snd E W X py (ev cf e) := by
  have go : ∀ {f : Env → Sto → Res PV}, ev cf e = f → plainT py = true → PE X py (tE E W f) → Snd E W X py (ev cf e) := fun e1 e2 e3 => by rw [e1]; exact Snd.of C.K e3 e2
  cases e with
  | cst v =>
    simp only [ck] at h
    split at h
    · exact go (by rw [ev]) rfl (cst_ok h)
    · cases h
  | var i =>
    simp only [ck] at h
    split at h
    · exact go (by rw [ev] <;> rfl) rfl (vis_ok C h)
    · cases h
  | pow i j =>
    simp only [ck] at h
    split at h
    · simp only [Bool.and_eq_true, decide_eq_true_eq] at h
      obtain ⟨rfl, h⟩ := h
      split at h
      · split at h
        · simp only [Bool.and_eq_true, decide_eq_true_eq] at h
          obtain ⟨⟨⟨rfl, rfl⟩, h1⟩, h2⟩ := h
          exact go (by rw [ev]) rfl (s_pow h1 h2)
        · cases h
      · cases h
    · cases h
  | bop o a b =>
    simp only [ck] at h
    split at h
    · simp only [Bool.and_eq_true, decide_eq_true_eq] at h
      obtain ⟨⟨rfl, h1⟩, h2⟩ := h
      exact go (by rw [ev]) rfl (s_bop (I.e C _ _ h1).pe (I.e C _ _ h2).pe C.K)
    · cases h
  | cmp o a b =>
    simp only [ck] at h
    split at h
    · simp only [Bool.and_eq_true, decide_eq_true_eq, Bool.not_eq_true'] at h
      obtain ⟨⟨⟨rfl, h0⟩, h1⟩, h2⟩ := h
      rw [ev]
      exact s_cmp C.K C.hu (I.e C _ _ h1).pe (I.e C _ _ h2).pe h0
    · cases h
  | cmp2 o o' a b c =>
    simp only [ck] at h
    split at h
    · simp only [Bool.and_eq_true, decide_eq_true_eq, Bool.not_eq_true'] at h
      obtain ⟨⟨⟨⟨⟨rfl, rfl⟩, h0⟩, h1⟩, h2⟩, h3⟩ := h
      rw [ev]
      exact s_cmp2 C.K C.hu (I.e C _ _ h1).pe (I.e C _ _ h2).pe (I.e C _ _ h3).pe h0
    · cases h
  | and a b =>
    simp only [ck] at h
    split at h
    · simp only [Bool.and_eq_true, decide_eq_true_eq] at h
      obtain ⟨rfl, h⟩ := h
      exact (I.an C _ _ _ h).snd
    · cases h
  | or a b =>
    simp only [ck] at h
    split at h
    · simp only [Bool.and_eq_true, decide_eq_true_eq] at h
      obtain ⟨rfl, h⟩ := h
      exact (I.orr C _ _ _ h).snd
    · cases h
  | not a =>
    simp only [ck] at h
    split at h
    · simp only [Bool.and_eq_true, decide_eq_true_eq] at h
      obtain ⟨rfl, h⟩ := h
      rw [ev]
      exact s_not C.K (I.e C _ _ h)
    · cases h
  | neg a =>
    simp only [ck] at h
    split at h
    · simp only [Bool.and_eq_true, decide_eq_true_eq] at h
      obtain ⟨rfl, h⟩ := h
      exact go (by rw [ev] <;> rfl) rfl (s_neg (I.e C _ _ h).pe)
    · cases h
  | tup es =>
    simp only [ck] at h
    split at h
    · exact go (by rw [ev]) rfl (s_tup (I.s C _ _ h).1)
    · cases h
  | lst es =>
    simp only [ck] at h
    split at h
    · exact go (by rw [ev]) rfl (s_lst (I.s C _ _ h).1)
    · cases h
  | ix a i =>
    simp only [ck] at h
    split at h
    · simp only [Bool.and_eq_true] at h
      obtain ⟨⟨h0, h1⟩, h2⟩ := h
      exact go (by rw [ev]) rfl (s_ix C.K (by have := C.hu; omega) h0 (I.e C _ _ h1).pe (I.e C _ _ h2).pe)
    · cases h
  | sl a lo hi =>
    simp only [ck] at h
    split at h
    · split at h
      · rename_i l hh st p
        simp only [Bool.and_eq_true, Option.isNone_iff_eq_none] at h
        obtain ⟨⟨⟨rfl, h1⟩, h2⟩, h3⟩ := h
        exact go (by rw [ev]) rfl (s_sl C.K (I.e C _ _ h1).pe (I.o C _ _ h2) (I.o C _ _ h3))
      · cases h
    · cases h
  | rev a =>
    simp only [ck] at h
    split at h
    · split at h
      · rename_i l hh st p
        simp only [Bool.and_eq_true, Option.isNone_iff_eq_none] at h
        obtain ⟨⟨⟨rfl, rfl⟩, h1⟩, h2⟩ := h
        split at h1
        · simp only [decide_eq_true_eq] at h1
          subst h1
          exact go (by rw [ev]) rfl (s_rev C.K (I.e C _ _ h2).pe)
        · cases h1
      · cases h
    · cases h
  | call f es =>
    simp only [ck] at h
    split at h
    · rename_i g xs kw pos
      simp only [Bool.and_eq_true, List.isEmpty_iff] at h
      obtain ⟨rfl, h⟩ := h
      split at h
      · simp only [Bool.and_eq_true, decide_eq_true_eq] at h
        obtain ⟨⟨⟨h1, h2⟩, h3⟩, h4⟩ := h
        obtain ⟨a, ma, F⟩ := C.fns _ _ h2
        obtain ⟨pa, ns⟩ := I.s C _ _ h4
        cases xs with
        | nil =>
          cases m with
          | zero => simp [cks] at h4
          | succ m =>
            cases es with
            | nil => exact go (f := fun ρ S => cf.fn f [] S) (by funext ρ S; rw [ev, evs]; rfl) rfl (s_call0 F C.room (C.gl h1) ma C.tk (beq_f h3))
            | cons e es => simp [cks] at h4
        | cons y ys => exact go (by rw [ev]) rfl (s_call F C.room (C.gl h1) ma C.tk ns pa (beq_f h3))
      · cases h
    · cases h
  | bi b es =>
    simp only [ck] at h
    split at h
    · rename_i g xs kw pos
      simp only [Bool.and_eq_true, List.isEmpty_iff] at h
      obtain ⟨rfl, h⟩ := h
      split at h
      · simp only [Bool.and_eq_true, decide_eq_true_eq] at h
        obtain ⟨⟨⟨⟨h1, h2⟩, h3⟩, h4⟩, h5⟩ := h
        obtain ⟨pa, ns⟩ := I.s C _ _ h5
        cases xs with
        | nil => simp at h4
        | cons y ys => exact go (by rw [ev]) rfl (s_bi C h1 h2 h3 ns pa)
      · cases h
    · cases h
  | isi a ks =>
    simp only [ck] at h
    split at h
    · simp only [Bool.and_eq_true, List.isEmpty_iff] at h
      obtain ⟨⟨rfl, h0⟩, h⟩ := h
      split at h0
      · simp only [Bool.and_eq_true, decide_eq_true_eq] at h0
        obtain ⟨rfl, h0⟩ := h0
        obtain ⟨hg, hm⟩ := C.bt h0
        split at h
        · simp only [Bool.and_eq_true] at h
          obtain ⟨⟨h1, h2⟩, h3⟩ := h
          split at h3
          · obtain ⟨kk, kc⟩ := C.kn h3
            exact go (by rw [ev] <;> rfl) rfl (s_isi C.K hg hm C.cls kc h1 (I.e C _ _ h2).pe kk)
          · split at h3
            · simp only [Bool.and_eq_true, decide_eq_true_eq] at h3
              obtain ⟨⟨⟨rfl, rfl⟩, h4⟩, h5⟩ := h3
              exact go (by rw [ev] <;> rfl) rfl (s_isi2 C.K hg hm C.cls h1 (I.e C _ _ h2).pe (C.kn h4).1 (C.kn h5).1)
            · cases h3
          · cases h3
        · cases h
      · cases h0
    · cases h
  | lm kk o es =>
    simp only [ck] at h
    split at h
    · rename_i g xs kw pos
      simp only [Bool.and_eq_true, List.isEmpty_iff] at h
      obtain ⟨rfl, h⟩ := h
      split at h
      · simp only [Bool.and_eq_true, decide_eq_true_eq] at h
        obtain ⟨⟨⟨⟨⟨h1, h2⟩, h3⟩, h4⟩, h5⟩, h6⟩ := h
        obtain ⟨pa, ns⟩ := I.s C _ _ h5
        split at h6
        · simp only [Bool.and_eq_true, decide_eq_true_eq] at h6
          obtain ⟨rfl, h6⟩ := h6
          cases xs with
          | nil => simp at h6
          | cons y ys =>
            exact go (by rw [ev]) rfl (s_lm (.inl rfl) PySem.F.slot_list_append PySem.F.type_list_append mt_append C.K (by simp only [Bool.and_eq_true, decide_eq_true_eq]; exact ⟨ns, h3⟩) h1 h2 (I.e C _ _ h4).pe pa fun α S v x vs xs σ H Q R rv rs kt => append_rd R rv rs kt)
        · simp only [Bool.and_eq_true, decide_eq_true_eq, List.isEmpty_iff] at h6
          obtain ⟨rfl, rfl⟩ := h6
          cases m with
          | zero => simp [cks] at h5
          | succ m =>
            cases es with
            | nil => exact go (by rw [ev, evs]) rfl (s_lm0 (.inr rfl) PySem.F.slot_list_pop PySem.F.type_list_pop mt_pop C.K h1 h2 (I.e C _ _ h4).pe fun α S v x vs xs σ H Q R rv rs kt => pop_rd R rv rs kt)
            | cons e es => simp [cks] at h5
        · cases h6
      · cases h
    · cases h
  | comp elt own tg it cond =>
    simp only [ck] at h
    split at h
    · split at h
      · simp only [Bool.and_eq_true, decide_eq_true_eq, List.all_eq_true] at h
        obtain ⟨⟨⟨⟨⟨⟨⟨rfl, h1⟩, h2⟩, h3⟩, h4⟩, h5⟩, h6⟩, h7⟩ := h
        have he : (own.map fun i => (n.N.getD i "", i)).map (·.2) = own := by rw [List.map_map]; exact List.map_id own
        refine go (by rw [ev]) rfl (PE.imp (pe_lc (own := own.map fun i => (n.N.getD i "", i)) C.calm (C.N ▸ C.nd) (I.i C it _ _ h3) (blkOk_by (by rw [C.N, C.sc]; exact h2)) (fun s H D cl fp => I.t (C.blk s H D cl fp _) tg _ h5) (fun s H D cl fp => I.b (C.blk s H D cl fp _) cond _ h6) (fun s H D cl fp => (I.e (C.blk s H D cl fp _) elt _ h7).pe) (foldSet h1)) fun σ H Q q => ?_)
        rw [he]
        exact lc_is (fun i hi => by simpa using h4 i hi) q
      · cases h
    · cases h
  | fz a =>
    simp only [ck] at h
    simp only [Bool.and_eq_true] at h
    obtain ⟨h1, h⟩ := h
    exact go (by rw [ev]) h1 (PE.imp (I.e C _ _ h).pe fun σ H Q q => fz_is q)
  | _ => simp [ck] at h
end
end PM
end
section
namespace PM
open PySem L2 PySem.Spec PyProof.Rows
section
variable {E : Cfg} {cf : Cf} {G : Gx} {k : Nat} {n : Nm} {W : WX} {X : Cx} {m : Nat}
theorem step_an (I : AllS E cf G m) (C : CxE E cf G k n W X) (e : CE) (es : List Expr) (pos : Pos) (h : ckAnd G (m + 1) n e es = true) : SndB E W X .And es pos (ev cf e) := by
  simp only [ckAnd] at h
  split at h
  · cases h
  · rename_i x r
    cases r with
    | nil => exact SndB.one (I.e C _ _ (by simpa using h))
    | cons y r =>
      simp only [List.isEmpty_cons, Bool.false_eq_true, if_false] at h
      split at h
      · simp only [Bool.and_eq_true] at h
        have q := SndB.and (I.e C _ _ h.1) (I.an C _ _ pos h.2)
        rw [ev]; exact q
      · cases h
theorem step_or (I : AllS E cf G m) (C : CxE E cf G k n W X) (e : CE) (es : List Expr) (pos : Pos) (h : ckOr G (m + 1) n e es = true) : SndB E W X .Or es pos (ev cf e) := by
  simp only [ckOr] at h
  split at h
  · cases h
  · rename_i x r
    cases r with
    | nil => exact SndB.one (I.e C _ _ (by simpa using h))
    | cons y r =>
      simp only [List.isEmpty_cons, Bool.false_eq_true, if_false] at h
      split at h
      · simp only [Bool.and_eq_true] at h
        have q := SndB.or (I.e C _ _ h.1) (I.orr C _ _ pos h.2)
        rw [ev]; exact q
      · cases h
theorem step_s (I : AllS E cf G m) (C : CxE E cf G k n W X) (es : CEs) (xs : List Expr) (h : cks G (m + 1) n es xs = true) : PA X xs (tA E W (evs cf es)) ∧ xs.all notStar = true := by
  simp only [cks] at h
  split at h
  · simp only [List.isEmpty_iff] at h
    subst h
    rw [evs]
    exact ⟨a_nil, rfl⟩
  · split at h
    · simp only [Bool.and_eq_true] at h
      obtain ⟨⟨h1, h2⟩, h3⟩ := h
      obtain ⟨p, q⟩ := I.s C _ _ h3
      rw [evs]
      exact ⟨a_cons h1 (I.e C _ _ h2).pe p, by simp [h1, q]⟩
    · cases h
theorem step_o (I : AllS E cf G m) (C : CxE E cf G k n W X) (e : CEo) (x : Option Expr) (h : cko G (m + 1) n e x = true) : PO X x (tO E W (evo cf e)) := by
  simp only [cko] at h
  split at h
  · simp only [Option.isNone_iff_eq_none] at h
    subst h
    rw [evo]
    exact o_none
  · split at h
    · rw [evo]
      exact o_some (I.e C _ _ h).pe
    · cases h
theorem step_b (I : AllS E cf G m) (C : CxE E cf G k n W X) (e : CEo) (xs : List Expr) (h : ckb G (m + 1) n e xs = true) : PTs X xs (tB E W (evb cf e)) := by
  simp only [ckb] at h
  split at h
  · simp only [List.isEmpty_iff] at h
    subst h
    rw [evb]
    exact ts_none
  · split at h
    · rw [evb]
      exact ts_some (I.e C _ _ h)
    · cases h
theorem step_i (I : AllS E cf G m) (C : CxE E cf G k n W X) (i : CI) (py tg : Expr) (h : cki G (m + 1) n i py = true) : PI X tg py (tI E W (evi cf i)) := by
  cases i with
  | seq e =>
    simp only [cki] at h
    rw [evi]
    exact s_seqI C.K (I.e C _ _ h).pe
  | rng1 e =>
    simp only [cki] at h
    split at h
    · rename_i g xs kw pos
      simp only [Bool.and_eq_true, List.isEmpty_iff] at h
      obtain ⟨⟨rfl, h0⟩, h⟩ := h
      split at h0
      · simp only [Bool.and_eq_true, decide_eq_true_eq] at h0
        obtain ⟨rfl, h0⟩ := h0
        obtain ⟨hg, hm⟩ := C.bt h0
        split at h
        · simp only [Bool.and_eq_true] at h
          rw [evi]
          exact s_rng1 hg hm h.1 (I.e C _ _ h.2).pe
        · cases h
      · cases h0
    · cases h
  | rng2 e e' =>
    simp only [cki] at h
    split at h
    · rename_i g xs kw pos
      simp only [Bool.and_eq_true, List.isEmpty_iff] at h
      obtain ⟨⟨rfl, h0⟩, h⟩ := h
      split at h0
      · simp only [Bool.and_eq_true, decide_eq_true_eq] at h0
        obtain ⟨rfl, h0⟩ := h0
        obtain ⟨hg, hm⟩ := C.bt h0
        split at h
        · simp only [Bool.and_eq_true] at h
          obtain ⟨⟨⟨h1, h2⟩, h3⟩, h4⟩ := h
          rw [evi]
          exact s_rng2 hg hm h1 h2 (I.e C _ _ h3).pe (I.e C _ _ h4).pe
        · cases h
      · cases h0
    · cases h
  | _ => simp [cki] at h
theorem evts_len : ∀ (ts : CTs) (vs : List PV) (ρ : Env) (S : Sto) (r : Env × Sto), evts cf ts vs ρ S = some r → vs.length = ts.len
  | .nil, vs, ρ, S, r, h => by
    rw [evts] at h
    cases vs with
    | nil => rfl
    | cons v vs => cases h
  | .cons t ts, vs, ρ, S, r, h => by
    rw [evts] at h
    cases vs with
    | nil => cases h
    | cons v vs =>
      dsimp only at h
      split at h
      · simp only [List.length_cons, CTs.len]
        rw [evts_len ts vs _ _ r h]
      · cases h
theorem step_t (I : AllS E cf G m) (C : CxE E cf G k n W X) (t : CT) (py : Expr) (h : ckt G (m + 1) n t py = true) : PG X py (tT E (tis t) (evt cf t)) := by
  cases t with
  | var i =>
    simp only [ckt] at h
    split at h
    · obtain ⟨h1, h2, h3⟩ := C.loc h
      rw [evt, tis]
      exact g_name (C.N ▸ C.nd) h1 h2 h3
    · cases h
  | tup ts =>
    simp only [ckt] at h
    split at h
    · obtain ⟨p, q, l⟩ := I.ts C _ _ h
      rw [evt, tis]
      exact g_tup C.K C.calm q p fun vs ρ S r e => by rw [evts_len ts vs ρ S r e, l]
    · cases h
  | _ => simp [ckt] at h
theorem step_ts (I : AllS E cf G m) (C : CxE E cf G k n W X) (ts : CTs) (xs : List Expr) (h : ckts G (m + 1) n ts xs = true) : PGs X xs (tTs E (tiss ts) (evts cf ts)) ∧ xs.all notStar = true ∧ xs.length = ts.len := by
  simp only [ckts] at h
  split at h
  · simp only [List.isEmpty_iff] at h
    subst h
    rw [evts, tiss]
    exact ⟨g_nil, rfl, rfl⟩
  · split at h
    · simp only [Bool.and_eq_true] at h
      obtain ⟨⟨h1, h2⟩, h3⟩ := h
      obtain ⟨p, q, l⟩ := I.ts C _ _ h3
      rw [evts, tiss]
      exact ⟨g_cons h1 (I.t C _ _ h2) p, by simp [h1, q], by simp [l, CTs.len]⟩
    · cases h
theorem allS : ∀ m, AllS E cf G m
  | 0 => ⟨fun _ _ _ h => by simp [ck] at h, fun _ _ _ _ h => by simp [ckAnd] at h, fun _ _ _ _ h => by simp [ckOr] at h, fun _ _ _ h => by simp [cks] at h, fun _ _ _ h => by simp [cko] at h, fun _ _ _ h => by simp [ckb] at h, fun _ _ _ _ h => by simp [cki] at h, fun _ _ _ h => by simp [ckt] at h, fun _ _ _ h => by simp [ckts] at h⟩
  | m + 1 => by
    have I := allS m
    exact ⟨fun C => step_e I C, fun C => step_an I C, fun C => step_or I C, fun C => step_s I C, fun C => step_o I C, fun C => step_b I C, fun C => step_i I C, fun C => step_t I C, fun C => step_ts I C⟩

def swN (n : Nm) (y : Str) (py : Pos) (e : Expr) : Bool := match e with
  | .ListComp _ _ sc pos => decide (n.sc.names.lookup y = some .local) && (py.line == pos.line) && !(sc.names.any fun p => p.1 == y && (p.2 == .local || p.2 == .cell))
  | _ => false
def notComp : Expr → Bool
  | .ListComp _ _ _ _ => false
  | .SetComp _ _ _ _ => false
  | .DictComp _ _ _ _ _ => false
  | _ => true
def notTupE : Expr → Bool
  | .Tuple _ _ _ => false
  | _ => true
def plainTg (t : Expr) : Bool := match t with
  | .Name _ _ => true
  | .Tuple _ _ _ => true
  | .Attribute _ _ _ => true
  | .Subscript _ _ _ => true
  | _ => false
def parC (n : Nm) (is : List Nat) (ts vs : List Expr) : Bool := match is, ts, vs with
  | [i, j], [.Name x px, .Name y py], [a, b] => decide (i ≠ j) && decide (n.N[i]? = some x) && decide (n.N[j]? = some y) && decide (n.sc.names.lookup x = some .local) && decide (n.sc.names.lookup y = some .local) && (py.line == px.line) && notStar a && notStar b && decide (x ≠ y)
      && !([a, b].all (foldedForSure 8)) && !([a, b].all (constantsAlone 8))
  | _, _, _ => false
def augO : BOp → Option (Operator × (Int → Int → Int))
  | .add => some (.Add, fun i j => i + j)
  | .sub => some (.Sub, fun i j => i - j)
  | _ => none
mutual
def ckS (G : Gx) : Nat → Nm → CSs → List Stmt → Bool
  | 0, _, _, _ => false
  | m + 1, n, s, sts => match s with
    | .nil => sts.isEmpty
    | .pass r => (match sts with | .Pass _ :: rest => ckS G m n r rest | _ => false)
    | .asg t e r => (match sts with
      | .Assign [tg] v pos :: rest => ckt G m n t tg && ckS G m n r rest && ckA G m n tg e v
      | _ => false)
    | .par is es r => (match sts with
      | .Assign [.Tuple ts _ _] (.Tuple vs _ _) _ :: rest => parC n is ts vs && cks G m n es vs && ckS G m n r rest
      | _ => false)
    | .aug i o e r => (match sts with
      | .AugAssign (.Name x _) op v _ :: rest => n.loc i x && (match augO o with | some p => decide (op = p.1) | none => false) && ck G m n e v && ckS G m n r rest
      | _ => false)
    | .ex e r => (match sts with | .Expr v _ :: rest => notComp v && ck G m n e v && ckS G m n r rest | _ => false)
    | .ret e => (match sts with | [.Return (some v) _] => ck G m n e v | _ => false)
    | .retN => (match sts with | [.Return none _] => true | _ => false)
    | .iff c a b r => (match sts with | .If cc sa sb _ :: rest => ck G m n c cc && ckS G m n a sa && ckS G m n b sb && ckS G m n r rest | _ => false)
    | .for t it body r => (match sts with | .For tg iter sb [] _ :: rest => notSet iter && ckt G m n t tg && cki G m n it iter && ckS G m n body sb && ckS G m n r rest | _ => false)
    | .wh _ c body r => (match sts with | .While cc sb [] _ :: rest => ck G m n c cc && ckS G m n body sb && ckS G m n r rest | _ => false)
    | _ => false
def ckA (G : Gx) : Nat → Nm → Expr → CE → Expr → Bool
  | 0, _, _, _, _ => false
  | m + 1, n, tg, e, v => match v with
    | .ListComp x gs sc p => (match tg with
      | .Name y py => if swN n y py v = true then (match e with | .comp _ _ _ _ _ => ck G m n e v | .fz e => (match e with | .comp _ _ _ _ _ => ck G m n e v | _ => false) | _ => false) else ck G m n e v
      | .Attribute _ _ _ => ck G m n e v
      | .Subscript _ _ _ => ck G m n e v
      | _ => false)
    | v => plainTg tg && notComp v && (notTupE tg || notTupE v) && ck G m n e v
end
end
end PM
end
section
namespace PM
open PySem L2 PySem.Spec PyProof.Rows
section
variable {E : Cfg} {cf : Cf} {G : Gx} {k : Nat} {n : Nm} {W : WX} {X : Cx} {m : Nat}
structure CxS (E : Cfg) (cf : Cf) (G : Gx) (k : Nat) (n : Nm) (W : WX) (X : Cx) : Prop extends CxE E cf G k n W X where
  po : PassesOwn (model X.prog X.w) X.A X.env X.xe
  kind : n.sc.kind = .function
variable {σ : L2.St} {H : Hp}
theorem Kt.mono {β γ : Type} {R : (Nat → Addr) → Nat → Hp → β → γ → Prop} {α : Nat → Addr} {S : Sto} {r : Res β} {Q Q' : γ → Hp → Prop} (kt : Kt E W R α S σ H r Q) (h : ∀ x H', Q x H' → Q' x H') : Kt E W R α S σ H r Q' := by
  cases r with
  | ok v S' => exact fun α' x H' e R' rv => h x H' (kt α' x H' e R' rv)
  | exc c S' => exact kt
  | bad => exact kt
theorem sw_false {v : Expr} {y : Str} {py : Pos} {l : Nat} {env : PySem.Env} (hs : env.scope = n.sc) (hk : n.sc.kind = .function) (h : swN n y py v = false) (hv : ∃ x gs sc p, v = .ListComp x gs sc p) : swapsWith v (some (.Name y py)) l env = pure false := by
  obtain ⟨x, gs, sc, p, rfl⟩ := hv
  have hb : env.blockKind = .function := by unfold Env.blockKind; rw [hs, hk]; rfl
  have ky : env.kindOf y = n.sc.names.lookup y := by unfold Env.kindOf; rw [hs]
  unfold swapsWith
  simp only [swN] at h
  simp only [hb, ky, Expr.pos]
  cases hy : n.sc.names.lookup y with
  | none => rfl
  | some kk =>
    rw [hy] at h
    cases kk <;> first | rfl | skip
    cases hl : py.line == p.line with
    | false => rfl
    | true =>
      rw [hl] at h
      have ha : (!(sc.names.any fun p => p.1 == y && (p.2 == NameKind.local || p.2 == NameKind.cell))) = false := by simpa using h
      show pure (true && true && true && _) = pure false
      simp only [Bool.true_and]
      rw [← ha]
theorem sw_true' {x : Expr} {gs : List Comprehension} {sc : Scope} {p : Pos} {y : Str} {py : Pos} {l : Nat} {env : PySem.Env} (hs : env.scope = n.sc) (hk : n.sc.kind = .function) (h : swN n y py (.ListComp x gs sc p) = true) : swapsWith (.ListComp x gs sc p) (some (.Name y py)) l env = pure true ∧ env.scope.names.lookup y = some .local := by
  simp only [swN, Bool.and_eq_true, decide_eq_true_eq, Bool.not_eq_true'] at h
  obtain ⟨⟨h1, h2⟩, h3⟩ := h
  exact ⟨sw_true (by rw [hs]; exact hk) (by rw [hs]; exact h1) h2 h3, by rw [hs]; exact h1⟩
theorem sw_no {v : Expr} {t : Option Expr} {l : Nat} {env : PySem.Env} (h : notComp v = true) : swapsWith v t l env = pure false := by
  cases v <;> first | rfl | simp [notComp] at h
theorem sws_no {tg v : Expr} {env : PySem.Env} (h : (notTupE tg || notTupE v) = true) (h2 : plainTg tg = true) : swappedStores [tg] v env = pure none := by
  cases tg <;> simp only [plainTg] at h2 <;> try cases h2
  all_goals first | rfl | skip
  cases v <;> first | rfl | simp [notTupE] at h
theorem ae_one {tg : Expr} {env : PySem.Env} (h2 : plainTg tg = true) : (assignEach [tg] env).map (·.2) = [assign tg env] := by
  cases tg <;> simp only [plainTg] at h2 <;> first | rfl | cases h2
theorem swap2 {x y : Str} {px py pt pt2 : Pos} {kt k2 : Nat} {a b : Expr} {env : PySem.Env} (hs : env.scope = n.sc) (hk : n.sc.kind = .function) (hx : n.sc.names.lookup x = some .local) (hy : n.sc.names.lookup y = some .local) (hl : (py.line == px.line) = true) (ha : notStar a = true) (hb : notStar b = true)
    (hxy : x ≠ y) (h1 : [a, b].all (foldedForSure 8) = false) (h2 : [a, b].all (constantsAlone 8) = false) : swappedStores [.Tuple [.Name x px, .Name y py] kt pt] (.Tuple [a, b] k2 pt2) env = pure (some [x, y]) := by
  have hbk : env.blockKind = .function := by unfold Env.blockKind; rw [hs, hk]; rfl
  have kx : env.kindOf x = some .local := by unfold Env.kindOf; rw [hs]; exact hx
  have ky : env.kindOf y = some .local := by unfold Env.kindOf; rw [hs]; exact hy
  have nst : ∀ c : Expr, notStar c = true → (match c with | .Starred _ _ => true | _ => false) = false := fun c h => by cases c <;> first | rfl | cases h
  have hst : ([a, b].any fun | .Starred .. => true | _ => false) = false := by
    simp only [List.any_cons, List.any_nil, Bool.or_false, Bool.or_eq_false_iff]
    exact ⟨nst a ha, nst b hb⟩
  have hd : [x, y].eraseDups.length = 2 := by
    have : (y == x) = false := by simpa using fun z => hxy z.symm
    have h2 : [x, y].eraseDups = [x, y] := by
      simp [List.eraseDups, List.eraseDupsBy, List.eraseDupsBy.loop, this]
    rw [h2]; rfl
  have hn : ([.Name x px, .Name y py] : List Expr).filterMap (fun
    | .Name id pos => if env.kindOf id == some .local && pos.line == (([.Name x px, .Name y py] : List Expr).head?.map (·.pos.line)).getD 0 then some id else none
    | _ => none) = [x, y] := by
    have e1 : (px.line == px.line) = true := by simp
    simp only [List.filterMap_cons, List.filterMap_nil, kx, ky, List.head?_cons, Option.map_some, Option.getD_some, Expr.pos, hl, e1]
    rfl
  unfold swappedStores
  simp only [hbk, h1, h2]
  refine (if_neg (by simp)).trans ?_
  refine (if_neg (fun h => absurd (hst.symm.trans h) (by decide))).trans ?_
  refine (congrArg (fun L : List Str => if (L.length != 2 || L.eraseDups.length != L.length) = true then (pure none : Sem (Option (List Str))) else if false = true then pure none else if false = true then unsupported "assign.tuple-of-constant-expressions:order-of-the-stores" else pure (some L)) hn).trans ?_
  show (if (2 != 2 || [x, y].eraseDups.length != 2) = true then (pure none : Sem (Option (List Str))) else _) = _
  rw [hd]
  rfl
end
end PM
end
section
namespace PM
open PySem L2 PySem.Spec PyProof.Rows
section
variable {E : Cfg} {cf : Cf} {G : Gx} {k : Nat} {n : Nm} {W : WX} {X : Cx} {m : Nat}
theorem ps_plain (C : CxS E cf G k n W X) {t : CT} {e : CE} {tg v : Expr} {pos : Pos} (h1 : PE X v (tE E W (ev cf e))) (h2 : PG X tg (tT E (tis t) (evt cf t))) (p1 : plainTg tg = true) (p2 : (notTupE tg || notTupE v) = true) (p3 : swapsWith v (some tg) pos.line X.env = pure false) :
    PS X (.Assign [tg] v pos) (tAsg (tE E W (ev cf e)) (tT E (tis t) (evt cf t))) := ps_asg h1 h2 p3 (sws_no p2 p1) (ae_one p1)
theorem step_asg (C : CxS E cf G k n W X) {t : CT} {e : CE} {tg v : Expr} {pos : Pos} (h1 : ckt G m n t tg = true) (h2 : ckA G m n tg e v = true) : PS X (.Assign [tg] v pos) (tAsg (tE E W (ev cf e)) (tT E (tis t) (evt cf t))) := by
  have pt := (allS (E := E) (cf := cf) (G := G) m).t C.toCxE t tg h1
  cases m with
  | zero => simp [ckA] at h2
  | succ m =>
    have I := allS (E := E) (cf := cf) (G := G) m
    simp only [ckA] at h2
    split at h2
    · rename_i x gs sc p
      split at h2
      · rename_i y py
        by_cases hw : swN n y py (.ListComp x gs sc p) = true
        · rw [if_pos hw] at h2
          obtain ⟨sw, hyl⟩ := sw_true' (l := pos.line) (env := X.env) C.sc C.kind hw
          simp only [ckt] at h1
          cases t with
          | var i =>
              obtain ⟨g1, g2, g3⟩ := C.loc h1
              have key : ∀ {elt : CE} {own : List Nat} {tg' : CT} {it : CI} {cond : CEo}, ck G m n (.comp elt own tg' it cond) (.ListComp x gs sc p) = true → ∀ {e : CE}, (∀ σ H Q, tE E W (ev cf e) σ H Q → tE E W (ev cf (.comp elt own tg' it cond)) σ H Q) →
                  PS X (.Assign [.Name y py] (.ListComp x gs sc p) pos) (tAsg (tE E W (ev cf e)) (tT E (tis (.var i)) (evt cf (.var i)))) := by
                intro elt own tg' it cond h2 e hfz
                cases m with
                | zero => simp [ck] at h2
                | succ m =>
                  have I := allS (E := E) (cf := cf) (G := G) m
                  simp only [ck] at h2
                  split at h2
                  · simp only [Bool.and_eq_true, decide_eq_true_eq, List.all_eq_true] at h2
                    obtain ⟨⟨⟨⟨⟨⟨⟨rfl, hs⟩, hb⟩, h3⟩, h4⟩, h5⟩, h6⟩, h7⟩ := h2
                    have he : (own.map fun i => (n.N.getD i "", i)).map (·.2) = own := by rw [List.map_map]; exact List.map_id own
                    refine PS.imp (ps_setLc (own := own.map fun i => (n.N.getD i "", i)) C.calm (C.N ▸ C.nd) g1 hyl sw (I.i C.toCxE it _ _ h3) (blkOk_by (by rw [C.N, C.sc]; exact hb)) (fun s H D cl fp => I.t (C.blk s H D cl fp _) tg' _ h5) (fun s H D cl fp => I.b (C.blk s H D cl fp _) cond _ h6) (fun s H D cl fp => (I.e (C.blk s H D cl fp _) elt _ h7).pe) (foldSet hs)) fun D σ H q => ?_
                    rw [he]
                    refine lc_is (fun i hi => by simpa using h4 i hi) (ma := ev cf elt) (mi := evi cf it) (mt := evt cf tg') (mc := evb cf cond) ?_
                    have q : tE E W (ev cf e) σ H fun x H1 => tT E (tis (.var i)) (evt cf (.var i)) x σ H1 D.nx := q
                    have q := hfz _ _ _ q
                    rw [ev] at q
                    obtain ⟨α, ρ, S, R, en, kt⟩ := q
                    refine ⟨α, ρ, S, R, en, kt.mono fun x H' ⟨α', ρ', S', v, R', en', rv, kt⟩ => ?_⟩
                    rw [evt, tis] at kt
                    exact kt α' _ H' Ext.refl R' (en'.set rv) fun own h => wipe_set (h _ List.mem_cons_self)
                  · cases h2
              split at h2
              · exact key h2 fun _ _ _ q => q
              · split at h2
                · refine key h2 fun σ H Q q => ?_
                  rw [ev] at q
                  exact fz_is q
                · cases h2
              · cases h2
          | _ => simp at h1
        · rw [if_neg hw] at h2
          exact ps_plain C (I.e C.toCxE _ _ h2).pe pt rfl rfl (sw_false C.sc C.kind (by simpa using hw) ⟨x, gs, sc, p, rfl⟩)
      · exact ps_plain C (I.e C.toCxE _ _ h2).pe pt rfl rfl rfl
      · exact ps_plain C (I.e C.toCxE _ _ h2).pe pt rfl rfl rfl
      · cases h2
    · simp only [Bool.and_eq_true] at h2
      obtain ⟨⟨⟨p1, p2⟩, p3⟩, h2⟩ := h2
      exact ps_plain C (I.e C.toCxE _ _ h2).pe pt p1 p3 (sw_no p2)
end
end PM
end
section
namespace PM
open PySem L2 PySem.Spec PyProof.Rows
section
variable {E : Cfg} {cf : Cf} {G : Gx} {k : Nat} {n : Nm} {W : WX} {X : Cx} {m : Nat}
theorem ss_par {i j : Nat} {x y : Str} {a b : Expr} {px py pt pos : Pos} {kt k2 pt2} {ms : Env → Sto → Res (List PV)} {rest : List Stmt} {nx : Env → Sto → RS} (hc : X.calm = true) (hN : X.N.Nodup) (hi : X.N[i]? = some x) (hj : X.N[j]? = some y) (hij : i ≠ j)
    (hx : X.env.scope.names.lookup x = some .local) (hy : X.env.scope.names.lookup y = some .local) (ha : PA X [a, b] (tA E W ms))
    (hw : swappedStores [.Tuple [.Name x px, .Name y py] kt pt] (.Tuple [a, b] k2 pt2) X.env = pure (some [x, y])) (h2 : PSs X rest (tSt E W nx)) :
    PSs X (.Assign [.Tuple [.Name x px, .Name y py] kt pt] (.Tuple [a, b] k2 pt2) pos :: rest) (tSt E W fun ρ S => RS.fst ρ (ms ρ S) fun vs S1 => match par2 [i, j] vs ρ with | some ρ' => nx ρ' S1 | none => .bad) := ss_cons (ps_par hc hN hi hj hij hx hy ha hw rfl) h2 fun D σ H ⟨α, ρ, S, R, en, ks⟩ => by
  refine ⟨α, ρ, S, R, en, KS.fst ks en fun vs S1 α1 xs H1 e R1 rs en1 ks => ?_⟩
  match vs, rs, ks with
  | [], _, ks => exact ks.elim
  | [_], _, ks => exact ks.elim
  | _ :: _ :: _ :: _, _, ks => exact ks.elim
  | [v, w], rs, ks =>
    obtain ⟨a, b, rfl, r1, r2⟩ := rl2 rs
    exact ⟨a, b, rfl, α1, _, S1, R1, (en1.set r1).set r2, ks⟩
theorem allSt : ∀ (m : Nat) {k : Nat} {n : Nm} {W : WX} {X : Cx}, CxS E cf G k n W X → ∀ s sts, ckS G m n s sts = true → PSs X sts (tSt E W (ex cf s))
  | 0, _, _, _, _, _, _, _, h => by simp [ckS] at h
  | m + 1, k, n, W, X, C, s, sts, h => by
    have I := allS (E := E) (cf := cf) (G := G) m
    have ih := fun {s sts} => allSt m C s sts
    have go : ∀ {f : Env → Sto → RS}, ex cf s = f → PSs X sts (tSt E W f) → PSs X sts (tSt E W (ex cf s)) := fun e1 e2 => by rw [e1]; exact e2
    cases s with
    | nil =>
      simp only [ckS, List.isEmpty_iff] at h
      subst h
      exact go (by rw [ex]) ss_nil
    | pass r =>
      simp only [ckS] at h
      split at h
      · exact go (by rw [ex]) (ss_pass (ih h))
      · cases h
    | asg t e r =>
      simp only [ckS] at h
      split at h
      · simp only [Bool.and_eq_true] at h
        obtain ⟨⟨h1, h2⟩, h3⟩ := h
        exact go (by rw [ex] <;> rfl) (ss_asg (step_asg C h1 h3) (ih h2))
      · cases h
    | par is es r =>
      simp only [ckS] at h
      split at h
      · simp only [Bool.and_eq_true] at h
        obtain ⟨⟨h1, h2⟩, h3⟩ := h
        unfold parC at h1
        split at h1
        · simp only [Bool.and_eq_true, decide_eq_true_eq, Bool.not_eq_true'] at h1
          obtain ⟨⟨⟨⟨⟨⟨⟨⟨⟨⟨c1, c2⟩, c3⟩, c4⟩, c5⟩, c6⟩, c7⟩, c8⟩, c9⟩, c10⟩, c11⟩ := h1
          exact go (by rw [ex] <;> rfl) (ss_par C.calm (C.N ▸ C.nd) (by rw [C.N]; exact c2) (by rw [C.N]; exact c3) c1 (by rw [C.sc]; exact c4) (by rw [C.sc]; exact c5) (I.s C.toCxE _ _ h2).1 (swap2 C.sc C.kind c4 c5 c6 c7 c8 c9 c10 c11) (ih h3))
        · cases h1
      · cases h
    | aug i o e r =>
      simp only [ckS] at h
      split at h
      · simp only [Bool.and_eq_true] at h
        obtain ⟨⟨⟨h1, h2⟩, h3⟩, h4⟩ := h
        obtain ⟨g1, g2, g3⟩ := C.loc h1
        cases o with
        | add =>
          simp only [augO, decide_eq_true_eq] at h2
          subst h2
          exact go (by rw [ex] <;> rfl) (ss_aug (C.N ▸ C.nd) g1 g2 g3 (I.e C.toCxE _ _ h3).pe ip_add (fun _ _ _ => rfl) (ih h4))
        | sub =>
          simp only [augO, decide_eq_true_eq] at h2
          subst h2
          exact go (by rw [ex] <;> rfl) (ss_aug (C.N ▸ C.nd) g1 g2 g3 (I.e C.toCxE _ _ h3).pe ip_sub (fun _ _ _ => rfl) (ih h4))
        | _ => simp [augO] at h2
      · cases h
    | ex e r =>
      simp only [ckS] at h
      split at h
      · simp only [Bool.and_eq_true] at h
        obtain ⟨⟨h1, h2⟩, h3⟩ := h
        exact go (by rw [ex]) (ss_ex (I.e C.toCxE _ _ h2).pe (sw_no h1) (ih h3))
      · cases h
    | ret e =>
      simp only [ckS] at h
      split at h
      · exact go (by rw [ex]) (ss_ret (I.e C.toCxE _ _ h).pe)
      · cases h
    | retN =>
      simp only [ckS] at h
      split at h
      · exact go (by rw [ex]) ss_retN
      · cases h
    | iff c a b r =>
      simp only [ckS] at h
      split at h
      · simp only [Bool.and_eq_true] at h
        obtain ⟨⟨⟨h1, h2⟩, h3⟩, h4⟩ := h
        exact go (by rw [ex] <;> rfl) (ss_if (I.e C.toCxE _ _ h1) (ih h2) (ih h3) (ih h4))
      · cases h
    | «for» t it body r =>
      simp only [ckS] at h
      split at h
      · simp only [Bool.and_eq_true] at h
        obtain ⟨⟨⟨⟨h1, h2⟩, h3⟩, h4⟩, h5⟩ := h
        exact go (by rw [ex]) (ss_for C.po C.calm (I.i C.toCxE _ _ _ h3) (I.t C.toCxE _ _ h2) (ih h4) (foldSet h1) (ih h5))
      · cases h
    | wh w c body r =>
      simp only [ckS] at h
      split at h
      · simp only [Bool.and_eq_true] at h
        obtain ⟨⟨h1, h2⟩, h3⟩ := h
        exact go (by rw [ex] <;> rfl) (ss_while C.po (I.e C.toCxE _ _ h1) (ih h2) (ih h3))
      · cases h
    | _ => simp [ckS] at h
end
end PM
end
section
namespace PM
open PySem L2 PySem.Spec PyProof.Rows
structure DfI where
  x : Str
  qual : Str
  N : List Str
  ps : List Str
  st : Stmt
  fn : Fn
def scC (N P : List Str) (sc : Scope) : Bool :=
  decide (sc.kind = .function) && !sc.isCoroutine && !sc.isGenerator && decide N.Nodup && decide (N.take P.length = P) && P.all (fun x => decide (sc.names.lookup x = some .local) || decide (sc.names.lookup x = some .cell)) && sc.names.all (fun y => decide (y.2 ≠ .free))
theorem fnScope_by {N P : List Str} {sc : Scope} (h : scC N P sc = true) : FnScope N P sc := by
  unfold scC at h
  simp only [Bool.and_eq_true, Bool.not_eq_true', decide_eq_true_eq, List.all_eq_true, Bool.or_eq_true] at h
  obtain ⟨⟨⟨⟨⟨⟨h1, h2⟩, h3⟩, h4⟩, h5⟩, h6⟩, h7⟩ := h
  exact ⟨h1, h2, h3, h4, h5, h6, h7⟩
def DfI.ok (G : Gx) (fuel : Nat) (d : DfI) : Bool := scC d.N d.ps (defScope d.st) && ckS G fuel ⟨d.N, defScope d.st, defScope d.st⟩ d.fn.body (defBody d.st) && decide (d.fn.n = d.N.length) && decide (d.fn.np = d.ps.length)
def tabOf (ds : List DfI) (f : Nat) : Option Fn := (ds[f]?).map (·.fn)
abbrev cfOf (ds : List DfI) (sub : Nat → Nat → Bool) (j : Nat) : Cf := ⟨run (tabOf ds) sub j, sub⟩
structure Heads (E : Cfg) (G : Gx) (mg : Str → Option Value) (ds : List DfI) (addr : Nat → Addr) : Prop where
  fn : ∀ f d, ds[f]? = some d → ∃ fd, FunD E.K d.x d.qual (defArgs d.st) (defBody d.st) (defScope d.st) [] [] (addr f) fd ∧ Binds E.K fd d.ps []
  bi : ∀ x ∈ G.bis, mg x = none
  fns : ∀ x f, G.fns.lookup x = some f → mg x = some (.ref (addr f)) ∧ f < ds.length
  clsN : ∀ x c, G.cls.lookup x = some c → mg x = some (.ref (E.cls c)) ∧ c < E.nc
  cls : ∀ d, d < E.nc → ClsF E d
section
variable {E : Cfg} {G : Gx} {mg : Str → Option Value} {ds : List DfI} {addr : Nat → Addr} {sub : Nat → Nat → Bool} {P : Program} {w : World} {base : Heap}
theorem EnvR.start {α : Nat → Addr} {n : Nat} {H : Hp} {N : List Str} {k : Nat} {vs : List PV} {xs : List V} (rs : RpL E α n H vs xs) (hk : k = N.length) : EnvR E α n H (startE k vs) (L2.start N xs) := by
  subst hk
  refine ⟨by simp only [startE, L2.start, List.length_append, List.length_map, List.length_replicate, rs.len], fun i v e => ?_⟩
  unfold startE at e
  by_cases hi : i < vs.length
  · rw [List.getElem?_append_left (by simpa using hi), List.getElem?_map] at e
    obtain ⟨u, e1, e2⟩ := Option.map_eq_some_iff.mp e
    cases e2
    obtain ⟨y, e3, r⟩ := rs.get e1
    refine ⟨y, ?_, r⟩
    unfold L2.start
    rw [List.getElem?_append_left (by rw [List.length_map, ← rs.len]; exact hi), List.getElem?_map, e3]
    rfl
  · rw [List.getElem?_append_right (by simpa using Nat.le_of_not_lt hi)] at e
    obtain ⟨_, e2⟩ := List.getElem?_eq_some_iff.mp e
    simp at e2
theorem sp_len {cf : Cf} {f : Nat} {np : Nat} (h : ∀ vs S, cf.fn f vs S = .bad ∨ vs.length = np) {vs : List V} {H : Hp} {Q : VK} {Ex : XK} (q : spF E cf f vs H Q Ex) : vs.length = np := by
  obtain ⟨α, S, args, R, rs, kt⟩ := q
  rcases h args S with e | e
  · rw [e] at kt; exact kt.elim
  · rw [← rs.len]; exact e
theorem run_len {d : DfI} {f j : Nat} (hd : ds[f]? = some d) (vs : List PV) (S : Sto) : run (tabOf ds) sub j f vs S = .bad ∨ vs.length = d.fn.np := by
  cases j with
  | zero => exact .inl rfl
  | succ j =>
    by_cases h : vs.length = d.fn.np
    · exact .inr h
    · refine .inl ?_
      unfold run tabOf
      rw [hd]
      show runF _ d.fn vs S = .bad
      unfold runF
      rw [decide_eq_false h]
      rfl
theorem fn_all (B : Heads E G mg ds addr) {fuel : Nat} (hc : ds.all (·.ok G fuel) = true) : ∀ (j f : Nat) (d : DfI) (fd : FuncData), ds[f]? = some d → FunD E.K d.x d.qual (defArgs d.st) (defBody d.st) (defScope d.st) [] [] (addr f) fd →
    FnOk P w E.K mg base (L2.CX P w) j (addr f) fd d.ps (spF E (cfOf ds sub j) f)
  | 0, f, d, fd, hd, F => by
    have hok := List.all_eq_true.mp hc d (List.mem_of_getElem? hd)
    simp only [DfI.ok, Bool.and_eq_true, decide_eq_true_eq] at hok
    refine ⟨fun vs H Q Ex q => ?_, fun A outer s H args us vs Q Ex _ _ _ _ q => ?_⟩
    · obtain ⟨α, S, args, R, rs, kt⟩ := q; exact kt.elim
    · obtain ⟨α, S, args, R, rs, kt⟩ := q; exact kt.elim
  | j + 1, f, d, fd, hd, F => by
    have hok := List.all_eq_true.mp hc d (List.mem_of_getElem? hd)
    simp only [DfI.ok, Bool.and_eq_true, decide_eq_true_eq] at hok
    obtain ⟨⟨⟨h1, h2⟩, h3⟩, h4⟩ := hok
    have S := fnScope_by h1
    refine F.ok S (fun vs H Q Ex q => (sp_len (run_len hd) q).trans h4) fun cdv A outer s H vs Q Ex hr q => ?_
    have C : CxS E (cfOf ds sub j) G j ⟨d.N, defScope d.st, defScope d.st⟩ (fun cls dd _ H => Ex cls dd H) (cxOf (L2.CX P w) P w E.K mg base d.N d.qual (defScope d.st) (addr f) cdv A outer s H Ex) :=
      { K := rfl, N := rfl, nd := S.nd, sc := rfl, fn := fun _ _ => rfl, calm := rfl, room := hr, bi := B.bi
        fns := fun x g hx => by
          obtain ⟨hm, hl⟩ := B.fns x g hx
          obtain ⟨fd', F', b'⟩ := B.fn g ds[g] (by simp [hl])
          exact ⟨addr g, hm, F'.kp, fd', _, b', fn_all B hc j g ds[g] fd' (by simp [hl]) F'⟩
        clsN := B.clsN, cls := B.cls, tk := takes_of rfl rfl rfl rfl, po := passes_of rfl, kind := S.kind }
    refine ⟨_, allSt fuel C d.fn.body (defBody d.st) h2, ?_⟩
    obtain ⟨α, S0, args, R, rs, kt⟩ := q
    refine ⟨α, _, S0, R, EnvR.start rs h3, ?_⟩
    have e1 : (cfOf ds sub (j + 1)).fn f args S0 = runF (cfOf ds sub j) d.fn args S0 := by
      show run (tabOf ds) sub (j + 1) f args S0 = _
      unfold run tabOf
      rw [hd]
      rfl
    rw [e1] at kt
    unfold runF at kt
    obtain ⟨_, kt⟩ := kt.need
    revert kt
    cases ex (cfOf ds sub j) d.fn.body (startE d.fn.n args) S0 with
    | nx ρ S' => exact fun kt α' σ' H' e R' _ => kt α' .non H' e R' (by simp only [Rp])
    | ret v S' => exact fun kt => kt
    | exc c ρ S' => exact fun kt α' σ' H' e R' _ => kt α' H' e R'
    | bad => exact fun kt => kt.elim
end
end PM
end
section
namespace PM
open PySem L2 PySem.Spec PyProof.Rows
def BindsPlain (d : DfI) : Prop := ∀ (kV doc pm : Value) (an : Option Addr) (cdv ct : Value) (us : List Value), us.length = d.ps.length → bindArgs (PySem.W.fnOf d.x d.qual (defArgs d.st) (defBody d.st) (defScope d.st) .none kV doc pm an cdv ct) ⟨us, []⟩ = pure (d.ps.zip us)
def BindsAll : List DfI → Prop
  | [] => True
  | d :: r => BindsPlain d ∧ BindsAll r
theorem BindsAll.at : ∀ {ds : List DfI} {f : Nat} {d : DfI}, BindsAll ds → ds[f]? = some d → BindsPlain d
  | [], _, _, _, h => by simp at h
  | _ :: _, 0, _, b, h => by simp at h; subst h; exact b.1
  | _ :: r, f + 1, _, b, h => BindsAll.at b.2 (by simpa using h)
def dfd (d : DfI) : He.DefD := ⟨(d.x, none), d.x, d.qual, defArgs d.st, defBody d.st, defScope d.st, [], []⟩
def faOf (G : Gx) : List He.Fa := G.fns.map (fun p => .glo p.1) ++ G.bis.map (fun x => .free x)
def fnsC (G : Gx) (ds : List DfI) : Bool := G.fns.all fun p => match ds[p.2]? with | some d => decide (d.x = p.1) | none => false
def cfgOf (K : PySem.W.Frag) : Cfg := { K := K, cls := fun _ => 0, nc := 0, fld := [], xc := fun _ => 0, tabs := [], fnd := List.nodup_nil }
def addrOf (K : PySem.W.Frag) (ds : List DfI) (f : Nat) : Addr := match ds[f]? with | some d => He.fAd K (d.x, none) | none => 0
theorem lookup_mem {β : Type} : ∀ {l : List (Str × β)} {x : Str} {b : β}, l.lookup x = some b → (x, b) ∈ l
  | [], _, _, h => by cases h
  | (y, c) :: r, x, b, h => by
    rw [List.lookup_cons] at h
    cases e : x == y with
    | true =>
      rw [e] at h
      cases h
      have : x = y := by simpa using e
      subst this
      exact List.mem_cons_self
    | false =>
      rw [e] at h
      exact List.mem_cons_of_mem _ (lookup_mem h)
theorem says_fact {K : PySem.W.Frag} {fa : List He.Fa} {fn : List He.DefD} (c : He.SaysD fa fn K) {f : He.Fa} (h : f ∈ fa) : f.ok K = true := by
  obtain ⟨i, hi, e⟩ := List.mem_iff_getElem.mp h
  exact c.fact i (f := f) (by rw [List.getElem?_eq_getElem hi, e])
theorem heads_plain {K : PySem.W.Frag} {h : Heap} {mg : Str → Option Value} {G : Gx} {ds : List DfI} (KX : K.In h) (N : h.Ns mainGlobals mg) (c : He.SaysD (faOf G) (ds.map dfd) K) (hb : BindsAll ds) (hf : fnsC G ds = true) (hcl : G.cls = []) :
    Heads (cfgOf K) G mg ds (addrOf K ds) where
  fn := fun f d hd => by
    obtain ⟨fd, F⟩ := c.def_ f (d := dfd d) (by rw [List.getElem?_map, hd]; rfl)
    have F : FunD K d.x d.qual (defArgs d.st) (defBody d.st) (defScope d.st) [] [] (addrOf K ds f) fd := by
      have e : addrOf K ds f = He.fAd K (d.x, none) := by unfold addrOf; rw [hd]
      rw [e]; exact F
    exact ⟨fd, F, F.bindsN (hb.at hd)⟩
  bi := fun x hx => He.free_ok KX N (says_fact c (List.mem_append_right _ (List.mem_map.mpr ⟨x, hx, rfl⟩)))
  fns := fun x f hx => by
    have hm := lookup_mem hx
    have hg := List.all_eq_true.mp hf _ hm
    dsimp only at hg
    split at hg
    · rename_i d hd
      have e := of_decide_eq_true hg
      refine ⟨?_, (List.getElem?_eq_some_iff.mp hd).1⟩
      have q := He.glo_ok KX N (x := x) (says_fact c (List.mem_append_left _ (List.mem_map.mpr ⟨_, hm, rfl⟩)))
      rw [q]
      unfold addrOf
      rw [hd]
      show some (Value.ref (He.ga K x)) = some (.ref (He.ga K d.x))
      rw [e]
    · cases hg
  clsN := fun x c h => by rw [hcl] at h; cases h
  cls := fun d h => absurd h (Nat.not_lt_zero d)
def Answers (ds : List DfI) (k li : Nat) : Prop := ∀ ns : List Int, ns.length ≤ 63 → ∃ S, run (tabOf ds) (fun _ _ => false) k li [.ro (ns.map .int)] [] = .ok (.bl true) S
theorem sp_law {E : Cfg} {ds : List DfI} {k li : Nat} (A : Answers ds k li) {H : Hp} {a : Addr} {ns : List Int} (hl : ns.length ≤ 63) (hO : Only H) (hS : SqL E.K H a (ns.map V.int)) :
    spF E (cfOf ds (fun _ _ => false) k) li [.ref a] H (fun v _ => v = .bl true) fun _ _ _ => False := by
  obtain ⟨S, e⟩ := A ns hl
  refine ⟨fun _ => 0, [], [.ro (ns.map .int)], ⟨fun i j h => by simp at h, fun l o h => by simp at h⟩, RpL.cons ?_ RpL.nil, ?_⟩
  · simp only [Rp]
    refine ⟨a, ns.map V.int, rfl, ?_, RpL.ofInts ns⟩
    rcases hS with (h | ⟨o, h⟩) | h
    · rcases hO a with z | ⟨o, xs, z⟩
      · rw [h] at z; cases z
      · rw [h] at z; cases z
    · exact .inl ⟨o, h⟩
    · exact .inr h
  · show Kt E _ (Rp E) _ [] [] H (run (tabOf ds) (fun _ _ => false) k li [.ro (ns.map .int)] []) _
    rw [e]
    exact fun α' x H' _ _ r => by simpa only [Rp] using r
theorem walk_pm {l : PySem.W.OpenLaw} {n k : Nat} {q : Program} {loose : List Str} {XP : (Str → Option Value) → Heap → Prop} {YP : World → Heap → Prop} {d : DefRec} {CX : World → CXT} {x : Str}
    (hn : l.most = some n) (hn2 : n ≤ sizeLine) (hdf : d.params.defaults = []) (hr : Room k callerA)
    (F : ∀ (w : World) (mg : Str → Option Value) (fa : Addr) (h : Heap), YP w h → h.Ns mainGlobals mg → mg d.name = some (.ref fa) →
      ∃ (K : PySem.W.Frag) (fd : FuncData) (sp : Sp), K.In h ∧ (∀ (s : Shared) (u : Value), BindsTo s fd ⟨[u], []⟩ [(x, u)]) ∧
        (∀ (H : Hp) (a : Addr) (ns : List Int), ns.length ≤ n → Only H → SqL K H a (ns.map V.int) → sp [.ref a] H (fun v _ => v = .bl true) fun _ _ _ => False) ∧
        ∀ base : Heap, K.In base → base.Ns mainGlobals mg → FnOk l.prog w K mg base (CX w) k fa fd [x] sp)
    (hCX : ∀ (w : World) (H : Hp) (s : Shared) (e : Value) (s' : Shared), CX w [] H s (fun _ _ _ => False) e s' → False) :
    PySem.W.WalkO q loose XP YP l.row.toRowW d [] (fun f vs => PySem.call f vs) := by
  refine Att.attach_call hn hdf fun w s₀ s₁ mg mb fa o pm cd doc a vs ns G Y ho hd hcd hmg hobj hints hlen hg => ?_
  obtain ⟨K, fd, sp, KX, hb, hsp, hF⟩ := F w mg fa _ Y G.T.g hmg
  exact law_call KX G.T.g G.T.b G.T.builtins G.T.nolimit hg hobj hints (Nat.le_trans hlen hn2) hr hF hb (fun H hO hS => hsp H a ns hlen hO hS) fun H e s' => hCX w H s₁ e s'
theorem law_end {P : Program} {w : World} {K : PySem.W.Frag} {h : Heap} {mg : Str → Option Value} {fa : Addr} {G : Gx} {ds : List DfI} {k li fuel : Nat} {d : DfI} {x : Str} (A : Answers ds k li)
    (KX : K.In h) (N : h.Ns mainGlobals mg) (hmg : mg d.x = some (.ref fa)) (c : He.SaysD (faOf G) (ds.map dfd) K) (hb : BindsAll ds) (hf : fnsC G ds = true) (hcl : G.cls = []) (hc : ds.all (·.ok G fuel) = true) (hd : ds[li]? = some d) (hg : G.fns.lookup d.x = some li) (hps : d.ps = [x]) :
    ∃ (fd : FuncData) (sp : Sp), (∀ (s : Shared) (u : Value), BindsTo s fd ⟨[u], []⟩ [(x, u)]) ∧ (∀ (H : Hp) (a : Addr) (ns : List Int), ns.length ≤ 63 → Only H → SqL K H a (ns.map V.int) → sp [.ref a] H (fun v _ => v = .bl true) fun _ _ _ => False) ∧
      ∀ base : Heap, K.In base → base.Ns mainGlobals mg → FnOk P w K mg base (L2.CX P w) k fa fd [x] sp := by
  have B := heads_plain KX N c hb hf hcl
  obtain ⟨fd, F, b⟩ := B.fn li d hd
  have e : fa = addrOf K ds li := by
    have q := (B.fns _ _ hg).1
    rw [hmg] at q
    cases q; rfl
  subst e
  refine ⟨fd, spF (cfgOf K) (cfOf ds (fun _ _ => false) k) li, fun s u => ?_, fun H a ns hl hO hS => sp_law A hl hO hS, fun base _ _ => ?_⟩
  · have q := FunD.bindsA (ps := d.ps) F (hb.at hd) s [u] (by rw [hps]; rfl)
    rw [hps] at q
    exact q
  · rw [← hps]
    exact fn_all (E := cfgOf K) B hc k li d fd hd F
end PM
end
section
namespace PM
open PySem
def okP : Res PV → Option PV
  | .ok v [] => some v
  | _ => none
def bopA (o : BOp) (x y : PV) : Option PV := match bopV o [] x y with
  | .ok v [] => some v
  | .ok _ [.lst xs] => some (.lst xs)
  | _ => none
def bqA (b : BI) (vs : List PV) : Option PV := match b with
  | .len | .int | .tuple | .min2 | .sum | .str => okP (biV b [] vs)
  | .list | .sorted => (match biV b [] vs with | .ok _ [.lst xs] => some (.lst xs) | _ => none)
  | _ => none
def bqP (b : BI) (vs : List PV) : Option PV := match b with
  | .len | .int | .tuple | .min2 | .sum | .str => okP (biV b [] vs)
  | _ => none
def slA (x : PV) (l h : Option Int) : Option PV := match x with
  | .tup xs => some (.tup (cutP xs l h))
  | .lst xs => some (.lst (cutP xs l h))
  | .ro xs => some (.lst (cutP xs l h))
  | _ => none
def noCf : Cf := ⟨fun _ _ _ => .bad, fun _ _ => false⟩
def pcomp (asg : PV → Option Env) (cond : Env → Option Bool) (elt : Env → Option PV) : List PV → Option (List PV)
  | [] => some []
  | x :: xs => (asg x).bind fun ρ => (cond ρ).bind fun b => if b = true then (elt ρ).bind fun y => (pcomp asg cond elt xs).map (y :: ·) else pcomp asg cond elt xs
section
variable (pf : Nat → List PV → Option PV)
mutual
def pe : CE → Env → Option PV
  | .cst v => fun _ => if pur v = true then some v else none
  | .var i => fun ρ => match ρ[i]? with
    | some (some v) => some v
    | _ => none
  | .pow i j => fun _ => some (.int ((i : Int) ^ j))
  | .bop o a b => fun ρ => (pe a ρ).bind fun x => (pe b ρ).bind fun y => okP (bopV o [] x y)
  | .cmp o a b => fun ρ => (pe a ρ).bind fun x => (pe b ρ).bind fun y => (cmpV o [] x y).map .bl
  | .cmp2 o o' a b c => fun ρ => (pe a ρ).bind fun x => (pe b ρ).bind fun y => (cmpV o [] x y).bind fun k =>
      if k = true then (pe c ρ).bind fun z => (cmpV o' [] y z).map .bl else some (.bl false)
  | .and a b => fun ρ => (pe a ρ).bind fun x => match x with
    | .bl true => pe b ρ
    | .bl false => some (.bl false)
    | _ => none
  | .or a b => fun ρ => (pe a ρ).bind fun x => match x with
    | .bl false => pe b ρ
    | .bl true => some (.bl true)
    | _ => none
  | .not a => fun ρ => (pe a ρ).bind fun x => (truth [] x).map fun k => .bl (!k)
  | .neg a => fun ρ => (pe a ρ).bind fun x => match x with
    | .int i => some (.int (-i))
    | _ => none
  | .tup es => fun ρ => (pes es ρ).bind fun vs => if vs.length ≤ LIM then some (.tup vs) else none
  | .ix a i => fun ρ => (pe a ρ).bind fun x => (pe i ρ).bind fun y => ixV [] x y
  | .bi b es => fun ρ => (pes es ρ).bind fun vs => bqP b vs
  | .isi e ks => fun ρ => (pe e ρ).bind fun x => (isiV [] noCf x ks).map .bl
  | .fz e => fun ρ => pa e ρ
  | _ => fun _ => none
def pa : CE → Env → Option PV
  | .lst es => fun ρ => (pes es ρ).bind fun vs => if vs.length ≤ LIM then some (.lst vs) else none
  | .bop o a b => fun ρ => (pe a ρ).bind fun x => (pe b ρ).bind fun y => bopA o x y
  | .sl a lo hi => fun ρ => (pe a ρ).bind fun x => (po lo ρ).bind fun l => (po hi ρ).bind fun h => slA x l h
  | .rev a => fun ρ => (pe a ρ).bind fun x => (lstOf [] x).map fun xs => .lst xs.reverse
  | .bi b es => fun ρ => (pes es ρ).bind fun vs => bqA b vs
  | .call f es => fun ρ => (pes es ρ).bind fun vs => pf f vs
  | .comp elt own tg it cond => fun ρ => (pi it ρ).bind fun xs => if xs.length ≤ LIM then (pcomp (fun x => pt tg x (wipe ρ own)) (pb cond) (pe elt) xs).map .lst else none
  | _ => fun _ => none
def pes : CEs → Env → Option (List PV)
  | .nil => fun _ => some []
  | .cons e es => fun ρ => (pe e ρ).bind fun v => (pes es ρ).map fun vs => v :: vs
def po : CEo → Env → Option (Option Int)
  | .none => fun _ => some none
  | .some e => fun ρ => (pe e ρ).bind fun v => match v with
    | .int i => some (some i)
    | _ => none
def pb : CEo → Env → Option Bool
  | .none => fun _ => some true
  | .some e => fun ρ => (pe e ρ).bind fun v => truth [] v
def pi : CI → Env → Option (List PV)
  | .seq e => fun ρ => (pe e ρ).bind fun v => seqOf [] v
  | .rng1 e => fun ρ => (pe e ρ).bind fun v => match v with
    | .int n => if okR 0 n = true then some (rngL 0 n) else none
    | _ => none
  | .rng2 a b => fun ρ => (pe a ρ).bind fun v => (pe b ρ).bind fun u => match v, u with
    | .int m, .int n => if okR m n = true then some (rngL m n) else none
    | _, _ => none
  | _ => fun _ => none
def pt : CT → PV → Env → Option Env
  | .var i => fun v ρ => some (ρ.set i (some v))
  | .tup ts => fun v ρ => (seqOf [] v).bind fun vs => pts ts vs ρ
  | _ => fun _ _ => none
def pts : CTs → List PV → Env → Option Env
  | .nil => fun vs ρ => match vs with
    | [] => some ρ
    | _ :: _ => none
  | .cons t ts => fun vs ρ => match vs with
    | [] => none
    | v :: r => (pt t v ρ).bind fun ρ' => pts ts r ρ'
end
inductive PR where
  | nx (ρ : Env) | ret (v : PV)
def PR.seq (q : PR) (f : Env → Option PR) : Option PR := match q with
  | .nx ρ => f ρ
  | r => some r
def pfor (asg : PV → Env → Option Env) (body : Env → Option PR) : List PV → Env → Option PR
  | [], ρ => some (.nx ρ)
  | x :: xs, ρ => (asg x ρ).bind fun ρ' => (body ρ').bind fun q => q.seq (pfor asg body xs)
def pwh (c : Env → Option Bool) (body : Env → Option PR) : Nat → Env → Option PR
  | 0, _ => none
  | n + 1, ρ => (c ρ).bind fun b => if b = true then (body ρ).bind fun q => q.seq (pwh c body n) else some (.nx ρ)
def pB (e : CE) (ρ : Env) : Option Bool := (pe pf e ρ).bind fun v => truth [] v
def px : CSs → Env → Option PR
  | .nil => fun ρ => some (.nx ρ)
  | .pass r => fun ρ => px r ρ
  | .asg t e r => fun ρ => (pe pf e ρ).bind fun v => (pt pf t v ρ).bind fun ρ' => px r ρ'
  | .par is es r => fun ρ => (pes pf es ρ).bind fun vs => (par2 is vs ρ).bind fun ρ' => px r ρ'
  | .aug i o e r => fun ρ => (match ρ[i]? with | some (some x) => some x | _ => none).bind fun x => (pe pf e ρ).bind fun y => (okP (augV o [] x y)).bind fun z => px r (ρ.set i (some z))
  | .ex e r => fun ρ => (pe pf e ρ).bind fun _ => px r ρ
  | .ret e => fun ρ => (pe pf e ρ).map .ret
  | .retN => fun _ => some (.ret .non)
  | .iff c a b r => fun ρ => (pB pf c ρ).bind fun k => (if k = true then px a ρ else px b ρ).bind fun q => q.seq (px r)
  | .for t it body r => fun ρ => (pi pf it ρ).bind fun xs => (pfor (pt pf t) (px body) xs ρ).bind fun q => q.seq (px r)
  | .wh n c body r => fun ρ => (pwh (pB pf c) (px body) n ρ).bind fun q => q.seq (px r)
  | _ => fun _ => none
end
def prun (tab : Nat → Option Fn) (ov : Nat → Option (List PV → Option PV)) : Nat → Nat → List PV → Option PV
  | 0 => fun _ _ => none
  | k + 1 => fun f vs => match ov f with
    | some g => g vs
    | none => match tab f with
      | some d => if vs.length = d.np then (px (prun tab ov k) d.body (startE d.n vs)).map (fun | .nx _ => .non | .ret v => v) else none
      | none => none
end PM
end
section
namespace PM
open PySem
theorem purs_iff : ∀ {xs : List PV}, purs xs = true ↔ ∀ x ∈ xs, pur x = true
  | [] => by simp [purs]
  | x :: xs => by simp [purs, purs_iff (xs := xs)]
theorem seq_f {v : PV} {xs : List PV} (h : seqOf [] v = some xs) (S : Sto) : seqOf S v = some xs ∧ (pur v = true → purs xs = true) := by
  cases v <;> simp [seqOf, lstOf] at h ⊢ <;> (subst h; simp [pur])
theorem lst_f {v : PV} {xs : List PV} (h : lstOf [] v = some xs) (S : Sto) : lstOf S v = some xs ∧ (pur v = true → purs xs = true) := by
  cases v <;> simp [lstOf] at h ⊢ <;> (subst h; simp [pur])
theorem truth_f {v : PV} {b : Bool} (h : truth [] v = some b) (S : Sto) : truth S v = some b := by
  cases v <;> simp [truth] at h ⊢ <;> exact h
mutual
theorem toDw_f {g g' : Nat → Option PyData} (hg : ∀ l d, g l = some d → g' l = some d) : ∀ (v : PV) (d : PyData), toDw g v = some d → toDw g' v = some d
  | .non, _, h => h
  | .bl _, _, h => h
  | .int _, _, h => h
  | .str _, _, h => h
  | .tup xs, d, h => by
    simp only [toDw] at h ⊢
    obtain ⟨ds, e1, e2⟩ := Option.map_eq_some_iff.mp h
    rw [toDws_f hg xs ds e1, ← e2]; rfl
  | .lst xs, d, h => by
    simp only [toDw] at h ⊢
    obtain ⟨ds, e1, e2⟩ := Option.map_eq_some_iff.mp h
    rw [toDws_f hg xs ds e1, ← e2]; rfl
  | .ro xs, d, h => by
    simp only [toDw] at h ⊢
    obtain ⟨ds, e1, e2⟩ := Option.map_eq_some_iff.mp h
    rw [toDws_f hg xs ds e1, ← e2]; rfl
  | .obj _ _ _, _, h => h
  | .loc l, d, h => by simp only [toDw] at h ⊢; exact hg l d h
theorem toDws_f {g g' : Nat → Option PyData} (hg : ∀ l d, g l = some d → g' l = some d) : ∀ (xs : List PV) (ds : List PyData), toDws g xs = some ds → toDws g' xs = some ds
  | [], _, h => h
  | x :: xs, ds, h => by
    simp only [toDws] at h ⊢
    split at h
    · rename_i d ds' e1 e2
      rw [toDw_f hg x d e1, toDws_f hg xs ds' e2]
      exact h
    · cases h
end
theorem toDL_nil : ∀ (k l : Nat) (d : PyData), toDL [] k l = some d → False
  | 0, _, _, h => by simp [toDL] at h
  | k + 1, l, d, h => by simp [toDL] at h
theorem toD_f {v : PV} {d : PyData} (h : toD [] v = some d) (S : Sto) : toD S v = some d := toDw_f (fun l d e => (toDL_nil 6 l d e).elim) v d h
theorem toDs_f {v : List PV} {d : List PyData} (h : toDws (toDL [] 6) v = some d) (S : Sto) : toDws (toDL S 6) v = some d := toDws_f (fun l d e => (toDL_nil 6 l d e).elim) v d h
theorem eqS_f {v w : PV} {b : Bool} (h : eqS [] v w = some b) (S : Sto) : eqS S v w = some b := by
  unfold eqS at h ⊢
  split at h
  · rename_i d e e1 e2
    rw [toD_f e1 S, toD_f e2 S]
    exact h
  · cases h
theorem any_f {x : PV} {ys : List PV} {b : Bool} (h : anyEq [] x ys = some b) (S : Sto) : anyEq S x ys = some b := by
  unfold anyEq at h ⊢
  split at h
  · rename_i d e e1 e2
    rw [toD_f e1 S, toDs_f e2 S]
    exact h
  · cases h
theorem in_f {x y : PV} {b : Bool} (h : inV [] x y = some b) (S : Sto) : inV S x y = some b := by
  cases y <;> simp only [inV] at h ⊢ <;> first | exact h | exact any_f h S | skip
  simp [dfind] at h
theorem cmp_f {o : COp} {x y : PV} {b : Bool} (h : cmpV o [] x y = some b) (S : Sto) : cmpV o S x y = some b := by
  cases o <;> simp only [cmpV] at h ⊢ <;> first | exact h | exact eqS_f h S | exact in_f h S | skip
  · obtain ⟨c, e1, e2⟩ := Option.map_eq_some_iff.mp h
    rw [eqS_f e1 S, ← e2]; rfl
  · obtain ⟨c, e1, e2⟩ := Option.map_eq_some_iff.mp h
    rw [in_f e1 S, ← e2]; rfl
theorem isi_f {x : PV} {ks : List KN} {b : Bool} {cf : Cf} (h : isiV [] noCf x ks = some b) (S : Sto) : isiV S cf x ks = some b := by
  cases x <;> simp [isiV] at h ⊢ <;> exact h
theorem atI_mem {xs : List PV} {i : Int} {v : PV} (h : L2.atI xs i = some v) : v ∈ xs := by
  unfold L2.atI at h
  obtain ⟨j, _, e⟩ := Option.bind_eq_some_iff.mp h
  exact List.mem_of_getElem? e
theorem ix_f {x y v : PV} (h : ixV [] x y = some v) (S : Sto) : ixV S x y = some v ∧ (pur x = true → pur v = true) := by
  unfold ixV at h ⊢
  split at h
  · refine ⟨h, fun _ => ?_⟩
    split at h
    · obtain ⟨c, _, e⟩ := Option.map_eq_some_iff.mp h
      subst e; rfl
    · cases h
  · simp [dfind] at h
  · rename_i x i h1 h2
    obtain ⟨xs, e1, e2⟩ := Option.bind_eq_some_iff.mp h
    obtain ⟨f1, f2⟩ := seq_f e1 S
    refine ⟨?_, fun hp => purs_iff.mp (f2 hp) _ (atI_mem e2)⟩
    simp [f1, e2]
  · cases h
theorem need_true {β : Type} {b : Bool} {r : Res β} (h : b = true) : Res.need b r = r := by subst h; rfl
theorem need_ok {b : Bool} {r : Res PV} {v : PV} {S : Sto} (h : Res.need b r = .ok v S) : b = true ∧ r = .ok v S := by
  cases b
  · cases h
  · exact ⟨rfl, h⟩
theorem opt_ok {β : Type} {o : Option β} {f : β → Res PV} {v : PV} {S : Sto} (h : Res.opt o f = .ok v S) : ∃ a, o = some a ∧ f a = .ok v S := by
  cases o
  · cases h
  · exact ⟨_, rfl, h⟩
theorem new_no {S S' : Sto} {o : MO} {v : PV} (h : new S o = .ok v S') : v = .loc S.length ∧ S' = S ++ [o] := by
  unfold new at h; cases h; exact ⟨rfl, rfl⟩
theorem purs_app {a b : List PV} (h1 : purs a = true) (h2 : purs b = true) : purs (a ++ b) = true := purs_iff.mpr fun x hx => (List.mem_append.mp hx).elim (purs_iff.mp h1 x) (purs_iff.mp h2 x)
theorem purs_rep {a : List PV} (h1 : purs a = true) (k : Nat) : purs (List.replicate k a).flatten = true := purs_iff.mpr fun x hx => by
  obtain ⟨l, hl, hx⟩ := List.mem_flatten.mp hx
  rw [(List.mem_replicate.mp hl).2] at hx
  exact purs_iff.mp h1 x hx
theorem trk_f {v : PV} {xs : List PV} (h : trk [] v = some xs) (S : Sto) : trk S v = some xs ∧ (pur v = true → purs xs = true) := by
  cases v <;> simp [trk] at h ⊢ <;> (subst h; simp [pur])
theorem bop_f {o : BOp} {x y v : PV} {S0 : Sto} (h : bopV o [] x y = .ok v S0) (S : Sto) :
    (S0 = [] ∧ bopV o S x y = .ok v S ∧ (pur x = true → pur y = true → pur v = true)) ∨ ∃ xs, S0 = [.lst xs] ∧ bopV o S x y = new S (.lst xs) ∧ (pur x = true → pur y = true → purs xs = true) := by
  cases o <;> simp only [bopV] at h ⊢
  · unfold addV at h ⊢
    split at h
    · cases h; exact .inl ⟨rfl, rfl, fun _ _ => rfl⟩
    · obtain ⟨e, h⟩ := need_ok h
      cases h
      exact .inl ⟨rfl, need_true e, fun _ _ => rfl⟩
    · obtain ⟨e, h⟩ := need_ok h
      cases h
      exact .inl ⟨rfl, need_true e, fun h1 h2 => by simp only [pur] at h1 h2 ⊢; exact purs_app h1 h2⟩
    · rename_i n1 n2 n3
      obtain ⟨a, e1, h⟩ := opt_ok h
      obtain ⟨b, e2, h⟩ := opt_ok h
      obtain ⟨e3, h⟩ := need_ok h
      obtain ⟨_, rfl⟩ := new_no h
      obtain ⟨f1, f2⟩ := trk_f e1 S
      obtain ⟨f3, f4⟩ := trk_f e2 S
      refine .inr ⟨a ++ b, rfl, ?_, fun h1 h2 => purs_app (f2 h1) (f4 h2)⟩
      simp only [f1, f3, Res.opt]
      exact need_true e3
  · unfold subV at h ⊢
    split at h
    · cases h; exact .inl ⟨rfl, rfl, fun _ _ => rfl⟩
    · cases h
  · unfold mulV at h ⊢
    split at h
    · obtain ⟨e, h⟩ := need_ok h
      cases h
      exact .inl ⟨rfl, need_true e, fun _ _ => rfl⟩
    · obtain ⟨e, h⟩ := need_ok h
      cases h
      exact .inl ⟨rfl, need_true e, fun h1 h2 => by simp only [pur] at h1 ⊢; exact purs_rep h1 _⟩
    · obtain ⟨a, e1, h⟩ := opt_ok h
      obtain ⟨e3, h⟩ := need_ok h
      obtain ⟨_, rfl⟩ := new_no h
      obtain ⟨f1, f2⟩ := trk_f e1 S
      refine .inr ⟨_, rfl, ?_, fun h1 h2 => purs_rep (f2 h1) _⟩
      simp only [f1, Res.opt]
      exact need_true e3
    · cases h
  · unfold fdivV at h ⊢
    split at h
    · obtain ⟨e, h⟩ := need_ok h
      cases h
      exact .inl ⟨rfl, need_true e, fun _ _ => rfl⟩
    · cases h
  · unfold modV at h ⊢
    split at h
    · obtain ⟨e, h⟩ := need_ok h
      cases h
      exact .inl ⟨rfl, need_true e, fun _ _ => rfl⟩
    · cases h
end PM
end
section
namespace PM
open PySem
theorem okP_is {r : Res PV} {v : PV} (h : okP r = some v) : r = .ok v [] := by
  unfold okP at h
  split at h
  · cases h; rfl
  · cases h
theorem b1_ok {f : PV → Res PV} {vs : List PV} {v : PV} {S : Sto} (h : b1 f vs = .ok v S) : ∃ x, vs = [x] ∧ f x = .ok v S := by
  unfold b1 at h
  split at h
  · exact ⟨_, rfl, h⟩
  · cases h
theorem b2_ok {f : PV → PV → Res PV} {vs : List PV} {v : PV} {S : Sto} (h : b2 f vs = .ok v S) : ∃ x y, vs = [x, y] ∧ f x y = .ok v S := by
  unfold b2 at h
  split at h
  · exact ⟨_, _, rfl, h⟩
  · cases h
theorem len_f {x : PV} {n : Nat} (h : lenV [] x = some n) (S : Sto) : lenV S x = some n := by
  cases x <;> simp [lenV, seqOf, lstOf] at h ⊢ <;> exact h
theorem keys_nil {x : PV} : keysOf [] x = none := by cases x <;> simp [keysOf]
theorem keys_pur {x : PV} {S : Sto} (h : pur x = true) : keysOf S x = none := by cases x <;> simp [keysOf, pur] at h ⊢
theorem intsV_pur : ∀ {is : List Int}, purs (is.map PV.int) = true
  | [] => rfl
  | i :: is => by simp [purs, pur, intsV_pur (is := is)]
theorem bqP_f {b : BI} {vs : List PV} {v : PV} (h : bqP b vs = some v) (hp : purs vs = true) (S : Sto) : biV b S vs = .ok v S ∧ pur v = true := by
  cases b <;> simp only [bqP] at h <;> first | (cases h; done) | skip
  all_goals (have h := okP_is h; simp only [biV] at h ⊢)
  · obtain ⟨x, e0, h2⟩ := b1_ok h; clear h; subst e0; have h := h2; clear h2
    obtain ⟨n, e, h⟩ := opt_ok h
    cases h
    exact ⟨by show Res.opt (lenV S x) _ = _; rw [len_f e S]; rfl, rfl⟩
  · obtain ⟨x, e0, h2⟩ := b1_ok h; clear h; subst e0; have h := h2; clear h2
    cases x <;> simp only [intB] at h <;> first | (cases h; done) | skip
    · cases h; exact ⟨rfl, rfl⟩
    · cases h; exact ⟨rfl, rfl⟩
  · obtain ⟨x, e0, h2⟩ := b1_ok h; clear h; subst e0; have h := h2; clear h2
    simp only [purs, Bool.and_true] at hp
    show tupB S x = _ ∧ _
    unfold tupB at h ⊢
    split at h
    · cases h; exact ⟨rfl, hp⟩
    · obtain ⟨xs, e, h⟩ := opt_ok h
      cases h
      obtain ⟨f1, f2⟩ := lst_f e S
      refine ⟨?_, by simp only [pur]; exact f2 hp⟩
      simp only [f1, Res.opt]
  · obtain ⟨x, y, e0, h2⟩ := b2_ok h; clear h; subst e0; have h := h2; clear h2
    show min2B S x y = _ ∧ _
    unfold min2B at h ⊢
    split at h
    · cases h; exact ⟨rfl, rfl⟩
    · cases h
  · obtain ⟨x, e0, h2⟩ := b1_ok h; clear h; subst e0; have h := h2; clear h2
    obtain ⟨is, e, h⟩ := opt_ok h
    cases h
    obtain ⟨xs, e1, e2⟩ := Option.bind_eq_some_iff.mp e
    refine ⟨?_, rfl⟩
    show sumB S x = _
    unfold sumB
    rw [(lst_f e1 S).1]
    show Res.opt (intsV xs) _ = _
    rw [e2]
    rfl
  · obtain ⟨x, e0, h2⟩ := b1_ok h; clear h; subst e0; have h := h2; clear h2
    show strB S x = _ ∧ _
    unfold strB at h ⊢
    split at h
    · obtain ⟨e, h⟩ := need_ok h
      cases h
      exact ⟨need_true e, rfl⟩
    · cases h
theorem bqA_f {b : BI} {vs : List PV} {v : PV} (h : bqA b vs = some v) (hp : purs vs = true) (S : Sto) : (biV b S vs = .ok v S ∧ pur v = true) ∨ ∃ xs, v = .lst xs ∧ biV b S vs = new S (.lst xs) ∧ purs xs = true := by
  by_cases hb : bqP b vs = some v
  · exact .inl (bqP_f hb hp S)
  · cases b <;> simp only [bqA, bqP] at h hb <;> first | (cases h; done) | exact absurd h hb | skip
    · split at h
      · rename_i xs e
        cases h
        simp only [biV] at e ⊢
        obtain ⟨x, e0, h2⟩ := b1_ok e; clear e; subst e0; have e := h2; clear h2
        simp only [purs, Bool.and_true] at hp
        refine .inr ⟨xs, rfl, ?_⟩
        show listB S x = _ ∧ _
        unfold listB at e ⊢
        rw [keys_nil] at e
        rw [keys_pur hp]
        simp only at e ⊢
        obtain ⟨ys, e1, e⟩ := opt_ok e
        obtain ⟨_, e2⟩ := new_no e
        obtain ⟨f1, f2⟩ := seq_f e1 S
        simp at e2
        subst e2
        simp only [f1, Res.opt]
        exact ⟨trivial, f2 hp⟩
      · cases h
    · split at h
      · rename_i xs e
        cases h
        simp only [biV] at e ⊢
        obtain ⟨x, e0, h2⟩ := b1_ok e; clear e; subst e0; have e := h2; clear h2
        simp only [purs, Bool.and_true] at hp
        refine .inr ⟨xs, rfl, ?_⟩
        show sortB S x = _ ∧ _
        unfold sortB at e ⊢
        rw [keys_nil] at e
        rw [keys_pur hp]
        simp only at e ⊢
        obtain ⟨is, e1, e⟩ := opt_ok e
        obtain ⟨e3, e⟩ := need_ok e
        obtain ⟨_, e2⟩ := new_no e
        obtain ⟨ys, e4, e5⟩ := Option.bind_eq_some_iff.mp e1
        simp at e2
        subst e2
        rw [(lst_f e4 S).1]
        show Res.opt (intsV ys) _ = _ ∧ _
        rw [e5]
        exact ⟨need_true e3, intsV_pur⟩
      · cases h
theorem frz_new {S : Sto} {xs : List PV} (h : purs xs = true) : fzR S (new S (.lst xs)) = .ok (.lst xs) S := by
  unfold fzR new
  simp only [List.take_left', if_true]
  have e : frz S.length (S ++ [.lst xs]) (.loc S.length) = some (.lst xs) := by
    unfold frz
    simp only [sbst, frzL]
    rw [if_neg (Nat.lt_irrefl _)]
    simp [sbsts_pur _ xs h]
  rw [e]
  rfl
theorem frz_pur {S : Sto} {v : PV} (h : pur v = true) : fzR S (.ok v S) = .ok v S := by
  unfold fzR
  simp only [List.take_length, if_true]
  have e : frz S.length S v = some v := sbst_pur _ v h
  rw [e]
  rfl
theorem slA_f {x v : PV} {l u : Option Int} (h : slA x l u = some v) (hx : pur x = true) : (∀ S, fzR S (slV S x l u) = .ok v S) ∧ pur v = true := by
  have cut : ∀ xs : List PV, purs xs = true → purs (cutP xs l u) = true := fun xs hx => purs_iff.mpr fun z hz => purs_iff.mp hx z (List.mem_of_mem_drop (List.mem_of_mem_take hz))
  cases x <;> simp only [slA, Option.some.injEq] at h <;> first | (cases h; done) | skip
  · subst h
    simp only [pur] at hx
    have q := cut _ hx
    exact ⟨fun S => frz_pur (by simp only [pur]; exact q), by simp only [pur]; exact q⟩
  · subst h
    simp only [pur] at hx ⊢
    exact ⟨fun S => frz_new (cut _ hx), cut _ hx⟩
  · subst h
    simp only [pur] at hx ⊢
    exact ⟨fun S => frz_new (cut _ hx), cut _ hx⟩
end PM
end
section
namespace PM
open PySem
def purE (ρ : Env) : Prop := ∀ (i : Nat) (v : PV), ρ[i]? = some (some v) → pur v = true
theorem purE.set {ρ : Env} (h : purE ρ) {i : Nat} {v : PV} (hv : pur v = true) : purE (ρ.set i (some v)) := fun j w e => by
  by_cases hj : i = j
  · subst hj
    by_cases hi : i < ρ.length
    · rw [List.getElem?_set_self hi] at e; cases e; exact hv
    · rw [List.getElem?_eq_none (by simpa using hi)] at e; cases e
  · rw [List.getElem?_set_ne hj] at e
    exact h j w e
theorem purE.wipe {ρ : Env} (h : purE ρ) : ∀ own : List Nat, purE (wipe ρ own)
  | [] => h
  | i :: own => fun j w e => by
    have q := purE.wipe h own
    simp only [PM.wipe] at e
    by_cases hj : i = j
    · subst hj
      by_cases hi : i < (PM.wipe ρ own).length
      · rw [List.getElem?_set_self hi] at e; cases e
      · rw [List.getElem?_eq_none (by simpa using hi)] at e; cases e
    · rw [List.getElem?_set_ne hj] at e
      exact q j w e
theorem purE.start {vs : List PV} (h : purs vs = true) (n : Nat) : purE (startE n vs) := fun i v e => by
  unfold startE at e
  by_cases hi : i < vs.length
  · rw [List.getElem?_append_left (by simpa using hi), List.getElem?_map] at e
    obtain ⟨u, e1, e2⟩ := Option.map_eq_some_iff.mp e
    cases e2
    exact purs_iff.mp h _ (List.mem_of_getElem? e1)
  · rw [List.getElem?_append_right (by simpa using Nat.le_of_not_lt hi)] at e
    obtain ⟨_, e2⟩ := List.getElem?_eq_some_iff.mp e
    simp at e2
def FP (cf : Cf) (pf : Nat → List PV → Option PV) : Prop := ∀ f vs v, purs vs = true → pf f vs = some v → pur v = true ∧ ∀ S, fzR S (cf.fn f vs S) = .ok v S
theorem pcomp_ok {asg : PV → Option Env} {cond : Env → Option Bool} {elt : Env → Option PV} {same : Sto → Bool} {asg' : PV → Sto → RT} {cond' : Env → Sto → Res Bool} {elt' : Env → Sto → Res PV} (hs : ∀ S, same S = true)
    (h1 : ∀ x ρ, pur x = true → asg x = some ρ → (∀ S, asg' x S = some (ρ, S)) ∧ purE ρ) (h2 : ∀ ρ b, purE ρ → cond ρ = some b → ∀ S, cond' ρ S = .ok b S) (h3 : ∀ ρ v, purE ρ → elt ρ = some v → (∀ S, elt' ρ S = .ok v S) ∧ pur v = true) (S : Sto) :
    ∀ (xs ys acc : List PV), purs xs = true → purs acc = true → acc.length + xs.length ≤ LIM → pcomp asg cond elt xs = some ys → compL S.length same asg' cond' elt' xs (S ++ [.lst acc]) = .ok (.loc S.length) (S ++ [.lst (acc ++ ys)]) ∧ purs ys = true
  | [], ys, acc, _, _, _, h => by
    simp only [pcomp, Option.some.injEq] at h
    subst h
    simp only [compL, hs, List.append_nil]
    exact ⟨rfl, rfl⟩
  | x :: xs, ys, acc, hx, ha, hl, h => by
    simp only [purs, Bool.and_eq_true] at hx
    simp only [List.length_cons] at hl
    simp only [pcomp] at h
    obtain ⟨ρ, e1, h⟩ := Option.bind_eq_some_iff.mp h
    obtain ⟨b, e2, h⟩ := Option.bind_eq_some_iff.mp h
    obtain ⟨f1, g1⟩ := h1 x ρ hx.1 e1
    have f2 := h2 ρ b g1 e2
    simp only [compL, hs, f1, f2, Res.bnd]
    rw [need_true rfl]
    cases b with
    | false =>
      simp only [Bool.false_eq_true, if_false] at h ⊢
      exact pcomp_ok hs h1 h2 h3 S xs ys acc hx.2 ha (by omega) h
    | true =>
      simp only [if_true] at h ⊢
      obtain ⟨y, e3, h⟩ := Option.bind_eq_some_iff.mp h
      obtain ⟨zs, e4, rfl⟩ := Option.map_eq_some_iff.mp h
      obtain ⟨f3, g3⟩ := h3 ρ y g1 e3
      obtain ⟨q1, q2⟩ := pcomp_ok hs h1 h2 h3 S xs zs (acc ++ [y]) hx.2 (purs_app ha (by simp [purs, g3])) (by simp; omega) e4
      simp only [f3]
      rw [List.getElem?_append_right (Nat.le_refl _), Nat.sub_self]
      simp only [List.getElem?_cons_zero]
      rw [need_true (decide_eq_true (by omega))]
      have es : (S ++ [MO.lst acc]).set S.length (.lst (acc ++ [y])) = S ++ [.lst (acc ++ [y])] := by
        rw [List.set_append_right _ _ (Nat.le_refl _), Nat.sub_self]
        rfl
      rw [es, q1]
      refine ⟨by rw [List.append_assoc]; rfl, by simp [purs, g3, q2]⟩
section
variable {cf : Cf} {pf : Nat → List PV → Option PV}
theorem fz_bind {β : Type} {m : Res β} {x : β} {S : Sto} {f : β → Sto → Res PV} (h : m = .ok x S) : fzR S (m.bind f) = fzR S (f x S) := by subst h; rfl
mutual
theorem pe_ok (F : FP cf pf) : ∀ (e : CE) (ρ : Env) (v : PV), purE ρ → pe pf e ρ = some v → (∀ S, ev cf e ρ S = .ok v S) ∧ pur v = true
  | .cst w, ρ, v, hp, h => by
    simp only [pe] at h
    split at h
    · cases h; exact ⟨fun S => by rw [ev], by assumption⟩
    · cases h
  | .var i, ρ, v, hp, h => by
    simp only [pe] at h
    split at h
    · rename_i w e
      cases h
      exact ⟨fun S => by rw [ev]; simp only [e], hp i _ e⟩
    · cases h
  | .pow i j, ρ, v, hp, h => by
    simp only [pe, Option.some.injEq] at h
    subst h
    exact ⟨fun S => by rw [ev], rfl⟩
  | .bop o a b, ρ, v, hp, h => by
    simp only [pe] at h
    obtain ⟨x, e1, h⟩ := Option.bind_eq_some_iff.mp h
    obtain ⟨y, e2, h⟩ := Option.bind_eq_some_iff.mp h
    obtain ⟨f1, g1⟩ := pe_ok F a ρ x hp e1
    obtain ⟨f2, g2⟩ := pe_ok F b ρ y hp e2
    have h := okP_is h
    refine ⟨fun S => ?_, ?_⟩
    · rw [ev]; simp only [f1, f2, Res.bind]
      rcases bop_f h S with ⟨_, q, _⟩ | ⟨xs, z, _⟩
      · exact q
      · cases z
    · rcases bop_f h [] with ⟨_, _, q⟩ | ⟨xs, z, _⟩
      · exact q g1 g2
      · cases z
  | .cmp o a b, ρ, v, hp, h => by
    simp only [pe] at h
    obtain ⟨x, e1, h⟩ := Option.bind_eq_some_iff.mp h
    obtain ⟨y, e2, h⟩ := Option.bind_eq_some_iff.mp h
    obtain ⟨k, e3, rfl⟩ := Option.map_eq_some_iff.mp h
    obtain ⟨f1, _⟩ := pe_ok F a ρ x hp e1
    obtain ⟨f2, _⟩ := pe_ok F b ρ y hp e2
    exact ⟨fun S => by rw [ev]; simp only [f1, f2, Res.bind, cmp_f e3 S, Res.opt], rfl⟩
  | .cmp2 o o' a b c, ρ, v, hp, h => by
    simp only [pe] at h
    obtain ⟨x, e1, h⟩ := Option.bind_eq_some_iff.mp h
    obtain ⟨y, e2, h⟩ := Option.bind_eq_some_iff.mp h
    obtain ⟨k, e3, h⟩ := Option.bind_eq_some_iff.mp h
    obtain ⟨f1, _⟩ := pe_ok F a ρ x hp e1
    obtain ⟨f2, _⟩ := pe_ok F b ρ y hp e2
    cases k with
    | false =>
      simp only [Bool.false_eq_true, if_false, Option.some.injEq] at h
      subst h
      exact ⟨fun S => by rw [ev]; simp only [f1, f2, Res.bind, cmp_f e3 S, Res.opt, Bool.false_eq_true, if_false], rfl⟩
    | true =>
      simp only [if_true] at h
      obtain ⟨z, e4, h⟩ := Option.bind_eq_some_iff.mp h
      obtain ⟨k', e5, rfl⟩ := Option.map_eq_some_iff.mp h
      obtain ⟨f4, _⟩ := pe_ok F c ρ z hp e4
      exact ⟨fun S => by rw [ev]; simp only [f1, f2, Res.bind, cmp_f e3 S, Res.opt, if_true, f4, cmp_f e5 S], rfl⟩
  | .and a b, ρ, v, hp, h => by
    simp only [pe] at h
    obtain ⟨x, e1, h⟩ := Option.bind_eq_some_iff.mp h
    obtain ⟨f1, _⟩ := pe_ok F a ρ x hp e1
    split at h
    · obtain ⟨f2, g2⟩ := pe_ok F b ρ v hp h
      exact ⟨fun S => by rw [ev]; simp only [f1, Res.bind, f2], g2⟩
    · cases h
      exact ⟨fun S => by rw [ev]; simp only [f1, Res.bind], rfl⟩
    · cases h
  | .or a b, ρ, v, hp, h => by
    simp only [pe] at h
    obtain ⟨x, e1, h⟩ := Option.bind_eq_some_iff.mp h
    obtain ⟨f1, _⟩ := pe_ok F a ρ x hp e1
    split at h
    · obtain ⟨f2, g2⟩ := pe_ok F b ρ v hp h
      exact ⟨fun S => by rw [ev]; simp only [f1, Res.bind, f2], g2⟩
    · cases h
      exact ⟨fun S => by rw [ev]; simp only [f1, Res.bind], rfl⟩
    · cases h
  | .not a, ρ, v, hp, h => by
    simp only [pe] at h
    obtain ⟨x, e1, h⟩ := Option.bind_eq_some_iff.mp h
    obtain ⟨k, e2, rfl⟩ := Option.map_eq_some_iff.mp h
    obtain ⟨f1, _⟩ := pe_ok F a ρ x hp e1
    exact ⟨fun S => by rw [ev]; simp only [f1, Res.bind, truth_f e2 S, Res.opt], rfl⟩
  | .neg a, ρ, v, hp, h => by
    simp only [pe] at h
    obtain ⟨x, e1, h⟩ := Option.bind_eq_some_iff.mp h
    obtain ⟨f1, _⟩ := pe_ok F a ρ x hp e1
    split at h
    · cases h
      exact ⟨fun S => by rw [ev]; simp only [f1, Res.bind], rfl⟩
    · cases h
  | .tup es, ρ, v, hp, h => by
    simp only [pe] at h
    obtain ⟨vs, e1, h⟩ := Option.bind_eq_some_iff.mp h
    obtain ⟨f1, g1⟩ := pes_ok F es ρ vs hp e1
    split at h
    · rename_i hl
      cases h
      exact ⟨fun S => by rw [ev]; simp only [f1, Res.bind]; exact need_true (decide_eq_true hl), by simp only [pur]; exact g1⟩
    · cases h
  | .ix a i, ρ, v, hp, h => by
    simp only [pe] at h
    obtain ⟨x, e1, h⟩ := Option.bind_eq_some_iff.mp h
    obtain ⟨y, e2, h⟩ := Option.bind_eq_some_iff.mp h
    obtain ⟨f1, g1⟩ := pe_ok F a ρ x hp e1
    obtain ⟨f2, _⟩ := pe_ok F i ρ y hp e2
    exact ⟨fun S => by rw [ev]; simp only [f1, f2, Res.bind, (ix_f h S).1, Res.opt], (ix_f h []).2 g1⟩
  | .bi b es, ρ, v, hp, h => by
    simp only [pe] at h
    obtain ⟨vs, e1, h⟩ := Option.bind_eq_some_iff.mp h
    obtain ⟨f1, g1⟩ := pes_ok F es ρ vs hp e1
    exact ⟨fun S => by rw [ev]; simp only [f1, Res.bind]; exact (bqP_f h g1 S).1, (bqP_f h g1 []).2⟩
  | .isi e ks, ρ, v, hp, h => by
    simp only [pe] at h
    obtain ⟨x, e1, h⟩ := Option.bind_eq_some_iff.mp h
    obtain ⟨k, e2, rfl⟩ := Option.map_eq_some_iff.mp h
    obtain ⟨f1, _⟩ := pe_ok F e ρ x hp e1
    exact ⟨fun S => by rw [ev]; simp only [f1, Res.bind, isi_f e2 S, Res.opt], rfl⟩
  | .fz e, ρ, v, hp, h => by
    simp only [pe] at h
    obtain ⟨f, g⟩ := pa_ok F e ρ v hp h
    exact ⟨fun S => by rw [ev]; exact f S, g⟩
  | .glo _ _, _, _, _, h => by simp [pe] at h
  | .ife _ _ _, _, _, _, h => by simp [pe] at h
  | .lst _, _, _, _, h => by simp [pe] at h
  | .dnew _, _, _, _, h => by simp [pe] at h
  | .sl _ _ _, _, _, _, h => by simp [pe] at h
  | .rev _, _, _, _, h => by simp [pe] at h
  | .fld _ _, _, _, _, h => by simp [pe] at h
  | .call _ _, _, _, _, h => by simp [pe] at h
  | .make _ _ _ _, _, _, _, h => by simp [pe] at h
  | .meth _ _ _ _, _, _, _, h => by simp [pe] at h
  | .lm _ _ _, _, _, _, h => by simp [pe] at h
  | .comp _ _ _ _ _, _, _, _, h => by simp [pe] at h
  | .gen _ _ _ _ _, _, _, _, h => by simp [pe] at h
  | .dcomp _ _ _ _ _ _, _, _, _, h => by simp [pe] at h
  | .dcomp2 _ _ _ _ _ _ _ _, _, _, _, h => by simp [pe] at h
theorem pa_ok (F : FP cf pf) : ∀ (e : CE) (ρ : Env) (v : PV), purE ρ → pa pf e ρ = some v → (∀ S, fzR S (ev cf e ρ S) = .ok v S) ∧ pur v = true
  | .lst es, ρ, v, hp, h => by
    simp only [pa] at h
    obtain ⟨vs, e1, h⟩ := Option.bind_eq_some_iff.mp h
    obtain ⟨f1, g1⟩ := pes_ok F es ρ vs hp e1
    split at h
    · rename_i hl
      cases h
      exact ⟨fun S => by rw [ev]; simp only [f1, Res.bind]; rw [need_true (decide_eq_true hl)]; exact frz_new g1, by simp only [pur]; exact g1⟩
    · cases h
  | .bop o a b, ρ, v, hp, h => by
    simp only [pa] at h
    obtain ⟨x, e1, h⟩ := Option.bind_eq_some_iff.mp h
    obtain ⟨y, e2, h⟩ := Option.bind_eq_some_iff.mp h
    obtain ⟨f1, g1⟩ := pe_ok F a ρ x hp e1
    obtain ⟨f2, g2⟩ := pe_ok F b ρ y hp e2
    unfold bopA at h
    split at h
    · rename_i w hw
      cases h
      have k : ∀ S, _ := fun S => bop_f hw S
      refine ⟨fun S => ?_, ?_⟩
      · rw [ev]; simp only [f1, f2, Res.bind]
        rcases k S with ⟨_, q, z⟩ | ⟨xs, z, _⟩
        · rw [q]; exact frz_pur (z g1 g2)
        · cases z
      · rcases k [] with ⟨_, _, q⟩ | ⟨xs, z, _⟩
        · exact q g1 g2
        · cases z
    · rename_i w xs hw
      cases h
      have k : ∀ S, _ := fun S => bop_f hw S
      refine ⟨fun S => ?_, ?_⟩
      · rw [ev]; simp only [f1, f2, Res.bind]
        rcases k S with ⟨z, _⟩ | ⟨ys, z, q, r⟩
        · cases z
        · cases z; rw [q]; exact frz_new (r g1 g2)
      · rcases k [] with ⟨z, _⟩ | ⟨ys, z, q, r⟩
        · cases z
        · cases z; simp only [pur]; exact r g1 g2
    · cases h
  | .sl a lo hi, ρ, v, hp, h => by
    simp only [pa] at h
    obtain ⟨x, e1, h⟩ := Option.bind_eq_some_iff.mp h
    obtain ⟨l, e2, h⟩ := Option.bind_eq_some_iff.mp h
    obtain ⟨u, e3, h⟩ := Option.bind_eq_some_iff.mp h
    obtain ⟨f1, g1⟩ := pe_ok F a ρ x hp e1
    have f2 := po_ok F lo ρ l hp e2
    have f3 := po_ok F hi ρ u hp e3
    obtain ⟨q, r⟩ := slA_f h g1
    exact ⟨fun S => by rw [ev]; simp only [f1, f2, f3, Res.bind]; exact q S, r⟩
  | .rev a, ρ, v, hp, h => by
    simp only [pa] at h
    obtain ⟨x, e1, h⟩ := Option.bind_eq_some_iff.mp h
    obtain ⟨xs, e4, rfl⟩ := Option.map_eq_some_iff.mp h
    obtain ⟨f1, g1⟩ := pe_ok F a ρ x hp e1
    have q : purs xs.reverse = true := purs_iff.mpr fun z hz => purs_iff.mp ((lst_f e4 []).2 g1) z (List.mem_reverse.mp hz)
    refine ⟨fun S => ?_, by simp only [pur]; exact q⟩
    rw [ev]; simp only [f1, Res.bind, revV, (lst_f e4 S).1, Res.opt]
    exact frz_new q
  | .bi b es, ρ, v, hp, h => by
    simp only [pa] at h
    obtain ⟨vs, e1, h⟩ := Option.bind_eq_some_iff.mp h
    obtain ⟨f1, g1⟩ := pes_ok F es ρ vs hp e1
    refine ⟨fun S => ?_, ?_⟩
    · rw [ev]; simp only [f1, Res.bind]
      rcases bqA_f h g1 S with ⟨q, r⟩ | ⟨xs, rfl, q, r⟩
      · rw [q]; exact frz_pur r
      · rw [q]; exact frz_new r
    · rcases bqA_f h g1 [] with ⟨q, r⟩ | ⟨xs, rfl, q, r⟩
      · exact r
      · simp only [pur]; exact r
  | .call f es, ρ, v, hp, h => by
    simp only [pa] at h
    obtain ⟨vs, e1, h⟩ := Option.bind_eq_some_iff.mp h
    obtain ⟨f1, g1⟩ := pes_ok F es ρ vs hp e1
    obtain ⟨q, r⟩ := F f vs v g1 h
    exact ⟨fun S => by rw [ev]; simp only [f1, Res.bind]; exact r S, q⟩
  | .comp elt own tg it cond, ρ, v, hp, h => by
    simp only [pa] at h
    obtain ⟨xs, e1, h⟩ := Option.bind_eq_some_iff.mp h
    obtain ⟨f1, g1⟩ := pi_ok F it ρ xs hp e1
    split at h
    · rename_i hl
      obtain ⟨ys, e2, rfl⟩ := Option.map_eq_some_iff.mp h
      have key : ∀ S, ∃ J : Itm, evi cf it ρ S = .ok J S ∧ compL S.length J.same (fun x S => evt cf tg x (wipe ρ own) S) (fun ρ S => evb cf cond ρ S) (fun ρ S => ev cf elt ρ S) J.xs (S ++ [.lst []]) = .ok (.loc S.length) (S ++ [.lst ([] ++ ys)]) ∧ purs ys = true := fun S => by
        obtain ⟨J, q1, q2, q3⟩ := f1 S
        refine ⟨J, q1, ?_⟩
        rw [q2]
        exact pcomp_ok q3 (fun x ρ' hx e => pt_ok F tg x (wipe ρ own) ρ' (hp.wipe own) hx e) (fun ρ' b hp' e => pb_ok F cond ρ' b hp' e) (fun ρ' w hp' e => pe_ok F elt ρ' w hp' e) S xs ys [] g1 rfl (by simpa using hl) e2
      obtain ⟨_, _, _, q⟩ := key []
      refine ⟨fun S => ?_, by simp only [pur]; exact q⟩
      obtain ⟨J, q1, q2, _⟩ := key S
      rw [ev]; simp only [q1, Res.bind, q2, List.nil_append]
      exact frz_new q
    · cases h
  | .cst _, _, _, _, h => by simp [pa] at h
  | .var _, _, _, _, h => by simp [pa] at h
  | .glo _ _, _, _, _, h => by simp [pa] at h
  | .pow _ _, _, _, _, h => by simp [pa] at h
  | .cmp _ _ _, _, _, _, h => by simp [pa] at h
  | .cmp2 _ _ _ _ _, _, _, _, h => by simp [pa] at h
  | .and _ _, _, _, _, h => by simp [pa] at h
  | .or _ _, _, _, _, h => by simp [pa] at h
  | .not _, _, _, _, h => by simp [pa] at h
  | .neg _, _, _, _, h => by simp [pa] at h
  | .ife _ _ _, _, _, _, h => by simp [pa] at h
  | .tup _, _, _, _, h => by simp [pa] at h
  | .dnew _, _, _, _, h => by simp [pa] at h
  | .ix _ _, _, _, _, h => by simp [pa] at h
  | .fld _ _, _, _, _, h => by simp [pa] at h
  | .make _ _ _ _, _, _, _, h => by simp [pa] at h
  | .meth _ _ _ _, _, _, _, h => by simp [pa] at h
  | .isi _ _, _, _, _, h => by simp [pa] at h
  | .lm _ _ _, _, _, _, h => by simp [pa] at h
  | .gen _ _ _ _ _, _, _, _, h => by simp [pa] at h
  | .dcomp _ _ _ _ _ _, _, _, _, h => by simp [pa] at h
  | .dcomp2 _ _ _ _ _ _ _ _, _, _, _, h => by simp [pa] at h
  | .fz _, _, _, _, h => by simp [pa] at h
theorem pes_ok (F : FP cf pf) : ∀ (es : CEs) (ρ : Env) (vs : List PV), purE ρ → pes pf es ρ = some vs → (∀ S, evs cf es ρ S = .ok vs S) ∧ purs vs = true
  | .nil, ρ, vs, hp, h => by
    simp only [pes, Option.some.injEq] at h
    subst h
    exact ⟨fun S => by rw [evs], rfl⟩
  | .cons e es, ρ, vs, hp, h => by
    simp only [pes] at h
    obtain ⟨v, e1, h⟩ := Option.bind_eq_some_iff.mp h
    obtain ⟨ws, e2, rfl⟩ := Option.map_eq_some_iff.mp h
    obtain ⟨f1, g1⟩ := pe_ok F e ρ v hp e1
    obtain ⟨f2, g2⟩ := pes_ok F es ρ ws hp e2
    exact ⟨fun S => by rw [evs]; simp only [f1, f2, Res.bind], by simp [purs, g1, g2]⟩
theorem po_ok (F : FP cf pf) : ∀ (o : CEo) (ρ : Env) (i : Option Int), purE ρ → po pf o ρ = some i → ∀ S, evo cf o ρ S = .ok i S
  | .none, ρ, i, hp, h => by
    simp only [po, Option.some.injEq] at h
    subst h
    exact fun S => by rw [evo]
  | .some e, ρ, i, hp, h => by
    simp only [po] at h
    obtain ⟨v, e1, h⟩ := Option.bind_eq_some_iff.mp h
    obtain ⟨f1, g1⟩ := pe_ok F e ρ v hp e1
    split at h
    · cases h
      exact fun S => by rw [evo]; simp only [f1, Res.bind]
    · cases h
theorem pb_ok (F : FP cf pf) : ∀ (o : CEo) (ρ : Env) (b : Bool), purE ρ → pb pf o ρ = some b → ∀ S, evb cf o ρ S = .ok b S
  | .none, ρ, b, hp, h => by
    simp only [pb, Option.some.injEq] at h
    subst h
    exact fun S => by rw [evb]
  | .some e, ρ, b, hp, h => by
    simp only [pb] at h
    obtain ⟨v, e1, h⟩ := Option.bind_eq_some_iff.mp h
    obtain ⟨f1, g1⟩ := pe_ok F e ρ v hp e1
    exact fun S => by rw [evb]; simp only [f1, Res.bind, truth_f h S, Res.opt]
theorem pi_ok (F : FP cf pf) : ∀ (i : CI) (ρ : Env) (xs : List PV), purE ρ → pi pf i ρ = some xs → (∀ S, ∃ J : Itm, evi cf i ρ S = .ok J S ∧ J.xs = xs ∧ ∀ S', J.same S' = true) ∧ purs xs = true
  | .seq e, ρ, xs, hp, h => by
    simp only [pi] at h
    obtain ⟨v, e1, h⟩ := Option.bind_eq_some_iff.mp h
    obtain ⟨f1, g1⟩ := pe_ok F e ρ v hp e1
    refine ⟨fun S => ⟨⟨xs, fun S' => decide (seqOf S' v = some xs)⟩, ?_, rfl, fun S' => decide_eq_true (seq_f h S').1⟩, (seq_f h []).2 g1⟩
    rw [evi]; simp only [f1, Res.bind, seqI, keys_pur g1, (seq_f h S).1, Option.map_some, Res.opt]
  | .rng1 e, ρ, xs, hp, h => by
    simp only [pi] at h
    obtain ⟨v, e1, h⟩ := Option.bind_eq_some_iff.mp h
    obtain ⟨f1, g1⟩ := pe_ok F e ρ v hp e1
    split at h
    · rename_i n
      split at h
      · rename_i hk
        cases h
        refine ⟨fun S => ⟨_, by rw [evi]; simp only [f1, Res.bind]; exact need_true hk, rfl, fun _ => rfl⟩, ?_⟩
        exact purs_iff.mpr fun x hx => by obtain ⟨i, _, rfl⟩ := List.mem_map.mp hx; rfl
      · cases h
    · cases h
  | .rng2 a b, ρ, xs, hp, h => by
    simp only [pi] at h
    obtain ⟨v, e1, h⟩ := Option.bind_eq_some_iff.mp h
    obtain ⟨u, e2, h⟩ := Option.bind_eq_some_iff.mp h
    obtain ⟨f1, g1⟩ := pe_ok F a ρ v hp e1
    obtain ⟨f2, g2⟩ := pe_ok F b ρ u hp e2
    split at h
    · split at h
      · rename_i hk
        cases h
        refine ⟨fun S => ⟨_, by rw [evi]; simp only [f1, f2, Res.bind]; exact need_true hk, rfl, fun _ => rfl⟩, ?_⟩
        exact purs_iff.mpr fun x hx => by obtain ⟨i, _, rfl⟩ := List.mem_map.mp hx; rfl
      · cases h
    · cases h
  | .enum _, _, _, _, h => by simp [pi] at h
  | .zip _ _, _, _, _, h => by simp [pi] at h
theorem pt_ok (F : FP cf pf) : ∀ (t : CT) (v : PV) (ρ ρ' : Env), purE ρ → pur v = true → pt pf t v ρ = some ρ' → (∀ S, evt cf t v ρ S = some (ρ', S)) ∧ purE ρ'
  | .var i, v, ρ, ρ', hp, hv, h => by
    simp only [pt, Option.some.injEq] at h
    subst h
    exact ⟨fun S => by rw [evt], hp.set hv⟩
  | .tup ts, v, ρ, ρ', hp, hv, h => by
    simp only [pt] at h
    obtain ⟨vs, e1, h⟩ := Option.bind_eq_some_iff.mp h
    obtain ⟨f, g⟩ := pts_ok F ts vs ρ ρ' hp ((seq_f e1 []).2 hv) h
    exact ⟨fun S => by rw [evt]; simp only [(seq_f e1 S).1]; exact f S, g⟩
  | .fld _ _, _, _, _, _, _, h => by simp [pt] at h
  | .sub _ _, _, _, _, _, _, h => by simp [pt] at h
theorem pts_ok (F : FP cf pf) : ∀ (t : CTs) (vs : List PV) (ρ ρ' : Env), purE ρ → purs vs = true → pts pf t vs ρ = some ρ' → (∀ S, evts cf t vs ρ S = some (ρ', S)) ∧ purE ρ'
  | .nil, vs, ρ, ρ', hp, hv, h => by
    simp only [pts] at h
    split at h
    · cases h
      exact ⟨fun S => by rw [evts], hp⟩
    · cases h
  | .cons t ts, vs, ρ, ρ', hp, hv, h => by
    simp only [pts] at h
    split at h
    · cases h
    · rename_i v r
      simp only [purs, Bool.and_eq_true] at hv
      obtain ⟨ρ1, e1, h⟩ := Option.bind_eq_some_iff.mp h
      obtain ⟨f1, g1⟩ := pt_ok F t v ρ ρ1 hp hv.1 e1
      obtain ⟨f2, g2⟩ := pts_ok F ts r ρ1 ρ' g1 hv.2 h
      exact ⟨fun S => by rw [evts]; simp only [f1]; exact f2 S, g2⟩
end
end
end PM
end
section
namespace PM
open PySem
def PR.RS (S : Sto) : PR → RS
  | .nx ρ => .nx ρ S
  | .ret v => .ret v S
def PR.ok : PR → Prop
  | .nx ρ => purE ρ
  | .ret v => pur v = true
section
variable {cf : Cf} {pf : Nat → List PV → Option PV}
theorem seq_ok {q : PR} {r : PR} {f : Env → Option PR} {g : Env → Sto → RS} (hq : q.ok) (h : q.seq f = some r) (hf : ∀ ρ r, purE ρ → f ρ = some r → (∀ S, g ρ S = r.RS S) ∧ r.ok) : (∀ S, (q.RS S).seq g = r.RS S) ∧ r.ok := by
  cases q with
  | nx ρ => exact hf ρ r hq h
  | ret v =>
    simp only [PR.seq, Option.some.injEq] at h
    subst h
    exact ⟨fun S => rfl, hq⟩
theorem pfor_ok {asg : PV → Env → Option Env} {body : Env → Option PR} {same : Sto → Bool} {asg' : PV → Env → Sto → RT} {body' : Env → Sto → RS} (hs : ∀ S, same S = true)
    (h1 : ∀ x ρ ρ', purE ρ → pur x = true → asg x ρ = some ρ' → (∀ S, asg' x ρ S = some (ρ', S)) ∧ purE ρ') (h2 : ∀ ρ r, purE ρ → body ρ = some r → (∀ S, body' ρ S = r.RS S) ∧ r.ok) :
    ∀ (xs : List PV) (ρ : Env) (r : PR), purs xs = true → purE ρ → pfor asg body xs ρ = some r → (∀ S, forL same asg' body' xs ρ S = r.RS S) ∧ r.ok
  | [], ρ, r, _, hp, h => by
    simp only [pfor, Option.some.injEq] at h
    subst h
    exact ⟨fun S => by simp only [forL, hs]; rfl, hp⟩
  | x :: xs, ρ, r, hx, hp, h => by
    simp only [purs, Bool.and_eq_true] at hx
    simp only [pfor] at h
    obtain ⟨ρ', e1, h⟩ := Option.bind_eq_some_iff.mp h
    obtain ⟨q, e2, h⟩ := Option.bind_eq_some_iff.mp h
    obtain ⟨f1, g1⟩ := h1 x ρ ρ' hp hx.1 e1
    obtain ⟨f2, g2⟩ := h2 ρ' q g1 e2
    cases q with
    | nx ρ2 =>
      obtain ⟨f3, g3⟩ := pfor_ok hs h1 h2 xs ρ2 r hx.2 g2 h
      exact ⟨fun S => by simp only [forL, hs, f1, f2]; exact f3 S, g3⟩
    | ret v =>
      simp only [PR.seq, Option.some.injEq] at h
      subst h
      exact ⟨fun S => by simp only [forL, hs, f1, f2]; rfl, g2⟩
theorem pwh_ok {c : Env → Option Bool} {body : Env → Option PR} {c' : Env → Sto → Res Bool} {body' : Env → Sto → RS} (h1 : ∀ ρ b, purE ρ → c ρ = some b → ∀ S, c' ρ S = .ok b S) (h2 : ∀ ρ r, purE ρ → body ρ = some r → (∀ S, body' ρ S = r.RS S) ∧ r.ok) :
    ∀ (n : Nat) (ρ : Env) (r : PR), purE ρ → pwh c body n ρ = some r → (∀ S, whL c' body' n ρ S = r.RS S) ∧ r.ok
  | 0, ρ, r, hp, h => by simp [pwh] at h
  | n + 1, ρ, r, hp, h => by
    simp only [pwh] at h
    obtain ⟨b, e1, h⟩ := Option.bind_eq_some_iff.mp h
    have f1 := h1 ρ b hp e1
    cases b with
    | false =>
      simp only [Bool.false_eq_true, if_false, Option.some.injEq] at h
      subst h
      exact ⟨fun S => by simp only [whL, f1]; rfl, hp⟩
    | true =>
      simp only [if_true] at h
      obtain ⟨q, e2, h⟩ := Option.bind_eq_some_iff.mp h
      obtain ⟨f2, g2⟩ := h2 ρ q hp e2
      cases q with
      | nx ρ2 =>
        obtain ⟨f3, g3⟩ := pwh_ok h1 h2 n ρ2 r g2 h
        exact ⟨fun S => by simp only [whL, f1, f2]; exact f3 S, g3⟩
      | ret v =>
        simp only [PR.seq, Option.some.injEq] at h
        subst h
        exact ⟨fun S => by simp only [whL, f1, f2]; rfl, g2⟩
theorem par_ok : ∀ (is : List Nat) (vs : List PV) (ρ ρ' : Env), purE ρ → purs vs = true → par2 is vs ρ = some ρ' → purE ρ'
  | [], [], ρ, ρ', hp, _, h => by simp only [par2, Option.some.injEq] at h; subst h; exact hp
  | i :: is, v :: vs, ρ, ρ', hp, hv, h => by
    simp only [purs, Bool.and_eq_true] at hv
    simp only [par2] at h
    exact par_ok is vs _ ρ' (hp.set hv.1) hv.2 h
  | [], _ :: _, _, _, _, _, h => by simp [par2] at h
  | _ :: _, [], _, _, _, _, h => by simp [par2] at h
theorem aug_f {o : BOp} {x y z : PV} (h : augV o [] x y = .ok z []) (S : Sto) : augV o S x y = .ok z S ∧ (pur x = true → pur y = true → pur z = true) := by
  unfold augV at h ⊢
  split at h
  · rcases bop_f h S with ⟨_, q, r⟩ | ⟨xs, e, _⟩
    · exact ⟨q, r⟩
    · cases e
  · cases h
theorem pB_ok (F : FP cf pf) (e : CE) (ρ : Env) (b : Bool) (hp : purE ρ) (h : pB pf e ρ = some b) (S : Sto) : evB cf e ρ S = .ok b S := by
  unfold pB at h
  obtain ⟨v, e1, h⟩ := Option.bind_eq_some_iff.mp h
  obtain ⟨f1, g1⟩ := pe_ok F e ρ v hp e1
  unfold evB
  simp only [f1, Res.bind, truth_f h S, Res.opt]
theorem px_ok (F : FP cf pf) : ∀ (s : CSs) (ρ : Env) (r : PR), purE ρ → px pf s ρ = some r → (∀ S, ex cf s ρ S = r.RS S) ∧ r.ok
  | .nil, ρ, r, hp, h => by
    simp only [px, Option.some.injEq] at h
    subst h
    exact ⟨fun S => by rw [ex]; rfl, hp⟩
  | .pass s, ρ, r, hp, h => by
    simp only [px] at h
    obtain ⟨f, g⟩ := px_ok F s ρ r hp h
    exact ⟨fun S => by rw [ex]; exact f S, g⟩
  | .asg t e s, ρ, r, hp, h => by
    simp only [px] at h
    obtain ⟨v, e1, h⟩ := Option.bind_eq_some_iff.mp h
    obtain ⟨ρ', e2, h⟩ := Option.bind_eq_some_iff.mp h
    obtain ⟨f1, g1⟩ := pe_ok F e ρ v hp e1
    obtain ⟨f2, g2⟩ := pt_ok F t v ρ ρ' hp g1 e2
    obtain ⟨f3, g3⟩ := px_ok F s ρ' r g2 h
    exact ⟨fun S => by rw [ex]; simp only [f1, RS.fst, f2]; exact f3 S, g3⟩
  | .par is es s, ρ, r, hp, h => by
    simp only [px] at h
    obtain ⟨vs, e1, h⟩ := Option.bind_eq_some_iff.mp h
    obtain ⟨ρ', e2, h⟩ := Option.bind_eq_some_iff.mp h
    obtain ⟨f1, g1⟩ := pes_ok F es ρ vs hp e1
    obtain ⟨f3, g3⟩ := px_ok F s ρ' r (par_ok is vs ρ ρ' hp g1 e2) h
    exact ⟨fun S => by rw [ex]; simp only [f1, RS.fst, e2]; exact f3 S, g3⟩
  | .aug i o e s, ρ, r, hp, h => by
    simp only [px] at h
    obtain ⟨x, e0, h⟩ := Option.bind_eq_some_iff.mp h
    obtain ⟨y, e1, h⟩ := Option.bind_eq_some_iff.mp h
    obtain ⟨z, e2, h⟩ := Option.bind_eq_some_iff.mp h
    obtain ⟨f1, g1⟩ := pe_ok F e ρ y hp e1
    have e2 := okP_is e2
    split at e0
    · rename_i w ew
      cases e0
      obtain ⟨f3, g3⟩ := px_ok F s _ r (hp.set ((aug_f e2 []).2 (hp i _ ew) g1)) h
      exact ⟨fun S => by rw [ex]; simp only [ew, f1, Res.bind, (aug_f e2 S).1, RS.fst]; exact f3 S, g3⟩
    · cases e0
  | .ex e s, ρ, r, hp, h => by
    simp only [px] at h
    obtain ⟨v, e1, h⟩ := Option.bind_eq_some_iff.mp h
    obtain ⟨f1, g1⟩ := pe_ok F e ρ v hp e1
    obtain ⟨f3, g3⟩ := px_ok F s ρ r hp h
    exact ⟨fun S => by rw [ex]; simp only [f1, RS.fst]; exact f3 S, g3⟩
  | .ret e, ρ, r, hp, h => by
    simp only [px] at h
    obtain ⟨v, e1, rfl⟩ := Option.map_eq_some_iff.mp h
    obtain ⟨f1, g1⟩ := pe_ok F e ρ v hp e1
    exact ⟨fun S => by rw [ex]; simp only [f1, RS.fst]; rfl, g1⟩
  | .retN, ρ, r, hp, h => by
    simp only [px, Option.some.injEq] at h
    subst h
    exact ⟨fun S => by rw [ex]; rfl, rfl⟩
  | .iff c a b s, ρ, r, hp, h => by
    simp only [px] at h
    obtain ⟨k, e1, h⟩ := Option.bind_eq_some_iff.mp h
    obtain ⟨q, e2, h⟩ := Option.bind_eq_some_iff.mp h
    have f1 := fun S => pB_ok F c ρ k hp e1 S
    have ab : (∀ S, (if k = true then ex cf a ρ S else ex cf b ρ S) = q.RS S) ∧ q.ok := by
      cases k with
      | true =>
        simp only [if_true] at e2 ⊢
        exact px_ok F a ρ q hp e2
      | false =>
        simp only [Bool.false_eq_true, if_false] at e2 ⊢
        exact px_ok F b ρ q hp e2
    obtain ⟨f3, g3⟩ := seq_ok (g := ex cf s) ab.2 h fun ρ' r' hp' e => px_ok F s ρ' r' hp' e
    exact ⟨fun S => by rw [ex]; simp only [f1, RS.fst, ab.1]; exact f3 S, g3⟩
  | .for t it body s, ρ, r, hp, h => by
    simp only [px] at h
    obtain ⟨xs, e1, h⟩ := Option.bind_eq_some_iff.mp h
    obtain ⟨q, e2, h⟩ := Option.bind_eq_some_iff.mp h
    obtain ⟨f1, g1⟩ := pi_ok F it ρ xs hp e1
    have key : ∀ same : Sto → Bool, (∀ S, same S = true) → (∀ S, forL same (evt cf t) (ex cf body) xs ρ S = q.RS S) ∧ q.ok := fun same hs =>
      pfor_ok hs (fun x ρ ρ' hp hx e => pt_ok F t x ρ ρ' hp hx e) (fun ρ' r' hp' e => px_ok F body ρ' r' hp' e) xs ρ q g1 hp e2
    obtain ⟨f3, g3⟩ := seq_ok (g := ex cf s) (key (fun _ => true) fun _ => rfl).2 h fun ρ' r' hp' e => px_ok F s ρ' r' hp' e
    refine ⟨fun S => ?_, g3⟩
    obtain ⟨J, q1, q2, q3⟩ := f1 S
    rw [ex]; simp only [q1, RS.fst, q2, (key J.same q3).1]; exact f3 S
  | .wh n c body s, ρ, r, hp, h => by
    simp only [px] at h
    obtain ⟨q, e2, h⟩ := Option.bind_eq_some_iff.mp h
    obtain ⟨f2, g2⟩ := pwh_ok (c' := evB cf c) (body' := ex cf body) (fun ρ b hp e => pB_ok F c ρ b hp e) (fun ρ' r' hp' e => px_ok F body ρ' r' hp' e) n ρ q hp e2
    obtain ⟨f3, g3⟩ := seq_ok (g := ex cf s) g2 h fun ρ' r' hp' e => px_ok F s ρ' r' hp' e
    exact ⟨fun S => by rw [ex]; simp only [f2]; exact f3 S, g3⟩
  | .raise _, _, _, _, h => by simp [px] at h
  | .try1 _ _ _ _ _, _, _, _, h => by simp [px] at h
end
theorem prun_ok {tab : Nat → Option Fn} {sub : Nat → Nat → Bool} {ov : Nat → Option (List PV → Option PV)}
    (hov : ∀ k f g vs v, ov f = some g → purs vs = true → g vs = some v → (FP ⟨run tab sub k, sub⟩ (prun tab ov k)) → pur v = true ∧ ∀ S, fzR S (run tab sub (k + 1) f vs S) = .ok v S) : ∀ k, FP ⟨run tab sub k, sub⟩ (prun tab ov k)
  | 0 => fun f vs v _ h => by simp [prun] at h
  | k + 1 => fun f vs v hv h => by
    have F := prun_ok hov k
    simp only [prun] at h
    split at h
    · rename_i g hg
      exact hov k f g vs v hg hv h F
    · split at h
      · rename_i d hd
        split at h
        · rename_i hl
          obtain ⟨q, e1, e2⟩ := Option.map_eq_some_iff.mp h
          obtain ⟨f1, g1⟩ := px_ok F d.body _ q (purE.start hv d.n) e1
          have e3 : ∀ S, run tab sub (k + 1) f vs S = .ok v S := fun S => by
            unfold run
            rw [hd]
            show runF _ d vs S = _
            unfold runF
            rw [need_true (decide_eq_true hl), f1]
            cases q with
            | nx ρ => simp only at e2; subst e2; rfl
            | ret w => simp only at e2; subst e2; rfl
          have pv : pur v = true := by
            cases q with
            | nx ρ => simp only at e2; subst e2; rfl
            | ret w => simp only at e2; subst e2; exact g1
          refine ⟨pv, fun S => ?_⟩
          show fzR S (run tab sub (k + 1) f vs S) = _
          rw [e3]
          exact frz_pur pv
        · cases h
      · cases h
end PM
end
section
namespace PM
open PySem
theorem pwh_count {c : Env → Option Bool} {body : Env → Option PR} {ρ : Nat → Env} {N : Nat} (hc : ∀ i, i < N → c (ρ i) = some true ∧ body (ρ i) = some (.nx (ρ (i + 1)))) (he : c (ρ N) = some false) :
    ∀ (m i fuel : Nat), i + m = N → m < fuel → pwh c body fuel (ρ i) = some (.nx (ρ N))
  | 0, i, fuel + 1, h, _ => by
    have h : i = N := h
    subst h
    simp [pwh, he]
  | m + 1, i, fuel + 1, h, hf => by
    obtain ⟨h1, h2⟩ := hc i (by omega)
    simp only [pwh, h1, Option.bind_some, if_true, h2, PR.seq]
    exact pwh_count hc he m (i + 1) fuel (by omega) (by omega)
theorem pfor_inv {asg : PV → Env → Option Env} {body : Env → Option PR} {I : Nat → Env → Prop} : ∀ (xs : List PV) (j : Nat) (ρ : Env),
    (∀ i x ρ, xs[i]? = some x → I (j + i) ρ → ∃ ρ', asg x ρ = some ρ' ∧ ∃ ρ2, body ρ' = some (.nx ρ2) ∧ I (j + i + 1) ρ2) → I j ρ → ∃ ρ', pfor asg body xs ρ = some (.nx ρ') ∧ I (j + xs.length) ρ'
  | [], j, ρ, _, h0 => ⟨ρ, rfl, h0⟩
  | x :: xs, j, ρ, h, h0 => by
    obtain ⟨ρ1, e1, ρ2, e2, i2⟩ := h 0 x ρ rfl h0
    obtain ⟨ρ3, e3, i3⟩ := pfor_inv (I := I) xs (j + 1) ρ2 (fun i y ρ hy hi => by
      obtain ⟨a, b, c, d, f⟩ := h (i + 1) y ρ (by simpa using hy) (by rw [show j + (i + 1) = j + 1 + i by omega]; exact hi)
      exact ⟨a, b, c, d, by rw [show j + 1 + i + 1 = j + (i + 1) + 1 by omega]; exact f⟩) i2
    refine ⟨ρ3, ?_, by rw [List.length_cons, show j + (xs.length + 1) = j + 1 + xs.length by omega]; exact i3⟩
    simp only [pfor, e1, Option.bind_some, e2, PR.seq]
    exact e3
theorem rngL_at {lo hi : Int} {i : Nat} (h : i < (hi - lo).toNat) : (rngL lo hi)[i]? = some (.int (lo + i)) := by
  unfold rngL
  rw [List.getElem?_map, List.getElem?_range h]
  rfl
theorem pcomp_map {asg : PV → Option Env} {cond : Env → Option Bool} {elt : Env → Option PV} {g : PV → PV} : ∀ {xs : List PV}, (∀ x ∈ xs, ∃ ρ, asg x = some ρ ∧ cond ρ = some true ∧ elt ρ = some (g x)) → pcomp asg cond elt xs = some (xs.map g)
  | [], _ => rfl
  | x :: xs, h => by
    obtain ⟨ρ, e1, e2, e3⟩ := h x List.mem_cons_self
    simp only [pcomp, e1, Option.bind_some, e2, if_true, e3, pcomp_map fun y hy => h y (List.mem_cons_of_mem _ hy), Option.map_some, List.map_cons]
theorem cut_to (xs : List PV) (k : Nat) : cutP xs none (some (k : Int)) = xs.take k := by
  unfold cutP
  rw [HT.sIx_none, HT.sIx_nat, List.drop_zero, Nat.sub_zero]
  by_cases h : k ≤ xs.length
  · rw [Nat.min_eq_left h]
  · rw [Nat.min_eq_right (by omega), List.take_length, List.take_of_length_le (by omega)]
theorem cut_from (xs : List PV) (k : Nat) : cutP xs (some (k : Int)) none = xs.drop k := by
  unfold cutP
  rw [HT.sIx_none, HT.sIx_nat]
  by_cases h : k ≤ xs.length
  · rw [Nat.min_eq_left h, List.take_of_length_le (by simp)]
  · rw [Nat.min_eq_right (by omega), List.drop_length, List.drop_of_length_le (by omega)]; simp
theorem cut_mid (xs : List PV) (i j : Nat) : cutP xs (some (i : Int)) (some (j : Int)) = (xs.take j).drop i := by
  unfold cutP
  rw [HT.sIx_nat, HT.sIx_nat, List.drop_take]
  by_cases h : i ≤ xs.length
  · rw [Nat.min_eq_left h]
    by_cases h2 : j ≤ xs.length
    · rw [Nat.min_eq_left h2]
    · rw [Nat.min_eq_right (by omega), List.take_of_length_le (by simp), List.take_of_length_le (by simp; omega)]
  · have e : min i xs.length = xs.length := Nat.min_eq_right (by omega)
    rw [e, List.drop_length, List.drop_of_length_le (by omega)]; simp
def datOk (v : PV) (d : PyData) : Prop := toD [] v = some d ∧ SeqAt.shaped d = true
theorem eq_self {v : PV} {d : PyData} (h : datOk v d) : eqS [] v v = some true := by
  unfold eqS
  rw [h.1]
  simp only [h.2, and_self, if_true]
  rw [SeqAt.eqv_refl d (SeqAt.canLay_of_shaped h.2)]
end PM
end
section
namespace K22
open PySem PM
def c_frozen : Fn := ⟨2, 1,
  (.iff (.isi (.var 0) [.list, .tuple])
   (.ret (.bi .tuple (.cons (.fz (.comp (.fz (.call 0 (.cons (.var 1) .nil))) [1] (.var 1) (.seq (.var 0)) .none)) .nil)))
   .nil
  (.ret (.var 0)))⟩
def c_splice : Fn := ⟨5, 2,
  (.par [0, 1] (.cons (.fz (.call 0 (.cons (.var 0) .nil))) (.cons (.fz (.call 0 (.cons (.var 1) .nil))) .nil))
  (.asg (.var 2) (.cst (.int 0))
  (.wh 100 (.and (.cmp .lt (.var 2) (.bi .len (.cons (.var 0) .nil))) (.and (.cmp .lt (.var 2) (.bi .len (.cons (.var 1) .nil))) (.cmp .eq (.ix (.var 0) (.var 2)) (.ix (.var 1) (.var 2)))))
   (.aug 2 .add (.cst (.int 1))
   .nil)
  (.asg (.var 3) (.cst (.int 0))
  (.asg (.var 4) (.bop .sub (.bi .min2 (.cons (.bi .len (.cons (.var 0) .nil)) (.cons (.bi .len (.cons (.var 1) .nil)) .nil))) (.var 2))
  (.wh 100 (.and (.cmp .lt (.var 3) (.var 4)) (.cmp .eq (.ix (.var 0) (.bop .sub (.bop .sub (.bi .len (.cons (.var 0) .nil)) (.cst (.int 1))) (.var 3))) (.ix (.var 1) (.bop .sub (.bop .sub (.bi .len (.cons (.var 1) .nil)) (.cst (.int 1))) (.var 3)))))
   (.aug 3 .add (.cst (.int 1))
   .nil)
  (.ret (.tup (.cons (.var 2) (.cons (.bop .sub (.bop .sub (.bi .len (.cons (.var 0) .nil)) (.var 2)) (.var 3)) (.cons (.fz (.bi .list (.cons (.fz (.sl (.var 1) (.some (.var 2)) (.some (.bop .sub (.bi .len (.cons (.var 1) .nil)) (.var 3))))) .nil))) .nil)))))))))))⟩
def c_spliced : Fn := ⟨6, 2,
  (.asg (.tup (.cons (.var 3) (.cons (.var 4) (.cons (.var 5) .nil)))) (.var 1)
  (.asg (.var 2) (.fz (.call 0 (.cons (.var 0) .nil)))
  (.ret (.fz (.bop .add (.fz (.bop .add (.fz (.bi .list (.cons (.fz (.sl (.var 2) .none (.some (.var 3)))) .nil))) (.fz (.bi .list (.cons (.fz (.call 0 (.cons (.var 5) .nil))) .nil))))) (.fz (.bi .list (.cons (.fz (.sl (.var 2) (.some (.fz (.bop .add (.var 3) (.var 4)))) .none)) .nil))))))))⟩
def c__law_cell : Fn := ⟨2, 2,
  (.iff (.cmp .lt (.var 1) (.bi .len (.cons (.var 0) .nil)))
   (.ret (.ix (.var 0) (.var 1)))
   .nil
  (.ret (.cst (.int 0))))⟩
def c__law_row : Fn := ⟨6, 2,
  (.asg (.var 2) (.lst .nil)
  (.asg (.var 3) (.var 0)
  (.asg (.var 4) (.bop .add (.bop .mod (.bi .int (.cons (.var 0) .nil)) (.cst (.int 2147483629))) (.cst (.int 1)))
  (.for (.var 5) (.rng1 (.var 1))
   (.iff (.cmp .ge (.var 0) (.pow 10 18))
    (.ex (.lm .append (.var 2) (.cons (.bop .mod (.bi .int (.cons (.var 3) .nil)) (.cst (.int 840))) .nil))
    (.asg (.var 3) (.bop .fdiv (.var 3) (.cst (.int 840)))
    .nil))
    (.asg (.var 4) (.bop .mod (.bi .int (.cons (.bop .add (.bop .mul (.var 4) (.cst (.int 48271))) (.var 5)) .nil)) (.cst (.int 2147483647)))
    (.ex (.lm .append (.var 2) (.cons (.bop .mod (.bop .fdiv (.bop .mod (.bi .int (.cons (.bop .mul (.var 4) (.cst (.int 69621))) .nil)) (.cst (.int 2147483629))) (.cst (.int 7))) (.cst (.int 840))) .nil))
    .nil))
   .nil)
  (.ret (.var 2))))))⟩
def c__law_lists : Fn := ⟨5, 1,
  (.asg (.var 1) (.fz (.comp (.tup (.cons (.ix (.fz (.lst (.cons (.cst (.str "low")) (.cons (.cst (.str "high")) .nil)))) (.bop .mod (.var 3) (.cst (.int 2)))) (.cons (.bop .mod (.bop .fdiv (.var 3) (.cst (.int 2))) (.cst (.int 4))) .nil))) [3] (.var 3) (.seq (.fz (.call 4 (.cons (.fz (.call 3 (.cons (.var 0) (.cons (.cst (.int 0)) .nil)))) (.cons (.bop .mod (.fz (.call 3 (.cons (.var 0) (.cons (.cst (.int 1)) .nil)))) (.cst (.int 41))) .nil))))) .none))
  (.asg (.var 2) (.fz (.bi .list (.cons (.var 1) .nil)))
  (.for (.var 3) (.seq (.fz (.bop .add (.fz (.call 4 (.cons (.fz (.call 3 (.cons (.var 0) (.cons (.cst (.int 2)) .nil)))) (.cons (.bop .mod (.fz (.call 3 (.cons (.var 0) (.cons (.cst (.int 3)) .nil)))) (.cst (.int 5))) .nil)))) (.fz (.sl (.var 0) (.some (.cst (.int 4))) (.some (.cst (.int 9))))))))
   (.asg (.var 4) (.bop .mod (.bop .fdiv (.var 3) (.cst (.int 5))) (.bop .add (.bi .len (.cons (.var 2) .nil)) (.cst (.int 1))))
   (.iff (.cmp .eq (.bop .mod (.var 3) (.cst (.int 5))) (.cst (.int 0)))
    (.asg (.var 2) (.fz (.bop .add (.fz (.bop .add (.fz (.sl (.var 2) .none (.some (.var 4)))) (.fz (.lst (.cons (.tup (.cons (.cst (.str "low")) (.cons (.bop .mod (.bop .fdiv (.var 3) (.cst (.int 7))) (.cst (.int 4))) .nil))) .nil))))) (.fz (.sl (.var 2) (.some (.var 4)) .none))))
    .nil)
    (.iff (.cmp .eq (.bop .mod (.var 3) (.cst (.int 5))) (.cst (.int 1)))
     (.asg (.var 2) (.fz (.bop .add (.fz (.sl (.var 2) .none (.some (.var 4)))) (.fz (.sl (.var 2) (.some (.bop .add (.bop .add (.var 4) (.cst (.int 1))) (.bop .mod (.bop .fdiv (.var 3) (.cst (.int 11))) (.cst (.int 3))))) .none))))
     .nil)
     (.iff (.cmp .eq (.bop .mod (.var 3) (.cst (.int 5))) (.cst (.int 2)))
      (.asg (.var 2) (.fz (.bop .add (.fz (.bop .add (.fz (.sl (.var 2) .none (.some (.var 4)))) (.fz (.rev (.fz (.sl (.var 2) (.some (.var 4)) (.some (.bop .add (.var 4) (.cst (.int 4)))))))))) (.fz (.sl (.var 2) (.some (.bop .add (.var 4) (.cst (.int 4)))) .none))))
      .nil)
      (.iff (.cmp .eq (.bop .mod (.var 3) (.cst (.int 5))) (.cst (.int 3)))
       (.asg (.var 2) (.fz (.bop .add (.fz (.bop .add (.fz (.sl (.var 2) .none (.some (.var 4)))) (.fz (.sl (.var 2) (.some (.var 4)) (.some (.bop .add (.var 4) (.cst (.int 3)))))))) (.fz (.sl (.var 2) (.some (.var 4)) .none))))
       .nil)
       (.asg (.var 2) (.fz (.bop .add (.fz (.sl (.var 2) (.some (.var 4)) .none)) (.fz (.sl (.var 2) .none (.some (.var 4))))))
       .nil)
      .nil)
     .nil)
    .nil)
   .nil))
  (.ret (.fz (.lst (.cons (.var 1) (.cons (.var 2) .nil))))))))⟩
def c__law_common : Fn := ⟨4, 2,
  (.asg (.var 2) (.cst (.int 0))
  (.for (.var 3) (.rng1 (.bi .min2 (.cons (.bi .len (.cons (.var 0) .nil)) (.cons (.bi .len (.cons (.var 1) .nil)) .nil))))
   (.iff (.and (.cmp .eq (.var 2) (.var 3)) (.cmp .eq (.ix (.var 0) (.var 3)) (.ix (.var 1) (.var 3))))
    (.asg (.var 2) (.bop .add (.var 3) (.cst (.int 1)))
    .nil)
    .nil
   .nil)
  (.ret (.var 2))))⟩
def c_law : Fn := ⟨10, 1,
  (.asg (.var 1) (.fz (.call 5 (.cons (.var 0) .nil)))
  (.for (.tup (.cons (.var 2) (.cons (.var 3) .nil))) (.seq (.fz (.lst (.cons (.var 1) (.cons (.fz (.rev (.var 1))) (.cons (.fz (.lst (.cons (.ix (.var 1) (.cst (.int 0))) (.cons (.ix (.var 1) (.cst (.int 0))) .nil)))) .nil))))))
   (.asg (.var 4) (.fz (.call 6 (.cons (.var 2) (.cons (.var 3) .nil))))
   (.asg (.var 5) (.fz (.call 6 (.cons (.fz (.rev (.fz (.sl (.var 2) (.some (.var 4)) .none)))) (.cons (.fz (.rev (.fz (.sl (.var 3) (.some (.var 4)) .none)))) .nil))))
   (.asg (.var 6) (.fz (.lst (.cons (.fz (.bi .list (.cons (.var 2) .nil))) (.cons (.fz (.bi .list (.cons (.var 3) .nil))) .nil))))
   (.asg (.var 7) (.fz (.call 1 (.cons (.ix (.var 6) (.cst (.int 0))) (.cons (.ix (.var 6) (.cst (.int 1))) .nil))))
   (.iff (.or (.not (.isi (.var 7) [.tuple])) (.cmp .ne (.var 7) (.tup (.cons (.var 4) (.cons (.bop .sub (.bop .sub (.bi .len (.cons (.var 2) .nil)) (.var 4)) (.var 5)) (.cons (.fz (.sl (.var 3) (.some (.var 4)) (.some (.bop .sub (.bi .len (.cons (.var 3) .nil)) (.var 5))))) .nil))))))
    (.ret (.cst (.bl false)))
    .nil
   (.iff (.or (.cmp .ne (.fz (.call 1 (.cons (.fz (.comp (.fz (.bi .list (.cons (.var 9) .nil))) [9] (.var 9) (.seq (.var 2)) .none)) (.cons (.bi .tuple (.cons (.var 3) .nil)) .nil)))) (.var 7)) (.cmp .ne (.fz (.call 2 (.cons (.fz (.comp (.fz (.bi .list (.cons (.var 9) .nil))) [9] (.var 9) (.seq (.var 2)) .none)) (.cons (.fz (.bi .list (.cons (.var 7) .nil))) .nil)))) (.var 3)))
    (.ret (.cst (.bl false)))
    .nil
   (.iff (.or (.cmp .ne (.var 6) (.fz (.lst (.cons (.var 2) (.cons (.var 3) .nil))))) (.or (.cmp .ne (.fz (.call 2 (.cons (.ix (.var 6) (.cst (.int 0))) (.cons (.var 7) .nil)))) (.var 3)) (.cmp .ne (.var 6) (.fz (.lst (.cons (.var 2) (.cons (.var 3) .nil)))))))
    (.ret (.cst (.bl false)))
    .nil
   (.asg (.var 8) (.fz (.sl (.var 2) (.some (.var 4)) (.some (.fz (.bop .add (.var 4) (.ix (.var 7) (.cst (.int 1))))))))
   (.iff (.and (.cmp .gt (.bi .len (.cons (.var 8) .nil)) (.cst (.int 0))) (.and (.cmp .gt (.bi .len (.cons (.ix (.var 7) (.cst (.int 2))) .nil)) (.cst (.int 0))) (.or (.cmp .eq (.ix (.var 8) (.cst (.int 0))) (.ix (.ix (.var 7) (.cst (.int 2))) (.cst (.int 0)))) (.cmp .eq (.ix (.var 8) (.neg (.cst (.int 1)))) (.ix (.ix (.var 7) (.cst (.int 2))) (.neg (.cst (.int 1))))))))
    (.ret (.cst (.bl false)))
    .nil
   .nil)))))))))
  (.ret (.cst (.bl true)))))⟩
def topS (i : Nat) : PySem.Stmt := PySem.Challenge.pw_piecetold_k22_splices.main.body.getD i (.Pass ⟨0, 0, 0, 0⟩)
def defs : List DfI := [⟨"frozen", "frozen", ["value", "part"], ["value"], topS 1, c_frozen⟩,
  ⟨"splice", "splice", ["first", "second", "begin", "end", "most"], ["first", "second"], topS 3, c_splice⟩,
  ⟨"spliced", "spliced", ["messages", "change", "rows", "begin", "gone", "come"], ["messages", "change"], topS 4, c_spliced⟩,
  ⟨"_law_cell", "_law_cell", ["_law_script", "_law_k"], ["_law_script", "_law_k"], topS 6, c__law_cell⟩,
  ⟨"_law_row", "_law_row", ["_law_cell_here", "_law_count", "_law_row_here", "_law_rest", "_law_seed", "_law_k"], ["_law_cell_here", "_law_count"], topS 7, c__law_row⟩,
  ⟨"_law_lists", "_law_lists", ["_law_script", "_law_first", "_law_second", "_law_number", "_law_at"], ["_law_script"], topS 8, c__law_lists⟩,
  ⟨"_law_common", "_law_common", ["_law_first", "_law_second", "_law_size", "_law_k"], ["_law_first", "_law_second"], topS 9, c__law_common⟩,
  ⟨"law", "law", ["_law_script", "_law_lists_here", "_law_first", "_law_second", "_law_begin", "_law_end", "_law_given", "_law_actual", "_law_gone", "_law_one"], ["_law_script"], topS 10, c_law⟩]
def gx : Gx := ⟨[("frozen", 0), ("splice", 1), ("spliced", 2), ("_law_cell", 3), ("_law_row", 4), ("_law_lists", 5), ("_law_common", 6), ("law", 7)], ["isinstance", "list", "tuple", "len", "min", "int", "range"], [], []⟩


theorem checked : defs.all (·.ok gx 60) = true := by decide +kernel
end K22
end
section
namespace K22
open PySem PySem.Spec PyProof.Rows L2 PM
theorem binds : BindsAll defs := ⟨fun _ _ _ _ _ _ us hl => match us, hl with | [_], _ => rfl, fun _ _ _ _ _ _ us hl => match us, hl with | [_, _], _ => rfl, fun _ _ _ _ _ _ us hl => match us, hl with | [_, _], _ => rfl,
  fun _ _ _ _ _ _ us hl => match us, hl with | [_, _], _ => rfl, fun _ _ _ _ _ _ us hl => match us, hl with | [_, _], _ => rfl, fun _ _ _ _ _ _ us hl => match us, hl with | [_], _ => rfl, fun _ _ _ _ _ _ us hl => match us, hl with | [_, _], _ => rfl,
  fun _ _ _ _ _ _ us hl => match us, hl with | [_], _ => rfl, trivial⟩
abbrev R : PySem.W.OpenRow := PySem.W.OpenLaw.row PySem.Challenge.rw_piecetold_k22_splices
abbrev hk : PySem.W.Hook := He.hookD 4 (faOf gx) (defs.map dfd)
def ob (s : PySem.W.SharedT) : He.AlD := He.obsDG 4 (faOf gx) (defs.map dfd) (HandSHeadRun.getT s)
theorem ob_eq (s : PySem.W.SharedT) : ob s = hk.obs s.abs := He.obsDG_eq (HandSHeadRun.getT_eq s)
abbrev loose : List Str := ["frozen", "splice", "spliced", "_law_cell", "_law_row", "_law_lists", "_law_common"]
theorem run (w : World) : HandSHeadRun.RunEq R (PySem.W.view R.prog [10]) hk ob 800 loose w := by
  intro os
  kernel_rfl
end K22
end
section
open PySem PySem.W PySem.Calls PyProof.Rows
theorem K22.holds_of (A : PM.Answers K22.defs 20 7) : PySem.Challenge.rw_piecetold_k22_splices.Holds := by
  w_on; o_law
  refine HandSHeadRun.head_any (r := OpenLaw.row PySem.Challenge.rw_piecetold_k22_splices) (q := view (OpenLaw.row PySem.Challenge.rw_piecetold_k22_splices).prog [10]) (H := K22.hk) (ob := K22.ob) (M := 800) (loose := K22.loose) (d := HandSHeadRun.topDef (OpenLaw.row PySem.Challenge.rw_piecetold_k22_splices).prog 10) (kwd := []) K22.ob_eq
    (by kernel_rfl) (fun s => by kernel_rfl) K22.run (by kernel_rfl) (by kernel_rfl) (by kernel_rfl) (by rfl) (by first | assumption | decide +kernel) (by decide +kernel) ⟨rfl, rfl, rfl, rfl, rfl, by decide +kernel⟩ ?hw ?hc
  case hw => w_witness2
  case hc =>
    refine PM.walk_pm (l := PySem.Challenge.rw_piecetold_k22_splices) (n := 63) (k := 20) (x := "_law_script") (CX := fun w => L2.CX PySem.Challenge.rw_piecetold_k22_splices.prog w) rfl (by decide) (by kernel_rfl) ⟨rfl, by decide, by decide⟩ ?F (fun _ _ _ _ _ h => by obtain ⟨_, _, _, _, _, _, _, _, _, _, _, _, z⟩ := h; exact z)
    intro w mg fa h Y G hmg0
    obtain ⟨K, KX, c⟩ := Y
    have hmg : mg ("law" : PySem.Str) = some (.ref fa) := by
      have e : (HandSHeadRun.topDef (OpenLaw.row PySem.Challenge.rw_piecetold_k22_splices).prog 10).name = ("law" : PySem.Str) := by kernel_rfl
      rw [← e]
      exact hmg0
    obtain ⟨fd, sp, hb, hsp, hF⟩ := PM.law_end (P := (PySem.Challenge.rw_piecetold_k22_splices).prog) (w := w) (d := K22.defs[7]'(by decide)) A KX G hmg c K22.binds (by decide +kernel) rfl K22.checked rfl (by decide +kernel) rfl
    exact ⟨K, fd, sp, KX, hb, hsp, hF⟩
end
section
namespace K22
open PySem PM
def rowBody : CSs := (.iff (.cmp .ge (.var 0) (.pow 10 18))
    (.ex (.lm .append (.var 2) (.cons (.bop .mod (.bi .int (.cons (.var 3) .nil)) (.cst (.int 840))) .nil))
    (.asg (.var 3) (.bop .fdiv (.var 3) (.cst (.int 840)))
    .nil))
    (.asg (.var 4) (.bop .mod (.bi .int (.cons (.bop .add (.bop .mul (.var 4) (.cst (.int 48271))) (.var 5)) .nil)) (.cst (.int 2147483647)))
    (.ex (.lm .append (.var 2) (.cons (.bop .mod (.bop .fdiv (.bop .mod (.bi .int (.cons (.bop .mul (.var 4) (.cst (.int 69621))) .nil)) (.cst (.int 2147483629))) (.cst (.int 7))) (.cst (.int 840))) .nil))
    .nil))
   .nil)
def rowGo (c : Int) : Int → Int → List Int → List Int
  | _, _, [] => []
  | rest, seed, k :: ks => if 10 ^ 18 ≤ c then rest % 840 :: rowGo c (rest / 840) seed ks
    else ((seed * 48271 + k) % 2147483647 * 69621) % 2147483629 / 7 % 840 :: rowGo c rest ((seed * 48271 + k) % 2147483647) ks
theorem rowGo_len (c : Int) : ∀ (rest seed : Int) (ks : List Int), (rowGo c rest seed ks).length = ks.length
  | _, _, [] => rfl
  | rest, seed, k :: ks => by
    unfold rowGo
    split <;> simp [rowGo_len c _ _ ks]
theorem get_end {S : Sto} {o : MO} : (S ++ [o])[S.length]? = some o := by rw [List.getElem?_append_right (Nat.le_refl _), Nat.sub_self]; rfl
theorem set_end {S : Sto} {o o' : MO} : (S ++ [o]).set S.length o' = S ++ [o'] := by rw [List.set_append_right _ _ (Nat.le_refl _), Nat.sub_self]; rfl
theorem row_hi (cf : Cf) (S : Sto) (c n rest seed k : Int) (acc : List PV) (hc : 10 ^ 18 ≤ c) (ha : acc.length < LIM) :
    ex cf rowBody [some (.int c), some (.int n), some (.loc S.length), some (.int rest), some (.int seed), some (.int k)] (S ++ [.lst acc]) =
      .nx [some (.int c), some (.int n), some (.loc S.length), some (.int (rest / 840)), some (.int seed), some (.int k)] (S ++ [.lst (acc ++ [.int (rest % 840)])]) := by
  have hc' : decide ((1000000000000000000 : Int) ≤ c) = true := decide_eq_true (by simpa using hc)
  simp [rowBody, ex, evB, ev, evs, RS.fst, RS.seq, Res.bind, Res.opt, cmpV, ordV, truth, hc, lmK, get_end, bopV, modV, fdivV, Res.need, biV, b1, intB, lmV, ha, put, set_end, evt, hc']
theorem row_lo (cf : Cf) (S : Sto) (c n rest seed k : Int) (acc : List PV) (hc : ¬ 10 ^ 18 ≤ c) (ha : acc.length < LIM) :
    ex cf rowBody [some (.int c), some (.int n), some (.loc S.length), some (.int rest), some (.int seed), some (.int k)] (S ++ [.lst acc]) =
      .nx [some (.int c), some (.int n), some (.loc S.length), some (.int rest), some (.int ((seed * 48271 + k) % 2147483647)), some (.int k)] (S ++ [.lst (acc ++ [.int (((seed * 48271 + k) % 2147483647 * 69621) % 2147483629 / 7 % 840)])]) := by
  have hc' : decide ((1000000000000000000 : Int) ≤ c) = false := decide_eq_false (by simpa using hc)
  simp [rowBody, ex, evB, ev, evs, RS.fst, RS.seq, Res.bind, Res.opt, cmpV, ordV, truth, hc, lmK, get_end, bopV, modV, fdivV, mulV, addV, small, Res.need, biV, b1, intB, lmV, ha, put, set_end, evt, hc']
theorem row_loop (cf : Cf) (S : Sto) (c n : Int) : ∀ (ks : List Int) (rest seed : Int) (kk : Option PV) (acc : List PV), acc.length + ks.length ≤ LIM →
    ∃ rest' seed' kk', forL (fun _ => true) (evt cf (.var 5)) (ex cf rowBody) (ks.map .int) [some (.int c), some (.int n), some (.loc S.length), some (.int rest), some (.int seed), kk] (S ++ [.lst acc]) =
      .nx [some (.int c), some (.int n), some (.loc S.length), some (.int rest'), some (.int seed'), kk'] (S ++ [.lst (acc ++ (rowGo c rest seed ks).map .int)])
  | [], rest, seed, kk, acc, _ => ⟨rest, seed, kk, by simp [forL, rowGo]⟩
  | k :: ks, rest, seed, kk, acc, hl => by
    simp only [List.length_cons] at hl
    by_cases hc : 10 ^ 18 ≤ c
    · obtain ⟨r, s, q, e⟩ := row_loop cf S c n ks (rest / 840) seed (some (.int k)) (acc ++ [.int (rest % 840)]) (by simp; omega)
      refine ⟨r, s, q, ?_⟩
      have e1 := row_hi cf S c n rest seed k acc hc (by omega)
      simp only [evt] at e ⊢
      simp only [List.map_cons, forL, if_true, List.set_cons_succ, List.set_cons_zero, e1, e]
      rw [rowGo, if_pos hc, List.append_assoc]
      rfl
    · obtain ⟨r, s, q, e⟩ := row_loop cf S c n ks rest ((seed * 48271 + k) % 2147483647) (some (.int k)) (acc ++ [.int (((seed * 48271 + k) % 2147483647 * 69621) % 2147483629 / 7 % 840)]) (by simp; omega)
      refine ⟨r, s, q, ?_⟩
      have e1 := row_lo cf S c n rest seed k acc hc (by omega)
      simp only [evt] at e ⊢
      simp only [List.map_cons, forL, if_true, List.set_cons_succ, List.set_cons_zero, e1, e]
      rw [rowGo, if_neg hc, List.append_assoc]
      rfl
def rowL (c : Int) (n : Nat) : List Int := rowGo c c (c % 2147483629 + 1) ((List.range n).map fun i => ((i : Nat) : Int))
theorem rowL_len (c : Int) (n : Nat) : (rowL c n).length = n := by simp [rowL, rowGo_len]
theorem row_run (k : Nat) (S : Sto) (c n : Int) (hn : okR 0 n = true) : PM.run (tabOf defs) (fun _ _ => false) (k + 1) 4 [.int c, .int n] S = .ok (.loc S.length) (S ++ [.lst ((rowL c n.toNat).map .int)]) := by
  have hl : n.toNat ≤ LIM := by
    simp only [okR, Bool.and_eq_true, decide_eq_true_eq, Int.sub_zero] at hn
    exact hn.2
  have e0 : rngL 0 n = ((List.range n.toNat).map fun i => ((i : Nat) : Int)).map PV.int := by simp [rngL, List.map_map, Function.comp_def]
  obtain ⟨r, s, q, e⟩ := row_loop ⟨PM.run (tabOf defs) (fun _ _ => false) k, fun _ _ => false⟩ S c n ((List.range n.toNat).map fun i => ((i : Nat) : Int)) c (c % 2147483629 + 1) none [] (by simpa using hl)
  rw [← e0] at e
  simp only [evt] at e
  unfold PM.run
  show runF _ c__law_row _ _ = _
  unfold runF
  rw [need_true (by rfl)]
  have es : startE c__law_row.n [PV.int c, PV.int n] = [some (.int c), some (.int n), none, none, none, none] := rfl
  have eb : c__law_row.body = (.asg (.var 2) (.lst .nil)
  (.asg (.var 3) (.var 0)
  (.asg (.var 4) (.bop .add (.bop .mod (.bi .int (.cons (.var 0) .nil)) (.cst (.int 2147483629))) (.cst (.int 1)))
  (.for (.var 5) (.rng1 (.var 1)) rowBody
  (.ret (.var 2)))))) := rfl
  rw [es, eb]
  simp [ex, ev, evs, evt, evi, RS.fst, Res.bind, new, Res.need, bopV, modV, addV, biV, b1, intB, hn, e, RS.seq]
  rfl
theorem row_ok (k : Nat) (c n : Int) (hn : okR 0 n = true) (S : Sto) : fzR S (PM.run (tabOf defs) (fun _ _ => false) (k + 1) 4 [.int c, .int n] S) = .ok (.lst ((rowL c n.toNat).map .int)) S := by
  rw [row_run k S c n hn]
  exact frz_new intsV_pur
def ov (f : Nat) : Option (List PV → Option PV) := if f = 4 then some fun vs => (match vs with
  | [.int c, .int n] => if okR 0 n = true then some (.lst ((rowL c n.toNat).map .int)) else none
  | _ => none) else none
theorem ov_ok : ∀ k f g vs v, ov f = some g → purs vs = true → g vs = some v → (FP ⟨PM.run (tabOf defs) (fun _ _ => false) k, fun _ _ => false⟩ (prun (tabOf defs) ov k)) → pur v = true ∧ ∀ S, fzR S (PM.run (tabOf defs) (fun _ _ => false) (k + 1) f vs S) = .ok v S := by
  intro k f g vs v hf hv hg _
  unfold ov at hf
  split at hf
  · rename_i h4
    subst h4
    cases hf
    dsimp only at hg
    split at hg
    · split at hg
      · rename_i hn
        cases hg
        exact ⟨by simp only [pur]; exact intsV_pur, fun S => row_ok k _ _ hn S⟩
      · cases hg
    · cases hg
  · cases hf
theorem answers_of {ns : List Int} (h : prun (tabOf defs) ov 20 7 [.ro (ns.map .int)] = some (.bl true)) : fzR [] (PM.run (tabOf defs) (fun _ _ => false) 20 7 [.ro (ns.map .int)] []) = .ok (.bl true) [] := by
  have F := prun_ok (sub := fun _ _ => false) ov_ok 20
  exact (F 7 [.ro (ns.map .int)] (.bl true) (by simp only [purs, pur, Bool.and_true]; exact intsV_pur) h).2 []
theorem fz_true {r : Res PV} (h : fzR [] r = .ok (.bl true) []) : ∃ S, r = .ok (.bl true) S := by
  cases r with
  | ok v S =>
    refine ⟨S, ?_⟩
    have h : Res.opt (frz 0 S v) (fun t => Res.ok t []) = .ok (.bl true) [] := h
    cases e : frz 0 S v with
    | none => rw [e] at h; cases h
    | some t =>
      rw [e] at h
      have ht : t = .bl true := by cases h; rfl
      subst ht
      cases v <;> simp [frz, sbst] at e
      · rw [e]
      · rename_i l
        unfold frzL at e
        split at e
        · cases e
        · split at e <;> simp at e
  | exc c S =>
    have h : (Res.exc c [] : Res PV) = .ok (.bl true) [] := h
    cases h
  | bad => cases h
end K22
end
section
namespace K22
open PySem PM
abbrev pf (k : Nat) : Nat → List PV → Option PV := prun (tabOf defs) ov k
def PR.out : PR → PV
  | .nx _ => .non
  | .ret v => v
theorem pf_at {k f : Nat} {d : Fn} {vs : List PV} {r : PR} {v : PV} (ht : tabOf defs f = some d) (ho : ov f = none) (hl : vs.length = d.np) (h : px (pf k) d.body (startE d.n vs) = some r) (hv : PR.out r = v) : pf (k + 1) f vs = some v := by
  show prun (tabOf defs) ov (k + 1) f vs = _
  simp only [prun, ho, ht, if_pos hl]
  rw [show px (prun (tabOf defs) ov k) d.body (startE d.n vs) = some r from h]
  subst hv
  cases r <;> rfl
theorem fz_atom (k : Nat) {v : PV} (h : isiV [] noCf v [.list, .tuple] = some false) : pf (k + 1) 0 [v] = some v := by
  refine pf_at (d := c_frozen) (r := .ret v) rfl rfl rfl ?_ rfl
  simp [c_frozen, startE, px, pB, pe, h, truth, PR.seq]
theorem fz_seq (k : Nat) {v : PV} {xs : List PV} {g : PV → PV} (h : isiV [] noCf v [.list, .tuple] = some true) (hs : seqOf [] v = some xs) (hl : xs.length ≤ LIM) (hg : ∀ x ∈ xs, pf k 0 [x] = some (g x)) : pf (k + 1) 0 [v] = some (.tup (xs.map g)) := by
  refine pf_at (d := c_frozen) (r := .ret (.tup (xs.map g))) rfl rfl rfl ?_ rfl
  have e : pcomp (fun x => some ((wipe [some v, none] [1]).set 1 (some x))) (fun _ => some true) (pe (pf k) (.fz (.call 0 (.cons (.var 1) .nil)))) xs = some (xs.map g) := pcomp_map fun x hx => ⟨[some v, some x], by simp [wipe], rfl, by simp [pe, pa, pes, hg x hx]⟩
  have e1 : (pt (pf k) (.var 1)) = fun v ρ => some (ρ.set 1 (some v)) := by funext v ρ; simp [pt]
  have e2 : pb (pf k) .none = fun _ => some true := by funext ρ; simp [pb]
  have e3 : pa (pf k) (.comp (.fz (.call 0 (.cons (.var 1) .nil))) [1] (.var 1) (.seq (.var 0)) .none) [some v, none] = some (.lst (xs.map g)) := by
    simp only [pa, pi]
    rw [show pe (pf k) (.var 0) [some v, none] = some v by simp [pe]]
    simp only [Option.bind_some, hs, if_pos hl, e1, e2, e, Option.map_some]
  simp [c_frozen, startE, px, pB, pe, h, truth, PR.seq, pes, e3, bqP, biV, b1, tupB, lstOf, Res.opt, okP]
abbrev Pr := Bool × Int
def tx (b : Bool) : Str := if b then "high" else "low"
def em (p : Pr) : PV := .tup [.str (tx p.1), .int p.2]
def el (p : Pr) : PV := .lst [.str (tx p.1), .int p.2]
theorem fz_em (k : Nat) (p : Pr) : pf (k + 2) 0 [em p] = some (em p) := by
  have := fz_seq (k + 1) (v := em p) (g := fun v => v) rfl rfl (by simp [LIM]) (fun x hx => by
    simp only [List.mem_cons, List.not_mem_nil, or_false] at hx
    rcases hx with rfl | rfl
    · exact fz_atom k rfl
    · exact fz_atom k rfl)
  rw [this]; simp [em]
theorem fz_el (k : Nat) (p : Pr) : pf (k + 2) 0 [el p] = some (em p) := by
  have := fz_seq (k + 1) (v := el p) (g := fun v => v) rfl rfl (by simp [LIM]) (fun x hx => by
    simp only [List.mem_cons, List.not_mem_nil, or_false] at hx
    rcases hx with rfl | rfl
    · exact fz_atom k rfl
    · exact fz_atom k rfl)
  rw [this]; simp [em]
theorem fz_lst (k : Nat) (A : List Pr) (hA : A.length ≤ LIM) : pf (k + 3) 0 [.lst (A.map em)] = some (.tup (A.map em)) := by
  have := fz_seq (k + 2) (v := .lst (A.map em)) (g := fun v => v) rfl rfl (by simpa using hA) (fun x hx => by
    obtain ⟨p, _, rfl⟩ := List.mem_map.mp hx
    exact fz_em k p)
  rw [this]; simp
theorem fz_tup (k : Nat) (A : List Pr) (hA : A.length ≤ LIM) : pf (k + 3) 0 [.tup (A.map em)] = some (.tup (A.map em)) := by
  have := fz_seq (k + 2) (v := .tup (A.map em)) (g := fun v => v) rfl rfl (by simpa using hA) (fun x hx => by
    obtain ⟨p, _, rfl⟩ := List.mem_map.mp hx
    exact fz_em k p)
  rw [this]; simp
theorem fz_lstl (k : Nat) (A : List Pr) (hA : A.length ≤ LIM) : pf (k + 3) 0 [.lst (A.map el)] = some (.tup (A.map em)) := by
  have := fz_seq (k + 2) (v := .lst (A.map el)) (g := fun v => match v with | .lst xs => .tup xs | v => v) rfl rfl (by simpa using hA) (fun x hx => by
    obtain ⟨p, _, rfl⟩ := List.mem_map.mp hx
    exact fz_el k p)
  rw [this]; simp [Function.comp_def, el, em]
def dt (p : Pr) : PyData := .tuple [.str (tx p.1), .int p.2]
theorem tx_ok (b : Bool) : PyData.canLay0 (.str (tx b)) = true := by cases b <;> decide +kernel
theorem em_dat (p : Pr) : datOk (em p) (dt p) := ⟨rfl, by cases p with | mk b i => cases b <;> simp [SeqAt.shaped, dt, PyData.canLay0, PyData.canLayAll0, PyData.depth, PyData.depthAll] <;> exact tx_ok _⟩
theorem dt_lay (p : Pr) : PyData.canLay0 (dt p) = true := SeqAt.canLay_of_shaped (em_dat p).2
theorem tx_beq (a b : Bool) : (tx a == tx b) = decide (a = b) := by cases a <;> cases b <;> decide +kernel
theorem eqv_dt (p q : Pr) : PyData.eqv (dt p) (dt q) = decide (p = q) := by
  obtain ⟨a, i⟩ := p
  obtain ⟨b, j⟩ := q
  simp only [dt, PyData.eqv, PyData.eqvAll, tx_beq, Bool.and_true, Prod.mk.injEq]
  by_cases h1 : a = b <;> by_cases h2 : i = j <;> simp [h1, h2]
theorem eq_em (p q : Pr) : cmpV .eq [] (em p) (em q) = some (decide (p = q)) := by
  show eqS [] (em p) (em q) = _
  unfold eqS
  rw [(em_dat p).1, (em_dat q).1]
  simp only [(em_dat p).2, (em_dat q).2, and_self, if_true, eqv_dt]
theorem toDs_em : ∀ A : List Pr, toDws (toDL [] 6) (A.map em) = some (A.map dt)
  | [] => rfl
  | p :: A => by
    simp only [List.map_cons, toDws, toDs_em A]
    rw [show toDw (toDL [] 6) (em p) = some (dt p) from (em_dat p).1]
theorem lay_dt : ∀ A : List Pr, PyData.canLayAll0 (A.map dt) = true
  | [] => rfl
  | p :: A => by simp [PyData.canLayAll0, dt_lay p, lay_dt A]
theorem dep_dt : ∀ A : List Pr, PyData.depthAll (A.map dt) ≤ 10
  | [] => by simp [PyData.depthAll]
  | p :: A => by
    simp only [List.map_cons, PyData.depthAll]
    have := dep_dt A
    have h2 : (dt p).depth ≤ 10 := by simp [dt, PyData.depth, PyData.depthAll]
    omega
theorem lst_dat (A : List Pr) : datOk (.lst (A.map em)) (.list (A.map dt)) := by
  refine ⟨by simp [toD, toDw, toDs_em], ?_⟩
  have := dep_dt A
  simp [SeqAt.shaped, PyData.canLay0, lay_dt, PyData.depth]
  omega
theorem ne_self {v : PV} {d : PyData} (h : datOk v d) : cmpV .ne [] v v = some false := by
  show (eqS [] v v).map (!·) = _
  rw [PM.eq_self h]; rfl
theorem two_dat (A B : List Pr) : datOk (.lst [.lst (A.map em), .lst (B.map em)]) (.list [.list (A.map dt), .list (B.map dt)]) := by
  refine ⟨by simp [toD, toDw, toDws, toDs_em], ?_⟩
  have := dep_dt A
  have := dep_dt B
  simp [SeqAt.shaped, PyData.canLay0, PyData.canLayAll0, lay_dt, PyData.depth, PyData.depthAll]
  omega
theorem res_dat (i j : Int) (A : List Pr) : datOk (.tup [.int i, .int j, .lst (A.map em)]) (.tuple [.int i, .int j, .list (A.map dt)]) := by
  refine ⟨by simp [toD, toDw, toDws, toDs_em], ?_⟩
  have := dep_dt A
  simp [SeqAt.shaped, PyData.canLay0, PyData.canLayAll0, lay_dt, PyData.depth, PyData.depthAll]
  omega
end K22
end
section
namespace K22
open PySem PM
def lcp : List Pr → List Pr → Nat
  | x :: xs, y :: ys => if x = y then lcp xs ys + 1 else 0
  | _, _ => 0
theorem lcp_le : ∀ A B : List Pr, lcp A B ≤ A.length ∧ lcp A B ≤ B.length
  | [], _ => by simp [lcp]
  | _ :: _, [] => by simp [lcp]
  | x :: xs, y :: ys => by
    unfold lcp
    have := lcp_le xs ys
    split <;> simp <;> omega
theorem lcp_eq : ∀ (A B : List Pr) (i : Nat), i < lcp A B → A[i]? = B[i]?
  | [], _, _, h => by simp [lcp] at h
  | _ :: _, [], _, h => by simp [lcp] at h
  | x :: xs, y :: ys, i, h => by
    unfold lcp at h
    split at h
    · rename_i e
      cases i with
      | zero => simp [e]
      | succ i => simpa using lcp_eq xs ys i (by omega)
    · omega
theorem lcp_ne : ∀ (A B : List Pr) (p q : Pr), A[lcp A B]? = some p → B[lcp A B]? = some q → p ≠ q
  | [], _, _, _, h, _ => by simp at h
  | _ :: _, [], _, _, _, h => by simp at h
  | x :: xs, y :: ys, p, q, h, h2 => by
    unfold lcp at h h2
    split at h
    · rename_i e
      rw [if_pos e] at h2
      exact lcp_ne xs ys p q (by simpa using h) (by simpa using h2)
    · rename_i e
      rw [if_neg e] at h2
      simp at h h2
      subst h h2
      exact e
theorem lcp_take (A B : List Pr) : A.take (lcp A B) = B.take (lcp A B) := by
  apply List.ext_getElem?
  intro i
  rw [List.getElem?_take, List.getElem?_take]
  split
  · rename_i h; exact lcp_eq A B i h
  · rfl
theorem ix_map {A : List Pr} {i : Nat} {p : Pr} (h : A[i]? = some p) : L2.atI (A.map em) (i : Int) = some (em p) := by
  unfold L2.atI
  have hi := (List.getElem?_eq_some_iff.mp h).1
  rw [show L2.ixN (A.map em).length (i : Int) = some i by
    unfold L2.ixN
    simp
    omega]
  show (A.map em)[i]? = _
  rw [List.getElem?_map, h]
  rfl
theorem pt_var {pf : Nat → List PV → Option PV} {i : Nat} (v : PV) (ρ : PM.Env) : pt pf (.var i) v ρ = some (ρ.set i (some v)) := by simp [pt]
def cBody : CSs := (.iff (.and (.cmp .eq (.var 2) (.var 3)) (.cmp .eq (.ix (.var 0) (.var 3)) (.ix (.var 1) (.var 3))))
    (.asg (.var 2) (.bop .add (.var 3) (.cst (.int 1)))
    .nil)
    .nil
   .nil)
theorem eq_int (i j : Int) : cmpV .eq [] (.int i) (.int j) = some (decide (i = j)) := by
  show eqS [] (PV.int i) (PV.int j) = _
  simp [eqS, toD, toDw, SeqAt.shaped, PyData.canLay0, PyData.depth, PyData.eqv, BEq.beq]
theorem c_step (k : Nat) (A B : List Pr) (i : Nat) (p q : Pr) (hp : A[i]? = some p) (hq : B[i]? = some q) :
    px (pf k) cBody [some (.lst (A.map em)), some (.lst (B.map em)), some (.int (min (lcp A B) i : Nat)), some (.int (i : Int))] =
      some (.nx [some (.lst (A.map em)), some (.lst (B.map em)), some (.int (min (lcp A B) (i + 1) : Nat)), some (.int (i : Int))]) := by
  have ea := ix_map hp
  have eb := ix_map hq
  by_cases h1 : i ≤ lcp A B
  · have e1 : decide (((min (lcp A B) i : Nat) : Int) = (i : Int)) = true := decide_eq_true (by rw [Nat.min_eq_right h1])
    by_cases h2 : p = q
    · have h3 : i + 1 ≤ lcp A B := by
        rcases Nat.lt_or_ge i (lcp A B) with h | h
        · exact h
        · have : i = lcp A B := by omega
          subst this
          exact absurd h2 (lcp_ne A B p q hp hq)
      have e3 : ((i : Int) + 1) = ((min (lcp A B) (i + 1) : Nat) : Int) := by rw [Nat.min_eq_right h3]; simp
      simp [cBody, px, pB, pe, eq_int, e1, ixV, seqOf, lstOf, ea, eb, eq_em, h2, truth, PR.seq, okP, bopV, addV, pt, e3, pur]
    · have h3 : i = lcp A B := by
        rcases Nat.lt_or_ge i (lcp A B) with h | h
        · have := lcp_eq A B i h
          rw [hp, hq] at this
          exact absurd (Option.some.inj this) h2
        · omega
      have e3 : min (lcp A B) (i + 1) = min (lcp A B) i := by omega
      simp [cBody, px, pB, pe, eq_int, e1, ixV, seqOf, lstOf, ea, eb, eq_em, h2, truth, PR.seq, e3]
  · have e1 : decide (((min (lcp A B) i : Nat) : Int) = (i : Int)) = false := decide_eq_false (by omega)
    have e3 : min (lcp A B) (i + 1) = min (lcp A B) i := by omega
    simp [cBody, px, pB, pe, eq_int, e1, truth, PR.seq, e3]
theorem common_ok (k : Nat) (A B : List Pr) (hA : A.length ≤ 1000) (hB : B.length ≤ 1000) : pf (k + 1) 6 [.lst (A.map em), .lst (B.map em)] = some (.int (lcp A B : Nat)) := by
  refine pf_at (d := c__law_common) (r := .ret (.int (lcp A B : Nat))) rfl rfl rfl ?_ rfl
  have hm : min A.length B.length = if B.length < A.length then B.length else A.length := by split <;> omega
  obtain ⟨ρ, e, ⟨kk, he⟩⟩ := pfor_inv (asg := pt (pf k) (.var 3)) (body := px (pf k) cBody) (I := fun i ρ => ∃ kk, ρ = [some (.lst (A.map em)), some (.lst (B.map em)), some (.int (min (lcp A B) i : Nat)), kk])
    (rngL 0 (min A.length B.length : Nat)) 0 [some (.lst (A.map em)), some (.lst (B.map em)), some (.int 0), none] (fun i x ρ hx ⟨kk, hρ⟩ => by
      subst hρ
      obtain ⟨hi, rfl⟩ := rngL_get hx
      have ha : i < A.length := by omega
      have hb : i < B.length := by omega
      refine ⟨_, by simp [pt]; rfl, _, ?_, some (.int (i : Int)), rfl⟩
      have := c_step k A B i A[i] B[i] (by simp [ha]) (by simp [hb])
      simpa using this) ⟨none, by simp⟩
  rw [rngL_len] at he
  have h0 : min (lcp A B) (0 + ((min A.length B.length : Nat) - 0 : Int).toNat) = lcp A B := by
    have := lcp_le A B
    omega
  rw [h0] at he
  subst he
  have e4 : biV .min2 [] [.int (A.length : Nat), .int (B.length : Nat)] = .ok (.int (min A.length B.length : Nat)) [] := by
    show min2B [] (.int A.length) (.int B.length) = _
    unfold min2B
    simp only
    rw [show (if ((B.length : Nat) : Int) < ((A.length : Nat) : Int) then ((B.length : Nat) : Int) else ((A.length : Nat) : Int)) = ((min A.length B.length : Nat) : Int) by split <;> omega]
  have e5 : okR 0 (min A.length B.length : Nat) = true := by
    simp [okR, LIM]
    omega
  have eb : c__law_common.body = (.asg (.var 2) (.cst (.int 0))
  (.for (.var 3) (.rng1 (.bi .min2 (.cons (.bi .len (.cons (.var 0) .nil)) (.cons (.bi .len (.cons (.var 1) .nil)) .nil)))) cBody
  (.ret (.var 2)))) := rfl
  rw [eb]
  show px (pf k) _ [some (.lst (A.map em)), some (.lst (B.map em)), none, none] = _
  have l1 : lenV [] (.lst (A.map em)) = some A.length := by simp [lenV, seqOf, lstOf]
  have l2 : lenV [] (.lst (B.map em)) = some B.length := by simp [lenV, seqOf, lstOf]
  have b1 : ∀ v n, lenV [] v = some n → bqP .len [v] = some (.int (n : Nat)) := fun v n h => by simp [bqP, biV, PM.b1, h, Res.opt, okP]
  have b2 : bqP .min2 [.int (A.length : Nat), .int (B.length : Nat)] = some (.int (min A.length B.length : Nat)) := by
    show okP (biV .min2 [] [.int (A.length : Nat), .int (B.length : Nat)]) = _
    rw [e4]; rfl
  simp only [px, pi, pe, pes, pur, if_true, Option.bind_some, Option.map_some, pt_var, List.getElem?_cons_zero, List.getElem?_cons_succ, List.set_cons_zero, List.set_cons_succ, b1 _ _ l1, b1 _ _ l2, b2, e5, e, PR.seq]
end K22
end
section
namespace K22
open PySem PM
theorem lt_int (i j : Int) : cmpV .lt [] (.int i) (.int j) = some (decide (i < j)) := rfl
theorem gt_int (i j : Int) : cmpV .gt [] (.int i) (.int j) = some (decide (j < i)) := rfl
theorem len_tup (xs : List PV) : bqP .len [.tup xs] = some (.int (xs.length : Nat)) := by simp [bqP, biV, PM.b1, lenV, seqOf, Res.opt, okP]
theorem len_lst (xs : List PV) : bqP .len [.lst xs] = some (.int (xs.length : Nat)) := by simp [bqP, biV, PM.b1, lenV, seqOf, lstOf, Res.opt, okP]
theorem min_int (a b : Nat) : bqP .min2 [.int (a : Int), .int (b : Int)] = some (.int ((min a b : Nat) : Int)) := by
  show okP (min2B [] (.int a) (.int b)) = _
  unfold min2B
  simp only
  rw [show (if ((b : Nat) : Int) < ((a : Nat) : Int) then ((b : Nat) : Int) else ((a : Nat) : Int)) = ((min a b : Nat) : Int) by split <;> omega]
  rfl
theorem sub_int (i j : Int) : okP (bopV .sub [] (.int i) (.int j)) = some (.int (i - j)) := rfl
theorem add_int (i j : Int) : okP (bopV .add [] (.int i) (.int j)) = some (.int (i + j)) := rfl
theorem ix_tup (xs : List PV) (i : Int) : ixV [] (.tup xs) (.int i) = L2.atI xs i := rfl
theorem ix_lst (xs : List PV) (i : Int) : ixV [] (.lst xs) (.int i) = L2.atI xs i := rfl
theorem atI_nat' {xs : List PV} {i : Nat} {v : PV} (h : xs[i]? = some v) : L2.atI xs (i : Int) = some v := by
  unfold L2.atI
  have hi := (List.getElem?_eq_some_iff.mp h).1
  rw [show L2.ixN xs.length (i : Int) = some i by
    unfold L2.ixN
    simp
    omega]
  exact h
def w1c : CE := (.and (.cmp .lt (.var 2) (.bi .len (.cons (.var 0) .nil))) (.and (.cmp .lt (.var 2) (.bi .len (.cons (.var 1) .nil))) (.cmp .eq (.ix (.var 0) (.var 2)) (.ix (.var 1) (.var 2)))))
def w1b : CSs := (.aug 2 .add (.cst (.int 1)) .nil)
def w2c : CE := (.and (.cmp .lt (.var 3) (.var 4)) (.cmp .eq (.ix (.var 0) (.bop .sub (.bop .sub (.bi .len (.cons (.var 0) .nil)) (.cst (.int 1))) (.var 3))) (.ix (.var 1) (.bop .sub (.bop .sub (.bi .len (.cons (.var 1) .nil)) (.cst (.int 1))) (.var 3)))))
def w2b : CSs := (.aug 3 .add (.cst (.int 1)) .nil)
theorem w1b_ok (k : Nat) (a b c d : Option PV) (i : Nat) : px (pf k) w1b [a, b, some (.int (i : Int)), c, d] = some (.nx [a, b, some (.int ((i + 1 : Nat) : Int)), c, d]) := by
  simp [w1b, px, pe, pur, augV, bopV, addV, okP]
theorem w2b_ok (k : Nat) (a b c d : Option PV) (i : Nat) : px (pf k) w2b [a, b, c, some (.int (i : Int)), d] = some (.nx [a, b, c, some (.int ((i + 1 : Nat) : Int)), d]) := by
  simp [w2b, px, pe, pur, augV, bopV, addV, okP]
theorem w1_t (k : Nat) (A B : List Pr) (c d : Option PV) (i : Nat) (h : i < lcp A B) : pB (pf k) w1c [some (.tup (A.map em)), some (.tup (B.map em)), some (.int (i : Int)), c, d] = some true := by
  have hl := lcp_le A B
  have hq := lcp_eq A B i h
  have ha : A[i]? = some (A[i]'(by omega)) := by simp
  have hb : B[i]? = some (B[i]'(by omega)) := by simp
  have e : A[i]'(by omega) = B[i]'(by omega) := by rw [ha, hb] at hq; exact Option.some.inj hq
  have l1 : decide ((i : Int) < ((A.map em).length : Nat)) = true := decide_eq_true (by simp; omega)
  have l2 : decide ((i : Int) < ((B.map em).length : Nat)) = true := decide_eq_true (by simp; omega)
  simp only [pB, w1c, pe, pes, List.getElem?_cons_zero, List.getElem?_cons_succ, Option.bind_some, Option.map_some, len_tup, lt_int, l1, l2, ix_tup, ix_map ha, ix_map hb, eq_em, e, truth, decide_true]
theorem w1_f (k : Nat) (A B : List Pr) (c d : Option PV) : pB (pf k) w1c [some (.tup (A.map em)), some (.tup (B.map em)), some (.int (lcp A B : Nat)), c, d] = some false := by
  by_cases h1 : lcp A B < A.length
  · by_cases h2 : lcp A B < B.length
    · have ha : A[lcp A B]? = some (A[lcp A B]) := by simp [h1]
      have hb : B[lcp A B]? = some (B[lcp A B]) := by simp [h2]
      have e : decide (A[lcp A B] = B[lcp A B]) = false := decide_eq_false (lcp_ne A B _ _ ha hb)
      have l1 : decide (((lcp A B : Nat) : Int) < ((A.map em).length : Nat)) = true := decide_eq_true (by simp; omega)
      have l2 : decide (((lcp A B : Nat) : Int) < ((B.map em).length : Nat)) = true := decide_eq_true (by simp; omega)
      simp only [pB, w1c, pe, pes, List.getElem?_cons_zero, List.getElem?_cons_succ, Option.bind_some, Option.map_some, len_tup, lt_int, l1, l2, ix_tup, ix_map ha, ix_map hb, eq_em, e, truth]
    · have l1 : decide (((lcp A B : Nat) : Int) < ((A.map em).length : Nat)) = true := decide_eq_true (by simp; omega)
      have l2 : decide (((lcp A B : Nat) : Int) < ((B.map em).length : Nat)) = false := decide_eq_false (by simp; omega)
      simp only [pB, w1c, pe, pes, List.getElem?_cons_zero, List.getElem?_cons_succ, Option.bind_some, Option.map_some, len_tup, lt_int, l1, l2, truth]
  · have l1 : decide (((lcp A B : Nat) : Int) < ((A.map em).length : Nat)) = false := decide_eq_false (by simp; omega)
    simp only [pB, w1c, pe, pes, List.getElem?_cons_zero, List.getElem?_cons_succ, Option.bind_some, Option.map_some, len_tup, lt_int, l1, truth]
def lce (A B : List Pr) : Nat := lcp (A.drop (lcp A B)).reverse (B.drop (lcp A B)).reverse
theorem lce_le (A B : List Pr) : lcp A B + lce A B ≤ A.length ∧ lcp A B + lce A B ≤ B.length := by
  have h := lcp_le (A.drop (lcp A B)).reverse (B.drop (lcp A B)).reverse
  have h2 := lcp_le A B
  simp at h
  unfold lce
  omega
theorem back_at (A : List Pr) (b i : Nat) (h : b + i < A.length) : (A.drop b).reverse[i]? = A[A.length - 1 - i]? := by
  rw [List.getElem?_reverse (by simp; omega), List.getElem?_drop, List.length_drop]
  congr 1
  omega
theorem w2_t (k : Nat) (A B : List Pr) (c : Option PV) (i : Nat) (h : i < lce A B) : pB (pf k) w2c [some (.tup (A.map em)), some (.tup (B.map em)), c, some (.int (i : Int)), some (.int ((min A.length B.length - lcp A B : Nat) : Int))] = some true := by
  have hl := lce_le A B
  have hq := lcp_eq _ _ i h
  rw [back_at A _ i (by omega), back_at B _ i (by omega)] at hq
  have ha : A[A.length - 1 - i]? = some (A[A.length - 1 - i]'(by omega)) := by simp
  have hb : B[B.length - 1 - i]? = some (B[B.length - 1 - i]'(by omega)) := by simp
  have e : A[A.length - 1 - i]'(by omega) = B[B.length - 1 - i]'(by omega) := by rw [ha, hb] at hq; exact Option.some.inj hq
  have l1 : decide ((i : Int) < ((min A.length B.length - lcp A B : Nat) : Int)) = true := decide_eq_true (by omega)
  have ca : ((A.map em).length : Int) - 1 - (i : Int) = ((A.length - 1 - i : Nat) : Int) := by simp; omega
  have cb : ((B.map em).length : Int) - 1 - (i : Int) = ((B.length - 1 - i : Nat) : Int) := by simp; omega
  simp only [pB, w2c, pe, pes, pur, if_true, List.getElem?_cons_zero, List.getElem?_cons_succ, Option.bind_some, Option.map_some, len_tup, lt_int, l1, sub_int, ca, cb, ix_tup, ix_map ha, ix_map hb, eq_em, e, truth, decide_true]
theorem w2_f (k : Nat) (A B : List Pr) (c : Option PV) : pB (pf k) w2c [some (.tup (A.map em)), some (.tup (B.map em)), c, some (.int (lce A B : Nat)), some (.int ((min A.length B.length - lcp A B : Nat) : Int))] = some false := by
  have hl := lce_le A B
  by_cases h : lce A B < min A.length B.length - lcp A B
  · have ha : A[A.length - 1 - lce A B]? = some (A[A.length - 1 - lce A B]'(by omega)) := by simp
    have hb : B[B.length - 1 - lce A B]? = some (B[B.length - 1 - lce A B]'(by omega)) := by simp
    have ne := lcp_ne (A.drop (lcp A B)).reverse (B.drop (lcp A B)).reverse (A[A.length - 1 - lce A B]'(by omega)) (B[B.length - 1 - lce A B]'(by omega))
      (by show (A.drop (lcp A B)).reverse[lce A B]? = _; rw [back_at A _ _ (by omega), ha]) (by show (B.drop (lcp A B)).reverse[lce A B]? = _; rw [back_at B _ _ (by omega), hb])
    have e : decide (A[A.length - 1 - lce A B]'(by omega) = B[B.length - 1 - lce A B]'(by omega)) = false := decide_eq_false ne
    have l1 : decide (((lce A B : Nat) : Int) < ((min A.length B.length - lcp A B : Nat) : Int)) = true := decide_eq_true (by omega)
    have ca : ((A.map em).length : Int) - 1 - ((lce A B : Nat) : Int) = ((A.length - 1 - lce A B : Nat) : Int) := by simp; omega
    have cb : ((B.map em).length : Int) - 1 - ((lce A B : Nat) : Int) = ((B.length - 1 - lce A B : Nat) : Int) := by simp; omega
    simp only [pB, w2c, pe, pes, pur, if_true, List.getElem?_cons_zero, List.getElem?_cons_succ, Option.bind_some, Option.map_some, len_tup, lt_int, l1, sub_int, ca, cb, ix_tup, ix_map ha, ix_map hb, eq_em, e, truth]
  · have l1 : decide (((lce A B : Nat) : Int) < ((min A.length B.length - lcp A B : Nat) : Int)) = false := decide_eq_false (by omega)
    simp only [pB, w2c, pe, pes, pur, if_true, List.getElem?_cons_zero, List.getElem?_cons_succ, Option.bind_some, Option.map_some, lt_int, l1, truth]
def come (A B : List Pr) : List Pr := (B.take (B.length - lce A B)).drop (lcp A B)
def spl (A B : List Pr) : PV := .tup [.int (lcp A B : Nat), .int ((A.length - lcp A B - lce A B : Nat) : Int), .lst ((come A B).map em)]
theorem slA_mid (xs : List PV) (i j : Nat) : slA (.tup xs) (some (i : Int)) (some (j : Int)) = some (.tup ((xs.take j).drop i)) := by
  show some (PV.tup (cutP xs _ _)) = _
  rw [cut_mid]
theorem list_tup (xs : List PV) : bqA .list [.tup xs] = some (.lst xs) := by simp [bqA, biV, PM.b1, listB, keysOf, seqOf, Res.opt, new]
theorem list_lst (xs : List PV) : bqA .list [.lst xs] = some (.lst xs) := by simp [bqA, biV, PM.b1, listB, keysOf, seqOf, lstOf, Res.opt, new]
theorem splice_ok (k : Nat) (A B : List Pr) (v w : PV) (hA : A.length < 100) (hB : B.length < 100) (hv : pf k 0 [v] = some (.tup (A.map em))) (hw : pf k 0 [w] = some (.tup (B.map em))) : pf (k + 1) 1 [v, w] = some (spl A B) := by
  refine pf_at (d := c_splice) (r := .ret (spl A B)) rfl rfl rfl ?_ rfl
  have hl := lce_le A B
  have eb : c_splice.body = (.par [0, 1] (.cons (.fz (.call 0 (.cons (.var 0) .nil))) (.cons (.fz (.call 0 (.cons (.var 1) .nil))) .nil))
  (.asg (.var 2) (.cst (.int 0))
  (.wh 100 w1c w1b
  (.asg (.var 3) (.cst (.int 0))
  (.asg (.var 4) (.bop .sub (.bi .min2 (.cons (.bi .len (.cons (.var 0) .nil)) (.cons (.bi .len (.cons (.var 1) .nil)) .nil))) (.var 2))
  (.wh 100 w2c w2b
  (.ret (.tup (.cons (.var 2) (.cons (.bop .sub (.bop .sub (.bi .len (.cons (.var 0) .nil)) (.var 2)) (.var 3)) (.cons (.fz (.bi .list (.cons (.fz (.sl (.var 1) (.some (.var 2)) (.some (.bop .sub (.bi .len (.cons (.var 1) .nil)) (.var 3))))) .nil))) .nil))))))))))) := rfl
  rw [eb]
  show px (pf k) _ [some v, some w, none, none, none] = _
  have l1 := pwh_count (c := pB (pf k) w1c) (body := px (pf k) w1b) (ρ := fun i => [some (.tup (A.map em)), some (.tup (B.map em)), some (.int (i : Nat)), none, none]) (N := lcp A B) (fun i hi => ⟨w1_t k A B _ _ i hi, w1b_ok k _ _ _ _ i⟩) (w1_f k A B _ _) (lcp A B) 0 100 (by omega) (by omega)
  have l2 := pwh_count (c := pB (pf k) w2c) (body := px (pf k) w2b) (ρ := fun i => [some (.tup (A.map em)), some (.tup (B.map em)), some (.int (lcp A B : Nat)), some (.int (i : Nat)), some (.int ((min A.length B.length - lcp A B : Nat) : Int))]) (N := lce A B) (fun i hi => ⟨w2_t k A B _ i hi, w2b_ok k _ _ _ _ i⟩) (w2_f k A B _) (lce A B) 0 100 (by omega) (by omega)
  have c1 : ((min A.length B.length : Nat) : Int) - (lcp A B : Nat) = ((min A.length B.length - lcp A B : Nat) : Int) := by omega
  have c2 : ((A.length : Nat) : Int) - (lcp A B : Nat) - (lce A B : Nat) = ((A.length - lcp A B - lce A B : Nat) : Int) := by omega
  have c3 : ((B.length : Nat) : Int) - (lce A B : Nat) = ((B.length - lce A B : Nat) : Int) := by omega
  have z : (PV.int 0) = .int ((0 : Nat) : Int) := rfl
  simp only [px, pe, pa, pes, po, pur, if_true, Option.bind_some, Option.map_some, pt_var, List.getElem?_cons_zero, List.getElem?_cons_succ, List.set_cons_zero, List.set_cons_succ, hv, hw, par2, PR.seq]
  rw [z, l1]
  simp only [px, pe, pa, pes, po, pur, if_true, Option.bind_some, Option.map_some, pt_var, List.getElem?_cons_zero, List.getElem?_cons_succ, List.set_cons_zero, List.set_cons_succ, PR.seq, len_tup, List.length_map, min_int, sub_int, c1]
  rw [l2]
  simp only [px, pe, pa, pes, po, pur, if_true, Option.bind_some, Option.map_some, pt_var, List.getElem?_cons_zero, List.getElem?_cons_succ, List.set_cons_zero, List.set_cons_succ, PR.seq, len_tup, List.length_map, sub_int, c2, c3, slA_mid, list_tup]
  rw [if_pos (by simp [LIM])]
  simp [spl, come, List.map_drop, List.map_take]
end K22
end
section
namespace K22
open PySem PM
theorem add_lst {xs ys : List PV} (h : xs.length + ys.length ≤ LIM) : bopA .add (.lst xs) (.lst ys) = some (.lst (xs ++ ys)) := by
  simp [bopA, bopV, addV, trk, Res.opt, h, Res.need, new]
theorem addA_int (i j : Int) : bopA .add (.int i) (.int j) = some (.int (i + j)) := rfl
theorem slA_to (xs : List PV) (j : Nat) : slA (.tup xs) none (some (j : Int)) = some (.tup (xs.take j)) := by
  show some (PV.tup (cutP xs _ _)) = _
  rw [cut_to]
theorem slA_from (xs : List PV) (j : Nat) : slA (.tup xs) (some (j : Int)) none = some (.tup (xs.drop j)) := by
  show some (PV.tup (cutP xs _ _)) = _
  rw [cut_from]
theorem slL_to (xs : List PV) (j : Nat) : slA (.lst xs) none (some (j : Int)) = some (.lst (xs.take j)) := by
  show some (PV.lst (cutP xs _ _)) = _
  rw [cut_to]
theorem slL_from (xs : List PV) (j : Nat) : slA (.lst xs) (some (j : Int)) none = some (.lst (xs.drop j)) := by
  show some (PV.lst (cutP xs _ _)) = _
  rw [cut_from]
theorem slL_mid (xs : List PV) (i j : Nat) : slA (.lst xs) (some (i : Int)) (some (j : Int)) = some (.lst ((xs.take j).drop i)) := by
  show some (PV.lst (cutP xs _ _)) = _
  rw [cut_mid]
theorem spliced_ok (k : Nat) (A C : List Pr) (b g : Nat) (v w ch : PV) (hA : A.length < 1000) (hC : C.length < 1000) (hs : seqOf [] ch = some [.int (b : Int), .int (g : Int), w]) (hv : pf k 0 [v] = some (.tup (A.map em))) (hw : pf k 0 [w] = some (.tup (C.map em))) :
    pf (k + 1) 2 [v, ch] = some (.lst ((A.take b ++ C ++ A.drop (b + g)).map em)) := by
  refine pf_at (d := c_spliced) (r := .ret (.lst ((A.take b ++ C ++ A.drop (b + g)).map em))) rfl rfl rfl ?_ rfl
  have eb : c_spliced.body = (.asg (.tup (.cons (.var 3) (.cons (.var 4) (.cons (.var 5) .nil)))) (.var 1)
  (.asg (.var 2) (.fz (.call 0 (.cons (.var 0) .nil)))
  (.ret (.fz (.bop .add (.fz (.bop .add (.fz (.bi .list (.cons (.fz (.sl (.var 2) .none (.some (.var 3)))) .nil))) (.fz (.bi .list (.cons (.fz (.call 0 (.cons (.var 5) .nil))) .nil))))) (.fz (.bi .list (.cons (.fz (.sl (.var 2) (.some (.fz (.bop .add (.var 3) (.var 4)))) .none)) .nil)))))))) := rfl
  rw [eb]
  show px (pf k) _ [some v, some ch, none, none, none, none] = _
  have pt3 : ∀ (x y z : PV) (ρ : PM.Env), seqOf [] ch = some [x, y, z] → pt (pf k) (.tup (.cons (.var 3) (.cons (.var 4) (.cons (.var 5) .nil)))) ch ρ = some (((ρ.set 3 (some x)).set 4 (some y)).set 5 (some z)) := fun x y z ρ h => by simp [pt, pts, h]
  have c1 : ((b : Nat) : Int) + (g : Nat) = ((b + g : Nat) : Int) := by omega
  simp only [px, pe, pa, pes, po, pur, if_true, Option.bind_some, Option.map_some, pt_var, List.getElem?_cons_zero, List.getElem?_cons_succ, List.set_cons_zero, List.set_cons_succ, pt3 _ _ _ _ hs, hv, hw, slA_to, list_tup, addA_int, c1, slA_from]
  rw [add_lst (by simp [LIM]; omega)]
  simp only [Option.bind_some]
  rw [add_lst (by simp [LIM]; omega)]
  simp [List.map_take, List.map_drop]
end K22
end
section
namespace K22
open PySem PM
theorem fdiv_int (i j : Int) (h : 0 < j) (h2 : j < 1073741824) : okP (bopV .fdiv [] (.int i) (.int j)) = some (.int (i / j)) := by
  simp [bopV, fdivV, h, h2, Res.need, okP]
theorem mod_int (i j : Int) (h : 0 < j) : okP (bopV .mod [] (.int i) (.int j)) = some (.int (i % j)) := by
  simp [bopV, modV, h, Res.need, okP]
def lBody : CSs := (.asg (.var 4) (.bop .mod (.bop .fdiv (.var 3) (.cst (.int 5))) (.bop .add (.bi .len (.cons (.var 2) .nil)) (.cst (.int 1))))
   (.iff (.cmp .eq (.bop .mod (.var 3) (.cst (.int 5))) (.cst (.int 0)))
    (.asg (.var 2) (.fz (.bop .add (.fz (.bop .add (.fz (.sl (.var 2) .none (.some (.var 4)))) (.fz (.lst (.cons (.tup (.cons (.cst (.str "low")) (.cons (.bop .mod (.bop .fdiv (.var 3) (.cst (.int 7))) (.cst (.int 4))) .nil))) .nil))))) (.fz (.sl (.var 2) (.some (.var 4)) .none))))
    .nil)
    (.iff (.cmp .eq (.bop .mod (.var 3) (.cst (.int 5))) (.cst (.int 1)))
     (.asg (.var 2) (.fz (.bop .add (.fz (.sl (.var 2) .none (.some (.var 4)))) (.fz (.sl (.var 2) (.some (.bop .add (.bop .add (.var 4) (.cst (.int 1))) (.bop .mod (.bop .fdiv (.var 3) (.cst (.int 11))) (.cst (.int 3))))) .none))))
     .nil)
     (.iff (.cmp .eq (.bop .mod (.var 3) (.cst (.int 5))) (.cst (.int 2)))
      (.asg (.var 2) (.fz (.bop .add (.fz (.bop .add (.fz (.sl (.var 2) .none (.some (.var 4)))) (.fz (.rev (.fz (.sl (.var 2) (.some (.var 4)) (.some (.bop .add (.var 4) (.cst (.int 4)))))))))) (.fz (.sl (.var 2) (.some (.bop .add (.var 4) (.cst (.int 4)))) .none))))
      .nil)
      (.iff (.cmp .eq (.bop .mod (.var 3) (.cst (.int 5))) (.cst (.int 3)))
       (.asg (.var 2) (.fz (.bop .add (.fz (.bop .add (.fz (.sl (.var 2) .none (.some (.var 4)))) (.fz (.sl (.var 2) (.some (.var 4)) (.some (.bop .add (.var 4) (.cst (.int 3)))))))) (.fz (.sl (.var 2) (.some (.var 4)) .none))))
       .nil)
       (.asg (.var 2) (.fz (.bop .add (.fz (.sl (.var 2) (.some (.var 4)) .none)) (.fz (.sl (.var 2) .none (.some (.var 4))))))
       .nil)
      .nil)
     .nil)
    .nil)
   .nil))
theorem l_step (k : Nat) (s a q r : Option PV) (B : List Pr) (x : Int) (hB : B.length ≤ 100) :
    ∃ (B' : List Pr) (q' : Option PV), px (pf k) lBody [s, a, some (.lst (B.map em)), some (.int x), r] = some (.nx [s, a, some (.lst (B'.map em)), some (.int x), q']) ∧ B'.length ≤ B.length + 4 := by
  have ht : x / 5 % ((B.length : Int) + 1) = (((x / 5 % ((B.length : Int) + 1)).toNat : Nat) : Int) := (Int.toNat_of_nonneg (Int.emod_nonneg _ (by omega))).symm
  generalize (x / 5 % ((B.length : Int) + 1)).toNat = t at ht
  have hu : x / 11 % 3 = (((x / 11 % 3).toNat : Nat) : Int) := (Int.toNat_of_nonneg (Int.emod_nonneg _ (by omega))).symm
  generalize (x / 11 % 3).toNat = u at hu
  have c4 : (t : Int) + 4 = ((t + 4 : Nat) : Int) := by omega
  have c3 : (t : Int) + 3 = ((t + 3 : Nat) : Int) := by omega
  have c1 : (t : Int) + 1 + (u : Int) = ((t + 1 + u : Nat) : Int) := by omega
  have hm : okP (bopV .mod [] (.int x) (.int 5)) = some (.int (x % 5)) := mod_int x 5 (by omega)
  have f5 : okP (bopV .fdiv [] (.int x) (.int 5)) = some (.int (x / 5)) := fdiv_int x 5 (by omega) (by omega)
  have f7 : okP (bopV .fdiv [] (.int x) (.int 7)) = some (.int (x / 7)) := fdiv_int x 7 (by omega) (by omega)
  have f11 : okP (bopV .fdiv [] (.int x) (.int 11)) = some (.int (x / 11)) := fdiv_int x 11 (by omega) (by omega)
  have m4 : okP (bopV .mod [] (.int (x / 7)) (.int 4)) = some (.int (x / 7 % 4)) := mod_int _ 4 (by omega)
  have m3 : okP (bopV .mod [] (.int (x / 11)) (.int 3)) = some (.int (x / 11 % 3)) := mod_int _ 3 (by omega)
  have ml : okP (bopV .mod [] (.int (x / 5)) (.int ((B.length : Int) + 1))) = some (.int (x / 5 % ((B.length : Int) + 1))) := mod_int _ _ (by omega)
  have rv : ∀ xs : List PV, (lstOf [] (.lst xs)) = some xs := fun _ => rfl
  have z0 : lBody = lBody := rfl
  by_cases h0 : x % 5 = 0
  · refine ⟨B.take t ++ [(false, x / 7 % 4)] ++ B.drop t, some (.int t), ?_, by simp; omega⟩
    simp only [lBody, px, pB, pe, pa, pes, po, pur, if_true, Option.bind_some, Option.map_some, pt_var, List.getElem?_cons_zero, List.getElem?_cons_succ, List.set_cons_zero, List.set_cons_succ, len_lst, List.length_map, hm, f5, add_int, ml, ht, eq_int, h0, decide_true, truth, PR.seq, slL_to, slL_from, f7, m4]
    simp [LIM, add_lst, em, tx, List.map_take, List.map_drop, PR.seq]
    rw [add_lst (by simp [LIM]; omega)]
    simp
    rw [add_lst (by simp [LIM]; omega)]
    simp
  have d0 : decide (x % 5 = 0) = false := decide_eq_false h0
  by_cases h1 : x % 5 = 1
  · refine ⟨B.take t ++ B.drop (t + 1 + u), some (.int t), ?_, by simp; omega⟩
    simp only [lBody, px, pB, pe, pa, pes, po, pur, if_true, if_false, Bool.false_eq_true, Option.bind_some, Option.map_some, pt_var, List.getElem?_cons_zero, List.getElem?_cons_succ, List.set_cons_zero, List.set_cons_succ, len_lst, List.length_map, hm, f5, add_int, ml, ht, eq_int, d0, h1, decide_true, truth, PR.seq, slL_to, slL_from, slL_mid, f7, m4, f11, m3, hu, c1, c3, c4, rv]
    repeat (rw [add_lst (by simp [LIM]; omega)]; simp only [Option.bind_some, pt_var, List.set_cons_zero, List.set_cons_succ, PR.seq])
    simp [em, tx, List.map_take, List.map_drop]
  have d1 : decide (x % 5 = 1) = false := decide_eq_false h1
  by_cases h2 : x % 5 = 2
  · refine ⟨B.take t ++ ((B.take (t + 4)).drop t).reverse ++ B.drop (t + 4), some (.int t), ?_, by simp; omega⟩
    simp only [lBody, px, pB, pe, pa, pes, po, pur, if_true, if_false, Bool.false_eq_true, Option.bind_some, Option.map_some, pt_var, List.getElem?_cons_zero, List.getElem?_cons_succ, List.set_cons_zero, List.set_cons_succ, len_lst, List.length_map, hm, f5, add_int, ml, ht, eq_int, d0, d1, h2, decide_true, truth, PR.seq, slL_to, slL_from, slL_mid, f7, m4, f11, m3, hu, c1, c3, c4, rv]
    repeat (rw [add_lst (by simp [LIM]; omega)]; simp only [Option.bind_some, pt_var, List.set_cons_zero, List.set_cons_succ, PR.seq])
    simp [em, tx, List.map_take, List.map_drop]
  have d2 : decide (x % 5 = 2) = false := decide_eq_false h2
  by_cases h3 : x % 5 = 3
  · refine ⟨B.take t ++ (B.take (t + 3)).drop t ++ B.drop t, some (.int t), ?_, by simp; omega⟩
    simp only [lBody, px, pB, pe, pa, pes, po, pur, if_true, if_false, Bool.false_eq_true, Option.bind_some, Option.map_some, pt_var, List.getElem?_cons_zero, List.getElem?_cons_succ, List.set_cons_zero, List.set_cons_succ, len_lst, List.length_map, hm, f5, add_int, ml, ht, eq_int, d0, d1, d2, h3, decide_true, truth, PR.seq, slL_to, slL_from, slL_mid, f7, m4, f11, m3, hu, c1, c3, c4, rv]
    repeat (rw [add_lst (by simp [LIM]; omega)]; simp only [Option.bind_some, pt_var, List.set_cons_zero, List.set_cons_succ, PR.seq])
    simp [em, tx, List.map_take, List.map_drop]
  have d3 : decide (x % 5 = 3) = false := decide_eq_false h3
  refine ⟨B.drop t ++ B.take t, some (.int t), ?_, by simp; omega⟩
  simp only [lBody, px, pB, pe, pa, pes, po, pur, if_true, if_false, Bool.false_eq_true, Option.bind_some, Option.map_some, pt_var, List.getElem?_cons_zero, List.getElem?_cons_succ, List.set_cons_zero, List.set_cons_succ, len_lst, List.length_map, hm, f5, add_int, ml, ht, eq_int, d0, d1, d2, d3, decide_true, truth, PR.seq, slL_to, slL_from, slL_mid, f7, m4, f11, m3, hu, c1, c3, c4, rv]
  repeat (rw [add_lst (by simp [LIM]; omega)]; simp only [Option.bind_some, pt_var, List.set_cons_zero, List.set_cons_succ, PR.seq])
  simp [em, tx, List.map_take, List.map_drop]
end K22
end
section
namespace K22
open PySem PM
theorem len_ro (xs : List PV) : bqP .len [.ro xs] = some (.int (xs.length : Nat)) := by simp [bqP, biV, PM.b1, lenV, seqOf, lstOf, Res.opt, okP]
theorem cell_ok (k : Nat) (ns : List Int) (i : Nat) : pf (k + 1) 3 [.ro (ns.map .int), .int (i : Int)] = some (.int (ns.getD i 0)) := by
  refine pf_at (d := c__law_cell) (r := .ret (.int (ns.getD i 0))) rfl rfl rfl ?_ rfl
  show px (pf k) c__law_cell.body [some (.ro (ns.map .int)), some (.int (i : Int))] = _
  have eb : c__law_cell.body = (.iff (.cmp .lt (.var 1) (.bi .len (.cons (.var 0) .nil)))
   (.ret (.ix (.var 0) (.var 1)))
   .nil
  (.ret (.cst (.int 0)))) := rfl
  rw [eb]
  have ixr : ∀ (xs : List PV) (j : Int), ixV [] (.ro xs) (.int j) = L2.atI xs j := fun _ _ => rfl
  by_cases h : i < ns.length
  · have l1 : decide ((i : Int) < (ns.length : Nat)) = true := decide_eq_true (by omega)
    have e : (ns.map PV.int)[i]? = some (.int ns[i]) := by simp [h]
    have e2 : ns.getD i 0 = ns[i] := by simp [h]
    simp only [px, pB, pe, pes, pur, if_true, Option.bind_some, Option.map_some, List.getElem?_cons_zero, List.getElem?_cons_succ, len_ro, List.length_map, lt_int, l1, truth, ixr, atI_nat' e, PR.seq, e2]
  · have l1 : decide ((i : Int) < (ns.length : Nat)) = false := decide_eq_false (by omega)
    have e2 : ns.getD i 0 = 0 := by simp [h]
    simp only [px, pB, pe, pes, pur, if_true, Bool.false_eq_true, if_false, Option.bind_some, Option.map_some, List.getElem?_cons_zero, List.getElem?_cons_succ, len_ro, List.length_map, lt_int, l1, truth, PR.seq, e2]
theorem row_pf (k : Nat) (c n : Int) (h : okR 0 n = true) : pf (k + 1) 4 [.int c, .int n] = some (.lst ((rowL c n.toNat).map .int)) := by
  show prun (tabOf defs) ov (k + 1) 4 _ = _
  simp only [prun]
  simp [ov, h]
theorem emod_ok (c : Int) (m : Nat) (h : 0 < m) (h2 : m ≤ 100) : okR 0 (c % (m : Int)) = true ∧ (c % (m : Int)).toNat < m := by
  have a := Int.emod_nonneg c (show (m : Int) ≠ 0 by omega)
  have b := Int.emod_lt_of_pos c (show 0 < (m : Int) by omega)
  refine ⟨?_, by omega⟩
  simp [okR, LIM]
  omega
def mkP (x : Int) : Pr := (decide (x % 2 = 1), x / 2 % 4)
def lElt : CE := (.tup (.cons (.ix (.fz (.lst (.cons (.cst (.str "low")) (.cons (.cst (.str "high")) .nil)))) (.bop .mod (.var 3) (.cst (.int 2)))) (.cons (.bop .mod (.bop .fdiv (.var 3) (.cst (.int 2))) (.cst (.int 4))) .nil)))
theorem elt_ok (k : Nat) (a b c d : Option PV) (x : Int) : pe (pf k) lElt [a, b, c, some (.int x), d] = some (em (mkP x)) := by
  have m2 : okP (bopV .mod [] (.int x) (.int 2)) = some (.int (x % 2)) := mod_int x 2 (by omega)
  have f2 : okP (bopV .fdiv [] (.int x) (.int 2)) = some (.int (x / 2)) := fdiv_int x 2 (by omega) (by omega)
  have m4 : okP (bopV .mod [] (.int (x / 2)) (.int 4)) = some (.int (x / 2 % 4)) := mod_int _ 4 (by omega)
  have hx : x % 2 = 0 ∨ x % 2 = 1 := by omega
  rcases hx with h | h
  · have e : L2.atI [PV.str "low", PV.str "high"] 0 = some (.str "low") := rfl
    simp only [lElt, pe, pa, pes, pur, if_true, Option.bind_some, Option.map_some, List.getElem?_cons_zero, List.getElem?_cons_succ, m2, f2, m4, h]
    rw [if_pos (by simp [LIM])]
    simp only [Option.bind_some, ix_lst, e, Option.map_some]
    rw [if_pos (by simp [LIM])]
    simp [em, mkP, tx, h]
  · have e : L2.atI [PV.str "low", PV.str "high"] 1 = some (.str "high") := rfl
    simp only [lElt, pe, pa, pes, pur, if_true, Option.bind_some, Option.map_some, List.getElem?_cons_zero, List.getElem?_cons_succ, m2, f2, m4, h]
    rw [if_pos (by simp [LIM])]
    simp only [Option.bind_some, ix_lst, e, Option.map_some]
    rw [if_pos (by simp [LIM])]
    simp [em, mkP, tx, h]
theorem slR_mid (xs : List PV) (i j : Nat) : slA (.ro xs) (some (i : Int)) (some (j : Int)) = some (.lst ((xs.take j).drop i)) := by
  show some (PV.lst (cutP xs _ _)) = _
  rw [cut_mid]
theorem lists_ok (k : Nat) (ns : List Int) : ∃ A B : List Pr, A.length < 100 ∧ B.length < 100 ∧ pf (k + 2) 5 [.ro (ns.map .int)] = some (.lst [.lst (A.map em), .lst (B.map em)]) := by
  obtain ⟨ok1, ln1⟩ := emod_ok (ns.getD 1 0) 41 (by omega) (by omega)
  obtain ⟨ok3, ln3⟩ := emod_ok (ns.getD 3 0) 5 (by omega) (by omega)
  have ok1 : okR 0 (ns.getD 1 0 % 41) = true := ok1
  have ok3 : okR 0 (ns.getD 3 0 % 5) = true := ok3
  have ln1 : (ns.getD 1 0 % 41).toNat < 41 := ln1
  have ln3 : (ns.getD 3 0 % 5).toNat < 5 := ln3
  generalize hr1 : rowL (ns.getD 0 0) (ns.getD 1 0 % 41).toNat = r1
  generalize hr2 : rowL (ns.getD 2 0) (ns.getD 3 0 % 5).toNat = r2
  have l1 : r1.length < 41 := by rw [← hr1, rowL_len]; exact ln1
  have l2 : r2.length < 5 := by rw [← hr2, rowL_len]; exact ln3
  have e1 := row_pf k (ns.getD 0 0) _ ok1
  have e2 := row_pf k (ns.getD 2 0) _ ok3
  rw [hr1] at e1
  rw [hr2] at e2
  have c0 := cell_ok k ns 0
  have c1 := cell_ok k ns 1
  have c2 := cell_ok k ns 2
  have c3 := cell_ok k ns 3
  have m41 : okP (bopV .mod [] (.int (ns.getD 1 0)) (.int 41)) = some (.int (ns.getD 1 0 % 41)) := mod_int _ 41 (by omega)
  have m5 : okP (bopV .mod [] (.int (ns.getD 3 0)) (.int 5)) = some (.int (ns.getD 3 0 % 5)) := mod_int _ 5 (by omega)
  have comp : pcomp (fun x => pt (pf (k + 1)) (.var 3) x (wipe [some (.ro (ns.map .int)), none, none, none, none] [3])) (pb (pf (k + 1)) .none) (pe (pf (k + 1)) lElt) (r1.map .int) = some ((r1.map mkP).map em) := by
    rw [List.map_map, show (r1.map (em ∘ mkP)) = (r1.map PV.int).map (fun v => match v with | .int x => em (mkP x) | v => v) by rw [List.map_map]; rfl]
    refine pcomp_map fun x hx => ?_
    obtain ⟨y, _, rfl⟩ := List.mem_map.mp hx
    exact ⟨_, pt_var _ _, by simp [pb], elt_ok (k + 1) _ _ _ _ y⟩
  have lxs : (r2.map PV.int ++ ((ns.map PV.int).take 9).drop 4).length < 10 := by simp; omega
  obtain ⟨ρ, e, B, q, r, he, hB⟩ := pfor_inv (asg := pt (pf (k + 1)) (.var 3)) (body := px (pf (k + 1)) lBody) (I := fun i ρ => ∃ B q r, ρ = [some (.ro (ns.map .int)), some (.lst ((r1.map mkP).map em)), some (.lst (B.map em)), q, r] ∧ B.length ≤ 40 + 4 * i)
    (r2.map PV.int ++ ((ns.map PV.int).take 9).drop 4) 0 [some (.ro (ns.map .int)), some (.lst ((r1.map mkP).map em)), some (.lst ((r1.map mkP).map em)), none, none] (fun i x ρ hx ⟨B, q, r, hρ, hB⟩ => by
      subst hρ
      have hi := (List.getElem?_eq_some_iff.mp hx).1
      obtain ⟨y, rfl⟩ : ∃ y : Int, x = .int y := by
        have := List.mem_of_getElem? hx
        rcases List.mem_append.mp this with h | h
        · obtain ⟨y, _, rfl⟩ := List.mem_map.mp h; exact ⟨y, rfl⟩
        · obtain ⟨y, _, rfl⟩ := List.mem_map.mp (List.mem_of_mem_take (List.mem_of_mem_drop h)); exact ⟨y, rfl⟩
      obtain ⟨B', q', e1, e2⟩ := l_step (k + 1) (some (.ro (ns.map .int))) (some (.lst ((r1.map mkP).map em))) none r B y (by omega)
      exact ⟨_, pt_var _ _, _, e1, B', _, _, rfl, by omega⟩) ⟨r1.map mkP, none, none, rfl, by simp; omega⟩
  subst he
  refine ⟨r1.map mkP, B, by simp; omega, by omega, ?_⟩
  refine pf_at (k := k + 1) (d := c__law_lists) (r := .ret (.lst [.lst ((r1.map mkP).map em), .lst (B.map em)])) rfl rfl rfl ?_ rfl
  show px (pf (k + 1)) c__law_lists.body [some (.ro (ns.map .int)), none, none, none, none] = _
  have eb : c__law_lists.body = (.asg (.var 1) (.fz (.comp lElt [3] (.var 3) (.seq (.fz (.call 4 (.cons (.fz (.call 3 (.cons (.var 0) (.cons (.cst (.int 0)) .nil)))) (.cons (.bop .mod (.fz (.call 3 (.cons (.var 0) (.cons (.cst (.int 1)) .nil)))) (.cst (.int 41))) .nil))))) .none))
  (.asg (.var 2) (.fz (.bi .list (.cons (.var 1) .nil)))
  (.for (.var 3) (.seq (.fz (.bop .add (.fz (.call 4 (.cons (.fz (.call 3 (.cons (.var 0) (.cons (.cst (.int 2)) .nil)))) (.cons (.bop .mod (.fz (.call 3 (.cons (.var 0) (.cons (.cst (.int 3)) .nil)))) (.cst (.int 5))) .nil)))) (.fz (.sl (.var 0) (.some (.cst (.int 4))) (.some (.cst (.int 9)))))))) lBody
  (.ret (.fz (.lst (.cons (.var 1) (.cons (.var 2) .nil)))))))) := rfl
  rw [eb]
  have sq : ∀ xs : List PV, seqOf [] (.lst xs) = some xs := fun _ => rfl
  have z0 : (PV.int 0) = .int ((0 : Nat) : Int) := rfl
  have z1 : (PV.int 1) = .int ((1 : Nat) : Int) := rfl
  have z2 : (PV.int 2) = .int ((2 : Nat) : Int) := rfl
  have z3 : (PV.int 3) = .int ((3 : Nat) : Int) := rfl
  have s49 : slA (.ro (ns.map .int)) (some 4) (some 9) = some (.lst (((ns.map .int).take 9).drop 4)) := slR_mid _ 4 9
  have c0 : pf (k + 1) 3 [.ro (ns.map .int), .int 0] = some (.int (ns.getD 0 0)) := c0
  have c1 : pf (k + 1) 3 [.ro (ns.map .int), .int 1] = some (.int (ns.getD 1 0)) := c1
  have c2 : pf (k + 1) 3 [.ro (ns.map .int), .int 2] = some (.int (ns.getD 2 0)) := c2
  have c3 : pf (k + 1) 3 [.ro (ns.map .int), .int 3] = some (.int (ns.getD 3 0)) := c3
  simp only [px, pi, pe, pa, pes, po, pur, if_true, Option.bind_some, Option.map_some, pt_var, List.getElem?_cons_zero, List.getElem?_cons_succ, List.set_cons_zero, List.set_cons_succ, c0, c1, c2, c3, m41, m5, e1, e2, sq, comp, list_lst, s49]
  rw [if_pos (by simp [LIM]; omega)]
  simp only [pt_var] at comp
  rw [comp]
  simp only [px, pi, pe, pa, pes, po, pur, if_true, Option.bind_some, Option.map_some, pt_var, List.getElem?_cons_zero, List.getElem?_cons_succ, List.set_cons_zero, List.set_cons_succ, list_lst]
  rw [add_lst (by simp [LIM]; omega)]
  simp only [Option.bind_some, sq, e, PR.seq, List.getElem?_cons_zero, List.getElem?_cons_succ, Option.map_some]
  rw [if_pos (by simp [LIM])]
  rfl
end K22
end
section
namespace K22
open PySem PM
theorem end_eq (A B : List Pr) : A.drop (A.length - lce A B) = B.drop (B.length - lce A B) := by
  have hl := lce_le A B
  apply List.ext_getElem?
  intro i
  rw [List.getElem?_drop, List.getElem?_drop]
  by_cases h : i < lce A B
  · have q := lcp_eq (A.drop (lcp A B)).reverse (B.drop (lcp A B)).reverse (lce A B - 1 - i) (by show _ < lce A B; omega)
    rw [back_at A _ _ (by omega), back_at B _ _ (by omega)] at q
    rw [show A.length - lce A B + i = A.length - 1 - (lce A B - 1 - i) by omega, show B.length - lce A B + i = B.length - 1 - (lce A B - 1 - i) by omega]
    exact q
  · rw [List.getElem?_eq_none (by omega), List.getElem?_eq_none (by omega)]
theorem glue (A B : List Pr) : A.take (lcp A B) ++ come A B ++ A.drop (lcp A B + (A.length - lcp A B - lce A B)) = B := by
  have hl := lce_le A B
  rw [lcp_take, show lcp A B + (A.length - lcp A B - lce A B) = A.length - lce A B by omega, end_eq]
  have e : B.take (lcp A B) ++ come A B = B.take (B.length - lce A B) := by
    unfold come
    have := List.take_append_drop (lcp A B) (B.take (B.length - lce A B))
    rw [List.take_take, Nat.min_eq_left (by omega)] at this
    exact this
  rw [e, List.take_append_drop]
def gone (A B : List Pr) : List Pr := (A.take (lcp A B + (A.length - lcp A B - lce A B))).drop (lcp A B)
theorem gone_len (A B : List Pr) : (gone A B).length = A.length - lcp A B - lce A B := by
  have hl := lce_le A B
  simp [gone]; omega
theorem come_len (A B : List Pr) : (come A B).length = B.length - lcp A B - lce A B := by
  have hl := lce_le A B
  simp [come]; omega
theorem first_ne (A B : List Pr) (p q : Pr) (hp : (gone A B)[0]? = some p) (hq : (come A B)[0]? = some q) : p ≠ q := by
  have h1 := (List.getElem?_eq_some_iff.mp hp).1
  have h2 := (List.getElem?_eq_some_iff.mp hq).1
  rw [gone_len] at h1
  rw [come_len] at h2
  unfold gone at hp
  unfold come at hq
  rw [List.getElem?_drop, List.getElem?_take, if_pos (by omega)] at hp hq
  exact lcp_ne A B p q (by simpa using hp) (by simpa using hq)
theorem last_ne (A B : List Pr) (p q : Pr) (hp : (gone A B)[(gone A B).length - 1]? = some p) (hq : (come A B)[(come A B).length - 1]? = some q) : p ≠ q := by
  have hl := lce_le A B
  have h1 := (List.getElem?_eq_some_iff.mp hp).1
  have h2 := (List.getElem?_eq_some_iff.mp hq).1
  rw [gone_len] at h1 hp
  rw [come_len] at h2 hq
  unfold gone at hp
  unfold come at hq
  rw [List.getElem?_drop, List.getElem?_take, if_pos (by omega)] at hp hq
  refine lcp_ne (A.drop (lcp A B)).reverse (B.drop (lcp A B)).reverse p q ?_ ?_
  · show (A.drop (lcp A B)).reverse[lce A B]? = _
    rw [back_at A _ _ (by omega), ← hp]
    congr 1
    omega
  · show (B.drop (lcp A B)).reverse[lce A B]? = _
    rw [back_at B _ _ (by omega), ← hq]
    congr 1
    omega
theorem atI_end {xs : List PV} {v : PV} (h : xs[xs.length - 1]? = some v) : L2.atI xs (-1) = some v := by
  have hi := (List.getElem?_eq_some_iff.mp h).1
  unfold L2.atI
  rw [show L2.ixN xs.length (-1) = some (xs.length - 1) by
    unfold L2.ixN
    simp
    omega]
  exact h
def gBody : CSs := (.asg (.var 4) (.fz (.call 6 (.cons (.var 2) (.cons (.var 3) .nil))))
   (.asg (.var 5) (.fz (.call 6 (.cons (.fz (.rev (.fz (.sl (.var 2) (.some (.var 4)) .none)))) (.cons (.fz (.rev (.fz (.sl (.var 3) (.some (.var 4)) .none)))) .nil))))
   (.asg (.var 6) (.fz (.lst (.cons (.fz (.bi .list (.cons (.var 2) .nil))) (.cons (.fz (.bi .list (.cons (.var 3) .nil))) .nil))))
   (.asg (.var 7) (.fz (.call 1 (.cons (.ix (.var 6) (.cst (.int 0))) (.cons (.ix (.var 6) (.cst (.int 1))) .nil))))
   (.iff (.or (.not (.isi (.var 7) [.tuple])) (.cmp .ne (.var 7) (.tup (.cons (.var 4) (.cons (.bop .sub (.bop .sub (.bi .len (.cons (.var 2) .nil)) (.var 4)) (.var 5)) (.cons (.fz (.sl (.var 3) (.some (.var 4)) (.some (.bop .sub (.bi .len (.cons (.var 3) .nil)) (.var 5))))) .nil))))))
    (.ret (.cst (.bl false)))
    .nil
   (.iff (.or (.cmp .ne (.fz (.call 1 (.cons (.fz (.comp (.fz (.bi .list (.cons (.var 9) .nil))) [9] (.var 9) (.seq (.var 2)) .none)) (.cons (.bi .tuple (.cons (.var 3) .nil)) .nil)))) (.var 7)) (.cmp .ne (.fz (.call 2 (.cons (.fz (.comp (.fz (.bi .list (.cons (.var 9) .nil))) [9] (.var 9) (.seq (.var 2)) .none)) (.cons (.fz (.bi .list (.cons (.var 7) .nil))) .nil)))) (.var 3)))
    (.ret (.cst (.bl false)))
    .nil
   (.iff (.or (.cmp .ne (.var 6) (.fz (.lst (.cons (.var 2) (.cons (.var 3) .nil))))) (.or (.cmp .ne (.fz (.call 2 (.cons (.ix (.var 6) (.cst (.int 0))) (.cons (.var 7) .nil)))) (.var 3)) (.cmp .ne (.var 6) (.fz (.lst (.cons (.var 2) (.cons (.var 3) .nil)))))))
    (.ret (.cst (.bl false)))
    .nil
   (.asg (.var 8) (.fz (.sl (.var 2) (.some (.var 4)) (.some (.fz (.bop .add (.var 4) (.ix (.var 7) (.cst (.int 1))))))))
   (.iff (.and (.cmp .gt (.bi .len (.cons (.var 8) .nil)) (.cst (.int 0))) (.and (.cmp .gt (.bi .len (.cons (.ix (.var 7) (.cst (.int 2))) .nil)) (.cst (.int 0))) (.or (.cmp .eq (.ix (.var 8) (.cst (.int 0))) (.ix (.ix (.var 7) (.cst (.int 2))) (.cst (.int 0)))) (.cmp .eq (.ix (.var 8) (.neg (.cst (.int 1)))) (.ix (.ix (.var 7) (.cst (.int 2))) (.neg (.cst (.int 1))))))))
    (.ret (.cst (.bl false)))
    .nil
   .nil)))))))))
def gC1 : CE := (.or (.not (.isi (.var 7) [.tuple])) (.cmp .ne (.var 7) (.tup (.cons (.var 4) (.cons (.bop .sub (.bop .sub (.bi .len (.cons (.var 2) .nil)) (.var 4)) (.var 5)) (.cons (.fz (.sl (.var 3) (.some (.var 4)) (.some (.bop .sub (.bi .len (.cons (.var 3) .nil)) (.var 5))))) .nil))))))
def gComp : CE := (.comp (.fz (.bi .list (.cons (.var 9) .nil))) [9] (.var 9) (.seq (.var 2)) .none)
def gC2 : CE := (.or (.cmp .ne (.fz (.call 1 (.cons (.fz gComp) (.cons (.bi .tuple (.cons (.var 3) .nil)) .nil)))) (.var 7)) (.cmp .ne (.fz (.call 2 (.cons (.fz gComp) (.cons (.fz (.bi .list (.cons (.var 7) .nil))) .nil)))) (.var 3)))
def gC3 : CE := (.or (.cmp .ne (.var 6) (.fz (.lst (.cons (.var 2) (.cons (.var 3) .nil))))) (.or (.cmp .ne (.fz (.call 2 (.cons (.ix (.var 6) (.cst (.int 0))) (.cons (.var 7) .nil)))) (.var 3)) (.cmp .ne (.var 6) (.fz (.lst (.cons (.var 2) (.cons (.var 3) .nil)))))))
def gC4 : CE := (.and (.cmp .gt (.bi .len (.cons (.var 8) .nil)) (.cst (.int 0))) (.and (.cmp .gt (.bi .len (.cons (.ix (.var 7) (.cst (.int 2))) .nil)) (.cst (.int 0))) (.or (.cmp .eq (.ix (.var 8) (.cst (.int 0))) (.ix (.ix (.var 7) (.cst (.int 2))) (.cst (.int 0)))) (.cmp .eq (.ix (.var 8) (.neg (.cst (.int 1)))) (.ix (.ix (.var 7) (.cst (.int 2))) (.neg (.cst (.int 1))))))))
section
variable (k : Nat) (A B : List Pr) (hA : A.length < 100) (hB : B.length < 100) (s l g o : Option PV)
def env (A B : List Pr) (s l g o : Option PV) : PM.Env := [s, l, some (.lst (A.map em)), some (.lst (B.map em)), some (.int (lcp A B : Nat)), some (.int (lce A B : Nat)), some (.lst [.lst (A.map em), .lst (B.map em)]), some (spl A B), g, o]
include hA hB in
theorem c1_ok : pB (pf k) gC1 (env A B s l g o) = some false := by
  have hl := lce_le A B
  have i1 : isiV [] noCf (spl A B) [.tuple] = some true := rfl
  have c2 : ((A.length : Nat) : Int) - (lcp A B : Nat) - (lce A B : Nat) = ((A.length - lcp A B - lce A B : Nat) : Int) := by omega
  have c3 : ((B.length : Nat) : Int) - (lce A B : Nat) = ((B.length - lce A B : Nat) : Int) := by omega
  have ts : PV.tup [.int (lcp A B : Nat), .int ((A.length - lcp A B - lce A B : Nat) : Int), .lst (((B.map em).take (B.length - lce A B)).drop (lcp A B))] = spl A B := by
    simp [spl, come, List.map_take, List.map_drop]
  have ne := ne_self (res_dat (lcp A B : Nat) ((A.length - lcp A B - lce A B : Nat) : Int) (come A B))
  have ne : cmpV .ne [] (spl A B) (spl A B) = some false := ne
  simp only [gC1, env, pB, pe, pa, pes, po, pur, if_true, Option.bind_some, Option.map_some, List.getElem?_cons_zero, List.getElem?_cons_succ, i1, truth, Bool.not_true, len_lst, List.length_map, sub_int, c2, c3, slL_mid]
  rw [if_pos (by simp [LIM])]
  simp only [Option.bind_some, ts, ne, Option.map_some, truth]
include hA in
theorem comp_ok (ρ : PM.Env) (h : ρ[2]? = some (some (.lst (A.map em)))) (hn : ρ.length = 10) : pa (pf k) gComp ρ = some (.lst (A.map el)) := by
  have e : pcomp (fun x => pt (pf k) (.var 9) x (wipe ρ [9])) (pb (pf k) .none) (pe (pf k) (.fz (.bi .list (.cons (.var 9) .nil)))) (A.map em) = some (A.map el) := by
    rw [show A.map el = (A.map em).map (fun v => match v with | .tup xs => .lst xs | v => v) by rw [List.map_map]; rfl]
    refine pcomp_map fun x hx => ?_
    obtain ⟨p, _, rfl⟩ := List.mem_map.mp hx
    refine ⟨_, pt_var _ _, by simp [pb], ?_⟩
    have g9 : ((wipe ρ [9]).set 9 (some (em p)))[9]? = some (some (em p)) := by
      rw [List.getElem?_set_self]
      simp [wipe, hn]
    simp only [pe, pa, pes, g9, Option.bind_some, Option.map_some]
    exact list_tup _
  simp only [gComp, pa, pi, pe, h, Option.bind_some]
  rw [show seqOf [] (.lst (A.map em)) = some (A.map em) from rfl]
  simp only [Option.bind_some]
  simp only [pe, pa] at e
  rw [if_pos (by simp [LIM]; omega), e]
  rfl
include hA hB in
theorem c2_ok : pB (pf (k + 4)) gC2 (env A B s l g o) = some false := by
  have hl := lce_le A B
  have e1 := comp_ok (k + 4) A hA (env A B s l g o) rfl rfl
  have e2 : pf (k + 4) 1 [.lst (A.map el), .tup (B.map em)] = some (spl A B) := splice_ok (k + 3) A B _ _ hA hB (fz_lstl k A (by simp [LIM]; omega)) (fz_tup k B (by simp [LIM]; omega))
  have e3 := spliced_ok (k + 3) A (come A B) (lcp A B) (A.length - lcp A B - lce A B) (.lst (A.map el)) (.lst ((come A B).map em)) (.lst [.int (lcp A B : Nat), .int ((A.length - lcp A B - lce A B : Nat) : Int), .lst ((come A B).map em)]) (by omega) (by rw [come_len]; omega) rfl (fz_lstl k A (by simp [LIM]; omega)) (fz_lst k (come A B) (by rw [come_len]; simp [LIM]; omega))
  rw [glue] at e3
  have ne1 : cmpV .ne [] (spl A B) (spl A B) = some false := ne_self (res_dat (lcp A B : Nat) ((A.length - lcp A B - lce A B : Nat) : Int) (come A B))
  have ne2 := ne_self (lst_dat B)
  have tp : bqP .tuple [.lst (B.map em)] = some (.tup (B.map em)) := by simp [bqP, biV, PM.b1, tupB, lstOf, Res.opt, okP]
  have ls : bqA .list [spl A B] = some (.lst [.int (lcp A B : Nat), .int ((A.length - lcp A B - lce A B : Nat) : Int), .lst ((come A B).map em)]) := list_tup _
  have pc : ∀ f es ρ, pa (pf (k + 4)) (.call f es) ρ = (pes (pf (k + 4)) es ρ).bind fun vs => pf (k + 4) f vs := fun f es ρ => by simp [pa]
  simp only [gC2, pB, pe, pc, pes, e1, Option.bind_some, Option.map_some]
  simp only [env, pe, pa, pes, List.getElem?_cons_zero, List.getElem?_cons_succ, Option.bind_some, Option.map_some, tp, e2, ne1, ls, e3, ne2, truth]
include hA hB in
theorem c3_ok : pB (pf (k + 4)) gC3 (env A B s l g o) = some false := by
  have hl := lce_le A B
  have e3 := spliced_ok (k + 3) A (come A B) (lcp A B) (A.length - lcp A B - lce A B) (.lst (A.map em)) (.lst ((come A B).map em)) (spl A B) (by omega) (by rw [come_len]; omega) rfl (fz_lst k A (by simp [LIM]; omega)) (fz_lst k (come A B) (by rw [come_len]; simp [LIM]; omega))
  rw [glue] at e3
  have ne2 := ne_self (lst_dat B)
  have ne3 := ne_self (two_dat A B)
  have i0 : L2.atI [PV.lst (A.map em), .lst (B.map em)] 0 = some (.lst (A.map em)) := rfl
  have hL : ([PV.lst (A.map em), .lst (B.map em)] : List PV).length ≤ LIM := by simp [LIM]
  simp only [gC3, env, pB, pe, pa, pes, pur, if_true, List.getElem?_cons_zero, List.getElem?_cons_succ, Option.bind_some, Option.map_some, if_pos hL, ne3, ix_lst, i0, e3, ne2, truth]
theorem c4_ok (hA : A.length < 100) (hB : B.length < 100) : pB (pf k) gC4 (env A B s l (some (.lst ((gone A B).map em))) o) = some false := by
  have hl := lce_le A B
  have i2 : L2.atI [PV.int (lcp A B : Nat), .int ((A.length - lcp A B - lce A B : Nat) : Int), .lst ((come A B).map em)] 2 = some (.lst ((come A B).map em)) := rfl
  by_cases h1 : 0 < (gone A B).length
  · by_cases h2 : 0 < (come A B).length
    · have d1 : decide ((0 : Int) < ((gone A B).length : Nat)) = true := decide_eq_true (by omega)
      have d2 : decide ((0 : Int) < ((come A B).length : Nat)) = true := decide_eq_true (by omega)
      have g0 : (gone A B)[0]? = some (gone A B)[0] := by simp [h1]
      have m0 : (come A B)[0]? = some (come A B)[0] := by simp [h2]
      have g1 : (gone A B)[(gone A B).length - 1]? = some ((gone A B)[(gone A B).length - 1]'(by omega)) := by simp
      have m1 : (come A B)[(come A B).length - 1]? = some ((come A B)[(come A B).length - 1]'(by omega)) := by simp
      have n0 : decide ((gone A B)[0] = (come A B)[0]) = false := decide_eq_false (first_ne A B _ _ g0 m0)
      have n1 : decide ((gone A B)[(gone A B).length - 1]'(by omega) = (come A B)[(come A B).length - 1]'(by omega)) = false := decide_eq_false (last_ne A B _ _ g1 m1)
      have a0 : L2.atI ((gone A B).map em) 0 = some (em (gone A B)[0]) := ix_map g0
      have b0 : L2.atI ((come A B).map em) 0 = some (em (come A B)[0]) := ix_map m0
      have a1 : L2.atI ((gone A B).map em) (-1) = some (em ((gone A B)[(gone A B).length - 1]'(by omega))) := atI_end (by rw [List.length_map, List.getElem?_map, g1]; rfl)
      have b1 : L2.atI ((come A B).map em) (-1) = some (em ((come A B)[(come A B).length - 1]'(by omega))) := atI_end (by rw [List.length_map, List.getElem?_map, m1]; rfl)
      simp only [gC4, env, pB, pe, pa, pes, pur, if_true, List.getElem?_cons_zero, List.getElem?_cons_succ, Option.bind_some, Option.map_some, len_lst, List.length_map, gt_int, d1, spl, ix_tup, i2, d2, ix_lst, a0, b0, eq_em, n0, a1, b1, n1, truth]
    · have d1 : decide ((0 : Int) < ((gone A B).length : Nat)) = true := decide_eq_true (by omega)
      have d2 : decide ((0 : Int) < ((come A B).length : Nat)) = false := decide_eq_false (by omega)
      simp only [gC4, env, pB, pe, pa, pes, pur, if_true, List.getElem?_cons_zero, List.getElem?_cons_succ, Option.bind_some, Option.map_some, len_lst, List.length_map, gt_int, d1, spl, ix_tup, i2, d2, truth]
  · have d1 : decide ((0 : Int) < ((gone A B).length : Nat)) = false := decide_eq_false (by omega)
    simp only [gC4, env, pB, pe, pa, pes, pur, if_true, List.getElem?_cons_zero, List.getElem?_cons_succ, Option.bind_some, Option.map_some, len_lst, List.length_map, gt_int, d1, truth]
include hA hB in
theorem g_step (x4 x5 x6 x7 x8 x9 : Option PV) : ∃ y4 y5 y6 y7 y8, px (pf (k + 4)) gBody [s, l, some (.lst (A.map em)), some (.lst (B.map em)), x4, x5, x6, x7, x8, x9] = some (.nx [s, l, some (.lst (A.map em)), some (.lst (B.map em)), y4, y5, y6, y7, y8, x9]) := by
  have hl := lce_le A B
  have e1 : pf (k + 4) 6 [.lst (A.map em), .lst (B.map em)] = some (.int (lcp A B : Nat)) := common_ok (k + 3) A B (by omega) (by omega)
  have e2 : pf (k + 4) 6 [.lst ((A.map em).drop (lcp A B)).reverse, .lst ((B.map em).drop (lcp A B)).reverse] = some (.int (lce A B : Nat)) := by
    rw [← List.map_drop, ← List.map_reverse, ← List.map_drop, ← List.map_reverse]
    exact common_ok (k + 3) _ _ (by simp; omega) (by simp; omega)
  have e3 : pf (k + 4) 1 [.lst (A.map em), .lst (B.map em)] = some (spl A B) := splice_ok (k + 3) A B _ _ hA hB (fz_lst k A (by simp [LIM]; omega)) (fz_lst k B (by simp [LIM]; omega))
  have rl : ∀ xs : List PV, lstOf [] (.lst xs) = some xs := fun _ => rfl
  have hL : ([PV.lst (A.map em), .lst (B.map em)] : List PV).length ≤ LIM := by simp [LIM]
  have i0 : L2.atI [PV.lst (A.map em), .lst (B.map em)] 0 = some (.lst (A.map em)) := rfl
  have i1 : L2.atI [PV.lst (A.map em), .lst (B.map em)] 1 = some (.lst (B.map em)) := rfl
  have c1 := c1_ok (k + 4) A B hA hB s l x8 x9
  have c2 := c2_ok k A B hA hB s l x8 x9
  have c3 := c3_ok k A B hA hB s l x8 x9
  have c4 := c4_ok (k + 4) A B s l x9 hA hB
  have j1 : L2.atI [PV.int (lcp A B : Nat), .int ((A.length - lcp A B - lce A B : Nat) : Int), .lst ((come A B).map em)] 1 = some (.int ((A.length - lcp A B - lce A B : Nat) : Int)) := rfl
  have cs : ((lcp A B : Nat) : Int) + ((A.length - lcp A B - lce A B : Nat) : Int) = ((lcp A B + (A.length - lcp A B - lce A B) : Nat) : Int) := by omega
  have gg : PV.lst (((A.map em).take (lcp A B + (A.length - lcp A B - lce A B))).drop (lcp A B)) = .lst ((gone A B).map em) := by simp [gone, List.map_take, List.map_drop]
  have eb : gBody = (.asg (.var 4) (.fz (.call 6 (.cons (.var 2) (.cons (.var 3) .nil))))
   (.asg (.var 5) (.fz (.call 6 (.cons (.fz (.rev (.fz (.sl (.var 2) (.some (.var 4)) .none)))) (.cons (.fz (.rev (.fz (.sl (.var 3) (.some (.var 4)) .none)))) .nil))))
   (.asg (.var 6) (.fz (.lst (.cons (.fz (.bi .list (.cons (.var 2) .nil))) (.cons (.fz (.bi .list (.cons (.var 3) .nil))) .nil))))
   (.asg (.var 7) (.fz (.call 1 (.cons (.ix (.var 6) (.cst (.int 0))) (.cons (.ix (.var 6) (.cst (.int 1))) .nil))))
   (.iff gC1 (.ret (.cst (.bl false))) .nil
   (.iff gC2 (.ret (.cst (.bl false))) .nil
   (.iff gC3 (.ret (.cst (.bl false))) .nil
   (.asg (.var 8) (.fz (.sl (.var 2) (.some (.var 4)) (.some (.fz (.bop .add (.var 4) (.ix (.var 7) (.cst (.int 1))))))))
   (.iff gC4 (.ret (.cst (.bl false))) .nil
   .nil))))))))) := rfl
  unfold env at c1 c2 c3 c4
  refine ⟨some (.int (lcp A B : Nat)), some (.int (lce A B : Nat)), some (.lst [.lst (A.map em), .lst (B.map em)]), some (spl A B), some (.lst ((gone A B).map em)), ?_⟩
  rw [eb]
  simp only [px, pe, pa, pes, po, pur, if_true, Option.bind_some, Option.map_some, pt_var, List.getElem?_cons_zero, List.getElem?_cons_succ, List.set_cons_zero, List.set_cons_succ, e1, slL_from, rl, e2, list_lst, if_pos hL, ix_lst, i0, i1, e3, c1, c2, c3, Bool.false_eq_true, if_false, PR.seq]
  rw [show ixV [] (spl A B) (.int 1) = some (.int ((A.length - lcp A B - lce A B : Nat) : Int)) from j1]
  simp only [px, Option.bind_some, addA_int, cs, slL_mid, gg, pt_var, List.set_cons_zero, List.set_cons_succ, c4, Bool.false_eq_true, if_false, PR.seq]
end
end K22
end
section
namespace K22
open PySem PM
theorem law_plain (ns : List Int) : pf 20 7 [.ro (ns.map .int)] = some (.bl true) := by
  obtain ⟨A, B, hA, hB, eL⟩ := lists_ok 17 ns
  have eL : pf 19 5 [.ro (ns.map .int)] = some (.lst [.lst (A.map em), .lst (B.map em)]) := eL
  refine pf_at (k := 19) (d := c_law) (r := .ret (.bl true)) rfl rfl rfl ?_ rfl
  show px (pf 19) c_law.body [some (.ro (ns.map .int)), none, none, none, none, none, none, none, none, none] = _
  have eb : c_law.body = (.asg (.var 1) (.fz (.call 5 (.cons (.var 0) .nil)))
  (.for (.tup (.cons (.var 2) (.cons (.var 3) .nil))) (.seq (.fz (.lst (.cons (.var 1) (.cons (.fz (.rev (.var 1))) (.cons (.fz (.lst (.cons (.ix (.var 1) (.cst (.int 0))) (.cons (.ix (.var 1) (.cst (.int 0))) .nil)))) .nil)))))) gBody
  (.ret (.cst (.bl true))))) := rfl
  rw [eb]
  have tt : ∀ (x y : PV) (ρ : PM.Env), pt (pf 19) (.tup (.cons (.var 2) (.cons (.var 3) .nil))) (.lst [x, y]) ρ = some ((ρ.set 2 (some x)).set 3 (some y)) := fun x y ρ => by simp [pt, pts, seqOf, lstOf]
  have st : ∀ (A B : List Pr), A.length < 100 → B.length < 100 → ∀ (s l x2 x3 x4 x5 x6 x7 x8 x9 : Option PV), ∃ y4 y5 y6 y7 y8, px (pf 19) gBody [s, l, some (.lst (A.map em)), some (.lst (B.map em)), x4, x5, x6, x7, x8, x9] = some (.nx [s, l, some (.lst (A.map em)), some (.lst (B.map em)), y4, y5, y6, y7, y8, x9]) :=
    fun A B hA hB s l x2 x3 x4 x5 x6 x7 x8 x9 => g_step 15 A B hA hB s l x4 x5 x6 x7 x8 x9
  have rl : ∀ xs : List PV, lstOf [] (.lst xs) = some xs := fun _ => rfl
  have sq : ∀ xs : List PV, seqOf [] (.lst xs) = some xs := fun _ => rfl
  have i0 : L2.atI [PV.lst (A.map em), .lst (B.map em)] 0 = some (.lst (A.map em)) := rfl
  have h2 : ([PV.lst (A.map em), .lst (A.map em)] : List PV).length ≤ LIM := by simp [LIM]
  have h3 : ([PV.lst [.lst (A.map em), .lst (B.map em)], .lst ([PV.lst (A.map em), .lst (B.map em)].reverse), .lst [.lst (A.map em), .lst (A.map em)]] : List PV).length ≤ LIM := by simp [LIM]
  simp only [px, pi, pe, pa, pes, pur, if_true, Option.bind_some, Option.map_some, pt_var, List.getElem?_cons_zero, List.getElem?_cons_succ, List.set_cons_zero, List.set_cons_succ, eL, rl, ix_lst, i0, if_pos h2, if_pos h3, sq]
  simp only [List.reverse_cons, List.reverse_nil, List.nil_append, List.cons_append]
  obtain ⟨a4, a5, a6, a7, a8, s1⟩ := st A B hA hB (some (.ro (ns.map .int))) (some (.lst [.lst (A.map em), .lst (B.map em)])) none none none none none none none none
  obtain ⟨b4, b5, b6, b7, b8, s2⟩ := st B A hB hA (some (.ro (ns.map .int))) (some (.lst [.lst (A.map em), .lst (B.map em)])) none none a4 a5 a6 a7 a8 none
  obtain ⟨d4, d5, d6, d7, d8, s3⟩ := st A A hA hA (some (.ro (ns.map .int))) (some (.lst [.lst (A.map em), .lst (B.map em)])) none none b4 b5 b6 b7 b8 none
  simp only [pfor, tt, Option.bind_some, List.set_cons_zero, List.set_cons_succ, s1, s2, s3, PR.seq, Option.map_some]
end K22
end
section
open PySem PySem.W PySem.Calls PyProof.Rows
theorem PySem.Challenge.cw_piecetold_k22_splices_holds : PySem.Challenge.rw_piecetold_k22_splices.Holds := by
  exact K22.holds_of fun ns _ => K22.fz_true (K22.answers_of (K22.law_plain ns))
end
