import PyProof.Rows.All
import Wide.All
import OpenK.AllK
import Wide.FinOn
import PyProof.ReprReads
import PyProof.P3Statements
import HandS.ForExc
import HandS.Dict
import HandS.OwnEq
import HandS.TryMany
import HandS.Wide
import HandS.ExcInit
import HandS.IsInst
import PyProof.CallStr
import HandS.Ends
import HandS.Words
import PySem.Challenge.RW_gradetalk_k01_degrees
set_option Elab.async false
set_option linter.all false
set_option maxRecDepth 100000
set_option maxHeartbeats 4000000
/-! The deep values, the small language, its evaluator. No program in sight. -/
namespace G4
open PySem (PyData)

/-- deep values -/
inductive D where
  | non | bl (b : Bool) | int (i : Int) | str (x : List Nat)
  | tup (l : List D) | lst (l : List D) | dct (l : List (D × D)) | obj (c : Nat) (l : List D) | scr (l : List Int)
/-- what a slot holds: shared; or owned by the slot alone -/
inductive R where
  | sh (d : D) | ol (l : List D) | od (l : List (D × D)) | oi (c : Nat) (l : List R) | lk (l : List D)

inductive Bo where | add | sub | mul | fdiv | mod | pow | band | shr
inductive Co where | eq | ne | lt | le | gt | ge | is | isn | mem | nmem
inductive Ty where | int | bool | str | tup | lst | dct | cls (c : Nat)
inductive Bf where | len | abs | int | str | lst | tup | max | min | sum | sorted | all | dct | set
mutual
inductive E where
  | var (i : Nat) | cst (d : D) | glb (g : Nat)
  | bin (o : Bo) (a b : E) | neg (a : E) | inv (a : E) | no (a : E)
  | cmp (o : Co) (a b : E) | cm2 (o p : Co) (a b c : E)
  | and (a b : E) | or (a b : E) | ite (c a b : E)
  | tup (es : Es) | lst (es : Es) | dc0
  | ix (a b : E) | ixd (es : Es) (b : E)
  | att (a : E) (f : Nat)
  | cal (f : Nat) (es : Es) | calk (f : Nat) (es ks : Es) (p : List Nat)
  | blt (f : Bf) (es : Es)
  | isi (a : E) (c : Ty)
inductive Es where
  | nil | cons (e : E) (es : Es)
end
inductive Tg where
  | nm (i : Nat) | tp (l : List Nat)
inductive It where
  | rng (es : Es) | seq (e : E)
/-- an except suite: t = [..], the items constants or fields of the error -/
inductive Su where
  | lst (t : Nat) (l : List (D ⊕ Nat)) | cst (t : Nat) (d : D)
mutual
inductive S where
  | ex (e : E) | asg (t : Tg) (e : E) | par (l : List Nat) (es : Es)
  | sidx (i : Nat) (k : E) (e : E)
  | iff (c : E) (a b : Ss) | whl (c : E) (b : Ss) | fr (t : Tg) (it : It) (b : Ss)
  | ret (e : E) | retn | rse (c : Nat) (es : Es) | try_ (b : Ss) (hs : List (Nat × Option Nat × Su))
  | pass | brk | cnt
inductive Ss where
  | nil | cons (s : S) (r : Ss)
end

abbrev Env := List (Option R)
inductive Rs (α : Type) where
  | ok (a : α) (ρ : Env) | ex (c : Nat) (fs : List D) (ρ : Env) | no
inductive Sr where
  | nx (ρ : Env) | rt (r : R) (ρ : Env) | bk (ρ : Env) | ct (ρ : Env) | ex (c : Nat) (fs : List D) (ρ : Env) | no
/-- a call's end: the answer, and what the parameters hold behind it -/
inductive Cr where
  | ok (r : R) (fin : List R) | ex (c : Nat) (fs : List D) (fin : List R) | no
def Rs.bind {α β : Type} : Rs α → (α → Env → Rs β) → Rs β
  | .ok a ρ, f => f a ρ
  | .ex c fs ρ, _ => .ex c fs ρ
  | .no, _ => .no
def Rs.st {α : Type} : Rs α → (α → Env → Sr) → Sr
  | .ok a ρ, f => f a ρ
  | .ex c fs ρ, _ => .ex c fs ρ
  | .no, _ => .no
def lft {α : Type} : Option α → Env → Rs α
  | some a, ρ => .ok a ρ
  | none, _ => .no

def LEN : Nat := 1000000
def LIM : Nat := 2 ^ 8000

/-! ### sharing -/
mutual
def frz : R → Option D
  | .sh d => some d
  | .ol l => some (.lst l)
  | .od l => some (.dct l)
  | .oi c l => match frzs l with
    | some ds => some (.obj c ds)
    | none => none
  | .lk _ => none
def frzs : List R → Option (List D)
  | [] => some []
  | r :: l => match frz r, frzs l with
    | some d, some ds => some (d :: ds)
    | _, _ => none
end
/-- what a thing looks like -/
def snap : R → D
  | .sh d => d
  | .ol l => .lst l
  | .od l => .dct l
  | .lk l => .lst l
  | .oi c _ => .obj c []

/-! ### data -/
mutual
def toP : D → Option PyData
  | .non => some .none
  | .bl b => some (.bool b)
  | .int i => some (.int i)
  | .str x => some (.str ⟨x.toArray⟩)
  | .tup l => match toPs l with
    | some ds => some (.tuple ds)
    | none => none
  | .lst l => match toPs l with
    | some ds => some (.list ds)
    | none => none
  | .dct l => match toPk l with
    | some ds => some (.dict ds)
    | none => none
  | .obj _ _ => none
  | .scr _ => none
def toPk : List (D × D) → Option (List (PyData × PyData))
  | [] => some []
  | (k, v) :: l => match toP k, toP v, toPk l with
    | some a, some b, some as => some ((a, b) :: as)
    | _, _, _ => none
def toPs : List D → Option (List PyData)
  | [] => some []
  | d :: l => match toP d, toPs l with
    | some a, some as => some (a :: as)
    | _, _ => none
end
mutual
/-- a bound for the length of str(d), of its innards -/
def bnd : D → Nat
  | .non => 10
  | .bl _ => 10
  | .int _ => 2000
  | .str x => if x.all (· < 128) then 4 * x.length + 10 else 2000000
  | .tup l => bnds l + 10
  | .lst l => bnds l + 10
  | .dct l => bndk l + 10
  | .obj _ _ => 0
  | .scr _ => 0
def bndk : List (D × D) → Nat
  | [] => 0
  | (k, v) :: l => bnd k + bnd v + bndk l + 10
def bnds : List D → Nat
  | [] => 0
  | d :: l => bnd d + bnds l + 10
end
def plainB (d : PyData) : Bool := d.canLay0 && decide (d.depth ≤ 60)
/-- == of data -/
def eqP (d e : D) : Option Bool :=
  match toP d, toP e with
  | some a, some b => if plainB a && plainB b then some (PyData.eqv a b) else none
  | _, _ => none
def eqD : D → D → Option Bool
  | .str x, .str y => some (x == y)
  | d, e => eqP d e
theorem eqD_cases {d e : D} {b : Bool} (h : eqD d e = some b) : (∃ x y, d = .str x ∧ e = .str y ∧ b = (x == y)) ∨ eqP d e = some b := by
  unfold eqD at h
  split at h
  · cases h; exact .inl ⟨_, _, rfl, rfl, rfl⟩
  · exact .inr h
/-- str(d) -/
def shwD (d : D) : Option (List Nat) :=
  match d with
  | .str x => some x
  | d => match toP d with
    | some a => if a.showable && decide (a.depth ≤ 60) && decide (bnd d ≤ LEN) then some a.shown.cps.toList else none
    | none => none
def pyIx (n : Nat) (i : Int) : Option Nat := if 0 ≤ i then (if i < n then some i.toNat else none) else if -(n : Int) ≤ i then some (i + n).toNat else none
def atD {α : Type} (l : List α) (i : Int) : Option α := (pyIx l.length i).bind fun k => l[k]?
def idxD : D → D → Option D
  | .tup l, .int i => atD l i
  | .lst l, .int i => atD l i
  | .scr l, .int i => (atD l i).map .int
  | .str x, .int i => (if x.length ≤ LEN then atD x i else none).map fun c => .str [c]
  | _, _ => none
def mulOk (i j : Int) : Bool := decide (i.natAbs.log2 + j.natAbs.log2 < 1000000)
def divOk (j : Int) : Bool := decide (0 < j) && decide (j.natAbs.log2 < 9000)
def powOk (i j : Int) : Bool := decide (0 ≤ j) && decide (((i.natAbs.log2 + 1 : Nat) : Int) * j ≤ 100000)
def binD : Bo → D → D → Option R
  | .add, .int i, .int j => some (.sh (.int (i + j)))
  | .add, .str x, .str y => if x.length + y.length ≤ LEN then some (.sh (.str (x ++ y))) else none
  | .add, .lst l, .lst m => if l.length + m.length ≤ LEN then some (.ol (l ++ m)) else none
  | .sub, .int i, .int j => some (.sh (.int (i - j)))
  | .mul, .int i, .int j => if mulOk i j then some (.sh (.int (i * j))) else none
  | .fdiv, .int i, .int j => if divOk j then some (.sh (.int (i / j))) else none
  | .mod, .int i, .int j => if 0 < j then some (.sh (.int (i % j))) else none
  | .pow, .int i, .int j => if powOk i j then some (.sh (.int (i ^ j.toNat))) else none
  | _, _, _ => none
def isNon : D → Bool
  | .non => true
  | _ => false
def cmpD : Co → D → D → Option Bool
  | .eq, d, e => eqD d e
  | .ne, d, e => (eqD d e).map (!·)
  | .lt, .int i, .int j => some (decide (i < j))
  | .le, .int i, .int j => some (decide (i ≤ j))
  | .gt, .int i, .int j => some (decide (j < i))
  | .ge, .int i, .int j => some (decide (j ≤ i))
  | .is, .bl a, .bl b => some (a == b)
  | .isn, .bl a, .bl b => some (!(a == b))
  | .is, d, .non => some (isNon d)
  | .isn, d, .non => some (!isNon d)
  | _, _, _ => none
def cmpR (o : Co) (d e : D) : Option R := (cmpD o d e).map fun b => .sh (.bl b)
def idxR (d e : D) : Option R := (idxD d e).map .sh
def isD : Ty → D → Bool
  | .int, .int _ => true
  | .int, .bl _ => true
  | .bool, .bl _ => true
  | .str, .str _ => true
  | .tup, .tup _ => true
  | .lst, .lst _ => true
  | .lst, .scr _ => true
  | .dct, .dct _ => true
  | .cls c, .obj c' _ => c == c'
  | _, _ => false
def bltD : Bf → List D → Option R
  | .len, [.tup l] => some (.sh (.int l.length))
  | .len, [.lst l] => some (.sh (.int l.length))
  | .len, [.scr l] => some (.sh (.int l.length))
  | .len, [.str x] => if x.length ≤ LEN then some (.sh (.int x.length)) else none
  | .abs, [.int i] => some (.sh (.int (if i < 0 then -i else i)))
  | .int, [.int i] => some (.sh (.int i))
  | .int, [.bl b] => some (.sh (.int (if b then 1 else 0)))
  | .max, [.int i, .int j] => some (.sh (.int (if j > i then j else i)))
  | .min, [.int i, .int j] => some (.sh (.int (if j < i then j else i)))
  | .lst, [.tup l] => some (.ol l)
  | .lst, [.lst l] => some (.ol l)
  | .str, [d] => match shwD d with
    | some x => some (.sh (.str x))
    | none => none
  | _, _ => none

/-! ### the table of a text -/
structure Fd where
  np : Nat
  nn : Nat
  reb : List Nat
  dfl : List D
  body : Ss
structure Gam where
  fn : List Fd
  glob : List D
  /-- the exception classes: each one's line upwards, itself first -/
  anc : List (List Nat)

/-! ### expressions -/
/-- an argument: a thing, or the slot whose thing is lent -/
inductive Ag where
  | val (r : R) | ref (i : Nat)
def takeA : List Ag → Env → Option (List R × Env)
  | [], ρ => some ([], ρ)
  | .val r :: as, ρ => match takeA as ρ with
    | some (rs, ρ') => some (r :: rs, ρ')
    | none => none
  | .ref i :: as, ρ => match ρ[i]? with
    | some (some r) => match takeA as (ρ.set i none) with
      | some (rs, ρ') => some (r :: rs, ρ')
      | none => none
    | _ => none
def putA : List Ag → List R → Env → Env
  | .ref i :: as, r :: rs, ρ => putA as rs (ρ.set i (some r))
  | .val _ :: as, _ :: rs, ρ => putA as rs ρ
  | _, _, ρ => ρ
def callA (cal : List R → Cr) (p : List R → Option (List R)) (as : List Ag) (ρ : Env) : Rs R :=
  match takeA as ρ with
  | some (rs, ρ1) => match p rs with
    | some rs => match cal rs with
      | .ok r fin => .ok r (putA as fin ρ1)
      | .ex c fs fin => .ex c fs (putA as fin ρ1)
      | .no => .no
    | none => .no
  | none => .no
def rdv (i : Nat) (ρ : Env) : Rs R :=
  match ρ[i]? with
  | some (some (.sh d)) => .ok (.sh d) ρ
  | some (some r) => match frz r with
    | some d => .ok (.sh d) (ρ.set i (some (.sh d)))
    | none => .no
  | _ => .no
/-- lent: what a slot holds, looked at where it stands -/
def bor (e : E) (ρ : Env) (x : Rs R) : Rs R :=
  match e with
  | .var i => match ρ[i]? with
    | some (some r) => .ok r ρ
    | _ => .no
  | _ => x
def atom : E → Bool
  | .var _ => true
  | .cst _ => true
  | .glb _ => true
  | .lst .nil => true
  | _ => false
/-- the left one of two -/
def bor2 (e b : E) (ρ : Env) (x : Rs R) : Rs R := if atom b then bor e ρ x else x
def tst {α : Type} (x : Rs R) (f : Bool → Env → Rs α) : Rs α := x.bind fun r ρ => match r with
  | .sh (.bl b) => f b ρ
  | _ => .no
def agv (e : E) (ρ : Env) (x : Rs R) : Rs Ag :=
  match e with
  | .var i => match ρ[i]? with
    | some (some (.sh d)) => .ok (.val (.sh d)) ρ
    | some (some (.lk _)) => .no
    | some (some _) => .ok (.ref i) ρ
    | _ => .no
  | _ => x.bind fun r ρ => .ok (.val r) ρ
def dfl (fd : Fd) (rs : List R) : List R := rs ++ (fd.dfl.drop (fd.dfl.length - (fd.np - rs.length))).map .sh
def picks {α : Type} : List Nat → List α → Option (List α)
  | [], _ => some []
  | k :: p, l => match l[k]?, picks p l with
    | some x, some xs => some (x :: xs)
    | _, _ => none
section
variable (Γ : Gam) (cal : Nat → List R → Cr)
mutual
def ev : E → Env → Rs R
  | .var i, ρ => rdv i ρ
  | .cst d, ρ => .ok (.sh d) ρ
  | .glb g, ρ => match Γ.glob[g]? with
    | some d => .ok (.sh d) ρ
    | none => .no
  | .bin o a b, ρ => (bor2 a b ρ (ev a ρ)).bind fun x ρ => (bor b ρ (ev b ρ)).bind fun y ρ => lft (binD o (snap x) (snap y)) ρ
  | .neg a, ρ => (ev a ρ).bind fun x ρ => match x with
    | .sh (.int i) => .ok (.sh (.int (-i))) ρ
    | _ => .no
  | .inv _, _ => .no
  | .no a, ρ => tst (ev a ρ) fun c ρ => .ok (.sh (.bl (!c))) ρ
  | .cmp o a b, ρ => (bor2 a b ρ (ev a ρ)).bind fun x ρ => (bor b ρ (ev b ρ)).bind fun y ρ => lft (cmpR o (snap x) (snap y)) ρ
  | .cm2 o p a b c, ρ => (ev a ρ).bind fun x ρ => (ev b ρ).bind fun y ρ => match y with
    | .sh d => (match cmpD o (snap x) d with
      | some true => (ev c ρ).bind fun z ρ => lft (cmpR p d (snap z)) ρ
      | some false => .ok (.sh (.bl false)) ρ
      | none => .no)
    | _ => .no
  | .and a b, ρ => tst (ev a ρ) fun c ρ => if c then ev b ρ else .ok (.sh (.bl false)) ρ
  | .or a b, ρ => tst (ev a ρ) fun c ρ => if c then .ok (.sh (.bl true)) ρ else ev b ρ
  | .ite c a b, ρ => tst (ev c ρ) fun c ρ => if c then ev a ρ else ev b ρ
  | .tup es, ρ => (evD es ρ).bind fun ds ρ => .ok (.sh (.tup ds)) ρ
  | .lst es, ρ => (evD es ρ).bind fun ds ρ => .ok (.ol ds) ρ
  | .dc0, ρ => .ok (.od []) ρ
  | .ix a b, ρ => (bor2 a b ρ (ev a ρ)).bind fun x ρ => (bor b ρ (ev b ρ)).bind fun y ρ => lft (idxR (snap x) (snap y)) ρ
  | .ixd es b, ρ => (evR es ρ).bind fun rs ρ => (ev b ρ).bind fun y ρ => match y with
    | .sh (.int i) => lft (atD rs i) ρ
    | _ => .no
  | .att _ _, _ => .no
  | .cal f es, ρ => (evA es ρ).bind fun as ρ => callA (cal f) (fun rs => (Γ.fn[f]?).map fun fd => dfl fd rs) as ρ
  | .calk f es ks p, ρ => (evD es ρ).bind fun ds ρ => (evD ks ρ).bind fun dk ρ => match (Γ.fn[f]?).bind fun fd => picks p (ds ++ dk ++ fd.dfl) with
    | some ps => callA (cal f) some (ps.map fun d => .val (.sh d)) ρ
    | none => .no
  | .blt f (.cons a .nil), ρ => (bor a ρ (ev a ρ)).bind fun x ρ => lft (bltD f [snap x]) ρ
  | .blt f es, ρ => (evD es ρ).bind fun ds ρ => lft (bltD f ds) ρ
  | .isi a c, ρ => (bor a ρ (ev a ρ)).bind fun x ρ => .ok (.sh (.bl (isD c (snap x)))) ρ
def evD : Es → Env → Rs (List D)
  | .nil, ρ => .ok [] ρ
  | .cons e es, ρ => (ev e ρ).bind fun r ρ => match frz r with
    | some d => (evD es ρ).bind fun ds ρ => .ok (d :: ds) ρ
    | none => .no
def evR : Es → Env → Rs (List R)
  | .nil, ρ => .ok [] ρ
  | .cons e es, ρ => (ev e ρ).bind fun r ρ => (evR es ρ).bind fun rs ρ => .ok (r :: rs) ρ
def evA : Es → Env → Rs (List Ag)
  | .nil, ρ => .ok [] ρ
  | .cons e es, ρ => (agv e ρ (ev e ρ)).bind fun a ρ => (evA es ρ).bind fun as ρ => .ok (a :: as) ρ
end
/-! ### statements -/
/-- c[z] = d -/
def setR : R → D → D → Option R
  | .ol l, .int z, d => match pyIx l.length z with
    | some j => some (.ol (l.set j d))
    | none => none
  | _, _, _ => none
def setl : List Nat → List D → Env → Env
  | i :: l, d :: ds, ρ => setl l ds (ρ.set i (some (.sh d)))
  | _, _, ρ => ρ
def setr : List Nat → List R → Env → Env
  | i :: l, r :: rs, ρ => setr l rs (ρ.set i (some r))
  | _, _, ρ => ρ
def stg : Tg → R → Env → Sr
  | .nm i, r, ρ => .nx (ρ.set i (some r))
  | .tp l, r, ρ => match snap r with
    | .tup ds => if ds.length = l.length then .nx (setl l ds ρ) else .no
    | _ => .no
def forL (t : Tg) (b : Env → Sr) : List D → Env → Sr
  | [], ρ => .nx ρ
  | x :: l, ρ => match stg t (.sh x) ρ with
    | .nx ρ => match b ρ with
      | .nx ρ => forL t b l ρ
      | .ct ρ => forL t b l ρ
      | .bk ρ => .nx ρ
      | r => r
    | _ => .no
def whL (c : Env → Rs R) (b : Env → Sr) : Nat → Env → Sr
  | 0, _ => .no
  | k + 1, ρ => match c ρ with
    | .ok (.sh (.bl true)) ρ => match b ρ with
      | .nx ρ => whL c b k ρ
      | .ct ρ => whL c b k ρ
      | .bk ρ => .nx ρ
      | r => r
    | .ok (.sh (.bl false)) ρ => .nx ρ
    | .ok _ _ => .no
    | .ex c fs ρ => .ex c fs ρ
    | .no => .no
def rngD : List D → Option (List D)
  | [.int n] => if -(2 ^ 62) ≤ n && n < 2 ^ 62 then some ((List.range n.toNat).map fun k => .int (0 + (k : Nat))) else none
  | [.int a, .int b] => if -(2 ^ 62) ≤ a && a < 2 ^ 62 && -(2 ^ 62) ≤ b && b < 2 ^ 62 then some ((List.range (b - a).toNat).map fun k => .int (a + (k : Nat))) else none
  | _ => none
def iter : It → Env → Rs (List D)
  | .rng es, ρ => (evD Γ cal es ρ).bind fun ds ρ => lft (rngD ds) ρ
  | .seq e, ρ => (ev Γ cal e ρ).bind fun r ρ => match frz r with
    | some (.tup l) => .ok l ρ
    | some (.lst l) => .ok l ρ
    | _ => .no
def suit (fs : List D) : List (D ⊕ Nat) → Option (List D)
  | [] => some []
  | .inl d :: l => (suit fs l).map (d :: ·)
  | .inr k :: l => match fs[k]? with
    | some d => (suit fs l).map (d :: ·)
    | none => none
def suitS (fs : List D) : Su → Env → Sr
  | .lst t l, ρ => match suit fs l with
    | some ds => .nx (ρ.set t (some (.ol ds)))
    | none => .no
  | .cst t d, ρ => .nx (ρ.set t (some (.sh d)))
def Su.flat : Su → Bool
  | .lst _ l => l.all fun x => match x with
    | .inl _ => true
    | .inr _ => false
  | .cst _ _ => true
def hnd (c : Nat) (fs : List D) : List (Nat × Option Nat × Su) → Env → Sr
  | [], ρ => .ex c fs ρ
  | (k, v, su) :: hs, ρ => match Γ.anc[c]? with
    | some l => if l.contains k then (if !(c == k || su.flat) then .no else match v with
        | none => suitS fs su ρ
        | some i => match suitS fs su (ρ.set i none) with
          | .nx ρ => .nx (ρ.set i none)
          | r => r)
      else hnd c fs hs ρ
    | none => .no
variable (np : Nat)
mutual
def xs : S → Env → Sr
  | .ex e, ρ => (ev Γ cal e ρ).st fun _ ρ => .nx ρ
  | .asg t e, ρ => (ev Γ cal e ρ).st fun r ρ => stg t r ρ
  | .par l es, ρ => (evR Γ cal es ρ).st fun rs ρ => if rs.length = l.length then .nx (setr l rs ρ) else .no
  | .sidx i k e, ρ => (ev Γ cal e ρ).st fun r ρ => match frz r, ρ[i]? with
    | some d, some (some _) => (ev Γ cal k ρ).st fun y ρ => (match ρ[i]?, y with
      | some (some c), .sh z => (match setR c z d with
        | some c' => .nx (ρ.set i (some c'))
        | none => .no)
      | _, _ => .no)
    | _, _ => .no
  | .iff c a b, ρ => (ev Γ cal c ρ).st fun r ρ => match r with
    | .sh (.bl true) => xss a ρ
    | .sh (.bl false) => xss b ρ
    | _ => .no
  | .whl c b, ρ => whL (ev Γ cal c) (xss b) LIM ρ
  | .fr t it b, ρ => (iter Γ cal it ρ).st fun l ρ => forL t (xss b) l ρ
  | .ret e, ρ => match e with
    | .var i => if i < np then (rdv i ρ).st fun r ρ => .rt r ρ else match ρ[i]? with
      | some (some r) => .rt r (ρ.set i none)
      | _ => .no
    | e => (ev Γ cal e ρ).st fun r ρ => .rt r ρ
  | .retn, ρ => .rt (.sh .non) ρ
  | .rse c es, ρ => (evD Γ cal es ρ).st fun ds ρ => .ex c ds ρ
  | .try_ b hs, ρ => match xss b ρ with
    | .ex c fs ρ => hnd Γ c fs hs ρ
    | r => r
  | .pass, ρ => .nx ρ
  | .brk, ρ => .bk ρ
  | .cnt, ρ => .ct ρ
def xss : Ss → Env → Sr
  | .nil, ρ => .nx ρ
  | .cons s r, ρ => match xs s ρ with
    | .nx ρ => xss r ρ
    | x => x
end
end
/-! ### calls -/
def prep (reb : List Nat) : Nat → List R → Option (List R)
  | _, [] => some []
  | k, r :: rs => match (if reb.contains k then (frz r).map .sh else some r), prep reb (k + 1) rs with
    | some r, some rs => some (r :: rs)
    | _, _ => none
def outs (reb : List Nat) : Nat → List R → Env → Option (List R)
  | _, [], _ => some []
  | k, r :: rs, o :: ρ => match (if reb.contains k then some r else o), outs reb (k + 1) rs ρ with
    | some r, some rs => some (r :: rs)
    | _, _ => none
  | _, _ :: _, [] => none
def fini (fd : Fd) (rs : List R) : Sr → Cr
  | .rt r ρ => match outs fd.reb 0 rs ρ with
    | some o => .ok r o
    | none => .no
  | .nx ρ => match outs fd.reb 0 rs ρ with
    | some o => .ok (.sh .non) o
    | none => .no
  | .ex c fs ρ => match outs fd.reb 0 rs ρ with
    | some o => .ex c fs o
    | none => .no
  | _ => .no
def CALL (Γ : Gam) : Nat → Nat → List R → Cr
  | 0, _, _ => .no
  | n + 1, f, rs => match Γ.fn[f]? with
    | none => .no
    | some fd => if rs.length = fd.np then (match prep fd.reb 0 rs with
        | some rs => fini fd rs (xss Γ (CALL Γ n) fd.np fd.body (rs.map some ++ List.replicate (fd.nn - fd.np) none))
        | none => .no) else .no
end G4

/-! What the deep values stand for in the layer's heap; how a step changes what is owned. -/
namespace G4
open PySem L2

/-- a text by its codes -/
def tx (x : List Nat) : Str := ⟨x.toArray⟩
theorem tx_inj {x y : List Nat} (h : tx x = tx y) : x = y := by
  have h1 : x.toArray = y.toArray := congrArg Str.cps h
  simpa using h1
theorem tx_len (x : List Nat) : (tx x).length = x.length := by
  show x.toArray.size = x.length
  simp
def keyD : Key → D
  | .inl i => .int i
  | .inr x => .str x.cps.toList

mutual
inductive RS (K : PySem.W.Frag) (G : Hp) : V → D → Prop where
  | non : RS K G .non .non
  | bl (b : Bool) : RS K G (.bl b) (.bl b)
  | int (i : Int) : RS K G (.int i) (.int i)
  | str (x : List Nat) : RS K G (.str (tx x)) (.str x)
  | tup {a : Addr} {vs : List V} {l : List D} : SqT K G a vs → RSs K G vs l → RS K G (.ref a) (.tup l)
  | lst {a : Addr} {vs : List V} {l : List D} : G a = some (.lst vs) → RSs K G vs l → RS K G (.ref a) (.lst l)
  | dct {a : Addr} {kvs : List (Key × V)} {l : List (D × D)} : G a = some (.dK kvs) → RSk K G kvs l → RS K G (.ref a) (.dct l)
  | scr {a : Addr} {l : List Int} : SqL K G a (l.map V.int) → l.length ≤ sizeLine → RS K G (.ref a) (.scr l)
inductive RSs (K : PySem.W.Frag) (G : Hp) : List V → List D → Prop where
  | nil : RSs K G [] []
  | cons {v : V} {vs : List V} {d : D} {l : List D} : RS K G v d → RSs K G vs l → RSs K G (v :: vs) (d :: l)
inductive RSk (K : PySem.W.Frag) (G : Hp) : List (Key × V) → List (D × D) → Prop where
  | nil : RSk K G [] []
  | cons {k : Key} {v : V} {kvs : List (Key × V)} {d : D} {l : List (D × D)} : RS K G v d → RSk K G kvs l → RSk K G ((k, v) :: kvs) ((keyD k, d) :: l)
end
mutual
theorem RS.ext {K : PySem.W.Frag} {G G' : Hp} (e : Ext G G') : ∀ {v : V} {d : D}, RS K G v d → RS K G' v d
  | _, _, .non => .non
  | _, _, .bl b => .bl b
  | _, _, .int i => .int i
  | _, _, .str x => .str x
  | _, _, .tup h r => .tup (h.ext e) (RSs.ext e r)
  | _, _, .lst h r => .lst (e _ _ h) (RSs.ext e r)
  | _, _, .dct h r => .dct (e _ _ h) (RSk.ext e r)
  | _, _, .scr h z => .scr (h.ext e) z
theorem RSs.ext {K : PySem.W.Frag} {G G' : Hp} (e : Ext G G') : ∀ {v : List V} {d : List D}, RSs K G v d → RSs K G' v d
  | _, _, .nil => .nil
  | _, _, .cons h r => .cons (RS.ext e h) (RSs.ext e r)
theorem RSk.ext {K : PySem.W.Frag} {G G' : Hp} (e : Ext G G') : ∀ {v : List (Key × V)} {d : List (D × D)}, RSk K G v d → RSk K G' v d
  | _, _, .nil => .nil
  | _, _, .cons h r => .cons (RS.ext e h) (RSk.ext e r)
end
section
variable {K : PySem.W.Frag} {G H G' H' : Hp}
theorem RSs.length : ∀ {vs : List V} {l : List D}, RSs K G vs l → vs.length = l.length
  | _, _, .nil => rfl
  | _, _, .cons _ r => by rw [List.length_cons, List.length_cons, RSs.length r]
theorem RSs.get : ∀ {vs : List V} {l : List D} {i : Nat} {d : D}, RSs K G vs l → l[i]? = some d → ∃ v, vs[i]? = some v ∧ RS K G v d
  | _, _, _, _, .nil, h => by simp at h
  | _, _, 0, _, .cons r _, h => by simp at h; subst h; exact ⟨_, rfl, r⟩
  | _, _, i + 1, _, .cons _ r, h => by
    obtain ⟨v, h1, h2⟩ := RSs.get (i := i) r (by simpa using h)
    exact ⟨v, by simpa using h1, h2⟩
theorem RSs.getV : ∀ {vs : List V} {l : List D} {i : Nat} {v : V}, RSs K G vs l → vs[i]? = some v → ∃ d, l[i]? = some d ∧ RS K G v d
  | _, _, _, _, .nil, h => by simp at h
  | _, _, 0, _, .cons r _, h => by simp at h; subst h; exact ⟨_, rfl, r⟩
  | _, _, i + 1, _, .cons _ r, h => by
    obtain ⟨v, h1, h2⟩ := RSs.getV (i := i) r (by simpa using h)
    exact ⟨v, by simpa using h1, h2⟩
theorem RSs.append : ∀ {vs ws : List V} {l m : List D}, RSs K G vs l → RSs K G ws m → RSs K G (vs ++ ws) (l ++ m)
  | _, _, _, _, .nil, s => s
  | _, _, _, _, .cons h r, s => .cons h (RSs.append r s)
theorem RSs.set : ∀ {vs : List V} {l : List D} {v : V} {d : D} (i : Nat), RSs K G vs l → RS K G v d → RSs K G (vs.set i v) (l.set i d)
  | _, _, _, _, _, .nil, _ => .nil
  | _, _, _, _, 0, .cons _ r, h => .cons h r
  | _, _, _, _, i + 1, .cons q r, h => .cons q (RSs.set i r h)

/-- owned by one holder: at the addresses F alone -/
def Own (K : PySem.W.Frag) (G H : Hp) (r : R) (v : V) (F : List Addr) : Prop :=
  match r with
  | .sh d => F = [] ∧ RS K G v d
  | .ol l => ∃ p vs, v = .ref p ∧ F = [p] ∧ H p = some (.lst vs) ∧ RSs K G vs l
  | .lk l => ∃ p vs, v = .ref p ∧ F = [p] ∧ H p = some (.lst vs) ∧ RSs K G vs l
  | .od l => ∃ p kvs, v = .ref p ∧ F = [p] ∧ H p = some (.dK kvs) ∧ RSk K G kvs l
  | .oi _ _ => False
/-- looked at where it stands -/
def Lnt (K : PySem.W.Frag) (G H : Hp) (r : R) (v : V) : Prop := ∃ F, Own K G H r v F
def OwnS (K : PySem.W.Frag) (G H : Hp) : Env → St → List Addr → Prop
  | [], [], F => F = []
  | none :: ρ, _ :: σ, F => OwnS K G H ρ σ F
  | some r :: ρ, some v :: σ, F => ∃ F1 F2, F = F1 ++ F2 ∧ Own K G H r v F1 ∧ OwnS K G H ρ σ F2
  | _, _, _ => False
/-- G: what never changes; F: what is owned -/
structure Wd (G H : Hp) (F : List Addr) : Prop where
  sub : Ext G H
  nd : F.Nodup
  out : ∀ p ∈ F, G p = none ∧ H p ≠ none
/-- a step from G, H, where F was owned, to G', H', where F' is -/
structure Stp (G H : Hp) (F : List Addr) (G' H' : Hp) (F' : List Addr) : Prop where
  wd : Wd G' H' F'
  gr : Ext G G'
  keep : ∀ b o, H b = some o → b ∉ F → H' b = some o
  own : ∀ b ∈ F', b ∈ F ∨ H b = none
  new : ∀ b o, G' b = some o → G b = some o ∨ b ∈ F ∨ H b = none
theorem Wd.sm {F F' : List Addr} (w : Wd G H F) (h : F'.Sublist F) : Wd G H F' := ⟨w.sub, w.nd.sublist h, fun p hp => w.out p (h.subset hp)⟩
theorem Wd.perm {F F' : List Addr} (w : Wd G H F) (h : F.Perm F') : Wd G H F' := ⟨w.sub, h.nodup w.nd, fun p hp => w.out p (h.symm.subset hp)⟩
theorem Stp.refl {F : List Addr} (w : Wd G H F) : Stp G H F G H F := ⟨w, fun _ _ h => h, fun _ _ h _ => h, fun _ h => .inl h, fun _ _ h => .inl h⟩
theorem Stp.trans {F F1 F2 : List Addr} {G1 H1 G2 H2 : Hp} (a : Stp G H F G1 H1 F1) (b : Stp G1 H1 F1 G2 H2 F2) : Stp G H F G2 H2 F2 := by
  have hk : ∀ x, x ∈ F1 → x ∈ F ∨ H x = none := a.own
  have nn : ∀ x, H1 x = none → x ∈ F ∨ H x = none := fun x h => by
    by_cases hx : x ∈ F
    · exact .inl hx
    · cases e : H x with
      | none => exact .inr rfl
      | some o => rw [a.keep x o e hx] at h; cases h
  refine ⟨b.wd, a.gr.trans b.gr, fun x o h hx => b.keep x o (a.keep x o h hx) fun h1 => ?_, fun x hx => ?_, fun x o h => ?_⟩
  · rcases hk x h1 with z | z
    · exact hx z
    · rw [z] at h; cases h
  · rcases b.own x hx with z | z
    · exact hk x z
    · exact nn x z
  · rcases b.new x o h with z | z | z
    · exact a.new x o z
    · exact .inr (hk x z)
    · exact .inr (nn x z)
/-- what others own stands -/
theorem Stp.frame {F0 F F' : List Addr} (w : Wd G H (F0 ++ F)) (s : Stp G H F G' H' F') : Stp G H (F0 ++ F) G' H' (F0 ++ F') := by
  obtain ⟨n0, n1, nx⟩ := List.nodup_append.mp w.nd
  have o0 : ∀ p ∈ F0, G p = none ∧ H p ≠ none := fun p hp => w.out p (List.mem_append_left _ hp)
  have d0 : ∀ p ∈ F0, p ∉ F := fun p hp hq => nx p hp p hq rfl
  refine ⟨⟨s.wd.sub, List.nodup_append.mpr ⟨n0, s.wd.nd, fun a ha b hb e => ?_⟩, fun p hp => ?_⟩, s.gr, fun b o h hb => s.keep b o h fun z => hb (List.mem_append_right _ z), fun b hb => ?_, fun b o h => ?_⟩
  · subst e
    rcases s.own a hb with z | z
    · exact d0 a ha z
    · exact (o0 a ha).2 z
  · rcases List.mem_append.mp hp with hp | hp
    · refine ⟨?_, ?_⟩
      · cases e : G' p with
        | none => rfl
        | some o =>
          rcases s.new p o e with z | z | z
          · rw [(o0 p hp).1] at z; cases z
          · exact absurd z (d0 p hp)
          · exact absurd z (o0 p hp).2
      · cases e : H p with
        | none => exact absurd e (o0 p hp).2
        | some o => rw [s.keep p o e (d0 p hp)]; simp
    · exact s.wd.out p hp
  · rcases List.mem_append.mp hb with hb | hb
    · exact .inl (List.mem_append_left _ hb)
    · rcases s.own b hb with z | z
      · exact .inl (List.mem_append_right _ z)
      · exact .inr z
  · rcases s.new b o h with z | z | z
    · exact .inl z
    · exact .inr (.inl (List.mem_append_right _ z))
    · exact .inr (.inr z)
theorem Stp.permR {F F1 F2 : List Addr} (s : Stp G H F G' H' F1) (h : F1.Perm F2) : Stp G H F G' H' F2 :=
  ⟨s.wd.perm h, s.gr, s.keep, fun b hb => s.own b (h.symm.subset hb), s.new⟩
theorem Stp.subR {F F1 F2 : List Addr} (s : Stp G H F G' H' F1) (h : F2.Sublist F1) : Stp G H F G' H' F2 :=
  ⟨s.wd.sm h, s.gr, s.keep, fun b hb => s.own b (h.subset hb), s.new⟩
theorem Stp.permL {F F1 F2 : List Addr} (s : Stp G H F1 G' H' F) (h : F1.Perm F2) : Stp G H F2 G' H' F :=
  ⟨s.wd, s.gr, fun b o e hb => s.keep b o e fun z => hb (h.subset z), fun b hb => (s.own b hb).imp (fun z => h.subset z) id, fun b o e => (s.new b o e).imp id (Or.imp (fun z => h.subset z) id)⟩
theorem Own.step {r : R} {v : V} {F : List Addr} (o : Own K G H r v F) (e : Ext G G') (k : ∀ b u, b ∈ F → H b = some u → H' b = some u) : Own K G' H' r v F := by
  cases r with
  | sh d => exact ⟨o.1, o.2.ext e⟩
  | ol l => obtain ⟨p, vs, rfl, rfl, h, q⟩ := o; exact ⟨p, vs, rfl, rfl, k p _ (by simp) h, q.ext e⟩
  | lk l => obtain ⟨p, vs, rfl, rfl, h, q⟩ := o; exact ⟨p, vs, rfl, rfl, k p _ (by simp) h, q.ext e⟩
  | od l => obtain ⟨p, vs, rfl, rfl, h, q⟩ := o; exact ⟨p, vs, rfl, rfl, k p _ (by simp) h, q.ext e⟩
  | oi c l => exact o.elim
theorem OwnS.step : ∀ {ρ : Env} {σ : St} {F : List Addr}, OwnS K G H ρ σ F → Ext G G' → (∀ b u, b ∈ F → H b = some u → H' b = some u) → OwnS K G' H' ρ σ F
  | [], [], _, o, _, _ => o
  | none :: ρ, _ :: σ, _, o, e, k => OwnS.step (ρ := ρ) (σ := σ) o e k
  | some r :: ρ, some v :: σ, _, o, e, k => by
    obtain ⟨F1, F2, rfl, o1, o2⟩ := o
    exact ⟨F1, F2, rfl, o1.step e fun b u hb => k b u (List.mem_append_left _ hb), OwnS.step o2 e fun b u hb => k b u (List.mem_append_right _ hb)⟩
  | some r :: ρ, none :: σ, _, o, _, _ => o.elim
  | [], _ :: _, _, o, _, _ => o.elim
  | none :: _, [], _, o, _, _ => o.elim
  | some _ :: _, [], _, o, _, _ => o.elim
theorem OwnS.length : ∀ {ρ : Env} {σ : St} {F : List Addr}, OwnS K G H ρ σ F → ρ.length = σ.length
  | [], [], _, _ => rfl
  | none :: ρ, _ :: σ, _, o => by rw [List.length_cons, List.length_cons, OwnS.length (ρ := ρ) (σ := σ) o]
  | some r :: ρ, some v :: σ, _, o => by
    obtain ⟨F1, F2, rfl, o1, o2⟩ := o
    rw [List.length_cons, List.length_cons, OwnS.length o2]
  | some r :: ρ, none :: σ, _, o => o.elim
  | [], _ :: _, _, o => o.elim
  | none :: _, [], _, o => o.elim
  | some _ :: _, [], _, o => o.elim
/-- a slot taken out, and what may stand in its place -/
theorem OwnS.take : ∀ {ρ : Env} {σ : St} {F : List Addr} {i : Nat} {r : R}, OwnS K G H ρ σ F → ρ[i]? = some (some r) → ∃ v F1 F2, σ[i]? = some (some v) ∧ F.Perm (F1 ++ F2) ∧ Own K G H r v F1 ∧
    OwnS K G H (ρ.set i none) σ F2 ∧ ∀ G' H' r' F3 F4, OwnS K G' H' (ρ.set i none) σ F4 → Own K G' H' r' v F3 → ∃ F5, F5.Perm (F3 ++ F4) ∧ OwnS K G' H' (ρ.set i (some r')) σ F5
  | [], [], _, _, _, _, h => by simp at h
  | none :: ρ, _ :: σ, _, 0, _, _, h => by simp at h
  | none :: ρ, x :: σ, F, i + 1, r, o, h => by
    obtain ⟨v, F1, F2, h1, h2, h3, h4, h5⟩ := OwnS.take (ρ := ρ) (σ := σ) (i := i) o (by simpa using h)
    exact ⟨v, F1, F2, by simpa using h1, h2, h3, h4, h5⟩
  | some r0 :: ρ, some v :: σ, _, 0, r, o, h => by
    obtain ⟨F1, F2, rfl, o1, o2⟩ := o
    simp at h
    subst h
    exact ⟨v, F1, F2, rfl, List.Perm.refl _, o1, o2, fun G' H' r' F3 F4 o4 o3 => ⟨F3 ++ F4, List.Perm.refl _, F3, F4, rfl, o3, o4⟩⟩
  | some r0 :: ρ, some v0 :: σ, _, i + 1, r, o, h => by
    obtain ⟨Fa, Fb, rfl, o1, o2⟩ := o
    obtain ⟨v, F1, F2, h1, h2, h3, h4, h5⟩ := OwnS.take (i := i) o2 (by simpa using h)
    refine ⟨v, F1, Fa ++ F2, by simpa using h1, ?_, h3, ⟨Fa, F2, rfl, o1, h4⟩, fun G' H' r' F3 F4 o4 o3 => ?_⟩
    · refine (h2.append_left Fa).trans ?_
      rw [← List.append_assoc, ← List.append_assoc]
      exact List.perm_append_comm.append_right F2
    · obtain ⟨Fc, Fd, rfl, o5, o6⟩ := o4
      obtain ⟨F5, p5, q5⟩ := h5 G' H' r' F3 Fd o6 o3
      refine ⟨Fc ++ F5, ?_, Fc, F5, rfl, o5, q5⟩
      refine (p5.append_left Fc).trans ?_
      rw [← List.append_assoc, ← List.append_assoc]
      exact List.perm_append_comm.append_right Fd
  | some r :: ρ, none :: σ, _, _, _, o, _ => o.elim
  | [], _ :: _, _, _, _, o, _ => o.elim
  | none :: _, [], _, _, _, o, _ => o.elim
  | some _ :: _, [], _, _, _, o, _ => o.elim
/-- a slot stored: what it held is let go -/
theorem OwnS.put : ∀ {ρ : Env} {σ : St} {F F1 : List Addr} {i : Nat} {r : R} {v : V}, OwnS K G H ρ σ F → i < ρ.length → Own K G H r v F1 → ∃ F2 F3, F2.Sublist F ∧ F3.Perm (F1 ++ F2) ∧ OwnS K G H (ρ.set i (some r)) (σ.set i (some v)) F3
  | [], [], _, _, _, _, _, _, h, _ => by simp at h
  | none :: ρ, x :: σ, F, F1, 0, r, v, o, h, q => ⟨F, F1 ++ F, List.Sublist.refl _, List.Perm.refl _, F1, F, rfl, q, o⟩
  | none :: ρ, x :: σ, F, F1, i + 1, r, v, o, h, q => by
    obtain ⟨F2, F3, h1, h2, h3⟩ := OwnS.put (ρ := ρ) (σ := σ) (i := i) o (by simpa using h) q
    exact ⟨F2, F3, h1, h2, h3⟩
  | some r0 :: ρ, some v0 :: σ, _, F1, 0, r, v, o, h, q => by
    obtain ⟨Fa, Fb, rfl, o1, o2⟩ := o
    exact ⟨Fb, F1 ++ Fb, List.sublist_append_right _ _, List.Perm.refl _, F1, Fb, rfl, q, o2⟩
  | some r0 :: ρ, some v0 :: σ, _, F1, i + 1, r, v, o, h, q => by
    obtain ⟨Fa, Fb, rfl, o1, o2⟩ := o
    obtain ⟨F2, F3, h1, h2, h3⟩ := OwnS.put (i := i) o2 (by simpa using h) q
    refine ⟨Fa ++ F2, Fa ++ F3, (List.Sublist.refl Fa).append h1, ?_, Fa, F3, rfl, o1, h3⟩
    refine (h2.append_left Fa).trans ?_
    rw [← List.append_assoc, ← List.append_assoc]
    exact List.perm_append_comm.append_right F2
  | some r :: ρ, none :: σ, _, _, _, _, _, o, _, _ => o.elim
  | [], _ :: _, _, _, _, _, _, o, _, _ => o.elim
  | none :: _, [], _, _, _, _, _, o, _, _ => o.elim
  | some _ :: _, [], _, _, _, _, _, o, _, _ => o.elim
/-- a slot forgotten -/
theorem OwnS.drop : ∀ {ρ : Env} {σ : St} {F : List Addr} (i : Nat) (x : Option V), OwnS K G H ρ σ F → ∃ F2, F2.Sublist F ∧ OwnS K G H (ρ.set i none) (σ.set i x) F2
  | [], [], F, i, x, o => ⟨F, List.Sublist.refl _, o⟩
  | none :: ρ, y :: σ, F, 0, x, o => ⟨F, List.Sublist.refl _, o⟩
  | none :: ρ, y :: σ, F, i + 1, x, o => OwnS.drop (ρ := ρ) (σ := σ) i x o
  | some r0 :: ρ, some v0 :: σ, _, 0, x, o => by
    obtain ⟨Fa, Fb, rfl, o1, o2⟩ := o
    exact ⟨Fb, List.sublist_append_right _ _, o2⟩
  | some r0 :: ρ, some v0 :: σ, _, i + 1, x, o => by
    obtain ⟨Fa, Fb, rfl, o1, o2⟩ := o
    obtain ⟨F2, h1, h2⟩ := OwnS.drop i x o2
    exact ⟨Fa ++ F2, (List.Sublist.refl Fa).append h1, Fa, F2, rfl, o1, h2⟩
  | some r :: ρ, none :: σ, _, _, _, o => o.elim
  | [], _ :: _, _, _, _, o => o.elim
  | none :: _, [], _, _, _, o => o.elim
  | some _ :: _, [], _, _, _, o => o.elim
theorem Own.lnt {r : R} {v : V} {F : List Addr} (o : Own K G H r v F) : Lnt K G H r v := ⟨F, o⟩
theorem Lnt.step {r : R} {v : V} (o : Lnt K G H r v) (e : Ext G G') (k : Ext H H') : Lnt K G' H' r v := o.elim fun F o => ⟨F, o.step e fun b u _ => k b u⟩
/-- what is owned is shared from now on -/
theorem Own.share {r : R} {v : V} {F F0 : List Addr} {d : D} (o : Own K G H r v F) (hf : frz r = some d) (w : Wd G H (F ++ F0)) :
    ∃ G', RS K G' v d ∧ Stp G H (F ++ F0) G' H F0 ∧ Ext G G' := by
  have one : ∀ (p : Addr) (ob : HO), H p = some ob → ∀ F0, Wd G H ([p] ++ F0) → Stp G H ([p] ++ F0) (upd G p ob) H F0 ∧ Ext G (upd G p ob) := by
    intro p ob hp F0 w
    have gp : G p = none := (w.out p (by simp)).1
    have ex : Ext G (upd G p ob) := Ext.upd gp
    obtain ⟨hnp, hnd⟩ := List.nodup_cons.mp w.nd
    refine ⟨⟨⟨fun b o h => ?_, hnd, fun q hq => ⟨?_, (w.out q (List.mem_cons_of_mem _ hq)).2⟩⟩, ex, fun _ _ h _ => h, fun b hb => .inl (List.mem_cons_of_mem _ hb), fun b o h => ?_⟩, ex⟩
    · by_cases e : b = p
      · subst e; rw [upd_same] at h; cases h; exact hp
      · rw [upd_ne e] at h; exact w.sub b o h
    · have e : q ≠ p := fun e => hnp (e ▸ hq)
      rw [upd_ne e]
      exact (w.out q (List.mem_cons_of_mem _ hq)).1
    · by_cases e : b = p
      · subst e; exact .inr (.inl (by simp))
      · rw [upd_ne e] at h; exact .inl h
  cases r with
  | sh d' =>
    obtain ⟨rfl, h⟩ := o
    simp only [frz, Option.some.injEq] at hf
    subst hf
    exact ⟨G, h, Stp.refl w, fun _ _ h => h⟩
  | ol l =>
    obtain ⟨p, vs, rfl, rfl, hp, q⟩ := o
    simp only [frz, Option.some.injEq] at hf
    subst hf
    obtain ⟨s, ex⟩ := one p _ hp F0 w
    exact ⟨_, .lst upd_same (q.ext ex), s, ex⟩
  | od l =>
    obtain ⟨p, vs, rfl, rfl, hp, q⟩ := o
    simp only [frz, Option.some.injEq] at hf
    subst hf
    obtain ⟨s, ex⟩ := one p _ hp F0 w
    exact ⟨_, .dct upd_same (q.ext ex), s, ex⟩
  | oi c l => exact o.elim
  | lk l => simp [frz] at hf
end
end G4

/-! The primitive operations over the deep values are those of the text. -/
namespace G4
open PySem L2
section
variable {K : PySem.W.Frag} {G H G' H' : Hp}

/-- nothing new, or one new object: owned, or shared -/
inductive New (G H : Hp) : Hp → Hp → List Addr → Prop where
  | same : New G H G H []
  | own (p : Addr) (o : HO) : H p = none → New G H G (upd H p o) [p]
  | shr (p : Addr) (o : HO) : H p = none → New G H (upd G p o) (upd H p o) []
theorem New.ext {F : List Addr} (n : New G H G' H' F) (e : Ext G H) : Ext G G' ∧ Ext H H' := by
  cases n with
  | same => exact ⟨fun _ _ h => h, fun _ _ h => h⟩
  | own p o h => exact ⟨fun _ _ h => h, Ext.upd h⟩
  | shr p o h =>
    refine ⟨Ext.upd ?_, Ext.upd h⟩
    cases q : G p with
    | none => rfl
    | some u => rw [e p u q] at h; cases h
theorem New.stp {F F1 : List Addr} (n : New G H G' H' F1) (w : Wd G H F) : Stp G H F G' H' (F1 ++ F) := by
  obtain ⟨eg, eh⟩ := n.ext w.sub
  cases n with
  | same => exact Stp.refl w
  | own p o h =>
    have np : p ∉ F := fun hp => (w.out p hp).2 h
    have gp : G p = none := by
      cases q : G p with
      | none => rfl
      | some u => rw [w.sub p u q] at h; cases h
    refine ⟨⟨w.sub.trans eh, List.nodup_cons.mpr ⟨np, w.nd⟩, fun q hq => ?_⟩, eg, fun b u e _ => eh b u e, fun b hb => ?_, fun b u e => .inl e⟩
    · rcases List.mem_cons.mp (show q ∈ p :: F from hq) with rfl | hq
      · exact ⟨gp, by rw [upd_same]; simp⟩
      · exact ⟨(w.out q hq).1, by rw [upd_ne (show q ≠ p from fun e => np (by rw [← e]; exact hq))]; exact (w.out q hq).2⟩
    · rcases List.mem_cons.mp hb with rfl | hb
      · exact .inr h
      · exact .inl hb
  | shr p o h =>
    have np : p ∉ F := fun hp => (w.out p hp).2 h
    refine ⟨⟨fun b u e => ?_, w.nd, fun q hq => ?_⟩, eg, fun b u e _ => eh b u e, fun b hb => .inl hb, fun b u e => ?_⟩
    · by_cases z : b = p
      · subst z; rw [upd_same] at e ⊢; exact e
      · rw [upd_ne z] at e; rw [upd_ne z]; exact w.sub b u e
    · have z : q ≠ p := fun e => np (e ▸ hq)
      rw [upd_ne z, upd_ne z]
      exact w.out q hq
    · by_cases z : b = p
      · subst z; exact .inr (.inr h)
      · rw [upd_ne z] at e; exact .inl e

/-- what a value is, by what it looks like -/
def Sees (K : PySem.W.Frag) (G H : Hp) (v : V) : D → Prop
  | .non => v = .non
  | .bl b => v = .bl b
  | .int i => v = .int i
  | .str x => v = .str (tx x)
  | .tup l => ∃ p vs, v = .ref p ∧ SqT K G p vs ∧ RSs K G vs l
  | .lst l => ∃ p vs, v = .ref p ∧ H p = some (.lst vs) ∧ RSs K G vs l
  | .dct l => ∃ p kvs, v = .ref p ∧ H p = some (.dK kvs) ∧ RSk K G kvs l
  | .scr l => ∃ p, v = .ref p ∧ SqL K G p (l.map V.int) ∧ l.length ≤ sizeLine
  | .obj _ _ => False
theorem RS.sees {v : V} {d : D} (e : Ext G H) (r : RS K G v d) : Sees K G H v d := by
  cases r with
  | non => exact rfl
  | bl b => exact rfl
  | int i => exact rfl
  | str x => exact rfl
  | tup h r => exact ⟨_, _, rfl, h, r⟩
  | lst h r => exact ⟨_, _, rfl, e _ _ h, r⟩
  | dct h r => exact ⟨_, _, rfl, e _ _ h, r⟩
  | scr h z => exact ⟨_, rfl, h, z⟩
theorem Lnt.sees {v : V} {r : R} (e : Ext G H) (o : Lnt K G H r v) : Sees K G H v (snap r) := by
  obtain ⟨F, o⟩ := o
  cases r with
  | sh d => exact o.2.sees e
  | ol l => obtain ⟨p, vs, rfl, rfl, h, q⟩ := o; exact ⟨p, vs, rfl, h, q⟩
  | lk l => obtain ⟨p, vs, rfl, rfl, h, q⟩ := o; exact ⟨p, vs, rfl, h, q⟩
  | od l => obtain ⟨p, vs, rfl, rfl, h, q⟩ := o; exact ⟨p, vs, rfl, h, q⟩
  | oi c l => exact o.elim
/-- an operation of two values, by what they look like -/
def rP2 (K : PySem.W.Frag) (op : D → D → Option R) : R2 := fun x y H Q => ∃ G d e z, Ext G H ∧ Sees K G H x d ∧ Sees K G H y e ∧ op d e = some z ∧
  ∀ v G' H' F, New G H G' H' F → Own K G' H' z v F → Q v H'
end

section
variable {X : Cx} {K : PySem.W.Frag} {G H G' H' : Hp}
theorem Lnt.flat {r : R} {v : V} {F : List Addr} {d : D} (h : Own K G H (.sh d) v F) : F = [] := h.1
/-- the end of an operation with a flat answer -/
theorem endF {v : V} {d : D} {Q : VK} (k : ∀ v G' H' F, New G H G' H' F → Own K G' H' (.sh d) v F → Q v H') (r : RS K G v d) : Q v H := k v G H [] .same ⟨rfl, r⟩
theorem endL {vs : List V} {l : List D} {Q : VK} (k : ∀ v G' H' F, New G H G' H' F → Own K G' H' (.ol l) v F → Q v H') (r : RSs K G vs l) : ∀ p, H p = none → Q (.ref p) (upd H p (.lst vs)) :=
  fun p hp => k _ G _ [p] (.own p _ hp) ⟨p, vs, rfl, rfl, upd_same, r⟩
theorem endT {vs : List V} {l : List D} {Q : VK} (e : Ext G H) (k : ∀ v G' H' F, New G H G' H' F → Own K G' H' (.sh (.tup l)) v F → Q v H') (r : RSs K G vs l) : ∀ p, H p = none → Q (.ref p) (upd H p (.tup vs)) :=
  fun p hp => k _ (upd G p (.tup vs)) _ [] (.shr p _ hp) ⟨rfl, .tup (SqT.of upd_same) (r.ext (New.ext (.shr p (.tup vs) hp) e).1)⟩
theorem endS {x : List Nat} {Q : VK} (k : ∀ v G' H' F, New G H G' H' F → Own K G' H' (.sh (.str x)) v F → Q v H') {y : Str} (hy : y = tx x) : Q (.str y) H := by
  subst hy; exact endF k (.str x)

theorem LEN_le : LEN ≤ sizeLine := by decide
def boP : Bo → Operator
  | .add => .Add | .sub => .Sub | .mul => .Mult | .fdiv => .FloorDiv | .mod => .Mod | .pow => .Pow | .band => .BitAnd | .shr => .RShift
def CPowW (i j : Int) : Prop := 0 ≤ j ∧ (((i.natAbs.log2 + 1 : Nat) : Int) * j ≤ 100000)
theorem op_powW : OpR X (binaryOp .Pow) (rI CPowW fun i j => .int (i ^ j.toNat)) := opI fun i j _ _ _ _ _ hc q => by
  obtain ⟨h1, h2⟩ := hc
  have b : Builtin.Int.intBits i ≤ i.natAbs.log2 + 1 := by
    unfold Builtin.Int.intBits
    split <;> omega
  refine PyProof.Rows.pow_int h1 ?_ q
  have h3 : ((Builtin.Int.intBits i : Nat) : Int) * j ≤ ((i.natAbs.log2 + 1 : Nat) : Int) * j := Int.mul_le_mul_of_nonneg_right (by omega) h1
  omega
theorem sees_len {l : List D} {vs : List V} (r : RSs K G vs l) {n : Nat} (h : l.length + n ≤ LEN) : vs.length + n ≤ sizeLine := by
  have := r.length; have := LEN_le; omega
theorem tx_app (x y : List Nat) : tx x ++ tx y = tx (x ++ y) := by
  show (⟨x.toArray ++ y.toArray⟩ : Str) = ⟨(x ++ y).toArray⟩
  rw [List.append_toArray]
theorem opB (o : Bo) : OpR X (binaryOp (boP o)) (rP2 X.K (binD o)) := by
  intro pins s σ H x y v u Q I rx ry h
  obtain ⟨G, d, e, z, hx, sd, se, ho, k⟩ := h
  unfold binD at ho
  split at ho
  · cases ho; cases sd; cases se
    exact op_add pins s σ H _ _ v u Q I rx ry ⟨_, _, rfl, rfl, endF k (.int _)⟩
  · rename_i x y
    cases sd; cases se
    split at ho
    · rename_i hl
      cases ho
      refine op_add_str pins s σ H _ _ v u Q I rx ry ⟨_, _, rfl, rfl, ?_, endS k (tx_app _ _)⟩
      rw [tx_len, tx_len]; have := LEN_le; omega
    · cases ho
  · obtain ⟨p, vs, rfl, hp, r1⟩ := sd
    obtain ⟨q, ws, rfl, hq, r2⟩ := se
    split at ho
    · rename_i hl
      cases ho
      refine op_cat pins s σ H _ _ v u Q I rx ry ⟨p, q, vs, ws, rfl, rfl, hp, hq, ?_, endL k (r1.append r2)⟩
      have h1 := r1.length; have h2 := r2.length; have := LEN_le; omega
    · cases ho
  · cases ho; cases sd; cases se
    exact op_sub pins s σ H _ _ v u Q I rx ry ⟨_, _, rfl, rfl, endF k (.int _)⟩
  · cases sd; cases se
    split at ho
    · rename_i hm
      cases ho
      exact op_mulW pins s σ H _ _ v u Q I rx ry ⟨_, _, rfl, rfl, (show CMulW _ _ from of_decide_eq_true (p := _ < 1000000) hm), endF k (.int _)⟩
    · cases ho
  · cases sd; cases se
    split at ho
    · rename_i hm
      cases ho
      unfold divOk at hm
      rw [Bool.and_eq_true] at hm
      exact op_fdivW pins s σ H _ _ v u Q I rx ry ⟨_, _, rfl, rfl, ⟨of_decide_eq_true hm.1, of_decide_eq_true hm.2⟩, endF k (.int _)⟩
    · cases ho
  · cases sd; cases se
    split at ho
    · rename_i hm
      cases ho
      exact op_mod pins s σ H _ _ v u Q I rx ry ⟨_, _, rfl, rfl, hm, endF k (.int _)⟩
    · cases ho
  · cases sd; cases se
    split at ho
    · rename_i hm
      cases ho
      unfold powOk at hm
      rw [Bool.and_eq_true] at hm
      exact op_powW pins s σ H _ _ v u Q I rx ry ⟨_, _, rfl, rfl, ⟨of_decide_eq_true hm.1, of_decide_eq_true hm.2⟩, endF k (.int _)⟩
    · cases ho
  · cases ho

/-! ### data -/
mutual
theorem dp_of (e : Ext G H) : ∀ {v : V} {d : D} {a : PyData}, RS K G v d → toP d = some a → a.canLay0 = true → Dp K H v a
  | _, _, _, .non, h, _ => by cases h; exact .non
  | _, _, _, .bl b, h, _ => by cases h; exact .bl b
  | _, _, _, .int i, h, _ => by cases h; exact .int i
  | _, _, _, .str x, h, _ => by cases h; exact .str _
  | _, _, _, @RS.tup _ _ p vs l hs r, h, c => by
    simp only [toP] at h
    split at h
    · rename_i as e1
      cases h
      exact .tup (hs.ext e) (dps_of e r e1 (by simpa [PyData.canLay0] using c))
    · cases h
  | _, _, _, @RS.lst _ _ p vs l hs r, h, c => by
    simp only [toP] at h
    split at h
    · rename_i as e1
      cases h
      exact .lst (SqL.of (e _ _ hs)) (dps_of e r e1 (by simpa [PyData.canLay0] using c))
    · cases h
  | _, _, _, .dct hs r, h, c => by
    simp only [toP] at h
    split at h
    · cases h; simp [PyData.canLay0] at c
    · cases h
  | _, _, _, .scr hs z, h, _ => by simp [toP] at h
theorem dps_of (e : Ext G H) : ∀ {vs : List V} {l : List D} {as : List PyData}, RSs K G vs l → toPs l = some as → PyData.canLayAll0 as = true → DpAll K H vs as
  | _, _, _, .nil, h, _ => by simp only [toPs, Option.some.injEq] at h; subst h; exact .nil
  | _, _, _, .cons r t, h, c => by
    simp only [toPs] at h
    split at h
    · rename_i a as e1 e2
      cases h
      simp only [PyData.canLayAll0, Bool.and_eq_true] at c
      exact .cons (dp_of e r e1 c.1) (dps_of e t e2 c.2)
    · cases h
end
theorem Sees.dp {v : V} {d : D} {a : PyData} (e : Ext G H) (s : Sees K G H v d) (h : toP d = some a) (c : a.canLay0 = true) : Dp K H v a := by
  cases d with
  | non => cases s; exact dp_of e .non h c
  | bl b => cases s; exact dp_of e (.bl b) h c
  | int i => cases s; exact dp_of e (.int i) h c
  | str x => cases s; exact dp_of e (.str x) h c
  | tup l => obtain ⟨p, vs, rfl, hp, r⟩ := s; exact dp_of e (.tup hp r) h c
  | lst l =>
    obtain ⟨p, vs, rfl, hp, r⟩ := s
    simp only [toP] at h
    split at h
    · rename_i as e1
      cases h
      exact .lst (SqL.of hp) (dps_of e r e1 (by simpa [PyData.canLay0] using c))
    · cases h
  | dct l =>
    simp only [toP] at h
    split at h
    · cases h; simp [PyData.canLay0] at c
    · cases h
  | obj c l => exact s.elim
  | scr l => simp [toP] at h
theorem plainB_sh {a : PyData} (h : plainB a = true) : a.canLay0 = true ∧ SeqAt.shaped a = true := by
  unfold plainB at h
  rw [Bool.and_eq_true] at h
  refine ⟨h.1, ?_⟩
  unfold SeqAt.shaped
  rw [h.1, Bool.true_and]
  have := of_decide_eq_true h.2
  exact decide_eq_true (by omega)
def coP : Co → CmpOp
  | .eq => .Eq | .ne => .NotEq | .lt => .Lt | .le => .LtE | .gt => .Gt | .ge => .GtE | .is => .Is | .isn => .IsNot | .mem => .In | .nmem => .NotIn
theorem op_isB : OpR X (compareOp .Is) (fun x y H Q => ∃ a b, x = .bl a ∧ y = .bl b ∧ Q (.bl (a == b)) H) := by
  intro pins s σ H x y v u Q I rx ry h
  obtain ⟨a, b, rfl, rfl, q⟩ := h
  cases rx; cases ry
  refine (show wpAny _ _ (compareOp .Is (.bool a) (.bool b)) _ _ _ from wpAny_pure (fin_bl I q ?_))
  cases a <;> cases b <;> rfl
theorem op_isnB : OpR X (compareOp .IsNot) (fun x y H Q => ∃ a b, x = .bl a ∧ y = .bl b ∧ Q (.bl (!(a == b))) H) := by
  intro pins s σ H x y v u Q I rx ry h
  obtain ⟨a, b, rfl, rfl, q⟩ := h
  cases rx; cases ry
  refine (show wpAny _ _ (compareOp .IsNot (.bool a) (.bool b)) _ _ _ from wpAny_pure (fin_bl I q ?_))
  cases a <;> cases b <;> rfl
theorem Sees.isNon {v : V} {d : D} (s : Sees K G H v d) : decide (v = .non) = isNon d := by
  cases d with
  | non => cases s; rfl
  | bl b => cases s; rfl
  | int i => cases s; rfl
  | str x => cases s; rfl
  | tup l => obtain ⟨p, vs, rfl, hp, r⟩ := s; rfl
  | lst l => obtain ⟨p, vs, rfl, hp, r⟩ := s; rfl
  | dct l => obtain ⟨p, vs, rfl, hp, r⟩ := s; rfl
  | obj c l => exact s.elim
  | scr l => obtain ⟨p, rfl, hp⟩ := s; rfl
theorem op_eqT : OpR X (compareOp .Eq) (fun x y H Q => ∃ i j, x = .str (tx i) ∧ y = .str (tx j) ∧ Q (.bl (i == j)) H) := by
  intro pins s σ H x y v u Q I rx ry h
  obtain ⟨i, j, rfl, rfl, q⟩ := h
  obtain ⟨t, rfl⟩ := rx
  obtain ⟨t', rfl⟩ := ry
  exact PySem.P.eq_str ⟨.bl (i == j), H, I, by simp [tx, RelV], q⟩
theorem op_neT : OpR X (compareOp .NotEq) (fun x y H Q => ∃ i j, x = .str (tx i) ∧ y = .str (tx j) ∧ Q (.bl (!(i == j))) H) := by
  intro pins s σ H x y v u Q I rx ry h
  obtain ⟨i, j, rfl, rfl, q⟩ := h
  obtain ⟨t, rfl⟩ := rx
  obtain ⟨t', rfl⟩ := ry
  exact PySem.P.ne_str ⟨.bl (!(i == j)), H, I, by simp [tx, RelV, bne], q⟩
theorem opC (hu : X.A.units + 64 < cLine) (o : Co) : OpR X (compareOp (coP o)) (rP2 X.K (cmpR o)) := by
  intro pins s σ H x y v u Q I rx ry h
  obtain ⟨G, d, e, z, hx, sd, se, ho, k⟩ := h
  unfold cmpR at ho
  have eqv : ∀ {b : Bool}, eqP d e = some b → ∃ a a', Dp X.K H x a ∧ Dp X.K H y a' ∧ SeqAt.shaped a = true ∧ SeqAt.shaped a' = true ∧ PyData.eqv a a' = b := by
    intro b hb
    unfold eqP at hb
    split at hb
    · rename_i a a' e1 e2
      split at hb
      · rename_i hp
        rw [Bool.and_eq_true] at hp
        cases hb
        exact ⟨a, a', sd.dp hx e1 (plainB_sh hp.1).1, se.dp hx e2 (plainB_sh hp.2).1, (plainB_sh hp.1).2, (plainB_sh hp.2).2, rfl⟩
      · cases hb
    · cases hb
  cases hc : cmpD o d e with
  | none => rw [hc] at ho; cases ho
  | some b =>
    rw [hc] at ho
    cases ho
    have fin : Q (.bl b) H := endF k (.bl b)
    unfold cmpD at hc
    split at hc
    · rcases eqD_cases hc with ⟨i, j, rfl, rfl, rfl⟩ | hc
      · cases sd; cases se
        exact op_eqT pins s σ H _ _ v u Q I rx ry ⟨i, j, rfl, rfl, fin⟩
      obtain ⟨a, a', d1, d2, s1, s2, rfl⟩ := eqv hc
      exact op_eqD hu pins s σ H _ _ v u Q I rx ry ⟨a, a', d1, d2, s1, s2, fin⟩
    · cases hq : eqD d e with
      | none => rw [hq] at hc; cases hc
      | some b' =>
        rw [hq] at hc
        cases hc
        rcases eqD_cases hq with ⟨i, j, rfl, rfl, rfl⟩ | hq
        · cases sd; cases se
          exact op_neT pins s σ H _ _ v u Q I rx ry ⟨i, j, rfl, rfl, fin⟩
        obtain ⟨a, a', d1, d2, s1, s2, rfl⟩ := eqv hq
        exact op_neD hu pins s σ H _ _ v u Q I rx ry ⟨a, a', d1, d2, s1, s2, fin⟩
    · cases hc; cases sd; cases se
      exact op_lt pins s σ H _ _ v u Q I rx ry ⟨_, _, rfl, rfl, fin⟩
    · cases hc; cases sd; cases se
      exact op_le pins s σ H _ _ v u Q I rx ry ⟨_, _, rfl, rfl, fin⟩
    · cases hc; cases sd; cases se
      exact op_gt pins s σ H _ _ v u Q I rx ry ⟨_, _, rfl, rfl, fin⟩
    · cases hc; cases sd; cases se
      exact op_ge pins s σ H _ _ v u Q I rx ry ⟨_, _, rfl, rfl, fin⟩
    · cases hc; cases sd; cases se
      exact op_isB pins s σ H _ _ v u Q I rx ry ⟨_, _, rfl, rfl, fin⟩
    · cases hc; cases sd; cases se
      exact op_isnB pins s σ H _ _ v u Q I rx ry ⟨_, _, rfl, rfl, fin⟩
    · cases hc; cases se
      refine op_isN pins s σ H _ _ v u Q I rx ry ⟨rfl, ?_⟩
      rw [sd.isNon]; exact fin
    · cases hc; cases se
      refine op_notN pins s σ H _ _ v u Q I rx ry ⟨rfl, ?_⟩
      rw [sd.isNon]; exact fin
    · cases hc
end
end G4

/-! Subscripts, built-in calls, str of data. -/
namespace G4
open PySem L2
section
variable {X : Cx} {K : PySem.W.Frag} {G H G' H' : Hp}
theorem pyIx_eq (n : Nat) (i : Int) : pyIx n i = ixN n i := rfl
theorem RSs.atD {vs : List V} {l : List D} {i : Int} {d : D} (r : RSs K G vs l) (h : G4.atD l i = some d) : ∃ v, atI vs i = some v ∧ RS K G v d := by
  unfold G4.atD at h
  rw [pyIx_eq] at h
  unfold atI
  rw [r.length]
  cases e : ixN l.length i with
  | none => rw [e] at h; cases h
  | some k =>
    rw [e] at h
    exact r.get (i := k) h
theorem atI_map {α β : Type} (f : α → β) (l : List α) (i : Int) : atI (l.map f) i = (atI l i).map f := by
  unfold atI
  rw [List.length_map]
  cases ixN l.length i with
  | none => rfl
  | some k => simp
theorem opIx : IxR X (rP2 X.K idxR) := by
  intro value slice pins s σ H x y v u Q I rx ry h hs
  obtain ⟨G, d, e, z, hx, sd, se, ho, k⟩ := h
  unfold idxR at ho
  cases hc : idxD d e with
  | none => rw [hc] at ho; cases ho
  | some w =>
    rw [hc] at ho
    cases ho
    unfold idxD at hc
    split at hc
    · obtain ⟨p, vs, rfl, hp, r⟩ := sd
      cases se
      obtain ⟨v', h1, h2⟩ := r.atD hc
      exact ix_tup value slice pins s σ H _ _ v u Q I rx ry ⟨p, vs, _, v', rfl, rfl, hp.ext hx, h1, endF k h2⟩ hs
    · obtain ⟨p, vs, rfl, hp, r⟩ := sd
      cases se
      obtain ⟨v', h1, h2⟩ := r.atD hc
      exact ix_list value slice pins s σ H _ _ v u Q I rx ry ⟨p, vs, _, v', rfl, rfl, SqL.of hp, h1, endF k h2⟩ hs
    · rename_i l i
      obtain ⟨p, rfl, hp, hz⟩ := sd
      cases se
      cases e : G4.atD l i with
      | none => rw [e] at hc; cases hc
      | some j =>
        rw [e] at hc
        cases hc
        have h1 : atI (l.map V.int) i = some (V.int j) := by
          rw [atI_map]
          have : atI l i = some j := e
          rw [this]; rfl
        exact ix_list value slice pins s σ H _ _ v u Q I rx ry ⟨p, _, _, _, rfl, rfl, hp.ext hx, h1, endF k (.int j)⟩ hs
    · rename_i x i
      cases sd; cases se
      split at hc
      · rename_i hl
        cases e : G4.atD x i with
        | none => rw [e] at hc; cases hc
        | some c =>
          rw [e] at hc
          cases hc
          have h1 : atI (tx x).cps.toList i = some c := e
          refine ix_str value slice pins s σ H _ _ v u Q I rx ry ⟨tx x, i, c, rfl, rfl, ?_, h1, endS k rfl⟩ hs
          rw [tx_len]; have := LEN_le; omega
      · cases hc
    · cases hc

/-! ### calls of built-ins -/
inductive SeesL (K : PySem.W.Frag) (G H : Hp) : List V → List D → Prop where
  | nil : SeesL K G H [] []
  | cons {v : V} {vs : List V} {d : D} {l : List D} : Sees K G H v d → SeesL K G H vs l → SeesL K G H (v :: vs) (d :: l)
def rPs (K : PySem.W.Frag) (op : List D → Option R) : List V → Hp → VK → Prop := fun xs H Q => ∃ G ds z, Ext G H ∧ SeesL K G H xs ds ∧ op ds = some z ∧
  ∀ v G' H' F, New G H G' H' F → Own K G' H' z v F → Q v H'
theorem SeesL.one {xs : List V} {d : D} (s : SeesL K G H xs [d]) : ∃ v, xs = [v] ∧ Sees K G H v d := by
  cases s with
  | cons h t => cases t; exact ⟨_, rfl, h⟩
theorem SeesL.two {xs : List V} {d e : D} (s : SeesL K G H xs [d, e]) : ∃ v w, xs = [v, w] ∧ Sees K G H v d ∧ Sees K G H w e := by
  cases s with
  | cons h t =>
    obtain ⟨w, rfl, hw⟩ := t.one
    exact ⟨_, w, rfl, h, hw⟩

/-! ### str -/
theorem reprChar_len (q c : Nat) (h : c < 128) : (Builtin.Str.reprChar q c).length ≤ 4 := by
  have all : ∀ c : Fin 128, (Builtin.Str.reprChar 1000 c.val).length ≤ 4 := by decide +kernel
  by_cases e : (c == q || c == 92) = true
  · unfold Builtin.Str.reprChar
    rw [if_pos e]
    exact (by decide : 2 ≤ 4)
  · have h1 := all ⟨c, h⟩
    have e0 : ¬ (c == 1000 || c == 92) = true := by
      intro z
      rw [Bool.or_eq_true] at z
      rcases z with z | z
      · have := beq_iff_eq.mp z; omega
      · exact e (by rw [Bool.or_eq_true]; exact .inr z)
    unfold Builtin.Str.reprChar at h1 ⊢
    rw [if_neg e0] at h1
    rw [if_neg e]
    exact h1
theorem fold_len (q : Nat) : ∀ (l : List Nat) (out : Array Nat), (∀ c ∈ l, c < 128) → (l.foldl (fun out c => out ++ (Builtin.Str.reprChar q c).toArray) out).size ≤ out.size + 4 * l.length
  | [], out, _ => Nat.le_refl _
  | c :: l, out, h => by
    have h1 := reprChar_len q c (h c (by simp))
    have h2 := fold_len q l (out ++ (Builtin.Str.reprChar q c).toArray) fun c hc => h c (by simp [hc])
    rw [List.foldl_cons, List.length_cons]
    rw [Array.size_append] at h2
    simp only [List.size_toArray] at h2
    omega
theorem reprText_len (x : List Nat) (h : x.all (· < 128) = true) : (reprText (tx x)).length ≤ 4 * x.length + 2 := by
  have h' : ∀ c ∈ x, c < 128 := by simpa using h
  have h2 := fold_len (reprQuote (tx x)) x #[reprQuote (tx x)] h'
  show (Array.push _ _).size ≤ _
  rw [Array.size_push]
  have e : (tx x).cps.foldl (fun out c => out ++ (Builtin.Str.reprChar (reprQuote (tx x)) c).toArray) #[reprQuote (tx x)] = x.foldl (fun out c => out ++ (Builtin.Str.reprChar (reprQuote (tx x)) c).toArray) #[reprQuote (tx x)] := by
    show Array.foldl _ _ x.toArray = _
    rw [List.foldl_toArray]
  rw [e]
  simp at h2 ⊢
  omega
theorem listText_len : ∀ ts : List Str, (listText ts).length ≤ piled ts + 2
  | [] => by show (2 : Nat) ≤ _; omega
  | t :: r => by
    have h := textFrom_length_pos r 1 (("[" : Str) ++ (if (0 : Nat) > 0 then ", " else "" : String) ++ t) (Nat.succ_pos 0)
    have e : ((("[" : Str) ++ (if (0 : Nat) > 0 then ", " else "" : String) ++ t)).length = 1 + t.length := by
      rw [strLen_append, strLen_append]; rfl
    have h2 : (listText (t :: r)).length = (textFrom 1 (("[" : Str) ++ (if (0 : Nat) > 0 then ", " else "" : String) ++ t) r).length + 1 := by
      unfold listText
      rw [strLen_append]; rfl
    rw [piled_cons]
    omega
theorem join_len (sep : Str) (hs : sep.length = 2) : ∀ ts : List Str, (Str.join sep ts).length ≤ piled ts
  | [] => by show (0 : Nat) ≤ _; omega
  | [x] => by rw [piled_cons]; show x.length ≤ _; omega
  | x :: y :: r => by
    have h := join_len sep hs (y :: r)
    have e : Str.join sep (x :: y :: r) = x ++ sep ++ Str.join sep (y :: r) := rfl
    rw [e, strLen_append, strLen_append, piled_cons]
    omega
theorem tupleText_len (ts : List Str) : (tupleText ts).length ≤ piled ts + 3 := by
  have h := join_len ", " (by decide) ts
  unfold tupleText
  rw [strLen_append, strLen_append]
  split <;> (have e1 : (("(" : String) : Str).length = 1 := rfl) <;> (have e2 : ((")" : String) : Str).length = 1 := rfl) <;> (have e3 : ((",)" : String) : Str).length = 2 := rfl) <;> omega
theorem dictText_len (ts : List Str) : (dictText ts).length ≤ piled ts + 2 := by
  have h := join_len ", " (by decide) ts
  unfold dictText
  rw [strLen_append, strLen_append]
  have e1 : (("{" : String) : Str).length = 1 := rfl
  have e2 : (("}" : String) : Str).length = 1 := rfl
  omega
mutual
theorem shown_len : ∀ (d : D) (a : PyData), toP d = some a → a.showable = true → bnd d ≤ LEN → a.shown.length ≤ bnd d
  | .non, _, h, _, _ => by cases h; exact (by decide : 4 ≤ 10)
  | .bl b, _, h, _, _ => by
    cases h
    cases b
    · exact (by decide : 5 ≤ 10)
    · exact (by decide : 4 ≤ 10)
  | .int i, _, h, s, _ => by
    cases h
    have h1 : i.natAbs.log2 < 1920 := by simpa [PyData.showable] using s
    have h2 := int_text_length_le (k := 1920) (by decide) h1
    show (Str.ofString (toString i)).length ≤ 2000
    rw [ofString_length]
    omega
  | .str x, _, h, s, z => by
    cases h
    show (reprText (tx x)).length ≤ _
    simp only [bnd] at z ⊢
    split
    · rename_i hx
      have := reprText_len x hx
      omega
    · rename_i hx
      rw [if_neg hx] at z
      exact absurd z (by decide)
  | .tup l, _, h, s, z => by
    simp only [toP] at h
    split at h
    · rename_i as e1
      cases h
      have h1 := showns_len l as e1 (by simpa [PyData.showable] using s) (by simp only [bnd] at z; omega)
      have h2 := tupleText_len (PyData.shownAll as)
      simp only [PyData.shown, bnd]
      omega
    · cases h
  | .lst l, _, h, s, z => by
    simp only [toP] at h
    split at h
    · rename_i as e1
      cases h
      have h1 := showns_len l as e1 (by simpa [PyData.showable] using s) (by simp only [bnd] at z; omega)
      have h2 := listText_len (PyData.shownAll as)
      simp only [PyData.shown, bnd]
      omega
    · cases h
  | .dct l, _, h, s, z => by
    simp only [toP] at h
    split at h
    · rename_i as e1
      cases h
      have h1 := shownk_len l as e1 (by simpa [PyData.showable] using s) (by simp only [bnd] at z; omega)
      have h2 := dictText_len (PyData.shownKv as)
      simp only [PyData.shown, bnd]
      omega
    · cases h
  | .obj _ _, _, h, _, _ => by simp [toP] at h
  | .scr _, _, h, _, _ => by simp [toP] at h
theorem showns_len : ∀ (l : List D) (as : List PyData), toPs l = some as → PyData.showableAll as = true → bnds l ≤ LEN → piled (PyData.shownAll as) ≤ bnds l
  | [], _, h, _, _ => by simp only [toPs, Option.some.injEq] at h; subst h; simp [PyData.shownAll, piled_nil]
  | d :: l, _, h, s, z => by
    simp only [toPs] at h
    split at h
    · rename_i a as e1 e2
      cases h
      have s' : a.showable = true ∧ PyData.showableAll as = true := by simpa [PyData.showableAll] using s
      simp only [bnds] at z
      have h1 := shown_len d a e1 s'.1 (by omega)
      have h2 := showns_len l as e2 s'.2 (by omega)
      simp only [PyData.shownAll, bnds]
      rw [piled_cons]
      omega
    · cases h
theorem shownk_len : ∀ (l : List (D × D)) (as : List (PyData × PyData)), toPk l = some as → PyData.showableKv as = true → bndk l ≤ LEN → piled (PyData.shownKv as) ≤ bndk l
  | [], _, h, _, _ => by simp only [toPk, Option.some.injEq] at h; subst h; simp [PyData.shownKv, piled_nil]
  | (k, v) :: l, _, h, s, z => by
    simp only [toPk] at h
    split at h
    · rename_i a b as e1 e2 e3
      cases h
      have s' : (a.showable = true ∧ b.showable = true) ∧ PyData.showableKv as = true := by simpa [PyData.showableKv] using s
      simp only [bndk] at z
      have h1 := shown_len k a e1 s'.1.1 (by omega)
      have h2 := shown_len v b e2 s'.1.2 (by omega)
      have h3 := shownk_len l as e3 s'.2 (by omega)
      simp only [PyData.shownKv, bndk]
      rw [piled_cons, strLen_append, strLen_append]
      have e : ((": " : String) : Str).length = 2 := rfl
      omega
    · cases h
end
end
end G4

namespace G4
open PySem L2
section
variable {X : Cx} {G H : Hp} {pins : List (Addr × Obj)} {σ : St} {s : Shared}
theorem toP_key (k : Key) : ∃ a, toP (keyD k) = some a := by
  cases k with
  | inl i => exact ⟨_, rfl⟩
  | inr x => exact ⟨_, rfl⟩
theorem reads_key {k : Key} {u : Value} {a : PyData} (h : toP (keyD k) = some a) (r : keyIs k u = true) : Reads s.heap u a [] := by
  rcases keyIs_shape r with ⟨i, t, rfl, rfl⟩ | ⟨x, t, rfl, rfl⟩
  · cases h; exact .int i t
  · have h' : some (PyData.str ⟨x.cps.toList.toArray⟩) = some a := h
    cases h'
    have e : (⟨x.cps.toList.toArray⟩ : Str) = x := by simp
    rw [e]
    exact .str x t
theorem key_is {P : Program} {w : World} {k : Key} {u : Value} (h : (mixKind P w).is k u = true) : keyIs k u = true := h
mutual
theorem rd_of (I : Inv X pins σ H s) (e : Ext G H) (sy : H sysModules = none) : ∀ {v : V} {d : D} {a : PyData} {u : Value}, RS X.K G v d → toP d = some a → RelV v u → ∃ as, Reads s.heap u a as ∧ sysModules ∉ as
  | _, _, _, _, .non, h, r => by cases h; cases r; exact ⟨[], .none, by simp⟩
  | _, _, _, _, .bl b, h, r => by cases h; cases r; exact ⟨[], .bool b, by simp⟩
  | _, _, _, _, .int i, h, r => by cases h; obtain ⟨t, rfl⟩ := r; exact ⟨[], .int i t, by simp⟩
  | _, _, _, _, .str x, h, r => by cases h; obtain ⟨t, rfl⟩ := r; exact ⟨[], .str _ t, by simp⟩
  | _, _, _, _, .tup hs q, h, r => by
    cases r
    simp only [toP] at h
    split at h
    · rename_i as e1
      cases h
      obtain ⟨its, rv, ⟨o, ho, hc, n, hd⟩, _⟩ := I.tuple (hs.ext e)
      obtain ⟨bs, hr, hn⟩ := rds_of I e sy q e1 rv
      exact ⟨bs, Reads.tuple ho hc hd hr, hn⟩
    · cases h
  | _, _, _, _, .lst hs q, h, r => by
    cases r
    simp only [toP] at h
    split at h
    · rename_i as e1
      cases h
      have hH := e _ _ hs
      obtain ⟨its, rv, ⟨o, n, ho, hc, _, hd⟩, _⟩ := I.list (SqL.of hH)
      obtain ⟨bs, hr, hn⟩ := rds_of I e sy q e1 rv
      refine ⟨_, Reads.list ho hc hd hr, fun hm => ?_⟩
      rcases List.mem_cons.mp hm with z | z
      · rw [← z, sy] at hH; cases hH
      · exact hn z
    · cases h
  | _, _, _, _, .dct hs q, h, r => by
    cases r
    simp only [toP] at h
    split at h
    · rename_i as e1
      cases h
      have hH := e _ _ hs
      obtain ⟨_, _, vs, kv, o, es, ep, ho, hx, hd, _, hp, _⟩ := dk_of I.hok hH
      obtain ⟨bs, cs, hr1, hr2, n1, n2⟩ := rdk_of I e sy q e1 kv hp
      refine ⟨_, Reads.dict ho hx.1 hd hr1 hr2, fun hm => ?_⟩
      rcases List.mem_append.mp hm with z | z
      · rcases List.mem_cons.mp z with z | z
        · rw [← z, sy] at hH; cases hH
        · exact n1 z
      · exact n2 z
    · cases h
  | _, _, _, _, .scr hs z, h, r => by simp [toP] at h
theorem rds_of (I : Inv X pins σ H s) (e : Ext G H) (sy : H sysModules = none) : ∀ {vs : List V} {l : List D} {as : List PyData} {us : List Value}, RSs X.K G vs l → toPs l = some as → Vals vs us → ∃ bs, ReadsAll s.heap us as bs ∧ sysModules ∉ bs
  | _, _, _, _, .nil, h, r => by
    simp only [toPs, Option.some.injEq] at h
    subst h
    cases r
    exact ⟨[], .nil, by simp⟩
  | _, _, _, _, .cons q t, h, r => by
    simp only [toPs] at h
    split at h
    · rename_i a as e1 e2
      cases h
      cases r with
      | cons r1 r2 =>
        obtain ⟨bs, h1, n1⟩ := rd_of I e sy q e1 r1
        obtain ⟨cs, h2, n2⟩ := rds_of I e sy t e2 r2
        exact ⟨bs ++ cs, .cons h1 h2, fun hm => (List.mem_append.mp hm).elim n1 n2⟩
    · cases h
theorem rdk_of (I : Inv X pins σ H s) (e : Ext G H) (sy : H sysModules = none) : ∀ {kvs : List (Key × V)} {l : List (D × D)} {as : List (PyData × PyData)} {us : List (Key × Value)} {es : List DictEntry}, RSk X.K G kvs l → toPk l = some as → KV kvs us →
    Pairs (mixKind X.prog X.w) es us → ∃ bs cs, ReadsAll s.heap (es.map (·.key)) (as.map (·.1)) bs ∧ ReadsAll s.heap (es.map (·.val)) (as.map (·.2)) cs ∧ sysModules ∉ bs ∧ sysModules ∉ cs
  | _, _, _, _, _, .nil, h, r, p => by
    simp only [toPk, Option.some.injEq] at h
    subst h
    cases r
    cases p
    exact ⟨[], [], .nil, .nil, by simp, by simp⟩
  | _, _, _, _, _, .cons q t, h, r, p => by
    simp only [toPk] at h
    split at h
    · rename_i a b as e1 e2 e3
      cases h
      cases r with
      | cons r1 r2 =>
        cases p with
        | cons p1 p2 p3 =>
          obtain ⟨bs, cs, h1, h2, n1, n2⟩ := rdk_of I e sy t e3 r2 p3
          obtain ⟨ds, h3, n3⟩ := rd_of I e sy q e2 r1.2
          have p1' := key_is p1
          rw [← r1.1] at p1'
          refine ⟨[] ++ bs, ds ++ cs, .cons (reads_key e1 p1') h1, .cons ?_ h2, by simpa using n1, fun hm => (List.mem_append.mp hm).elim n3 n2⟩
          show Reads s.heap _ b ds
          rw [show (fun x : DictEntry => x.val) _ = _ from p2]
          exact h3
    · cases h
end
theorem Sees.rd {v : V} {d : D} {a : PyData} {u : Value} (I : Inv X pins σ H s) (e : Ext G H) (sy : H sysModules = none) (se : Sees X.K G H v d) (h : toP d = some a) (r : RelV v u) : ∃ as, Reads s.heap u a as ∧ sysModules ∉ as := by
  cases d with
  | non => cases se; exact rd_of I e sy .non h r
  | bl b => cases se; exact rd_of I e sy (.bl b) h r
  | int i => cases se; exact rd_of I e sy (.int i) h r
  | str x => cases se; exact rd_of I e sy (.str x) h r
  | tup l => obtain ⟨p, vs, rfl, hp, q⟩ := se; exact rd_of I e sy (.tup hp q) h r
  | lst l =>
    obtain ⟨p, vs, rfl, hH, q⟩ := se
    cases r
    simp only [toP] at h
    split at h
    · rename_i as e1
      cases h
      obtain ⟨its, rv, ⟨o, n, ho, hc, _, hd⟩, _⟩ := I.list (SqL.of hH)
      obtain ⟨bs, hr, hn⟩ := rds_of I e sy q e1 rv
      refine ⟨_, Reads.list ho hc hd hr, fun hm => ?_⟩
      rcases List.mem_cons.mp hm with z | z
      · rw [← z, sy] at hH; cases hH
      · exact hn z
    · cases h
  | dct l =>
    obtain ⟨p, kvs, rfl, hH, q⟩ := se
    cases r
    simp only [toP] at h
    split at h
    · rename_i as e1
      cases h
      obtain ⟨_, _, vs, kv, o, es, ep, ho, hx, hd, _, hp, _⟩ := dk_of I.hok hH
      obtain ⟨bs, cs, hr1, hr2, n1, n2⟩ := rdk_of I e sy q e1 kv hp
      refine ⟨_, Reads.dict ho hx.1 hd hr1 hr2, fun hm => ?_⟩
      rcases List.mem_append.mp hm with z | z
      · rcases List.mem_cons.mp z with z | z
        · rw [← z, sy] at hH; cases hH
        · exact n1 z
      · exact n2 z
    · cases h
  | obj c l => exact se.elim
  | scr l => simp [toP] at h

def bfV : Bf → Value
  | .len => .builtin "len" | .abs => .builtin "abs" | .int => .type "int" | .str => .type "str" | .lst => .type "list" | .tup => .type "tuple" | .max => .builtin "max" | .min => .builtin "min"
  | .sum => .builtin "sum" | .sorted => .builtin "sorted" | .all => .builtin "all" | .dct => .type "dict" | .set => .type "set"
def bfN : Bf → Str
  | .len => "len" | .abs => "abs" | .int => "int" | .str => "str" | .lst => "list" | .tup => "tuple" | .max => "max" | .min => "min"
  | .sum => "sum" | .sorted => "sorted" | .all => "all" | .dct => "dict" | .set => "set"
/-- what a context must have for the built-ins -/
structure Bas (X : Cx) : Prop where
  calm : X.calm = true
  gu : X.A.guards = some []
  un : X.A.units + 100 < cLine
  sy : ∃ o, X.base.get? sysModules = some o
theorem Bas.noSys (b : Bas X) (I : Inv X pins σ H s) : H sysModules = none := by
  obtain ⟨o, e⟩ := b.sy
  exact (I.bs _ _ e).2
theorem opStr (b : Bas X) : CallR X (.type "str") (rPs X.K (bltD .str)) := by
  intro pins s σ H xs us Q I r h
  obtain ⟨G, ds, z, hx, sl, ho, k⟩ := h
  have one : ∃ d, ds = [d] := by
    unfold bltD at ho
    split at ho <;> first | (exact ⟨_, rfl⟩) | (simp_all; done)
  obtain ⟨d, rfl⟩ := one
  obtain ⟨v, rfl, sd⟩ := sl.one
  obtain ⟨u, rfl, ru⟩ := vals1 r
  simp only [bltD] at ho
  cases hw : shwD d with
  | none => rw [hw] at ho; cases ho
  | some x =>
    rw [hw] at ho
    cases ho
    have sized : ∀ {a : PyData}, toP d = some a → (if (a.showable && decide (a.depth ≤ 60) && decide (bnd d ≤ LEN)) = true then some a.shown.cps.toList else none) = some x →
        a.showable = true ∧ a.depth ≤ 60 ∧ a.shown = tx x ∧ a.shown.length ≤ sizeLine := by
      intro a ha h1
      split at h1
      · rename_i hh
        rw [Bool.and_eq_true, Bool.and_eq_true] at hh
        obtain ⟨⟨h2, h3⟩, h4⟩ := hh
        have h5 := of_decide_eq_true h4
        have e : a.shown = tx x := by
          cases h1
          show a.shown = ⟨a.shown.cps.toList.toArray⟩
          simp
        exact ⟨h2, of_decide_eq_true h3, e, Nat.le_trans (shown_len d a ha h2 h5) (Nat.le_trans h5 LEN_le)⟩
      · cases h1
    have byRef : ∀ {p : Addr} {a : PyData}, v = .ref p → toP d = some a → (if (a.showable && decide (a.depth ≤ 60) && decide (bnd d ≤ LEN)) = true then some a.shown.cps.toList else none) = some x →
        wpAny (model X.prog X.w) X.A (call (.type "str") [u]) (EP X pins σ Q) X.xe s := by
      intro p a hv ha h1
      obtain ⟨h2, h3, h4, h5⟩ := sized ha h1
      subst hv
      obtain ⟨as, rd, ns⟩ := sd.rd I hx (b.noSys I) ha ru
      cases ru
      refine str_of_reads rd h2 (fun _ => ns) b.gu (by have := b.un; omega) (fun _ _ e => e) (fun h' t tk kp => ?_) h5
      exact ⟨.str a.shown, H, I.kept kp, ⟨t, rfl⟩, endS k h4⟩
    cases d with
    | str y =>
      have e : y = x := by simpa [shwD] using hw
      subst e
      cases sd
      obtain ⟨t, rfl⟩ := ru
      exact PySem.P.str_of_str ⟨.str (tx y), H, I, ⟨_, rfl⟩, endF k (.str y)⟩
    | non =>
      cases sd; cases ru
      obtain ⟨_, _, h4, _⟩ := sized rfl (by simpa [shwD, toP] using hw)
      exact PySem.P.str_of_none ⟨.str _, H, I.tok _, ⟨_, rfl⟩, endS k h4⟩
    | bl c =>
      cases sd; cases ru
      obtain ⟨_, _, h4, _⟩ := sized rfl (by simpa [shwD, toP] using hw)
      refine PySem.P.str_of_bool ⟨.str _, H, I.tok _, ⟨_, rfl⟩, endS k ?_⟩
      rw [← h4]; cases c <;> rfl
    | int i =>
      cases sd
      obtain ⟨t, rfl⟩ := ru
      obtain ⟨h2, _, h4, _⟩ := sized rfl (by simpa [shwD, toP] using hw)
      exact PySem.P.str_of_int (by simpa [PyData.showable] using h2) ⟨.str _, H, I.tok _, ⟨_, rfl⟩, endS k h4⟩
    | tup l =>
      obtain ⟨p, vs, hv, hp, q⟩ := id sd
      cases ha : toP (.tup l) with
      | none => simp [shwD, ha] at hw
      | some a => exact byRef hv ha (by simpa [shwD, ha] using hw)
    | lst l =>
      obtain ⟨p, vs, hv, hp, q⟩ := id sd
      cases ha : toP (.lst l) with
      | none => simp [shwD, ha] at hw
      | some a => exact byRef hv ha (by simpa [shwD, ha] using hw)
    | dct l =>
      obtain ⟨p, vs, hv, hp, q⟩ := id sd
      cases ha : toP (.dct l) with
      | none => simp [shwD, ha] at hw
      | some a => exact byRef hv ha (by simpa [shwD, ha] using hw)
    | obj c l => exact sd.elim
    | scr l => simp [shwD, toP] at hw
theorem opF (b : Bas X) (f : Bf) : CallR X (bfV f) (rPs X.K (bltD f)) := by
  by_cases hf : f = .str
  · subst hf; exact opStr b
  intro pins s σ H xs us Q I r h
  obtain ⟨G, ds, z, hx, sl, ho, k⟩ := h
  unfold bltD at ho
  split at ho
  · cases ho
    obtain ⟨v, rfl, p, vs, rfl, hp, q⟩ := sl.one
    refine call_len_seq pins s σ H _ us Q I r ⟨p, vs, rfl, .inr (hp.ext hx), ?_⟩
    rw [q.length]; exact endF k (.int _)
  · cases ho
    obtain ⟨v, rfl, p, vs, rfl, hp, q⟩ := sl.one
    refine call_len_seq pins s σ H _ us Q I r ⟨p, vs, rfl, .inl (SqL.of hp), ?_⟩
    rw [q.length]; exact endF k (.int _)
  · cases ho
    obtain ⟨v, rfl, p, rfl, hp, hz⟩ := sl.one
    refine call_len_seq pins s σ H _ us Q I r ⟨p, _, rfl, .inl (hp.ext hx), ?_⟩
    rw [List.length_map]; exact endF k (.int _)
  · split at ho
    · rename_i hl
      cases ho
      obtain ⟨v, rfl, sd⟩ := sl.one
      cases sd
      refine call_len_str pins s σ H _ us Q I r ⟨_, rfl, ?_, ?_⟩
      · rw [tx_len]; have := LEN_le; omega
      · rw [tx_len]; exact endF k (.int _)
    · cases ho
  · cases ho
    obtain ⟨v, rfl, sd⟩ := sl.one
    cases sd
    exact call_abs pins s σ H _ us Q I r ⟨_, rfl, endF k (.int _)⟩
  · cases ho
    obtain ⟨v, rfl, sd⟩ := sl.one
    cases sd
    exact call_int1 pins s σ H _ us Q I r (.inl ⟨_, rfl, endF k (.int _)⟩)
  · cases ho
    obtain ⟨v, rfl, sd⟩ := sl.one
    cases sd
    exact call_int1 pins s σ H _ us Q I r (.inr ⟨_, rfl, endF k (.int _)⟩)
  · cases ho
    obtain ⟨v, w, rfl, sd, se⟩ := sl.two
    cases sd; cases se
    exact call_max2 b.calm pins s σ H _ us Q I r ⟨_, _, rfl, endF k (.int _)⟩
  · cases ho
    obtain ⟨v, w, rfl, sd, se⟩ := sl.two
    cases sd; cases se
    exact call_min2 b.calm pins s σ H _ us Q I r ⟨_, _, rfl, endF k (.int _)⟩
  · cases ho
    obtain ⟨v, rfl, p, vs, rfl, hp, q⟩ := sl.one
    exact call_list_of pins s σ H _ us Q I r ⟨p, vs, rfl, .inr (hp.ext hx), endL k q⟩
  · cases ho
    obtain ⟨v, rfl, p, vs, rfl, hp, q⟩ := sl.one
    exact call_list_of pins s σ H _ us Q I r ⟨p, vs, rfl, .inl (SqL.of hp), endL k q⟩
  · exact absurd rfl hf
  · cases ho
end
end G4

/-! Readings by the evaluator; two and three parts in a row. -/
namespace G4
open PySem L2

/-- a def; an exception's class -/
structure Fe where
  adr : Addr
  nm : Str
  fd : FuncData
  ps : List Str
  /-- the defaults -/
  dv : List V
  du : List Value
structure Xe where
  adr : Addr
  nm : Str
  flds : List Str
structure Tab where
  fn : Nat → Option Fe
  xc : Nat → Option Xe
/-- the fields of an exception of mine -/
def ExR (T : Tab) (K : PySem.W.Frag) (c : Nat) (fs : List D) (cls : Value) (d : Option Addr) (G H : Hp) : Prop :=
  ∃ xe, T.xc c = some xe ∧ cls = .ref xe.adr ∧ fs.length = xe.flds.length ∧ (xe.flds ≠ [] → ∃ da ws, d = some da ∧ H da = some (.xd ws) ∧
    ∀ (k : Nat) (f : Str), xe.flds[k]? = some f → ∃ v dk, fs[k]? = some dk ∧ ws.lookup f = some v ∧ RS K G v dk)
def RdS (T : Tab) (K : PySem.W.Frag) (W : WX) {α β : Type} (rep : Hp → Hp → α → β → List Addr → Prop) (x : Rs α) (σ : St) (G H : Hp) (F : List Addr) (Q : β → Hp → Prop) : Prop :=
  match x with
  | .ok a ρ => ∀ b G' H' F1 F2, Stp G H F G' H' (F1 ++ F2) → rep G' H' a b F1 → OwnS K G' H' ρ σ F2 → Q b H'
  | .ex c fs ρ => ∀ cls d G' H' F2, Stp G H F G' H' F2 → ExR T K c fs cls d G' H' → OwnS K G' H' ρ σ F2 → W cls d σ H'
  | .no => False
def rdG (T : Tab) (K : PySem.W.Frag) (W : WX) {α β : Type} (rep : Hp → Hp → α → β → List Addr → Prop) (f : Env → Rs α) (σ : St) (H : Hp) (Q : β → Hp → Prop) : Prop :=
  ∃ ρ G F, Wd G H F ∧ OwnS K G H ρ σ F ∧ RdS T K W rep (f ρ) σ G H F Q
section
variable {T : Tab} {K : PySem.W.Frag} {W : WX} {σ : St} {G H G1 H1 : Hp} {F F1 F2 : List Addr} {α β γ δ : Type} {repA : Hp → Hp → α → β → List Addr → Prop} {repB : Hp → Hp → γ → δ → List Addr → Prop}
theorem RdS.imp {x : Rs α} {Q Q' : β → Hp → Prop} (h : RdS T K W repA x σ G H F Q) (k : ∀ b H', Q b H' → Q' b H') : RdS T K W repA x σ G H F Q' := by
  cases x with
  | ok a ρ => exact fun b G' H' F1 F2 s r o => k _ _ (h b G' H' F1 F2 s r o)
  | ex c fs ρ => exact h
  | no => exact h
theorem rdG.imp {f : Env → Rs α} {Q Q' : β → Hp → Prop} (h : rdG T K W repA f σ H Q) (k : ∀ b H', Q b H' → Q' b H') : rdG T K W repA f σ H Q' := by
  obtain ⟨ρ, G, F, w, o, r⟩ := h
  exact ⟨ρ, G, F, w, o, r.imp k⟩
/-- the same wish, later -/
theorem RdS.later {x : Rs α} {Q : β → Hp → Prop} (h : RdS T K W repA x σ G H F Q) (s : Stp G H F G1 H1 F1) : RdS T K W repA x σ G1 H1 F1 Q := by
  cases x with
  | ok a ρ => exact fun b G' H' Fa Fb st r o => h b G' H' Fa Fb (s.trans st) r o
  | ex c fs ρ => exact fun cls d G' H' Fb st r o => h cls d G' H' Fb (s.trans st) r o
  | no => exact h
/-- what is held beside is let go -/
theorem RdS.less {x : Rs α} {Q : β → Hp → Prop} (h : RdS T K W repA x σ G H (F1 ++ F2) Q) (w : Wd G H (F1 ++ F2)) : RdS T K W repA x σ G H F2 Q := by
  cases x with
  | ok a ρ => exact fun b G' H' Fa Fb st r o => h b G' H' Fa Fb ((st.frame w).subR (List.sublist_append_right _ _)) r o
  | ex c fs ρ => exact fun cls d G' H' Fb st r o => h cls d G' H' Fb ((st.frame w).subR (List.sublist_append_right _ _)) r o
  | no => exact h
/-- behind the first part -/
def Aft (T : Tab) (K : PySem.W.Frag) (W : WX) (repA : Hp → Hp → α → β → List Addr → Prop) (repB : Hp → Hp → γ → δ → List Addr → Prop) (g : α → Env → Rs γ) (σ : St) (Q : δ → Hp → Prop) (b : β) (H1 : Hp) : Prop :=
  ∃ a ρ G1 F1 F2, Wd G1 H1 (F1 ++ F2) ∧ repA G1 H1 a b F1 ∧ OwnS K G1 H1 ρ σ F2 ∧ RdS T K W repB (g a ρ) σ G1 H1 (F1 ++ F2) Q
theorem RdS.bind {x : Rs α} {g : α → Env → Rs γ} {Q : δ → Hp → Prop} (h : RdS T K W repB (x.bind g) σ G H F Q) : RdS T K W repA x σ G H F (Aft T K W repA repB g σ Q) := by
  cases x with
  | ok a ρ => exact fun b G' H' F1 F2 s r o => ⟨a, ρ, G', F1, F2, s.wd, r, o, RdS.later h s⟩
  | ex c fs ρ => exact h
  | no => exact h
theorem rdG.bind {f : Env → Rs α} {g : α → Env → Rs γ} {Q : δ → Hp → Prop} (h : rdG T K W repB (fun ρ => (f ρ).bind g) σ H Q) : rdG T K W repA f σ H (Aft T K W repA repB g σ Q) := by
  obtain ⟨ρ, G, F, w, o, r⟩ := h
  exact ⟨ρ, G, F, w, o, RdS.bind r⟩
/-- a part that holds nothing is gone through -/
theorem Aft.rd {g : α → Env → Rs γ} {Q : δ → Hp → Prop} {b : β} (h : Aft T K W repA repB g σ Q b H) : ∃ a, (∃ G F, repA G H a b F) ∧ rdG T K W repB (g a) σ H Q := by
  obtain ⟨a, ρ, G1, F1, F2, w, r, o, k⟩ := h
  exact ⟨a, ⟨G1, F1, r⟩, ρ, G1, F2, w.sm (List.sublist_append_right _ _), o, k.less w⟩
end
section
variable {T : Tab} {K : PySem.W.Frag} {W : WX} {σ : St} {G H G1 H1 : Hp} {F F1 F2 : List Addr}
/-- lent or owned -/
def OrL (K : PySem.W.Frag) (G H : Hp) (r : R) (v : V) (F : List Addr) : Prop := (F = [] ∧ Lnt K G H r v) ∨ Own K G H r v F
theorem OrL.lnt {r : R} {v : V} (h : OrL K G H r v F) : Lnt K G H r v := h.elim (fun h => h.2) fun h => h.lnt
def IsB (G H : Hp) (a b : Bool) (F : List Addr) : Prop := a = b ∧ F = []
def tstB (x : Rs R) : Rs Bool := x.bind fun r ρ => match r with
  | .sh (.bl b) => .ok b ρ
  | _ => .no
theorem tst_eq {α : Type} (x : Rs R) (f : Bool → Env → Rs α) : tst x f = (tstB x).bind f := by
  cases x with
  | ok r ρ =>
    cases r with
    | sh d => cases d <;> rfl
    | _ => rfl
  | ex c fs ρ => rfl
  | no => rfl
/-- a value's answer, behind two parts -/
def Aft2 (T : Tab) (K : PySem.W.Frag) (W : WX) {γ δ : Type} (repB : Hp → Hp → γ → δ → List Addr → Prop) (g : R → R → Env → Rs γ) (σ : St) (Q : δ → Hp → Prop) (vx vy : V) (H : Hp) : Prop :=
  ∃ x y ρ G Fx F, Wd G H (Fx ++ F) ∧ Lnt K G H x vx ∧ Lnt K G H y vy ∧ OwnS K G H ρ σ F ∧ RdS T K W repB (g x y ρ) σ G H (Fx ++ F) Q
/-- an owned first part, then a second one -/
theorem Aft.two {γ δ : Type} {repB : Hp → Hp → γ → δ → List Addr → Prop} {f2 : Env → Rs R} {g : R → R → Env → Rs γ} {Q : δ → Hp → Prop} {vx : V} (h : Aft T K W (Own K) repB (fun x ρ => (f2 ρ).bind fun y ρ => g x y ρ) σ Q vx H) :
    rdG T K W (OrL K) f2 σ H fun vy H2 => Aft2 T K W repB g σ Q vx vy H2 := by
  obtain ⟨x, ρ, G1, F1, F2, w, r, o, k⟩ := h
  dsimp only at k
  refine ⟨ρ, G1, F2, w.sm (List.sublist_append_right _ _), o, ?_⟩
  have k2 := RdS.bind (repA := OrL K) k
  cases e : f2 ρ with
  | ok y ρ2 =>
    rw [e] at k
    intro vy G' H' F3 F4 s r2 o2
    have s2 := s.frame w
    refine ⟨x, y, ρ2, G', F1 ++ F3, F4, ?_, ?_, r2.lnt, o2, ?_⟩
    · rw [List.append_assoc]; exact s2.wd
    · refine (r.step s.gr fun b u hb e => ?_).lnt
      refine s.keep b u e fun hb2 => ?_
      exact (List.nodup_append.mp w.nd).2.2 b hb b hb2 rfl
    · have k3 : RdS T K W repB (g x y ρ2) σ G1 H (F1 ++ F2) Q := k
      rw [List.append_assoc]
      exact k3.later s2
  | ex c fs ρ2 =>
    rw [e] at k
    intro cls d G' H' F4 s r2 o2
    have k3 : RdS T K W repB (.ex c fs ρ2) σ G1 H F2 Q := RdS.less (F1 := F1) k w
    exact k3 cls d G' H' F4 s r2 o2
  | no =>
    rw [e] at k
    exact k
/-- the end of an operation of two -/
theorem Aft2.op {op : D → D → Option R} {Q : VK} {vx vy : V} (h : Aft2 T K W (Own K) (fun x y ρ => lft (op (snap x) (snap y)) ρ) σ Q vx vy H) : rP2 K op vx vy H Q := by
  obtain ⟨x, y, ρ, G, Fx, F, w, lx, ly, o, k⟩ := h
  dsimp only at k
  cases e : op (snap x) (snap y) with
  | none => rw [e] at k; exact k.elim
  | some z =>
    rw [e] at k
    refine ⟨G, _, _, z, w.sub, lx.sees w.sub, ly.sees w.sub, e, fun v G' H' F5 n ow => ?_⟩
    have st := n.stp w
    have st2 : Stp G H (Fx ++ F) G' H' (F5 ++ F) := st.subR ((List.Sublist.refl F5).append (List.sublist_append_right _ _))
    obtain ⟨eg, eh⟩ := n.ext w.sub
    exact k v G' H' F5 F st2 ow (o.step eg fun b u _ e => eh b u e)
end
end G4

/-! The matcher of expressions; what a context must have; arguments; calls. -/
namespace G4
open PySem L2

/-! ### the matcher -/
structure Nms where
  fn : List Str
  xc : List Str
  gl : List Str
  /-- the calls with keywords: the def, how many by place, whence each parameter, the names -/
  kw : List (Nat × Nat × List Nat × List Str)
  /-- the fields of the exceptions -/
  fl : List (List Str)
def isVis (sc : Scope) (x : Str) : Bool := decide (sc.names.lookup x = some .local) || decide (sc.names.lookup x = some .cell) || decide (sc.names.lookup x = some .free)
def isGlo (sc : Scope) (x : Str) : Bool := decide (sc.names.lookup x = some .globalImplicit) && decide ((x == ("__debug__" : Str)) = false)
def okVar (N : List Str) (sc : Scope) (i : Nat) (x : Str) : Bool :=
  decide (N[i]? = some x) && isVis sc x && decide ((x == ("__debug__" : Str)) = false) && decide ((x == ("__classdict__" : Str)) = false)
def mtC : D → Const → Bool
  | .non, .none => true
  | .bl b, .bool c => decide (b = c)
  | .int i, .int j => decide (i = j)
  | .str x, .str y => decide (tx x = y)
  | _, _ => false
def notSl : Expr → Bool
  | .Slice _ _ _ _ => false
  | _ => true
def noSet : Expr → Bool
  | .Set _ _ _ => false
  | _ => true
def tyN : Ty → Str
  | .int => "int" | .bool => "bool" | .str => "str" | .tup => "tuple" | .lst => "list" | .dct => "dict" | .cls _ => ""
def tyB : Ty → Bool
  | .cls _ => false
  | _ => true
def Es.len : Es → Nat
  | .nil => 0
  | .cons _ es => es.len + 1
def kwNames : List Keyword → Option (List Str)
  | [] => some []
  | ⟨some x, _, _⟩ :: r => match kwNames r with
    | some l => some (x :: l)
    | none => none
  | ⟨none, _, _⟩ :: _ => none
section
variable (nm : Nms) (N : List Str) (sc : Scope)
mutual
def mt : E → Expr → Bool
  | .var i, e => match e with
    | .Name x _ => okVar N sc i x
    | _ => false
  | .cst d, e => match e with
    | .Constant c _ _ => mtC d c
    | _ => false
  | .glb _, _ => false
  | .bin o a b, e => match e with
    | .BinOp l op r _ => decide (op = boP o) && mt a l && mt b r
    | _ => false
  | .neg a, e => match e with
    | .UnaryOp .USub x _ => mt a x
    | _ => false
  | .inv _, _ => false
  | .no a, e => match e with
    | .UnaryOp .Not x _ => mt a x
    | _ => false
  | .cmp o a b, e => match e with
    | .Compare l [op] [r] _ => decide (op = coP o) && noSet r && mt a l && mt b r
    | _ => false
  | .cm2 o p a b c, e => match e with
    | .Compare l [op, op2] [r, r2] _ => decide (op = coP o) && decide (op2 = coP p) && noSet r && noSet r2 && mt a l && mt b r && mt c r2
    | _ => false
  | .and a b, e => match e with
    | .BoolOp .And [x, y] _ => mt a x && mt b y
    | .BoolOp .And (x :: y :: z :: r) p => mt a x && mt b (.BoolOp .And (y :: z :: r) p)
    | _ => false
  | .or a b, e => match e with
    | .BoolOp .Or [x, y] _ => mt a x && mt b y
    | .BoolOp .Or (x :: y :: z :: r) p => mt a x && mt b (.BoolOp .Or (y :: z :: r) p)
    | _ => false
  | .ite c a b, e => match e with
    | .IfExp t x y _ => mt c t && mt a x && mt b y
    | _ => false
  | .tup es, e => match e with
    | .Tuple xs _ _ => decide (es.len ≤ 1000) && mts es xs
    | _ => false
  | .lst es, e => match e with
    | .List xs _ => decide (es.len ≤ 1000) && mts es xs
    | _ => false
  | .dc0, e => match e with
    | .Dict [] [] _ => true
    | _ => false
  | .ix a b, e => match e with
    | .Subscript v s _ => notSl s && mt a v && mt b s
    | _ => false
  | .ixd es b, e => match e with
    | .Subscript (.List xs _) s _ => decide (es.len ≤ 1000) && notSl s && mts es xs && mt b s
    | _ => false
  | .att _ _, _ => false
  | .cal f es, e => match e with
    | .Call (.Name x _) (y :: args) [] _ => decide (nm.fn[f]? = some x) && isGlo sc x && mts es (y :: args)
    | _ => false
  | .calk f es ks p, e => match e with
    | .Call (.Name x _) args (w :: kws) _ => decide (nm.fn[f]? = some x) && isGlo sc x && mts es args && mtk ks (w :: kws) && (match kwNames (w :: kws) with
        | some l => nm.kw.contains (f, args.length, p, l)
        | none => false)
    | _ => false
  | .blt f es, e => match e with
    | .Call (.Name x _) (y :: args) [] _ => decide (x = bfN f) && isGlo sc x && mts es (y :: args)
    | _ => false
  | .isi a c, e => match e with
    | .Call (.Name x _) [y, .Name z _] [] _ => decide (x = ("isinstance" : Str)) && isGlo sc x && tyB c && decide (z = tyN c) && isGlo sc z && mt a y
    | _ => false
def mts : Es → List Expr → Bool
  | .nil, l => match l with
    | [] => true
    | _ => false
  | .cons e es, l => match l with
    | x :: r => mt e x && mts es r
    | _ => false
def mtk : Es → List Keyword → Bool
  | .nil, l => match l with
    | [] => true
    | _ => false
  | .cons e es, l => match l with
    | ⟨_, x, _⟩ :: r => mt e x && mtk es r
    | _ => false
end
end

/-! ### contexts -/
/-- a def's promise with the guards told -/
def FnG (P : Program) (w : World) (K : PySem.W.Frag) (mg : Str → Option Value) (base : Heap) (n : Nat) (f : Addr) (fd : FuncData) (ps : List Str) (sp : Sp) : Prop :=
  ∀ (A : Around) (outer : List PySem.Env) (s : Shared) (H : Hp) (args : Args) (us : List Value) (vs : List V) (Q : VK) (E : XK), Room (n + 2) A → A.guards = some [] → Env0 P w K mg base A outer s H → BindsTo s fd args (ps.zip us) → Vals vs us → vs.length = ps.length →
    sp vs H Q E → codeAny (model P w) A (.call (.ref f) args) (CR (CX P w) outer P w H s Q E) s
def spF (Γ : Gam) (T : Tab) (K : PySem.W.Frag) (n f : Nat) : Sp := fun vs H Q E => ∃ rs G F, Wd G H F ∧ OwnS K G H (rs.map some) (vs.map some) F ∧
  match CALL Γ n f rs with
  | .ok r fin => ∀ v G' H' F1 F2, Stp G H F G' H' (F1 ++ F2) → Own K G' H' r v F1 → OwnS K G' H' (fin.map some) (vs.map some) F2 → Q v H'
  | .ex c fs fin => ∀ cls d G' H' F2, Stp G H F G' H' F2 → ExR T K c fs cls d G' H' → OwnS K G' H' (fin.map some) (vs.map some) F2 → E cls d H'
  | .no => False
/-- what the top has left -/
structure Top (Γ : Gam) (T : Tab) (nm : Nms) (K : PySem.W.Frag) (mg : Str → Option Value) : Prop where
  fn : ∀ f x, nm.fn[f]? = some x → ∃ fe, T.fn f = some fe ∧ fe.nm = x ∧ mg x = some (.ref fe.adr) ∧ PySem.W.keepIn K (.ref fe.adr) = true ∧ ∃ d, Γ.fn[f]? = some d ∧ d.np = fe.ps.length ∧ Vals fe.dv fe.du ∧ (∀ G, RSs K G fe.dv d.dfl) ∧
    ∀ (s : Shared) (us : List Value) (m : Nat), K.In s.heap → us.length + m = fe.ps.length → m ≤ fe.du.length → BindsTo s fe.fd ⟨us, []⟩ (fe.ps.zip (us ++ fe.du.drop (fe.du.length - m)))
  kw : ∀ f m p ks, (f, m, p, ks) ∈ nm.kw → ∀ fe, T.fn f = some fe → ∀ (s : Shared) (us ws : List Value), K.In s.heap → us.length = m → ws.length = ks.length →
    ∃ zs, picks p (us ++ ws ++ fe.du) = some zs ∧ zs.length = fe.ps.length ∧ BindsTo s fe.fd ⟨us, ks.zip ws⟩ (fe.ps.zip zs)
  bf : ∀ f, mg (bfN f) = none
  isi : mg "isinstance" = none
  ty : ∀ c, tyB c = true → mg (tyN c) = none
def Fks (Γ : Gam) (T : Tab) (n : Nat) (X : Cx) : Prop := ∀ f fe, T.fn f = some fe → FnG X.prog X.w X.K X.mg X.base n fe.adr fe.fd fe.ps (spF Γ T X.K n f)
structure Ctx (Γ : Gam) (T : Tab) (nm : Nms) (n : Nat) (N : List Str) (sc : Scope) (W : WX) (X : Cx) : Prop where
  bas : Bas X
  rm : Room (n + 2) X.A
  hN : X.N = N
  nd : N.Nodup
  hsc : X.env.scope = sc
  tk : Takes X W
  top : Top Γ T nm X.K X.mg
  fks : Fks Γ T n X

theorem mt_star {nm : Nms} {N : List Str} {sc : Scope} {i : E} {e : Expr} {es : List Expr} {env : PySem.Env} (h : mt nm N sc i e = true) : starEach (e :: es) env = (false, eval e env) :: starEach es env := by
  cases e with
  | Starred x p => cases i <;> simp [mt] at h
  | _ => rfl
theorem mts_plain {nm : Nms} {N : List Str} {sc : Scope} {env : PySem.Env} {pos : Pos} : ∀ {is : Es} {es : List Expr}, mts nm N sc is es = true → (backTo pos (starEach es env)).any (·.1) = false
  | .nil, [], _ => rfl
  | .nil, _ :: _, h => by simp [mts] at h
  | .cons i is, [], h => by simp [mts] at h
  | .cons i is, e :: es, h => by
    simp only [mts, Bool.and_eq_true] at h
    rw [mt_star h.1]
    show (false || (backTo pos (starEach es env)).any (·.1)) = false
    rw [mts_plain h.2]
    rfl
theorem notSl_plain {e : Expr} (h : notSl e = true) (o i : Value) : subscripted e false o i = operate [o, i] (getItem o i) := by
  cases e with
  | Slice a b c p => simp [notSl] at h
  | _ => rfl
theorem noSet_marks {e : Expr} {op : CmpOp} (h : noSet e = true) : behindInMarks op e = false := by
  cases e with
  | Set a b c => simp [noSet] at h
  | _ => rfl

section
variable {Γ : Gam} {T : Tab} {nm : Nms} {n : Nat} {N : List Str} {sc : Scope} {W : WX} {X : Cx}
/-! ### arguments -/
def AgR (K : PySem.W.Frag) (σ : St) (G H : Hp) : List Ag → List V → List Addr → Prop
  | [], [], F => F = []
  | .val r :: as, v :: vs, F => ∃ F1 F2, F = F1 ++ F2 ∧ Own K G H r v F1 ∧ AgR K σ G H as vs F2
  | .ref i :: as, v :: vs, F => σ[i]? = some (some v) ∧ AgR K σ G H as vs F
  | _, _, _ => False
theorem AgR.length {K : PySem.W.Frag} {σ : St} {G H : Hp} : ∀ {as : List Ag} {vs : List V} {F : List Addr}, AgR K σ G H as vs F → as.length = vs.length
  | [], [], _, _ => rfl
  | .val r :: as, v :: vs, _, h => by
    obtain ⟨F1, F2, _, _, q⟩ := h
    rw [List.length_cons, List.length_cons, AgR.length q]
  | .ref i :: as, v :: vs, _, h => by rw [List.length_cons, List.length_cons, AgR.length h.2]
  | [], _ :: _, _, h => h.elim
  | .val _ :: _, [], _, h => h.elim
  | .ref _ :: _, [], _, h => h.elim
theorem AgR.step {K : PySem.W.Frag} {σ : St} {G H G' H' : Hp} : ∀ {as : List Ag} {vs : List V} {F : List Addr}, AgR K σ G H as vs F → Ext G G' → (∀ b u, b ∈ F → H b = some u → H' b = some u) → AgR K σ G' H' as vs F
  | [], [], _, h, _, _ => h
  | .val r :: as, v :: vs, _, h, e, k => by
    obtain ⟨F1, F2, rfl, o, q⟩ := h
    exact ⟨F1, F2, rfl, o.step e fun b u hb => k b u (List.mem_append_left _ hb), AgR.step q e fun b u hb => k b u (List.mem_append_right _ hb)⟩
  | .ref i :: as, v :: vs, _, h, e, k => ⟨h.1, AgR.step h.2 e k⟩
  | [], _ :: _, _, h, _, _ => h.elim
  | .val _ :: _, [], _, h, _, _ => h.elim
  | .ref _ :: _, [], _, h, _, _ => h.elim
theorem perm4 {α : Type} (a b c d : List α) : ((a ++ b) ++ (c ++ d)).Perm ((a ++ c) ++ (b ++ d)) := by
  rw [List.append_assoc, List.append_assoc]
  refine List.Perm.append_left a ?_
  rw [← List.append_assoc, ← List.append_assoc]
  exact List.perm_append_comm.append_right d
theorem takeA_own {K : PySem.W.Frag} {σ : St} {G H : Hp} : ∀ {as : List Ag} {vs : List V} {ρ ρ1 : Env} {F1 F2 : List Addr} {rs : List R}, AgR K σ G H as vs F1 → OwnS K G H ρ σ F2 → takeA as ρ = some (rs, ρ1) →
    ∃ Fa Fb, (F1 ++ F2).Perm (Fa ++ Fb) ∧ OwnS K G H (rs.map some) (vs.map some) Fa ∧ OwnS K G H ρ1 σ Fb
  | [], [], ρ, ρ1, F1, F2, rs, h, o, e => by
    cases h
    simp only [takeA, Option.some.injEq, Prod.mk.injEq] at e
    obtain ⟨rfl, rfl⟩ := e
    exact ⟨[], F2, List.Perm.refl _, rfl, o⟩
  | .val r :: as, v :: vs, ρ, ρ1, F1, F2, rs, h, o, e => by
    obtain ⟨Fx, Fy, rfl, ow, q⟩ := h
    simp only [takeA] at e
    split at e
    · rename_i rs' ρ' e1
      simp only [Option.some.injEq, Prod.mk.injEq] at e
      obtain ⟨rfl, rfl⟩ := e
      obtain ⟨Fa, Fb, hp, h1, h2⟩ := takeA_own q o e1
      refine ⟨Fx ++ Fa, Fb, ?_, ⟨Fx, Fa, rfl, ow, h1⟩, h2⟩
      rw [List.append_assoc, List.append_assoc]
      exact hp.append_left Fx
    · cases e
  | .ref i :: as, v :: vs, ρ, ρ1, F1, F2, rs, h, o, e => by
    obtain ⟨hv, q⟩ := h
    simp only [takeA] at e
    split at e
    · rename_i r e0
      split at e
      · rename_i rs' ρ' e1
        simp only [Option.some.injEq, Prod.mk.injEq] at e
        obtain ⟨rfl, rfl⟩ := e
        obtain ⟨v', Fi, Fr, hv', hp0, ow, o2, _⟩ := o.take e0
        rw [hv] at hv'
        cases hv'
        obtain ⟨Fa, Fb, hp, h1, h2⟩ := takeA_own q o2 e1
        refine ⟨Fi ++ Fa, Fb, ?_, ⟨Fi, Fa, rfl, ow, h1⟩, h2⟩
        have p1 : (F1 ++ F2).Perm (F1 ++ (Fi ++ Fr)) := hp0.append_left F1
        have p2 : (F1 ++ (Fi ++ Fr)).Perm (Fi ++ (F1 ++ Fr)) := by
          rw [← List.append_assoc, ← List.append_assoc]
          exact List.perm_append_comm.append_right Fr
        rw [List.append_assoc]
        exact p1.trans (p2.trans (hp.append_left Fi))
      · cases e
    · cases e
  | [], _ :: _, _, _, _, _, _, h, _, _ => h.elim
  | .val _ :: _, [], _, _, _, _, _, h, _, _ => h.elim
  | .ref _ :: _, [], _, _, _, _, _, h, _, _ => h.elim
theorem putA_own {K : PySem.W.Frag} {σ : St} {G0 H0 G H : Hp} {ws : List V} : ∀ {as : List Ag} {vs : List V} {ρ : Env} {F0 F1 F2 : List Addr} {fin : List R}, AgR K σ G0 H0 as vs F0 → OwnS K G H (fin.map some) ((vs ++ ws).map some) F1 → OwnS K G H ρ σ F2 →
    ∃ Fa Fb, (F1 ++ F2).Perm (Fa ++ Fb) ∧ OwnS K G H (putA as fin ρ) σ Fb
  | [], [], ρ, F0, F1, F2, fin, h, o, q => by
    refine ⟨F1, F2, List.Perm.refl _, ?_⟩
    cases fin with
    | nil => exact q
    | cons r rs => exact q
  | .val r :: as, v :: vs, ρ, F0, F1, F2, [], h, o, q => o.elim
  | .val r :: as, v :: vs, ρ, F0, _, F2, f :: fin, h, o, q => by
    obtain ⟨Fx, Fy, _, _, h2⟩ := h
    obtain ⟨Fc, Fd, rfl, o1, o2⟩ := o
    obtain ⟨Fa, Fb, hp, h3⟩ := putA_own h2 o2 q
    refine ⟨Fc ++ Fa, Fb, ?_, h3⟩
    rw [List.append_assoc, List.append_assoc]
    exact hp.append_left Fc
  | .ref i :: as, v :: vs, ρ, F0, F1, F2, [], h, o, q => o.elim
  | .ref i :: as, v :: vs, ρ, F0, _, F2, f :: fin, h, o, q => by
    obtain ⟨hv, h2⟩ := h
    obtain ⟨Fc, Fd, rfl, o1, o2⟩ := o
    have hi : i < ρ.length := by
      rw [q.length]
      exact (List.getElem?_eq_some_iff.mp hv).1
    obtain ⟨F3, F4, hs, hp0, q2⟩ := q.put hi o1
    have es : σ.set i (some v) = σ := by
      obtain ⟨h1, h2⟩ := List.getElem?_eq_some_iff.mp hv
      rw [← h2]
      exact List.set_getElem_self h1
    rw [es] at q2
    obtain ⟨Fa, Fb, hp, h3⟩ := putA_own h2 o2 q2
    -- what the slot held is let go
    obtain ⟨F2', hp2⟩ : ∃ F2', F2.Perm (F2' ++ F3) := by
      obtain ⟨l, hl⟩ := hs.exists_perm_append
      exact ⟨l, hl.trans List.perm_append_comm⟩
    refine ⟨F2' ++ Fa, Fb, ?_, h3⟩
    have p1 : ((Fc ++ Fd) ++ F2).Perm ((Fc ++ Fd) ++ (F2' ++ F3)) := hp2.append_left _
    have p2 : ((Fc ++ Fd) ++ (F2' ++ F3)).Perm (F2' ++ (Fd ++ (Fc ++ F3))) := by
      have a1 : ((Fc ++ Fd) ++ (F2' ++ F3)).Perm (F2' ++ ((Fc ++ Fd) ++ F3)) := by
        rw [← List.append_assoc, ← List.append_assoc F2']
        exact List.perm_append_comm.append_right F3
      refine a1.trans (List.Perm.append_left F2' ?_)
      rw [← List.append_assoc Fd]
      exact List.perm_append_comm.append_right F3
    have p3 := p1.trans (p2.trans (List.Perm.append_left F2' ((List.Perm.append_left Fd hp0.symm).trans hp)))
    rw [← List.append_assoc] at p3
    exact p3
  | [], _ :: _, _, _, _, _, _, h, _, _ => h.elim
  | .val _ :: _, [], _, _, _, _, _, h, _, _ => h.elim
  | .ref _ :: _, [], _, _, _, _, _, h, _, _ => h.elim
end
end G4

/-! Expressions: what the evaluator says is so. -/
namespace G4
open PySem L2
end G4
namespace L2
open PySem
theorem PE.imp {X : Cx} {e : Expr} {t t' : TE} (h : PE X e t) (k : ∀ σ H Q, t' σ H Q → t σ H Q) : PE X e t' := ⟨fun pins s σ H Q I q => h.run pins s σ H Q I (k σ H Q q)⟩
theorem PT.imp {X : Cx} {e : Expr} {t t' : TT} (h : PT X e t) (k : ∀ σ H Q, t' σ H Q → t σ H Q) : PT X e t' := ⟨fun pins s σ H Q I q => h.run pins s σ H Q I (k σ H Q q)⟩
theorem PW.imp {X : Cx} {e : Expr} {t t' : TT} (h : PW X e t) (k : ∀ σ H Q, t' σ H Q → t σ H Q) : PW X e t' := ⟨fun wh pins s σ H Q I q => h.run wh pins s σ H Q I (k σ H Q q)⟩
theorem PA.imp {X : Cx} {e : List Expr} {t t' : TA} (h : PA X e t) (k : ∀ σ H Q, t' σ H Q → t σ H Q) : PA X e t' := ⟨fun pos pins s σ H Q I q => h.run pos pins s σ H Q I (k σ H Q q)⟩
end L2
namespace G4
open PySem L2
section
variable {Γ : Gam} {T : Tab} {nm : Nms} {n : Nat} {N : List Str} {sc : Scope} {W : WX} {X : Cx} {K : PySem.W.Frag} {σ : St} {G H : Hp} {F : List Addr}
theorem RdS.repImp {α β : Type} {rep rep' : Hp → Hp → α → β → List Addr → Prop} {x : Rs α} {Q : β → Hp → Prop} (h : RdS T K W rep x σ G H F Q) (k : ∀ G H a b F, rep' G H a b F → rep G H a b F) : RdS T K W rep' x σ G H F Q := by
  cases x with
  | ok a ρ => exact fun b G' H' F1 F2 s r o => h b G' H' F1 F2 s (k _ _ _ _ _ r) o
  | ex c fs ρ => exact h
  | no => exact h
theorem rdG.repImp {α β : Type} {rep rep' : Hp → Hp → α → β → List Addr → Prop} {f : Env → Rs α} {Q : β → Hp → Prop} (h : rdG T K W rep f σ H Q) (k : ∀ G H a b F, rep' G H a b F → rep G H a b F) : rdG T K W rep' f σ H Q := by
  obtain ⟨ρ, G, F, w, o, r⟩ := h
  exact ⟨ρ, G, F, w, o, r.repImp k⟩

/-! ### names, constants -/
theorem okVar_of {i : Nat} {x : Str} (c : Ctx Γ T nm n N sc W X) (h : okVar N sc i x = true) : X.N[i]? = some x ∧ Vis X.env.scope x ∧ (x == ("__debug__" : Str)) = false ∧ (x == ("__classdict__" : Str)) = false := by
  unfold okVar isVis at h
  simp only [Bool.and_eq_true, Bool.or_eq_true, decide_eq_true_eq] at h
  obtain ⟨⟨⟨h1, h2⟩, h3⟩, h4⟩ := h
  rw [c.hN, c.hsc]
  exact ⟨h1, h2.elim (fun h => h.elim .inl fun h => .inr (.inl h)) fun h => .inr (.inr h), h3, h4⟩
theorem glo_of {x : Str} (c : Ctx Γ T nm n N sc W X) (h : isGlo sc x = true) : Gl X x ∧ (x == ("__debug__" : Str)) = false := by
  unfold isGlo at h
  rw [Bool.and_eq_true] at h
  have h1 := of_decide_eq_true h.1
  rw [← c.hsc] at h1
  exact ⟨h1, of_decide_eq_true h.2⟩
theorem var_rd {i : Nat} {Q : VK} (h : rdG T K W (Own K) (rdv i) σ H Q) : tVar i σ H Q := by
  obtain ⟨ρ, G, F, w, o, r⟩ := h
  unfold rdv at r
  split at r
  · rename_i d e
    obtain ⟨v, F1, F2, hv, hp, ow, o2, back⟩ := o.take e
    exact ⟨v, hv, r v G H [] F (Stp.refl w) ⟨rfl, ow.2⟩ o⟩
  · rename_i r0 _ e
    split at r
    · rename_i d hf
      obtain ⟨v, F1, F2, hv, hp, ow, o2, back⟩ := o.take e
      obtain ⟨G', rs, st, eg⟩ := ow.share hf (w.perm hp)
      obtain ⟨F5, hp5, o5⟩ := back G' H (.sh d) [] F2 (o2.step eg fun _ _ _ h => h) ⟨rfl, rs⟩
      refine ⟨v, hv, r v G' H [] F5 ?_ ⟨rfl, rs⟩ o5⟩
      exact (st.permL hp.symm).permR hp5.symm
    · exact r.elim
  · exact r.elim
theorem lent_rd {i : Nat} {x : Env → Rs R} {Q : VK} (h : rdG T K W (OrL K) (fun ρ => bor (.var i) ρ (x ρ)) σ H Q) : tVar i σ H Q := by
  obtain ⟨ρ, G, F, w, o, r⟩ := h
  dsimp only [bor] at r
  split at r
  · rename_i r0 e
    obtain ⟨v, F1, F2, hv, hp, ow, o2, back⟩ := o.take e
    exact ⟨v, hv, r v G H [] F (Stp.refl w) (.inl ⟨rfl, ow.lnt⟩) o⟩
  · exact r.elim
theorem cst_pe {d : D} {c : Const} {k : Nat} {p : Pos} (h : mtC d c = true) : ∃ v, RS K G v d ∧ PE X (.Constant c k p) (tC v) := by
  cases d <;> cases c <;> simp only [mtC, decide_eq_true_eq] at h <;> first | (cases h; done) | skip
  · exact ⟨.non, .non, pe_non⟩
  · subst h; exact ⟨.bl _, .bl _, pe_bl⟩
  · subst h; exact ⟨.int _, .int _, pe_int⟩
  · subst h; exact ⟨.str _, .str _, pe_str⟩
theorem cst_pe' {d : D} {c : Const} {k : Nat} {p : Pos} (h : mtC d c = true) : ∃ v, (∀ G, RS K G v d) ∧ PE X (.Constant c k p) (tC v) := by
  cases d <;> cases c <;> simp only [mtC, decide_eq_true_eq] at h <;> first | (cases h; done) | skip
  · exact ⟨.non, fun _ => .non, pe_non⟩
  · subst h; exact ⟨.bl _, fun _ => .bl _, pe_bl⟩
  · subst h; exact ⟨.int _, fun _ => .int _, pe_int⟩
  · subst h; exact ⟨.str _, fun _ => .str _, pe_str⟩

/-! ### two parts -/
def tA (Γ : Gam) (cal : Nat → List R → Cr) (K : PySem.W.Frag) (j : E) : TE := fun σ H Q => ∃ ρ G F, Wd G H F ∧ OwnS K G H ρ σ F ∧ ∃ y, bor j ρ (ev Γ cal j ρ) = .ok y ρ ∧
  ∀ v G' H' F1, New G H G' H' F1 → Lnt K G' H' y v → Q v H'
theorem atom_ok {cal : Nat → List R → Cr} {j : E} (h : atom j = true) (ρ : Env) : (∃ y, bor j ρ (ev Γ cal j ρ) = .ok y ρ) ∨ bor j ρ (ev Γ cal j ρ) = .no := by
  cases j with
  | var i =>
    dsimp only [bor]
    split
    · exact .inl ⟨_, rfl⟩
    · exact .inr rfl
  | cst d => exact .inl ⟨_, rfl⟩
  | glb g =>
    simp only [bor, ev]
    split
    · exact .inl ⟨_, rfl⟩
    · exact .inr rfl
  | lst es =>
    cases es with
    | nil => exact .inl ⟨_, rfl⟩
    | cons e es => simp [atom] at h
  | _ => simp [atom] at h
theorem two_rd {i j : E} {ea eb : Expr} {cal : Nat → List R → Cr} (hA : PE X ea (rdG T X.K W (Own X.K) (ev Γ cal i))) (hAl : PE X ea (rdG T X.K W (OrL X.K) (fun ρ => bor i ρ (ev Γ cal i ρ))))
    (hBl : PE X eb (rdG T X.K W (OrL X.K) (fun ρ => bor j ρ (ev Γ cal j ρ)))) (hBa : atom j = true → PE X eb (tA Γ cal X.K j)) :
    ∃ ta tb, PE X ea ta ∧ PE X eb tb ∧ ∀ (op : D → D → Option R) σ H Q, rdG T X.K W (Own X.K) (fun ρ => (bor2 i j ρ (ev Γ cal i ρ)).bind fun x ρ => (bor j ρ (ev Γ cal j ρ)).bind fun y ρ => lft (op (snap x) (snap y)) ρ) σ H Q →
      ta σ H fun vx H1 => tb σ H1 fun vy H2 => rP2 X.K op vx vy H2 Q := by
  cases hj : atom j with
  | false =>
    refine ⟨_, _, hA, hBl, fun op σ H Q h => ?_⟩
    have h' : rdG T X.K W (Own X.K) (fun ρ => (ev Γ cal i ρ).bind fun x ρ => (bor j ρ (ev Γ cal j ρ)).bind fun y ρ => lft (op (snap x) (snap y)) ρ) σ H Q := by
      obtain ⟨ρ, G, F, w, o, r⟩ := h
      exact ⟨ρ, G, F, w, o, by simpa only [bor2, hj, Bool.false_eq_true, if_false] using r⟩
    exact (rdG.bind (repA := Own X.K) h').imp fun vx H1 a => a.two.imp fun vy H2 a2 => a2.op
  | true =>
    refine ⟨_, _, hAl, hBa hj, fun op σ H Q h => ?_⟩
    have h' : rdG T X.K W (Own X.K) (fun ρ => (bor i ρ (ev Γ cal i ρ)).bind fun x ρ => (bor j ρ (ev Γ cal j ρ)).bind fun y ρ => lft (op (snap x) (snap y)) ρ) σ H Q := by
      obtain ⟨ρ, G, F, w, o, r⟩ := h
      exact ⟨ρ, G, F, w, o, by simpa only [bor2, hj, if_true] using r⟩
    refine (rdG.bind (repA := OrL X.K) h').imp fun vx H1 a => ?_
    obtain ⟨x, ρ, G1, F1, F2, w, ox, o, k⟩ := a
    dsimp only at k
    rcases atom_ok (Γ := Γ) (cal := cal) hj ρ with ⟨y, e⟩ | e
    · refine ⟨ρ, G1, F2, w.sm (List.sublist_append_right _ _), o, y, e, fun vy G2 H2 Fn nw ly => ?_⟩
      rw [e] at k
      have k2 : RdS T X.K W (Own X.K) (lft (op (snap x) (snap y)) ρ) σ G1 H1 (F1 ++ F2) Q := k
      obtain ⟨eg, eh⟩ := nw.ext w.sub
      have st1 := nw.stp w
      have lx := ox.lnt.step eg eh
      cases e2 : op (snap x) (snap y) with
      | none => rw [e2] at k2; exact k2.elim
      | some z =>
        rw [e2] at k2
        refine ⟨G2, _, _, z, st1.wd.sub, lx.sees st1.wd.sub, ly.sees st1.wd.sub, e2, fun v G' H' F5 n5 ow => ?_⟩
        obtain ⟨eg5, eh5⟩ := n5.ext st1.wd.sub
        have st2 := (st1.trans (n5.stp st1.wd)).subR (show (F5 ++ F2).Sublist (F5 ++ (Fn ++ (F1 ++ F2))) from
          (List.Sublist.refl F5).append ((List.sublist_append_right F1 F2).trans (List.sublist_append_right Fn _)))
        exact k2 v G' H' F5 F2 st2 ow ((o.step eg fun b u _ e => eh b u e).step eg5 fun b u _ e => eh5 b u e)
    · rw [e] at k; exact k.elim

/-! ### lists of parts -/
def IsDs (K : PySem.W.Frag) (G H : Hp) (ds : List D) (vs : List V) (F : List Addr) : Prop := F = [] ∧ RSs K G vs ds
def IsRs (K : PySem.W.Frag) (G H : Hp) (rs : List R) (vs : List V) (F : List Addr) : Prop := OwnS K G H (rs.map some) (vs.map some) F
theorem nil_rd {cal : Nat → List R → Cr} {Q : List V → Hp → Prop} (h : rdG T K W (IsDs K) (evD Γ cal .nil) σ H Q) : tNil σ H Q := by
  obtain ⟨ρ, G, F, w, o, r⟩ := h
  exact r [] G H [] F (Stp.refl w) ⟨rfl, .nil⟩ o
theorem nilR_rd {cal : Nat → List R → Cr} {Q : List V → Hp → Prop} (h : rdG T K W (IsRs K) (evR Γ cal .nil) σ H Q) : tNil σ H Q := by
  obtain ⟨ρ, G, F, w, o, r⟩ := h
  exact r [] G H [] F (Stp.refl w) rfl o
theorem nilA_rd {cal : Nat → List R → Cr} {Q : List V → Hp → Prop} (h : rdG T K W (AgR K σ) (evA Γ cal .nil) σ H Q) : tNil σ H Q := by
  obtain ⟨ρ, G, F, w, o, r⟩ := h
  exact r [] G H [] F (Stp.refl w) rfl o
theorem consD_fin {cal : Nat → List R → Cr} {d : D} {v : V} {Q : List V → Hp → Prop} {ρ : Env} {G1 H1 : Hp} {F2 : List Addr} {is : Es} (rs : RS K G1 v d) (w : Wd G1 H1 F2) (o : OwnS K G1 H1 ρ σ F2)
    (k : RdS T K W (IsDs K) ((evD Γ cal is ρ).bind fun ds ρ => .ok (d :: ds) ρ) σ G1 H1 F2 Q) : rdG T K W (IsDs K) (evD Γ cal is) σ H1 fun vs H2 => Q (v :: vs) H2 := by
  refine ⟨ρ, G1, F2, w, o, ?_⟩
  cases e : evD Γ cal is ρ with
  | ok ds ρ2 =>
    rw [e] at k
    intro vs G' H' Fa Fb st r2 o2
    obtain ⟨rfl, r2⟩ := r2
    exact k (v :: vs) G' H' [] Fb st ⟨rfl, .cons (rs.ext st.gr) r2⟩ o2
  | ex c fs ρ2 => rw [e] at k; exact k
  | no => rw [e] at k; exact k
theorem cons_rd {cal : Nat → List R → Cr} {i : E} {is : Es} {Q : List V → Hp → Prop} (h : rdG T K W (IsDs K) (evD Γ cal (.cons i is)) σ H Q) :
    tCons (rdG T K W (Own K) (ev Γ cal i)) (rdG T K W (IsDs K) (evD Γ cal is)) σ H Q := by
  have h' : rdG T K W (IsDs K) (fun ρ => (ev Γ cal i ρ).bind fun r ρ => match frz r with
    | some d => (evD Γ cal is ρ).bind fun ds ρ => .ok (d :: ds) ρ
    | none => .no) σ H Q := h
  refine (rdG.bind (repA := Own K) h').imp fun v H1 a => ?_
  obtain ⟨r, ρ, G1, F1, F2, w, ow, o, k⟩ := a
  dsimp only at k
  split at k
  · rename_i d hf
    obtain ⟨G', rs, st, eg⟩ := ow.share hf w
    have k2 : RdS T K W (IsDs K) ((evD Γ cal is ρ).bind fun ds ρ => .ok (d :: ds) ρ) σ G' H1 F2 Q := RdS.later k st
    exact consD_fin rs st.wd (o.step eg fun _ _ _ h => h) k2
  · exact k.elim
end
end G4

namespace G4
open PySem L2
section
variable {Γ : Gam} {T : Tab} {nm : Nms} {n : Nat} {N : List Str} {sc : Scope} {W : WX} {X : Cx} {K : PySem.W.Frag} {σ : St} {G H : Hp} {F : List Addr} {cal : Nat → List R → Cr}
/-! ### lists of owned things, of arguments -/
theorem consR_rd {i : E} {is : Es} {Q : List V → Hp → Prop} (h : rdG T K W (IsRs K) (evR Γ cal (.cons i is)) σ H Q) :
    tCons (rdG T K W (Own K) (ev Γ cal i)) (rdG T K W (IsRs K) (evR Γ cal is)) σ H Q := by
  have h' : rdG T K W (IsRs K) (fun ρ => (ev Γ cal i ρ).bind fun r ρ => (evR Γ cal is ρ).bind fun rs ρ => .ok (r :: rs) ρ) σ H Q := h
  refine (rdG.bind (repA := Own K) h').imp fun v H1 a => ?_
  obtain ⟨r, ρ, G1, F1, F2, w, ow, o, k⟩ := a
  dsimp only at k
  refine ⟨ρ, G1, F2, w.sm (List.sublist_append_right _ _), o, ?_⟩
  cases e : evR Γ cal is ρ with
  | ok rs ρ2 =>
    rw [e] at k
    intro vs G' H' Fa Fb st r2 o2
    have st2 := st.frame w
    refine k (v :: vs) G' H' (F1 ++ Fa) Fb (by rw [List.append_assoc]; exact st2) ⟨F1, Fa, rfl, ow.step st.gr fun b u hb e => ?_, r2⟩ o2
    exact st.keep b u e fun hb2 => (List.nodup_append.mp w.nd).2.2 b hb b hb2 rfl
  | ex c fs ρ2 =>
    rw [e] at k
    exact RdS.less (repA := IsRs K) (F1 := F1) (x := (.ex c fs ρ2 : Rs (List R))) k w
  | no => rw [e] at k; exact k
theorem consA_rd {i : E} {is : Es} {Q : List V → Hp → Prop} (h : rdG T K W (AgR K σ) (evA Γ cal (.cons i is)) σ H Q) :
    rdG T K W (fun G H a v F => AgR K σ G H [a] [v] F) (fun ρ => agv i ρ (ev Γ cal i ρ)) σ H fun v H1 => rdG T K W (AgR K σ) (evA Γ cal is) σ H1 fun vs H2 => Q (v :: vs) H2 := by
  have h' : rdG T K W (AgR K σ) (fun ρ => (agv i ρ (ev Γ cal i ρ)).bind fun a ρ => (evA Γ cal is ρ).bind fun as ρ => .ok (a :: as) ρ) σ H Q := h
  refine (rdG.bind (repA := fun G H a v F => AgR K σ G H [a] [v] F) h').imp fun v H1 a => ?_
  obtain ⟨r, ρ, G1, F1, F2, w, ow, o, k⟩ := a
  dsimp only at k
  refine ⟨ρ, G1, F2, w.sm (List.sublist_append_right _ _), o, ?_⟩
  cases e : evA Γ cal is ρ with
  | ok rs ρ2 =>
    rw [e] at k
    intro vs G' H' Fa Fb st r2 o2
    have st2 := st.frame w
    have ow2 : AgR K σ G' H' [r] [v] F1 := ow.step st.gr fun b u hb e => st.keep b u e fun hb2 => (List.nodup_append.mp w.nd).2.2 b hb b hb2 rfl
    refine k (v :: vs) G' H' (F1 ++ Fa) Fb (by rw [List.append_assoc]; exact st2) ?_ o2
    cases r with
    | val r =>
      obtain ⟨Fx, Fy, rfl, ow3, hy⟩ := ow2
      cases hy
      exact ⟨Fx, Fa, by rw [List.append_nil], ow3, r2⟩
    | ref j =>
      obtain ⟨hj, hy⟩ := ow2
      cases hy
      exact ⟨hj, r2⟩
  | ex c fs ρ2 =>
    rw [e] at k
    exact RdS.less (repA := AgR K σ) (F1 := F1) (x := (.ex c fs ρ2 : Rs (List Ag))) k w
  | no => rw [e] at k; exact k
/-- an argument that is no name -/
theorem agv_val {i : E} (hi : ∀ k, i ≠ .var k) {Q : VK} (h : rdG T K W (fun G H a v F => AgR K σ G H [a] [v] F) (fun ρ => agv i ρ (ev Γ cal i ρ)) σ H Q) : rdG T K W (Own K) (ev Γ cal i) σ H Q := by
  have h' : rdG T K W (fun G H a v F => AgR K σ G H [a] [v] F) (fun ρ => (ev Γ cal i ρ).bind fun r ρ => .ok (.val r) ρ) σ H Q := by
    obtain ⟨ρ, G, F, w, o, r⟩ := h
    refine ⟨ρ, G, F, w, o, ?_⟩
    cases i with
    | var k => exact absurd rfl (hi k)
    | _ => exact r
  refine (rdG.bind (repA := Own K) h').imp fun v H1 a => ?_
  obtain ⟨r, ρ, G1, F1, F2, w, ow, o, k⟩ := a
  exact k v G1 H1 F1 F2 (Stp.refl w) ⟨F1, [], by rw [List.append_nil], ow, rfl⟩ o
theorem agv_var {i : Nat} {x : Env → Rs R} {Q : VK} (h : rdG T K W (fun G H a v F => AgR K σ G H [a] [v] F) (fun ρ => agv (.var i) ρ (x ρ)) σ H Q) : tVar i σ H Q := by
  obtain ⟨ρ, G, F, w, o, r⟩ := h
  dsimp only [agv] at r
  split at r
  · rename_i d e
    obtain ⟨v, F1, F2, hv, hp, ow, o2, back⟩ := o.take e
    exact ⟨v, hv, r v G H [] F (Stp.refl w) ⟨[], [], rfl, ⟨rfl, ow.2⟩, rfl⟩ o⟩
  · exact r.elim
  · rename_i r0 _ _ e
    obtain ⟨v, F1, F2, hv, hp, ow, o2, back⟩ := o.take e
    exact ⟨v, hv, r v G H [] F (Stp.refl w) ⟨hv, rfl⟩ o⟩
  · exact r.elim
/-! ### the ends of displays, one-place operations -/
theorem tup_rd {is : Es} {Q : VK} (hz : is.len ≤ 1000) (h : rdG T K W (Own K) (fun ρ => (evD Γ cal is ρ).bind fun ds ρ => .ok (.sh (.tup ds)) ρ) σ H Q) (hl : ∀ ρ ds ρ', evD Γ cal is ρ = .ok ds ρ' → ds.length = is.len) :
    tTup (rdG T K W (IsDs K) (evD Γ cal is)) σ H Q := by
  obtain ⟨ρ0, G0, F0, w0, o0, r0⟩ := h
  dsimp only at r0
  refine ⟨ρ0, G0, F0, w0, o0, ?_⟩
  cases e : evD Γ cal is ρ0 with
  | ok ds ρ =>
    rw [e] at r0
    intro vs G' H' F1 F2 st r o
    obtain ⟨rfl, rs⟩ := r
    refine ⟨?_, fun p hp => ?_⟩
    · rw [rs.length, hl _ _ _ e]; exact Nat.le_trans hz (by decide)
    · have nw : New G' H' (upd G' p (.tup vs)) (upd H' p (.tup vs)) [] := .shr p _ hp
      obtain ⟨eg, eh⟩ := nw.ext st.wd.sub
      exact r0 _ _ _ [] F2 (st.trans (nw.stp st.wd)) ⟨rfl, .tup (SqT.of upd_same) (rs.ext eg)⟩ (o.step eg fun b u _ e => eh b u e)
  | ex c fs ρ => rw [e] at r0; exact r0
  | no => rw [e] at r0; exact r0
theorem lst_rd {is : Es} {Q : VK} (hz : is.len ≤ 1000) (h : rdG T K W (Own K) (fun ρ => (evD Γ cal is ρ).bind fun ds ρ => .ok (.ol ds) ρ) σ H Q) (hl : ∀ ρ ds ρ', evD Γ cal is ρ = .ok ds ρ' → ds.length = is.len) :
    tLst (rdG T K W (IsDs K) (evD Γ cal is)) σ H Q := by
  obtain ⟨ρ0, G0, F0, w0, o0, r0⟩ := h
  dsimp only at r0
  refine ⟨ρ0, G0, F0, w0, o0, ?_⟩
  cases e : evD Γ cal is ρ0 with
  | ok ds ρ =>
    rw [e] at r0
    intro vs G' H' F1 F2 st r o
    obtain ⟨rfl, rs⟩ := r
    refine ⟨?_, fun p hp => ?_⟩
    · rw [rs.length, hl _ _ _ e]; exact Nat.le_trans hz (by decide)
    · have nw : New G' H' G' (upd H' p (.lst vs)) [p] := .own p _ hp
      obtain ⟨eg, eh⟩ := nw.ext st.wd.sub
      exact r0 _ _ _ [p] F2 (st.trans (nw.stp st.wd)) ⟨p, vs, rfl, rfl, upd_same, rs⟩ (o.step eg fun b u _ e => eh b u e)
  | ex c fs ρ => rw [e] at r0; exact r0
  | no => rw [e] at r0; exact r0
theorem evD_len : ∀ {is : Es} {ρ : Env} {ds : List D} {ρ' : Env}, evD Γ cal is ρ = .ok ds ρ' → ds.length = is.len
  | .nil, ρ, ds, ρ', h => by
    simp only [evD, Rs.ok.injEq] at h
    rw [← h.1]; rfl
  | .cons i is, ρ, ds, ρ', h => by
    simp only [evD] at h
    cases e : ev Γ cal i ρ with
    | ok r ρ1 =>
      rw [e] at h
      simp only [Rs.bind] at h
      split at h
      · rename_i d _
        cases e2 : evD Γ cal is ρ1 with
        | ok ds2 ρ2 =>
          rw [e2] at h
          simp only [Rs.ok.injEq] at h
          rw [← h.1, List.length_cons, evD_len e2]
          rfl
        | ex c fs ρ2 => rw [e2] at h; cases h
        | no => rw [e2] at h; cases h
      · cases h
    | ex c fs ρ1 => rw [e] at h; cases h
    | no => rw [e] at h; cases h
theorem evR_len : ∀ {is : Es} {ρ : Env} {ds : List R} {ρ' : Env}, evR Γ cal is ρ = .ok ds ρ' → ds.length = is.len
  | .nil, ρ, ds, ρ', h => by
    simp only [evR, Rs.ok.injEq] at h
    rw [← h.1]; rfl
  | .cons i is, ρ, ds, ρ', h => by
    simp only [evR] at h
    cases e : ev Γ cal i ρ with
    | ok r ρ1 =>
      rw [e] at h
      simp only [Rs.bind] at h
      cases e2 : evR Γ cal is ρ1 with
      | ok ds2 ρ2 =>
        rw [e2] at h
        simp only [Rs.ok.injEq] at h
        rw [← h.1, List.length_cons, evR_len e2]
        rfl
      | ex c fs ρ2 => rw [e2] at h; cases h
      | no => rw [e2] at h; cases h
    | ex c fs ρ1 => rw [e] at h; cases h
    | no => rw [e] at h; cases h
/-- the k-th of owned things -/
theorem OwnS.pick : ∀ {rs : List R} {vs : List V} {F : List Addr} {k : Nat} {r : R}, OwnS K G H (rs.map some) (vs.map some) F → rs[k]? = some r → ∃ v F1 F2, vs[k]? = some v ∧ F.Perm (F2 ++ F1) ∧ Own K G H r v F1
  | [], [], _, _, _, _, h => by simp at h
  | r0 :: rs, v0 :: vs, _, 0, r, o, h => by
    obtain ⟨F1, F2, rfl, o1, o2⟩ := o
    simp at h
    subst h
    exact ⟨v0, F1, F2, rfl, List.perm_append_comm, o1⟩
  | r0 :: rs, v0 :: vs, _, k + 1, r, o, h => by
    obtain ⟨Fa, Fb, rfl, o1, o2⟩ := o
    obtain ⟨v, F1, F2, h1, h2, h3⟩ := OwnS.pick (k := k) o2 (by simpa using h)
    exact ⟨v, F1, Fa ++ F2, by simpa using h1, by rw [List.append_assoc]; exact h2.append_left Fa, h3⟩
  | [], _ :: _, _, _, _, o, _ => o.elim
  | _ :: _, [], _, _, _, o, _ => o.elim
theorem ixd_rd {is : Es} {j : E} {Q : VK} (hz : is.len ≤ 1000) (h : rdG T K W (Own K) (fun ρ => (evR Γ cal is ρ).bind fun rs ρ => (ev Γ cal j ρ).bind fun y ρ => match y with
    | .sh (.int i) => lft (atD rs i) ρ
    | _ => .no) σ H Q) : tOp (rIxL K) (tLst (rdG T K W (IsRs K) (evR Γ cal is))) (rdG T K W (Own K) (ev Γ cal j)) σ H Q := by
  obtain ⟨ρ0, G0, F0, w0, o0, r0⟩ := h
  dsimp only at r0
  refine ⟨ρ0, G0, F0, w0, o0, ?_⟩
  cases e : evR Γ cal is ρ0 with
  | ok rs ρ =>
    rw [e] at r0
    dsimp only [Rs.bind] at r0
    intro vs G1 H1 F1 F2 st r o
    have r' : OwnS K G1 H1 (rs.map some) (vs.map some) F1 := r
    have lv : vs.length = rs.length := by simpa using r'.length.symm
    refine ⟨?_, fun p hp => ?_⟩
    · rw [lv, evR_len e]; exact Nat.le_trans hz (by decide)
    -- the display stands at p, held by nobody
    have w1 := st.wd
    have np : p ∉ F1 ++ F2 := fun hm => (w1.out p hm).2 hp
    have e1 : Ext H1 (upd H1 p (.lst vs)) := Ext.upd hp
    have w2 : Wd G1 (upd H1 p (.lst vs)) (F1 ++ F2) := ⟨w1.sub.trans e1, w1.nd, fun q hq => ⟨(w1.out q hq).1, by rw [upd_ne (show q ≠ p from fun z => np (z ▸ hq))]; exact (w1.out q hq).2⟩⟩
    have st1 : Stp G1 H1 (F1 ++ F2) G1 (upd H1 p (.lst vs)) (F1 ++ F2) := ⟨w2, fun _ _ h => h, fun b u h _ => e1 b u h, fun b hb => .inl hb, fun b u h => .inl h⟩
    have o1 := o.step (fun _ _ h => h) (fun b u _ h => e1 b u h)
    have r1 := r'.step (fun _ _ h => h) (fun b u _ h => e1 b u h)
    refine ⟨ρ, G1, F2, w2.sm (List.sublist_append_right _ _), o1, ?_⟩
    cases e2 : ev Γ cal j ρ with
    | ok y ρ2 =>
      rw [e2] at r0
      dsimp only [Rs.bind] at r0
      intro vy G2 H2 F3 F4 s2 ry o2
      split at r0
      · rename_i i
        obtain ⟨rfl, ry⟩ := ry
        cases ry
        cases e3 : atD rs i with
        | none => rw [e3] at r0; exact r0.elim
        | some z =>
          rw [e3] at r0
          have hk : ∃ k, ixN rs.length i = some k ∧ rs[k]? = some z := by
            unfold atD at e3
            cases q : pyIx rs.length i with
            | none => rw [q] at e3; cases e3
            | some k => rw [q] at e3; exact ⟨k, q, e3⟩
          obtain ⟨k, hk1, hk2⟩ := hk
          have s3 := s2.frame w2
          have r3 : OwnS K G2 H2 (rs.map some) (vs.map some) F1 := r1.step s2.gr fun b u hb h => s2.keep b u h fun hb2 => (List.nodup_append.mp w2.nd).2.2 b hb b hb2 rfl
          obtain ⟨v, Fa, Fb, hv, hp3, ow⟩ := r3.pick hk2
          have hat : atI vs i = some v := by
            unfold atI
            rw [lv, hk1]
            exact hv
          have hl : H2 p = some (.lst vs) := s2.keep p _ upd_same fun z => np (List.mem_append_right _ z)
          refine ⟨p, vs, i, v, rfl, rfl, SqL.of hl, hat, ?_⟩
          have s4 : Stp G0 H F0 G2 H2 (Fa ++ F4) := by
            have a1 := (st.trans st1).trans s3
            have a2 : Stp G0 H F0 G2 H2 ((Fb ++ Fa) ++ F4) := a1.permR (by rw [List.nil_append]; exact hp3.append_right F4)
            rw [List.append_assoc] at a2
            exact a2.subR (List.sublist_append_right _ _)
          exact r0 v G2 H2 Fa F4 s4 ow o2
      · exact r0.elim
    | ex c fs ρ2 =>
      rw [e2] at r0
      intro cls d G2 H2 F4 s2 x2 o2
      exact r0 cls d G2 H2 F4 (((st.trans st1).trans (s2.frame w2)).subR (List.sublist_append_right _ _)) x2 o2
    | no => rw [e2] at r0; exact r0.elim
  | ex c fs ρ => rw [e] at r0; exact r0
  | no => rw [e] at r0; exact r0
end
end G4

namespace G4
open PySem L2
section
variable {Γ : Gam} {T : Tab} {nm : Nms} {n : Nat} {N : List Str} {sc : Scope} {W : WX} {X : Cx} {K : PySem.W.Frag} {σ : St} {G H : Hp} {F : List Addr} {cal : Nat → List R → Cr}
/-! ### calls of defs -/
theorem ownS_sh : ∀ {ws : List V} {ds : List D} {rs : List R} {vs : List V} {F : List Addr}, RSs K G ws ds → OwnS K G H (rs.map some) (vs.map some) F → OwnS K G H ((rs ++ ds.map R.sh).map some) ((vs ++ ws).map some) F
  | ws, ds, [], [], F, r, o => by
    rw [show F = [] from o]
    show OwnS K G H ((ds.map R.sh).map some) (ws.map some) []
    clear o
    induction ws generalizing ds with
    | nil => cases r; exact rfl
    | cons w ws ih =>
      cases r with
      | cons r t => exact ⟨[], [], rfl, ⟨rfl, r⟩, ih _ t⟩
  | _, _, [], _ :: _, _, _, o => o.elim
  | _, _, _ :: _, [], _, _, o => o.elim
  | ws, ds, r0 :: rs, v0 :: vs, F, r, o => by
    obtain ⟨F1, F2, rfl, o1, o2⟩ := o
    exact ⟨F1, F2, rfl, o1, ownS_sh r o2⟩
/-- from what a call wants to what its arguments are -/
theorem call_rd {f : Nat} {p : List R → Option (List R)} {as : List Ag} {ρ : Env} {vs ws : List V} {ds : List D} {F1 F2 : List Addr} {Q : VK} (w : Wd G H (F1 ++ F2)) (ha : AgR K σ G H as vs F1) (o : OwnS K G H ρ σ F2)
    (hw : RSs K G ws ds) (hp : ∀ rs rs', rs.length = vs.length → p rs = some rs' → rs' = rs ++ ds.map R.sh) (k : RdS T K W (Own K) (callA (CALL Γ n f) p as ρ) σ G H (F1 ++ F2) Q) : spF Γ T K n f (vs ++ ws) H Q (fun cls d H' => W cls d σ H') := by
  unfold callA at k
  split at k
  · rename_i rs ρ1 e
    split at k
    · rename_i rs' e2
      obtain ⟨Fa, Fb, hperm, o1, o2⟩ := takeA_own ha o e
      have lrs : rs.length = vs.length := by simpa using o1.length
      obtain rfl := hp _ _ lrs e2
      have w1 : Wd G H (Fb ++ Fa) := (w.perm hperm).perm List.perm_append_comm
      have pl : (Fb ++ Fa).Perm (F1 ++ F2) := List.perm_append_comm.trans hperm.symm
      refine ⟨_, G, Fa, w1.sm (List.sublist_append_right _ _), ownS_sh hw o1, ?_⟩
      cases ec : CALL Γ n f (rs ++ ds.map R.sh) with
      | ok r fin =>
        rw [ec] at k
        intro v G' H' F3 F4 st ow of
        have s2 := (st.frame w1).permL pl
        have o3 : OwnS K G' H' ρ1 σ Fb := o2.step st.gr fun b u hb h => st.keep b u h fun hb2 => (List.nodup_append.mp w1.nd).2.2 b hb b hb2 rfl
        obtain ⟨Fx, F5, hp5, o5⟩ := putA_own ha of o3
        refine k v G' H' F3 F5 ?_ ow o5
        have q1 : (Fb ++ (F3 ++ F4)).Perm (Fx ++ (F3 ++ F5)) := by
          have a1 : (Fb ++ (F3 ++ F4)).Perm (F3 ++ (F4 ++ Fb)) := by
            rw [← List.append_assoc F3]
            exact List.perm_append_comm
          refine a1.trans ((hp5.append_left F3).trans ?_)
          rw [← List.append_assoc, ← List.append_assoc]
          exact List.perm_append_comm.append_right F5
        exact (s2.permR q1).subR (List.sublist_append_right _ _)
      | ex c fs fin =>
        rw [ec] at k
        intro cls d G' H' F4 st hx of
        have s2 := (st.frame w1).permL pl
        have o3 : OwnS K G' H' ρ1 σ Fb := o2.step st.gr fun b u hb h => st.keep b u h fun hb2 => (List.nodup_append.mp w1.nd).2.2 b hb b hb2 rfl
        obtain ⟨Fx, F5, hp5, o5⟩ := putA_own ha of o3
        refine k cls d G' H' F5 ?_ hx o5
        exact (s2.permR (List.perm_append_comm.trans hp5)).subR (List.sublist_append_right _ _)
      | no => rw [ec] at k; exact k
    · exact k.elim
  · exact k.elim
theorem run_cal {pins : List (Addr × Obj)} {s : Shared} {Q : VK} {us : List Value} {vs : List V} {a : Addr} {fd : FuncData} {ps : List Str} {sp : Sp} {kw : List (Str × Value)} {us0 : List Value} (tk : Takes X W) (hr : Room (n + 2) X.A) (gu : X.A.guards = some [])
    (hf : FnG X.prog X.w X.K X.mg X.base n a fd ps sp) (I : Inv X pins σ H s) (hb : BindsTo s fd ⟨us0, kw⟩ (ps.zip us)) (r : Vals vs us) (hl : vs.length = ps.length) (h : sp vs H Q fun cls d H' => W cls d σ H') :
    wpAny (model X.prog X.w) X.A (call (.ref a) us0 kw) (EP X pins σ Q) X.xe s := by
  refine wpAny_call (codeAny_mono (hf X.A X.stack s H ⟨us0, kw⟩ us vs Q (fun cls d H' => W cls d σ H') hr gu I.env0 hb r hl h) fun q s' hq => ?_)
  cases q with
  | error e => exact tk _ _ (XE.of_call I (fun _ _ _ z => z) hq)
  | ok fl =>
    cases fl with
    | ret u => exact I.after hq
    | _ => exact hq.elim
theorem own_vals {rs : List R} {vs : List V} (o : OwnS K G H (rs.map some) (vs.map some) F) : rs.length = vs.length := by simpa using o.length
theorem CALL_len {f : Nat} {rs : List R} {fd : Fd} (hf : Γ.fn[f]? = some fd) (h : CALL Γ n f rs ≠ .no) : rs.length = fd.np := by
  cases n with
  | zero => exact absurd rfl h
  | succ n =>
    rw [CALL, hf] at h
    dsimp only at h
    split at h
    · assumption
    · exact absurd rfl h
theorem spF_len {f : Nat} {fd : Fd} {vs : List V} {Q : VK} {E : XK} (hf : Γ.fn[f]? = some fd) (h : spF Γ T K n f vs H Q E) : vs.length = fd.np := by
  obtain ⟨rs, G, F, w, o, k⟩ := h
  rw [← own_vals o]
  refine CALL_len (Γ := Γ) (n := n) hf fun e => ?_
  rw [e] at k
  exact k
theorem RSs.drop : ∀ {vs : List V} {ds : List D} (m : Nat), RSs K G vs ds → RSs K G (vs.drop m) (ds.drop m)
  | _, _, 0, r => r
  | _, _, m + 1, .nil => .nil
  | _, _, m + 1, .cons _ r => RSs.drop m r
theorem vals_drop : ∀ {vs : List V} {us : List Value} (m : Nat), Vals vs us → Vals (vs.drop m) (us.drop m)
  | _, _, 0, r => r
  | _, _, m + 1, .nil => .nil
  | _, _, m + 1, .cons _ r => vals_drop m r
theorem vals_app : ∀ {vs zs : List V} {us ws : List Value}, Vals vs us → Vals zs ws → Vals (vs ++ zs) (us ++ ws)
  | _, _, _, _, .nil, r => r
  | _, _, _, _, .cons a b, r => .cons a (vals_app b r)
theorem pe_cal {f : Nat} {x : Str} {y : Expr} {args : List Expr} {p pos : Pos} {es : Es} (c : Ctx Γ T nm n N sc W X) (hf : nm.fn[f]? = some x) (hg : isGlo sc x = true) (hm : mts nm N sc es (y :: args) = true)
    (ha : PA X (y :: args) (fun σ H Q => rdG T X.K W (AgR X.K σ) (evA Γ (CALL Γ n) es) σ H Q)) :
    PE X (.Call (.Name x p) (y :: args) [] pos) (rdG T X.K W (Own X.K) (ev Γ (CALL Γ n) (.cal f es))) := by
  obtain ⟨gx, dx⟩ := glo_of c hg
  obtain ⟨fe, h1, h2, h3, h4, fd, h6, h7, h8, h9, h5⟩ := c.top.fn f x hf
  have hst : starEach (y :: args) X.env = (false, eval y X.env) :: starEach args X.env := by
    cases es with
    | nil => simp [mts] at hm
    | cons i is =>
      simp only [mts, Bool.and_eq_true] at hm
      exact mt_star hm.1
  have hpl : (backTo pos (starEach args X.env)).any (·.1) = false := by
    cases es with
    | nil => simp [mts] at hm
    | cons i is =>
      simp only [mts, Bool.and_eq_true] at hm
      exact mts_plain hm.2
  refine ⟨fun pins s σ H Q I h => wpAny_Call_Name_kw (ld_glob I gx h3 (PySem.W.callWith_K (h₀ := X.base) I.ok.mod.kin h4 ?_ hst hpl) dx)⟩
  have h' : rdG T X.K W (Own X.K) (fun ρ => (evA Γ (CALL Γ n) es ρ).bind fun as ρ => callA (CALL Γ n f) (fun rs => (Γ.fn[f]?).map fun fd => dfl fd rs) as ρ) σ H Q := by
    obtain ⟨ρ, G, F, w, o, r⟩ := h
    exact ⟨ρ, G, F, w, o, by simpa only [ev] using r⟩
  refine thn (ha.run pos pins s σ H _ I (rdG.bind (repA := AgR X.K σ) h')) fun us s1 ⟨vs, H1, I1, rv, as, ρ, G1, F1, F2, w, ag, o, k⟩ => ⟨I1.kIn, ?_⟩
  -- as many defaults as are wanting
  have ld : fd.dfl.length = fe.du.length := by rw [← h8.length, (h9 G1).length]
  have hds : RSs X.K G1 (fe.dv.drop (fe.du.length - (fd.np - vs.length))) (fd.dfl.drop (fe.du.length - (fd.np - vs.length))) := (h9 G1).drop _
  have sp : spF Γ T X.K n f (vs ++ fe.dv.drop (fe.du.length - (fd.np - vs.length))) H1 Q (fun cls d H' => W cls d σ H') := by
    refine call_rd w ag o hds (fun rs rs' lr e => ?_) k
    rw [h6] at e
    simp only [Option.map_some, Option.some.injEq, dfl] at e
    rw [← e, ld, lr]
  have hl := spF_len h6 sp
  rw [List.length_append, List.length_drop, h8.length] at hl
  have hb := h5 s1 us (fd.np - vs.length) I1.kIn (by rw [← rv.length, ← h7]; omega) (by omega)
  exact run_cal c.tk c.rm c.bas.gu (c.fks f fe h1) I1 hb (vals_app rv (vals_drop _ h8)) (by rw [List.length_append, List.length_drop, h8.length, hl, h7]) sp
end
end G4

namespace G4
open PySem L2
section
variable {Γ : Gam} {T : Tab} {nm : Nms} {n : Nat} {N : List Str} {sc : Scope} {W : WX} {X : Cx} {K : PySem.W.Frag} {σ : St} {G H : Hp} {F : List Addr} {cal : Nat → List R → Cr}
/-! ### calls with keywords -/
theorem two_ds {es ks : Es} {g : List D → Env → Rs R} {Q : VK} (h : rdG T K W (Own K) (fun ρ => (evD Γ cal es ρ).bind fun ds ρ => (evD Γ cal ks ρ).bind fun dk ρ => g (ds ++ dk) ρ) σ H Q) :
    rdG T K W (IsDs K) (evD Γ cal es) σ H fun vs H1 => rdG T K W (IsDs K) (evD Γ cal ks) σ H1 fun ws H2 => Aft T K W (IsDs K) (Own K) g σ Q (vs ++ ws) H2 := by
  refine (rdG.bind (repA := IsDs K) h).imp fun vs H1 a => ?_
  obtain ⟨ds, ρ, G1, F1, F2, w, ⟨rfl, rs⟩, o, k⟩ := a
  dsimp only at k
  rw [List.nil_append] at w k
  refine ⟨ρ, G1, F2, w, o, ?_⟩
  cases e : evD Γ cal ks ρ with
  | ok dk ρ2 =>
    rw [e] at k
    intro ws G' H' Fa Fb st r2 o2
    obtain ⟨rfl, r2⟩ := r2
    exact ⟨ds ++ dk, ρ2, G', [], Fb, st.wd, ⟨rfl, (rs.ext st.gr).append r2⟩, o2, RdS.later (F := F2) k st⟩
  | ex c fs ρ2 => rw [e] at k; exact k
  | no => rw [e] at k; exact k
theorem picks_get : ∀ {α β : Type} {p : List Nat} {l : List α} {m : List β} {xs : List α}, l.length = m.length → picks p l = some xs → ∃ ys, picks p m = some ys
  | _, _, [], _, _, _, _, _ => ⟨[], rfl⟩
  | α, β, k :: p, l, m, xs, hl, h => by
    simp only [picks] at h
    split at h
    · rename_i x xs' e1 e2
      obtain ⟨ys, hy⟩ := picks_get (m := m) hl e2
      have hk : k < m.length := by rw [← hl]; exact (List.getElem?_eq_some_iff.mp e1).1
      exact ⟨m[k] :: ys, by simp only [picks, List.getElem?_eq_getElem hk, hy]⟩
    · cases h
theorem picks_vals : ∀ {p : List Nat} {vs : List V} {us : List Value} {xs : List V} {ys : List Value}, Vals vs us → picks p vs = some xs → picks p us = some ys → Vals xs ys
  | [], _, _, _, _, _, h1, h2 => by cases h1; cases h2; exact .nil
  | k :: p, vs, us, xs, ys, r, h1, h2 => by
    simp only [picks] at h1 h2
    split at h1
    · rename_i x xs' e1 e2
      split at h2
      · rename_i y ys' e3 e4
        cases h1; cases h2
        obtain ⟨u, hu, ru⟩ := r.get e1
        rw [e3] at hu
        cases hu
        exact .cons ru (picks_vals r e2 e4)
      · cases h2
    · cases h1
theorem picks_rs : ∀ {p : List Nat} {vs : List V} {ds : List D} {xs : List V} {ys : List D}, RSs K G vs ds → picks p vs = some xs → picks p ds = some ys → RSs K G xs ys
  | [], _, _, _, _, _, h1, h2 => by cases h1; cases h2; exact .nil
  | k :: p, vs, us, xs, ys, r, h1, h2 => by
    simp only [picks] at h1 h2
    split at h1
    · rename_i x xs' e1 e2
      split at h2
      · rename_i y ys' e3 e4
        cases h1; cases h2
        obtain ⟨u, hu, ru⟩ := r.getV e1
        rw [e3] at hu
        cases hu
        exact .cons ru (picks_rs r e2 e4)
      · cases h2
    · cases h1
theorem agr_sh : ∀ {ds : List D} {vs : List V}, RSs K G vs ds → AgR K σ G H (ds.map fun d => .val (.sh d)) vs []
  | _, _, .nil => rfl
  | _, _, .cons r t => ⟨[], [], rfl, ⟨rfl, r⟩, agr_sh t⟩
theorem kw_all {kws : List Keyword} {env : PySem.Env} {pos : Pos} : ∀ {l : List Str}, kwNames kws = some l → (backToKw pos (keywordEach kws env)).all (·.1.isSome) = true ∧ (backToKw pos (keywordEach kws env)).filterMap (·.1) = l ∧ (backToKw pos (keywordEach kws env)).any (·.1.isNone) = false ∧ l.length = kws.length := by
  induction kws with
  | nil => intro l h; cases h; exact ⟨rfl, rfl, rfl, rfl⟩
  | cons kw kws ih =>
    intro l h
    obtain ⟨x, e, p⟩ := kw
    cases x with
    | none => cases h
    | some x =>
      simp only [kwNames] at h
      split at h
      · rename_i l' e'
        cases h
        obtain ⟨h1, h2, h3, h4⟩ := ih e'
        refine ⟨h1, ?_, h3, by rw [List.length_cons, List.length_cons, h4]⟩
        show x :: (backToKw pos (keywordEach kws env)).filterMap (·.1) = x :: l'
        rw [h2]
      · cases h
theorem mts_len : ∀ {is : Es} {es : List Expr}, mts nm N sc is es = true → is.len = es.length
  | .nil, [], _ => rfl
  | .nil, _ :: _, h => by simp [mts] at h
  | .cons i is, [], h => by simp [mts] at h
  | .cons i is, e :: es, h => by
    simp only [mts, Bool.and_eq_true] at h
    show is.len + 1 = es.length + 1
    rw [mts_len h.2]
theorem mtk_len : ∀ {is : Es} {es : List Keyword}, mtk nm N sc is es = true → is.len = es.length
  | .nil, [], _ => rfl
  | .nil, _ :: _, h => by simp [mtk] at h
  | .cons i is, [], h => by simp [mtk] at h
  | .cons i is, ⟨_, e, _⟩ :: es, h => by
    simp only [mtk, Bool.and_eq_true] at h
    show is.len + 1 = es.length + 1
    rw [mtk_len h.2]
theorem agr_args {f : Nat} {vs : List V} {ds : List D} {ρ : Env} {F2 : List Addr} {Q : VK} (w : Wd G H F2) (r : RSs K G vs ds) (o : OwnS K G H ρ σ F2)
    (k : RdS T K W (Own K) (callA (CALL Γ n f) some (ds.map fun d => .val (.sh d)) ρ) σ G H F2 Q) : spF Γ T K n f vs H Q (fun cls d H' => W cls d σ H') := by
  have q := call_rd (F1 := []) (ws := []) (ds := []) w (agr_sh r) o .nil (fun rs rs' _ e => by rw [List.map_nil, List.append_nil]; exact (Option.some.inj e).symm) k
  rw [List.append_nil] at q
  exact q
theorem lenD {is : Es} {Q : List V → Hp → Prop} (h : rdG T K W (IsDs K) (evD Γ cal is) σ H Q) : rdG T K W (IsDs K) (evD Γ cal is) σ H fun vs H' => vs.length = is.len ∧ Q vs H' := by
  obtain ⟨ρ, G, F, w, o, r⟩ := h
  refine ⟨ρ, G, F, w, o, ?_⟩
  cases e : evD Γ cal is ρ with
  | ok ds ρ2 =>
    rw [e] at r
    intro vs G' H' Fa Fb st r2 o2
    exact ⟨by rw [r2.2.length, evD_len e], r vs G' H' Fa Fb st r2 o2⟩
  | ex c fs ρ2 => rw [e] at r; exact r
  | no => rw [e] at r; exact r
theorem pe_calk {f : Nat} {x : Str} {args : List Expr} {kw : Keyword} {kws : List Keyword} {p pos : Pos} {es ks : Es} {pk : List Nat} {l : List Str} (c : Ctx Γ T nm n N sc W X) (hf : nm.fn[f]? = some x) (hg : isGlo sc x = true)
    (hm : mts nm N sc es args = true) (hmk : mtk nm N sc ks (kw :: kws) = true) (hkn : kwNames (kw :: kws) = some l) (hin : (f, args.length, pk, l) ∈ nm.kw)
    (ha : PA X args (fun σ H Q => rdG T X.K W (IsDs X.K) (evD Γ (CALL Γ n) es) σ H Q)) (hk : PK X (kw :: kws) (fun σ H Q => rdG T X.K W (IsDs X.K) (evD Γ (CALL Γ n) ks) σ H Q)) :
    PE X (.Call (.Name x p) args (kw :: kws) pos) (rdG T X.K W (Own X.K) (ev Γ (CALL Γ n) (.calk f es ks pk))) := by
  obtain ⟨gx, dx⟩ := glo_of c hg
  obtain ⟨fe, h1, h2, h3, h4, fd, h6, h7, h8, h9, h5⟩ := c.top.fn f x hf
  have hkw := c.top.kw f _ pk l hin fe h1
  obtain ⟨k1, k2, k3, k4⟩ := kw_all (env := X.env) (pos := pos) hkn
  refine ⟨fun pins s σ H Q I h => wpAny_Call_Name_kw (ld_glob I gx h3 ?_ dx)⟩
  have h' : rdG T X.K W (Own X.K) (fun ρ => (evD Γ (CALL Γ n) es ρ).bind fun ds ρ => (evD Γ (CALL Γ n) ks ρ).bind fun dk ρ => match picks pk (ds ++ dk ++ fd.dfl) with
    | some ps => callA (CALL Γ n f) some (ps.map fun d => .val (.sh d)) ρ
    | none => .no) σ H Q := by
    obtain ⟨ρ, G, F, w, o, r⟩ := h
    refine ⟨ρ, G, F, w, o, ?_⟩
    simp only [ev, h6, Option.bind_some] at r
    exact r
  have h2' := two_ds (g := fun ds ρ => match picks pk (ds ++ fd.dfl) with
    | some ps => callA (CALL Γ n f) some (ps.map fun d => .val (.sh d)) ρ
    | none => .no) h'
  have last : ∀ (us ws : List Value) (vs zs : List V) (s2 : Shared) (H2 : Hp), us.length = args.length → Inv X pins σ H2 s2 → Vals vs us → Vals zs ws → Aft T X.K W (IsDs X.K) (Own X.K) (fun ds ρ => match picks pk (ds ++ fd.dfl) with
    | some ps => callA (CALL Γ n f) some (ps.map fun d => .val (.sh d)) ρ
    | none => .no) σ Q (vs ++ zs) H2 → ws.length = l.length → wpAny (model X.prog X.w) X.A (call (.ref fe.adr) ([] ++ us) (l.zip ws)) (EP X pins σ Q) X.xe s2 := by
    intro us ws vs zs s2 H2 hlu I2 r rz q hlw
    obtain ⟨ds, ρ, G1, F1, F2, w, ⟨rfl, rs⟩, o, k⟩ := q
    dsimp only at k
    rw [List.nil_append] at w k
    split at k
    · rename_i ps e
      obtain ⟨xs, hb1, hb2, hb⟩ := hkw s2 us ws I2.kIn hlu hlw
      have rall : Vals (vs ++ zs) (us ++ ws) := vals_app r rz
      have rs2 : RSs X.K G1 (vs ++ zs ++ fe.dv) (ds ++ fd.dfl) := rs.append (h9 G1)
      obtain ⟨ys, hy⟩ := picks_get (m := vs ++ zs ++ fe.dv) (by rw [rs2.length]) e
      have rp := picks_rs rs2 hy e
      have rv := picks_vals (vals_app rall h8) hy hb1
      exact run_cal c.tk c.rm c.bas.gu (c.fks f fe h1) I2 hb rv (by rw [rv.length, hb2]) (agr_args w rp o k)
    · exact k.elim
  have hlk : ks.len = l.length := by rw [mtk_len hmk, k4]
  cases args with
  | nil =>
    cases es with
    | cons i is => simp [mts] at hm
    | nil =>
      obtain ⟨ρ, G, F, w, o, r⟩ := h2'
      have h3' := r [] G H [] F (Stp.refl w) ⟨rfl, .nil⟩ o
      refine PySem.W.callWith_KW0 (h₀ := X.base) I.ok.mod.kin h4 k1 ?_ (by rw [k3]; rfl)
      refine thn (hk.run pos pins s σ H _ I (lenD h3')) fun ws s2 ⟨zs, H2, I2, rz, lz, q2⟩ => ⟨I2.kIn, ?_⟩
      rw [k2]
      exact last [] ws [] zs s2 H2 rfl I2 .nil rz q2 (by rw [← rz.length, lz, hlk])
  | cons y args =>
    have hst : starEach (y :: args) X.env = (false, eval y X.env) :: starEach args X.env := by
      cases es with
      | nil => simp [mts] at hm
      | cons i is =>
        simp only [mts, Bool.and_eq_true] at hm
        exact mt_star hm.1
    refine PySem.W.callWith_KW (h₀ := X.base) I.ok.mod.kin h4 k1 (thn (ha.run pos pins s σ H _ I (lenD h2')) fun us s1 ⟨vs, H1, I1, r, lv, q⟩ => ?_) (by rw [mts_plain hm, k3]; rfl) hst
    refine thn (hk.run pos pins s1 σ H1 _ I1 (lenD q)) fun ws s2 ⟨zs, H2, I2, rz, lz, q2⟩ => ⟨I2.kIn, ?_⟩
    rw [k2]
    exact last us ws vs zs s2 H2 (by rw [← r.length, lv, mts_len hm]) I2 r rz q2 (by rw [← rz.length, lz, hlk])
end
end G4

namespace G4
open PySem L2
section
variable {Γ : Gam} {T : Tab} {nm : Nms} {n : Nat} {N : List Str} {sc : Scope} {W : WX} {X : Cx} {K : PySem.W.Frag} {σ : St} {G H : Hp} {F : List Addr} {cal : Nat → List R → Cr}
/-! ### small rules -/
theorem rdG.cong {α β : Type} {rep : Hp → Hp → α → β → List Addr → Prop} {f g : Env → Rs α} {Q : β → Hp → Prop} (h : rdG T K W rep f σ H Q) (e : ∀ ρ, f ρ = g ρ) : rdG T K W rep g σ H Q := by
  obtain ⟨ρ, G, F, w, o, r⟩ := h
  exact ⟨ρ, G, F, w, o, e ρ ▸ r⟩
theorem neg_rd {a : E} {Q : VK} (h : rdG T K W (Own K) (ev Γ cal (.neg a)) σ H Q) : tUn (rU fun i => .int (-i)) (rdG T K W (Own K) (ev Γ cal a)) σ H Q := by
  have h' : rdG T K W (Own K) (fun ρ => (ev Γ cal a ρ).bind fun x ρ => match x with
    | .sh (.int i) => .ok (.sh (.int (-i))) ρ
    | _ => .no) σ H Q := h.cong fun ρ => by first | rfl | (simp only [ev]; rfl) | simp only [ev]
  refine (rdG.bind (repA := Own K) h').imp fun v H1 a => ?_
  obtain ⟨x, ρ, G1, F1, F2, w, ow, o, k⟩ := a
  dsimp only at k
  split at k
  · obtain ⟨rfl, rs⟩ := ow
    cases rs
    exact ⟨_, rfl, k _ G1 H1 [] F2 (Stp.refl w) ⟨rfl, .int _⟩ o⟩
  · exact k.elim
/-- a test's reading ahead of what goes on with a bool -/
theorem tst_rd {α β : Type} {rep : Hp → Hp → α → β → List Addr → Prop} {f : Env → Rs R} {g : Bool → Env → Rs α} {Q : β → Hp → Prop} (h : rdG T K W rep (fun ρ => tst (f ρ) g) σ H Q) :
    rdG T K W IsB (fun ρ => tstB (f ρ)) σ H fun c H1 => rdG T K W rep (g c) σ H1 Q := by
  have h' : rdG T K W rep (fun ρ => (tstB (f ρ)).bind g) σ H Q := by
    exact h.cong fun ρ => tst_eq _ _
  refine (rdG.bind (repA := IsB) h').imp fun c H1 a => ?_
  obtain ⟨c', ρ, G1, F1, F2, w, ⟨rfl, rfl⟩, o, k⟩ := a
  exact ⟨ρ, G1, F2, w, o, k⟩
theorem boolV_rd {f : Env → Rs R} {P : Bool → Hp → Prop} (h : rdG T K W IsB (fun ρ => tstB (f ρ)) σ H P) : rdG T K W (Own K) f σ H fun x H1 => ∃ c, x = .bl c ∧ P c H1 := by
  obtain ⟨ρ, G, F, w, o, r⟩ := h
  refine ⟨ρ, G, F, w, o, ?_⟩
  dsimp only at r
  cases e : f ρ with
  | ok r0 ρ2 =>
    rw [e] at r
    intro v G' H' F1 F2 st ow o2
    cases r0 with
    | sh d =>
      cases d with
      | bl b =>
        obtain ⟨rfl, rs⟩ := ow
        cases rs
        exact ⟨b, rfl, r b G' H' [] F2 st ⟨rfl, rfl⟩ o2⟩
      | _ => exact r.elim
    | _ => exact r.elim
  | ex c fs ρ2 => rw [e] at r; exact r
  | no => rw [e] at r; exact r
theorem no_rd {a : E} {Q : VK} (h : rdG T K W (Own K) (ev Γ cal (.no a)) σ H Q) : tNotV (rdG T K W (Own K) (ev Γ cal a)) σ H Q := by
  have h' : rdG T K W (Own K) (fun ρ => tst (ev Γ cal a ρ) fun c ρ => .ok (.sh (.bl (!c))) ρ) σ H Q := h.cong fun ρ => by first | rfl | (simp only [ev]; rfl) | simp only [ev]
  refine (boolV_rd (tst_rd h')).imp fun x H1 ⟨c, e, ρ, G, F, w, o, k⟩ => ⟨c, e, ?_⟩
  exact k _ G H1 [] F (Stp.refl w) ⟨rfl, .bl _⟩ o
theorem and_rd {a b : E} {Q : VK} (h : rdG T K W (Own K) (ev Γ cal (.and a b)) σ H Q) : tAndV (rdG T K W (Own K) (ev Γ cal a)) (rdG T K W (Own K) (ev Γ cal b)) σ H Q := by
  have h' : rdG T K W (Own K) (fun ρ => tst (ev Γ cal a ρ) fun c ρ => if c then ev Γ cal b ρ else .ok (.sh (.bl false)) ρ) σ H Q := h.cong fun ρ => by first | rfl | (simp only [ev]; rfl) | simp only [ev]
  refine (boolV_rd (tst_rd h')).imp fun x H1 ⟨c, e, ρ, G, F, w, o, k⟩ => ⟨c, e, ?_⟩
  cases c with
  | true => exact ⟨ρ, G, F, w, o, k⟩
  | false => exact k _ G H1 [] F (Stp.refl w) ⟨rfl, .bl _⟩ o
theorem or_rd {a b : E} {Q : VK} (h : rdG T K W (Own K) (ev Γ cal (.or a b)) σ H Q) : tOrV (rdG T K W (Own K) (ev Γ cal a)) (rdG T K W (Own K) (ev Γ cal b)) σ H Q := by
  have h' : rdG T K W (Own K) (fun ρ => tst (ev Γ cal a ρ) fun c ρ => if c then .ok (.sh (.bl true)) ρ else ev Γ cal b ρ) σ H Q := h.cong fun ρ => by first | rfl | (simp only [ev]; rfl) | simp only [ev]
  refine (boolV_rd (tst_rd h')).imp fun x H1 ⟨c, e, ρ, G, F, w, o, k⟩ => ⟨c, e, ?_⟩
  cases c with
  | false => exact ⟨ρ, G, F, w, o, k⟩
  | true => exact k _ G H1 [] F (Stp.refl w) ⟨rfl, .bl _⟩ o
theorem ite_rd {c a b : E} {Q : VK} (h : rdG T K W (Own K) (ev Γ cal (.ite c a b)) σ H Q) :
    tIf (rdG T K W IsB (fun ρ => tstB (ev Γ cal c ρ))) (rdG T K W (Own K) (ev Γ cal a)) (rdG T K W (Own K) (ev Γ cal b)) σ H Q := by
  have h' : rdG T K W (Own K) (fun ρ => tst (ev Γ cal c ρ) fun c ρ => if c then ev Γ cal a ρ else ev Γ cal b ρ) σ H Q := h.cong fun ρ => by first | rfl | (simp only [ev]; rfl) | simp only [ev]
  refine (tst_rd h').imp fun d H1 ⟨ρ, G, F, w, o, k⟩ => ?_
  cases d with
  | true => exact ⟨ρ, G, F, w, o, k⟩
  | false => exact ⟨ρ, G, F, w, o, k⟩
theorem tstB_tst (x : Rs R) (f : Bool → Env → Rs R) : tstB (tst x f) = (tstB x).bind fun c ρ => tstB (f c ρ) := by
  cases x with
  | ok r ρ =>
    cases r with
    | sh d => cases d <;> rfl
    | _ => rfl
  | ex c fs ρ => rfl
  | no => rfl
theorem tstB_bl {c : Bool} {ρ : Env} : tstB (.ok (.sh (.bl c)) ρ) = .ok c ρ := rfl
/-- the same for tests -/
theorem tstT_rd {f : Env → Rs R} {g : Bool → Env → Rs R} {Q : Bool → Hp → Prop} (h : rdG T K W IsB (fun ρ => tstB (tst (f ρ) g)) σ H Q) :
    rdG T K W IsB (fun ρ => tstB (f ρ)) σ H fun c H1 => rdG T K W IsB (fun ρ => tstB (g c ρ)) σ H1 Q := by
  have h' : rdG T K W IsB (fun ρ => (tstB (f ρ)).bind fun c ρ => tstB (g c ρ)) σ H Q := by
    exact h.cong fun ρ => tstB_tst _ _
  refine (rdG.bind (repA := IsB) h').imp fun c H1 a => ?_
  obtain ⟨c', ρ, G1, F1, F2, w, ⟨rfl, rfl⟩, o, k⟩ := a
  exact ⟨ρ, G1, F2, w, o, k⟩
theorem okB {c : Bool} {Q : Bool → Hp → Prop} (h : rdG T K W IsB (fun ρ => .ok c ρ) σ H Q) : Q c H := by
  obtain ⟨ρ, G, F, w, o, k⟩ := h
  exact k c G H [] F (Stp.refl w) ⟨rfl, rfl⟩ o
theorem noT_rd {a : E} {Q : Bool → Hp → Prop} (h : rdG T K W IsB (fun ρ => tstB (ev Γ cal (.no a) ρ)) σ H Q) : tNot (rdG T K W IsB (fun ρ => tstB (ev Γ cal a ρ))) σ H Q := by
  have h' : rdG T K W IsB (fun ρ => tstB (tst (ev Γ cal a ρ) fun c ρ => .ok (.sh (.bl (!c))) ρ)) σ H Q := h.cong fun ρ => by first | rfl | (simp only [ev]; rfl) | simp only [ev]
  exact (tstT_rd h').imp fun c H1 k => okB k
theorem andT_rd {a b : E} {Q : Bool → Hp → Prop} (h : rdG T K W IsB (fun ρ => tstB (ev Γ cal (.and a b) ρ)) σ H Q) : tAnd (rdG T K W IsB (fun ρ => tstB (ev Γ cal a ρ))) (rdG T K W IsB (fun ρ => tstB (ev Γ cal b ρ))) σ H Q := by
  have h' : rdG T K W IsB (fun ρ => tstB (tst (ev Γ cal a ρ) fun c ρ => if c then ev Γ cal b ρ else .ok (.sh (.bl false)) ρ)) σ H Q := h.cong fun ρ => by first | rfl | (simp only [ev]; rfl) | simp only [ev]
  refine (tstT_rd h').imp fun c H1 k => ?_
  cases c with
  | true => exact k
  | false => exact okB k
theorem orT_rd {a b : E} {Q : Bool → Hp → Prop} (h : rdG T K W IsB (fun ρ => tstB (ev Γ cal (.or a b) ρ)) σ H Q) : tOr (rdG T K W IsB (fun ρ => tstB (ev Γ cal a ρ))) (rdG T K W IsB (fun ρ => tstB (ev Γ cal b ρ))) σ H Q := by
  have h' : rdG T K W IsB (fun ρ => tstB (tst (ev Γ cal a ρ) fun c ρ => if c then .ok (.sh (.bl true)) ρ else ev Γ cal b ρ)) σ H Q := h.cong fun ρ => by first | rfl | (simp only [ev]; rfl) | simp only [ev]
  refine (tstT_rd h').imp fun c H1 k => ?_
  cases c with
  | false => exact k
  | true => exact okB k
def tIfT (t ta tb : TT) : TT := fun σ H Q => t σ H fun c H1 => if c = true then ta σ H1 Q else tb σ H1 Q
theorem pt_ifT {c a b : Expr} {pos : Pos} {tA ta tb : TT} (hc : PT X c tA) (ha : PT X a ta) (hb : PT X b tb) : PT X (.IfExp c a b pos) (tIfT tA ta tb) := by
  refine ⟨fun pins s σ H Q I h => ?_⟩
  refine PyProof.Rows.isTrue_IfExp (thn (hc.run pins s σ H _ I h) fun d s1 ⟨H1, I1, q1⟩ => ?_)
  cases d with
  | true => exact ha.run pins s1 σ H1 Q I1 q1
  | false => exact hb.run pins s1 σ H1 Q I1 q1
theorem iteT_rd {c a b : E} {Q : Bool → Hp → Prop} (h : rdG T K W IsB (fun ρ => tstB (ev Γ cal (.ite c a b) ρ)) σ H Q) :
    tIfT (rdG T K W IsB (fun ρ => tstB (ev Γ cal c ρ))) (rdG T K W IsB (fun ρ => tstB (ev Γ cal a ρ))) (rdG T K W IsB (fun ρ => tstB (ev Γ cal b ρ))) σ H Q := by
  have h' : rdG T K W IsB (fun ρ => tstB (tst (ev Γ cal c ρ) fun c ρ => if c then ev Γ cal a ρ else ev Γ cal b ρ)) σ H Q := h.cong fun ρ => by first | rfl | (simp only [ev]; rfl) | simp only [ev]
  refine (tstT_rd h').imp fun d H1 k => ?_
  cases d with
  | true => exact k
  | false => exact k
/-- a test that is its value's truth -/
theorem val_rd {i : E} {Q : Bool → Hp → Prop} (h : rdG T K W IsB (fun ρ => tstB (ev Γ cal i ρ)) σ H Q) : tB (rdG T K W (Own K) (ev Γ cal i)) σ H Q := boolV_rd h
/-! ### chains -/
theorem cm2_rd {o p : Co} {a b c : E} {Q : VK} (h : rdG T K W (Own K) (ev Γ cal (.cm2 o p a b c)) σ H Q) :
    tChain (rP2 K (cmpR o)) (rP2 K (cmpR p)) (rdG T K W (Own K) (ev Γ cal a)) (rdG T K W (Own K) (ev Γ cal b)) (rdG T K W (Own K) (ev Γ cal c)) σ H Q := by
  have h' : rdG T K W (Own K) (fun ρ => (ev Γ cal a ρ).bind fun x ρ => (ev Γ cal b ρ).bind fun y ρ => match y with
    | .sh d => (match cmpD o (snap x) d with
      | some true => (ev Γ cal c ρ).bind fun z ρ => lft (cmpR p d (snap z)) ρ
      | some false => .ok (.sh (.bl false)) ρ
      | none => .no)
    | _ => .no) σ H Q := h.cong fun ρ => by first | rfl | (simp only [ev]; rfl) | simp only [ev]
  refine (rdG.bind (repA := Own K) h').imp fun vx H1 a1 => ?_
  have a2 := Aft.two (g := fun x y ρ => match y with
    | .sh d => (match cmpD o (snap x) d with
      | some true => (ev Γ cal c ρ).bind fun z ρ => lft (cmpR p d (snap z)) ρ
      | some false => .ok (.sh (.bl false)) ρ
      | none => .no)
    | _ => .no) a1
  have a3 : rdG T K W (Own K) (ev Γ cal b) σ H1 _ := rdG.repImp a2 fun G H a b F h => .inr h
  refine a3.imp fun vy H2 ⟨x, y, ρ, G, Fx, F, w, lx, ly, ow, k⟩ => ?_
  dsimp only at k
  split at k
  · rename_i d
    obtain ⟨Fy, rfl, ry⟩ := ly
    split at k
    · rename_i e
      refine ⟨G, _, _, .sh (.bl true), w.sub, lx.sees w.sub, ry.sees w.sub, by simp only [cmpR, e, Option.map_some], fun v G' H' F' nw ov => ?_⟩
      obtain ⟨rfl, rv⟩ := ov
      cases rv
      refine ⟨true, rfl, ?_⟩
      rw [if_pos rfl]
      obtain ⟨eg, eh⟩ := nw.ext w.sub
      have st := nw.stp w
      rw [List.nil_append] at st
      have k2 := RdS.less (RdS.later k st) st.wd
      have h3 : rdG T K W (Own K) (fun ρ => (ev Γ cal c ρ).bind fun z ρ => lft (cmpR p d (snap z)) ρ) σ H' Q := ⟨ρ, G', F, st.wd.sm (List.sublist_append_right _ _), ow.step eg fun b u _ e => eh b u e, k2⟩
      -- the middle one is shared
      obtain ⟨ρ4, G4, F4, w4, o4, k4⟩ := id h3
      have key : rdG T K W (Own K) (ev Γ cal c) σ H' fun vz H3 => rP2 K (cmpR p) vy vz H3 Q := by
        refine ⟨ρ, G', F, st.wd.sm (List.sublist_append_right _ _), ow.step eg fun b u _ e => eh b u e, ?_⟩
        cases e5 : ev Γ cal c ρ with
        | ok z ρ5 =>
          rw [e5] at k2
          intro vz G5 H5 F5 F6 s5 oz o5
          dsimp only [Rs.bind] at k2
          cases e6 : cmpR p d (snap z) with
          | none => rw [e6] at k2; exact k2.elim
          | some b =>
            rw [e6] at k2
            refine ⟨G5, _, _, b, s5.wd.sub, ((ry.ext eg).ext s5.gr).sees s5.wd.sub, (oz.lnt).sees s5.wd.sub, e6, fun v G7 H7 F7 n7 o7 => ?_⟩
            obtain ⟨eg7, eh7⟩ := n7.ext s5.wd.sub
            have s7 := (s5.trans (n7.stp s5.wd)).subR (show (F7 ++ F6).Sublist (F7 ++ (F5 ++ F6)) from (List.Sublist.refl F7).append (List.sublist_append_right _ _))
            exact k2 v G7 H7 F7 F6 s7 o7 (o5.step eg7 fun b u _ e => eh7 b u e)
        | ex c' fs ρ5 => rw [e5] at k2; exact k2
        | no => rw [e5] at k2; exact k2
      exact key
    · rename_i e
      refine ⟨G, _, _, .sh (.bl false), w.sub, lx.sees w.sub, ry.sees w.sub, by simp only [cmpR, e, Option.map_some], fun v G' H' F' nw ov => ?_⟩
      obtain ⟨rfl, rv⟩ := ov
      cases rv
      refine ⟨false, rfl, ?_⟩
      rw [if_neg (by decide)]
      obtain ⟨eg, eh⟩ := nw.ext w.sub
      have st := nw.stp w
      rw [List.nil_append] at st
      exact k _ G' H' [] F (st.subR (List.sublist_append_right _ _)) ⟨rfl, .bl _⟩ (ow.step eg fun b u _ e => eh b u e)
    · exact k.elim
  · exact k.elim
end
end G4

namespace G4
open PySem L2
section
variable {Γ : Gam} {T : Tab} {nm : Nms} {n : Nat} {N : List Str} {sc : Scope} {W : WX} {X : Cx} {K : PySem.W.Frag} {σ : St} {G H : Hp} {F : List Addr} {cal : Nat → List R → Cr}
/-! ### built-ins -/
theorem pe_blt {f : Bf} {x : Str} {y : Expr} {args : List Expr} {p pos : Pos} {t : TA} (c : Ctx Γ T nm n N sc W X) (hx : x = bfN f) (hg : isGlo sc x = true) (ha : PA X (y :: args) t)
    (hst : starEach (y :: args) X.env = (false, eval y X.env) :: starEach args X.env) (hpl : (backTo pos (starEach args X.env)).any (·.1) = false) : PE X (.Call (.Name x p) (y :: args) [] pos) (tCB (rPs X.K (bltD f)) t) := by
  subst hx
  obtain ⟨gx, dx⟩ := glo_of c hg
  have hm := c.top.bf f
  have ho := opF c.bas f
  cases f
  case len => exact pe_callB ho gx hm (by decide +kernel) ha (by decide) dx hst hpl
  case abs => exact pe_callB ho gx hm (by decide +kernel) ha (by decide) dx hst hpl
  case int => exact pe_callTy ho gx hm (by decide +kernel) ha (by decide) dx hst hpl
  case str => exact pe_callTy ho gx hm (by decide +kernel) ha (by decide) dx hst hpl
  case lst => exact pe_callTy ho gx hm (by decide +kernel) ha (by decide) dx hst hpl
  case tup => exact pe_callTy ho gx hm (by decide +kernel) ha (by decide) dx hst hpl
  case max => exact pe_callB ho gx hm (by decide +kernel) ha (by decide) dx hst hpl
  case min => exact pe_callB ho gx hm (by decide +kernel) ha (by decide) dx hst hpl
  case sum => exact pe_callB ho gx hm (by decide +kernel) ha (by decide) dx hst hpl
  case sorted => exact pe_callB ho gx hm (by decide +kernel) ha (by decide) dx hst hpl
  case all => exact pe_callB ho gx hm (by decide +kernel) ha (by decide) dx hst hpl
  case dct => exact pe_callTy ho gx hm (by decide +kernel) ha (by decide) dx hst hpl
  case set => exact pe_callTy ho gx hm (by decide +kernel) ha (by decide) dx hst hpl
theorem RSs.seesL : ∀ {vs : List V} {ds : List D}, Ext G H → RSs K G vs ds → SeesL K G H vs ds
  | _, _, _, .nil => .nil
  | _, _, e, .cons r t => .cons (r.sees e) (RSs.seesL e t)
theorem endPs {op : List D → Option R} {ds : List D} {vs : List V} {ρ : Env} {F1 F2 : List Addr} {Q : VK} (w : Wd G H (F1 ++ F2)) (sl : SeesL K G H vs ds) (o : OwnS K G H ρ σ F2)
    (k : RdS T K W (Own K) (lft (op ds) ρ) σ G H (F1 ++ F2) Q) : rPs K op vs H Q := by
  cases e : op ds with
  | none => rw [e] at k; exact k.elim
  | some z =>
    rw [e] at k
    refine ⟨G, ds, z, w.sub, sl, e, fun v G' H' F5 n5 ow => ?_⟩
    obtain ⟨eg, eh⟩ := n5.ext w.sub
    have st := (n5.stp w).subR (show (F5 ++ F2).Sublist (F5 ++ (F1 ++ F2)) from (List.Sublist.refl F5).append (List.sublist_append_right _ _))
    exact k v G' H' F5 F2 st ow (o.step eg fun b u _ e => eh b u e)
theorem blt1_rd {f : Bf} {a : E} {Q : VK} (h : rdG T K W (Own K) (ev Γ cal (.blt f (.cons a .nil))) σ H Q) :
    tCB (rPs K (bltD f)) (tCons (rdG T K W (OrL K) (fun ρ => bor a ρ (ev Γ cal a ρ))) tNil) σ H Q := by
  have h' : rdG T K W (Own K) (fun ρ => (bor a ρ (ev Γ cal a ρ)).bind fun x ρ => lft (bltD f [snap x]) ρ) σ H Q := h.cong fun ρ => by first | rfl | (simp only [ev]; rfl) | simp only [ev]
  refine (rdG.bind (repA := OrL K) h').imp fun v H1 a => ?_
  obtain ⟨x, ρ, G1, F1, F2, w, ow, o, k⟩ := a
  exact endPs w (.cons (ow.lnt.sees w.sub) .nil) o k
theorem blt_rd {f : Bf} {a b : E} {es : Es} {Q : VK} (h : rdG T K W (Own K) (ev Γ cal (.blt f (.cons a (.cons b es)))) σ H Q) :
    tCB (rPs K (bltD f)) (rdG T K W (IsDs K) (evD Γ cal (.cons a (.cons b es)))) σ H Q := by
  have h' : rdG T K W (Own K) (fun ρ => (evD Γ cal (.cons a (.cons b es)) ρ).bind fun ds ρ => lft (bltD f ds) ρ) σ H Q := h.cong fun ρ => by first | rfl | (simp only [ev]; rfl) | simp only [ev]
  refine (rdG.bind (repA := IsDs K) h').imp fun v H1 a => ?_
  obtain ⟨x, ρ, G1, F1, F2, w, ⟨rfl, ow⟩, o, k⟩ := a
  exact endPs w (ow.seesL w.sub) o k
/-! ### isinstance -/
def tyD : D → String
  | .non => "NoneType" | .bl _ => "bool" | .int _ => "int" | .str _ => "str" | .tup _ => "tuple" | .lst _ => "list" | .scr _ => "list" | .dct _ => "dict" | .obj _ _ => ""
def tyS : Ty → String
  | .int => "int" | .bool => "bool" | .str => "str" | .tup => "tuple" | .lst => "list" | .dct => "dict" | .cls _ => ""
theorem tyx_sqt {p : Addr} {vs : List V} (h : SqT K H p vs) : TyX K H (.ref p) (.type "tuple") := by
  rcases h with h | ⟨o, its, m, e, c, _⟩
  · rcases h with h | ⟨ob, h⟩
    · exact .base (.tup h)
    · exact .fTuple h
  · exact .kTuple e c
theorem tyx_sql {p : Addr} {vs : List V} (h : SqL K H p vs) : TyX K H (.ref p) (.type "list") := by
  rcases h with h | ⟨o, its, m, e, c, _⟩
  · rcases h with h | ⟨ob, h⟩
    · exact .base (.lst h)
    · exact .base (.frz h)
  · exact .kList e c
theorem Sees.ty {v : V} {d : D} (e : Ext G H) (s : Sees K G H v d) : TyX K H v (.type (tyD d)) := by
  cases d with
  | non => cases s; exact .base .non
  | bl b => cases s; exact .base (.bl b)
  | int i => cases s; exact .base (.int i)
  | str x => cases s; exact .base (.str _)
  | tup l => obtain ⟨p, vs, rfl, hp, _⟩ := s; exact tyx_sqt (hp.ext e)
  | lst l => obtain ⟨p, vs, rfl, hp, _⟩ := s; exact .base (.lst hp)
  | dct l => obtain ⟨p, vs, rfl, hp, _⟩ := s; exact .base (.dK hp)
  | obj c l => exact s.elim
  | scr l => obtain ⟨p, rfl, hp, _⟩ := s; exact tyx_sql (hp.ext e)
theorem kit_D (d : D) {c : Ty} (hc : tyB c = true) (hd : ∀ k l, d ≠ .obj k l) : PySem.W.kitOne K (.type (tyD d)) (.type (tyS c)) = some (isD c d) := by
  cases d <;> cases c <;> first | (simp [tyB] at hc; done) | (exact absurd rfl (hd _ _)) | (simp only [tyD, tyS, isD]; exact kit_ty (by decide +kernel))
theorem boot_ty {c : Ty} (hc : tyB c = true) : bootBuiltins (tyN c) = some (.type (tyS c)) ∧ tyN c ≠ "__name__" := by
  cases c <;> first | (simp [tyB] at hc; done) | exact ⟨by decide +kernel, by decide⟩
theorem pe_isi {a : E} {c : Ty} {y : Expr} {z : Str} {p p2 pos : Pos} (cx : Ctx Γ T nm n N sc W X) (hg : isGlo sc ("isinstance" : Str) = true) (hc : tyB c = true) (hz : z = tyN c) (hgz : isGlo sc z = true) (hm : mt nm N sc a y = true)
    (ha : PE X y (rdG T X.K W (OrL X.K) (fun ρ => bor a ρ (ev Γ cal a ρ)))) : PE X (.Call (.Name "isinstance" p) [y, .Name z p2] [] pos) (rdG T X.K W (Own X.K) (ev Γ cal (.isi a c))) := by
  subst hz
  obtain ⟨gx, dx⟩ := glo_of cx hg
  obtain ⟨gz, dz⟩ := glo_of cx hgz
  obtain ⟨hb, hn⟩ := boot_ty hc
  refine PE.imp (pe_callB call_isi gx cx.top.isi (by decide +kernel) (pa_cons ha (pa_cons (pe_bltn (v := .ty (tyS c)) gz (cx.top.ty c hc) hb rfl hn dz) pa_nil) (mt_star hm)) (by decide) dx (mt_star hm)) fun σ H Q h => ?_
  have h' : rdG T X.K W (Own X.K) (fun ρ => (bor a ρ (ev Γ cal a ρ)).bind fun x ρ => .ok (.sh (.bl (isD c (snap x)))) ρ) σ H Q := h.cong fun ρ => by first | rfl | (simp only [ev]; rfl) | simp only [ev]
  refine (rdG.bind (repA := OrL X.K) h').imp fun v H1 a => ?_
  obtain ⟨x, ρ, G1, F1, F2, w, ow, o, k⟩ := a
  have se := ow.lnt.sees w.sub
  refine ⟨v, .ty (tyS c), .type (tyD (snap x)), .type (tyS c), isD c (snap x), rfl, .ty _, se.ty w.sub, kit_D _ hc ?_, ?_⟩
  · intro k l e
    rw [e] at se
    exact se.elim
  · exact k _ G1 H1 [] F2 ((Stp.refl w).subR (List.sublist_append_right _ _)) ⟨rfl, .bl _⟩ o
end
end G4

namespace L2
open PySem
theorem PK.imp {X : Cx} {e : List Keyword} {t t' : TA} (h : PK X e t) (k : ∀ σ H Q, t' σ H Q → t σ H Q) : PK X e t' := ⟨fun pos pins s σ H Q I q => h.run pos pins s σ H Q I (k σ H Q q)⟩
end L2
namespace G4
open PySem L2
section
variable {Γ : Gam} {T : Tab} {nm : Nms} {n : Nat} {N : List Str} {sc : Scope} {W : WX} {X : Cx} {K : PySem.W.Frag} {σ : St} {G H : Hp} {F : List Addr} {cal : Nat → List R → Cr}
/-- what is known of an expression -/
structure SE (Γ : Gam) (T : Tab) (n : Nat) (W : WX) (X : Cx) (i : E) (e : Expr) : Prop where
  pe : PE X e (rdG T X.K W (Own X.K) (ev Γ (CALL Γ n) i))
  pt : PT X e (rdG T X.K W IsB (fun ρ => tstB (ev Γ (CALL Γ n) i ρ)))
  pw : ∀ op l p, e = .BoolOp op l p → PW X e (rdG T X.K W IsB (fun ρ => tstB (ev Γ (CALL Γ n) i ρ)))
/-- an expression that is no test by itself -/
theorem SE.val {i : E} {e : Expr} (h : PE X e (rdG T X.K W (Own X.K) (ev Γ (CALL Γ n) i))) (he : ∀ whole, isTrue e X.env whole = (do let v ← whole; standAt e.pos; holding [v] (truthy v)))
    (hb : ∀ op l p, e ≠ .BoolOp op l p) : SE Γ T n W X i e :=
  ⟨h, (pt_val h he).imp fun _ _ _ q => val_rd q, fun op l p q => absurd q (hb op l p)⟩
theorem var_pe {i : Nat} {x : Str} {p : Pos} (c : Ctx Γ T nm n N sc W X) (h : okVar N sc i x = true) : PE X (.Name x p) (tVar i) := by
  obtain ⟨h1, h2, h3, h4⟩ := okVar_of c h
  exact pe_var h1 h2 h3 h4
theorem SE.lent {i : E} {e : Expr} (c : Ctx Γ T nm n N sc W X) (hm : mt nm N sc i e = true) (h : SE Γ T n W X i e) : PE X e (rdG T X.K W (OrL X.K) (fun ρ => bor i ρ (ev Γ (CALL Γ n) i ρ))) := by
  have other : (∀ ρ, bor i ρ (ev Γ (CALL Γ n) i ρ) = ev Γ (CALL Γ n) i ρ) → PE X e (rdG T X.K W (OrL X.K) (fun ρ => bor i ρ (ev Γ (CALL Γ n) i ρ))) := fun hi =>
    h.pe.imp fun σ H Q q => (q.cong hi).repImp fun _ _ _ _ _ z => .inr z
  cases i with
  | var k =>
    cases e with
    | Name x p => exact (var_pe c hm).imp fun _ _ _ q => lent_rd q
    | _ => simp [mt] at hm
  | _ => exact other fun _ => rfl
theorem SE.atm {i : E} {e : Expr} (c : Ctx Γ T nm n N sc W X) (hm : mt nm N sc i e = true) (ha : atom i = true) : PE X e (tA Γ (CALL Γ n) X.K i) := by
  cases i with
  | var k =>
    cases e with
    | Name x p =>
      refine (var_pe c hm).imp fun σ H Q ⟨ρ, G, F, w, o, y, e, k⟩ => ?_
      dsimp only [bor] at e
      split at e
      · rename_i r e0
        cases e
        obtain ⟨v, F1, F2, hv, hp, ow, o2, back⟩ := o.take e0
        exact ⟨v, hv, k v G H [] .same ow.lnt⟩
      · cases e
    | _ => simp [mt] at hm
  | cst d =>
    cases e with
    | Constant cc kk p =>
      obtain ⟨v, r, q⟩ := cst_pe' (K := X.K) (X := X) (k := kk) (p := p) hm
      refine q.imp fun σ H Q ⟨ρ, G, F, w, o, y, e, k⟩ => ?_
      have e' : y = .sh d := by
        have e2 : ev Γ (CALL Γ n) (.cst d) ρ = .ok y ρ := e
        simp only [ev, Rs.ok.injEq, and_true] at e2
        exact e2.symm
      subst e'
      exact k v G H [] .same ⟨[], rfl, r G⟩
    | _ => simp [mt] at hm
  | glb g => simp [mt] at hm
  | lst es =>
    cases es with
    | cons a b => simp [atom] at ha
    | nil =>
      cases e with
      | List xs p =>
        simp only [mt, Bool.and_eq_true] at hm
        cases xs with
        | cons a b => simp [mts] at hm
        | nil =>
          refine (pe_lst pa_nil).imp fun σ H Q ⟨ρ, G, F, w, o, y, e, k⟩ => ?_
          have e' : y = .ol [] := by
            have e2 : ev Γ (CALL Γ n) (.lst .nil) ρ = .ok y ρ := e
            simp only [ev, evD, Rs.bind, Rs.ok.injEq, and_true] at e2
            exact e2.symm
          subst e'
          refine ⟨Nat.zero_le _, fun p hp => ?_⟩
          exact k _ G _ [p] (.own p _ hp) ⟨[p], p, [], rfl, rfl, upd_same, .nil⟩
      | _ => simp [mt] at hm
  | _ => simp [atom] at ha
theorem SE.arg {i : E} {e : Expr} (c : Ctx Γ T nm n N sc W X) (hm : mt nm N sc i e = true) (h : SE Γ T n W X i e) :
    PE X e (fun σ H Q => rdG T X.K W (fun G H a v F => AgR X.K σ G H [a] [v] F) (fun ρ => agv i ρ (ev Γ (CALL Γ n) i ρ)) σ H Q) := by
  cases i with
  | var k =>
    cases e with
    | Name x p => exact (var_pe c hm).imp fun _ _ _ q => agv_var q
    | _ => simp [mt] at hm
  | _ => exact h.pe.imp fun _ _ _ q => agv_val (fun _ z => by cases z) q
/-- what is known of arguments -/
structure SA (Γ : Gam) (T : Tab) (n : Nat) (W : WX) (X : Cx) (is : Es) (es : List Expr) : Prop where
  d : PA X es (rdG T X.K W (IsDs X.K) (evD Γ (CALL Γ n) is))
  r : PA X es (rdG T X.K W (IsRs X.K) (evR Γ (CALL Γ n) is))
  a : PA X es (fun σ H Q => rdG T X.K W (AgR X.K σ) (evA Γ (CALL Γ n) is) σ H Q)
theorem SA.nil : SA Γ T n W X .nil [] := ⟨pa_nil.imp fun _ _ _ q => nil_rd q, pa_nil.imp fun _ _ _ q => nilR_rd q, pa_nil.imp fun _ _ _ q => nilA_rd q⟩
theorem SA.cons {i : E} {e : Expr} {is : Es} {es : List Expr} (c : Ctx Γ T nm n N sc W X) (hm : mt nm N sc i e = true) (h : SE Γ T n W X i e) (t : SA Γ T n W X is es) : SA Γ T n W X (.cons i is) (e :: es) :=
  ⟨(pa_cons h.pe t.d (mt_star hm)).imp fun _ _ _ q => cons_rd q, (pa_cons h.pe t.r (mt_star hm)).imp fun _ _ _ q => consR_rd q, (pa_cons (h.arg c hm) t.a (mt_star hm)).imp fun _ _ _ q => consA_rd q⟩
def SK (Γ : Gam) (T : Tab) (n : Nat) (W : WX) (X : Cx) (is : Es) (ks : List Keyword) : Prop := PK X ks (rdG T X.K W (IsDs X.K) (evD Γ (CALL Γ n) is))
theorem isTrue_call {f : Expr} {args : List Expr} {kws : List Keyword} {pos : Pos} : ∀ whole, isTrue (.Call f args kws pos) X.env whole = (do let v ← whole; standAt (Expr.Call f args kws pos).pos; holding [v] (truthy v)) := fun _ => rfl
theorem two_pe {i j : E} {ea eb : Expr} (c : Ctx Γ T nm n N sc W X) (h1 : mt nm N sc i ea = true) (h2 : mt nm N sc j eb = true) (a : SE Γ T n W X i ea) (b : SE Γ T n W X j eb) :
    ∃ ta tb, PE X ea ta ∧ PE X eb tb ∧ ∀ (op : D → D → Option R) σ H Q, rdG T X.K W (Own X.K) (fun ρ => (bor2 i j ρ (ev Γ (CALL Γ n) i ρ)).bind fun x ρ => (bor j ρ (ev Γ (CALL Γ n) j ρ)).bind fun y ρ => lft (op (snap x) (snap y)) ρ) σ H Q →
      ta σ H fun vx H1 => tb σ H1 fun vy H2 => rP2 X.K op vx vy H2 Q :=
  two_rd a.pe (a.lent c h1) (b.lent c h2) fun ha => SE.atm (W := W) c h2 ha
theorem mark1 {o : Co} {r : Expr} (h : noSet r = true) : behindInMarks (coP o) r = false := noSet_marks h
theorem lastm {o p : Co} {b c : Expr} (h : noSet c = true) : lastMarks [coP o, coP p] [b, c] = false := by
  show lastMarks [coP p] [c] = false
  exact noSet_marks h
theorem boolVT {t : TE} {i : E} (h : ∀ σ H Q, rdG T K W (Own K) (ev Γ cal i) σ H Q → t σ H Q) : ∀ σ H (Q : Bool → Hp → Prop), rdG T K W IsB (fun ρ => tstB (ev Γ cal i ρ)) σ H Q → tTest t σ H Q :=
  fun σ H Q q => h _ _ _ (boolV_rd q)
mutual
theorem sndE (c : Ctx Γ T nm n N sc W X) : ∀ (i : E) (e : Expr), mt nm N sc i e = true → SE Γ T n W X i e
  | .var k, e, h => by
    cases e with
    | Name x p => exact .val ((var_pe c h).imp fun _ _ _ q => var_rd (by simpa only [ev] using q)) (fun _ => rfl) (fun _ _ _ z => by cases z)
    | _ => simp [mt] at h
  | .cst d, e, h => by
    cases e with
    | Constant cc kk p =>
      obtain ⟨v, r, q⟩ := cst_pe' (K := X.K) (X := X) (k := kk) (p := p) h
      refine .val (q.imp fun σ H Q ⟨ρ, G, F, w, o, k⟩ => ?_) (fun _ => rfl) (fun _ _ _ z => by cases z)
      exact k v G H [] F (Stp.refl w) ⟨rfl, r G⟩ o
    | _ => simp [mt] at h
  | .glb g, e, h => by simp [mt] at h
  | .bin o a b, e, h => by
    cases e with
    | BinOp l op r p =>
      simp only [mt, Bool.and_eq_true, decide_eq_true_eq] at h
      obtain ⟨⟨rfl, h1⟩, h2⟩ := h
      obtain ⟨ta, tb, p1, p2, k⟩ := two_pe c h1 h2 (sndE c a l h1) (sndE c b r h2)
      exact .val ((pe_op (opB o) p1 p2).imp fun σ H Q q => k _ σ H Q (q.cong fun ρ => by first | rfl | (simp only [ev]; rfl) | simp only [ev])) (fun _ => rfl) (fun _ _ _ z => by cases z)
    | _ => simp [mt] at h
  | .neg a, e, h => by
    cases e with
    | UnaryOp op x p =>
      cases op with
      | USub =>
        have h1 : mt nm N sc a x = true := by simpa only [mt] using h
        exact .val ((pe_un un_neg (sndE c a x h1).pe).imp fun σ H Q q => neg_rd q) (fun _ => rfl) (fun _ _ _ z => by cases z)
      | _ => simp [mt] at h
    | _ => simp [mt] at h
  | .inv a, e, h => by simp [mt] at h
  | .no a, e, h => by
    cases e with
    | UnaryOp op x p =>
      cases op with
      | Not =>
        have h1 : mt nm N sc a x = true := by simpa only [mt] using h
        have s := sndE c a x h1
        exact ⟨(pe_not s.pe).imp fun σ H Q q => no_rd q, (pt_not s.pt).imp fun σ H Q q => noT_rd q, fun _ _ _ z => by cases z⟩
      | _ => simp [mt] at h
    | _ => simp [mt] at h
  | .cmp o a b, e, h => by
    cases e with
    | Compare l ops rs p =>
      cases ops with
      | nil => simp [mt] at h
      | cons op ops =>
        cases ops with
        | cons op2 ops2 => simp [mt] at h
        | nil =>
          cases rs with
          | nil => simp [mt] at h
          | cons r rs =>
            cases rs with
            | cons r2 rs2 => simp [mt] at h
            | nil =>
              simp only [mt, Bool.and_eq_true, decide_eq_true_eq] at h
              obtain ⟨⟨⟨rfl, h0⟩, h1⟩, h2⟩ := h
              obtain ⟨ta, tb, p1, p2, k⟩ := two_pe c h1 h2 (sndE c a l h1) (sndE c b r h2)
              have k' : ∀ σ H Q, rdG T X.K W (Own X.K) (ev Γ (CALL Γ n) (.cmp o a b)) σ H Q → tOp (rP2 X.K (cmpR o)) ta tb σ H Q := fun σ H Q q => k _ σ H Q (q.cong fun ρ => by first | rfl | (simp only [ev]; rfl) | simp only [ev])
              have hu : X.A.units + 64 < cLine := by have := c.bas.un; omega
              exact ⟨(pe_cmpR (opC hu o) p1 p2 (mark1 h0)).imp k', (pt_cmpR (opC hu o) p1 p2 (mark1 h0)).imp (boolVT k'), fun _ _ _ z => by cases z⟩
    | _ => simp [mt] at h
  | .cm2 o p a b d, e, h => by
    cases e with
    | Compare l ops rs pp =>
      match ops, rs, h with
      | [op, op2], [r, r2], h =>
        simp only [mt, Bool.and_eq_true, decide_eq_true_eq] at h
        obtain ⟨⟨⟨⟨⟨⟨rfl, rfl⟩, h0⟩, h0'⟩, h1⟩, h2⟩, h3⟩ := h
        have hu : X.A.units + 64 < cLine := by have := c.bas.un; omega
        have sa := sndE c a l h1
        have sb := sndE c b r h2
        have sd := sndE c d r2 h3
        exact ⟨(pe_chain (opC hu o) (opC hu p) sa.pe sb.pe sd.pe (lastm h0')).imp fun _ _ _ q => cm2_rd q, (pt_chain (opC hu o) (opC hu p) sa.pe sb.pe sd.pe (lastm h0')).imp (boolVT fun _ _ _ q => cm2_rd q), fun _ _ _ z => by cases z⟩
      | [], _, h => simp [mt] at h
      | [_], _, h => simp [mt] at h
      | _ :: _ :: _ :: _, _, h => simp [mt] at h
      | [_, _], [], h => simp [mt] at h
      | [_, _], [_], h => simp [mt] at h
      | [_, _], _ :: _ :: _ :: _, h => simp [mt] at h
    | _ => simp [mt] at h
  | .and a b, e, h => by
    cases e with
    | BoolOp op l p =>
      cases op with
      | Or => simp [mt] at h
      | And =>
        match l, h with
        | [], h => simp [mt] at h
        | [_], h => simp [mt] at h
        | [x, y], h =>
          simp only [mt, Bool.and_eq_true] at h
          have sa := sndE c a x h.1
          have sb := sndE c b y h.2
          have pw : PW X (.BoolOp .And [x, y] p) _ := (pw_and sa.pt (pw_and1 sb.pt)).imp fun σ H Q q => andT_rd q
          exact ⟨(pe_and sa.pe (pe_one sb.pe)).imp fun σ H Q q => and_rd q, pw.pt, fun _ _ _ _ => pw⟩
        | x :: y :: z :: r, h =>
          simp only [mt, Bool.and_eq_true] at h
          have sa := sndE c a x h.1
          have sb := sndE c b (.BoolOp .And (y :: z :: r) p) h.2
          have pw : PW X (.BoolOp .And (x :: y :: z :: r) p) _ := (pw_and sa.pt (sb.pw _ _ _ rfl)).imp fun σ H Q q => andT_rd q
          exact ⟨(pe_and sa.pe sb.pe).imp fun σ H Q q => and_rd q, pw.pt, fun _ _ _ _ => pw⟩
    | _ => simp [mt] at h
  | .or a b, e, h => by
    cases e with
    | BoolOp op l p =>
      cases op with
      | And => simp [mt] at h
      | Or =>
        match l, h with
        | [], h => simp [mt] at h
        | [_], h => simp [mt] at h
        | [x, y], h =>
          simp only [mt, Bool.and_eq_true] at h
          have sa := sndE c a x h.1
          have sb := sndE c b y h.2
          have pw : PW X (.BoolOp .Or [x, y] p) _ := (pw_or sa.pt (pw_or1 sb.pt)).imp fun σ H Q q => orT_rd q
          exact ⟨(pe_or sa.pe (pe_one sb.pe)).imp fun σ H Q q => or_rd q, pw.pt, fun _ _ _ _ => pw⟩
        | x :: y :: z :: r, h =>
          simp only [mt, Bool.and_eq_true] at h
          have sa := sndE c a x h.1
          have sb := sndE c b (.BoolOp .Or (y :: z :: r) p) h.2
          have pw : PW X (.BoolOp .Or (x :: y :: z :: r) p) _ := (pw_or sa.pt (sb.pw _ _ _ rfl)).imp fun σ H Q q => orT_rd q
          exact ⟨(pe_or sa.pe sb.pe).imp fun σ H Q q => or_rd q, pw.pt, fun _ _ _ _ => pw⟩
    | _ => simp [mt] at h
  | .ite t a b, e, h => by
    cases e with
    | IfExp x y z p =>
      simp only [mt, Bool.and_eq_true] at h
      have st := sndE c t x h.1.1
      have sa := sndE c a y h.1.2
      have sb := sndE c b z h.2
      exact ⟨(pe_ifExp st.pt sa.pe sb.pe).imp fun σ H Q q => ite_rd q, (pt_ifT st.pt sa.pt sb.pt).imp fun σ H Q q => iteT_rd q, fun _ _ _ z => by cases z⟩
    | _ => simp [mt] at h
  | .tup es, e, h => by
    cases e with
    | Tuple xs a p =>
      simp only [mt, Bool.and_eq_true, decide_eq_true_eq] at h
      refine .val ((pe_tup (sndA c es xs h.2).d).imp fun σ H Q q => tup_rd h.1 (q.cong fun ρ => by first | rfl | (simp only [ev]; rfl) | simp only [ev]) fun _ _ _ => evD_len) (fun _ => rfl) (fun _ _ _ z => by cases z)
    | _ => simp [mt] at h
  | .lst es, e, h => by
    cases e with
    | List xs p =>
      simp only [mt, Bool.and_eq_true, decide_eq_true_eq] at h
      refine .val ((pe_lst (sndA c es xs h.2).d).imp fun σ H Q q => lst_rd h.1 (q.cong fun ρ => by first | rfl | (simp only [ev]; rfl) | simp only [ev]) fun _ _ _ => evD_len) (fun _ => rfl) (fun _ _ _ z => by cases z)
    | _ => simp [mt] at h
  | .dc0, e, h => by
    cases e with
    | Dict ks vs p =>
      cases ks with
      | cons a b => simp [mt] at h
      | nil =>
        cases vs with
        | cons a b => simp [mt] at h
        | nil =>
          refine .val (pe_dnewK.imp fun σ H Q ⟨ρ, G, F, w, o, k⟩ p hp => ?_) (fun _ => rfl) (fun _ _ _ z => by cases z)
          have nw : New G H G (upd H p (.dK [])) [p] := .own p _ hp
          obtain ⟨eg, eh⟩ := nw.ext w.sub
          exact k _ G _ [p] F (nw.stp w) ⟨p, [], rfl, rfl, upd_same, .nil⟩ (o.step eg fun b u _ e => eh b u e)
    | _ => simp [mt] at h
  | .ix a b, e, h => by
    cases e with
    | Subscript v s p =>
      simp only [mt, Bool.and_eq_true] at h
      obtain ⟨⟨h0, h1⟩, h2⟩ := h
      obtain ⟨ta, tb, p1, p2, k⟩ := two_pe c h1 h2 (sndE c a v h1) (sndE c b s h2)
      exact .val ((pe_ix opIx p1 p2 (notSl_plain h0)).imp fun σ H Q q => k _ σ H Q (q.cong fun ρ => by first | rfl | (simp only [ev]; rfl) | simp only [ev])) (fun _ => rfl) (fun _ _ _ z => by cases z)
    | _ => simp [mt] at h
  | .ixd es b, e, h => by
    cases e with
    | Subscript v s p =>
      cases v with
      | List xs p2 =>
        simp only [mt, Bool.and_eq_true, decide_eq_true_eq] at h
        obtain ⟨⟨⟨hl, h0⟩, h1⟩, h2⟩ := h
        exact .val ((pe_ix ix_list (pe_lst (sndA c es xs h1).r) (sndE c b s h2).pe (notSl_plain h0)).imp fun σ H Q q => ixd_rd hl (q.cong fun ρ => by first | rfl | (simp only [ev]; rfl) | simp only [ev])) (fun _ => rfl) (fun _ _ _ z => by cases z)
      | _ => simp [mt] at h
    | _ => simp [mt] at h
  | .att a f, e, h => by simp [mt] at h
  | .cal f es, e, h => by
    cases e with
    | Call g args kws p =>
      cases g with
      | Name x p2 =>
        cases args with
        | nil => simp [mt] at h
        | cons y args =>
          cases kws with
          | cons a b => simp [mt] at h
          | nil =>
            simp only [mt, Bool.and_eq_true, decide_eq_true_eq] at h
            exact .val (pe_cal c h.1.1 h.1.2 h.2 (sndA c es (y :: args) h.2).a) isTrue_call (fun _ _ _ z => by cases z)
      | _ => simp [mt] at h
    | _ => simp [mt] at h
  | .calk f es ks pk, e, h => by
    cases e with
    | Call g args kws p =>
      cases g with
      | Name x p2 =>
        cases kws with
        | nil => simp [mt] at h
        | cons w kws =>
          simp only [mt, Bool.and_eq_true, decide_eq_true_eq] at h
          obtain ⟨⟨⟨⟨h1, h2⟩, h3⟩, h4⟩, h5⟩ := h
          split at h5
          · rename_i l hl
            exact .val (pe_calk c h1 h2 h3 h4 hl (List.contains_iff_mem.mp h5) (sndA c es args h3).d (sndK c ks (w :: kws) h4)) isTrue_call (fun _ _ _ z => by cases z)
          · cases h5
      | _ => simp [mt] at h
    | _ => simp [mt] at h
  | .blt f es, e, h => by
    cases e with
    | Call g args kws p =>
      cases g with
      | Name x p2 =>
        cases args with
        | nil => simp [mt] at h
        | cons y args =>
          cases kws with
          | cons a b => simp [mt] at h
          | nil =>
            simp only [mt, Bool.and_eq_true, decide_eq_true_eq] at h
            obtain ⟨⟨h1, h2⟩, h3⟩ := h
            cases es with
            | nil => simp [mts] at h3
            | cons a es =>
              have h3' := h3
              simp only [mts, Bool.and_eq_true] at h3'
              cases es with
              | nil =>
                cases args with
                | cons z zs => simp [mts] at h3'
                | nil => exact .val ((pe_blt c h1 h2 (pa_cons ((sndE c a y h3'.1).lent c h3'.1) pa_nil (mt_star h3'.1)) (mt_star h3'.1) rfl).imp fun _ _ _ q => blt1_rd q) isTrue_call (fun _ _ _ z => by cases z)
              | cons b es => exact .val ((pe_blt c h1 h2 (sndA c (.cons a (.cons b es)) (y :: args) h3).d (mt_star h3'.1) (mts_plain h3'.2)).imp fun _ _ _ q => blt_rd q) isTrue_call (fun _ _ _ z => by cases z)
      | _ => simp [mt] at h
    | _ => simp [mt] at h
  | .isi a t, e, h => by
    cases e with
    | Call g args kws p =>
      cases g with
      | Name x p2 =>
        cases args with
        | nil => simp [mt] at h
        | cons y args =>
          cases args with
          | nil => simp [mt] at h
          | cons z args =>
            cases z with
            | Name z p3 =>
              cases args with
              | cons a b => simp [mt] at h
              | nil =>
                cases kws with
                | cons a b => simp [mt] at h
                | nil =>
                  simp only [mt, Bool.and_eq_true, decide_eq_true_eq] at h
                  obtain ⟨⟨⟨⟨⟨rfl, h1⟩, h2⟩, h3⟩, h4⟩, h5⟩ := h
                  exact .val (pe_isi c h1 h2 h3 h4 h5 ((sndE c a y h5).lent c h5)) isTrue_call (fun _ _ _ z => by cases z)
            | _ => simp [mt] at h
      | _ => simp [mt] at h
    | _ => simp [mt] at h
theorem sndA (c : Ctx Γ T nm n N sc W X) : ∀ (is : Es) (es : List Expr), mts nm N sc is es = true → SA Γ T n W X is es
  | .nil, es, h => by
    cases es with
    | nil => exact .nil
    | cons a b => simp [mts] at h
  | .cons i is, es, h => by
    cases es with
    | nil => simp [mts] at h
    | cons e es =>
      simp only [mts, Bool.and_eq_true] at h
      exact .cons c h.1 (sndE c i e h.1) (sndA c is es h.2)
theorem sndK (c : Ctx Γ T nm n N sc W X) : ∀ (is : Es) (ks : List Keyword), mtk nm N sc is ks = true → SK Γ T n W X is ks
  | .nil, es, h => by
    cases es with
    | nil => exact pk_nil.imp fun _ _ _ q => nil_rd q
    | cons a b => simp [mtk] at h
  | .cons i is, ks, h => by
    cases ks with
    | nil => simp [mtk] at h
    | cons k ks =>
      obtain ⟨x, e, p⟩ := k
      simp only [mtk, Bool.and_eq_true] at h
      exact (pk_cons (sndE c i e h.1).pe (sndK c is ks h.2)).imp fun _ _ _ q => cons_rd q
end
end
end G4

/-! Statements: what their ends wish; small statements. -/
namespace G4
open PySem L2
def KpS (P : Nat → Bool) (σ σ' : St) : Prop := σ'.length = σ.length ∧ ∀ i, P i = true → σ'[i]? = σ[i]?
theorem KpS.refl {P : Nat → Bool} {σ : St} : KpS P σ σ := ⟨rfl, fun _ _ => rfl⟩
theorem KpS.trans {P : Nat → Bool} {a b c : St} (h : KpS P a b) (k : KpS P b c) : KpS P a c := ⟨k.1.trans h.1, fun i hi => (k.2 i hi).trans (h.2 i hi)⟩
theorem KpS.set {P : Nat → Bool} {σ : St} {i : Nat} {x : Option V} (h : P i = false) : KpS P σ (σ.set i x) := ⟨by rw [List.length_set], fun j hj => by
  have hij : i ≠ j := fun e => by rw [e, hj] at h; cases h
  rw [List.getElem?_set_ne hij]⟩
def SrD (T : Tab) (K : PySem.W.Frag) (W : WX) (P : Nat → Bool) (x : Sr) (D : Ends) (σ : St) (G H : Hp) (F : List Addr) : Prop :=
  match x with
  | .nx ρ => ∀ σ' G' H' F', Stp G H F G' H' F' → OwnS K G' H' ρ σ' F' → KpS P σ σ' → D.nx σ' H'
  | .bk ρ => ∀ σ' G' H' F', Stp G H F G' H' F' → OwnS K G' H' ρ σ' F' → KpS P σ σ' → D.bk σ' H'
  | .ct ρ => ∀ σ' G' H' F', Stp G H F G' H' F' → OwnS K G' H' ρ σ' F' → KpS P σ σ' → D.ct σ' H'
  | .rt r ρ => ∀ v σ' G' H' F1 F2, Stp G H F G' H' (F1 ++ F2) → Own K G' H' r v F1 → OwnS K G' H' ρ σ' F2 → KpS P σ σ' → D.rt v H'
  | .ex c fs ρ => ∀ cls d σ' G' H' F', Stp G H F G' H' F' → ExR T K c fs cls d G' H' → OwnS K G' H' ρ σ' F' → KpS P σ σ' → W cls d σ' H'
  | .no => False
/-- a statement's reading -/
def tSr (T : Tab) (K : PySem.W.Frag) (W : WX) (P : Nat → Bool) (f : Env → Sr) : TS := fun D σ H => ∃ ρ G F, Wd G H F ∧ OwnS K G H ρ σ F ∧ SrD T K W P (f ρ) D σ G H F
section
variable {T : Tab} {K : PySem.W.Frag} {W : WX} {P : Nat → Bool} {σ σ1 : St} {G H G1 H1 : Hp} {F F1 F2 : List Addr} {α β : Type} {rep : Hp → Hp → α → β → List Addr → Prop}
theorem SrD.later {x : Sr} {D : Ends} (h : SrD T K W P x D σ G H F) (s : Stp G H F G1 H1 F1) (k : KpS P σ σ1) : SrD T K W P x D σ1 G1 H1 F1 := by
  cases x with
  | nx ρ => exact fun σ' G' H' F' st o q => h σ' G' H' F' (s.trans st) o (k.trans q)
  | bk ρ => exact fun σ' G' H' F' st o q => h σ' G' H' F' (s.trans st) o (k.trans q)
  | ct ρ => exact fun σ' G' H' F' st o q => h σ' G' H' F' (s.trans st) o (k.trans q)
  | rt r ρ => exact fun v σ' G' H' Fa Fb st ow o q => h v σ' G' H' Fa Fb (s.trans st) ow o (k.trans q)
  | ex c fs ρ => exact fun cls d σ' G' H' F' st e o q => h cls d σ' G' H' F' (s.trans st) e o (k.trans q)
  | no => exact h
theorem SrD.less {x : Sr} {D : Ends} (h : SrD T K W P x D σ G H (F1 ++ F2)) (w : Wd G H (F1 ++ F2)) : SrD T K W P x D σ G H F2 := by
  cases x with
  | nx ρ => exact fun σ' G' H' F' st o q => h σ' G' H' F' ((st.frame w).subR (List.sublist_append_right _ _)) o q
  | bk ρ => exact fun σ' G' H' F' st o q => h σ' G' H' F' ((st.frame w).subR (List.sublist_append_right _ _)) o q
  | ct ρ => exact fun σ' G' H' F' st o q => h σ' G' H' F' ((st.frame w).subR (List.sublist_append_right _ _)) o q
  | rt r ρ => exact fun v σ' G' H' Fa Fb st ow o q => h v σ' G' H' Fa Fb ((st.frame w).subR (List.sublist_append_right _ _)) ow o q
  | ex c fs ρ => exact fun cls d σ' G' H' F' st e o q => h cls d σ' G' H' F' ((st.frame w).subR (List.sublist_append_right _ _)) e o q
  | no => exact h
/-- behind an expression -/
def AftS (T : Tab) (K : PySem.W.Frag) (W : WX) (P : Nat → Bool) (rep : Hp → Hp → α → β → List Addr → Prop) (g : α → Env → Sr) (D : Ends) (σ : St) (b : β) (H1 : Hp) : Prop :=
  ∃ a ρ G1 F1 F2, Wd G1 H1 (F1 ++ F2) ∧ rep G1 H1 a b F1 ∧ OwnS K G1 H1 ρ σ F2 ∧ SrD T K W P (g a ρ) D σ G1 H1 (F1 ++ F2)
theorem RdS.st {x : Rs α} {g : α → Env → Sr} {D : Ends} (h : SrD T K W P (x.st g) D σ G H F) : RdS T K W rep x σ G H F (AftS T K W P rep g D σ) := by
  cases x with
  | ok a ρ => exact fun b G' H' F1 F2 s r o => ⟨a, ρ, G', F1, F2, s.wd, r, o, SrD.later h s KpS.refl⟩
  | ex c fs ρ => exact fun cls d G' H' F' s r o => h cls d σ G' H' F' s r o KpS.refl
  | no => exact h
theorem tSr.st {f : Env → Rs α} {g : α → Env → Sr} {D : Ends} (h : tSr T K W P (fun ρ => (f ρ).st g) D σ H) : rdG T K W rep f σ H (AftS T K W P rep g D σ) := by
  obtain ⟨ρ, G, F, w, o, r⟩ := h
  exact ⟨ρ, G, F, w, o, RdS.st r⟩
theorem tSr.cong {f g : Env → Sr} {D : Ends} (h : tSr T K W P f D σ H) (e : ∀ ρ, f ρ = g ρ) : tSr T K W P g D σ H := by
  obtain ⟨ρ, G, F, w, o, r⟩ := h
  exact ⟨ρ, G, F, w, o, e ρ ▸ r⟩
/-- what was read is dropped -/
theorem AftS.drop {f : Env → Sr} {D : Ends} {b : β} (h : AftS T K W P rep (fun _ ρ => f ρ) D σ b H) : tSr T K W P f D σ H := by
  obtain ⟨a, ρ, G1, F1, F2, w, r, o, k⟩ := h
  exact ⟨ρ, G1, F2, w.sm (List.sublist_append_right _ _), o, k.less w⟩
theorem tSr.nx {D : Ends} (h : tSr T K W P (fun ρ => .nx ρ) D σ H) : D.nx σ H := by
  obtain ⟨ρ, G, F, w, o, k⟩ := h
  exact k σ G H F (Stp.refl w) o KpS.refl
end
/-! ### the matcher of statements -/
def noComp : Expr → Bool
  | .ListComp _ _ _ _ => false
  | .SetComp _ _ _ _ => false
  | .DictComp _ _ _ _ _ => false
  | _ => true
def notTup : Expr → Bool
  | .Tuple _ _ _ => false
  | _ => true
theorem swaps_plain {e : Expr} {t : Option Expr} {l : Nat} {env : PySem.Env} (h : noComp e = true) : swapsWith e t l env = pure false := by
  cases e <;> first | rfl | simp [noComp] at h
theorem stores_name {e : Expr} {x : Str} {p : Pos} {env : PySem.Env} : swappedStores [.Name x p] e env = pure none := rfl
theorem stores_plain {e tg : Expr} {env : PySem.Env} (h : notTup e = true) : swappedStores [tg] e env = pure none := by
  cases e <;> first | (cases tg <;> rfl) | simp [notTup] at h
def okLoc (N : List Str) (sc : Scope) (P : Nat → Bool) (i : Nat) (x : Str) : Bool := decide (N[i]? = some x) && decide (sc.names.lookup x = some .local) && !P i
def mtN (N : List Str) (sc : Scope) (P : Nat → Bool) : List Nat → List Expr → Bool
  | [], [] => true
  | i :: l, .Name x _ :: r => okLoc N sc P i x && mtN N sc P l r
  | _, _ => false
def mtT (N : List Str) (sc : Scope) (P : Nat → Bool) : Tg → Expr → Expr → Bool
  | .nm i, .Name x _, _ => okLoc N sc P i x
  | .tp l, .Tuple es _ _, v => notTup v && mtN N sc P l es
  | _, _, _ => false
section
variable {Γ : Gam} {T : Tab} {nm : Nms} {n : Nat} {N : List Str} {sc : Scope} {W : WX} {X : Cx} {K : PySem.W.Frag} {P : Nat → Bool} {σ : St} {G H : Hp} {F : List Addr} {cal : Nat → List R → Cr}
theorem okLoc_of {i : Nat} {x : Str} (c : Ctx Γ T nm n N sc W X) (h : okLoc N sc P i x = true) : X.N[i]? = some x ∧ X.env.scope.names.lookup x = some .local ∧ P i = false := by
  unfold okLoc at h
  simp only [Bool.and_eq_true, decide_eq_true_eq, Bool.not_eq_true'] at h
  rw [c.hN, c.hsc]
  exact ⟨h.1.1, h.1.2, h.2⟩
/-- a target's reading -/
def gT (T : Tab) (K : PySem.W.Frag) (W : WX) (P : Nat → Bool) (t : Tg) : TG := fun v σ H Q => ∃ r ρ G F1 F2, Wd G H (F1 ++ F2) ∧ Own K G H r v F1 ∧ OwnS K G H ρ σ F2 ∧ ∃ ρ', stg t r ρ = .nx ρ' ∧
  ∀ σ' F', Stp G H (F1 ++ F2) G H F' → OwnS K G H ρ' σ' F' → KpS P σ σ' → Q σ' H
theorem lt_of_loc {ρ : Env} {i : Nat} {x : Str} (hi : X.N[i]? = some x) (hl : σ.length = X.N.length) (o : OwnS K G H ρ σ F) : i < ρ.length := by
  rw [o.length, hl]
  exact (List.getElem?_eq_some_iff.mp hi).1
theorem gT_nm {v : V} {i : Nat} {Q : St → Hp → Prop} (hP : P i = false) (hi : i < σ.length) (h : gT T K W P (.nm i) v σ H Q) : gName i v σ H Q := by
  obtain ⟨r, ρ, G, F1, F2, w, ow, o, ρ', e, k⟩ := h
  cases e
  obtain ⟨F3, F4, hs, hp, o2⟩ := o.put (by rw [o.length]; exact hi) ow
  refine k _ F4 ?_ o2 (KpS.set hP)
  exact ((Stp.refl w).subR ((List.Sublist.refl F1).append hs)).permR hp.symm
def namesG : List Nat → TGs
  | [] => gNil
  | i :: l => gCons (gName i) (namesG l)
theorem names_pgs (c : Ctx Γ T nm n N sc W X) : ∀ {l : List Nat} {es : List Expr}, mtN N sc P l es = true → PGs X es (namesG l) ∧ (assignEach es X.env).length = l.length ∧ (assignEach es X.env).findIdx? (·.1) = none
  | [], [], _ => ⟨pgs_nil, rfl, rfl⟩
  | [], _ :: _, h => by simp [mtN] at h
  | _ :: _, [], h => by simp [mtN] at h
  | i :: l, e :: r, h => by
    cases e with
    | Name x p =>
      simp only [mtN, Bool.and_eq_true] at h
      obtain ⟨h1, h2, h3⟩ := okLoc_of c h.1
      obtain ⟨q1, q2, q3⟩ := names_pgs c h.2
      refine ⟨pgs_cons (pg_name (by rw [c.hN]; exact c.nd) h1 (.inl h2) (.inr h2)) q1 rfl, ?_, ?_⟩
      · show (assignEach r X.env).length + 1 = l.length + 1
        rw [q2]
      · show (List.findIdx? (·.1) ((false, assign (.Name x p) X.env) :: assignEach r X.env)) = none
        rw [List.findIdx?_cons, q3]
        rfl
    | _ => simp [mtN] at h
theorem setl_own : ∀ {l : List Nat} {ds : List D} {vs : List V} {ρ : Env} {σ : St} {F : List Addr} {Q : St → Hp → Prop}, Wd G H F → l.length = ds.length → RSs K G vs ds → (∀ i ∈ l, i < σ.length ∧ P i = false) → OwnS K G H ρ σ F →
    (∀ σ' F', Stp G H F G H F' → OwnS K G H (setl l ds ρ) σ' F' → KpS P σ σ' → Q σ' H) → namesG l vs σ H Q
  | [], [], _, ρ, σ, F, Q, w, _, .nil, _, o, k => ⟨rfl, k σ F (Stp.refl w) o KpS.refl⟩
  | [], _ :: _, _, _, _, _, _, _, h, _, _, _, _ => by simp at h
  | _ :: _, [], _, _, _, _, _, _, h, _, _, _, _ => by simp at h
  | i :: l, d :: ds, _, ρ, σ, F, Q, w, hl, .cons (v := v) (vs := vs) r rs, hi, o, k => by
    refine ⟨v, vs, rfl, ?_⟩
    show namesG l vs (σ.set i (some v)) H Q
    obtain ⟨h1, h2⟩ := hi i List.mem_cons_self
    obtain ⟨F2, F3, hs, hp, o2⟩ := o.put (r := .sh d) (v := v) (F1 := []) (by rw [o.length]; exact h1) ⟨rfl, r⟩
    rw [List.nil_append] at hp
    have st : Stp G H F G H F3 := ((Stp.refl w).subR hs).permR hp.symm
    refine setl_own st.wd (by simpa using hl) rs (fun j hj => ?_) o2 fun σ' F' s' o' q' => k σ' F' (st.trans s') o' ((KpS.set h2).trans q')
    obtain ⟨a, b⟩ := hi j (List.mem_cons_of_mem _ hj)
    exact ⟨by rw [List.length_set]; exact a, b⟩
theorem snap_tup {r : R} {v : V} {ds : List D} (o : Own K G H r v F) (e : snap r = .tup ds) : F = [] ∧ ∃ a vs, v = .ref a ∧ SqT K G a vs ∧ RSs K G vs ds := by
  cases r with
  | sh d =>
    obtain ⟨rfl, rs⟩ := o
    have e' : d = .tup ds := e
    subst e'
    cases rs with
    | tup h r => exact ⟨rfl, _, _, rfl, h, r⟩
  | _ => cases e
theorem mtN_all : ∀ {l : List Nat} {es : List Expr}, mtN N sc P l es = true → ∀ i ∈ l, ∃ x, okLoc N sc P i x = true
  | [], _, _, i, hi => by cases hi
  | _ :: _, [], h, _, _ => by simp [mtN] at h
  | j :: l, e :: r, h, i, hi => by
    cases e with
    | Name x p =>
      simp only [mtN, Bool.and_eq_true] at h
      rcases List.mem_cons.mp hi with rfl | hi
      · exact ⟨x, h.1⟩
      · exact mtN_all h.2 i hi
    | _ => simp [mtN] at h
/-- a target, once the slots are as many as the names -/
theorem tgt_pg (c : Ctx Γ T nm n N sc W X) {t : Tg} {tg v : Expr} (h : mtT N sc P t tg v = true) : PG X tg (gT T X.K W P t) := by
  cases t with
  | nm i =>
    cases tg with
    | Name x p =>
      have h' : okLoc N sc P i x = true := by simpa only [mtT] using h
      obtain ⟨h1, h2, h3⟩ := okLoc_of c h'
      refine ⟨fun pins s σ H v u Q I r q => (pg_name (pos := p) (by rw [c.hN]; exact c.nd) h1 (.inl h2) (.inr h2)).run pins s σ H v u Q I r (gT_nm h3 ?_ q)⟩
      rw [I.len]
      exact (List.getElem?_eq_some_iff.mp h1).1
    | _ => simp [mtT] at h
  | tp l =>
    cases tg with
    | Tuple es k p =>
      simp only [mtT, Bool.and_eq_true] at h
      obtain ⟨q1, q2, q3⟩ := names_pgs c h.2
      refine ⟨fun pins s σ H v u Q I r q => (pg_tup (pos := p) (k := k) c.bas.calm q1 q2 q3).run pins s σ H v u Q I r ?_⟩
      have hl := I.len
      obtain ⟨r, ρ, G, F1, F2, w, ow, o, ρ', e, k⟩ := q
      simp only [stg] at e
      split at e
      · rename_i ds es'
        split at e
        · rename_i hlen
          cases e
          obtain ⟨rfl, a, vs, rfl, hq, rs⟩ := snap_tup ow es'
          refine ⟨a, vs, rfl, hq.ext w.sub, by rw [rs.length, hlen], ?_⟩
          refine setl_own w hlen.symm rs (fun i hi => ?_) o fun σ' F' st o' q' => k σ' F' st o' q'
          obtain ⟨x, hx⟩ := mtN_all h.2 i hi
          obtain ⟨h1, _, h3⟩ := okLoc_of c hx
          exact ⟨by rw [hl]; exact (List.getElem?_eq_some_iff.mp h1).1, h3⟩
        · cases e
      · cases e
    | _ => simp [mtT] at h
end
end G4

namespace L2
open PySem
theorem PS.imp {X : Cx} {e : Stmt} {t t' : TS} (h : PS X e t) (k : ∀ D σ H, t' D σ H → t D σ H) : PS X e t' := ⟨fun pins s σ H D I q => h.run pins s σ H D I (k D σ H q)⟩
theorem PSs.imp {X : Cx} {e : List Stmt} {t t' : TS} (h : PSs X e t) (k : ∀ D σ H, t' D σ H → t D σ H) : PSs X e t' := ⟨fun pins s σ H D I q => h.run pins s σ H D I (k D σ H q)⟩
end L2
namespace G4
open PySem L2
section
variable {Γ : Gam} {T : Tab} {nm : Nms} {n : Nat} {N : List Str} {sc : Scope} {W : WX} {X : Cx} {K : PySem.W.Frag} {P : Nat → Bool} {σ : St} {G H : Hp} {F : List Addr} {cal : Nat → List R → Cr} {np : Nat}
/-! ### names, drops, ends -/
theorem asg_ps {t : Tg} {tg e : Expr} {i : E} {pos : Pos} (c : Ctx Γ T nm n N sc W X) (hn : noComp e = true) (ht : mtT N sc P t tg e = true) (he : SE Γ T n W X i e) :
    PS X (.Assign [tg] e pos) (tSr T X.K W P (fun ρ => xs Γ (CALL Γ n) np (.asg t i) ρ)) := by
  have hw : swappedStores [tg] e X.env = pure none := by
    cases t with
    | nm k =>
      cases tg <;> first | rfl | simp [mtT] at ht
    | tp l =>
      cases tg with
      | Tuple es k p =>
        simp only [mtT, Bool.and_eq_true] at ht
        exact stores_plain ht.1
      | _ => simp [mtT] at ht
  have h1 : (assignEach [tg] X.env).map (·.2) = [assign tg X.env] := by
    cases t with
    | nm k => cases tg <;> first | rfl | simp [mtT] at ht
    | tp l => cases tg <;> first | rfl | simp [mtT] at ht
  refine (ps_asg (pos := pos) he.pe (tgt_pg c ht) (swaps_plain hn) hw h1).imp fun D σ H h => ?_
  have h' : tSr T X.K W P (fun ρ => (ev Γ (CALL Γ n) i ρ).st fun r ρ => stg t r ρ) D σ H := h.cong fun ρ => by first | rfl | (simp only [xs]; rfl) | simp only [xs]
  refine (tSr.st (rep := Own X.K) h').imp fun v H1 ⟨r, ρ, G1, F1, F2, w, ow, o, k⟩ => ?_
  have hs : (∃ ρ', stg t r ρ = .nx ρ') ∨ stg t r ρ = .no := by
    cases t with
    | nm k => exact .inl ⟨_, rfl⟩
    | tp l =>
      simp only [stg]
      split
      · split
        · exact .inl ⟨_, rfl⟩
        · exact .inr rfl
      · exact .inr rfl
  dsimp only at k
  rcases hs with ⟨ρ', e⟩ | e
  · rw [e] at k
    exact ⟨r, ρ, G1, F1, F2, w, ow, o, ρ', e, fun σ' F' st o' q' => k σ' G1 H1 F' st o' q'⟩
  · rw [e] at k
    exact k.elim
theorem ex_ps {e : Expr} {i : E} {pos : Pos} (hn : noComp e = true) (he : SE Γ T n W X i e) : PS X (.Expr e pos) (tSr T X.K W P (fun ρ => xs Γ (CALL Γ n) np (.ex i) ρ)) := by
  refine (ps_expr (pos := pos) he.pe (swaps_plain hn)).imp fun D σ H h => ?_
  have h' : tSr T X.K W P (fun ρ => (ev Γ (CALL Γ n) i ρ).st fun _ ρ => .nx ρ) D σ H := h.cong fun ρ => by first | rfl | (simp only [xs]; rfl) | simp only [xs]
  exact (tSr.st (rep := Own X.K) h').imp fun v H1 a => a.drop.nx
theorem retn_ps {pos : Pos} : PS X (.Return none pos) (tSr T X.K W P (fun ρ => xs Γ (CALL Γ n) np .retn ρ)) := by
  refine (ps_retN (pos := pos)).imp fun D σ H ⟨ρ, G, F, w, o, k⟩ => ?_
  exact k .non σ G H [] F (Stp.refl w) ⟨rfl, .non⟩ o KpS.refl
theorem ret_ps {e : Expr} {i : E} {pos : Pos} (c : Ctx Γ T nm n N sc W X) (hm : mt nm N sc i e = true) (he : SE Γ T n W X i e) : PS X (.Return (some e) pos) (tSr T X.K W P (fun ρ => xs Γ (CALL Γ n) np (.ret i) ρ)) := by
  have plain : (∀ ρ, xs Γ (CALL Γ n) np (.ret i) ρ = (ev Γ (CALL Γ n) i ρ).st fun r ρ => .rt r ρ) → PS X (.Return (some e) pos) (tSr T X.K W P (fun ρ => xs Γ (CALL Γ n) np (.ret i) ρ)) := fun hi => by
    refine (ps_ret (pos := pos) he.pe).imp fun D σ H h => ?_
    have h' : tSr T X.K W P (fun ρ => (ev Γ (CALL Γ n) i ρ).st fun r ρ => .rt r ρ) D σ H := h.cong hi
    refine (tSr.st (rep := Own X.K) h').imp fun v H1 ⟨r, ρ, G1, F1, F2, w, ow, o, k⟩ => ?_
    exact k v σ G1 H1 F1 F2 (Stp.refl w) ow o KpS.refl
  cases i with
  | var j =>
    by_cases hj : j < np
    · exact plain fun ρ => by simp only [xs, hj, if_true, ev]
    · cases e with
      | Name x p =>
        refine (ps_ret (pos := pos) (var_pe c hm)).imp fun D σ H ⟨ρ, G, F, w, o, k⟩ => ?_
        simp only [xs, hj, if_false] at k
        split at k
        · rename_i r e0
          obtain ⟨v, F1, F2, hv, hp, ow, o2, _⟩ := o.take e0
          exact ⟨v, hv, k v σ G H F1 F2 ((Stp.refl w).permR hp) ow o2 KpS.refl⟩
        · exact k.elim
      | _ => simp [mt] at hm
  | _ => exact plain fun ρ => by simp only [xs]
theorem if_ps {c : E} {e : Expr} {a b : Ss} {la lb : List Stmt} {pos : Pos} (hc : SE Γ T n W X c e) (ha : PSs X la (tSr T X.K W P (fun ρ => xss Γ (CALL Γ n) np a ρ))) (hb : PSs X lb (tSr T X.K W P (fun ρ => xss Γ (CALL Γ n) np b ρ))) :
    PS X (.If e la lb pos) (tSr T X.K W P (fun ρ => xs Γ (CALL Γ n) np (.iff c a b) ρ)) := by
  refine (ps_if (pos := pos) hc.pt ha hb).imp fun D σ H ⟨ρ, G, F, w, o, k⟩ => ?_
  refine ⟨ρ, G, F, w, o, ?_⟩
  simp only [xs] at k
  show RdS T X.K W IsB (tstB (ev Γ (CALL Γ n) c ρ)) σ G H F _
  cases e1 : ev Γ (CALL Γ n) c ρ with
  | ok r ρ1 =>
    rw [e1] at k
    simp only [Rs.st] at k
    split at k
    · intro b' G' H' F1 F2 st rb o2
      obtain ⟨rfl, rfl⟩ := rb
      exact ⟨ρ1, G', F2, st.wd, o2, SrD.later k st KpS.refl⟩
    · intro b' G' H' F1 F2 st rb o2
      obtain ⟨rfl, rfl⟩ := rb
      exact ⟨ρ1, G', F2, st.wd, o2, SrD.later k st KpS.refl⟩
    · exact k.elim
  | ex cc fs ρ1 =>
    rw [e1] at k
    exact fun cls d G' H' F' s r o => k cls d σ G' H' F' s r o KpS.refl
  | no => rw [e1] at k; exact k
theorem ss_nil : PSs X [] (tSr T X.K W P (fun ρ => xss Γ (CALL Γ n) np .nil ρ)) := pss_nil.imp fun D σ H h => tSr.nx (h.cong fun ρ => by simp only [xss])
theorem ss_cons {s : S} {r : Ss} {st : Stmt} {l : List Stmt} (h1 : PS X st (tSr T X.K W P (fun ρ => xs Γ (CALL Γ n) np s ρ))) (h2 : PSs X l (tSr T X.K W P (fun ρ => xss Γ (CALL Γ n) np r ρ))) :
    PSs X (st :: l) (tSr T X.K W P (fun ρ => xss Γ (CALL Γ n) np (.cons s r) ρ)) := by
  refine (pss_cons h1 h2).imp fun D σ H ⟨ρ, G, F, w, o, k⟩ => ?_
  refine ⟨ρ, G, F, w, o, ?_⟩
  simp only [xss] at k
  show SrD T X.K W P (xs Γ (CALL Γ n) np s ρ) _ σ G H F
  cases e : xs Γ (CALL Γ n) np s ρ with
  | nx ρ1 =>
    rw [e] at k
    exact fun σ' G' H' F' st o' q => ⟨ρ1, G', F', st.wd, o', SrD.later k st q⟩
  | bk ρ1 => rw [e] at k; exact k
  | ct ρ1 => rw [e] at k; exact k
  | rt r ρ1 => rw [e] at k; exact k
  | ex c fs ρ1 => rw [e] at k; exact k
  | no => rw [e] at k; exact k.elim
/-! ### loops -/
theorem whl_ps {c : E} {e : Expr} {b : Ss} {l : List Stmt} {pos : Pos} (hp : PassesOwn (model X.prog X.w) X.A X.env X.xe) (hc : SE Γ T n W X c e) (hb : PSs X l (tSr T X.K W P (fun ρ => xss Γ (CALL Γ n) np b ρ))) :
    PS X (.While e l [] pos) (tSr T X.K W P (fun ρ => xs Γ (CALL Γ n) np (.whl c b) ρ)) := by
  refine (ps_while (pos := pos) hp hc.pt hb).imp fun D σ H ⟨ρ, G, F, w, o, k⟩ => ?_
  simp only [xs] at k
  refine ⟨fun m σ1 H1 => KpS P σ σ1 ∧ ∃ ρ1 G1 F1, Stp G H F G1 H1 F1 ∧ OwnS X.K G1 H1 ρ1 σ1 F1 ∧ SrD T X.K W P (whL (ev Γ (CALL Γ n) c) (xss Γ (CALL Γ n) np b) m ρ1) D σ G H F, ⟨LIM, KpS.refl, ρ, G, F, Stp.refl w, o, k⟩, ?_⟩
  rintro m σ1 H1 ⟨kp, ρ1, G1, F1, st1, o1, k1⟩
  cases m with
  | zero => exact k1.elim
  | succ m =>
    refine ⟨ρ1, G1, F1, st1.wd, o1, ?_⟩
    simp only [whL] at k1
    show RdS T X.K W IsB (tstB (ev Γ (CALL Γ n) c ρ1)) σ1 G1 H1 F1 _
    cases e1 : ev Γ (CALL Γ n) c ρ1 with
    | ex cc fs ρ2 =>
      rw [e1] at k1
      exact fun cls d G' H' F' s r o => k1 cls d σ1 G' H' F' (st1.trans s) r o kp
    | no => rw [e1] at k1; exact k1
    | ok r ρ2 =>
      rw [e1] at k1
      cases r with
      | sh d =>
        cases d with
        | bl t =>
          intro t' G2 H2 Fa F2 st2 rb o2
          obtain ⟨rfl, rfl⟩ := rb
          rw [List.nil_append] at st2
          have st12 := st1.trans st2
          cases t with
          | false =>
            rw [if_neg (by decide)]
            exact k1 σ1 G2 H2 F2 st12 o2 kp
          | true =>
            rw [if_pos rfl]
            refine ⟨fun σ' H' => KpS P σ σ' ∧ ∃ ρ' G' F', Stp G H F G' H' F' ∧ OwnS X.K G' H' ρ' σ' F' ∧ SrD T X.K W P (whL (ev Γ (CALL Γ n) c) (xss Γ (CALL Γ n) np b) m ρ') D σ G H F, fun σ' H' q => ⟨m, Nat.lt_succ_self m, q⟩, ?_⟩
            refine ⟨ρ2, G2, F2, st2.wd, o2, ?_⟩
            dsimp only at k1
            show SrD T X.K W P (xss Γ (CALL Γ n) np b ρ2) _ σ1 G2 H2 F2
            cases e3 : xss Γ (CALL Γ n) np b ρ2 with
            | nx ρ3 =>
              rw [e3] at k1
              exact fun σ' G' H' F' s o q => ⟨kp.trans q, ρ3, G', F', st12.trans s, o, k1⟩
            | ct ρ3 =>
              rw [e3] at k1
              exact fun σ' G' H' F' s o q => ⟨kp.trans q, ρ3, G', F', st12.trans s, o, k1⟩
            | bk ρ3 =>
              rw [e3] at k1
              exact fun σ' G' H' F' s o q => k1 σ' G' H' F' (st12.trans s) o (kp.trans q)
            | rt r ρ3 =>
              rw [e3] at k1
              exact fun v σ' G' H' Fx Fy s ow o q => k1 v σ' G' H' Fx Fy (st12.trans s) ow o (kp.trans q)
            | ex cc fs ρ3 =>
              rw [e3] at k1
              exact fun cls d σ' G' H' F' s r o q => k1 cls d σ' G' H' F' (st12.trans s) r o (kp.trans q)
            | no => rw [e3] at k1; exact k1.elim
        | _ => exact k1.elim
      | _ => exact k1.elim
end
end G4

namespace G4
open PySem L2
section
variable {Γ : Gam} {T : Tab} {nm : Nms} {n : Nat} {N : List Str} {sc : Scope} {W : WX} {X : Cx} {K : PySem.W.Frag} {P : Nat → Bool} {σ : St} {G H : Hp} {F : List Addr} {cal : Nat → List R → Cr} {np : Nat}
/-! ### for -/
theorem stg_cases (t : Tg) (r : R) (ρ : Env) : (∃ ρ', stg t r ρ = .nx ρ') ∨ stg t r ρ = .no := by
  cases t with
  | nm k => exact .inl ⟨_, rfl⟩
  | tp l =>
    simp only [stg]
    split
    · split
      · exact .inl ⟨_, rfl⟩
      · exact .inr rfl
    · exact .inr rfl
/-- at turn i of a loop -/
def AtT (T : Tab) (K : PySem.W.Frag) (W : WX) (P : Nat → Bool) (D : Ends) (t : Tg) (b : Env → Sr) (l : List G4.D) (vs : List V) (σ : St) (G H : Hp) (F : List Addr) (i : Nat) (σ1 : St) (H1 : Hp) : Prop :=
  KpS P σ σ1 ∧ ∃ ρ1 G1 F1, Stp G H F G1 H1 F1 ∧ OwnS K G1 H1 ρ1 σ1 F1 ∧ SrD T K W P (forL t b (l.drop i) ρ1) D σ G H F
/-- one turn -/
theorem turn_ok {D : Ends} {t : Tg} {b : Env → Sr} {l : List G4.D} {vs : List V} {i : Nat} {x : V} {σ1 : St} {H1 : Hp} (rs : RSs K G vs l) (hx : vs[i]? = some x) (a : AtT T K W P D t b l vs σ G H F i σ1 H1) :
    gT T K W P t x σ1 H1 fun σ2 H2 => tSr T K W P b { D with nx := AtT T K W P D t b l vs σ G H F (i + 1), ct := AtT T K W P D t b l vs σ G H F (i + 1), bk := D.nx } σ2 H2 := by
  obtain ⟨kp, ρ1, G1, F1, st, o, k⟩ := a
  obtain ⟨d, hd, r⟩ := rs.getV hx
  have e : l.drop i = d :: l.drop (i + 1) := by
    obtain ⟨h1, h2⟩ := List.getElem?_eq_some_iff.mp hd
    rw [← h2]
    exact List.drop_eq_getElem_cons h1
  rw [e] at k
  simp only [forL] at k
  rcases stg_cases t (.sh d) ρ1 with ⟨ρ', e1⟩ | e1
  · rw [e1] at k
    refine ⟨.sh d, ρ1, G1, [], F1, st.wd, ⟨rfl, r.ext st.gr⟩, o, ρ', e1, fun σ2 F2 st2 o2 q2 => ⟨ρ', G1, F2, st2.wd, o2, ?_⟩⟩
    rw [List.nil_append] at st2
    have st12 := st.trans st2
    have kq := kp.trans q2
    dsimp only at k
    cases e3 : b ρ' with
    | nx ρ3 =>
      rw [e3] at k
      exact fun σ' G' H' F' s o q => ⟨kq.trans q, ρ3, G', F', st12.trans s, o, k⟩
    | ct ρ3 =>
      rw [e3] at k
      exact fun σ' G' H' F' s o q => ⟨kq.trans q, ρ3, G', F', st12.trans s, o, k⟩
    | bk ρ3 =>
      rw [e3] at k
      exact fun σ' G' H' F' s o q => k σ' G' H' F' (st12.trans s) o (kq.trans q)
    | rt r ρ3 =>
      rw [e3] at k
      exact fun v σ' G' H' Fx Fy s ow o q => k v σ' G' H' Fx Fy (st12.trans s) ow o (kq.trans q)
    | ex cc fs ρ3 =>
      rw [e3] at k
      exact fun cls d σ' G' H' F' s r o q => k cls d σ' G' H' F' (st12.trans s) r o (kq.trans q)
    | no => rw [e3] at k; exact k.elim
  · rw [e1] at k
    exact k.elim
theorem turn_end {D : Ends} {t : Tg} {b : Env → Sr} {l : List G4.D} {vs : List V} {σ1 : St} {H1 : Hp} (hl : vs.length = l.length) (a : AtT T K W P D t b l vs σ G H F vs.length σ1 H1) : D.nx σ1 H1 := by
  obtain ⟨kp, ρ1, G1, F1, st, o, k⟩ := a
  rw [hl, List.drop_length] at k
  exact k σ1 G1 H1 F1 st o kp
theorem turn_0 {D : Ends} {t : Tg} {b : Env → Sr} {l : List G4.D} {vs : List V} {ρ : Env} (w : Wd G H F) (o : OwnS K G H ρ σ F) (k : SrD T K W P (forL t b l ρ) D σ G H F) : AtT T K W P D t b l vs σ G H F 0 σ H :=
  ⟨KpS.refl, ρ, G, F, Stp.refl w, o, k⟩
/-- over a list or a tuple, whichever it is -/
def iSeq (K : PySem.W.Frag) (tl : TE) : TI := fun σ H R => tl σ H fun x H1 => ∃ a, x = .ref a ∧ (((∃ xs, SqL K H1 a xs) ∧ R (Itl K a) H1) ∨ ((∃ xs, SqT K H1 a xs) ∧ R (Itt K a) H1))
theorem pi_seq {tg e : Expr} {te : TE} (he : PE X e te) : PI X tg e (iSeq X.K te) := by
  refine ⟨fun pins s σ H R I h => ?_⟩
  refine thn (he.run pins s σ H _ I h) fun u s1 ⟨x, H1, I1, rx, a, ea, q⟩ => ?_
  subst ea
  cases rx
  have fresh : ∀ b ∈ [s1.heap.objs.size], FpOk X pins H1 b := fun b hb => by
    have z : b = s1.heap.objs.size := by simpa using hb
    subst z
    exact I1.fpOk (Nat.le_refl _) (I1.hok.fresh (Nat.le_refl _))
  rcases q with ⟨⟨xs, hq⟩, q⟩ | ⟨⟨xs, hq⟩, q⟩
  · obtain ⟨its, _, pl, _⟩ := I1.list hq
    exact wpAny_pyIter_list pl.isList ⟨_, [s1.heap.objs.size], _, _, H1, rfl, I1.kept (t' := s1.toks) fun b o z => Heap.get?_push_of_some _ z, turn_list a _, ⟨_, Heap.get?_push_size _ rfl, rfl, rfl⟩, fresh, q⟩
  · obtain ⟨its, _, pl, _⟩ := I1.tuple hq
    exact wpAny_pyIter_tuple (show s1.heap.IsTuple a its.toArray from pl) ⟨_, [s1.heap.objs.size], _, _, H1, rfl, I1.kept (t' := s1.toks) fun b o z => Heap.get?_push_of_some _ z, turn_tuple a _, ⟨_, Heap.get?_push_size _ rfl, rfl, rfl⟩, fresh, q⟩
/-- the loop over what stands in the shared part -/
theorem for_seq {D : Ends} {t : Tg} {b : Env → Sr} {l : List G4.D} {ρ : Env} {x : V} {d : G4.D} (w : Wd G H F) (o : OwnS K G H ρ σ F) (k : SrD T K W P (forL t b l ρ) D σ G H F) (r : RS K G x d) (hd : d = .tup l ∨ d = .lst l) :
    ∃ a, x = .ref a ∧ (((∃ xs, SqL K H a xs) ∧ ∃ W' : Nat → Nat → St → Hp → Prop, (∃ m, W' 0 m σ H) ∧ ∀ i m σ H, W' i m σ H →
      ((Itl K a).stop i H ∧ D.nx σ H) ∨ ((Itl K a).go i H ∧ ∃ N : St → Hp → Prop, (∀ σ' H', N σ' H' → ∃ m', m' < m ∧ W' (i + 1) m' σ' H') ∧ ∀ x H', (Itl K a).yld i H x H' → gT T K W P t x σ H' fun σ2 H2 => tSr T K W P b { D with nx := N, ct := N, bk := D.nx } σ2 H2)) ∨
      ((∃ xs, SqT K H a xs) ∧ ∃ W' : Nat → Nat → St → Hp → Prop, (∃ m, W' 0 m σ H) ∧ ∀ i m σ H, W' i m σ H →
      ((Itt K a).stop i H ∧ D.nx σ H) ∨ ((Itt K a).go i H ∧ ∃ N : St → Hp → Prop, (∀ σ' H', N σ' H' → ∃ m', m' < m ∧ W' (i + 1) m' σ' H') ∧ ∀ x H', (Itt K a).yld i H x H' → gT T K W P t x σ H' fun σ2 H2 => tSr T K W P b { D with nx := N, ct := N, bk := D.nx } σ2 H2))) := by
  rcases hd with rfl | rfl
  · cases r with
    | @tup a vs _ hq rs =>
      exact ⟨a, rfl, .inr ⟨⟨vs, hq.ext w.sub⟩, for_tup (xs := vs) (AtT T K W P D t b l vs σ G H F) (turn_0 w o k) (fun i σ1 H1 hi ⟨_, _, G1, F1, st, _⟩ => (hq.ext st.gr).ext st.wd.sub) (fun i x σ1 H1 hx a => turn_ok rs hx a) fun σ1 H1 a => turn_end rs.length a⟩⟩
  · cases r with
    | @lst a vs _ hq rs =>
      exact ⟨a, rfl, .inl ⟨⟨vs, SqL.of (w.sub _ _ hq)⟩, for_list (xs := vs) (AtT T K W P D t b l vs σ G H F) (turn_0 w o k) (fun i σ1 H1 hi ⟨_, _, G1, F1, st, _⟩ => SqL.of (st.wd.sub _ _ (st.gr _ _ hq))) (fun i x σ1 H1 hx a => turn_ok rs hx a) fun σ1 H1 a => turn_end rs.length a⟩⟩
theorem for_rng {D : Ends} {t : Tg} {b : Env → Sr} {lo : Int} {m : Nat} {ρ : Env} (w : Wd G H F) (o : OwnS K G H ρ σ F) (k : SrD T K W P (forL t b ((List.range m).map fun j => .int (lo + (j : Nat))) ρ) D σ G H F) :
    ∃ W' : Nat → Nat → St → Hp → Prop, (∃ m, W' 0 m σ H) ∧ ∀ i q σ H, W' i q σ H →
      ((Itr lo m).stop i H ∧ D.nx σ H) ∨ ((Itr lo m).go i H ∧ ∃ N : St → Hp → Prop, (∀ σ' H', N σ' H' → ∃ m', m' < q ∧ W' (i + 1) m' σ' H') ∧ ∀ x H', (Itr lo m).yld i H x H' → gT T K W P t x σ H' fun σ2 H2 => tSr T K W P b { D with nx := N, ct := N, bk := D.nx } σ2 H2) := by
  have rs : RSs K G ((List.range m).map fun j => V.int (lo + (j : Nat))) ((List.range m).map fun j => G4.D.int (lo + (j : Nat))) := by
    generalize List.range m = q
    induction q with
    | nil => exact .nil
    | cons a q ih => exact .cons (.int _) ih
  refine for_range (AtT T K W P D t b _ ((List.range m).map fun j => V.int (lo + (j : Nat))) σ G H F) (turn_0 w o k) (fun i σ1 H1 hi a => turn_ok rs ?_ a) fun σ1 H1 a => turn_end rs.length (by simpa using a)
  rw [List.getElem?_map, List.getElem?_range hi]
  rfl
def mtI (nm : Nms) (N : List Str) (sc : Scope) : It → Expr → Bool
  | .rng es, e => match e with
    | .Call (.Name x _) args [] _ => decide (x = ("range" : Str)) && isGlo sc x && (decide (args.length = 1) || decide (args.length = 2)) && mts nm N sc es args
    | _ => false
  | .seq i, e => noSet e && mt nm N sc i e
theorem fset_plain {e : Expr} {env : PySem.Env} (h : noSet e = true) (x : Value) : foldedSetIterable e env x = pure x := by
  cases e <;> first | rfl | simp [noSet] at h
/-- a loop's iterable: what is then walked -/
def tIter (Γ : Gam) (T : Tab) (K : PySem.W.Frag) (W : WX) (P : Nat → Bool) (n : Nat) (it : It) (t : Tg) (b : Env → Sr) : TS := tSr T K W P (fun ρ => (iter Γ (CALL Γ n) it ρ).st fun l ρ => forL t b l ρ)
theorem rng_len {Γ : Gam} {cal : Nat → List R → Cr} {is : Es} {es : List Expr} (h : mts nm N sc is es = true) : is.len = es.length := mts_len h
theorem fr_ps {it : It} {e tg : Expr} {t : Tg} {b : Ss} {l : List Stmt} {pos : Pos} (c : Ctx Γ T nm n N sc W X) (hp : PassesOwn (model X.prog X.w) X.A X.env X.xe) (hr : X.mg "range" = none) (hm : mtI nm N sc it e = true) (htg : mtT N sc P t tg e = true)
    (hi : ∀ i, it = .seq i → SE Γ T n W X i e) (ha : ∀ es args, it = .rng es → mts nm N sc es args = true → SA Γ T n W X es args)
    (hb : PSs X l (tSr T X.K W P (fun ρ => xss Γ (CALL Γ n) np b ρ))) : PS X (.For tg e l [] pos) (tSr T X.K W P (fun ρ => xs Γ (CALL Γ n) np (.fr t it b) ρ)) := by
  have hpg := tgt_pg c htg
  cases it with
  | seq i =>
    have hm' : (noSet e && mt nm N sc i e) = true := by simpa only [mtI] using hm
    rw [Bool.and_eq_true] at hm'
    refine (ps_for (pos := pos) hp c.bas.calm (pi_seq (tg := tg) (hi i rfl).pe) hpg hb (fset_plain hm'.1)).imp fun D σ H h => ?_
    have h' : tSr T X.K W P (fun ρ => (ev Γ (CALL Γ n) i ρ).st fun r ρ => match frz r with
      | some (.tup l) => forL t (xss Γ (CALL Γ n) np b) l ρ
      | some (.lst l) => forL t (xss Γ (CALL Γ n) np b) l ρ
      | _ => .no) D σ H := h.cong fun ρ => by
        simp only [xs, iter]
        cases ev Γ (CALL Γ n) i ρ with
        | ok r ρ1 =>
          simp only [Rs.bind, Rs.st]
          cases frz r with
          | none => rfl
          | some d => cases d <;> rfl
        | ex c fs ρ1 => rfl
        | no => rfl
    refine (tSr.st (rep := Own X.K) h').imp fun v H1 ⟨r, ρ, G1, F1, F2, w, ow, o, k⟩ => ?_
    dsimp only at k
    split at k
    · rename_i l0 hf
      obtain ⟨G', rs, st, eg⟩ := ow.share hf w
      exact for_seq st.wd (o.step eg fun _ _ _ h => h) (SrD.later k st KpS.refl) rs (.inl rfl)
    · rename_i l0 hf
      obtain ⟨G', rs, st, eg⟩ := ow.share hf w
      exact for_seq st.wd (o.step eg fun _ _ _ h => h) (SrD.later k st KpS.refl) rs (.inr rfl)
    · exact k.elim
  | rng es =>
    cases e with
    | Call f args kws p =>
      cases f with
      | Name x p2 =>
        cases kws with
        | cons a b => simp [mtI] at hm
        | nil =>
          simp only [mtI, Bool.and_eq_true, Bool.or_eq_true, decide_eq_true_eq] at hm
          obtain ⟨⟨⟨rfl, hg⟩, hl⟩, hms⟩ := hm
          obtain ⟨gx, dx⟩ := glo_of c hg
          have sa := ha es args rfl hms
          have key : ∀ D σ H, tSr T X.K W P (fun ρ => xs Γ (CALL Γ n) np (.fr t (.rng es) b) ρ) D σ H → rdG T X.K W (IsDs X.K) (evD Γ (CALL Γ n) es) σ H
              (AftS T X.K W P (IsDs X.K) (fun ds ρ => match rngD ds with
                | some l => forL t (xss Γ (CALL Γ n) np b) l ρ
                | none => .no) D σ) := fun D σ H h => by
            refine tSr.st (rep := IsDs X.K) (h.cong fun ρ => ?_)
            simp only [xs, iter]
            cases evD Γ (CALL Γ n) es ρ with
            | ok r ρ1 =>
              simp only [Rs.bind, Rs.st]
              cases rngD r with
              | none => rfl
              | some d => rfl
            | ex c fs ρ1 => rfl
            | no => rfl
          have lens := mts_len hms
          match args, hl, hms, sa, lens with
          | [y], _, hms, sa, lens =>
            have hst : starEach [y] X.env = [(false, eval y X.env)] := by
              cases es with
              | nil => simp [mts] at hms
              | cons i is =>
                simp only [mts, Bool.and_eq_true] at hms
                rw [mt_star hms.1]; rfl
            refine (ps_for (pos := pos) hp c.bas.calm (pi_range1 (tg := tg) gx hr sa.d hst) hpg hb (fun _ => rfl)).imp fun D σ H h => ?_
            refine (lenD (key D σ H h)).imp fun vs H1 q => ?_
            obtain ⟨hv, ds, ρ, G1, F1, F2, w, ⟨rfl, rs⟩, o, k⟩ := q
            dsimp only at k
            split at k
            · rename_i l0 hf
              rw [lens] at hv
              unfold rngD at hf
              split at hf
              · rename_i j
                cases rs with
                | cons r t0 =>
                  cases r; cases t0
                  split at hf
                  · rename_i hb2
                    rw [Bool.and_eq_true] at hb2
                    cases hf
                    exact ⟨j, rfl, of_decide_eq_true hb2.1, of_decide_eq_true hb2.2, for_rng w o k⟩
                  · cases hf
              · cases rs with
                | cons r t0 =>
                  cases t0 with
                  | cons r2 t2 => simp at hv
              · cases hf
            · exact k.elim
          | [y, z], _, hms, sa, lens =>
            have hst : starEach [y, z] X.env = [(false, eval y X.env), (false, eval z X.env)] ∧ starEach [z] X.env = [(false, eval z X.env)] := by
              cases es with
              | nil => simp [mts] at hms
              | cons i is =>
                cases is with
                | nil => simp [mts] at hms
                | cons j js =>
                  simp only [mts, Bool.and_eq_true] at hms
                  rw [mt_star hms.1, mt_star hms.2.1]; exact ⟨rfl, rfl⟩
            refine (ps_for (pos := pos) hp c.bas.calm (pi_range2 (tg := tg) gx hr sa.d hst.1 hst.2) hpg hb (fun _ => rfl)).imp fun D σ H h => ?_
            refine (lenD (key D σ H h)).imp fun vs H1 q => ?_
            obtain ⟨hv, ds, ρ, G1, F1, F2, w, ⟨rfl, rs⟩, o, k⟩ := q
            dsimp only at k
            split at k
            · rename_i l0 hf
              rw [lens] at hv
              unfold rngD at hf
              split at hf
              · cases rs with
                | cons r t0 => cases t0; simp at hv
              · rename_i i j
                cases rs with
                | cons r t0 =>
                  cases r
                  cases t0 with
                  | cons r2 t2 =>
                    cases r2; cases t2
                    split at hf
                    · rename_i hb2
                      simp only [Bool.and_eq_true, decide_eq_true_eq] at hb2
                      cases hf
                      exact ⟨i, j, rfl, ⟨hb2.1.1.1, hb2.1.1.2, hb2.1.2, hb2.2⟩, for_rng w o k⟩
                    · cases hf
              · cases hf
            · exact k.elim
          | [], hl, _, _, _ => exact absurd hl (by simp)
          | _ :: _ :: _ :: _, hl, _, _, _ => exact absurd hl (by simp)
      | _ => simp [mtI] at hm
    | _ => simp [mtI] at hm
/-! ### a list's item -/
theorem sidx_ps {i : Nat} {k v : E} {x : Str} {ek e : Expr} {p p2 pos : Pos} (c : Ctx Γ T nm n N sc W X) (hn : noComp e = true) (hx : okVar N sc i x = true) (hs : notSl ek = true) (hmk : mt nm N sc k ek = true) (hk : SE Γ T n W X k ek) (hv : SE Γ T n W X v e) :
    PS X (.Assign [.Subscript (.Name x p) ek p2] e pos) (tSr T X.K W P (fun ρ => xs Γ (CALL Γ n) np (.sidx i k v) ρ)) := by
  have ha : ∀ w, assign (.Subscript (.Name x p) ek p2) X.env w = (do
      let ov ← holding [w] (eval (.Name x p) X.env)
      let iv ← holding [w, ov] (eval ek X.env)
      standAt p2
      holding [w, ov, iv] (setItem ov iv w)
      release [w, ov, iv] []) := by
    intro w
    cases ek <;> first | rfl | simp [notSl] at hs
  have hw : swappedStores [.Subscript (.Name x p) ek p2] e X.env = pure none := by cases e <;> rfl
  refine (ps_asg (pos := pos) hv.pe (pg_sub (pos := p2) (var_pe c hx) hk.pe set_list ha) (swaps_plain (t := some (.Subscript (.Name x p) ek p2)) (l := pos.line) (env := X.env) hn) hw (by rfl)).imp fun D σ H h => ?_
  have h' : tSr T X.K W P (fun ρ => (ev Γ (CALL Γ n) v ρ).st fun r ρ => match frz r, ρ[i]? with
    | some d, some (some _) => (ev Γ (CALL Γ n) k ρ).st fun y ρ => (match ρ[i]?, y with
      | some (some c), .sh z => (match setR c z d with
        | some c' => .nx (ρ.set i (some c'))
        | none => .no)
      | _, _ => .no)
    | _, _ => .no) D σ H := h.cong fun ρ => by first | rfl | (simp only [xs]; rfl) | simp only [xs]
  refine (tSr.st (rep := Own X.K) h').imp fun u H1 q => ?_
  obtain ⟨r, ρ, G1, F1, F2, w, ow, o, kk⟩ := q
  dsimp only at kk
  split at kk
  · rename_i d rc hf hi
    obtain ⟨G2, rs, st, eg⟩ := ow.share hf w
    have o2 := o.step eg fun _ _ _ h => h
    have k2 := SrD.later kk st KpS.refl
    obtain ⟨vc, _, _, hv, _, _, _, _⟩ := o2.take hi
    refine ⟨vc, hv, ρ, G2, F2, st.wd, o2, ?_⟩
    cases e1 : ev Γ (CALL Γ n) k ρ with
    | ok y ρ2 =>
      rw [e1] at k2
      simp only [Rs.st] at k2
      intro vy G' H' Fa Fb st2 ry o3
      split at k2
      · rename_i c0 z hl
        obtain ⟨v1, Fc, Fd, hv1, hp, oc, o4, back⟩ := o3.take hl
        obtain ⟨rfl, rz⟩ := ry
        rw [List.nil_append] at st2
        have k3 := SrD.later k2 st2 KpS.refl
        rw [hv] at hv1
        cases hv1
        split at k3
        · rename_i c' hset
          unfold setR at hset
          split at hset
          · split at hset
            · rename_i l z _ j hj
              cases hset
              obtain ⟨p0, vs, rfl, rfl, hp0, rvs⟩ := oc
              cases rz
              refine ⟨p0, vs, z, j, rfl, rfl, hp0, by rw [rvs.length]; exact hj, ?_⟩
              have w2 := st2.wd
              have npG : G' p0 = none := (w2.out p0 (hp.symm.subset (by simp))).1
              have w3 := w2.perm hp
              have st3 : Stp G' H' Fb G' (upd H' p0 (.lst (vs.set j u))) ([p0] ++ Fd) := by
                refine Stp.permL ?_ hp.symm
                refine ⟨⟨fun b o e => ?_, w3.nd, fun b hb => ⟨(w3.out b hb).1, ?_⟩⟩, fun _ _ h => h, fun b o e hb => ?_, fun b hb => .inl hb, fun b o e => .inl e⟩
                · have hne : b ≠ p0 := fun z => by rw [z, npG] at e; cases e
                  rw [upd_ne hne]; exact w2.sub b o e
                · by_cases hne : b = p0
                  · subst hne; rw [upd_same]; simp
                  · rw [upd_ne hne]; exact (w3.out b hb).2
                · have hne : b ≠ p0 := fun z => hb (by rw [z]; exact List.mem_append_left _ (by simp))
                  rw [upd_ne hne]; exact e
              have o5 : OwnS X.K G' (upd H' p0 (.lst (vs.set j u))) (ρ2.set i none) σ Fd := o4.step (fun _ _ h => h) fun b o hb e => by
                have hne : b ≠ p0 := fun z => (List.nodup_append.mp w3.nd).2.2 p0 (by simp) b hb z.symm
                rw [upd_ne hne]; exact e
              obtain ⟨F5, hp5, o6⟩ := back G' (upd H' p0 (.lst (vs.set j u))) (.ol (l.set j d)) [p0] Fd o5 ⟨p0, vs.set j u, rfl, rfl, upd_same, rvs.set j (rs.ext st2.gr)⟩
              exact k3 σ G' _ F5 (st3.permR hp5.symm) o6 KpS.refl
            · cases hset
          · cases hset
        · exact k3.elim
      · exact k2.elim
    | ex cc fs ρ2 =>
      rw [e1] at k2
      exact fun cls d G' H' F' s r o => k2 cls d σ G' H' F' s r o KpS.refl
    | no => rw [e1] at k2; exact k2.elim
  · exact kk.elim
end
end G4

namespace G4
open PySem L2
section
variable {Γ : Gam} {T : Tab} {nm : Nms} {n : Nat} {N : List Str} {sc : Scope} {W : WX} {X : Cx} {K : PySem.W.Frag} {P : Nat → Bool} {σ : St} {G H : Hp} {F : List Addr} {cal : Nat → List R → Cr} {np : Nat}
/-! ### two names at once -/
def isStar : Expr → Bool
  | .Starred _ _ => true
  | _ => false
theorem swap_two {x y : Str} {a b : Expr} {px py pt p2 : Pos} {kt k2 : Nat} {env : PySem.Env} (hk : env.scope.kind = .function) (hx : env.scope.names.lookup x = some .local) (hy : env.scope.names.lookup y = some .local) (hl : py.line = px.line)
    (hxy : x ≠ y) (sa : starEach [a, b] env = [(false, eval a env), (false, eval b env)]) (hs : [a, b].any isStar = false) (hf : [a, b].all (foldedForSure 8) = false) (hc : [a, b].all (constantsAlone 8) = false) :
    swappedStores [.Tuple [.Name x px, .Name y py] kt pt] (.Tuple [a, b] k2 p2) env = pure (some [x, y]) := by
  have hb : env.blockKind = .function := by
    unfold Env.blockKind
    rw [hk]; rfl
  have e1 : (env.kindOf x == some .local) = true := by
    unfold Env.kindOf; rw [hx]; rfl
  have e2 : (env.kindOf y == some .local) = true := by
    unfold Env.kindOf; rw [hy]; rfl
  have e4 : ((x == y) = false) := by simpa using hxy
  have e5 : ((y == x) = false) := by simpa using Ne.symm hxy
  have nms : ([Expr.Name x px, Expr.Name y py].filterMap fun
    | .Name id pos => if env.kindOf id == some .local && pos.line == px.line then some id else none
    | _ => none) = [x, y] := by
    simp only [List.filterMap_cons, List.filterMap_nil, e1, e2, hl, beq_self_eq_true, Bool.and_self, if_true]
  have ed : [x, y].eraseDups.length = 2 := by
    simp [List.eraseDups_cons, hxy, Ne.symm hxy, e4, e5]
  unfold swappedStores
  dsimp only [List.length_cons, List.length_nil, List.head?_cons, Option.map_some, Option.getD_some]
  refine (if_neg (by rw [hb]; decide)).trans ?_
  refine (if_neg (fun h => Bool.false_ne_true (hs.symm.trans h))).trans ?_
  refine (if_neg (fun h => ?_)).trans ?_
  · have h' : (([x, y].length != 0 + 1 + 1 || [x, y].eraseDups.length != [x, y].length) = true) := by rw [← nms]; exact h
    rw [ed] at h'
    exact Bool.false_ne_true h'
  refine (if_neg (fun h => Bool.false_ne_true (hf.symm.trans h))).trans ?_
  refine (if_neg (fun h => Bool.false_ne_true (hc.symm.trans h))).trans ?_
  exact congrArg (fun l => (pure (some l) : Sem (Option (List Str)))) nms
theorem fold_none {tg : Expr} {vs : List Expr} {k : Nat} {p : Pos} {env : PySem.Env} (hf : vs.all (foldedForSure 8) = true) : swappedStores [tg] (.Tuple vs k p) env = pure none := by
  unfold swappedStores
  cases tg with
  | Tuple ts k2 p2 =>
    dsimp only
    split
    · rfl
    · split
      · rfl
      · split
        · rfl
        · first | rfl | exact if_pos hf
  | List ts p2 =>
    dsimp only
    split
    · rfl
    · split
      · rfl
      · split
        · rfl
        · first | rfl | exact if_pos hf
  | _ => rfl
/-- slots stored one after another, each thing owned -/
theorem setr_own : ∀ {l : List Nat} {rs : List R} {vs : List V} {ρ : Env} {σ : St} {F1 F2 : List Addr} {Q : St → Hp → Prop}, Wd G H (F1 ++ F2) → l.length = rs.length → OwnS K G H (rs.map some) (vs.map some) F1 → (∀ i ∈ l, i < σ.length ∧ P i = false) → OwnS K G H ρ σ F2 →
    (∀ σ' F', Stp G H (F1 ++ F2) G H F' → OwnS K G H (setr l rs ρ) σ' F' → KpS P σ σ' → Q σ' H) → namesG l vs σ H Q
  | [], [], [], ρ, σ, F1, F2, Q, w, _, hr, _, o, k => ⟨rfl, k σ F2 ((Stp.refl w).subR (List.sublist_append_right _ _)) o KpS.refl⟩
  | [], [], _ :: _, _, _, _, _, _, _, _, hr, _, _, _ => hr.elim
  | [], _ :: _, _, _, _, _, _, _, _, h, _, _, _, _ => by simp at h
  | _ :: _, [], _, _, _, _, _, _, _, h, _, _, _, _ => by simp at h
  | _ :: _, _ :: _, [], _, _, _, _, _, _, _, hr, _, _, _ => hr.elim
  | i :: l, r :: rs, v :: vs, ρ, σ, _, F2, Q, w, hl, hr, hi, o, k => by
    obtain ⟨Fa, Fb, rfl, ow, ows⟩ := hr
    refine ⟨v, vs, rfl, ?_⟩
    show namesG l vs (σ.set i (some v)) H Q
    obtain ⟨h1, h2⟩ := hi i List.mem_cons_self
    obtain ⟨F3, F4, hs, hp, o2⟩ := o.put (by rw [o.length]; exact h1) ow
    have pl : ((Fa ++ Fb) ++ F3).Perm (Fb ++ F4) := by
      have a1 : ((Fa ++ Fb) ++ F3).Perm ((Fb ++ Fa) ++ F3) := List.perm_append_comm.append_right F3
      refine a1.trans ?_
      rw [List.append_assoc Fb]
      exact (hp.symm).append_left Fb
    have st : Stp G H ((Fa ++ Fb) ++ F2) G H (Fb ++ F4) := ((Stp.refl w).subR ((List.Sublist.refl (Fa ++ Fb)).append hs)).permR pl
    refine setr_own st.wd (by simpa using hl) ows (fun j hj => ?_) o2 fun σ' F' s' o' q' => k σ' F' (st.trans s') o' ((KpS.set h2).trans q')
    obtain ⟨a, b⟩ := hi j (List.mem_cons_of_mem _ hj)
    exact ⟨by rw [List.length_set]; exact a, b⟩
def mtP (nm : Nms) (N : List Str) (sc : Scope) (P : Nat → Bool) : List Nat → Es → Expr → Expr → Bool
  | [i, j], es, .Tuple [.Name x px, .Name y py] _ _, .Tuple [a, b] _ _ => okLoc N sc P i x && okLoc N sc P j y && decide (i ≠ j) && decide (x ≠ y) && decide (py.line = px.line) && !([a, b].all (foldedForSure 8)) && !([a, b].all (constantsAlone 8)) && mts nm N sc es [a, b]
  | _, _, _, _ => false
theorem nostar {e : Expr} {i : E} (h : mt nm N sc i e = true) : isStar e = false := by
  cases e with
  | Starred x p => cases i <;> simp [mt] at h
  | _ => rfl
theorem par_ps {l : List Nat} {es : Es} {tg v : Expr} {pos : Pos} (c : Ctx Γ T nm n N sc W X) (hk : X.env.scope.kind = .function) (hm : mtP nm N sc P l es tg v = true) (ha : ∀ args, mts nm N sc es args = true → SA Γ T n W X es args) :
    PS X (.Assign [tg] v pos) (tSr T X.K W P (fun ρ => xs Γ (CALL Γ n) np (.par l es) ρ)) := by
  unfold mtP at hm
  split at hm
  · rename_i i j x px y py kt pt a b k2 p2
    simp only [Bool.and_eq_true, decide_eq_true_eq, Bool.not_eq_true'] at hm
    obtain ⟨⟨⟨⟨⟨⟨⟨hx, hy⟩, hij⟩, hxy⟩, hln⟩, hf⟩, hc⟩, hms⟩ := hm
    obtain ⟨x1, x2, x3⟩ := okLoc_of c hx
    obtain ⟨y1, y2, y3⟩ := okLoc_of c hy
    have st : starEach [a, b] X.env = [(false, eval a X.env), (false, eval b X.env)] ∧ [a, b].any isStar = false := by
      cases es with
      | nil => simp [mts] at hms
      | cons i is =>
        cases is with
        | nil => simp [mts] at hms
        | cons j js =>
          simp only [mts, Bool.and_eq_true] at hms
          refine ⟨by rw [mt_star hms.1, mt_star hms.2.1]; rfl, ?_⟩
          simp only [List.any_cons, List.any_nil, nostar hms.1, nostar hms.2.1, Bool.or_false]
    have hw := swap_two (a := a) (b := b) (px := px) (py := py) (pt := pt) (p2 := p2) (kt := kt) (k2 := k2) hk x2 y2 hln hxy st.1 st.2 hf hc
    refine ⟨fun pins s σ H D I h => (ps_par (pos := pos) (kt := kt) (k2 := k2) c.bas.calm (by rw [c.hN]; exact c.nd) x1 y1 hij x2 y2 (ha [a, b] hms).r hw rfl).run pins s σ H D I ?_⟩
    have h' : tSr T X.K W P (fun ρ => (evR Γ (CALL Γ n) es ρ).st fun rs ρ => if rs.length = [i, j].length then .nx (setr [i, j] rs ρ) else .no) D σ H := h.cong fun ρ => by first | rfl | (simp only [xs]; rfl) | simp only [xs]
    have hlen := I.len
    refine (tSr.st (rep := IsRs X.K) h').imp fun vs H1 q => ?_
    obtain ⟨rs, ρ, G1, F1, F2, w, ow, o, k⟩ := q
    dsimp only at k
    have ow' : OwnS X.K G1 H1 (rs.map some) (vs.map some) F1 := ow
    split at k
    · rename_i hl
      have lv : vs.length = 2 := by
        have := ow'.length
        simp only [List.length_map] at this
        rw [← this, hl]; rfl
      match vs, lv, ow' with
      | [u, v], _, ow' =>
        refine ⟨u, v, rfl, ?_⟩
        have q := setr_own (P := P) (Q := D.nx) (l := [i, j]) w hl.symm ow' (fun m hm => ?_) o fun σ' F' st o' q' => k σ' G1 H1 F' st o' q'
        · obtain ⟨v1, r1, e1, v2, r2, e2, e3, q⟩ := q
          cases e1; cases e2; cases e3
          exact q
        · rw [hlen]
          rcases List.mem_cons.mp hm with rfl | hm
          · exact ⟨(List.getElem?_eq_some_iff.mp x1).1, x3⟩
          · rcases List.mem_cons.mp hm with rfl | hm
            · exact ⟨(List.getElem?_eq_some_iff.mp y1).1, y3⟩
            · cases hm
    · exact k.elim
  · cases hm
end
end G4

namespace G4
open PySem L2
/-! ### own exceptions with fields -/
structure OexT (K : PySem.W.Frag) (C : Addr) (flds : List Str) : Prop where
  oc : OexC K C
  no : ∀ f ∈ flds, PySem.W.findIn K (.ref C) f = some none
  ga : PySem.W.findIn K (.ref C) "__getattribute__" = some (some (.builtin "BaseException.__getattribute__"))
  gg : PySem.W.findIn K (.ref C) "__getattr__" = some none
  hdC : PySem.W.hasDictIn K C = true
  ne : flds ≠ []
  nd : flds.Nodup
  sz : flds.length ≤ 900
def mtInit : List Str → List Stmt → Bool
  | [], [] => true
  | f :: r, .Assign [.Attribute (.Name s _) g _] (.Name x _) _ :: l => decide (s = ("self" : Str)) && decide (g = f) && decide (x = f) && decide ((f == ("__debug__" : Str)) = false) && decide ((f == ("__classdict__" : Str)) = false) && mtInit r l
  | _, _ => false
/-- an __init__ that stores its parameters -/
def spI (C : Addr) (flds : List Str) : Sp := fun vs H Q _ => ∃ a zs, vs = .ref a :: zs ∧ zs.length = flds.length ∧ H a = some (exo a C none) ∧
  ∀ d H', H d = none → d ≠ a → H' a = some (exo a C (some d)) → H' d = some (exd d (flds.zip zs).reverse) → (∀ b, b ≠ a → b ≠ d → H' b = H b) → Q .non H'
section
variable {X : Cx} {K : PySem.W.Frag} {σ : St} {G H : Hp} {C : Addr} {flds : List Str}
/-- the body, l stored, r to store -/
def tI (C : Addr) (flds l : List Str) : TS := fun D σ H => ∃ (a : Addr) (zs : List V) (H0 : Hp), σ = (V.ref a :: zs).map some ∧ zs.length = flds.length ∧ H0 a = some (exo a C none) ∧
  ((l = [] ∧ H = H0) ∨ ∃ d, H0 d = none ∧ d ≠ a ∧ H a = some (exo a C (some d)) ∧ H d = some (exd d (l.zip (zs.take l.length)).reverse) ∧ ∀ b, b ≠ a → b ≠ d → H b = H0 b) ∧
  ∀ d H', H0 d = none → d ≠ a → H' a = some (exo a C (some d)) → H' d = some (exd d (flds.zip zs).reverse) → (∀ b, b ≠ a → b ≠ d → H' b = H0 b) → D.nx σ H'
theorem exo_exd {e C d : Addr} {x : Option Addr} {fs : List (Str × V)} (h : e ≠ d) : True := trivial
theorem init_ps (O : OexT X.K C flds) (hN : X.N = ("self" : Str) :: flds) (hv : ∀ x ∈ X.N, X.env.scope.names.lookup x = some .local) : ∀ {r l : List Str} {body : List Stmt}, flds = l ++ r → mtInit r body = true → PSs X body (tI C flds l)
  | [], l, [], e, h => pss_nil.imp fun D σ H ⟨a, zs, H0, hs, hl, h0, st, k⟩ => by
    rw [List.append_nil] at e
    subst e
    rcases st with ⟨rfl, rfl⟩ | ⟨d, d1, d2, d3, d4, d5⟩
    · exact absurd rfl O.ne
    · refine k d H d1 d2 d3 ?_ d5
      rw [d4, List.take_of_length_le (Nat.le_of_eq hl)]
  | [], _, _ :: _, _, h => by simp [mtInit] at h
  | _ :: _, _, [], _, h => by simp [mtInit] at h
  | f :: r, l, st :: body, e, h => by
    unfold mtInit at h
    split at h
    · cases ‹f :: r = []›
    · rename_i f' r' s p1 g p2 x p3 p4 body' e1 e2
      cases e1; cases e2
      simp only [Bool.and_eq_true, decide_eq_true_eq] at h
      obtain ⟨⟨⟨⟨⟨rfl, rfl⟩, rfl⟩, hd⟩, hcd⟩, hm⟩ := h
      have iN : X.N[l.length + 1]? = some x := by
        rw [hN, e, List.getElem?_cons_succ, List.getElem?_append_right (Nat.le_refl _), Nat.sub_self]; rfl
      have gf : x ∈ flds := by rw [e]; simp
      have vis : Vis X.env.scope x := .inl (hv x (List.mem_of_getElem? iN))
      have iS : X.N[0]? = some ("self" : Str) := by rw [hN]; rfl
      have visS : Vis X.env.scope ("self" : Str) := .inl (hv _ (List.mem_of_getElem? iS))
      refine (pss_cons (ps_ost (p' := p2) (pos := p4) (pe_var (pos := p1) iS visS) (pe_var (pos := p3) iN vis hd hcd) rfl) (init_ps O hN hv (l := l ++ [x]) (by rw [List.append_assoc]; exact e) hm)).imp fun D σ H q => ?_
      obtain ⟨a, zs, H0, hs, hl, h0, st, k⟩ := q
      have hlt : l.length < zs.length := by rw [hl, e, List.length_append, List.length_cons]; omega
      refine ⟨zs[l.length], ?_, .ref a, ?_, a, C, rfl, O.oc, O.no x gf, ?_⟩
      · rw [hs, List.map_cons, List.getElem?_cons_succ, List.getElem?_map, List.getElem?_eq_getElem hlt]; rfl
      · rw [hs]; rfl
      · have zip1 : ((l ++ [x]).zip (zs.take (l ++ [x]).length)).reverse = (x, zs[l.length]) :: (l.zip (zs.take l.length)).reverse := by
          have t1 : zs.take (l.length + 1) = zs.take l.length ++ [zs[l.length]] := (List.take_append_getElem hlt).symm
          rw [List.length_append, List.length_singleton, t1, List.zip_append (by rw [List.length_take]; omega), List.reverse_append]
          rfl
        rcases st with ⟨rfl, rfl⟩ | ⟨d, d1, d2, d3, d4, d5⟩
        · refine .inl ⟨h0, fun dx n1 n2 => ⟨a, zs, H, hs, hl, h0, .inr ⟨dx, n1, n2, upd_same, ?_, fun b b1 b2 => ?_⟩, k⟩⟩
          · rw [upd_ne n2, upd_same, zip1]; rfl
          · rw [upd_ne b1, upd_ne b2]
        · refine .inr ⟨d, _, d3, d4, ?_, ⟨a, zs, H0, hs, hl, h0, .inr ⟨d, d1, d2, ?_, ?_, fun b b1 b2 => ?_⟩, k⟩⟩
          · rw [List.length_reverse, List.length_zip]
            have := O.sz
            rw [e, List.length_append] at this
            omega
          · rw [upd_ne (Ne.symm d2)]; exact d3
          · rw [upd_same, zip1]
          · rw [upd_ne b2]; exact d5 b b1 b2
    · cases h
end
end G4

namespace G4
open PySem L2
/-- the class's __init__, as the written part has it -/
structure IniF (K : PySem.W.Frag) (C : Addr) (flds : List Str) : Prop where
  ex : ∃ (fI : Addr) (name qual : Str) (params : Arguments) (body : List Stmt) (scope : Scope) (dV kV doc pm cdv ct oc : Value) (an od : Option Addr) (osl : Array (Option Value)),
    K.lookup fI = some ⟨oc, od, .func (PySem.W.fnOf name qual params body scope dV kV doc pm an cdv ct), osl⟩ ∧ PySem.W.codeIn K cdv qual = true ∧ FnScope (("self" : Str) :: flds) (("self" : Str) :: flds) scope ∧
    (∀ x ∈ ("self" : Str) :: flds, scope.names.lookup x = some .local) ∧ mtInit flds body = true ∧ Binds K (PySem.W.fnOf name qual params body scope dV kV doc pm an cdv ct) (("self" : Str) :: flds) [] ∧
    PySem.W.findIn K (.ref C) "__init__" = some (some (.ref fI)) ∧ PySem.W.typeIn K (.ref fI) = some (.type "function")
section
variable {Γ : Gam} {T : Tab} {nm : Nms} {n : Nat} {N : List Str} {sc : Scope} {W : WX} {X : Cx} {K : PySem.W.Frag} {P : Nat → Bool} {σ : St} {G H : Hp} {F : List Addr} {cal : Nat → List R → Cr} {np : Nat}
/-- C(e, ..) -/
theorem mk_own {C : Addr} {flds : List Str} {x : Str} {y : Expr} {args : List Expr} {ta : TA} {p pos : Pos} (O : OexT X.K C flds) (I0 : IniF X.K C flds) (hr : Room 2 X.A) (tk : Takes X W) (gx : Gl X x) (dx : (x == ("__debug__" : Str)) = false) (hm : X.mg x = some (.ref C))
    (ha : PA X (y :: args) ta) (he : starEach (y :: args) X.env = (false, eval y X.env) :: starEach args X.env) (hpl : (backTo pos (starEach args X.env)).any (·.1) = false) :
    PMk X (.Call (.Name x p) (y :: args) [] pos) (tMkO C (spI C flds) [] ta) := by
  obtain ⟨fI, name, qual, params, body, scope, dV, kV, doc, pm, cdv, ct, oc, an, od, osl, lk, hcd, S, hloc, hbd, hb, iC, tI⟩ := I0.ex
  have fn : FnOk X.prog X.w X.K X.mg X.base (fun o H s E e s' => CX X.prog X.w o H s E e s') 1 fI (PySem.W.fnOf name qual params body scope dV kV doc pm an cdv ct) (("self" : Str) :: flds) (spI C flds) := by
    refine fn_of lk hcd S (fun vs H Q E ⟨a, zs, e, hl, _⟩ => by rw [e, List.length_cons, List.length_cons, hl]) fun A outer s H vs Q E _ hsp => ?_
    refine ⟨_, init_ps (X := cxOf (fun o H s E e s' => CX X.prog X.w o H s E e s') X.prog X.w X.K X.mg X.base (("self" : Str) :: flds) qual scope fI cdv A outer s H E) O rfl hloc (l := []) rfl hbd, ?_⟩
    obtain ⟨a, zs, e, hl, h0, k⟩ := hsp
    refine ⟨a, zs, H, ?_, hl, h0, .inl ⟨rfl, rfl⟩, k⟩
    unfold L2.start
    rw [e, List.length_cons, List.length_cons, hl, Nat.sub_self, List.replicate_zero, List.append_nil]
  exact pmk_oex (dvs := []) (ds := []) O.oc iC tI fn hr hb .nil (passes_call tk fun _ _ _ _ z => z.elim) gx hm ha dx he hpl
theorem mk_wish {C : Addr} {flds : List Str} {vs : List V} {H1 : Hp} {Q : XK} (hl : vs.length = flds.length) (hz : vs.length ≤ 1000) (k : ∀ d, H1 d = none → Q (.ref C) (some d) (upd H1 d (.xd (flds.zip vs).reverse))) :
    vs.length ≤ 1000 ∧ ∀ a, H1 a = none → spI C flds (.ref a :: (vs ++ [])) (upd H1 a (exo a C none))
      (fun v H2 => v = .non ∧ ∃ (d : Addr) (fs : List (Str × V)), H2 a = some (exo a C (some d)) ∧ H2 d = some (exd d fs) ∧ H1 d = none ∧ Q (.ref C) (some d) (upd (del H2 a) d (.xd fs))) (fun _ _ _ => False) := by
  refine ⟨hz, fun a ha => ⟨a, vs, by rw [List.append_nil], hl, upd_same, fun d H' hd hne h1 h2 h3 => ⟨rfl, d, _, h1, h2, ?_, ?_⟩⟩⟩
  · rw [upd_ne hne] at hd; exact hd
  · rw [upd_ne hne] at hd
    have e : upd (del H' a) d (.xd (flds.zip vs).reverse) = upd H1 d (.xd (flds.zip vs).reverse) := by
      funext b
      by_cases hbd : b = d
      · subst hbd; rw [upd_same, upd_same]
      · rw [upd_ne hbd, upd_ne hbd]
        by_cases hba : b = a
        · subst hba; rw [del_same, ha]
        · rw [del_ne hba, h3 b hba hbd, upd_ne hba]
    rw [e]
    exact k d hd
/-! ### raise -/
theorem lookup_zip : ∀ {fl : List Str} {vs : List V} {l : List D} {k : Nat} {f : Str}, fl.Nodup → RSs K G vs l → vs.length = fl.length → fl[k]? = some f → ∃ v d, l[k]? = some d ∧ (fl.zip vs).reverse.lookup f = some v ∧ RS K G v d
  | [], _, _, _, _, _, _, _, h => by simp at h
  | g :: fl, [], _, _, _, _, _, hl, _ => by simp at hl
  | g :: fl, v :: vs, d :: l, 0, f, nd, .cons r rs, hl, h => by
    have e : g = f := by simpa using h
    subst e
    refine ⟨v, d, rfl, ?_, r⟩
    show ((g, v) :: fl.zip vs).reverse.lookup g = some v
    rw [List.reverse_cons, List.lookup_append]
    have hn : (fl.zip vs).reverse.lookup g = none := by
      rw [List.lookup_eq_none_iff]
      intro q hq
      have h1 := List.of_mem_zip (List.mem_reverse.mp hq)
      have h2 : g ≠ q.1 := fun z => (List.nodup_cons.mp nd).1 (by rw [z]; exact h1.1)
      simpa using h2
    rw [hn]
    simp
  | g :: fl, v :: vs, d :: l, k + 1, f, nd, .cons r rs, hl, h => by
    obtain ⟨v', d', h1, h2, h3⟩ := lookup_zip (k := k) (List.nodup_cons.mp nd).2 rs (by simpa using hl) (by simpa using h)
    refine ⟨v', d', by simpa using h1, ?_, h3⟩
    show ((g, v) :: fl.zip vs).reverse.lookup f = some v'
    rw [List.reverse_cons, List.lookup_append, h2]
    rfl
/-- what the top has left of the classes -/
structure TopX (Γ : Gam) (T : Tab) (nm : Nms) (K : PySem.W.Frag) (mg : Str → Option Value) : Prop where
  xc : ∀ c x, nm.xc[c]? = some x → ∃ xe, T.xc c = some xe ∧ xe.nm = x ∧ mg x = some (.ref xe.adr) ∧ nm.fl[c]? = some xe.flds ∧ (xe.flds ≠ [] → OexT K xe.adr xe.flds ∧ IniF K xe.adr xe.flds)
  exm : ∀ c k xe ke l, T.xc c = some xe → T.xc k = some ke → Γ.anc[c]? = some l → PySem.W.exmOne K (.ref xe.adr) (.ref ke.adr) = some (l.contains k)
def mtX (nm : Nms) (N : List Str) (sc : Scope) (c : Nat) (es : Es) (e : Expr) : Bool :=
  match e with
  | .Call (.Name x _) (y :: args) [] _ => decide (nm.xc[c]? = some x) && isGlo sc x && mts nm N sc es (y :: args) && decide ((nm.fl[c]?.map (·.length)) = some es.len) && decide (es.len ≤ 1000)
  | _ => false
theorem rse_ps {k : Nat} {es : Es} {e : Expr} {pos : Pos} (c : Ctx Γ T nm n N sc W X) (tx : TopX Γ T nm X.K X.mg) (hm : mtX nm N sc k es e = true) (ha : ∀ args, mts nm N sc es args = true → SA Γ T n W X es args) :
    PS X (.Raise (some e) none pos) (tSr T X.K W P (fun ρ => xs Γ (CALL Γ n) np (.rse k es) ρ)) := by
  unfold mtX at hm
  split at hm
  · rename_i x p y args pos2
    simp only [Bool.and_eq_true, decide_eq_true_eq] at hm
    obtain ⟨⟨⟨⟨h1, h2⟩, h3⟩, h4⟩, h5⟩ := hm
    obtain ⟨gx, dx⟩ := glo_of c h2
    obtain ⟨xe, e1, e2, e3, e4, e5⟩ := tx.xc k x h1
    rw [e4] at h4
    have hfl : xe.flds.length = es.len := by simpa using h4
    have hst : starEach (y :: args) X.env = (false, eval y X.env) :: starEach args X.env ∧ (backTo pos2 (starEach args X.env)).any (·.1) = false ∧ es.len ≠ 0 := by
      cases es with
      | nil => simp [mts] at h3
      | cons i is =>
        simp only [mts, Bool.and_eq_true] at h3
        exact ⟨mt_star h3.1, mts_plain h3.2, by simp [Es.len]⟩
    have hne : xe.flds ≠ [] := fun z => hst.2.2 (by rw [← hfl, z]; rfl)
    obtain ⟨O, I0⟩ := e5 hne
    have hr2 : Room 2 X.A := c.rm.mono (by omega)
    refine (ps_raise (pos := pos) c.bas.calm c.tk (mk_own (p := p) O I0 hr2 c.tk gx dx e3 (ha _ h3).d hst.1 hst.2.1)).imp fun D σ H h => ?_
    have h' : tSr T X.K W P (fun ρ => (evD Γ (CALL Γ n) es ρ).st fun ds ρ => .ex k ds ρ) D σ H := h.cong fun ρ => by first | rfl | (simp only [xs]; rfl) | simp only [xs]
    refine (lenD (tSr.st (rep := IsDs X.K) h')).imp fun vs H1 q => ?_
    obtain ⟨hv, ds, ρ, G1, F1, F2, w, ⟨rfl, rs⟩, o, k2⟩ := q
    rw [List.nil_append] at w k2
    refine mk_wish (C := xe.adr) (H1 := H1) (Q := fun cls d H' => W cls d σ H') (by rw [hv, hfl]) (by rw [hv]; exact h5) fun d hd => ?_
    have e1' : Ext H1 (upd H1 d (.xd (xe.flds.zip vs).reverse)) := Ext.upd hd
    have nd : d ∉ F2 := fun z => (w.out d z).2 hd
    have st : Stp G1 H1 F2 G1 (upd H1 d (.xd (xe.flds.zip vs).reverse)) F2 :=
      ⟨⟨w.sub.trans e1', w.nd, fun q hq => ⟨(w.out q hq).1, by rw [upd_ne (show q ≠ d from fun z => nd (z ▸ hq))]; exact (w.out q hq).2⟩⟩, fun _ _ h => h, fun b u h _ => e1' b u h, fun b hb => .inl hb, fun b u h => .inl h⟩
    refine k2 (.ref xe.adr) (some d) σ G1 _ F2 st ⟨xe, e1, rfl, by rw [← rs.length, hv, hfl], fun _ => ⟨d, _, rfl, upd_same, fun j f hf => ?_⟩⟩ (o.step (fun _ _ h => h) fun b u _ h => e1' b u h) KpS.refl
    obtain ⟨v, dk, q1, q2, q3⟩ := lookup_zip O.nd rs (by rw [hv, hfl]) hf
    exact ⟨v, dk, q1, q2, q3⟩
  · cases hm
end
end G4

/-! try with several clauses, each with a name or without -/
namespace G4
open PySem L2 PyProof.Rows
/-- behind a suite with a name, the name's slot is empty -/
def endsOf (D : Ends) : Option Nat → Ends
  | none => D
  | some i => { nx := fun σ H => D.nx (σ.set i none) H, rt := D.rt, bk := fun σ H => D.bk (σ.set i none) H, ct := fun σ H => D.ct (σ.set i none) H }
def nameIn (σ : L2.St) (a : Addr) : Option Nat → L2.St
  | none => σ
  | some i => σ.set i (some (.ref a))
/-- a clause: the class, the name's slot, the suite's reading -/
structure Cl where
  cls : Value
  slot : Option Nat
  ts : Addr → Value → Option Addr → TS
def wN (K : PySem.W.Frag) (Wo : WX) (D : Ends) : List Cl → WX
  | [] => Wo
  | q :: l => fun cls d σ H => ∃ b, PySem.W.exmOne K cls q.cls = some b ∧ (b = true → ∀ a, H a = none → q.ts a cls d (endsOf D q.slot) (nameIn σ a q.slot) H) ∧ (b = false → wN K Wo D l cls d σ H)
inductive Cls (X : Cx) : List ExceptHandler → List Cl → Prop
  | nil : Cls X [] []
  | cons {x : Str} {y : Option Str} {q : Cl} {st : Stmt} {sts : List Stmt} {p p' : Pos} {hs : List ExceptHandler} {l : List Cl} (hx : Names X x q.cls) (hy : ∀ n, y = some n → ∃ i, q.slot = some i ∧ X.N[i]? = some n ∧ X.env.kindOf n = some .local) (hn : y = none → q.slot = none)
      (su : ∀ (a : Addr) (oe : Obj) (cls : Value) (d : Option Addr) (pn : List (Addr × Obj)), Zc cls d oe → (∃ vs, oe.data = .fields vs) → PSs (X.suite a ((a, oe) :: pn)) (st :: sts) (q.ts a cls d)) (r : Cls X hs l) :
      Cls X (.ExceptHandler (some (.Name x p)) y (st :: sts) p' :: hs) (q :: l)
section
variable {X : Cx} {W Wo : WX} {pins : List (Addr × Obj)} {σ : L2.St} {H : Hp} {sI s1 : Shared} {B : Heap} {cls : Value} {d : Option Addr} {a : Addr} {D : Ends}
/-- an exception that has come down, ahead of the clauses -/
structure Down (X : Cx) (pins : List (Addr × Obj)) (σ : L2.St) (H : Hp) (cls : Value) (d : Option Addr) (a : Addr) (B : Heap) (sI s1 : Shared) : Prop where
  inv : Inv X pins σ H sI
  grd : ∀ b o, sI.heap.get? b = some o → b ∉ frs X.stack → B.get? b = some o
  fly : HandSPX.FlyingZ B (X.env :: X.outer) a (Zc cls d) s1.heap
  ups : sI.heap.UpToSlots s1.heap
  na : H a = none
  os : s1.os = sI.os
  ag : AllBare s1.gens
theorem Down.now (z : Down X pins σ H cls d a B sI s1) : Inv X pins σ H s1 := z.inv.landed z.grd z.fly.1 z.ups z.os z.ag
theorem Down.at (z : Down X pins σ H cls d a B sI s1) (hf : X.env.frame = some X.env.locals) (hs : X.stack = X.env :: X.outer) : ∃ oe vs, s1.heap.get? a = some oe ∧ Zc cls d oe ∧ oe.data = .fields vs ∧ a ≠ X.env.locals ∧ a ∉ X.fs := by
  obtain ⟨oe, vs, h1, h2, h3⟩ := z.fly.there
  have out : a ∉ frs (X.env :: X.outer) := fun hm => by
    obtain ⟨_, o, ho, hne⟩ := (z.fly.2.2.1).mem hm
    rw [h1] at ho
    cases ho
    exact hne _ h3
  refine ⟨oe, vs, h1, h2, h3, fun e => out ?_, fun hm => out ?_⟩
  · rw [e]
    exact List.mem_filterMap.mpr ⟨X.env, List.mem_cons_self, hf⟩
  · obtain ⟨v, hv, q⟩ := List.mem_filterMap.mp hm
    exact List.mem_filterMap.mpr ⟨v, List.mem_cons_of_mem _ hv, q⟩
theorem Down.suite (z : Down X pins σ H cls d a B sI s1) (hf : X.env.frame = some X.env.locals) (hs : X.stack = X.env :: X.outer) : ∃ oe, Zc cls d oe ∧ (∃ vs, oe.data = .fields vs) ∧ s1.heap.get? a = some oe ∧ Inv (X.suite a ((a, oe) :: (X.pn ++ pins))) [] σ H s1 := by
  obtain ⟨oe, vs, h1, h2, h3, h4, h5⟩ := z.at hf hs
  exact ⟨oe, h2, ⟨vs, h3⟩, h1, z.now.suite h1 h3 z.na h4 h5⟩
/-- no clause takes it -/
theorem Down.on (z : Down X pins σ H cls d a B sI s1) (hf : X.env.frame = some X.env.locals) (hs : X.stack = X.env :: X.outer) (tk : Takes X Wo) (w : Wo cls d σ H) :
    wpAny (model X.prog X.w) X.A (handleBy (.ref a) X.env []) (SP X pins D) X.xe s1 := by
  refine wpAny_handleBy_nil ?_
  obtain ⟨_, _, _, oe, vs, T, oT, ts, g1, g2, g3, g4, g5⟩ := id z.fly
  unfold PySem.passOn
  refine wpAny_bind (wpAny_field g1 g3 g4 ?_)
  rw [if_neg (by simp : ¬ ((Value.ref T == Value.none) = true))]
  have fin : wpAny (model X.prog X.w) X.A (setFlight (.ref a) X.env.frame) (fun _ s4 => wpAny (model X.prog X.w) X.A (throw (.ref a) : Sem Flow) (SP X pins D) X.xe s4) X.xe s1 := by
    rw [hf]
    refine HandSPX.setFlight_upZ z.fly fun h4 hh4 up4 => wpAny_throw (tk _ _ ?_)
    refine ⟨a, B, sI, pins, σ, H, cls, d, rfl, z.inv, z.grd, z.ups.trans up4, .inr (.inr ?_), z.na, z.os, z.ag, w⟩
    rw [hs]; exact hh4
  first
    | exact wpAny_bind (wpAny_pure (wpAny_bind fin))
    | exact wpAny_bind fin
theorem sp_back {oe : Obj} (ok : X.Ok) {f : Flow} {s2 : Shared} (h : SP (X.suite a ((a, oe) :: (X.pn ++ pins))) [] D f s2) : SP X pins D f s2 := by
  cases f with
  | next => obtain ⟨σ', H', J, q⟩ := h; exact ⟨σ', H', J.unsuite ok, q⟩
  | brk => obtain ⟨σ', H', J, q⟩ := h; exact ⟨σ', H', J.unsuite ok, q⟩
  | cont => obtain ⟨σ', H', J, q⟩ := h; exact ⟨σ', H', J.unsuite ok, q⟩
  | ret u => obtain ⟨v, σ', H', J, r, q⟩ := h; exact ⟨v, σ', H', J.unsuite ok, r, q⟩
/-- the clauses, one after the other -/
theorem Down.run (hN : X.N.Nodup) (hf : X.env.frame = some X.env.locals) (hs : X.stack = X.env :: X.outer) (tk : Takes X Wo) (z : Down X pins σ H cls d a B sI s1) :
    ∀ {hds : List ExceptHandler} {l : List Cl}, Cls X hds l → wN X.K Wo D l cls d σ H → wpAny (model X.prog X.w) X.A (handleBy (.ref a) X.env hds) (SP X pins D) X.xe s1 := by
  intro hds l hc
  induction hc with
  | nil => exact fun w => z.on hf hs tk w
  | @cons x y q st sts p p' hs' l' hx hy hn su _ ih =>
    rintro ⟨b, he, ht, hff⟩
    refine wpAny_handleBy_cons (codeAny_handlers_test ?_) (by intro k; cases k)
    obtain ⟨oe, hz, hfi, hg, S⟩ := z.suite hf hs
    have look : PySem.W.Looks (model X.prog X.w) s1.heap (typeOf (.ref a)) cls := fun A Q E s k r => wpAny_typeOf_ref (k _ _ hg) (by rw [hz.1]; exact r)
    have isx := PySem.W.exm_one (M := model X.prog X.w) (z.now.kIn) look he
    have nm : ∀ {Q : Value → Shared → Prop} {E : Value → Shared → Prop}, Q q.cls s1 → wpAny (model X.prog X.w) (X.A.mark (some (.ref a))) (eval (.Name x p) X.env) Q E s1 := fun {Q E} hq => by
      obtain ⟨g1, g2, g3 | ⟨g3, g4, g5⟩⟩ := hx
      · exact ld_glob (X := X.suite a ((a, oe) :: (X.pn ++ pins))) S g1 g3 hq g2
      · exact ld_blt (X := X.suite a ((a, oe) :: (X.pn ++ pins))) S g1 g3 g4 hq g5 g2
    refine nm (isx.here ?_)
    cases b with
    | false => exact ih (hff rfl)
    | true =>
      have w := ht rfl a z.na
      cases y with
      | none =>
        rw [hn rfl] at w
        refine codeAny_handlers_suite ?_
        refine HandSPX.lands_againZ z.fly fun h4 fl4 up4 => ?_
        have z4 : Down X pins σ H cls d a B sI { s1 with heap := h4 } := ⟨z.inv, z.grd, fl4, z.ups.trans up4, z.na, z.os, z.ag⟩
        obtain ⟨o4, y1, y2, _, S4⟩ := z4.suite hf hs
        exact wpAny_mono ((su a o4 cls d (X.pn ++ pins) y1 y2).run [] _ _ H _ S4 w) (fun f s6 h6 => sp_back z.inv.ok h6) (fun _ _ k => k.elim)
      | some n =>
        obtain ⟨i, e1, e2, e3⟩ := hy n rfl
        rw [e1] at w
        refine codeAny_handlers_suite_as ?_
        refine HandSPX.lands_againZ z.fly fun h4 fl4 up4 => ?_
        have z4 : Down X pins σ H cls d a B sI { s1 with heap := h4 } := ⟨z.inv, z.grd, fl4, z.ups.trans up4, z.na, z.os, z.ag⟩
        obtain ⟨o4, y1, y2, _, S4⟩ := z4.suite hf hs
        refine store_ok (X := X.suite a ((a, o4) :: (X.pn ++ pins))) (v := .ref a) S4 hN e2 (.inl e3) rfl (fun s5 S5 => ?_) (.inr e3)
        refine wpAny_mono ((su a o4 cls d (X.pn ++ pins) y1 y2).run [] s5 _ H _ S5 w) (fun f s6 h6 => ?_) (fun _ _ k => k.elim)
        have bye : ∀ {τ : L2.St} {L : Hp} {Q : Shared → Prop}, Inv (X.suite a ((a, o4) :: (X.pn ++ pins))) [] τ L s6 → (∀ s7, Inv X pins (τ.set i none) L s7 → Q s7) →
            wpAny (model X.prog X.w) X.A (do bindName X.env n .none; unbindBehindTheSuite X.env n p') (fun _ s7 => Q s7) X.xe s6 := fun J hq => gone_ok (J.unsuite z.inv.ok) hN e2 e3 hq
        cases f with
        | next => obtain ⟨τ, L, J, k⟩ := h6; exact bye J fun s7 J7 => ⟨_, _, J7, k⟩
        | brk => obtain ⟨τ, L, J, k⟩ := h6; exact bye J fun s7 J7 => ⟨_, _, J7, k⟩
        | cont => obtain ⟨τ, L, J, k⟩ := h6; exact bye J fun s7 J7 => ⟨_, _, J7, k⟩
        | ret u => obtain ⟨v, τ, L, J, rv, k⟩ := h6; exact bye J fun s7 J7 => ⟨_, _, _, J7, rv, k⟩
theorem try_ps {body : List Stmt} {h0 : ExceptHandler} {hds : List ExceptHandler} {l : List Cl} {pos : Pos} {tb : WX → TS} (hN : X.N.Nodup) (hs : X.stack = X.env :: X.outer) (hf : X.env.frame = some X.env.locals) (tk : Takes X Wo)
    (hb : ∀ (W : WX) (pn : List (Addr × Obj)) (xe : Value → Shared → Prop), Takes (X.tr pn xe) W → PassesOwn (model X.prog X.w) X.A X.env xe → PSs (X.tr pn xe) body (tb W)) (hc : Cls X (h0 :: hds) l) :
    PS X (.Try body (h0 :: hds) [] [] pos) (fun D σ H => tb (wN X.K Wo D l) D σ H) := by
  refine ⟨fun pins s σ H D I h => ?_⟩
  have ok := I.ok
  have fr : X.A.frames = some (X.env :: X.outer) := by rw [ok.frames, hs]
  refine wpAny_Try_except (wpAny_mono ((hb (wN X.K Wo D l) (X.pn ++ pins) _ (fun u s1 xx => ?_) PassesOwn.looking).run [] s σ H D (I.toTry _) h) (fun f s1 q => ?_) (fun e s1 he => he))
  · obtain ⟨a, B, sI, pins', σ', H', cls, d, rfl, J', grd, up, sky, na, os, ag, w⟩ := xx
    have J : Inv X pins σ' H' sI := J'.ofTry ok
    have sky' : Sky B (X.env :: X.outer) a (Zc cls d) X.env.locals s1.heap := hs ▸ sky
    exact Sky.land Zc.steady fr hf sky' fun h3 fl3 up3 => Down.run (s1 := { s1 with heap := h3 }) hN hf hs tk ⟨J, grd, fl3, up.trans up3, na, os, ag⟩ hc w
  · cases f with
    | next => obtain ⟨σ', H', J, k⟩ := q; exact wpAny_execs_nil ⟨σ', H', J.ofTry ok, k⟩
    | brk => obtain ⟨σ', H', J, k⟩ := q; exact ⟨σ', H', J.ofTry ok, k⟩
    | cont => obtain ⟨σ', H', J, k⟩ := q; exact ⟨σ', H', J.ofTry ok, k⟩
    | ret u => obtain ⟨v, σ', H', J, rv, k⟩ := q; exact ⟨v, σ', H', J.ofTry ok, rv, k⟩
end
end G4

namespace G4
open PySem L2
section
variable {Γ : Gam} {T : Tab} {nm : Nms} {n : Nat} {N : List Str} {sc : Scope} {W : WX} {X : Cx} {K : PySem.W.Frag} {P : Nat → Bool} {σ : St} {G H : Hp} {F : List Addr} {cal : Nat → List R → Cr} {np : Nat}
/-! ### what a clause reads of its error -/
theorem fld_pe {a C : Addr} {oe : Obj} {cls : Value} {d : Option Addr} {pn : List (Addr × Obj)} {y f : Str} {p pos : Pos} {te : TE} {flds : List Str} (O : OexT X.K C flds) (hf : f ∈ flds) (hz : Zc cls d oe) (hd : ∃ vs, oe.data = .fields vs)
    (he : PE (X.suite a ((a, oe) :: pn)) (.Name y p) te) : PE (X.suite a ((a, oe) :: pn)) (.Attribute (.Name y p) f pos)
      (fun σ H Q => te σ H fun x H1 => x = .ref a ∧ cls = .ref C ∧ ∃ (dd : Addr) (ws : List (Str × V)) (v : V), d = some dd ∧ H1 dd = some (.xd ws) ∧ ws.lookup f = some v ∧ Q v H1) := by
  refine ⟨fun pins s σ H Q I h => attr_of rfl (thn (he.run pins s σ H _ I h) fun u s1 z => ?_)⟩
  obtain ⟨x, H1, I1, rx, rfl, rfl, dd, ws, v, rfl, ea, hl, q⟩ := z
  cases (show u = Value.ref a from rx)
  obtain ⟨ha, _⟩ := I1.pin (a, oe) (List.mem_append_left _ List.mem_cons_self)
  obtain ⟨vs, hd⟩ := hd
  obtain ⟨mA, hns, hr⟩ := (show ObjOk X.prog X.w H1 s1.heap dd (.xd ws) from I1.hok dd _ ea)
  obtain ⟨od, ho, hlk⟩ := lookIn_ns hns
  obtain ⟨w, hw, rw⟩ := RelO.some_of (v := v) (o := mA f) (by rw [← hl]; exact hr f)
  have J : PySem.W.InstAt s1.heap a oe C (some od) := ⟨ha, hz.1, by unfold PySem.W.notCls; rw [hd] <;> rfl, by rw [hz.2]; exact ho⟩
  exact HandSPX.exc_get I1.kIn J O.ga O.gg O.oc.exC (PySem.W.findObj_own O.hdC (O.no f hf) rfl (by rw [hlk, hw])) (handed_of rw) ⟨v, H1, I1.tok _, rw, q⟩
def mtQ (N : List Str) (sc : Scope) (fl : List Str) (v : Option Nat) : List (D ⊕ Nat) → List Expr → Bool
  | [], [] => true
  | .inl d :: l, .Constant c _ _ :: r => mtC d c && mtQ N sc fl v l r
  | .inr j :: l, .Attribute (.Name y _) f _ :: r => (match v with
      | some i => okVar N sc i y && decide (fl[j]? = some f)
      | none => false) && mtQ N sc fl v l r
  | _, _ => false
/-- items of a suite's list -/
def tItm (T : Tab) (K : PySem.W.Frag) (k : Nat) (v : Option Nat) (a : Addr) (cls : Value) (d : Option Addr) (l : List (G4.D ⊕ Nat)) : TA := fun σ H Q => ∃ (G : Hp) (c : Nat) (fs ds : List G4.D), Ext G H ∧ (∀ i, v = some i → σ[i]? = some (some (.ref a))) ∧ ExR T K c fs cls d G H ∧
  (c = k ∨ Su.flat (.lst 0 l) = true) ∧ suit fs l = some ds ∧ ∀ vs, RSs K G vs ds → Q vs H
theorem okVar_vis {x : Str} {i : Nat} (hN : X.N = N) (hsc : X.env.scope = sc) (h : okVar N sc i x = true) : X.N[i]? = some x ∧ Vis X.env.scope x ∧ (x == ("__debug__" : Str)) = false ∧ (x == ("__classdict__" : Str)) = false := by
  unfold okVar isVis at h
  simp only [Bool.and_eq_true, Bool.or_eq_true, decide_eq_true_eq] at h
  obtain ⟨⟨⟨h1, h2⟩, h3⟩, h4⟩ := h
  rw [hN, hsc]
  exact ⟨h1, h2.elim (fun h => h.elim .inl fun h => .inr (.inl h)) fun h => .inr (.inr h), h3, h4⟩
theorem itm_pa (hN : X.N = N) (hsc : X.env.scope = sc) {k : Nat} {v : Option Nat} {a : Addr} {oe : Obj} {cls : Value} {d : Option Addr} {pn : List (Addr × Obj)} {ke : Xe} (hk : T.xc k = some ke) (O : ke.flds ≠ [] → OexT X.K ke.adr ke.flds) (hz : Zc cls d oe) (hd : ∃ vs, oe.data = .fields vs) :
    ∀ {l : List (G4.D ⊕ Nat)} {es : List Expr}, mtQ N sc ke.flds v l es = true → PA (X.suite a ((a, oe) :: pn)) es (tItm T X.K k v a cls d l)
  | [], [], _ => pa_nil.imp fun σ H Q ⟨G, c, fs, ds, hx, hv, ex, hc, hs, q⟩ => by
    cases hs
    exact q [] .nil
  | [], _ :: _, h => by simp [mtQ] at h
  | .inl _ :: _, [], h => by simp [mtQ] at h
  | .inr _ :: _, [], h => by simp [mtQ] at h
  | .inl dd :: l, e :: es, h => by
    cases e with
    | Constant cc kk p =>
      simp only [mtQ, Bool.and_eq_true] at h
      obtain ⟨u, r, q⟩ := cst_pe' (K := X.K) (X := X.suite a ((a, oe) :: pn)) (k := kk) (p := p) h.1
      refine (pa_cons q (itm_pa hN hsc hk O hz hd h.2) rfl).imp fun σ H Q ⟨G, c, fs, ds, hx, hv, ex, hc, hs, q⟩ => ?_
      simp only [suit] at hs
      cases e : suit fs l with
      | none => rw [e] at hs; cases hs
      | some ds' =>
        rw [e] at hs
        cases hs
        refine ⟨G, c, fs, ds', hx, hv, ex, hc.imp id fun z => ?_, e, fun vs rs => q (u :: vs) (.cons (r G) rs)⟩
        simpa [Su.flat] using z
    | _ => simp [mtQ] at h
  | .inr j :: l, e :: es, h => by
    cases e with
    | Attribute o f p =>
      cases o with
      | Name y p2 =>
        cases v with
        | none => simp [mtQ] at h
        | some i =>
          simp only [mtQ, Bool.and_eq_true, decide_eq_true_eq] at h
          obtain ⟨⟨h1, h2⟩, h3⟩ := h
          obtain ⟨x1, x2, x3, x4⟩ := okVar_vis hN hsc h1
          have hne : ke.flds ≠ [] := fun z => by rw [z] at h2; simp at h2
          refine (pa_cons (fld_pe (O hne) (List.mem_of_getElem? h2) hz hd (pe_var (X := X.suite a ((a, oe) :: pn)) x1 x2 x3 x4)) (itm_pa hN hsc hk O hz hd h3) rfl).imp fun σ H Q ⟨G, c, fs, ds, hx, hv, ex, hc, hs, q⟩ => ?_
          rcases hc with rfl | hc
          · refine ⟨.ref a, hv i rfl, rfl, ?_⟩
            obtain ⟨xe, e1, e2, e3, e4⟩ := id ex
            rw [hk] at e1
            cases e1
            obtain ⟨da, ws, d1, d2, d3⟩ := e4 hne
            obtain ⟨u, dk, q1, q2, q3⟩ := d3 j f h2
            refine ⟨e2, da, ws, u, d1, d2, q2, ?_⟩
            simp only [suit, q1] at hs
            cases e : suit fs l with
            | none => rw [e] at hs; cases hs
            | some ds' =>
              rw [e] at hs
              cases hs
              exact ⟨G, c, fs, ds', hx, hv, ex, .inl rfl, e, fun vs rs => q (u :: vs) (.cons q3 rs)⟩
          · simp [Su.flat] at hc
      | _ => simp [mtQ] at h
    | _ => simp [mtQ] at h
/-- a suite's reading -/
def tSu (T : Tab) (K : PySem.W.Frag) (W : WX) (P : Nat → Bool) (k : Nat) (v : Option Nat) (su : Su) (a : Addr) (cls : Value) (d : Option Addr) : TS := fun D σ H => ∃ (c : Nat) (fs : List G4.D) (ρ : Env) (G : Hp) (F : List Addr), Wd G H F ∧ OwnS K G H ρ σ F ∧
  (∀ i, v = some i → σ[i]? = some (some (.ref a))) ∧ ExR T K c fs cls d G H ∧ (c = k ∨ su.flat = true) ∧ SrD T K W P (suitS fs su ρ) D σ G H F
def mtSu (N : List Str) (sc : Scope) (P : Nat → Bool) (fl : List Str) (v : Option Nat) : Su → List Stmt → Bool
  | .lst t l, [.Assign [.Name x _] (.List es _) _] => okLoc N sc P t x && (decide (es.length ≤ 1000) && mtQ N sc fl v l es)
  | .cst t d, [.Assign [.Name x _] (.Constant c _ _) _] => okLoc N sc P t x && mtC d c
  | _, _ => false
theorem suit_len : ∀ {fs : List D} {l : List (D ⊕ Nat)} {ds : List D}, suit fs l = some ds → ds.length = l.length
  | _, [], _, h => by cases h; rfl
  | fs, .inl d :: l, ds, h => by
    simp only [suit] at h
    cases e : suit fs l with
    | none => rw [e] at h; cases h
    | some x => rw [e] at h; cases h; rw [List.length_cons, List.length_cons, suit_len e]
  | fs, .inr j :: l, ds, h => by
    simp only [suit] at h
    split at h
    · cases e : suit fs l with
      | none => rw [e] at h; cases h
      | some x => rw [e] at h; cases h; rw [List.length_cons, List.length_cons, suit_len e]
    · cases h
theorem mtQ_len {fl : List Str} {v : Option Nat} : ∀ {l : List (D ⊕ Nat)} {es : List Expr}, mtQ N sc fl v l es = true → l.length = es.length
  | [], [], _ => rfl
  | [], _ :: _, h => by simp [mtQ] at h
  | .inl _ :: _, [], h => by simp [mtQ] at h
  | .inr _ :: _, [], h => by simp [mtQ] at h
  | .inl _ :: l, e :: es, h => by
    cases e <;> simp [mtQ] at h
    rw [List.length_cons, List.length_cons, mtQ_len h.2]
  | .inr _ :: l, e :: es, h => by
    cases e with
    | Attribute o f p =>
      cases o with
      | Name y p2 =>
        simp only [mtQ, Bool.and_eq_true] at h
        rw [List.length_cons, List.length_cons, mtQ_len h.2]
      | _ => simp [mtQ] at h
    | _ => simp [mtQ] at h
theorem su_ps (hN : X.N = N) (nd : N.Nodup) (hsc : X.env.scope = sc) {k : Nat} {v : Option Nat} {a : Addr} {oe : Obj} {cls : Value} {d : Option Addr} {pn : List (Addr × Obj)} {ke : Xe} (hk : T.xc k = some ke) (O : ke.flds ≠ [] → OexT X.K ke.adr ke.flds) (hz : Zc cls d oe) (hd : ∃ vs, oe.data = .fields vs)
    {su : Su} {sts : List Stmt} (hm : mtSu N sc P ke.flds v su sts = true) : PSs (X.suite a ((a, oe) :: pn)) sts (tSu T X.K W P k v su a cls d) := by
  have loc : ∀ {t : Nat} {x : Str}, okLoc N sc P t x = true → X.N[t]? = some x ∧ X.env.scope.names.lookup x = some .local ∧ P t = false := fun {t x} h => by
    unfold okLoc at h
    simp only [Bool.and_eq_true, decide_eq_true_eq, Bool.not_eq_true'] at h
    rw [hN, hsc]
    exact ⟨h.1.1, h.1.2, h.2⟩
  unfold mtSu at hm
  split at hm
  · rename_i t l x p es p2 p3
    rw [Bool.and_eq_true, Bool.and_eq_true] at hm
    obtain ⟨h1, h2, h3⟩ := loc hm.1
    refine ⟨fun pins s σ H D I h => (pss_one (ps_set (X := X.suite a ((a, oe) :: pn)) (pos := p3) (pos' := p) (by show X.N.Nodup; rw [hN]; exact nd) h1 (.inl h2) (pe_lst (pos := p2) (itm_pa hN hsc hk O hz hd hm.2.2)) rfl (.inr h2))).run pins s σ H D I ?_⟩
    obtain ⟨c, fs, ρ, G, F, w, o, hv, ex, hc, kk⟩ := h
    have hlen : σ.length = X.N.length := I.len
    simp only [suitS] at kk
    cases e : suit fs l with
    | none => rw [e] at kk; exact kk.elim
    | some ds =>
      rw [e] at kk
      refine ⟨G, c, fs, ds, w.sub, hv, ex, hc, e, fun vs rs => ⟨?_, fun q hq => ?_⟩⟩
      · rw [rs.length, suit_len e, mtQ_len hm.2.2]
        exact Nat.le_trans (of_decide_eq_true hm.2.1) (by decide)
      · have nw : New G H G (upd H q (.lst vs)) [q] := .own q _ hq
        obtain ⟨eg, eh⟩ := nw.ext w.sub
        have st := nw.stp w
        obtain ⟨F2, F3, hs, hp, o2⟩ := (o.step eg fun b u _ z => eh b u z).put (i := t) (r := .ol ds) (v := .ref q) (F1 := [q]) (by rw [o.length, hlen]; exact (List.getElem?_eq_some_iff.mp h1).1) ⟨q, vs, rfl, rfl, upd_same, rs⟩
        exact kk _ G _ F3 ((st.subR ((List.Sublist.refl [q]).append hs)).permR hp.symm) o2 (KpS.set h3)
  · rename_i t dd x p cc kk p2 p3
    rw [Bool.and_eq_true] at hm
    obtain ⟨h1, h2, h3⟩ := loc hm.1
    obtain ⟨u, r, q⟩ := cst_pe' (K := X.K) (X := X.suite a ((a, oe) :: pn)) (k := kk) (p := p2) hm.2
    refine ⟨fun pins s σ H D I h => (pss_one (ps_set (X := X.suite a ((a, oe) :: pn)) (pos := p3) (pos' := p) (by show X.N.Nodup; rw [hN]; exact nd) h1 (.inl h2) q rfl (.inr h2))).run pins s σ H D I ?_⟩
    obtain ⟨c, fs, ρ, G, F, w, o, hv, ex, hc, kk⟩ := h
    have hlen : σ.length = X.N.length := I.len
    obtain ⟨F2, F3, hs, hp, o2⟩ := o.put (i := t) (r := .sh dd) (v := u) (F1 := []) (by rw [o.length, hlen]; exact (List.getElem?_eq_some_iff.mp h1).1) ⟨rfl, r G⟩
    exact kk _ G H F3 (((Stp.refl w).subR hs).permR (by rw [List.nil_append] at hp; exact hp.symm)) o2 (KpS.set h3)
  · cases hm
end
end G4

namespace G4
open PySem L2
section
variable {Γ : Gam} {T : Tab} {nm : Nms} {n : Nat} {N : List Str} {sc : Scope} {W : WX} {X : Cx} {K : PySem.W.Frag} {P : Nat → Bool} {σ : St} {G H : Hp} {F : List Addr} {cal : Nat → List R → Cr} {np : Nat}
/-- a context for statements -/
structure CtxS (Γ : Gam) (T : Tab) (nm : Nms) (n : Nat) (N : List Str) (sc : Scope) (W : WX) (X : Cx) : Prop extends Ctx Γ T nm n N sc W X where
  stk : X.stack = X.env :: X.outer
  frm : X.env.frame = some X.env.locals
  pas : PassesOwn (model X.prog X.w) X.A X.env X.xe
  tx : TopX Γ T nm X.K X.mg
  rg : X.mg "range" = none
  knd : X.env.scope.kind = .function
theorem CtxS.tr {W' : WX} {pn : List (Addr × Obj)} {xe : Value → Shared → Prop} (c : CtxS Γ T nm n N sc W X) (tk : Takes (X.tr pn xe) W') (pa : PassesOwn (model X.prog X.w) X.A X.env xe) : CtxS Γ T nm n N sc W' (X.tr pn xe) :=
  { bas := ⟨c.bas.calm, c.bas.gu, c.bas.un, c.bas.sy⟩, rm := c.rm, hN := c.hN, nd := c.nd, hsc := c.hsc, tk := tk, top := c.top, fks := c.fks, stk := c.stk, frm := c.frm, pas := pa, tx := c.tx, rg := c.rg, knd := c.knd }
/-! ### the clauses -/
def mtH (nm : Nms) (N : List Str) (sc : Scope) (P : Nat → Bool) : List (Nat × Option Nat × Su) → List ExceptHandler → Bool
  | [], [] => true
  | (k, v, su) :: l, .ExceptHandler (some (.Name x _)) y (st :: sts) _ :: r => decide (nm.xc[k]? = some x) && isGlo sc x && (match v, y with
      | none, none => true
      | some i, some z => okLoc N sc P i z
      | _, _ => false) && (match nm.fl[k]? with
      | some fl => mtSu N sc P fl v su (st :: sts)
      | none => false) && mtH nm N sc P l r
  | _, _ => false
def clOf (T : Tab) (K : PySem.W.Frag) (W : WX) (P : Nat → Bool) (ke : Xe) (k : Nat) (v : Option Nat) (su : Su) : Cl := ⟨.ref ke.adr, v, fun a cls d => tSu T K W P k v su a cls d⟩
/-- the clauses' readings -/
inductive ClR (T : Tab) (K : PySem.W.Frag) (W : WX) (P : Nat → Bool) (m : Nat) : List (Nat × Option Nat × Su) → List Cl → Prop
  | nil : ClR T K W P m [] []
  | cons {k : Nat} {v : Option Nat} {su : Su} {ke : Xe} {hs : List (Nat × Option Nat × Su)} {l : List Cl} (hk : T.xc k = some ke) (hv : ∀ i, v = some i → P i = false ∧ i < m) (r : ClR T K W P m hs l) : ClR T K W P m ((k, v, su) :: hs) (clOf T K W P ke k v su :: l)
theorem cls_of (c : CtxS Γ T nm n N sc W X) : ∀ {hs : List (Nat × Option Nat × Su)} {hds : List ExceptHandler}, mtH nm N sc P hs hds = true → ∃ l, Cls X hds l ∧ ClR T X.K W P X.N.length hs l
  | [], [], _ => ⟨[], .nil, .nil⟩
  | [], _ :: _, h => by simp [mtH] at h
  | _ :: _, [], h => by simp [mtH] at h
  | q :: hs, e :: hds, h => by
    unfold mtH at h
    split at h
    · cases ‹q :: hs = []›
    · rename_i k v su l x p y st sts p' r e1 e2
      cases e1; cases e2
      simp only [Bool.and_eq_true, decide_eq_true_eq] at h
      obtain ⟨⟨⟨⟨h1, h2⟩, h3⟩, h4⟩, h5⟩ := h
      obtain ⟨l, q1, q2⟩ := cls_of c h5
      obtain ⟨gx, dx⟩ := glo_of c.toCtx h2
      obtain ⟨ke, e1, e2, e3, e4, e5⟩ := c.tx.xc k x h1
      rw [e4] at h4
      dsimp only at h4
      refine ⟨clOf T X.K W P ke k v su :: l, .cons ⟨gx, dx, .inl e3⟩ (fun z hz => ?_) (fun hz => ?_) (fun a oe cls d pn hz hd => su_ps c.hN c.nd c.hsc e1 (fun hne => (e5 hne).1) hz hd h4) q1, .cons e1 (fun i hi => ?_) q2⟩
      · subst hz
        cases v with
        | none => cases h3
        | some i =>
          obtain ⟨x1, x2, x3⟩ := okLoc_of c.toCtx h3
          exact ⟨i, rfl, x1, x2⟩
      · subst hz
        cases v with
        | none => rfl
        | some i => cases h3
      · subst hi
        cases y with
        | none => cases h3
        | some z => exact ⟨(okLoc_of c.toCtx h3).2.2, (List.getElem?_eq_some_iff.mp (okLoc_of c.toCtx h3).1).1⟩
    · cases h
theorem suit_nx (fs : List D) (su : Su) (ρ : Env) : (∃ ρ', suitS fs su ρ = .nx ρ') ∨ suitS fs su ρ = .no := by
  cases su with
  | lst t l =>
    simp only [suitS]
    split
    · exact .inl ⟨_, rfl⟩
    · exact .inr rfl
  | cst t d => exact .inl ⟨_, rfl⟩
theorem set_none_set {σ : St} {i : Nat} {x y : Option V} : (σ.set i x).set i y = σ.set i y := List.set_set ..
/-- the evaluator's clauses are those of the text -/
theorem hnd_ok {D : Ends} (tx : TopX Γ T nm X.K X.mg) {c : Nat} {fs : List G4.D} {cls : Value} {d : Option Addr} (hl : σ.length = X.N.length) : ∀ {hs : List (Nat × Option Nat × Su)} {l : List Cl} {ρ : Env} {G H : Hp} {F : List Addr}, ClR T X.K W P X.N.length hs l → Wd G H F → OwnS X.K G H ρ σ F → ExR T X.K c fs cls d G H →
    SrD T X.K W P (hnd Γ c fs hs ρ) D σ G H F → wN X.K W D l cls d σ H
  | [], _, ρ, G, H, F, .nil, w, o, ex, k => k cls d σ G H F (Stp.refl w) ex o KpS.refl
  | (k, v, su) :: hs, _, ρ, G, H, F, .cons (ke := ke) hk hv r, w, o, ex, q => by
    obtain ⟨xe, e1, e2, e3, e4⟩ := id ex
    simp only [hnd] at q
    split at q
    · rename_i l ha
      have he := tx.exm c k xe ke l e1 hk ha
      subst e2
      refine ⟨l.contains k, he, fun hc a na => ?_, fun hc => ?_⟩
      · rw [if_pos hc] at q
        split at q
        · exact q.elim
        · rename_i hf
          have hfl : c = k ∨ su.flat = true := by
            simp only [Bool.not_eq_true', Bool.not_eq_false, Bool.or_eq_true, beq_iff_eq] at hf
            exact hf
          cases v with
          | none => exact ⟨c, fs, ρ, G, F, w, o, fun i z => (by cases z), ex, hfl, q⟩
          | some i =>
            obtain ⟨F2, hs2, o2⟩ := o.drop i (some (.ref a))
            have st := (Stp.refl w).subR hs2
            refine ⟨c, fs, ρ.set i none, G, F2, w.sm hs2, o2, fun j z => ?_, ex, hfl, ?_⟩
            · cases z
              show (σ.set i (some (.ref a)))[i]? = _
              rw [List.getElem?_set_self (by rw [hl]; exact (hv i rfl).2)]
            · dsimp only at q
              rcases suit_nx fs su (ρ.set i none) with ⟨ρ', e⟩ | e
              · rw [e] at q ⊢
                intro σ' G' H' F' s' o' q'
                obtain ⟨F3, hs3, o3⟩ := o'.drop i none
                exact q _ G' H' F3 ((st.trans s').subR hs3) o3 (((KpS.set (hv i rfl).1).trans q').trans (KpS.set (hv i rfl).1))
              · rw [e] at q
                exact q.elim
      · rw [if_neg (by rw [hc]; decide)] at q
        exact hnd_ok tx hl r w o ex q
    · exact q.elim
/-! ### the matcher of statements, whole -/
section
variable (nm : Nms) (N : List Str) (sc : Scope) (P : Nat → Bool)
mutual
def mS : S → Stmt → Bool
  | .ex i, s => match s with
    | .Expr e _ => noComp e && mt nm N sc i e
    | _ => false
  | .asg t i, s => match s with
    | .Assign [tg] e _ => noComp e && mtT N sc P t tg e && mt nm N sc i e
    | _ => false
  | .par l es, s => match s with
    | .Assign [tg] e _ => mtP nm N sc P l es tg e
    | _ => false
  | .sidx i k v, s => match s with
    | .Assign [.Subscript (.Name x _) ek _] e _ => noComp e && okVar N sc i x && notSl ek && mt nm N sc k ek && mt nm N sc v e
    | _ => false
  | .iff c a b, s => match s with
    | .If e la lb _ => mt nm N sc c e && mSs a la && mSs b lb
    | _ => false
  | .whl c b, s => match s with
    | .While e l [] _ => mt nm N sc c e && mSs b l
    | _ => false
  | .fr t it b, s => match s with
    | .For tg e l [] _ => mtI nm N sc it e && mtT N sc P t tg e && mSs b l
    | _ => false
  | .ret i, s => match s with
    | .Return (some e) _ => mt nm N sc i e
    | _ => false
  | .retn, s => match s with
    | .Return none _ => true
    | _ => false
  | .rse c es, s => match s with
    | .Raise (some e) none _ => mtX nm N sc c es e
    | _ => false
  | .try_ b hs, s => match s with
    | .Try l (h :: hds) [] [] _ => mSs b l && mtH nm N sc P hs (h :: hds)
    | _ => false
  | .pass, s => match s with
    | .Pass _ => true
    | _ => false
  | .brk, s => match s with
    | .Break _ => true
    | _ => false
  | .cnt, s => match s with
    | .Continue _ => true
    | _ => false
def mSs : Ss → List Stmt → Bool
  | .nil, l => match l with
    | [] => true
    | _ => false
  | .cons s r, l => match l with
    | x :: l => mS s x && mSs r l
    | _ => false
end
end
mutual
theorem sndS : ∀ (s : S) (st : Stmt) {W : WX} {X : Cx}, CtxS Γ T nm n N sc W X → mS nm N sc P s st = true → PS X st (tSr T X.K W P (fun ρ => xs Γ (CALL Γ n) np s ρ))
  | .ex i, st, W, X, c, h => by
    cases st with
    | Expr e p =>
      simp only [mS, Bool.and_eq_true] at h
      exact ex_ps h.1 (sndE c.toCtx i e h.2)
    | _ => simp [mS] at h
  | .asg t i, st, W, X, c, h => by
    cases st with
    | Assign tgs e p =>
      match tgs, h with
      | [tg], h =>
        simp only [mS, Bool.and_eq_true] at h
        exact asg_ps c.toCtx h.1.1 h.1.2 (sndE c.toCtx i e h.2)
      | [], h => simp [mS] at h
      | _ :: _ :: _, h => simp [mS] at h
    | _ => simp [mS] at h
  | .par l es, st, W, X, c, h => by
    cases st with
    | Assign tgs e p =>
      match tgs, h with
      | [tg], h =>
        simp only [mS] at h
        exact par_ps c.toCtx c.knd h fun args ha => sndA c.toCtx es args ha
      | [], h => simp [mS] at h
      | _ :: _ :: _, h => simp [mS] at h
    | _ => simp [mS] at h
  | .sidx i k v, st, W, X, c, h => by
    cases st with
    | Assign tgs e p =>
      match tgs, h with
      | [tg], h =>
        cases tg with
        | Subscript o ek p2 =>
          cases o with
          | Name x p3 =>
            simp only [mS, Bool.and_eq_true] at h
            obtain ⟨⟨⟨⟨h1, h2⟩, h3⟩, h4⟩, h5⟩ := h
            exact sidx_ps c.toCtx h1 h2 h3 h4 (sndE c.toCtx k ek h4) (sndE c.toCtx v e h5)
          | _ => simp [mS] at h
        | _ => simp [mS] at h
      | [], h => simp [mS] at h
      | _ :: _ :: _, h => simp [mS] at h
    | _ => simp [mS] at h
  | .iff cc a b, st, W, X, c, h => by
    cases st with
    | If e la lb p =>
      simp only [mS, Bool.and_eq_true] at h
      exact if_ps (sndE c.toCtx cc e h.1.1) (sndSs a la c h.1.2) (sndSs b lb c h.2)
    | _ => simp [mS] at h
  | .whl cc b, st, W, X, c, h => by
    cases st with
    | While e l o p =>
      cases o with
      | cons _ _ => simp [mS] at h
      | nil =>
        simp only [mS, Bool.and_eq_true] at h
        exact whl_ps c.pas (sndE c.toCtx cc e h.1) (sndSs b l c h.2)
    | _ => simp [mS] at h
  | .fr t it b, st, W, X, c, h => by
    cases st with
    | For tg e l o p =>
      cases o with
      | cons _ _ => simp [mS] at h
      | nil =>
        simp only [mS, Bool.and_eq_true] at h
        refine fr_ps c.toCtx c.pas c.rg h.1.1 h.1.2 (fun i hi => ?_) (fun es args hi ha => sndA c.toCtx es args ha) (sndSs b l c h.2)
        subst hi
        have h1 := h.1.1
        simp only [mtI, Bool.and_eq_true] at h1
        exact sndE c.toCtx i e h1.2
    | _ => simp [mS] at h
  | .ret i, st, W, X, c, h => by
    cases st with
    | Return e p =>
      cases e with
      | none => simp [mS] at h
      | some e =>
        simp only [mS] at h
        exact ret_ps c.toCtx h (sndE c.toCtx i e h)
    | _ => simp [mS] at h
  | .retn, st, W, X, c, h => by
    cases st with
    | Return e p =>
      cases e with
      | none => exact retn_ps
      | some e => simp [mS] at h
    | _ => simp [mS] at h
  | .rse k es, st, W, X, c, h => by
    cases st with
    | Raise e f p =>
      cases e with
      | none => simp [mS] at h
      | some e =>
        cases f with
        | some f => simp [mS] at h
        | none =>
          simp only [mS] at h
          exact rse_ps c.toCtx c.tx h fun args ha => sndA c.toCtx es args ha
    | _ => simp [mS] at h
  | .try_ b hs, st, W, X, c, h => by
    cases st with
    | Try l hds o f p =>
      match hds, o, f, h with
      | h0 :: hds, [], [], h =>
        simp only [mS, Bool.and_eq_true] at h
        obtain ⟨lc, q1, q2⟩ := cls_of c h.2
        refine ⟨fun pins s σ H D I hh => (try_ps (pos := p) (tb := fun W' => tSr T X.K W' P (fun ρ => xss Γ (CALL Γ n) np b ρ)) (by rw [c.hN]; exact c.nd) c.stk c.frm c.tk (fun W' pn xe tk pa => sndSs b l (c.tr tk pa) h.1) q1).run pins s σ H D I ?_⟩
        obtain ⟨ρ, G, F, w, o, k⟩ := hh
        simp only [xs] at k
        refine ⟨ρ, G, F, w, o, ?_⟩
        show SrD T X.K (wN X.K W D lc) P (xss Γ (CALL Γ n) np b ρ) D σ G H F
        cases e : xss Γ (CALL Γ n) np b ρ with
        | nx ρ1 => rw [e] at k; exact k
        | bk ρ1 => rw [e] at k; exact k
        | ct ρ1 => rw [e] at k; exact k
        | rt r ρ1 => rw [e] at k; exact k
        | ex cc fs ρ1 =>
          rw [e] at k
          intro cls d σ' G' H' F' st ex o' q
          exact hnd_ok c.tx (by rw [q.1]; exact I.len) q2 st.wd o' ex (SrD.later k st q)
        | no => rw [e] at k; exact k
      | [], _, _, h => simp [mS] at h
      | _ :: _, _ :: _, _, h => simp [mS] at h
      | _ :: _, [], _ :: _, h => simp [mS] at h
    | _ => simp [mS] at h
  | .pass, st, W, X, c, h => by
    cases st with
    | Pass p => exact ps_pass.imp fun D σ H h => tSr.nx (h.cong fun ρ => by simp only [xs])
    | _ => simp [mS] at h
  | .brk, st, W, X, c, h => by
    cases st with
    | Break p =>
      refine ps_break.imp fun D σ H ⟨ρ, G, F, w, o, k⟩ => ?_
      simp only [xs] at k
      exact k σ G H F (Stp.refl w) o KpS.refl
    | _ => simp [mS] at h
  | .cnt, st, W, X, c, h => by
    cases st with
    | Continue p =>
      refine ps_continue.imp fun D σ H ⟨ρ, G, F, w, o, k⟩ => ?_
      simp only [xs] at k
      exact k σ G H F (Stp.refl w) o KpS.refl
    | _ => simp [mS] at h
theorem sndSs : ∀ (b : Ss) (l : List Stmt) {W : WX} {X : Cx}, CtxS Γ T nm n N sc W X → mSs nm N sc P b l = true → PSs X l (tSr T X.K W P (fun ρ => xss Γ (CALL Γ n) np b ρ))
  | .nil, l, W, X, c, h => by
    cases l with
    | nil => exact ss_nil
    | cons _ _ => simp [mSs] at h
  | .cons s r, l, W, X, c, h => by
    cases l with
    | nil => simp [mSs] at h
    | cons x l =>
      simp only [mSs, Bool.and_eq_true] at h
      exact ss_cons (sndS s x c h.1) (sndSs r l c h.2)
end
end
end G4

/-! Defs keep their promises. -/
namespace G4
open PySem L2
open PyProof.Rows hiding St
section
variable {P : Program} {w : World} {K : PySem.W.Frag} {mg : Str → Option Value} {base : Heap} {n : Nat} {f : Addr} {name qual : Str} {params : Arguments} {body : List Stmt} {scope : Scope} {dV kV doc pm cdv ct oc : Value} {an od : Option Addr} {osl : Array (Option Value)} {N ps : List Str} {sp : Sp}
abbrev cxG (P : Program) (w : World) (K : PySem.W.Frag) (mg : Str → Option Value) (base : Heap) (N : List Str) (qual : Str) (scope : Scope) (f : Addr) (cd : Value) (A : Around) (outer : List PySem.Env) (s : Shared) (H : Hp) (E : XK) : Cx :=
  cxOf (fun o H s E e s' => CX P w o H s E e s') P w K mg base N qual scope f cd A outer s H E
/-- a def by its body -/
theorem fn_ofG (lk : K.lookup f = some ⟨oc, od, .func (PySem.W.fnOf name qual params body scope dV kV doc pm an cdv ct), osl⟩) (hcd : PySem.W.codeIn K cdv qual = true) (S : FnScope N ps scope)
    (hb : ∀ (A : Around) (outer : List PySem.Env) (s : Shared) (H : Hp) (vs : List V) (Q : VK) (E : XK), Room (n + 2) (A.deeper (envOfC qual scope s.heap.objs.size f cdv)) → A.guards = some [] → vs.length = ps.length → sp vs H Q E →
      ∃ t, PSs (cxG P w K mg base N qual scope f cdv A outer s H E) body t ∧ t { nx := fun _ H' => Q .non H', rt := Q } (L2.start N vs) H) :
    FnG P w K mg base (n + 1) f (PySem.W.fnOf name qual params body scope dV kV doc pm an cdv ct) ps sp := by
  intro A outer s H args us vs Q E hr gu e0 hbi r hl hsp
  have kin : K.In s.heap := e0.mod.kin.keeps fun b o z => (e0.bs b o z).1
  have nolim : s.heap.NoLimit := e0.mod.nolimit.keeps fun b o z => (e0.bs b o z).1
  have kinds : ∀ q ∈ ps.zip us, scope.names.lookup q.1 = some .local ∨ (scope.names.lookup q.1 = some .cell ∧ ((cellsFrom (s.heap.objs.size + 1) scope.names []).lookup q.1).isSome = true) := by
    rintro ⟨x, v⟩ hq
    exact (S.par x (List.of_mem_zip hq).1).imp id fun z => ⟨z, PySem.W.cellsFrom_some _ _ _ (.inl z)⟩
  refine codeAny_call_function hr.depth (kin _ _ lk) rfl S.co S.gen rfl (PySem.W.codeRec_of kin hcd) (hbi _ _ _ _ (wpAny_newFunctionEnv_cells S.kind kinds fun env he s1 ic => ?_))
  subst he
  obtain ⟨t, ht, hq⟩ := hb A outer s H vs Q E (hr.deeper _) gu hl hsp
  have I : Inv (cxG P w K mg base N qual scope f cdv A outer s H E) [] (L2.start N vs) H s1 := inv_start S hr.hd e0 hl r ic
  refine ⟨nolim.keeps ic.toInCall.keep, codeAny_func (wpAny_mono (ht.run [] s1 _ H _ I hq) (fun fl s2 q => ?_) fun e s2 q => q)⟩
  cases fl with
  | ret u => obtain ⟨v, σ', H', J, rv, q⟩ := q; exact ⟨v, H', J.os, J.bare, J.base, J.hok, rv, q⟩
  | next => obtain ⟨σ', H', J, q⟩ := q; exact ⟨.non, H', J.os, J.bare, J.base, J.hok, rfl, q⟩
  | brk => obtain ⟨_, _, _, q⟩ := q; exact q.elim
  | cont => obtain ⟨_, _, _, q⟩ := q; exact q.elim
end
section
variable {Γ : Gam} {T : Tab} {nm : Nms} {n : Nat} {N : List Str} {sc : Scope} {W : WX} {X : Cx} {K : PySem.W.Frag} {σ : St} {G H G1 H1 : Hp} {F : List Addr} {reb : List Nat}
/-! ### the parameters -/
/-- parameters that are bound anew hold shared things -/
inductive Shd (K : PySem.W.Frag) (G : Hp) (reb : List Nat) : Nat → List R → List V → Prop
  | nil {k : Nat} : Shd K G reb k [] []
  | cons {k : Nat} {r : R} {v : V} {rs : List R} {vs : List V} (h : reb.contains k = true → ∃ d, r = .sh d ∧ RS K G v d) (t : Shd K G reb (k + 1) rs vs) : Shd K G reb k (r :: rs) (v :: vs)
theorem Shd.ext : ∀ {k : Nat} {rs : List R} {vs : List V}, Ext G G1 → Shd K G reb k rs vs → Shd K G1 reb k rs vs
  | _, _, _, _, .nil => .nil
  | _, _, _, e, .cons h t => .cons (fun z => (h z).imp fun d q => ⟨q.1, q.2.ext e⟩) (Shd.ext e t)
theorem prep_own : ∀ {rs rs' : List R} {vs : List V} {k : Nat} {G : Hp} {F0 F : List Addr}, Wd G H (F0 ++ F) → OwnS K G H (rs.map some) (vs.map some) F → prep reb k rs = some rs' →
    ∃ G' F', Stp G H (F0 ++ F) G' H (F0 ++ F') ∧ OwnS K G' H (rs'.map some) (vs.map some) F' ∧ Shd K G' reb k rs' vs ∧ rs'.length = rs.length
  | [], rs', [], k, G, F0, F, w, o, h => by
    cases h
    exact ⟨G, F, Stp.refl w, o, .nil, rfl⟩
  | [], _, _ :: _, _, _, _, _, _, o, _ => o.elim
  | _ :: _, _, [], _, _, _, _, _, o, _ => o.elim
  | r :: rs, rs', v :: vs, k, G, F0, F, w, o, h => by
    obtain ⟨Fa, Fb, rfl, ow, ows⟩ := o
    simp only [prep] at h
    split at h
    · rename_i r' rs1 e1 e2
      cases h
      by_cases hk : reb.contains k = true
      · rw [if_pos hk] at e1
        cases e3 : frz r with
        | none => rw [e3] at e1; cases e1
        | some d =>
          rw [e3] at e1
          cases e1
          -- shared from here
          have w1 : Wd G H (Fa ++ (F0 ++ Fb)) := w.perm (by
            rw [← List.append_assoc, ← List.append_assoc]
            exact (List.perm_append_comm).append_right Fb)
          obtain ⟨G2, rsh, st, eg⟩ := ow.share e3 w1
          have ows2 := ows.step (G' := G2) (H' := H) eg fun _ _ _ z => z
          obtain ⟨G3, F3, st3, o3, sh3, l3⟩ := prep_own st.wd ows2 e2
          refine ⟨G3, F3, ?_, ⟨[], F3, rfl, ⟨rfl, rsh.ext st3.gr⟩, o3⟩, .cons (fun _ => ⟨d, rfl, rsh.ext st3.gr⟩) sh3, by rw [List.length_cons, List.length_cons, l3]⟩
          refine Stp.permL (st.trans st3) ?_
          rw [← List.append_assoc, ← List.append_assoc]
          exact (List.perm_append_comm).append_right Fb
      · rw [if_neg hk] at e1
        cases e1
        have w1 : Wd G H ((F0 ++ Fa) ++ Fb) := by rw [List.append_assoc]; exact w
        obtain ⟨G3, F3, st3, o3, sh3, l3⟩ := prep_own w1 ows e2
        refine ⟨G3, Fa ++ F3, ?_, ⟨Fa, F3, rfl, ow.step st3.gr fun b u _ z => z, o3⟩, .cons (fun z => absurd z hk) sh3, by rw [List.length_cons, List.length_cons, l3]⟩
        rw [List.append_assoc, List.append_assoc] at st3
        exact st3
    · cases h
theorem outs_own : ∀ {rs o : List R} {vs : List V} {ρ : Env} {σ : St} {k : Nat} {F : List Addr}, Shd K G reb k rs vs → OwnS K G H ρ σ F → outs reb k rs ρ = some o → (∀ j, j < rs.length → reb.contains (k + j) = false → σ[j]? = (vs[j]?).map some) →
    ∃ F', F'.Sublist F ∧ OwnS K G H (o.map some) (vs.map some) F'
  | [], _, _, ρ, σ, k, F, .nil, ow, h, _ => by
    cases h
    exact ⟨[], List.nil_sublist _, rfl⟩
  | r :: rs, _, _, [], _, _, _, .cons _ _, ow, h, _ => by simp [outs] at h
  | r :: rs, _, _, x :: ρ, [], _, _, .cons _ _, ow, h, _ => by cases x <;> exact ow.elim
  | r :: rs, o, v :: vs, x :: ρ, s :: σ, k, F, .cons hd tl, ow, h, hk => by
    simp only [outs] at h
    split at h
    · rename_i r' rs1 e1 e2
      cases h
      have hk' : ∀ j, j < rs.length → reb.contains (k + 1 + j) = false → σ[j]? = (vs[j]?).map some := fun j hj hc => by
        have := hk (j + 1) (by rw [List.length_cons]; omega) (by rw [← hc]; congr 1; omega)
        simpa using this
      have rest : ∃ Fx Fy, F = Fx ++ Fy ∧ OwnS K G H ρ σ Fy ∧ (∀ q, x = some q → ∃ u, s = some u ∧ Own K G H q u Fx) := by
        cases x with
        | none => exact ⟨[], F, rfl, ow, fun q z => by cases z⟩
        | some q =>
          cases s with
          | none => exact ow.elim
          | some u =>
            obtain ⟨Fa, Fb, rfl, o1, o2⟩ := ow
            exact ⟨Fa, Fb, rfl, o2, fun q' z => by cases z; exact ⟨u, rfl, o1⟩⟩
      obtain ⟨Fx, Fy, rfl, o2, hq⟩ := rest
      obtain ⟨F3, hs, o3⟩ := outs_own tl o2 e2 hk'
      by_cases hc : reb.contains k = true
      · rw [if_pos hc] at e1
        cases e1
        obtain ⟨d, rfl, rd⟩ := hd hc
        exact ⟨F3, hs.trans (List.sublist_append_right _ _), [], F3, rfl, ⟨rfl, rd⟩, o3⟩
      · rw [if_neg hc] at e1
        obtain ⟨u, rfl, ou⟩ := hq _ e1
        have hv := hk 0 (by simp) (by simpa using hc)
        have e : u = v := by simpa using hv
        subst e
        exact ⟨Fx ++ F3, (List.Sublist.refl Fx).append hs, Fx, F3, rfl, ou, o3⟩
    · cases h
theorem OwnS.app : ∀ {ρ : Env} {σ : St} {F : List Addr} (m : Nat), OwnS K G H ρ σ F → OwnS K G H (ρ ++ List.replicate m none) (σ ++ List.replicate m none) F
  | [], [], F, m, o => by
    rw [show F = [] from o]
    induction m with
    | zero => exact rfl
    | succ m ih => exact ih
  | none :: ρ, _ :: σ, F, m, o => OwnS.app (ρ := ρ) (σ := σ) m o
  | some r :: ρ, some v :: σ, _, m, o => by
    obtain ⟨F1, F2, rfl, o1, o2⟩ := o
    exact ⟨F1, F2, rfl, o1, OwnS.app m o2⟩
  | some r :: ρ, none :: σ, _, _, o => o.elim
  | [], _ :: _, _, _, o => o.elim
  | none :: _, [], _, _, o => o.elim
  | some _ :: _, [], _, _, o => o.elim
def keepP (fd : Fd) : Nat → Bool := fun i => decide (i < fd.np) && !fd.reb.contains i
/-- what the written part says of a def, and that my def is it -/
structure DefOk (nm : Nms) (K : PySem.W.Frag) (fe : Fe) (fd : Fd) : Prop where
  ex : ∃ (name qual : Str) (params : Arguments) (body : List Stmt) (scope : Scope) (dV kV doc pm cdv ct oc : Value) (an od : Option Addr) (osl : Array (Option Value)) (N : List Str),
    K.lookup fe.adr = some ⟨oc, od, .func (PySem.W.fnOf name qual params body scope dV kV doc pm an cdv ct), osl⟩ ∧ PySem.W.codeIn K cdv qual = true ∧ fe.fd = PySem.W.fnOf name qual params body scope dV kV doc pm an cdv ct ∧
    FnScope N fe.ps scope ∧ N.length = fd.nn ∧ fe.ps.length = fd.np ∧ mSs nm N scope (keepP fd) fd.body body = true
/-- the whole of what is left of the top -/
structure Whole (Γ : Gam) (T : Tab) (nm : Nms) (K : PySem.W.Frag) (mg : Str → Option Value) (base : Heap) : Prop where
  top : Top Γ T nm K mg
  tx : TopX Γ T nm K mg
  rg : mg "range" = none
  sy : ∃ o, base.get? sysModules = some o
  df : ∀ f fe, T.fn f = some fe → ∃ fd, Γ.fn[f]? = some fd ∧ DefOk nm K fe fd
theorem cx_ok {P : Program} {w : World} {mg : Str → Option Value} {base : Heap} {qual : Str} {scope : Scope} {f : Addr} {cd : Value} {A : Around} {outer : List PySem.Env} {s : Shared} {E : XK} {ps : List Str} (hw : Whole Γ T nm K mg base) (S : FnScope N ps scope)
    (hr : Room (n + 2) (A.deeper (envOfC qual scope s.heap.objs.size f cd))) (gu : A.guards = some []) (hf : ∀ f fe, T.fn f = some fe → FnG P w K mg base n fe.adr fe.fd fe.ps (spF Γ T K n f)) :
    CtxS Γ T nm n N scope (fun cls d _ H => E cls d H) (cxG P w K mg base N qual scope f cd A outer s H E) where
  bas := ⟨rfl, gu, (by have := hr.un; show (A.deeper _).units + 100 < cLine; omega), hw.sy⟩
  rm := hr
  hN := rfl
  nd := S.nd
  hsc := rfl
  tk := takes_of rfl rfl rfl rfl
  top := hw.top
  fks := hf
  stk := rfl
  frm := rfl
  pas := passes_of rfl
  tx := hw.tx
  rg := hw.rg
  knd := S.kind
theorem all_fns {P : Program} {w : World} {mg : Str → Option Value} {base : Heap} (hw : Whole Γ T nm K mg base) : ∀ n f fe, T.fn f = some fe → FnG P w K mg base n fe.adr fe.fd fe.ps (spF Γ T K n f)
  | 0, f, fe, hf => fun A outer s H args us vs Q E _ _ _ _ _ _ hsp => by
    obtain ⟨rs, G, F, w, o, k⟩ := hsp
    exact k.elim
  | n + 1, f, fe, hf => by
    have ih := all_fns (P := P) (w := w) hw n
    obtain ⟨fd, hfd, ⟨name, qual, params, body, scope, dV, kV, doc, pm, cdv, ct, oc, an, od, osl, N, lk, hcd, efd, S, hN, hps, hm⟩⟩ := hw.df f fe hf
    rw [efd]
    refine fn_ofG lk hcd S fun A outer s H vs Q E hr gu hl hsp => ?_
    have c := cx_ok (outer := outer) (E := E) (H := H) hw S hr gu ih
    refine ⟨_, sndSs (np := fd.np) fd.body body c hm, ?_⟩
    obtain ⟨rs, G, F, w, o, k⟩ := hsp
    have lrs : rs.length = vs.length := own_vals o
    have hnp : rs.length = fd.np := by rw [lrs, hl, hps]
    rw [CALL, hfd] at k
    dsimp only at k
    rw [if_pos hnp] at k
    cases hp : prep fd.reb 0 rs with
    | none => rw [hp] at k; exact k.elim
    | some rs' =>
      rw [hp] at k
      dsimp only at k
      obtain ⟨G1, F1, st1, o1, sh, l1⟩ := prep_own (F0 := []) w o hp
      simp only [List.nil_append] at st1
      have e0 : L2.start N vs = vs.map some ++ List.replicate (fd.nn - fd.np) none := by
        unfold L2.start
        rw [hN, hl, hps]
      rw [e0]
      refine ⟨_, G1, F1, st1.wd, OwnS.app _ o1, ?_⟩
      have fixed : ∀ {σ' : L2.St}, KpS (keepP fd) (vs.map some ++ List.replicate (fd.nn - fd.np) none) σ' → ∀ j, j < rs'.length → fd.reb.contains (0 + j) = false → σ'[j]? = (vs[j]?).map some := by
        intro σ' hk j hj hc
        rw [Nat.zero_add] at hc
        have hjn : j < fd.np := by omega
        have hjv : j < vs.length := by omega
        rw [hk.2 j (by unfold keepP; rw [hc]; simpa using hjn), List.getElem?_append_left (by simpa using hjv), List.getElem?_map]
      unfold fini at k
      show SrD T K _ (keepP fd) (xss Γ (CALL Γ n) fd.np fd.body (rs'.map some ++ List.replicate (fd.nn - fd.np) none)) _ _ G1 H F1
      cases e : xss Γ (CALL Γ n) fd.np fd.body (rs'.map some ++ List.replicate (fd.nn - fd.np) none) with
      | rt r ρ =>
        rw [e] at k
        dsimp only at k
        intro v σ' G2 H2 F2 F3 st2 ow o2 hk
        cases ho : outs fd.reb 0 rs' ρ with
        | none => rw [ho] at k; exact k.elim
        | some ot =>
          rw [ho] at k
          obtain ⟨F4, hs, o4⟩ := outs_own (sh.ext st2.gr) o2 ho (fixed hk)
          exact k v G2 H2 F2 F4 ((st1.trans st2).subR ((List.Sublist.refl F2).append hs)) ow o4
      | nx ρ =>
        rw [e] at k
        dsimp only at k
        intro σ' G2 H2 F3 st2 o2 hk
        cases ho : outs fd.reb 0 rs' ρ with
        | none => rw [ho] at k; exact k.elim
        | some ot =>
          rw [ho] at k
          obtain ⟨F4, hs, o4⟩ := outs_own (sh.ext st2.gr) o2 ho (fixed hk)
          exact k .non G2 H2 [] F4 ((st1.trans st2).subR hs) ⟨rfl, .non⟩ o4
      | ex c fs ρ =>
        rw [e] at k
        dsimp only at k
        intro cls d σ' G2 H2 F3 st2 hx o2 hk
        cases ho : outs fd.reb 0 rs' ρ with
        | none => rw [ho] at k; exact k.elim
        | some ot =>
          rw [ho] at k
          obtain ⟨F4, hs, o4⟩ := outs_own (sh.ext st2.gr) o2 ho (fixed hk)
          exact k cls d G2 H2 F4 ((st1.trans st2).subR hs) hx o4
      | bk ρ => rw [e] at k; exact k.elim
      | ct ρ => rw [e] at k; exact k.elim
      | no => rw [e] at k; exact k.elim
end
end G4

/-! The law's own call; its walk. -/
namespace G4
open PySem L2
open PyProof.Rows hiding St
section
variable {P : Program} {w : World} {K : PySem.W.Frag} {mg mb : Str → Option Value} {n : Nat} {fa a : Addr} {fd : FuncData} {x : Str} {sp : Sp} {s : Shared} {vs : List Value} {ns : List Int}
/-- what is asked of the call -/
abbrev GoesTrue (P : Program) (w : World) (fa a : Addr) (s : Shared) : Prop :=
  codeAny (model P w) callerA (.call (.ref fa) ⟨[.ref a], []⟩) (fun r s' => r = .ok (.ret (.bool true)) ∧ OldK s.heap s'.heap ∧ s'.os = s.os ∧ AllBare s'.gens) s
structure Start (K : PySem.W.Frag) (mg mb : Str → Option Value) (a : Addr) (vs : List Value) (ns : List Int) (s : Shared) : Prop where
  kin : K.In s.heap
  g : s.heap.Ns mainGlobals mg
  b : s.heap.Ns builtinsNs mb
  bb : ∀ y : Str, y ≠ "__name__" → mb y = bootBuiltins y
  lim : s.heap.NoLimit
  gens : s.gens = #[]
  mods : ∃ mm, s.heap.Ns sysModules mm
  obj : s.heap.get? a = some { cls := .type "list", data := .seq vs.toArray }
  iar : IntsAre vs ns
  len : ns.length ≤ sizeLine
theorem goes_from {H : Hp} (S : Start K mg mb a vs ns s) (hr : Room (n + 2) callerA) (F : ∀ base : Heap, K.In base → base.Ns mainGlobals mg → (∃ o, base.get? sysModules = some o) → FnG P w K mg base n fa fd [x] sp)
    (hbind : ∀ (s : Shared) (u : Value), BindsTo s fd ⟨[u], []⟩ [(x, u)]) (hO : Only H) (hok : HOk P w H s.heap) (one : ∀ b, H b ≠ none → b = a) (own : H a ≠ none → K.lookup a = none)
    (hsp : sp [.ref a] H (fun v _ => v = .bl true) fun _ _ _ => False) : GoesTrue P w fa a s := by
  have old : ∀ {b : Addr} {o : Obj}, s.heap.get? b = some o → (∀ es ep, o.data = .dict es ep → H b = none) ∧ (H b = none → (hidT s.heap H).get? b = some o) := by
    intro b o e
    refine ⟨fun es ep d => ?_, fun z => hidT_get e z⟩
    cases q : H b with
    | none => rfl
    | some u =>
      cases one b (by rw [q]; simp)
      rw [S.obj] at e
      cases e
      have d' : Data.seq vs.toArray _ = Data.dict es ep := d
      cases d'
  have nsB : ∀ {b : Addr} {m : Str → Option Value}, s.heap.Ns b m → (hidT s.heap H).Ns b m := fun {b m} ⟨o, es, ep, e, d, r⟩ => ⟨o, es, ep, (old e).2 ((old e).1 es ep d), d, r⟩
  have kB : K.In (hidT s.heap H) := fun b o e => (old (S.kin b o e)).2 (by
    cases q : H b with
    | none => rfl
    | some u =>
      cases one b (by rw [q]; simp)
      rw [own (by rw [q]; simp)] at e
      cases e)
  have md : Mod K mg (hidT s.heap H) := ⟨kB, nsB S.g, ⟨mb, nsB S.b, S.bb⟩, by obtain ⟨mc, h1, h2⟩ := S.lim; exact ⟨mc, nsB h1, h2⟩⟩
  have sy : ∃ o, (hidT s.heap H).get? sysModules = some o := by
    obtain ⟨mm, h⟩ := S.mods
    obtain ⟨o, _, _, e, _⟩ := nsB h
    exact ⟨o, e⟩
  have e0 : Env0 P w K mg (hidT s.heap H) callerA [] s H := ⟨rfl, md, fun b o z => of_hidT z, Nat.le_of_eq (hidT_size _ _), trivial, fun b hb => absurd hb List.not_mem_nil, hok, .of_eq S.gens⟩
  refine codeAny_mono (F _ kB (nsB S.g) sy callerA [] s H ⟨[.ref a], []⟩ [.ref a] [.ref a] _ _ hr rfl e0 (hbind s (.ref a)) (.cons rfl .nil) rfl hsp) fun r s' h => ?_
  cases r with
  | error e =>
    obtain ⟨_, _, _, _, _, _, _, _, _, _, _, _, z⟩ := (show CX P w [] H s (fun _ _ _ => False) e s' from h)
    exact z.elim
  | ok fl =>
    cases fl with
    | ret u =>
      obtain ⟨v, H', os, bare, un, hok', rv, q⟩ := h
      have q' : v = .bl true := q
      subst q'
      cases (show u = Value.bool true from rv)
      refine ⟨rfl, OldK.of_keep fun b o e => ?_, os, bare⟩
      rcases hO b with z | ⟨ob, xs, z⟩
      · exact un.keep b o e z (by intro k; exact absurd (show b ∈ ([] : List Addr) from k) (by simp)) (by simp)
      · obtain ⟨e1, _⟩ := hok b _ z
        obtain ⟨e2, _⟩ := hok' b _ (un.frzs b ob _ z)
        rw [e] at e1
        cases e1
        exact e2
    | _ => exact h.elim
/-- the script: tracked and frozen, or an object of the module -/
theorem goes (S : Start K mg mb a vs ns s) (hr : Room (n + 2) callerA) (F : ∀ base : Heap, K.In base → base.Ns mainGlobals mg → (∃ o, base.get? sysModules = some o) → FnG P w K mg base n fa fd [x] sp)
    (hbind : ∀ (s : Shared) (u : Value), BindsTo s fd ⟨[u], []⟩ [(x, u)]) (hsp : ∀ H : Hp, SqL K H a (ns.map V.int) → sp [.ref a] H (fun v _ => v = .bl true) fun _ _ _ => False) : GoesTrue P w fa a s := by
  have rv := vals_ints S.iar
  have lv := S.iar.length
  cases hk : K.lookup a with
  | some o =>
    have e := S.kin a o hk
    rw [S.obj] at e
    cases e
    exact goes_from S hr F hbind (H := fun _ => none) (fun _ => .inl rfl) (fun b u z => nomatch z) (fun b z => absurd rfl z) (fun z => absurd rfl z)
      (hsp _ (.inr ⟨_, vs.toArray, _, hk, rfl, rfl, rfl, by rw [List.size_toArray, lv]; exact S.len, by simpa using rv⟩))
  | none =>
    have at_ : ∀ b, (if b = a then some (HO.frz { cls := .type "list", data := .seq vs.toArray } (.lst (ns.map V.int))) else none) ≠ none → b = a := fun b z => by
      by_cases q : b = a
      · exact q
      · rw [if_neg q] at z; exact absurd rfl z
    refine goes_from S hr F hbind (H := fun b => if b = a then some (.frz { cls := .type "list", data := .seq vs.toArray } (.lst (ns.map V.int))) else none) (fun b => ?_) (fun b u z => ?_) at_ (fun _ => hk) (hsp _ (.inl (.inr ⟨_, if_pos rfl⟩)))
    · by_cases q : b = a
      · exact .inr ⟨_, _, if_pos q⟩
      · exact .inl (if_neg q)
    · cases at_ b (by rw [show (if b = a then _ else none) = some u from z]; simp)
      have z' := (if_pos rfl).symm.trans z
      cases z'
      exact ⟨S.obj, by rw [List.length_map]; exact S.len, vs, _, rv, S.obj⟩
end
/-- the end of a law: where the top has left the whole, the evaluator's True is the law's -/
theorem walkG {l : PySem.W.OpenLaw} {q : Program} {loose : List Str} {XP : (Str → Option Value) → Heap → Prop} {YP : World → Heap → Prop} {d : PySem.DefRec} {K : PySem.Params → PySem.W.Frag} {Γ : Gam} {nm : Nms} {n f : Nat} {x : Str}
    (hn : l.most = some 63) (hdf : d.params.defaults = []) (hq : importsNone q = true) (hr : Room (n + 2) callerA) (hY : ∀ (w : World) (h : Heap), YP w h → (K w.params).In h)
    (hw : ∀ (w : World) (mg : Str → Option Value) (fa : Addr) (h : Heap), (K w.params).In h → h.Ns mainGlobals mg → mg d.name = some (.ref fa) →
      ∃ T fe, (∀ base : Heap, (∃ o, base.get? sysModules = some o) → Whole Γ T nm (K w.params) mg base) ∧ T.fn f = some fe ∧ fe.adr = fa ∧ fe.ps = [x] ∧ ∀ (s : Shared) (u : Value), BindsTo s fe.fd ⟨[u], []⟩ [(x, u)])
    (law : ∀ l : List Int, l.length ≤ 63 → ∃ fin, CALL Γ n f [.sh (.scr l)] = .ok (.sh (.bl true)) fin) :
    PySem.W.WalkO q loose XP YP l.row.toRowW d [] (fun f vs => PySem.call f vs) := by
  refine Att.attach_call hn hdf fun w s₀ s₁ mg mb fa o pm cd doc a vs ns G Y ho hd hcd hmg hobj hints hlen hg => ?_
  have kin := hY w _ Y
  obtain ⟨T, fe, hT, e1, e2, e3, e4⟩ := hw w mg fa _ kin G.T.g hmg
  have sz : (63 : Nat) ≤ sizeLine := by decide
  have mods : ∃ mm, s₁.heap.Ns sysModules mm := by
    obtain ⟨mm, h, _⟩ := (G.T.seer hq).mods
    exact ⟨mm, h⟩
  refine goes (n := n) (sp := spF Γ T (K w.params) n f) ⟨kin, G.T.g, G.T.b, G.T.builtins, G.T.nolimit, hg, mods, hobj, hints, Nat.le_trans hlen sz⟩ hr (fun base k1 k2 k3 => ?_) (fd := fe.fd) (x := x) e4 fun H hS => ?_
  · have := all_fns (P := l.prog) (w := w) (hT base k3) n f fe e1
    rw [e2, e3] at this
    exact this
  · obtain ⟨fin, e⟩ := law ns hlen
    have r : RS (K w.params) H (.ref a) (.scr ns) := .scr hS (Nat.le_trans hlen sz)
    refine ⟨[.sh (.scr ns)], H, [], ⟨fun _ _ h => h, List.nodup_nil, fun p hp => absurd hp List.not_mem_nil⟩, ⟨[], [], rfl, ⟨rfl, r⟩, rfl⟩, ?_⟩
    rw [e]
    intro v G' H' F1 F2 st ow o
    obtain ⟨rfl, rv⟩ := ow
    cases rv
    rfl
end G4

/-! From the facts that the top has left to the whole. -/
namespace G4
open PySem L2
def scOk (N ps : List Str) (sc : Scope) : Bool := decide (sc.kind = .function) && decide (sc.isCoroutine = false) && decide (sc.isGenerator = false) && decide N.Nodup && decide (N.take ps.length = ps) &&
  ps.all (fun x => decide (sc.names.lookup x = some .local) || decide (sc.names.lookup x = some .cell)) && sc.names.all fun y => decide (y.2 ≠ .free)
theorem scOk_of {N ps : List Str} {sc : Scope} (h : scOk N ps sc = true) : FnScope N ps sc := by
  unfold scOk at h
  simp only [Bool.and_eq_true, decide_eq_true_eq, List.all_eq_true, Bool.or_eq_true] at h
  obtain ⟨⟨⟨⟨⟨⟨h1, h2⟩, h3⟩, h4⟩, h5⟩, h6⟩, h7⟩ := h
  exact ⟨h1, h2, h3, h4, h5, h6, h7⟩
/-- my def is the text's -/
def defOk (nm : Nms) (st : Stmt) (N ps : List Str) (d : Fd) : Bool := scOk N ps (defScope st) && decide (N.length = d.nn) && decide (ps.length = d.np) && mSs nm N (defScope st) (keepP d) d.body (defBody st)
section
variable {Γ : Gam} {T : Tab} {nm : Nms} {K : PySem.W.Frag} {mg : Str → Option Value} {base : Heap}
/-- one def: its name, its place, what it is -/
structure DefAt (nm : Nms) (K : PySem.W.Frag) (mg : Str → Option Value) (fe : Fe) (d : Fd) (x : Str) : Prop where
  nme : fe.nm = x
  gl : mg x = some (.ref fe.adr)
  kp : PySem.W.keepIn K (.ref fe.adr) = true
  bi : ∀ (s : Shared) (us : List Value) (m : Nat), K.In s.heap → us.length + m = fe.ps.length → m ≤ fe.du.length → BindsTo s fe.fd ⟨us, []⟩ (fe.ps.zip (us ++ fe.du.drop (fe.du.length - m)))
  len : d.np = fe.ps.length
  dv : Vals fe.dv fe.du
  dr : ∀ G, RSs K G fe.dv d.dfl
  ok : DefOk nm K fe d
theorem def_at {x : Str} {st : Stmt} {f : Addr} {N ps : List Str} {d : Fd} {oc : Value} {od an : Option Addr} {osl : Array (Option Value)} {dV kV doc pm cdv ct : Value} {dv : List V} {du : List Value}
    (a : mg x = some (.ref f)) (l : K.lookup f = some ⟨oc, od, .func (PySem.W.fnOf x x (defArgs st) (defBody st) (defScope st) dV kV doc pm an cdv ct), osl⟩) (c : PySem.W.codeIn K cdv x = true) (k : PySem.W.keepIn K (.ref f) = true)
    (ok : defOk nm st N ps d = true) (hv : Vals dv du) (hr : ∀ G, RSs K G dv d.dfl)
    (b : ∀ (s : Shared) (us : List Value) (m : Nat), K.In s.heap → us.length + m = ps.length → m ≤ du.length → BindsTo s (PySem.W.fnOf x x (defArgs st) (defBody st) (defScope st) dV kV doc pm an cdv ct) ⟨us, []⟩ (ps.zip (us ++ du.drop (du.length - m)))) :
    DefAt nm K mg ⟨f, x, PySem.W.fnOf x x (defArgs st) (defBody st) (defScope st) dV kV doc pm an cdv ct, ps, dv, du⟩ d x := by
  unfold defOk at ok
  simp only [Bool.and_eq_true, decide_eq_true_eq] at ok
  obtain ⟨⟨⟨h1, h2⟩, h3⟩, h5⟩ := ok
  exact ⟨rfl, a, k, b, h3.symm, hv, hr, ⟨⟨x, x, _, _, _, _, _, _, _, _, _, _, _, _, _, N, l, c, rfl, scOk_of h1, h2, h3, h5⟩⟩⟩
/-- without defaults -/
theorem def_at0 {x : Str} {st : Stmt} {f : Addr} {N ps : List Str} {d : Fd} {oc : Value} {od an : Option Addr} {osl : Array (Option Value)} {dV kV doc pm cdv ct : Value}
    (a : mg x = some (.ref f)) (l : K.lookup f = some ⟨oc, od, .func (PySem.W.fnOf x x (defArgs st) (defBody st) (defScope st) dV kV doc pm an cdv ct), osl⟩) (c : PySem.W.codeIn K cdv x = true) (k : PySem.W.keepIn K (.ref f) = true)
    (ok : defOk nm st N ps d = true) (hd : d.dfl = []) (b : ∀ us : List Value, us.length = ps.length → bindArgs (PySem.W.fnOf x x (defArgs st) (defBody st) (defScope st) dV kV doc pm an cdv ct) ⟨us, []⟩ = pure (ps.zip us)) :
    DefAt nm K mg ⟨f, x, PySem.W.fnOf x x (defArgs st) (defBody st) (defScope st) dV kV doc pm an cdv ct, ps, [], []⟩ d x :=
  def_at a l c k ok .nil (fun G => by rw [hd]; exact .nil) fun s us m hK hl hm => by
    obtain rfl : m = 0 := Nat.le_zero.mp hm
    rw [List.drop_nil, List.append_nil]
    exact .of_eq (b us hl)
inductive Defs (nm : Nms) (K : PySem.W.Frag) (mg : Str → Option Value) : List Fe → List Fd → List Str → Prop
  | nil : Defs nm K mg [] [] []
  | cons {fe : Fe} {d : Fd} {x : Str} {l : List Fe} {m : List Fd} {n : List Str} (h : DefAt nm K mg fe d x) (t : Defs nm K mg l m n) : Defs nm K mg (fe :: l) (d :: m) (x :: n)
theorem Defs.atN : ∀ {l : List Fe} {m : List Fd} {n : List Str}, Defs nm K mg l m n → ∀ {f : Nat} {x : Str}, n[f]? = some x → ∃ fe d, l[f]? = some fe ∧ m[f]? = some d ∧ DefAt nm K mg fe d x
  | _, _, _, .nil, _, _, h => by simp at h
  | _, _, _, .cons h t, 0, x, e => by
    simp at e; subst e
    exact ⟨_, _, rfl, rfl, h⟩
  | _, _, _, .cons h t, f + 1, x, e => by
    obtain ⟨fe, d, h1, h2, h3⟩ := Defs.atN t (f := f) (by simpa using e)
    exact ⟨fe, d, by simpa using h1, by simpa using h2, h3⟩
theorem Defs.atF : ∀ {l : List Fe} {m : List Fd} {n : List Str}, Defs nm K mg l m n → ∀ {f : Nat} {fe : Fe}, l[f]? = some fe → ∃ x d, n[f]? = some x ∧ m[f]? = some d ∧ DefAt nm K mg fe d x
  | _, _, _, .nil, _, _, h => by simp at h
  | _, _, _, .cons h t, 0, x, e => by
    simp at e; subst e
    exact ⟨_, _, rfl, rfl, h⟩
  | _, _, _, .cons h t, f + 1, x, e => by
    obtain ⟨fe, d, h1, h2, h3⟩ := Defs.atF t (f := f) (by simpa using e)
    exact ⟨fe, d, by simpa using h1, by simpa using h2, h3⟩
/-- a class of errors -/
structure ExcAt (K : PySem.W.Frag) (mg : Str → Option Value) (xe : Xe) (x : Str) (fl : List Str) : Prop where
  nme : xe.nm = x
  gl : mg x = some (.ref xe.adr)
  fle : xe.flds = fl
  ok : fl ≠ [] → OexT K xe.adr fl ∧ IniF K xe.adr fl
  sub : PySem.W.subIn K (.ref xe.adr) (.type "BaseException") = some true
  cl : PySem.W.isClsIn K xe.adr = true
  ty : PySem.W.typeIn K (.ref xe.adr) = some (.type "type")
theorem exm_of {C D : Addr} {b : Bool} (h1 : PySem.W.subIn K (.ref D) (.type "BaseException") = some true) (h2 : PySem.W.isClsIn K D = true) (h3 : PySem.W.typeIn K (.ref D) = some (.type "type")) (h4 : PySem.W.subIn K (.ref C) (.ref D) = some b) :
    PySem.W.exmOne K (.ref C) (.ref D) = some b := by
  have g1 : (PySem.W.subIn K (.ref D) (.type "BaseException") == some true) = true := by rw [h1]; rfl
  have g2 : ((PySem.W.clsIn K D).isSome && PySem.W.typeIn K (.ref D) == some (.type "type")) = true := by
    rw [show (PySem.W.clsIn K D).isSome = true from h2, h3]; rfl
  unfold PySem.W.exmOne
  rw [if_pos g1]
  exact (if_pos g2).trans h4
inductive Excs (K : PySem.W.Frag) (mg : Str → Option Value) : List Xe → List Str → List (List Str) → Prop
  | nil : Excs K mg [] [] []
  | cons {xe : Xe} {x : Str} {f : List Str} {l : List Xe} {n : List Str} {fl : List (List Str)} (h : ExcAt K mg xe x f) (t : Excs K mg l n fl) : Excs K mg (xe :: l) (x :: n) (f :: fl)
theorem Excs.atN : ∀ {l : List Xe} {n : List Str} {fl : List (List Str)}, Excs K mg l n fl → ∀ {c : Nat} {x : Str}, n[c]? = some x → ∃ xe f, l[c]? = some xe ∧ fl[c]? = some f ∧ ExcAt K mg xe x f
  | _, _, _, .nil, _, _, h => by simp at h
  | _, _, _, .cons h t, 0, x, e => by
    simp at e; subst e
    exact ⟨_, _, rfl, rfl, h⟩
  | _, _, _, .cons h t, c + 1, x, e => by
    obtain ⟨xe, f, h1, h2, h3⟩ := Excs.atN t (c := c) (by simpa using e)
    exact ⟨xe, f, by simpa using h1, by simpa using h2, h3⟩
theorem Excs.atX : ∀ {l : List Xe} {n : List Str} {fl : List (List Str)}, Excs K mg l n fl → ∀ {c : Nat} {xe : Xe}, l[c]? = some xe → ∃ x f, n[c]? = some x ∧ ExcAt K mg xe x f
  | _, _, _, .nil, _, _, h => by simp at h
  | _, _, _, .cons h t, 0, x, e => by
    simp at e; subst e
    exact ⟨_, _, rfl, h⟩
  | _, _, _, .cons h t, c + 1, x, e => by
    obtain ⟨xe, f, h1, h2⟩ := Excs.atX t (c := c) (by simpa using e)
    exact ⟨xe, f, by simpa using h1, h2⟩
def tabOf (fs : List Fe) (xs : List Xe) : Tab := ⟨fun i => fs[i]?, fun i => xs[i]?⟩
/-- no name of the text hides a built-in -/
structure Free (mg : Str → Option Value) : Prop where
  bf : ∀ f, mg (bfN f) = none
  isi : mg "isinstance" = none
  bool : mg "bool" = none
  rg : mg "range" = none
theorem Free.ty (h : Free mg) : ∀ c, tyB c = true → mg (tyN c) = none := by
  intro c hc
  cases c with
  | int => exact h.bf .int
  | bool => exact h.bool
  | str => exact h.bf .str
  | tup => exact h.bf .tup
  | lst => exact h.bf .lst
  | dct => exact h.bf .dct
  | cls c => simp [tyB] at hc
/-- the calls with keywords -/
def KwOk (nm : Nms) (K : PySem.W.Frag) (fs : List Fe) : Prop := ∀ f m p ks, (f, m, p, ks) ∈ nm.kw → ∀ fe, fs[f]? = some fe → ∀ (s : Shared) (us ws : List Value), K.In s.heap → us.length = m → ws.length = ks.length →
    ∃ zs, picks p (us ++ ws ++ fe.du) = some zs ∧ zs.length = fe.ps.length ∧ BindsTo s fe.fd ⟨us, ks.zip ws⟩ (fe.ps.zip zs)
theorem whole_of {fs : List Fe} {xs : List Xe} (D : Defs nm K mg fs Γ.fn nm.fn) (E : Excs K mg xs nm.xc nm.fl) (F : Free mg) (W : KwOk nm K fs)
    (S : ∀ (c k : Nat) (xe ke : Xe) (l : List Nat), xs[c]? = some xe → xs[k]? = some ke → Γ.anc[c]? = some l → PySem.W.subIn K (.ref xe.adr) (.ref ke.adr) = some (l.contains k)) (sy : ∃ o, base.get? sysModules = some o) : Whole Γ (tabOf fs xs) nm K mg base where
  top :=
    { fn := fun f x h => by
        obtain ⟨fe, d, h1, h2, h3⟩ := D.atN h
        exact ⟨fe, h1, h3.nme, h3.gl, h3.kp, d, h2, h3.len, h3.dv, h3.dr, h3.bi⟩
      kw := fun f m p ks h fe hf => W f m p ks h fe hf
      bf := F.bf
      isi := F.isi
      ty := F.ty }
  tx :=
    { xc := fun c x h => by
        obtain ⟨xe, f, h1, h2, h3⟩ := E.atN h
        refine ⟨xe, h1, h3.nme, h3.gl, by rw [h3.fle]; exact h2, fun hne => ?_⟩
        have h3' := h3.fle
        rw [h3'] at hne ⊢
        exact h3.ok hne
      exm := fun c k xe ke l h1 h2 h3 => by
        obtain ⟨x, f, _, e1⟩ := E.atX h1
        obtain ⟨y, g, _, e2⟩ := E.atX h2
        exact exm_of e2.sub e2.cl e2.ty (S c k xe ke l h1 h2 h3) }
  rg := F.rg
  sy := sy
  df := fun f fe h => by
    obtain ⟨x, d, h1, h2, h3⟩ := D.atF h
    exact ⟨d, h2, h3.ok⟩
/-- an __init__ with its facts -/
def iniOk (st : Stmt) (flds : List Str) : Bool := scOk (("self" : Str) :: flds) (("self" : Str) :: flds) (defScope st) && (("self" : Str) :: flds).all (fun x => decide ((defScope st).names.lookup x = some .local)) && mtInit flds (defBody st)
theorem ini_at {C f : Addr} {flds : List Str} {st : Stmt} {x q : Str} {oc : Value} {od an : Option Addr} {osl : Array (Option Value)} {kV doc pm cdv ct : Value}
    (a : PySem.W.findIn K (.ref C) "__init__" = some (some (.ref f))) (t : PySem.W.typeIn K (.ref f) = some (.type "function")) (l : K.lookup f = some ⟨oc, od, .func (PySem.W.fnOf x q (defArgs st) (defBody st) (defScope st) .none kV doc pm an cdv ct), osl⟩)
    (c : PySem.W.codeIn K cdv q = true) (ok : iniOk st flds = true) (b : ∀ us : List Value, us.length = (("self" : Str) :: flds).length → bindArgs (PySem.W.fnOf x q (defArgs st) (defBody st) (defScope st) .none kV doc pm an cdv ct) ⟨us, []⟩ = pure ((("self" : Str) :: flds).zip us)) :
    IniF K C flds := by
  unfold iniOk at ok
  simp only [Bool.and_eq_true, decide_eq_true_eq, List.all_eq_true] at ok
  exact ⟨f, x, q, _, _, _, _, _, _, _, _, _, _, _, _, _, l, c, scOk_of ok.1.1, ok.1.2, ok.2, .all b, a, t⟩
end
end G4

/-! Walking through the small language, step by step: what is wished of each end is named, never opened ahead. -/
namespace G4
abbrev XQ := Nat → List D → Env → Prop
def wE {α : Type} (x : Rs α) (Q : α → Env → Prop) (E : XQ) : Prop :=
  match x with
  | .ok a ρ => Q a ρ
  | .ex c fs ρ => E c fs ρ
  | .no => False
structure Dn where
  nx : Env → Prop
  bk : Env → Prop
  ct : Env → Prop
  rt : R → Env → Prop
  ex : XQ
def wS (x : Sr) (D : Dn) : Prop :=
  match x with
  | .nx ρ => D.nx ρ
  | .bk ρ => D.bk ρ
  | .ct ρ => D.ct ρ
  | .rt r ρ => D.rt r ρ
  | .ex c fs ρ => D.ex c fs ρ
  | .no => False
def wC (x : Cr) (Q : R → List R → Prop) (E : Nat → List D → List R → Prop) : Prop :=
  match x with
  | .ok r fin => Q r fin
  | .ex c fs fin => E c fs fin
  | .no => False
def kR {α : Type} (o : Option α) (Q : α → Env → Prop) (ρ : Env) : Prop :=
  match o with
  | some z => Q z ρ
  | none => False
/-- both ways of a bool -/
def kI (b : Bool) (P Q : Prop) : Prop := (b = true → P) ∧ (b = false → Q)
section
variable {α β : Type} {Γ : Gam} {cal : Nat → List R → Cr} {ρ : Env} {E : XQ} {np : Nat}
theorem wE_ok {a : α} {Q : α → Env → Prop} : wE (.ok a ρ) Q E = Q a ρ := rfl
theorem wE_bind (x : Rs α) (f : α → Env → Rs β) {Q : β → Env → Prop} : wE (x.bind f) Q E = wE x (fun a ρ => wE (f a ρ) Q E) E := by cases x <;> rfl
theorem wE_lft (o : Option α) {Q : α → Env → Prop} : wE (lft o ρ) Q E = kR o Q ρ := by cases o <;> rfl
theorem kR_some {a : α} {Q : α → Env → Prop} : kR (some a) Q ρ = Q a ρ := rfl
theorem kI_t {P Q : Prop} : kI true P Q = P := by simp [kI]
theorem kI_f {P Q : Prop} : kI false P Q = Q := by simp [kI]
variable {Q : R → Env → Prop}
/-- a name's thing -/
def kV (r : Option (Option R)) (i : Nat) (Q : R → Env → Prop) (ρ : Env) : Prop :=
  match r with
  | some (some (.sh d)) => Q (.sh d) ρ
  | some (some r) => (match frz r with
    | some d => Q (.sh d) (ρ.set i (some (.sh d)))
    | none => False)
  | _ => False
def kL (r : Option (Option R)) (Q : R → Env → Prop) (ρ : Env) : Prop :=
  match r with
  | some (some r) => Q r ρ
  | _ => False
theorem kV_sh {i : Nat} {d : D} : kV (some (some (.sh d))) i Q ρ = Q (.sh d) ρ := rfl
theorem kV_ol {i : Nat} {l : List D} : kV (some (some (.ol l))) i Q ρ = Q (.sh (.lst l)) (ρ.set i (some (.sh (.lst l)))) := rfl
theorem kL_some {r : R} : kL (some (some r)) Q ρ = Q r ρ := rfl
theorem w_var {i : Nat} : wE (ev Γ cal (.var i) ρ) Q E = kV ρ[i]? i Q ρ := by
  simp only [ev, rdv]
  cases ρ[i]? with
  | none => rfl
  | some o =>
    cases o with
    | none => rfl
    | some r =>
      cases r with
      | oi c l =>
        show wE (match frz (R.oi c l) with
          | some d => Rs.ok (R.sh d) (ρ.set i (some (R.sh d)))
          | none => Rs.no) Q E = (match frz (R.oi c l) with
          | some d => Q (.sh d) (ρ.set i (some (.sh d)))
          | none => False)
        cases frz (R.oi c l) <;> rfl
      | _ => rfl
theorem w_cst {d : D} : wE (ev Γ cal (.cst d) ρ) Q E = Q (.sh d) ρ := by simp only [ev, wE]
/-- lent -/
def wB (Γ : Gam) (cal : Nat → List R → Cr) (e : G4.E) (ρ : Env) (Q : R → Env → Prop) (E : XQ) : Prop := wE (bor e ρ (ev Γ cal e ρ)) Q E
def isVar : G4.E → Bool
  | .var _ => true
  | _ => false
theorem wB_var {i : Nat} : wB Γ cal (.var i) ρ Q E = kL ρ[i]? Q ρ := by
  show wE (match ρ[i]? with
      | some (some r) => Rs.ok r ρ
      | _ => Rs.no) Q E = kL ρ[i]? Q ρ
  cases ρ[i]? with
  | none => rfl
  | some o => cases o <;> rfl
theorem wB_other {e : G4.E} (h : isVar e = false) : wB Γ cal e ρ Q E = wE (ev Γ cal e ρ) Q E := by
  cases e <;> first | rfl | simp [isVar] at h
/-- the left one of two -/
def wB2 (Γ : Gam) (cal : Nat → List R → Cr) (a b : G4.E) (ρ : Env) (Q : R → Env → Prop) (E : XQ) : Prop := if atom b then wB Γ cal a ρ Q E else wE (ev Γ cal a ρ) Q E
theorem wB2_t {a b : G4.E} (h : atom b = true) : wB2 Γ cal a b ρ Q E = wB Γ cal a ρ Q E := by simp only [wB2, h, if_true]
theorem wB2_f {a b : G4.E} (h : atom b = false) : wB2 Γ cal a b ρ Q E = wE (ev Γ cal a ρ) Q E := by simp only [wB2, h, Bool.false_eq_true, if_false]
theorem bor2_w {a b : G4.E} : wE (bor2 a b ρ (ev Γ cal a ρ)) Q E = wB2 Γ cal a b ρ Q E := by
  unfold bor2 wB2 wB
  split <;> rfl
def kO1 (Γ : Gam) (cal : Nat → List R → Cr) (op : D → D → Option R) (b : G4.E) (Q : R → Env → Prop) (E : XQ) (x : R) (ρ : Env) : Prop := wB Γ cal b ρ (fun y ρ => kR (op (snap x) (snap y)) Q ρ) E
def kO2 (op : D → D → Option R) (Q : R → Env → Prop) (x y : R) (ρ : Env) : Prop := kR (op (snap x) (snap y)) Q ρ
theorem kO1_eq {op : D → D → Option R} {b : G4.E} {x : R} : kO1 Γ cal op b Q E x ρ = wB Γ cal b ρ (kO2 op Q x) E := rfl
theorem w_bin {o : Bo} {a b : G4.E} : wE (ev Γ cal (.bin o a b) ρ) Q E = wB2 Γ cal a b ρ (kO1 Γ cal (binD o) b Q E) E := by
  rw [← bor2_w]
  simp only [ev, wE_bind, wE_lft]
  rfl
theorem w_cmp {o : Co} {a b : G4.E} : wE (ev Γ cal (.cmp o a b) ρ) Q E = wB2 Γ cal a b ρ (kO1 Γ cal (cmpR o) b Q E) E := by
  rw [← bor2_w]
  simp only [ev, wE_bind, wE_lft]
  rfl
theorem w_ix {a b : G4.E} : wE (ev Γ cal (.ix a b) ρ) Q E = wB2 Γ cal a b ρ (kO1 Γ cal idxR b Q E) E := by
  rw [← bor2_w]
  simp only [ev, wE_bind, wE_lft]
  rfl
def kNeg (Q : R → Env → Prop) (x : R) (ρ : Env) : Prop :=
  match x with
  | .sh (.int i) => Q (.sh (.int (-i))) ρ
  | _ => False
theorem w_neg {a : G4.E} : wE (ev Γ cal (.neg a) ρ) Q E = wE (ev Γ cal a ρ) (kNeg Q) E := by
  simp only [ev, wE_bind]
  congr
  funext x ρ
  unfold kNeg
  cases x with
  | sh d => cases d <;> rfl
  | _ => rfl
/-- a test -/
def kT (P : Bool → Env → Prop) (x : R) (ρ : Env) : Prop :=
  match x with
  | .sh (.bl b) => P b ρ
  | _ => False
theorem wE_tst {x : Rs R} {f : Bool → Env → Rs α} {Q : α → Env → Prop} : wE (tst x f) Q E = wE x (kT fun b ρ => wE (f b ρ) Q E) E := by
  unfold tst
  rw [wE_bind]
  congr
  funext x ρ
  unfold kT
  cases x with
  | sh d => cases d <;> rfl
  | _ => rfl
def kNo (Q : R → Env → Prop) (b : Bool) (ρ : Env) : Prop := Q (.sh (.bl (!b))) ρ
theorem w_no {a : G4.E} : wE (ev Γ cal (.no a) ρ) Q E = wE (ev Γ cal a ρ) (kT (kNo Q)) E := by
  simp only [ev, wE_tst]
  rfl
def kAnd (Γ : Gam) (cal : Nat → List R → Cr) (b : G4.E) (Q : R → Env → Prop) (E : XQ) (c : Bool) (ρ : Env) : Prop := kI c (wE (ev Γ cal b ρ) Q E) (Q (.sh (.bl false)) ρ)
def kOr (Γ : Gam) (cal : Nat → List R → Cr) (b : G4.E) (Q : R → Env → Prop) (E : XQ) (c : Bool) (ρ : Env) : Prop := kI c (Q (.sh (.bl true)) ρ) (wE (ev Γ cal b ρ) Q E)
def kIte (Γ : Gam) (cal : Nat → List R → Cr) (a b : G4.E) (Q : R → Env → Prop) (E : XQ) (c : Bool) (ρ : Env) : Prop := kI c (wE (ev Γ cal a ρ) Q E) (wE (ev Γ cal b ρ) Q E)
theorem ite_kI {c : Bool} {x y : Rs α} {Q : α → Env → Prop} : wE (if c then x else y) Q E = kI c (wE x Q E) (wE y Q E) := by
  cases c <;> simp [kI]
theorem w_and {a b : G4.E} : wE (ev Γ cal (.and a b) ρ) Q E = wE (ev Γ cal a ρ) (kT (kAnd Γ cal b Q E)) E := by
  simp only [ev, wE_tst, ite_kI]
  rfl
theorem w_or {a b : G4.E} : wE (ev Γ cal (.or a b) ρ) Q E = wE (ev Γ cal a ρ) (kT (kOr Γ cal b Q E)) E := by
  simp only [ev, wE_tst, ite_kI]
  rfl
theorem w_ite {c a b : G4.E} : wE (ev Γ cal (.ite c a b) ρ) Q E = wE (ev Γ cal c ρ) (kT (kIte Γ cal a b Q E)) E := by
  simp only [ev, wE_tst, ite_kI]
  rfl
def kC1 (Γ : Gam) (cal : Nat → List R → Cr) (o p : Co) (b c : G4.E) (Q : R → Env → Prop) (E : XQ) (x : R) (ρ : Env) : Prop := wE (ev Γ cal b ρ) (fun y ρ => match y with
    | .sh d => kR (cmpD o (snap x) d) (fun t ρ => kI t (wE (ev Γ cal c ρ) (fun z ρ => kR (cmpR p d (snap z)) Q ρ) E) (Q (.sh (.bl false)) ρ)) ρ
    | _ => False) E
def kC2 (Γ : Gam) (cal : Nat → List R → Cr) (o p : Co) (x : R) (c : G4.E) (Q : R → Env → Prop) (E : XQ) (y : R) (ρ : Env) : Prop :=
  match y with
    | .sh d => kR (cmpD o (snap x) d) (fun t ρ => kI t (wE (ev Γ cal c ρ) (fun z ρ => kR (cmpR p d (snap z)) Q ρ) E) (Q (.sh (.bl false)) ρ)) ρ
    | _ => False
def kC3 (Γ : Gam) (cal : Nat → List R → Cr) (p : Co) (d : D) (c : G4.E) (Q : R → Env → Prop) (E : XQ) (t : Bool) (ρ : Env) : Prop := kI t (wE (ev Γ cal c ρ) (kO2 (cmpR p) Q (.sh d)) E) (Q (.sh (.bl false)) ρ)
theorem kC1_eq {o p : Co} {b c : G4.E} {x : R} : kC1 Γ cal o p b c Q E x ρ = wE (ev Γ cal b ρ) (kC2 Γ cal o p x c Q E) E := rfl
theorem kC2_eq {o p : Co} {c : G4.E} {x : R} {d : D} : kC2 Γ cal o p x c Q E (.sh d) ρ = kR (cmpD o (snap x) d) (kC3 Γ cal p d c Q E) ρ := rfl
theorem w_cm2 {o p : Co} {a b c : G4.E} : wE (ev Γ cal (.cm2 o p a b c) ρ) Q E = wE (ev Γ cal a ρ) (kC1 Γ cal o p b c Q E) E := by
  simp only [ev, wE_bind]
  congr
  funext x ρ
  unfold kC1
  congr
  funext y ρ
  cases y with
  | sh d =>
    dsimp only
    cases cmpD o (snap x) d with
    | none => rfl
    | some t =>
      cases t
      · simp only [kR, kI_f]; rfl
      · simp only [kR, kI_t, wE_bind, wE_lft]
  | _ => rfl
/-! ### lists of parts -/
def wD (Γ : Gam) (cal : Nat → List R → Cr) (es : Es) (ρ : Env) (Q : List D → Env → Prop) (E : XQ) : Prop := wE (evD Γ cal es ρ) Q E
def kD1 (Γ : Gam) (cal : Nat → List R → Cr) (es : Es) (Q : List D → Env → Prop) (E : XQ) (r : R) (ρ : Env) : Prop := kR (frz r) (fun d ρ => wD Γ cal es ρ (fun ds ρ => Q (d :: ds) ρ) E) ρ
def kD2 (d : D) (Q : List D → Env → Prop) (ds : List D) (ρ : Env) : Prop := Q (d :: ds) ρ
def kD3 (Γ : Gam) (cal : Nat → List R → Cr) (es : Es) (Q : List D → Env → Prop) (E : XQ) (d : D) (ρ : Env) : Prop := wD Γ cal es ρ (kD2 d Q) E
theorem kD1_eq {es : Es} {QD : List D → Env → Prop} {r : R} : kD1 Γ cal es QD E r ρ = kR (frz r) (kD3 Γ cal es QD E) ρ := rfl
theorem wD_nil {QD : List D → Env → Prop} : wD Γ cal .nil ρ QD E = QD [] ρ := by simp only [wD, evD, wE]
theorem wD_cons {e : G4.E} {es : Es} {QD : List D → Env → Prop} : wD Γ cal (.cons e es) ρ QD E = wE (ev Γ cal e ρ) (kD1 Γ cal es QD E) E := by
  simp only [wD, evD, wE_bind]
  congr
  funext r ρ
  unfold kD1
  cases frz r with
  | none => rfl
  | some d => simp only [kR, wD, wE_bind]; rfl
def wR (Γ : Gam) (cal : Nat → List R → Cr) (es : Es) (ρ : Env) (Q : List R → Env → Prop) (E : XQ) : Prop := wE (evR Γ cal es ρ) Q E
def kR2 (r : R) (Q : List R → Env → Prop) (rs : List R) (ρ : Env) : Prop := Q (r :: rs) ρ
def kR1 (Γ : Gam) (cal : Nat → List R → Cr) (es : Es) (Q : List R → Env → Prop) (E : XQ) (r : R) (ρ : Env) : Prop := wR Γ cal es ρ (kR2 r Q) E
theorem wR_nil {QR : List R → Env → Prop} : wR Γ cal .nil ρ QR E = QR [] ρ := by simp only [wR, evR, wE]
theorem wR_cons {e : G4.E} {es : Es} {QR : List R → Env → Prop} : wR Γ cal (.cons e es) ρ QR E = wE (ev Γ cal e ρ) (kR1 Γ cal es QR E) E := by
  simp only [wR, evR, wE_bind]
  rfl
def wA (Γ : Gam) (cal : Nat → List R → Cr) (es : Es) (ρ : Env) (Q : List Ag → Env → Prop) (E : XQ) : Prop := wE (evA Γ cal es ρ) Q E
def kA2 (a : Ag) (Q : List Ag → Env → Prop) (as : List Ag) (ρ : Env) : Prop := Q (a :: as) ρ
def kA1 (Γ : Gam) (cal : Nat → List R → Cr) (es : Es) (Q : List Ag → Env → Prop) (E : XQ) (a : Ag) (ρ : Env) : Prop := wA Γ cal es ρ (kA2 a Q) E
def kAv (Q : Ag → Env → Prop) (r : R) (ρ : Env) : Prop := Q (.val r) ρ
def kAn (r : Option (Option R)) (i : Nat) (Q : Ag → Env → Prop) (ρ : Env) : Prop :=
  match r with
  | some (some (.sh d)) => Q (.val (.sh d)) ρ
  | some (some (.lk _)) => False
  | some (some _) => Q (.ref i) ρ
  | _ => False
theorem kAn_sh {i : Nat} {d : D} {QA : Ag → Env → Prop} : kAn (some (some (.sh d))) i QA ρ = QA (.val (.sh d)) ρ := rfl
theorem kAn_ol {i : Nat} {l : List D} {QA : Ag → Env → Prop} : kAn (some (some (.ol l))) i QA ρ = QA (.ref i) ρ := rfl
theorem kAn_od {i : Nat} {l : List (D × D)} {QA : Ag → Env → Prop} : kAn (some (some (.od l))) i QA ρ = QA (.ref i) ρ := rfl
theorem wA_nil {QA : List Ag → Env → Prop} : wA Γ cal .nil ρ QA E = QA [] ρ := by simp only [wA, evA, wE]
theorem wA_var {i : Nat} {es : Es} {QA : List Ag → Env → Prop} : wA Γ cal (.cons (.var i) es) ρ QA E = kAn ρ[i]? i (kA1 Γ cal es QA E) ρ := by
  simp only [wA, evA, wE_bind, agv]
  unfold kAn
  cases ρ[i]? with
  | none => rfl
  | some o =>
    cases o with
    | none => rfl
    | some r => cases r <;> rfl
theorem wA_other {e : G4.E} {es : Es} {QA : List Ag → Env → Prop} (h : isVar e = false) : wA Γ cal (.cons e es) ρ QA E = wE (ev Γ cal e ρ) (kAv (kA1 Γ cal es QA E)) E := by
  simp only [wA, evA, wE_bind]
  cases e with
  | var i => simp [isVar] at h
  | _ => simp only [agv, wE_bind]; rfl
/-! ### displays, calls -/
def kTup (Q : R → Env → Prop) (ds : List D) (ρ : Env) : Prop := Q (.sh (.tup ds)) ρ
def kLst (Q : R → Env → Prop) (ds : List D) (ρ : Env) : Prop := Q (.ol ds) ρ
theorem w_tup {es : Es} : wE (ev Γ cal (.tup es) ρ) Q E = wD Γ cal es ρ (kTup Q) E := by
  simp only [ev, wE_bind]
  rfl
theorem w_lst {es : Es} : wE (ev Γ cal (.lst es) ρ) Q E = wD Γ cal es ρ (kLst Q) E := by
  simp only [ev, wE_bind]
  rfl
theorem w_dc0 : wE (ev Γ cal .dc0 ρ) Q E = Q (.od []) ρ := by simp only [ev, wE]
def kX1 (Γ : Gam) (cal : Nat → List R → Cr) (b : G4.E) (Q : R → Env → Prop) (E : XQ) (rs : List R) (ρ : Env) : Prop := wE (ev Γ cal b ρ) (fun y ρ => match y with
    | .sh (.int i) => kR (atD rs i) Q ρ
    | _ => False) E
def kX2 (rs : List R) (Q : R → Env → Prop) (y : R) (ρ : Env) : Prop :=
  match y with
    | .sh (.int i) => kR (atD rs i) Q ρ
    | _ => False
theorem kX1_eq {b : G4.E} {rs : List R} : kX1 Γ cal b Q E rs ρ = wE (ev Γ cal b ρ) (kX2 rs Q) E := rfl
theorem w_ixd {es : Es} {b : G4.E} : wE (ev Γ cal (.ixd es b) ρ) Q E = wR Γ cal es ρ (kX1 Γ cal b Q E) E := by
  simp only [ev, wE_bind]
  unfold wR
  congr
  funext rs ρ
  unfold kX1
  congr
  funext y ρ
  cases y with
  | sh d => cases d <;> simp only [wE_lft] <;> rfl
  | _ => rfl
def kCal (Γ : Gam) (cal : Nat → List R → Cr) (f : Nat) (Q : R → Env → Prop) (E : XQ) (as : List Ag) (ρ : Env) : Prop :=
  kR (takeA as ρ) (fun p _ => kR (Γ.fn[f]?) (fun fd _ => wC (cal f (dfl fd p.1)) (fun r fin => Q r (putA as fin p.2)) (fun c fs fin => E c fs (putA as fin p.2))) ρ) ρ
theorem w_cal {f : Nat} {es : Es} : wE (ev Γ cal (.cal f es) ρ) Q E = wA Γ cal es ρ (kCal Γ cal f Q E) E := by
  simp only [ev, wE_bind]
  unfold wA
  congr
  funext as ρ
  unfold callA kCal
  cases takeA as ρ with
  | none => rfl
  | some p =>
    obtain ⟨rs, ρ1⟩ := p
    simp only [kR]
    cases Γ.fn[f]? with
    | none => rfl
    | some fd =>
      simp only [Option.map_some]
      cases cal f (dfl fd rs) <;> rfl
def kKw (Γ : Gam) (cal : Nat → List R → Cr) (f : Nat) (p : List Nat) (Q : R → Env → Prop) (E : XQ) (ds dk : List D) (ρ : Env) : Prop :=
  kR (Γ.fn[f]?) (fun fd _ => kR (picks p (ds ++ dk ++ fd.dfl)) (fun ps _ => wC (cal f (ps.map .sh)) (fun r _ => Q r ρ) (fun c fs _ => E c fs ρ)) ρ) ρ
def kKw1 (Γ : Gam) (cal : Nat → List R → Cr) (f : Nat) (ks : Es) (p : List Nat) (Q : R → Env → Prop) (E : XQ) (ds : List D) (ρ : Env) : Prop := wD Γ cal ks ρ (kKw Γ cal f p Q E ds) E
theorem take_val : ∀ (ps : List D) (ρ : Env), takeA (ps.map fun d => Ag.val (.sh d)) ρ = some (ps.map .sh, ρ)
  | [], _ => rfl
  | d :: ps, ρ => by simp only [List.map_cons, takeA, take_val ps ρ]
theorem put_val : ∀ (ps : List D) (fin : List R) (ρ : Env), putA (ps.map fun d => Ag.val (.sh d)) fin ρ = ρ
  | [], fin, _ => by cases fin <;> rfl
  | d :: ps, [], ρ => rfl
  | d :: ps, r :: fin, ρ => by simp only [List.map_cons, putA, put_val ps fin ρ]
theorem w_calk {f : Nat} {es ks : Es} {p : List Nat} : wE (ev Γ cal (.calk f es ks p) ρ) Q E = wD Γ cal es ρ (kKw1 Γ cal f ks p Q E) E := by
  simp only [ev, wE_bind]
  unfold wD
  congr
  funext ds ρ
  unfold kKw1 wD
  congr
  funext dk ρ
  unfold kKw
  cases Γ.fn[f]? with
  | none => rfl
  | some fd =>
    simp only [Option.bind_some, kR]
    cases picks p (ds ++ dk ++ fd.dfl) with
    | none => rfl
    | some ps =>
      simp only [callA, take_val]
      cases cal f (ps.map .sh) <;> simp only [put_val] <;> rfl
def kBl1 (f : Bf) (Q : R → Env → Prop) (x : R) (ρ : Env) : Prop := kR (bltD f [snap x]) Q ρ
def kBl (f : Bf) (Q : R → Env → Prop) (ds : List D) (ρ : Env) : Prop := kR (bltD f ds) Q ρ
theorem w_blt1 {f : Bf} {a : G4.E} : wE (ev Γ cal (.blt f (.cons a .nil)) ρ) Q E = wB Γ cal a ρ (kBl1 f Q) E := by
  simp only [ev, wE_bind, wE_lft]
  rfl
theorem w_blt {f : Bf} {a b : G4.E} {es : Es} : wE (ev Γ cal (.blt f (.cons a (.cons b es))) ρ) Q E = wD Γ cal (.cons a (.cons b es)) ρ (kBl f Q) E := by
  simp only [ev, wE_bind, wE_lft]
  rfl
def kIs (c : Ty) (Q : R → Env → Prop) (x : R) (ρ : Env) : Prop := Q (.sh (.bl (isD c (snap x)))) ρ
theorem w_isi {a : G4.E} {c : Ty} : wE (ev Γ cal (.isi a c) ρ) Q E = wB Γ cal a ρ (kIs c Q) E := by
  simp only [ev, wE_bind]
  rfl
end
end G4

namespace G4
section
variable {Γ : Gam} {cal : Nat → List R → Cr} {ρ : Env} {np : Nat} {d : Dn}
theorem wS_nx : wS (.nx ρ) d = d.nx ρ := rfl
theorem wS_bk : wS (.bk ρ) d = d.bk ρ := rfl
theorem wS_ct : wS (.ct ρ) d = d.ct ρ := rfl
theorem wS_rt {r : R} : wS (.rt r ρ) d = d.rt r ρ := rfl
theorem wS_ex {c : Nat} {fs : List D} : wS (.ex c fs ρ) d = d.ex c fs ρ := rfl
theorem wS_st {α : Type} (x : Rs α) (f : α → Env → Sr) : wS (x.st f) d = wE x (fun a ρ => wS (f a ρ) d) d.ex := by cases x <;> rfl
def kSq (Γ : Gam) (cal : Nat → List R → Cr) (np : Nat) (r : Ss) (d : Dn) : Dn := { nx := fun ρ => wS (xss Γ cal np r ρ) d, bk := d.bk, ct := d.ct, rt := d.rt, ex := d.ex }
theorem kSq_nx {r : Ss} : (kSq Γ cal np r d).nx ρ = wS (xss Γ cal np r ρ) d := rfl
theorem kSq_bk {r : Ss} : (kSq Γ cal np r d).bk = d.bk := rfl
theorem kSq_ct {r : Ss} : (kSq Γ cal np r d).ct = d.ct := rfl
theorem kSq_rt {r : Ss} : (kSq Γ cal np r d).rt = d.rt := rfl
theorem kSq_ex {r : Ss} : (kSq Γ cal np r d).ex = d.ex := rfl
theorem s_nil : wS (xss Γ cal np .nil ρ) d = d.nx ρ := by simp only [xss, wS]
theorem s_cons {s : S} {r : Ss} : wS (xss Γ cal np (.cons s r) ρ) d = wS (xs Γ cal np s ρ) (kSq Γ cal np r d) := by
  simp only [xss]
  cases xs Γ cal np s ρ <;> rfl
def kDr (d : Dn) (_ : R) (ρ : Env) : Prop := d.nx ρ
theorem s_ex {e : E} : wS (xs Γ cal np (.ex e) ρ) d = wE (ev Γ cal e ρ) (kDr d) d.ex := by
  simp only [xs, wS_st]
  rfl
def kAs (t : Tg) (d : Dn) (r : R) (ρ : Env) : Prop := wS (stg t r ρ) d
theorem s_asg {t : Tg} {e : E} : wS (xs Γ cal np (.asg t e) ρ) d = wE (ev Γ cal e ρ) (kAs t d) d.ex := by
  simp only [xs, wS_st]
  rfl
theorem kAs_nm {i : Nat} {r : R} : kAs (.nm i) d r ρ = d.nx (ρ.set i (some r)) := rfl
theorem kAs_tp {l : List Nat} {ds : List D} : kAs (.tp l) d (.sh (.tup ds)) ρ = (ds.length = l.length ∧ d.nx (setl l ds ρ)) := by
  simp only [kAs, stg, snap]
  split
  · rename_i h; simp [wS, h]
  · rename_i h; simp [wS, h]
def kPar (l : List Nat) (d : Dn) (rs : List R) (ρ : Env) : Prop := rs.length = l.length ∧ d.nx (setr l rs ρ)
theorem s_par {l : List Nat} {es : Es} : wS (xs Γ cal np (.par l es) ρ) d = wR Γ cal es ρ (kPar l d) d.ex := by
  simp only [xs, wS_st]
  unfold wR
  congr
  funext rs ρ
  unfold kPar
  split
  · rename_i h; simp [wS, h]
  · rename_i h; simp [wS, h]
def kSi2 (i : Nat) (v : D) (d : Dn) (y : R) (ρ : Env) : Prop :=
  match ρ[i]?, y with
  | some (some c), .sh z => (match setR c z v with
    | some c' => d.nx (ρ.set i (some c'))
    | none => False)
  | _, _ => False
def kSi1 (Γ : Gam) (cal : Nat → List R → Cr) (i : Nat) (k : E) (d : Dn) (r : R) (ρ : Env) : Prop :=
  match frz r, ρ[i]? with
  | some v, some (some _) => wE (ev Γ cal k ρ) (kSi2 i v d) d.ex
  | _, _ => False
theorem s_sidx {i : Nat} {k e : E} : wS (xs Γ cal np (.sidx i k e) ρ) d = wE (ev Γ cal e ρ) (kSi1 Γ cal i k d) d.ex := by
  simp only [xs, wS_st]
  congr
  funext r ρ
  unfold kSi1
  cases h1 : frz r with
  | none => rfl
  | some v =>
    cases h2 : ρ[i]? with
    | none => rfl
    | some o =>
      cases o with
      | none => rfl
      | some c0 =>
        simp only [wS_st]
        congr
        funext y ρ
        unfold kSi2
        cases h3 : ρ[i]? with
        | none => rfl
        | some o =>
          cases o with
          | none => rfl
          | some c =>
            cases y with
            | sh z =>
              dsimp only
              cases setR c z v <;> rfl
            | _ => rfl
def kIf (Γ : Gam) (cal : Nat → List R → Cr) (np : Nat) (a b : Ss) (d : Dn) (c : Bool) (ρ : Env) : Prop := kI c (wS (xss Γ cal np a ρ) d) (wS (xss Γ cal np b ρ) d)
theorem s_iff {c : E} {a b : Ss} : wS (xs Γ cal np (.iff c a b) ρ) d = wE (ev Γ cal c ρ) (kT (kIf Γ cal np a b d)) d.ex := by
  simp only [xs, wS_st]
  congr
  funext r ρ
  unfold kT kIf
  cases r with
  | sh v =>
    cases v with
    | bl b => cases b <;> simp [kI]
    | _ => rfl
  | _ => rfl
def wW (Γ : Gam) (cal : Nat → List R → Cr) (np : Nat) (c : E) (b : Ss) (k : Nat) (ρ : Env) (d : Dn) : Prop := wS (whL (ev Γ cal c) (xss Γ cal np b) k ρ) d
theorem s_whl {c : E} {b : Ss} : wS (xs Γ cal np (.whl c b) ρ) d = wW Γ cal np c b LIM ρ d := by simp only [xs, wW]
def wF (Γ : Gam) (cal : Nat → List R → Cr) (np : Nat) (t : Tg) (b : Ss) (l : List D) (ρ : Env) (d : Dn) : Prop := wS (forL t (xss Γ cal np b) l ρ) d
def kRg (Γ : Gam) (cal : Nat → List R → Cr) (np : Nat) (t : Tg) (b : Ss) (d : Dn) (ds : List D) (ρ : Env) : Prop := kR (rngD ds) (fun l ρ => wF Γ cal np t b l ρ d) ρ
def kRg' (Γ : Gam) (cal : Nat → List R → Cr) (np : Nat) (t : Tg) (b : Ss) (d : Dn) (l : List D) (ρ : Env) : Prop := wF Γ cal np t b l ρ d
theorem kRg_eq {t : Tg} {b : Ss} {ds : List D} : kRg Γ cal np t b d ds ρ = kR (rngD ds) (kRg' Γ cal np t b d) ρ := rfl
theorem s_rng {t : Tg} {es : Es} {b : Ss} : wS (xs Γ cal np (.fr t (.rng es) b) ρ) d = wD Γ cal es ρ (kRg Γ cal np t b d) d.ex := by
  simp only [xs, wS_st, iter, wE_bind, wE_lft]
  rfl
def kSeq (Γ : Gam) (cal : Nat → List R → Cr) (np : Nat) (t : Tg) (b : Ss) (d : Dn) (r : R) (ρ : Env) : Prop :=
  match frz r with
  | some (.tup l) => wF Γ cal np t b l ρ d
  | some (.lst l) => wF Γ cal np t b l ρ d
  | _ => False
theorem s_seq {t : Tg} {e : E} {b : Ss} : wS (xs Γ cal np (.fr t (.seq e) b) ρ) d = wE (ev Γ cal e ρ) (kSeq Γ cal np t b d) d.ex := by
  simp only [xs, wS_st, iter, wE_bind]
  congr
  funext r ρ
  unfold kSeq
  cases frz r with
  | none => rfl
  | some v => cases v <;> rfl
def kRv (r : Option (Option R)) (i : Nat) (d : Dn) (ρ : Env) : Prop :=
  match r with
  | some (some r) => d.rt r (ρ.set i none)
  | _ => False
theorem kRv_some {i : Nat} {r : R} : kRv (some (some r)) i d ρ = d.rt r (ρ.set i none) := rfl
theorem s_retv {i : Nat} : wS (xs Γ cal np (.ret (.var i)) ρ) d = if i < np then wE (ev Γ cal (.var i) ρ) d.rt d.ex else kRv ρ[i]? i d ρ := by
  simp only [xs]
  split
  · rename_i h
    simp only [wS_st, ev]
    rfl
  · unfold kRv
    cases ρ[i]? with
    | none => rfl
    | some o => cases o <;> rfl
theorem s_ret {e : E} (h : isVar e = false) : wS (xs Γ cal np (.ret e) ρ) d = wE (ev Γ cal e ρ) d.rt d.ex := by
  cases e with
  | var i => simp [isVar] at h
  | _ => simp only [xs, wS_st]; rfl
theorem s_retn : wS (xs Γ cal np .retn ρ) d = d.rt (.sh .non) ρ := by simp only [xs, wS]
def kRse (c : Nat) (d : Dn) (ds : List D) (ρ : Env) : Prop := d.ex c ds ρ
theorem s_rse {c : Nat} {es : Es} : wS (xs Γ cal np (.rse c es) ρ) d = wD Γ cal es ρ (kRse c d) d.ex := by
  simp only [xs, wS_st]
  rfl
def kTry (Γ : Gam) (hs : List (Nat × Option Nat × Su)) (d : Dn) : Dn := { nx := d.nx, bk := d.bk, ct := d.ct, rt := d.rt, ex := fun c fs ρ => wS (hnd Γ c fs hs ρ) d }
theorem kTry_nx {hs : List (Nat × Option Nat × Su)} : (kTry Γ hs d).nx = d.nx := rfl
theorem kTry_bk {hs : List (Nat × Option Nat × Su)} : (kTry Γ hs d).bk = d.bk := rfl
theorem kTry_ct {hs : List (Nat × Option Nat × Su)} : (kTry Γ hs d).ct = d.ct := rfl
theorem kTry_rt {hs : List (Nat × Option Nat × Su)} : (kTry Γ hs d).rt = d.rt := rfl
theorem kTry_ex {hs : List (Nat × Option Nat × Su)} {c : Nat} {fs : List D} : (kTry Γ hs d).ex c fs ρ = wS (hnd Γ c fs hs ρ) d := rfl
theorem s_try {b : Ss} {hs : List (Nat × Option Nat × Su)} : wS (xs Γ cal np (.try_ b hs) ρ) d = wS (xss Γ cal np b ρ) (kTry Γ hs d) := by
  simp only [xs]
  cases xss Γ cal np b ρ <;> rfl
theorem s_pass : wS (xs Γ cal np .pass ρ) d = d.nx ρ := by simp only [xs, wS]
theorem s_brk : wS (xs Γ cal np .brk ρ) d = d.bk ρ := by simp only [xs, wS]
theorem s_cnt : wS (xs Γ cal np .cnt ρ) d = d.ct ρ := by simp only [xs, wS]
/-! ### calls -/
def kO {α : Type} (o : Option α) (Q : α → Prop) : Prop :=
  match o with
  | some a => Q a
  | none => False
theorem kO_some {α : Type} {a : α} {Q : α → Prop} : kO (some a) Q = Q a := rfl
def kFin (reb : List Nat) (rs : List R) (Q : R → List R → Prop) (E : Nat → List D → List R → Prop) : Dn where
  nx ρ := kO (outs reb 0 rs ρ) (Q (.sh .non))
  bk _ := False
  ct _ := False
  rt r ρ := kO (outs reb 0 rs ρ) (Q r)
  ex c fs ρ := kO (outs reb 0 rs ρ) (E c fs)
variable {reb : List Nat} {rs : List R} {Q : R → List R → Prop} {E : Nat → List D → List R → Prop}
theorem kFin_nx : (kFin reb rs Q E).nx ρ = kO (outs reb 0 rs ρ) (Q (.sh .non)) := rfl
theorem kFin_bk : (kFin reb rs Q E).bk ρ = False := rfl
theorem kFin_ct : (kFin reb rs Q E).ct ρ = False := rfl
theorem kFin_rt {r : R} : (kFin reb rs Q E).rt r ρ = kO (outs reb 0 rs ρ) (Q r) := rfl
theorem kFin_ex {c : Nat} {fs : List D} : (kFin reb rs Q E).ex c fs ρ = kO (outs reb 0 rs ρ) (E c fs) := rfl
theorem w_call {n f : Nat} {fd : Fd} {rs rs' : List R} (hf : Γ.fn[f]? = some fd) (hp : prep fd.reb 0 rs = some rs') (hl : rs.length = fd.np) :
    wC (CALL Γ (n + 1) f rs) Q E = wS (xss Γ (CALL Γ n) fd.np fd.body (rs'.map some ++ List.replicate (fd.nn - fd.np) none)) (kFin fd.reb rs' Q E) := by
  rw [CALL, hf]
  simp only [hl, if_true, hp]
  unfold fini
  cases xss Γ (CALL Γ n) fd.np fd.body (rs'.map some ++ List.replicate (fd.nn - fd.np) none) with
  | rt r ρ =>
    simp only [wS, kFin]
    cases outs fd.reb 0 rs' ρ <;> rfl
  | nx ρ =>
    simp only [wS, kFin]
    cases outs fd.reb 0 rs' ρ <;> rfl
  | ex c fs ρ =>
    simp only [wS, kFin]
    cases outs fd.reb 0 rs' ρ <;> rfl
  | _ => rfl
theorem wC_ok {r : R} {fin : List R} : wC (.ok r fin) Q E = Q r fin := rfl
theorem wC_imp {x : Cr} {Q' : R → List R → Prop} {E' : Nat → List D → List R → Prop} (h : wC x Q E) (hq : ∀ r l, Q r l → Q' r l) (he : ∀ c fs l, E c fs l → E' c fs l) : wC x Q' E' := by
  cases x with
  | ok r l => exact hq _ _ h
  | ex c fs l => exact he _ _ _ h
  | no => exact h
theorem wC_get {x : Cr} (h : wC x Q fun _ _ _ => False) : ∃ r fin, x = .ok r fin ∧ Q r fin := by
  cases x with
  | ok r l => exact ⟨r, l, rfl, h⟩
  | ex c fs l => exact h.elim
  | no => exact h.elim
/-! ### loops -/
/-- for: what holds with l still to come -/
theorem wF_rule {t : Tg} {b : Ss} (I : List D → Env → Prop) (hs : ∀ x l ρ, I (x :: l) ρ → wS (stg t (.sh x) ρ) { nx := fun ρ => wS (xss Γ cal np b ρ) { nx := I l, bk := d.nx, ct := I l, rt := d.rt, ex := d.ex }, bk := fun _ => False, ct := fun _ => False, rt := fun _ _ => False, ex := fun _ _ _ => False })
    (hd : ∀ ρ, I [] ρ → d.nx ρ) : ∀ {l : List D} {ρ : Env}, I l ρ → wF Γ cal np t b l ρ d
  | [], ρ, h => hd ρ h
  | x :: l, ρ, h => by
    have q := hs x l ρ h
    show wS (forL t (xss Γ cal np b) (x :: l) ρ) d
    simp only [forL]
    cases e : stg t (.sh x) ρ with
    | nx ρ1 =>
      rw [e] at q
      simp only [wS] at q
      dsimp only
      cases e2 : xss Γ cal np b ρ1 with
      | nx ρ2 => rw [e2] at q; exact wF_rule I hs hd q
      | ct ρ2 => rw [e2] at q; exact wF_rule I hs hd q
      | bk ρ2 => rw [e2] at q; exact q
      | rt r ρ2 => rw [e2] at q; exact q
      | ex c fs ρ2 => rw [e2] at q; exact q
      | no => rw [e2] at q; exact q.elim
    | bk ρ1 => rw [e] at q; exact q.elim
    | ct ρ1 => rw [e] at q; exact q.elim
    | rt r ρ1 => rw [e] at q; exact q.elim
    | ex c fs ρ1 => rw [e] at q; exact q.elim
    | no => rw [e] at q; exact q.elim
/-- while, by a measure -/
theorem wW_rule {c : G4.E} {b : Ss} (I : Nat → Env → Prop) (hs : ∀ m ρ, I m ρ → wE (ev Γ cal c ρ) (kT fun t ρ => kI t (wS (xss Γ cal np b ρ) { nx := fun ρ => ∃ m', m' < m ∧ I m' ρ, bk := d.nx, ct := fun ρ => ∃ m', m' < m ∧ I m' ρ, rt := d.rt, ex := d.ex }) (d.nx ρ)) d.ex) :
    ∀ {k m : Nat} {ρ : Env}, m < k → I m ρ → wW Γ cal np c b k ρ d
  | 0, m, ρ, hk, h => absurd hk (Nat.not_lt_zero _)
  | k + 1, m, ρ, hk, h => by
    have q := hs m ρ h
    show wS (whL (ev Γ cal c) (xss Γ cal np b) (k + 1) ρ) d
    simp only [whL]
    have go : ∀ ρ3, (∃ m', m' < m ∧ I m' ρ3) → wS (whL (ev Γ cal c) (xss Γ cal np b) k ρ3) d := fun ρ3 ⟨m', hm, hi⟩ => wW_rule I hs (by omega) hi
    cases e : ev Γ cal c ρ with
    | ok r ρ1 =>
      rw [e] at q
      cases r with
      | sh v =>
        cases v with
        | bl t =>
          cases t with
          | true =>
            have q2 := q.1 rfl
            dsimp only
            cases e2 : xss Γ cal np b ρ1 with
            | nx ρ2 => rw [e2] at q2; exact go _ q2
            | ct ρ2 => rw [e2] at q2; exact go _ q2
            | bk ρ2 => rw [e2] at q2; exact q2
            | rt r ρ2 => rw [e2] at q2; exact q2
            | ex c fs ρ2 => rw [e2] at q2; exact q2
            | no => rw [e2] at q2; exact q2.elim
          | false => exact q.2 rfl
        | _ => exact q.elim
      | _ => exact q.elim
    | ex c fs ρ1 => rw [e] at q; exact q
    | no => rw [e] at q; exact q.elim
end
end G4

namespace G4
section
variable {Γ : Gam} {cal : Nat → List R → Cr} {ρ : Env} {np : Nat} {d : Dn} {Q : R → Env → Prop} {X : XQ}
theorem rt_cst {x : D} : wS (xs Γ cal np (.ret (.cst x)) ρ) d = wE (ev Γ cal (.cst x) ρ) d.rt d.ex := s_ret rfl
theorem lb_cst {x : D} : wB Γ cal (.cst x) ρ Q X = wE (ev Γ cal (.cst x) ρ) Q X := wB_other rfl
theorem la_cst {x : D} {es : Es} {QA : List Ag → Env → Prop} : wA Γ cal (.cons (.cst x) es) ρ QA X = wE (ev Γ cal (.cst x) ρ) (kAv (kA1 Γ cal es QA X)) X := wA_other rfl
theorem l2_cst {a : G4.E} {x : D} : wB2 Γ cal a (.cst x) ρ Q X = wB Γ cal a ρ Q X := wB2_t rfl
theorem rt_glb {x : Nat} : wS (xs Γ cal np (.ret (.glb x)) ρ) d = wE (ev Γ cal (.glb x) ρ) d.rt d.ex := s_ret rfl
theorem lb_glb {x : Nat} : wB Γ cal (.glb x) ρ Q X = wE (ev Γ cal (.glb x) ρ) Q X := wB_other rfl
theorem la_glb {x : Nat} {es : Es} {QA : List Ag → Env → Prop} : wA Γ cal (.cons (.glb x) es) ρ QA X = wE (ev Γ cal (.glb x) ρ) (kAv (kA1 Γ cal es QA X)) X := wA_other rfl
theorem l2_glb {a : G4.E} {x : Nat} : wB2 Γ cal a (.glb x) ρ Q X = wB Γ cal a ρ Q X := wB2_t rfl
theorem rt_bin {o : Bo} {x : G4.E} {y : G4.E} : wS (xs Γ cal np (.ret (.bin o x y)) ρ) d = wE (ev Γ cal (.bin o x y) ρ) d.rt d.ex := s_ret rfl
theorem lb_bin {o : Bo} {x : G4.E} {y : G4.E} : wB Γ cal (.bin o x y) ρ Q X = wE (ev Γ cal (.bin o x y) ρ) Q X := wB_other rfl
theorem la_bin {o : Bo} {x : G4.E} {y : G4.E} {es : Es} {QA : List Ag → Env → Prop} : wA Γ cal (.cons (.bin o x y) es) ρ QA X = wE (ev Γ cal (.bin o x y) ρ) (kAv (kA1 Γ cal es QA X)) X := wA_other rfl
theorem l2_bin {a : G4.E} {o : Bo} {x : G4.E} {y : G4.E} : wB2 Γ cal a (.bin o x y) ρ Q X = wE (ev Γ cal a ρ) Q X := wB2_f rfl
theorem rt_neg {x : G4.E} : wS (xs Γ cal np (.ret (.neg x)) ρ) d = wE (ev Γ cal (.neg x) ρ) d.rt d.ex := s_ret rfl
theorem lb_neg {x : G4.E} : wB Γ cal (.neg x) ρ Q X = wE (ev Γ cal (.neg x) ρ) Q X := wB_other rfl
theorem la_neg {x : G4.E} {es : Es} {QA : List Ag → Env → Prop} : wA Γ cal (.cons (.neg x) es) ρ QA X = wE (ev Γ cal (.neg x) ρ) (kAv (kA1 Γ cal es QA X)) X := wA_other rfl
theorem l2_neg {a : G4.E} {x : G4.E} : wB2 Γ cal a (.neg x) ρ Q X = wE (ev Γ cal a ρ) Q X := wB2_f rfl
theorem rt_inv {x : G4.E} : wS (xs Γ cal np (.ret (.inv x)) ρ) d = wE (ev Γ cal (.inv x) ρ) d.rt d.ex := s_ret rfl
theorem lb_inv {x : G4.E} : wB Γ cal (.inv x) ρ Q X = wE (ev Γ cal (.inv x) ρ) Q X := wB_other rfl
theorem la_inv {x : G4.E} {es : Es} {QA : List Ag → Env → Prop} : wA Γ cal (.cons (.inv x) es) ρ QA X = wE (ev Γ cal (.inv x) ρ) (kAv (kA1 Γ cal es QA X)) X := wA_other rfl
theorem l2_inv {a : G4.E} {x : G4.E} : wB2 Γ cal a (.inv x) ρ Q X = wE (ev Γ cal a ρ) Q X := wB2_f rfl
theorem rt_no {x : G4.E} : wS (xs Γ cal np (.ret (.no x)) ρ) d = wE (ev Γ cal (.no x) ρ) d.rt d.ex := s_ret rfl
theorem lb_no {x : G4.E} : wB Γ cal (.no x) ρ Q X = wE (ev Γ cal (.no x) ρ) Q X := wB_other rfl
theorem la_no {x : G4.E} {es : Es} {QA : List Ag → Env → Prop} : wA Γ cal (.cons (.no x) es) ρ QA X = wE (ev Γ cal (.no x) ρ) (kAv (kA1 Γ cal es QA X)) X := wA_other rfl
theorem l2_no {a : G4.E} {x : G4.E} : wB2 Γ cal a (.no x) ρ Q X = wE (ev Γ cal a ρ) Q X := wB2_f rfl
theorem rt_cmp {o : Co} {x : G4.E} {y : G4.E} : wS (xs Γ cal np (.ret (.cmp o x y)) ρ) d = wE (ev Γ cal (.cmp o x y) ρ) d.rt d.ex := s_ret rfl
theorem lb_cmp {o : Co} {x : G4.E} {y : G4.E} : wB Γ cal (.cmp o x y) ρ Q X = wE (ev Γ cal (.cmp o x y) ρ) Q X := wB_other rfl
theorem la_cmp {o : Co} {x : G4.E} {y : G4.E} {es : Es} {QA : List Ag → Env → Prop} : wA Γ cal (.cons (.cmp o x y) es) ρ QA X = wE (ev Γ cal (.cmp o x y) ρ) (kAv (kA1 Γ cal es QA X)) X := wA_other rfl
theorem l2_cmp {a : G4.E} {o : Co} {x : G4.E} {y : G4.E} : wB2 Γ cal a (.cmp o x y) ρ Q X = wE (ev Γ cal a ρ) Q X := wB2_f rfl
theorem rt_cm2 {o : Co} {p : Co} {x : G4.E} {y : G4.E} {z : G4.E} : wS (xs Γ cal np (.ret (.cm2 o p x y z)) ρ) d = wE (ev Γ cal (.cm2 o p x y z) ρ) d.rt d.ex := s_ret rfl
theorem lb_cm2 {o : Co} {p : Co} {x : G4.E} {y : G4.E} {z : G4.E} : wB Γ cal (.cm2 o p x y z) ρ Q X = wE (ev Γ cal (.cm2 o p x y z) ρ) Q X := wB_other rfl
theorem la_cm2 {o : Co} {p : Co} {x : G4.E} {y : G4.E} {z : G4.E} {es : Es} {QA : List Ag → Env → Prop} : wA Γ cal (.cons (.cm2 o p x y z) es) ρ QA X = wE (ev Γ cal (.cm2 o p x y z) ρ) (kAv (kA1 Γ cal es QA X)) X := wA_other rfl
theorem l2_cm2 {a : G4.E} {o : Co} {p : Co} {x : G4.E} {y : G4.E} {z : G4.E} : wB2 Γ cal a (.cm2 o p x y z) ρ Q X = wE (ev Γ cal a ρ) Q X := wB2_f rfl
theorem rt_and {x : G4.E} {y : G4.E} : wS (xs Γ cal np (.ret (.and x y)) ρ) d = wE (ev Γ cal (.and x y) ρ) d.rt d.ex := s_ret rfl
theorem lb_and {x : G4.E} {y : G4.E} : wB Γ cal (.and x y) ρ Q X = wE (ev Γ cal (.and x y) ρ) Q X := wB_other rfl
theorem la_and {x : G4.E} {y : G4.E} {es : Es} {QA : List Ag → Env → Prop} : wA Γ cal (.cons (.and x y) es) ρ QA X = wE (ev Γ cal (.and x y) ρ) (kAv (kA1 Γ cal es QA X)) X := wA_other rfl
theorem l2_and {a : G4.E} {x : G4.E} {y : G4.E} : wB2 Γ cal a (.and x y) ρ Q X = wE (ev Γ cal a ρ) Q X := wB2_f rfl
theorem rt_or {x : G4.E} {y : G4.E} : wS (xs Γ cal np (.ret (.or x y)) ρ) d = wE (ev Γ cal (.or x y) ρ) d.rt d.ex := s_ret rfl
theorem lb_or {x : G4.E} {y : G4.E} : wB Γ cal (.or x y) ρ Q X = wE (ev Γ cal (.or x y) ρ) Q X := wB_other rfl
theorem la_or {x : G4.E} {y : G4.E} {es : Es} {QA : List Ag → Env → Prop} : wA Γ cal (.cons (.or x y) es) ρ QA X = wE (ev Γ cal (.or x y) ρ) (kAv (kA1 Γ cal es QA X)) X := wA_other rfl
theorem l2_or {a : G4.E} {x : G4.E} {y : G4.E} : wB2 Γ cal a (.or x y) ρ Q X = wE (ev Γ cal a ρ) Q X := wB2_f rfl
theorem rt_ite {x : G4.E} {y : G4.E} {z : G4.E} : wS (xs Γ cal np (.ret (.ite x y z)) ρ) d = wE (ev Γ cal (.ite x y z) ρ) d.rt d.ex := s_ret rfl
theorem lb_ite {x : G4.E} {y : G4.E} {z : G4.E} : wB Γ cal (.ite x y z) ρ Q X = wE (ev Γ cal (.ite x y z) ρ) Q X := wB_other rfl
theorem la_ite {x : G4.E} {y : G4.E} {z : G4.E} {es : Es} {QA : List Ag → Env → Prop} : wA Γ cal (.cons (.ite x y z) es) ρ QA X = wE (ev Γ cal (.ite x y z) ρ) (kAv (kA1 Γ cal es QA X)) X := wA_other rfl
theorem l2_ite {a : G4.E} {x : G4.E} {y : G4.E} {z : G4.E} : wB2 Γ cal a (.ite x y z) ρ Q X = wE (ev Γ cal a ρ) Q X := wB2_f rfl
theorem rt_tup {us : Es} : wS (xs Γ cal np (.ret (.tup us)) ρ) d = wE (ev Γ cal (.tup us) ρ) d.rt d.ex := s_ret rfl
theorem lb_tup {us : Es} : wB Γ cal (.tup us) ρ Q X = wE (ev Γ cal (.tup us) ρ) Q X := wB_other rfl
theorem la_tup {us : Es} {es : Es} {QA : List Ag → Env → Prop} : wA Γ cal (.cons (.tup us) es) ρ QA X = wE (ev Γ cal (.tup us) ρ) (kAv (kA1 Γ cal es QA X)) X := wA_other rfl
theorem l2_tup {a : G4.E} {us : Es} : wB2 Γ cal a (.tup us) ρ Q X = wE (ev Γ cal a ρ) Q X := wB2_f rfl
theorem rt_lst {us : Es} : wS (xs Γ cal np (.ret (.lst us)) ρ) d = wE (ev Γ cal (.lst us) ρ) d.rt d.ex := s_ret rfl
theorem lb_lst {us : Es} : wB Γ cal (.lst us) ρ Q X = wE (ev Γ cal (.lst us) ρ) Q X := wB_other rfl
theorem la_lst {us : Es} {es : Es} {QA : List Ag → Env → Prop} : wA Γ cal (.cons (.lst us) es) ρ QA X = wE (ev Γ cal (.lst us) ρ) (kAv (kA1 Γ cal es QA X)) X := wA_other rfl
theorem rt_dc0  : wS (xs Γ cal np (.ret .dc0) ρ) d = wE (ev Γ cal .dc0 ρ) d.rt d.ex := s_ret rfl
theorem lb_dc0  : wB Γ cal .dc0 ρ Q X = wE (ev Γ cal .dc0 ρ) Q X := wB_other rfl
theorem la_dc0  {es : Es} {QA : List Ag → Env → Prop} : wA Γ cal (.cons .dc0 es) ρ QA X = wE (ev Γ cal .dc0 ρ) (kAv (kA1 Γ cal es QA X)) X := wA_other rfl
theorem l2_dc0 {a : G4.E}  : wB2 Γ cal a .dc0 ρ Q X = wE (ev Γ cal a ρ) Q X := wB2_f rfl
theorem rt_ix {x : G4.E} {y : G4.E} : wS (xs Γ cal np (.ret (.ix x y)) ρ) d = wE (ev Γ cal (.ix x y) ρ) d.rt d.ex := s_ret rfl
theorem lb_ix {x : G4.E} {y : G4.E} : wB Γ cal (.ix x y) ρ Q X = wE (ev Γ cal (.ix x y) ρ) Q X := wB_other rfl
theorem la_ix {x : G4.E} {y : G4.E} {es : Es} {QA : List Ag → Env → Prop} : wA Γ cal (.cons (.ix x y) es) ρ QA X = wE (ev Γ cal (.ix x y) ρ) (kAv (kA1 Γ cal es QA X)) X := wA_other rfl
theorem l2_ix {a : G4.E} {x : G4.E} {y : G4.E} : wB2 Γ cal a (.ix x y) ρ Q X = wE (ev Γ cal a ρ) Q X := wB2_f rfl
theorem rt_ixd {us : Es} {y : G4.E} : wS (xs Γ cal np (.ret (.ixd us y)) ρ) d = wE (ev Γ cal (.ixd us y) ρ) d.rt d.ex := s_ret rfl
theorem lb_ixd {us : Es} {y : G4.E} : wB Γ cal (.ixd us y) ρ Q X = wE (ev Γ cal (.ixd us y) ρ) Q X := wB_other rfl
theorem la_ixd {us : Es} {y : G4.E} {es : Es} {QA : List Ag → Env → Prop} : wA Γ cal (.cons (.ixd us y) es) ρ QA X = wE (ev Γ cal (.ixd us y) ρ) (kAv (kA1 Γ cal es QA X)) X := wA_other rfl
theorem l2_ixd {a : G4.E} {us : Es} {y : G4.E} : wB2 Γ cal a (.ixd us y) ρ Q X = wE (ev Γ cal a ρ) Q X := wB2_f rfl
theorem rt_att {x : G4.E} {f : Nat} : wS (xs Γ cal np (.ret (.att x f)) ρ) d = wE (ev Γ cal (.att x f) ρ) d.rt d.ex := s_ret rfl
theorem lb_att {x : G4.E} {f : Nat} : wB Γ cal (.att x f) ρ Q X = wE (ev Γ cal (.att x f) ρ) Q X := wB_other rfl
theorem la_att {x : G4.E} {f : Nat} {es : Es} {QA : List Ag → Env → Prop} : wA Γ cal (.cons (.att x f) es) ρ QA X = wE (ev Γ cal (.att x f) ρ) (kAv (kA1 Γ cal es QA X)) X := wA_other rfl
theorem l2_att {a : G4.E} {x : G4.E} {f : Nat} : wB2 Γ cal a (.att x f) ρ Q X = wE (ev Γ cal a ρ) Q X := wB2_f rfl
theorem rt_cal {f : Nat} {us : Es} : wS (xs Γ cal np (.ret (.cal f us)) ρ) d = wE (ev Γ cal (.cal f us) ρ) d.rt d.ex := s_ret rfl
theorem lb_cal {f : Nat} {us : Es} : wB Γ cal (.cal f us) ρ Q X = wE (ev Γ cal (.cal f us) ρ) Q X := wB_other rfl
theorem la_cal {f : Nat} {us : Es} {es : Es} {QA : List Ag → Env → Prop} : wA Γ cal (.cons (.cal f us) es) ρ QA X = wE (ev Γ cal (.cal f us) ρ) (kAv (kA1 Γ cal es QA X)) X := wA_other rfl
theorem l2_cal {a : G4.E} {f : Nat} {us : Es} : wB2 Γ cal a (.cal f us) ρ Q X = wE (ev Γ cal a ρ) Q X := wB2_f rfl
theorem rt_calk {f : Nat} {us : Es} {ys : Es} {p : List Nat} : wS (xs Γ cal np (.ret (.calk f us ys p)) ρ) d = wE (ev Γ cal (.calk f us ys p) ρ) d.rt d.ex := s_ret rfl
theorem lb_calk {f : Nat} {us : Es} {ys : Es} {p : List Nat} : wB Γ cal (.calk f us ys p) ρ Q X = wE (ev Γ cal (.calk f us ys p) ρ) Q X := wB_other rfl
theorem la_calk {f : Nat} {us : Es} {ys : Es} {p : List Nat} {es : Es} {QA : List Ag → Env → Prop} : wA Γ cal (.cons (.calk f us ys p) es) ρ QA X = wE (ev Γ cal (.calk f us ys p) ρ) (kAv (kA1 Γ cal es QA X)) X := wA_other rfl
theorem l2_calk {a : G4.E} {f : Nat} {us : Es} {ys : Es} {p : List Nat} : wB2 Γ cal a (.calk f us ys p) ρ Q X = wE (ev Γ cal a ρ) Q X := wB2_f rfl
theorem rt_blt {f : Bf} {us : Es} : wS (xs Γ cal np (.ret (.blt f us)) ρ) d = wE (ev Γ cal (.blt f us) ρ) d.rt d.ex := s_ret rfl
theorem lb_blt {f : Bf} {us : Es} : wB Γ cal (.blt f us) ρ Q X = wE (ev Γ cal (.blt f us) ρ) Q X := wB_other rfl
theorem la_blt {f : Bf} {us : Es} {es : Es} {QA : List Ag → Env → Prop} : wA Γ cal (.cons (.blt f us) es) ρ QA X = wE (ev Γ cal (.blt f us) ρ) (kAv (kA1 Γ cal es QA X)) X := wA_other rfl
theorem l2_blt {a : G4.E} {f : Bf} {us : Es} : wB2 Γ cal a (.blt f us) ρ Q X = wE (ev Γ cal a ρ) Q X := wB2_f rfl
theorem rt_isi {x : G4.E} {c : Ty} : wS (xs Γ cal np (.ret (.isi x c)) ρ) d = wE (ev Γ cal (.isi x c) ρ) d.rt d.ex := s_ret rfl
theorem lb_isi {x : G4.E} {c : Ty} : wB Γ cal (.isi x c) ρ Q X = wE (ev Γ cal (.isi x c) ρ) Q X := wB_other rfl
theorem la_isi {x : G4.E} {c : Ty} {es : Es} {QA : List Ag → Env → Prop} : wA Γ cal (.cons (.isi x c) es) ρ QA X = wE (ev Γ cal (.isi x c) ρ) (kAv (kA1 Γ cal es QA X)) X := wA_other rfl
theorem l2_isi {a : G4.E} {x : G4.E} {c : Ty} : wB2 Γ cal a (.isi x c) ρ Q X = wE (ev Γ cal a ρ) Q X := wB2_f rfl
theorem l2_var {a : G4.E} {i : Nat} : wB2 Γ cal a (.var i) ρ Q X = wB Γ cal a ρ Q X := wB2_t rfl
theorem l2_ln {a : G4.E} : wB2 Γ cal a (.lst .nil) ρ Q X = wB Γ cal a ρ Q X := wB2_t rfl
theorem l2_lc {a e : G4.E} {es : Es} : wB2 Γ cal a (.lst (.cons e es)) ρ Q X = wE (ev Γ cal a ρ) Q X := wB2_f rfl
end
section
variable {α β : Type} {ρ : Env} {Q : α → Env → Prop}
theorem kT_bl {P : Bool → Env → Prop} {b : Bool} : kT P (.sh (.bl b)) ρ = P b ρ := rfl
theorem kR_if {c : Prop} [Decidable c] {z : α} : kR (if c then some z else none) Q ρ = (c ∧ Q z ρ) := by
  by_cases h : c <;> simp [kR, h]
theorem kNeg_int {Q : R → Env → Prop} {i : Int} : kNeg Q (.sh (.int i)) ρ = Q (.sh (.int (-i))) ρ := rfl
theorem kX2_int {rs : List R} {Q : R → Env → Prop} {i : Int} : kX2 rs Q (.sh (.int i)) ρ = kR (atD rs i) Q ρ := rfl
theorem at0 {a : α} {l : List α} : atD (a :: l) 0 = some a := by
  unfold atD pyIx
  rw [if_pos (by omega), if_pos (by simp only [List.length_cons]; omega)]; rfl
theorem at1 {a b : α} {l : List α} : atD (a :: b :: l) 1 = some b := by
  unfold atD pyIx
  rw [if_pos (by omega), if_pos (by simp only [List.length_cons]; omega)]; rfl
theorem at2 {a b c : α} {l : List α} : atD (a :: b :: c :: l) 2 = some c := by
  unfold atD pyIx
  rw [if_pos (by omega), if_pos (by simp only [List.length_cons]; omega)]; rfl
theorem at_nat {l : List α} {i : Int} (h0 : 0 ≤ i) (h1 : i < l.length) : ∃ a, atD l i = some a ∧ l[i.toNat]? = some a := by
  have hn : i.toNat < l.length := by omega
  refine ⟨l[i.toNat], ?_, List.getElem?_eq_getElem hn⟩
  unfold atD pyIx
  rw [if_pos h0, if_pos h1]
  exact List.getElem?_eq_getElem hn
theorem eqD_int {i j : Int} : eqD (.int i) (.int j) = some (decide (i = j)) := by
  show some (i == j) = _
  congr 1
theorem fst_pair {a b : α} : (a, b).1 = a := rfl
theorem snd_pair {a b : α} : (a, b).2 = b := rfl
theorem mul_ok {i j : Int} (h1 : -(2 : Int) ^ 200 < i) (h2 : i < (2 : Int) ^ 200) (h3 : -(2 : Int) ^ 200 < j) (h4 : j < (2 : Int) ^ 200) : mulOk i j = true := by
  have key : ∀ x : Int, -(2 : Int) ^ 200 < x → x < (2 : Int) ^ 200 → x.natAbs.log2 < 200 := fun x a b => by
    by_cases hx : x.natAbs = 0
    · rw [hx]; decide
    · rw [Nat.log2_lt hx]
      have : ((x.natAbs : Nat) : Int) < ((2 ^ 200 : Nat) : Int) := by
        have e : (((2 ^ 200 : Nat) : Int)) = (2 : Int) ^ 200 := by norm_cast
        omega
      exact_mod_cast this
  unfold mulOk
  have := key i h1 h2
  have := key j h3 h4
  exact decide_eq_true (by omega)
theorem set0 {x d : D} {l : List D} : setR (.ol (x :: l)) (.int 0) d = some (.ol (d :: l)) := by
  have h : pyIx (x :: l).length 0 = some 0 := by
    unfold pyIx
    rw [if_pos (by omega), if_pos (by simp only [List.length_cons]; omega)]; rfl
  simp only [setR, h, List.set_cons_zero]
theorem set1 {x y d : D} {l : List D} : setR (.ol (x :: y :: l)) (.int 1) d = some (.ol (x :: d :: l)) := by
  have h : pyIx (x :: y :: l).length 1 = some 1 := by
    unfold pyIx
    rw [if_pos (by omega), if_pos (by simp only [List.length_cons]; omega)]; rfl
  simp only [setR, h, List.set_cons_zero, List.set_cons_succ]
theorem set2 {x y z d : D} {l : List D} : setR (.ol (x :: y :: z :: l)) (.int 2) d = some (.ol (x :: y :: d :: l)) := by
  have h : pyIx (x :: y :: z :: l).length 2 = some 2 := by
    unfold pyIx
    rw [if_pos (by omega), if_pos (by simp only [List.length_cons]; omega)]; rfl
  simp only [setR, h, List.set_cons_zero, List.set_cons_succ]
theorem kR_at {l : List α} {i : Int} (h0 : 0 ≤ i) (h1 : i < l.length) (h : ∀ z, z ∈ l → Q z ρ) : kR (atD l i) Q ρ := by
  obtain ⟨a, e, e2⟩ := at_nat h0 h1
  rw [e]
  exact h a (List.mem_of_getElem? e2)
theorem kR_atR {l : List D} {i : Int} {Q : R → Env → Prop} (h0 : 0 ≤ i) (h1 : i < l.length) (h : ∀ z, z ∈ l → Q (.sh z) ρ) : kR ((atD l i).map .sh) Q ρ := by
  obtain ⟨a, e, e2⟩ := at_nat h0 h1
  rw [e]
  exact h a (List.mem_of_getElem? e2)
theorem wC_eq {x : Cr} {r : R} {l : List R} (h : wC x (fun a b => a = r ∧ b = l) (fun _ _ _ => False)) : x = .ok r l := by
  obtain ⟨a, b, e, rfl, rfl⟩ := wC_get h
  exact e
theorem wC_of {x : Cr} {r : R} {l : List R} {Q : R → List R → Prop} {E : Nat → List D → List R → Prop} (h : x = .ok r l) : wC x Q E = Q r l := by rw [h]; rfl
theorem LIM_big : 2 ^ 200 ≤ LIM := Nat.pow_le_pow_right (by decide) (by decide)
theorem kI_both {b : Bool} {P P' : Prop} (h1 : b = true → P) (h2 : b = false → P') : kI b P P' := ⟨h1, h2⟩
theorem div_ok {j : Int} (h1 : 0 < j) (h2 : j < 2 ^ 200) : divOk j = true := by
  unfold divOk
  have : j.natAbs.log2 < 200 := by
    rw [Nat.log2_lt (by omega)]
    have e : (((2 ^ 200 : Nat) : Int)) = (2 : Int) ^ 200 := by norm_cast
    have : ((j.natAbs : Nat) : Int) < ((2 ^ 200 : Nat) : Int) := by omega
    exact_mod_cast this
  simp only [Bool.and_eq_true, decide_eq_true_eq]
  omega
end
end G4

/-! What can be shown by str; equality of what is the same. -/
namespace G4
open PySem (PyData)
def okS (k b : Nat) (d : D) : Prop := ∃ a, toP d = some a ∧ a.showable = true ∧ a.depth ≤ k ∧ bnd d ≤ b
theorem okS.mono {k b k' b' : Nat} {d : D} (h : okS k b d) (h1 : k ≤ k') (h2 : b ≤ b') : okS k' b' d := by
  obtain ⟨a, e, s, q, r⟩ := h
  exact ⟨a, e, s, Nat.le_trans q h1, Nat.le_trans r h2⟩
theorem okS_int {i : Int} (h1 : -(2 : Int) ^ 200 < i) (h2 : i < (2 : Int) ^ 200) : okS 0 2000 (.int i) := by
  refine ⟨_, rfl, ?_, Nat.le_refl _, Nat.le_refl _⟩
  show decide (i.natAbs.log2 < 1920) = true
  by_cases hx : i.natAbs = 0
  · rw [hx]; decide
  · have : i.natAbs.log2 < 200 := by
      rw [Nat.log2_lt hx]
      have e : (((2 ^ 200 : Nat) : Int)) = (2 : Int) ^ 200 := by norm_cast
      have : ((i.natAbs : Nat) : Int) < ((2 ^ 200 : Nat) : Int) := by omega
      exact_mod_cast this
    exact decide_eq_true (by omega)
theorem okS_list {k b : Nat} : ∀ {l : List D}, (∀ d ∈ l, okS k b d) → ∃ as, toPs l = some as ∧ PyData.showableAll as = true ∧ PyData.depthAll as ≤ k ∧ bnds l ≤ l.length * (b + 10)
  | [], _ => ⟨[], rfl, rfl, Nat.zero_le _, Nat.zero_le _⟩
  | d :: l, h => by
    obtain ⟨a, e, s, q, r⟩ := h d List.mem_cons_self
    obtain ⟨as, e2, s2, q2, r2⟩ := okS_list fun d hd => h d (List.mem_cons_of_mem _ hd)
    refine ⟨a :: as, by simp only [toPs, e, e2], ?_, ?_, ?_⟩
    · show (a.showable && PyData.showableAll as) = true
      rw [s, s2]; rfl
    · show max a.depth (PyData.depthAll as) ≤ k
      exact Nat.max_le.mpr ⟨q, q2⟩
    · show bnd d + bnds l + 10 ≤ (l.length + 1) * (b + 10)
      rw [Nat.add_mul]
      omega
theorem okS_lst {k b : Nat} {l : List D} (h : ∀ d ∈ l, okS k b d) : okS (k + 1) (l.length * (b + 10) + 10) (.lst l) := by
  obtain ⟨as, e, s, q, r⟩ := okS_list h
  exact ⟨.list as, by simp only [toP, e], s, Nat.succ_le_succ q, Nat.add_le_add_right r 10⟩
theorem okS_tup {k b : Nat} {l : List D} (h : ∀ d ∈ l, okS k b d) : okS (k + 1) (l.length * (b + 10) + 10) (.tup l) := by
  obtain ⟨as, e, s, q, r⟩ := okS_list h
  exact ⟨.tuple as, by simp only [toP, e], s, Nat.succ_le_succ q, Nat.add_le_add_right r 10⟩
theorem shw_some {k b : Nat} {l : List D} (h : okS k b (.lst l)) (hk : k ≤ 60) (hb : b ≤ LEN) : ∃ x, shwD (.lst l) = some x := by
  obtain ⟨a, e, s, q, r⟩ := h
  refine ⟨a.shown.cps.toList, ?_⟩
  simp only [shwD, e, s]
  rw [if_pos]
  simp only [Bool.true_and, Bool.and_eq_true, decide_eq_true_eq]
  exact ⟨Nat.le_trans q hk, Nat.le_trans r hb⟩
theorem eqD_str {x y : List Nat} : eqD (.str x) (.str y) = some (x == y) := rfl
theorem eqD_ii {a b c d : Int} : eqD (.tup [.int a, .int b]) (.tup [.int c, .int d]) = some (a == c && (b == d && true)) := rfl
theorem eqD_ltii {a b c d : Int} : eqD (.lst [.tup [.int a, .int b]]) (.lst [.tup [.int c, .int d]]) = some ((a == c && (b == d && true)) && true) := rfl
def bTx (t : Bool) : List Nat := if t then [84, 114, 117, 101] else [70, 97, 108, 115, 101]
theorem shw_bl (t : Bool) : shwD (.bl t) = some (bTx t) := by cases t <;> decide +kernel
end G4

namespace G4
abbrev F_is_integer : Nat := 0
abbrev F_common_divisor : Nat := 1
abbrev F_lowest : Nat := 2
abbrev F_is_degree : Nat := 3
abbrev F_require_degree : Nat := 4
abbrev F_degree : Nat := 5
abbrev F_less : Nat := 6
abbrev F_at_most : Nat := 7
abbrev F__law_mixed : Nat := 8
abbrev F__law_purse : Nat := 9
abbrev F__law_draw : Nat := 10
abbrev F__law_great : Nat := 11
abbrev F__law_common : Nat := 12
abbrev F__law_lowest : Nat := 13
abbrev F__law_degree : Nat := 14
abbrev F__law_less : Nat := 15
abbrev F__law_caught : Nat := 16
abbrev F__law_right : Nat := 17
abbrev F_law : Nat := 18
abbrev X_GradeError : Nat := 0
abbrev X_InvalidDegree : Nat := 1
def b_is_integer : Ss :=
 (.cons (.ret (.and (.isi (.var 0) .int) (.no (.isi (.var 0) .bool))))
 .nil)
def f_is_integer : Fd := ⟨1, 1, [], [], b_is_integer⟩
def b_common_divisor : Ss :=
 (.cons (.whl (.cmp .ne (.var 1) (.cst (.int 0))) (.cons (.par [0, 1] (.cons (.var 1) (.cons (.bin .mod (.var 0) (.var 1)) .nil)))
 .nil))
 (.cons (.ret (.var 0))
 .nil))
def f_common_divisor : Fd := ⟨2, 2, [0, 1], [], b_common_divisor⟩
def b_lowest : Ss :=
 (.cons (.asg (.nm 2) (.cal F_common_divisor (.cons (.blt .abs (.cons (.var 0) .nil)) (.cons (.var 1) .nil))))
 (.cons (.ret (.tup (.cons (.bin .fdiv (.var 0) (.var 2)) (.cons (.bin .fdiv (.var 1) (.var 2)) .nil))))
 .nil))
def f_lowest : Fd := ⟨2, 3, [], [], b_lowest⟩
def b_is_degree : Ss :=
 (.cons (.iff (.or (.no (.isi (.var 0) .tup)) (.or (.cmp .ne (.blt .len (.cons (.var 0) .nil)) (.cst (.int 2))) (.or (.no (.cal F_is_integer (.cons (.ix (.var 0) (.cst (.int 0))) .nil))) (.no (.cal F_is_integer (.cons (.ix (.var 0) (.cst (.int 1))) .nil)))))) (.cons (.ret (.cst (.bl false)))
 .nil) .nil)
 (.cons (.ret (.and (.cm2 .le .le (.cst (.int 0)) (.ix (.var 0) (.cst (.int 0))) (.ix (.var 0) (.cst (.int 1)))) (.and (.cmp .gt (.ix (.var 0) (.cst (.int 1))) (.cst (.int 0))) (.cmp .eq (.cal F_common_divisor (.cons (.ix (.var 0) (.cst (.int 0))) (.cons (.ix (.var 0) (.cst (.int 1))) .nil))) (.cst (.int 1))))))
 .nil))
def f_is_degree : Fd := ⟨1, 1, [], [], b_is_degree⟩
def b_require_degree : Ss :=
 (.cons (.iff (.no (.cal F_is_degree (.cons (.var 0) .nil))) (.cons (.rse X_InvalidDegree (.cons (.var 0) .nil))
 .nil) .nil)
 .nil)
def f_require_degree : Fd := ⟨1, 1, [], [], b_require_degree⟩
def b_degree : Ss :=
 (.cons (.iff (.or (.no (.cal F_is_integer (.cons (.var 0) .nil))) (.cmp .lt (.var 0) (.cst (.int 0)))) (.cons (.rse X_InvalidDegree (.cons (.var 0) .nil))
 .nil) .nil)
 (.cons (.iff (.or (.no (.cal F_is_integer (.cons (.var 1) .nil))) (.cmp .lt (.var 1) (.cst (.int 1)))) (.cons (.rse X_InvalidDegree (.cons (.var 1) .nil))
 .nil) .nil)
 (.cons (.iff (.cmp .gt (.var 0) (.var 1)) (.cons (.rse X_InvalidDegree (.cons (.tup (.cons (.var 0) (.cons (.var 1) .nil))) .nil))
 .nil) .nil)
 (.cons (.ret (.cal F_lowest (.cons (.var 0) (.cons (.var 1) .nil))))
 .nil))))
def f_degree : Fd := ⟨2, 2, [], [], b_degree⟩
def b_less : Ss :=
 (.cons (.ret (.cmp .lt (.bin .mul (.ix (.var 0) (.cst (.int 0))) (.ix (.var 1) (.cst (.int 1)))) (.bin .mul (.ix (.var 1) (.cst (.int 0))) (.ix (.var 0) (.cst (.int 1))))))
 .nil)
def f_less : Fd := ⟨2, 2, [], [], b_less⟩
def b_at_most : Ss :=
 (.cons (.ex (.cal F_require_degree (.cons (.var 0) .nil)))
 (.cons (.ex (.cal F_require_degree (.cons (.var 1) .nil)))
 (.cons (.ret (.no (.cal F_less (.cons (.var 1) (.cons (.var 0) .nil)))))
 .nil)))
def f_at_most : Fd := ⟨2, 2, [], [], b_at_most⟩
def b__law_mixed : Ss :=
 (.cons (.asg (.nm 2) (.bin .mod (.blt .int (.cons (.bin .add (.bin .add (.bin .add (.bin .mul (.var 0) (.cst (.int 2654435761))) (.bin .mul (.bin .mul (.cst (.int 40503)) (.var 1)) (.var 1))) (.bin .mul (.cst (.int 97)) (.var 1))) (.cst (.int 13))) .nil)) (.cst (.int 2147483647))))
 (.cons (.ret (.bin .fdiv (.bin .mod (.blt .int (.cons (.bin .add (.bin .add (.bin .mul (.var 2) (.var 2)) (.bin .mul (.cst (.int 7)) (.var 2))) (.cst (.int 11))) .nil)) (.cst (.int 2147483629))) (.cst (.int 3))))
 .nil))
def f__law_mixed : Fd := ⟨2, 3, [], [], b__law_mixed⟩
def b__law_purse : Ss :=
 (.cons (.asg (.nm 2) (.cst (.int 0)))
 (.cons (.iff (.cmp .lt (.var 1) (.blt .len (.cons (.var 0) .nil))) (.cons (.asg (.nm 2) (.ix (.var 0) (.var 1)))
 .nil) .nil)
 (.cons (.ret (.lst (.cons (.bin .mod (.blt .int (.cons (.blt .max (.cons (.bin .sub (.var 2) (.bin .pow (.cst (.int 10)) (.cst (.int 18)))) (.cons (.cst (.int 0)) .nil))) .nil)) (.bin .pow (.bin .pow (.cst (.int 10)) (.cst (.int 60))) (.cst (.int 8)))) (.cons (.bin .mod (.blt .int (.cons (.var 2) .nil)) (.cst (.int 2147483647))) (.cons (.bin .mul (.cst (.int 1000)) (.var 1)) .nil)))))
 .nil)))
def f__law_purse : Fd := ⟨2, 3, [], [], b__law_purse⟩
def b__law_draw : Ss :=
 (.cons (.iff (.cmp .gt (.ix (.var 0) (.cst (.int 0))) (.cst (.int 0))) (.cons (.asg (.nm 2) (.bin .mod (.blt .int (.cons (.ix (.var 0) (.cst (.int 0))) .nil)) (.var 1)))
 (.cons (.sidx 0 (.cst (.int 0)) (.bin .fdiv (.ix (.var 0) (.cst (.int 0))) (.var 1)))
 (.cons (.ret (.var 2))
 .nil))) .nil)
 (.cons (.sidx 0 (.cst (.int 2)) (.bin .add (.ix (.var 0) (.cst (.int 2))) (.cst (.int 1))))
 (.cons (.ret (.bin .mod (.blt .int (.cons (.cal F__law_mixed (.cons (.ix (.var 0) (.cst (.int 1))) (.cons (.ix (.var 0) (.cst (.int 2))) .nil))) .nil)) (.var 1)))
 .nil)))
def f__law_draw : Fd := ⟨2, 3, [], [], b__law_draw⟩
def b__law_great : Ss :=
 (.cons (.asg (.nm 2) (.cst (.int 0)))
 (.cons (.fr (.nm 3) (.rng (.cons (.var 1) .nil)) (.cons (.asg (.nm 2) (.bin .add (.bin .mul (.cst (.int 10)) (.var 2)) (.cal F__law_draw (.cons (.var 0) (.cons (.cst (.int 10)) .nil)))))
 .nil))
 (.cons (.ret (.var 2))
 .nil)))
def f__law_great : Fd := ⟨2, 4, [], [], b__law_great⟩
def b__law_common : Ss :=
 (.cons (.whl (.cmp .ne (.var 1) (.cst (.int 0))) (.cons (.par [0, 1] (.cons (.var 1) (.cons (.bin .mod (.var 0) (.var 1)) .nil)))
 .nil))
 (.cons (.ret (.var 0))
 .nil))
def f__law_common : Fd := ⟨2, 2, [0, 1], [], b__law_common⟩
def b__law_lowest : Ss :=
 (.cons (.asg (.nm 2) (.cal F__law_common (.cons (.blt .abs (.cons (.blt .int (.cons (.var 0) .nil)) .nil)) (.cons (.blt .int (.cons (.var 1) .nil)) .nil))))
 (.cons (.ret (.tup (.cons (.bin .fdiv (.var 0) (.var 2)) (.cons (.bin .fdiv (.var 1) (.var 2)) .nil))))
 .nil))
def f__law_lowest : Fd := ⟨2, 3, [], [], b__law_lowest⟩
def b__law_degree : Ss :=
 (.cons (.asg (.nm 1) (.ixd (.cons (.cst (.int 1)) (.cons (.cst (.int 2)) (.cons (.cst (.int 3)) (.cons (.cst (.int 4)) (.cons (.cst (.int 5)) (.cons (.cst (.int 6)) (.cons (.cst (.int 8)) (.cons (.cst (.int 12)) (.cons (.bin .pow (.cst (.int 10)) (.cst (.int 11))) .nil))))))))) (.cal F__law_draw (.cons (.var 0) (.cons (.cst (.int 9)) .nil)))))
 (.cons (.ret (.cal F__law_lowest (.cons (.cal F__law_draw (.cons (.var 0) (.cons (.bin .add (.var 1) (.cst (.int 1))) .nil))) (.cons (.var 1) .nil))))
 .nil))
def f__law_degree : Fd := ⟨1, 2, [], [], b__law_degree⟩
def b__law_less : Ss :=
 (.cons (.ret (.cmp .lt (.bin .mul (.ix (.var 0) (.cst (.int 0))) (.ix (.var 1) (.cst (.int 1)))) (.bin .mul (.ix (.var 1) (.cst (.int 0))) (.ix (.var 0) (.cst (.int 1))))))
 .nil)
def f__law_less : Fd := ⟨2, 2, [], [], b__law_less⟩
def b__law_caught : Ss :=
 (.cons (.asg (.nm 3) (.cst .non))
 (.cons (.try_ (.cons (.iff (.cmp .eq (.var 0) (.cst (.int 0))) (.cons (.ex (.cal F_degree (.cons (.var 1) (.cons (.var 2) .nil))))
 .nil) (.cons (.ex (.cal F_at_most (.cons (.var 1) (.cons (.var 2) .nil))))
 .nil))
 .nil) [(X_InvalidDegree, some 4, (.lst 3 [.inr 0])), (X_GradeError, none, (.lst 3 [.inl (.str [111, 116, 104, 101, 114])]))])
 (.cons (.ret (.var 3))
 .nil)))
def f__law_caught : Fd := ⟨3, 5, [], [], b__law_caught⟩
def b__law_right : Ss :=
 (.cons (.asg (.nm 1) (.bin .add (.cst (.int 1)) (.ixd (.cons (.cal F__law_draw (.cons (.var 0) (.cons (.cst (.int 30)) .nil))) (.cons (.cal F__law_great (.cons (.var 0) (.cons (.cst (.int 12)) .nil))) .nil)) (.cal F__law_draw (.cons (.var 0) (.cons (.cst (.int 2)) .nil))))))
 (.cons (.asg (.nm 2) (.bin .mod (.cal F__law_great (.cons (.var 0) (.cons (.cst (.int 12)) .nil))) (.bin .add (.var 1) (.cst (.int 1)))))
 (.cons (.asg (.nm 3) (.cal F__law_lowest (.cons (.var 2) (.cons (.var 1) .nil))))
 (.cons (.iff (.or (.cmp .ne (.cal F_degree (.cons (.var 2) (.cons (.var 1) .nil))) (.var 3)) (.or (.cmp .ne (.calk F_degree .nil (.cons (.var 1) (.cons (.var 2) .nil)) [1, 0]) (.var 3)) (.cmp .isn (.cal F_is_degree (.cons (.var 3) .nil)) (.cst (.bl true))))) (.cons (.ret (.cst (.bl false)))
 .nil) .nil)
 (.cons (.asg (.nm 4) (.tup (.cons (.bin .mul (.cst (.int 2)) (.ix (.var 3) (.cst (.int 0)))) (.cons (.bin .mul (.cst (.int 2)) (.ix (.var 3) (.cst (.int 1)))) .nil))))
 (.cons (.asg (.nm 5) (.lst (.cons (.cst .non) (.cons (.cst (.int 1)) (.cons (.cst (.bl true)) (.cons (.cst (.str [49])) (.cons (.lst (.cons (.cst (.int 0)) (.cons (.cst (.int 1)) .nil))) (.cons (.tup (.cons (.cst (.int 1)) .nil)) (.cons (.tup (.cons (.cst (.int 0)) (.cons (.cst (.int 1)) (.cons (.cst (.int 1)) .nil)))) (.cons (.tup (.cons (.cst (.int 0)) (.cons (.cst (.int 2)) .nil))) (.cons (.tup (.cons (.cst (.int 2)) (.cons (.cst (.int 1)) .nil))) (.cons (.tup (.cons (.neg (.cst (.int 1))) (.cons (.cst (.int 2)) .nil))) (.cons (.tup (.cons (.cst (.int 1)) (.cons (.cst (.int 0)) .nil))) (.cons (.tup (.cons (.cst (.int 1)) (.cons (.neg (.cst (.int 2))) .nil))) (.cons (.tup (.cons (.cst (.bl true)) (.cons (.cst (.int 1)) .nil))) (.cons (.tup (.cons (.cst (.int 1)) (.cons (.cst (.bl true)) .nil))) .nil))))))))))))))))
 (.cons (.asg (.nm 5) (.bin .add (.var 5) (.lst (.cons (.tup (.cons (.cst (.int 0)) (.cons (.cst (.str [49])) .nil))) (.cons (.tup (.cons (.cst .non) (.cons (.cst (.int 1)) .nil))) (.cons (.tup (.cons (.tup (.cons (.cst (.int 0)) (.cons (.cst (.int 1)) .nil))) (.cons (.cst (.int 1)) .nil))) (.cons .dc0 (.cons (.var 4) (.cons (.blt .lst (.cons (.var 3) .nil)) (.cons (.tup (.cons (.cst (.int 0)) (.cons (.cst (.int 0)) .nil))) (.cons (.tup (.cons (.neg (.cst (.int 1))) (.cons (.neg (.cst (.int 2))) .nil))) (.cons (.tup (.cons (.cst (.int 0)) (.cons (.neg (.cst (.int 1))) .nil))) .nil))))))))))))
 (.cons (.asg (.nm 5) (.ix (.bin .add (.var 5) (.lst (.cons (.tup (.cons (.bin .add (.var 1) (.cst (.int 1))) (.cons (.var 1) .nil))) .nil))) (.cal F__law_draw (.cons (.var 0) (.cons (.cst (.int 24)) .nil)))))
 (.cons (.iff (.or (.cmp .isn (.cal F_is_degree (.cons (.var 5) .nil)) (.cst (.bl false))) (.cmp .isn (.calk F_is_degree .nil (.cons (.var 3) .nil) [0]) (.cst (.bl true)))) (.cons (.ret (.cst (.bl false)))
 .nil) .nil)
 (.cons (.par [6, 7] (.cons (.cal F__law_degree (.cons (.var 0) .nil)) (.cons (.cal F__law_degree (.cons (.var 0) .nil)) .nil)))
 (.cons (.iff (.or (.cmp .ne (.blt .str (.cons (.cal F_at_most (.cons (.var 6) (.cons (.var 7) .nil))) .nil)) (.blt .str (.cons (.no (.cal F__law_less (.cons (.var 7) (.cons (.var 6) .nil)))) .nil))) (.cmp .isn (.calk F_at_most .nil (.cons (.var 6) (.cons (.var 6) .nil)) [1, 0]) (.cst (.bl true)))) (.cons (.ret (.cst (.bl false)))
 .nil) .nil)
 (.cons (.par [8, 9] (.cons (.ixd (.cons (.neg (.cst (.int 1))) (.cons (.cst .non) (.cons (.cst (.bl true)) (.cons (.cst (.str [49])) (.cons (.tup (.cons (.cst (.int 1)) .nil)) .nil))))) (.cal F__law_draw (.cons (.var 0) (.cons (.cst (.int 5)) .nil)))) (.cons (.ixd (.cons (.cst (.int 0)) (.cons (.neg (.cst (.int 3))) (.cons (.cst .non) (.cons (.cst (.bl true)) (.cons (.cst (.str [50])) .nil))))) (.cal F__law_draw (.cons (.var 0) (.cons (.cst (.int 5)) .nil)))) .nil)))
 (.cons (.asg (.nm 10) (.bin .add (.cst (.int 1)) (.cal F__law_draw (.cons (.var 0) (.cons (.cst (.int 5)) .nil)))))
 (.cons (.iff (.cmp .ne (.cal F__law_caught (.cons (.cst (.int 0)) (.cons (.bin .mul (.var 10) (.bin .add (.var 1) (.cst (.int 1)))) (.cons (.bin .mul (.var 10) (.var 1)) .nil)))) (.lst (.cons (.tup (.cons (.bin .mul (.var 10) (.bin .add (.var 1) (.cst (.int 1)))) (.cons (.bin .mul (.var 10) (.var 1)) .nil))) .nil))) (.cons (.ret (.cst (.bl false)))
 .nil) .nil)
 (.cons (.asg (.nm 11) (.lst (.cons (.cal F__law_caught (.cons (.cst (.int 0)) (.cons (.var 8) (.cons (.var 9) .nil)))) (.cons (.cal F__law_caught (.cons (.cst (.int 0)) (.cons (.cst (.int 3)) (.cons (.var 9) .nil)))) (.cons (.cal F__law_caught (.cons (.cst (.int 0)) (.cons (.bin .add (.var 1) (.cst (.int 1))) (.cons (.var 1) .nil)))) .nil)))))
 (.cons (.asg (.nm 11) (.bin .add (.var 11) (.lst (.cons (.cal F__law_caught (.cons (.cst (.int 1)) (.cons (.var 5) (.cons (.cst .non) .nil)))) (.cons (.cal F__law_caught (.cons (.cst (.int 1)) (.cons (.var 6) (.cons (.var 5) .nil)))) (.cons (.cal F__law_caught (.cons (.cst (.int 1)) (.cons (.var 6) (.cons (.var 7) .nil)))) .nil))))))
 (.cons (.ret (.cmp .eq (.blt .str (.cons (.var 11) .nil)) (.blt .str (.cons (.lst (.cons (.lst (.cons (.var 8) .nil)) (.cons (.lst (.cons (.var 9) .nil)) (.cons (.lst (.cons (.tup (.cons (.bin .add (.var 1) (.cst (.int 1))) (.cons (.var 1) .nil))) .nil)) (.cons (.lst (.cons (.var 5) .nil)) (.cons (.lst (.cons (.var 5) .nil)) (.cons (.cst .non) .nil))))))) .nil))))
 .nil)))))))))))))))))
def f__law_right : Fd := ⟨1, 12, [], [], b__law_right⟩
def b_law : Ss :=
 (.cons (.fr (.nm 1) (.rng (.cons (.bin .add (.cst (.int 1)) (.blt .min (.cons (.cst (.int 8)) (.cons (.blt .len (.cons (.var 0) .nil)) .nil)))) .nil)) (.cons (.asg (.nm 2) (.cal F__law_purse (.cons (.var 0) (.cons (.var 1) .nil))))
 (.cons (.fr (.nm 3) (.rng (.cons (.cst (.int 4)) .nil)) (.cons (.iff (.no (.cal F__law_right (.cons (.var 2) .nil))) (.cons (.ret (.cst (.bl false)))
 .nil) .nil)
 .nil))
 .nil)))
 (.cons (.ret (.and (.cmp .eq (.lst (.cons (.cal F_degree (.cons (.cst (.int 0)) (.cons (.cst (.int 7)) .nil))) (.cons (.cal F_degree (.cons (.cst (.int 7)) (.cons (.cst (.int 7)) .nil))) (.cons (.cal F_degree (.cons (.cst (.int 6)) (.cons (.cst (.int 8)) .nil))) .nil)))) (.lst (.cons (.tup (.cons (.cst (.int 0)) (.cons (.cst (.int 1)) .nil))) (.cons (.tup (.cons (.cst (.int 1)) (.cons (.cst (.int 1)) .nil))) (.cons (.tup (.cons (.cst (.int 3)) (.cons (.cst (.int 4)) .nil))) .nil))))) (.cmp .is (.cal F_is_degree (.cons (.tup (.cons (.cst (.int 0)) (.cons (.cst (.int 5)) .nil))) .nil)) (.cst (.bl false)))))
 .nil))
def f_law : Fd := ⟨1, 4, [], [], b_law⟩
def Gm : Gam := ⟨[f_is_integer, f_common_divisor, f_lowest, f_is_degree, f_require_degree, f_degree, f_less, f_at_most, f__law_mixed, f__law_purse, f__law_draw, f__law_great, f__law_common, f__law_lowest, f__law_degree, f__law_less, f__law_caught, f__law_right, f_law],
 [],
 [[0], [1, 0]]⟩
end G4

namespace G4
theorem an_GradeError : Gm.anc[X_GradeError]? = some [0] := rfl
theorem an_InvalidDegree : Gm.anc[X_InvalidDegree]? = some [1, 0] := rfl
theorem g_is_integer : Gm.fn[F_is_integer]? = some f_is_integer := rfl
theorem d_is_integer (rs : List R) : dfl f_is_integer rs = rs := by simp [dfl, f_is_integer]
theorem u_is_integer {n : Nat} {Q : R → List R → Prop} {E : Nat → List D → List R → Prop} {r0 : R} : wC (CALL Gm (n + 1) F_is_integer [r0]) Q E = wS (xss Gm (CALL Gm n) 1 b_is_integer [some r0]) (kFin [] [r0] Q E) := w_call (Γ := Gm) (n := n) (f := F_is_integer) (fd := f_is_integer) (rs := [r0]) (rs' := [r0]) (Q := Q) (E := E) rfl rfl rfl
theorem g_common_divisor : Gm.fn[F_common_divisor]? = some f_common_divisor := rfl
theorem d_common_divisor (rs : List R) : dfl f_common_divisor rs = rs := by simp [dfl, f_common_divisor]
theorem u_common_divisor {n : Nat} {Q : R → List R → Prop} {E : Nat → List D → List R → Prop} {d0 : D} {d1 : D} : wC (CALL Gm (n + 1) F_common_divisor [(.sh d0), (.sh d1)]) Q E = wS (xss Gm (CALL Gm n) 2 b_common_divisor [some (.sh d0), some (.sh d1)]) (kFin [0, 1] [(.sh d0), (.sh d1)] Q E) := w_call (Γ := Gm) (n := n) (f := F_common_divisor) (fd := f_common_divisor) (rs := [(.sh d0), (.sh d1)]) (rs' := [(.sh d0), (.sh d1)]) (Q := Q) (E := E) rfl rfl rfl
theorem g_lowest : Gm.fn[F_lowest]? = some f_lowest := rfl
theorem d_lowest (rs : List R) : dfl f_lowest rs = rs := by simp [dfl, f_lowest]
theorem u_lowest {n : Nat} {Q : R → List R → Prop} {E : Nat → List D → List R → Prop} {r0 : R} {r1 : R} : wC (CALL Gm (n + 1) F_lowest [r0, r1]) Q E = wS (xss Gm (CALL Gm n) 2 b_lowest [some r0, some r1, none]) (kFin [] [r0, r1] Q E) := w_call (Γ := Gm) (n := n) (f := F_lowest) (fd := f_lowest) (rs := [r0, r1]) (rs' := [r0, r1]) (Q := Q) (E := E) rfl rfl rfl
theorem g_is_degree : Gm.fn[F_is_degree]? = some f_is_degree := rfl
theorem d_is_degree (rs : List R) : dfl f_is_degree rs = rs := by simp [dfl, f_is_degree]
theorem u_is_degree {n : Nat} {Q : R → List R → Prop} {E : Nat → List D → List R → Prop} {r0 : R} : wC (CALL Gm (n + 1) F_is_degree [r0]) Q E = wS (xss Gm (CALL Gm n) 1 b_is_degree [some r0]) (kFin [] [r0] Q E) := w_call (Γ := Gm) (n := n) (f := F_is_degree) (fd := f_is_degree) (rs := [r0]) (rs' := [r0]) (Q := Q) (E := E) rfl rfl rfl
theorem g_require_degree : Gm.fn[F_require_degree]? = some f_require_degree := rfl
theorem d_require_degree (rs : List R) : dfl f_require_degree rs = rs := by simp [dfl, f_require_degree]
theorem u_require_degree {n : Nat} {Q : R → List R → Prop} {E : Nat → List D → List R → Prop} {r0 : R} : wC (CALL Gm (n + 1) F_require_degree [r0]) Q E = wS (xss Gm (CALL Gm n) 1 b_require_degree [some r0]) (kFin [] [r0] Q E) := w_call (Γ := Gm) (n := n) (f := F_require_degree) (fd := f_require_degree) (rs := [r0]) (rs' := [r0]) (Q := Q) (E := E) rfl rfl rfl
theorem g_degree : Gm.fn[F_degree]? = some f_degree := rfl
theorem d_degree (rs : List R) : dfl f_degree rs = rs := by simp [dfl, f_degree]
theorem u_degree {n : Nat} {Q : R → List R → Prop} {E : Nat → List D → List R → Prop} {r0 : R} {r1 : R} : wC (CALL Gm (n + 1) F_degree [r0, r1]) Q E = wS (xss Gm (CALL Gm n) 2 b_degree [some r0, some r1]) (kFin [] [r0, r1] Q E) := w_call (Γ := Gm) (n := n) (f := F_degree) (fd := f_degree) (rs := [r0, r1]) (rs' := [r0, r1]) (Q := Q) (E := E) rfl rfl rfl
theorem g_less : Gm.fn[F_less]? = some f_less := rfl
theorem d_less (rs : List R) : dfl f_less rs = rs := by simp [dfl, f_less]
theorem u_less {n : Nat} {Q : R → List R → Prop} {E : Nat → List D → List R → Prop} {r0 : R} {r1 : R} : wC (CALL Gm (n + 1) F_less [r0, r1]) Q E = wS (xss Gm (CALL Gm n) 2 b_less [some r0, some r1]) (kFin [] [r0, r1] Q E) := w_call (Γ := Gm) (n := n) (f := F_less) (fd := f_less) (rs := [r0, r1]) (rs' := [r0, r1]) (Q := Q) (E := E) rfl rfl rfl
theorem g_at_most : Gm.fn[F_at_most]? = some f_at_most := rfl
theorem d_at_most (rs : List R) : dfl f_at_most rs = rs := by simp [dfl, f_at_most]
theorem u_at_most {n : Nat} {Q : R → List R → Prop} {E : Nat → List D → List R → Prop} {r0 : R} {r1 : R} : wC (CALL Gm (n + 1) F_at_most [r0, r1]) Q E = wS (xss Gm (CALL Gm n) 2 b_at_most [some r0, some r1]) (kFin [] [r0, r1] Q E) := w_call (Γ := Gm) (n := n) (f := F_at_most) (fd := f_at_most) (rs := [r0, r1]) (rs' := [r0, r1]) (Q := Q) (E := E) rfl rfl rfl
theorem g__law_mixed : Gm.fn[F__law_mixed]? = some f__law_mixed := rfl
theorem d__law_mixed (rs : List R) : dfl f__law_mixed rs = rs := by simp [dfl, f__law_mixed]
theorem u__law_mixed {n : Nat} {Q : R → List R → Prop} {E : Nat → List D → List R → Prop} {r0 : R} {r1 : R} : wC (CALL Gm (n + 1) F__law_mixed [r0, r1]) Q E = wS (xss Gm (CALL Gm n) 2 b__law_mixed [some r0, some r1, none]) (kFin [] [r0, r1] Q E) := w_call (Γ := Gm) (n := n) (f := F__law_mixed) (fd := f__law_mixed) (rs := [r0, r1]) (rs' := [r0, r1]) (Q := Q) (E := E) rfl rfl rfl
theorem g__law_purse : Gm.fn[F__law_purse]? = some f__law_purse := rfl
theorem d__law_purse (rs : List R) : dfl f__law_purse rs = rs := by simp [dfl, f__law_purse]
theorem u__law_purse {n : Nat} {Q : R → List R → Prop} {E : Nat → List D → List R → Prop} {r0 : R} {r1 : R} : wC (CALL Gm (n + 1) F__law_purse [r0, r1]) Q E = wS (xss Gm (CALL Gm n) 2 b__law_purse [some r0, some r1, none]) (kFin [] [r0, r1] Q E) := w_call (Γ := Gm) (n := n) (f := F__law_purse) (fd := f__law_purse) (rs := [r0, r1]) (rs' := [r0, r1]) (Q := Q) (E := E) rfl rfl rfl
theorem g__law_draw : Gm.fn[F__law_draw]? = some f__law_draw := rfl
theorem d__law_draw (rs : List R) : dfl f__law_draw rs = rs := by simp [dfl, f__law_draw]
theorem u__law_draw {n : Nat} {Q : R → List R → Prop} {E : Nat → List D → List R → Prop} {r0 : R} {r1 : R} : wC (CALL Gm (n + 1) F__law_draw [r0, r1]) Q E = wS (xss Gm (CALL Gm n) 2 b__law_draw [some r0, some r1, none]) (kFin [] [r0, r1] Q E) := w_call (Γ := Gm) (n := n) (f := F__law_draw) (fd := f__law_draw) (rs := [r0, r1]) (rs' := [r0, r1]) (Q := Q) (E := E) rfl rfl rfl
theorem g__law_great : Gm.fn[F__law_great]? = some f__law_great := rfl
theorem d__law_great (rs : List R) : dfl f__law_great rs = rs := by simp [dfl, f__law_great]
theorem u__law_great {n : Nat} {Q : R → List R → Prop} {E : Nat → List D → List R → Prop} {r0 : R} {r1 : R} : wC (CALL Gm (n + 1) F__law_great [r0, r1]) Q E = wS (xss Gm (CALL Gm n) 2 b__law_great [some r0, some r1, none, none]) (kFin [] [r0, r1] Q E) := w_call (Γ := Gm) (n := n) (f := F__law_great) (fd := f__law_great) (rs := [r0, r1]) (rs' := [r0, r1]) (Q := Q) (E := E) rfl rfl rfl
theorem g__law_common : Gm.fn[F__law_common]? = some f__law_common := rfl
theorem d__law_common (rs : List R) : dfl f__law_common rs = rs := by simp [dfl, f__law_common]
theorem u__law_common {n : Nat} {Q : R → List R → Prop} {E : Nat → List D → List R → Prop} {d0 : D} {d1 : D} : wC (CALL Gm (n + 1) F__law_common [(.sh d0), (.sh d1)]) Q E = wS (xss Gm (CALL Gm n) 2 b__law_common [some (.sh d0), some (.sh d1)]) (kFin [0, 1] [(.sh d0), (.sh d1)] Q E) := w_call (Γ := Gm) (n := n) (f := F__law_common) (fd := f__law_common) (rs := [(.sh d0), (.sh d1)]) (rs' := [(.sh d0), (.sh d1)]) (Q := Q) (E := E) rfl rfl rfl
theorem g__law_lowest : Gm.fn[F__law_lowest]? = some f__law_lowest := rfl
theorem d__law_lowest (rs : List R) : dfl f__law_lowest rs = rs := by simp [dfl, f__law_lowest]
theorem u__law_lowest {n : Nat} {Q : R → List R → Prop} {E : Nat → List D → List R → Prop} {r0 : R} {r1 : R} : wC (CALL Gm (n + 1) F__law_lowest [r0, r1]) Q E = wS (xss Gm (CALL Gm n) 2 b__law_lowest [some r0, some r1, none]) (kFin [] [r0, r1] Q E) := w_call (Γ := Gm) (n := n) (f := F__law_lowest) (fd := f__law_lowest) (rs := [r0, r1]) (rs' := [r0, r1]) (Q := Q) (E := E) rfl rfl rfl
theorem g__law_degree : Gm.fn[F__law_degree]? = some f__law_degree := rfl
theorem d__law_degree (rs : List R) : dfl f__law_degree rs = rs := by simp [dfl, f__law_degree]
theorem u__law_degree {n : Nat} {Q : R → List R → Prop} {E : Nat → List D → List R → Prop} {r0 : R} : wC (CALL Gm (n + 1) F__law_degree [r0]) Q E = wS (xss Gm (CALL Gm n) 1 b__law_degree [some r0, none]) (kFin [] [r0] Q E) := w_call (Γ := Gm) (n := n) (f := F__law_degree) (fd := f__law_degree) (rs := [r0]) (rs' := [r0]) (Q := Q) (E := E) rfl rfl rfl
theorem g__law_less : Gm.fn[F__law_less]? = some f__law_less := rfl
theorem d__law_less (rs : List R) : dfl f__law_less rs = rs := by simp [dfl, f__law_less]
theorem u__law_less {n : Nat} {Q : R → List R → Prop} {E : Nat → List D → List R → Prop} {r0 : R} {r1 : R} : wC (CALL Gm (n + 1) F__law_less [r0, r1]) Q E = wS (xss Gm (CALL Gm n) 2 b__law_less [some r0, some r1]) (kFin [] [r0, r1] Q E) := w_call (Γ := Gm) (n := n) (f := F__law_less) (fd := f__law_less) (rs := [r0, r1]) (rs' := [r0, r1]) (Q := Q) (E := E) rfl rfl rfl
theorem g__law_caught : Gm.fn[F__law_caught]? = some f__law_caught := rfl
theorem d__law_caught (rs : List R) : dfl f__law_caught rs = rs := by simp [dfl, f__law_caught]
theorem u__law_caught {n : Nat} {Q : R → List R → Prop} {E : Nat → List D → List R → Prop} {r0 : R} {r1 : R} {r2 : R} : wC (CALL Gm (n + 1) F__law_caught [r0, r1, r2]) Q E = wS (xss Gm (CALL Gm n) 3 b__law_caught [some r0, some r1, some r2, none, none]) (kFin [] [r0, r1, r2] Q E) := w_call (Γ := Gm) (n := n) (f := F__law_caught) (fd := f__law_caught) (rs := [r0, r1, r2]) (rs' := [r0, r1, r2]) (Q := Q) (E := E) rfl rfl rfl
theorem g__law_right : Gm.fn[F__law_right]? = some f__law_right := rfl
theorem d__law_right (rs : List R) : dfl f__law_right rs = rs := by simp [dfl, f__law_right]
theorem u__law_right {n : Nat} {Q : R → List R → Prop} {E : Nat → List D → List R → Prop} {r0 : R} : wC (CALL Gm (n + 1) F__law_right [r0]) Q E = wS (xss Gm (CALL Gm n) 1 b__law_right [some r0, none, none, none, none, none, none, none, none, none, none, none]) (kFin [] [r0] Q E) := w_call (Γ := Gm) (n := n) (f := F__law_right) (fd := f__law_right) (rs := [r0]) (rs' := [r0]) (Q := Q) (E := E) rfl rfl rfl
theorem g_law : Gm.fn[F_law]? = some f_law := rfl
theorem d_law (rs : List R) : dfl f_law rs = rs := by simp [dfl, f_law]
theorem u_law {n : Nat} {Q : R → List R → Prop} {E : Nat → List D → List R → Prop} {r0 : R} : wC (CALL Gm (n + 1) F_law [r0]) Q E = wS (xss Gm (CALL Gm n) 1 b_law [some r0, none, none, none]) (kFin [] [r0] Q E) := w_call (Γ := Gm) (n := n) (f := F_law) (fd := f_law) (rs := [r0]) (rs' := [r0]) (Q := Q) (E := E) rfl rfl rfl
end G4

namespace G4
section
variable {n : Nat} {Q : R → List R → Prop} {E : Nat → List D → List R → Prop}
def isI : D → Bool
  | .int _ => true
  | _ => false
theorem is_integer_ok {d : D} : wC (CALL Gm (n + 1) F_is_integer [.sh d]) Q E = Q (.sh (.bl (isI d))) [.sh d] := by
  rw [u_is_integer]
  simp only [b_is_integer, w_var, w_cst, wB_var, kO1_eq, kO2, w_bin, w_cmp, w_ix, w_neg, kNeg_int, w_no, kNo, kT_bl, w_and, w_or, w_ite, kAnd, kOr, kIte, w_cm2, kC1_eq, kC2_eq, kC3, wD_nil, wD_cons, kD1_eq, kD3, kD2, wR_nil, wR_cons, kR1, kR2, wA_nil, wA_var, kA1, kA2, kAv, kAn_sh, kAn_ol, kAn_od, w_tup, w_lst, kTup, kLst, w_dc0, kX1_eq, w_ixd, kX2_int, w_cal, kCal, w_calk, kKw1, kKw, w_blt1, w_blt, kBl1, kBl, w_isi, kIs, kV_sh, kV_ol, kL_some, kR_some, kR_if, kI_t, kI_f, s_nil, s_cons, kSq_nx, kSq_bk, kSq_ct, kSq_rt, kSq_ex, s_ex, kDr, s_asg, kAs_nm, kAs_tp, s_par, kPar, s_sidx, kSi1, kSi2, set0, set1, set2, s_iff, kIf, s_whl, s_rng, kRg_eq, kRg', s_seq, kSeq, s_retv, s_retn, kRv_some, s_rse, kRse, s_try, kTry_nx, kTry_bk, kTry_ct, kTry_rt, kTry_ex, s_pass, s_brk, s_cnt, kFin_nx, kFin_bk, kFin_ct, kFin_rt, kFin_ex, kO_some, suitS, suit, Su.flat, beq_self_eq_true, stg, wS_nx, wS_bk, wS_ct, wS_rt, wS_ex, rt_cst, lb_cst, la_cst, l2_cst, rt_glb, lb_glb, la_glb, l2_glb, rt_bin, lb_bin, la_bin, l2_bin, rt_neg, lb_neg, la_neg, l2_neg, rt_inv, lb_inv, la_inv, l2_inv, rt_no, lb_no, la_no, l2_no, rt_cmp, lb_cmp, la_cmp, l2_cmp, rt_cm2, lb_cm2, la_cm2, l2_cm2, rt_and, lb_and, la_and, l2_and, rt_or, lb_or, la_or, l2_or, rt_ite, lb_ite, la_ite, l2_ite, rt_tup, lb_tup, la_tup, l2_tup, rt_lst, lb_lst, la_lst, rt_dc0, lb_dc0, la_dc0, l2_dc0, rt_ix, lb_ix, la_ix, l2_ix, rt_ixd, lb_ixd, la_ixd, l2_ixd, rt_att, lb_att, la_att, l2_att, rt_cal, lb_cal, la_cal, l2_cal, rt_calk, lb_calk, la_calk, l2_calk, rt_blt, lb_blt, la_blt, l2_blt, rt_isi, lb_isi, la_isi, l2_isi, l2_var, l2_ln, l2_lc, frz, snap, binD, cmpR, cmpD, idxR, idxD, bltD, isD, isNon, at0, at1, at2, eqD_int, List.getElem?_cons_zero, List.getElem?_cons_succ, List.set_cons_zero, List.set_cons_succ, List.length_cons, List.length_nil, setr, setl, takeA, putA, picks, outs, Option.map_some, Option.bind_some, Bool.false_eq_true, if_true, if_false, Bool.not_true, Bool.not_false, Bool.and_true, Bool.true_and, Bool.and_false, Bool.false_and, true_and, and_true, List.contains_nil, List.contains_cons, Nat.reduceLT, Nat.reduceAdd, Nat.reduceBEq, Bool.or_false, Bool.false_or, Bool.or_true, Bool.true_or, List.map_cons, List.map_nil, List.append_nil, List.cons_append, List.nil_append, decide_true, decide_false, Nat.not_lt_zero]
  cases d <;> simp [kI, isI, isD]
theorem less_ok {a b c d : Int} : wC (CALL Gm (n + 1) F_less [.sh (.tup [.int a, .int b]), .sh (.tup [.int c, .int d])]) Q E =
    (mulOk a d = true ∧ mulOk c b = true ∧ Q (.sh (.bl (decide (a * d < c * b)))) [.sh (.tup [.int a, .int b]), .sh (.tup [.int c, .int d])]) := by
  rw [u_less]
  simp only [b_less, w_var, w_cst, wB_var, kO1_eq, kO2, w_bin, w_cmp, w_ix, w_neg, kNeg_int, w_no, kNo, kT_bl, w_and, w_or, w_ite, kAnd, kOr, kIte, w_cm2, kC1_eq, kC2_eq, kC3, wD_nil, wD_cons, kD1_eq, kD3, kD2, wR_nil, wR_cons, kR1, kR2, wA_nil, wA_var, kA1, kA2, kAv, kAn_sh, kAn_ol, kAn_od, w_tup, w_lst, kTup, kLst, w_dc0, kX1_eq, w_ixd, kX2_int, w_cal, kCal, w_calk, kKw1, kKw, w_blt1, w_blt, kBl1, kBl, w_isi, kIs, kV_sh, kV_ol, kL_some, kR_some, kR_if, kI_t, kI_f, s_nil, s_cons, kSq_nx, kSq_bk, kSq_ct, kSq_rt, kSq_ex, s_ex, kDr, s_asg, kAs_nm, kAs_tp, s_par, kPar, s_sidx, kSi1, kSi2, set0, set1, set2, s_iff, kIf, s_whl, s_rng, kRg_eq, kRg', s_seq, kSeq, s_retv, s_retn, kRv_some, s_rse, kRse, s_try, kTry_nx, kTry_bk, kTry_ct, kTry_rt, kTry_ex, s_pass, s_brk, s_cnt, kFin_nx, kFin_bk, kFin_ct, kFin_rt, kFin_ex, kO_some, suitS, suit, Su.flat, beq_self_eq_true, stg, wS_nx, wS_bk, wS_ct, wS_rt, wS_ex, rt_cst, lb_cst, la_cst, l2_cst, rt_glb, lb_glb, la_glb, l2_glb, rt_bin, lb_bin, la_bin, l2_bin, rt_neg, lb_neg, la_neg, l2_neg, rt_inv, lb_inv, la_inv, l2_inv, rt_no, lb_no, la_no, l2_no, rt_cmp, lb_cmp, la_cmp, l2_cmp, rt_cm2, lb_cm2, la_cm2, l2_cm2, rt_and, lb_and, la_and, l2_and, rt_or, lb_or, la_or, l2_or, rt_ite, lb_ite, la_ite, l2_ite, rt_tup, lb_tup, la_tup, l2_tup, rt_lst, lb_lst, la_lst, rt_dc0, lb_dc0, la_dc0, l2_dc0, rt_ix, lb_ix, la_ix, l2_ix, rt_ixd, lb_ixd, la_ixd, l2_ixd, rt_att, lb_att, la_att, l2_att, rt_cal, lb_cal, la_cal, l2_cal, rt_calk, lb_calk, la_calk, l2_calk, rt_blt, lb_blt, la_blt, l2_blt, rt_isi, lb_isi, la_isi, l2_isi, l2_var, l2_ln, l2_lc, frz, snap, binD, cmpR, cmpD, idxR, idxD, bltD, isD, isNon, at0, at1, at2, eqD_int, List.getElem?_cons_zero, List.getElem?_cons_succ, List.set_cons_zero, List.set_cons_succ, List.length_cons, List.length_nil, setr, setl, takeA, putA, picks, outs, Option.map_some, Option.bind_some, Bool.false_eq_true, if_true, if_false, Bool.not_true, Bool.not_false, Bool.and_true, Bool.true_and, Bool.and_false, Bool.false_and, true_and, and_true, List.contains_nil, List.contains_cons, Nat.reduceLT, Nat.reduceAdd, Nat.reduceBEq, Bool.or_false, Bool.false_or, Bool.or_true, Bool.true_or, List.map_cons, List.map_nil, List.append_nil, List.cons_append, List.nil_append, decide_true, decide_false, Nat.not_lt_zero]
theorem common_divisor_ok {x y : Nat} (hy : y < 2 ^ 200) : CALL Gm (n + 1) F_common_divisor [.sh (.int x), .sh (.int y)] = .ok (.sh (.int (Nat.gcd x y))) [.sh (.int x), .sh (.int y)] := by
  refine wC_eq ?_
  rw [u_common_divisor]
  simp only [b_common_divisor, w_var, w_cst, wB_var, kO1_eq, kO2, w_bin, w_cmp, w_ix, w_neg, kNeg_int, w_no, kNo, kT_bl, w_and, w_or, w_ite, kAnd, kOr, kIte, w_cm2, kC1_eq, kC2_eq, kC3, wD_nil, wD_cons, kD1_eq, kD3, kD2, wR_nil, wR_cons, kR1, kR2, wA_nil, wA_var, kA1, kA2, kAv, kAn_sh, kAn_ol, kAn_od, w_tup, w_lst, kTup, kLst, w_dc0, kX1_eq, w_ixd, kX2_int, w_cal, kCal, w_calk, kKw1, kKw, w_blt1, w_blt, kBl1, kBl, w_isi, kIs, kV_sh, kV_ol, kL_some, kR_some, kR_if, kI_t, kI_f, s_nil, s_cons, kSq_nx, kSq_bk, kSq_ct, kSq_rt, kSq_ex, s_ex, kDr, s_asg, kAs_nm, kAs_tp, s_par, kPar, s_sidx, kSi1, kSi2, set0, set1, set2, s_iff, kIf, s_whl, s_rng, kRg_eq, kRg', s_seq, kSeq, s_retv, s_retn, kRv_some, s_rse, kRse, s_try, kTry_nx, kTry_bk, kTry_ct, kTry_rt, kTry_ex, s_pass, s_brk, s_cnt, kFin_nx, kFin_bk, kFin_ct, kFin_rt, kFin_ex, kO_some, suitS, suit, Su.flat, beq_self_eq_true, stg, wS_nx, wS_bk, wS_ct, wS_rt, wS_ex, rt_cst, lb_cst, la_cst, l2_cst, rt_glb, lb_glb, la_glb, l2_glb, rt_bin, lb_bin, la_bin, l2_bin, rt_neg, lb_neg, la_neg, l2_neg, rt_inv, lb_inv, la_inv, l2_inv, rt_no, lb_no, la_no, l2_no, rt_cmp, lb_cmp, la_cmp, l2_cmp, rt_cm2, lb_cm2, la_cm2, l2_cm2, rt_and, lb_and, la_and, l2_and, rt_or, lb_or, la_or, l2_or, rt_ite, lb_ite, la_ite, l2_ite, rt_tup, lb_tup, la_tup, l2_tup, rt_lst, lb_lst, la_lst, rt_dc0, lb_dc0, la_dc0, l2_dc0, rt_ix, lb_ix, la_ix, l2_ix, rt_ixd, lb_ixd, la_ixd, l2_ixd, rt_att, lb_att, la_att, l2_att, rt_cal, lb_cal, la_cal, l2_cal, rt_calk, lb_calk, la_calk, l2_calk, rt_blt, lb_blt, la_blt, l2_blt, rt_isi, lb_isi, la_isi, l2_isi, l2_var, l2_ln, l2_lc, frz, snap, binD, cmpR, cmpD, idxR, idxD, bltD, isD, isNon, at0, at1, at2, eqD_int, List.getElem?_cons_zero, List.getElem?_cons_succ, List.set_cons_zero, List.set_cons_succ, List.length_cons, List.length_nil, setr, setl, takeA, putA, picks, outs, Option.map_some, Option.bind_some, Bool.false_eq_true, if_true, if_false, Bool.not_true, Bool.not_false, Bool.and_true, Bool.true_and, Bool.and_false, Bool.false_and, true_and, and_true, List.contains_nil, List.contains_cons, Nat.reduceLT, Nat.reduceAdd, Nat.reduceBEq, Bool.or_false, Bool.false_or, Bool.or_true, Bool.true_or, List.map_cons, List.map_nil, List.append_nil, List.cons_append, List.nil_append, decide_true, decide_false, Nat.not_lt_zero]
  refine wW_rule (fun m ρ => ∃ a b : Nat, ρ = [some (.sh (.int a)), some (.sh (.int b))] ∧ Nat.gcd a b = Nat.gcd x y ∧ m = b) ?_ (m := y) (Nat.lt_of_lt_of_le hy LIM_big) ⟨x, y, rfl, rfl, rfl⟩
  rintro m ρ ⟨a, b, rfl, hg, rfl⟩
  simp only [w_var, w_cst, wB_var, kO1_eq, kO2, w_bin, w_cmp, w_ix, w_neg, kNeg_int, w_no, kNo, kT_bl, w_and, w_or, w_ite, kAnd, kOr, kIte, w_cm2, kC1_eq, kC2_eq, kC3, wD_nil, wD_cons, kD1_eq, kD3, kD2, wR_nil, wR_cons, kR1, kR2, wA_nil, wA_var, kA1, kA2, kAv, kAn_sh, kAn_ol, kAn_od, w_tup, w_lst, kTup, kLst, w_dc0, kX1_eq, w_ixd, kX2_int, w_cal, kCal, w_calk, kKw1, kKw, w_blt1, w_blt, kBl1, kBl, w_isi, kIs, kV_sh, kV_ol, kL_some, kR_some, kR_if, kI_t, kI_f, s_nil, s_cons, kSq_nx, kSq_bk, kSq_ct, kSq_rt, kSq_ex, s_ex, kDr, s_asg, kAs_nm, kAs_tp, s_par, kPar, s_sidx, kSi1, kSi2, set0, set1, set2, s_iff, kIf, s_whl, s_rng, kRg_eq, kRg', s_seq, kSeq, s_retv, s_retn, kRv_some, s_rse, kRse, s_try, kTry_nx, kTry_bk, kTry_ct, kTry_rt, kTry_ex, s_pass, s_brk, s_cnt, kFin_nx, kFin_bk, kFin_ct, kFin_rt, kFin_ex, kO_some, suitS, suit, Su.flat, beq_self_eq_true, stg, wS_nx, wS_bk, wS_ct, wS_rt, wS_ex, rt_cst, lb_cst, la_cst, l2_cst, rt_glb, lb_glb, la_glb, l2_glb, rt_bin, lb_bin, la_bin, l2_bin, rt_neg, lb_neg, la_neg, l2_neg, rt_inv, lb_inv, la_inv, l2_inv, rt_no, lb_no, la_no, l2_no, rt_cmp, lb_cmp, la_cmp, l2_cmp, rt_cm2, lb_cm2, la_cm2, l2_cm2, rt_and, lb_and, la_and, l2_and, rt_or, lb_or, la_or, l2_or, rt_ite, lb_ite, la_ite, l2_ite, rt_tup, lb_tup, la_tup, l2_tup, rt_lst, lb_lst, la_lst, rt_dc0, lb_dc0, la_dc0, l2_dc0, rt_ix, lb_ix, la_ix, l2_ix, rt_ixd, lb_ixd, la_ixd, l2_ixd, rt_att, lb_att, la_att, l2_att, rt_cal, lb_cal, la_cal, l2_cal, rt_calk, lb_calk, la_calk, l2_calk, rt_blt, lb_blt, la_blt, l2_blt, rt_isi, lb_isi, la_isi, l2_isi, l2_var, l2_ln, l2_lc, frz, snap, binD, cmpR, cmpD, idxR, idxD, bltD, isD, isNon, at0, at1, at2, eqD_int, List.getElem?_cons_zero, List.getElem?_cons_succ, List.set_cons_zero, List.set_cons_succ, List.length_cons, List.length_nil, setr, setl, takeA, putA, picks, outs, Option.map_some, Option.bind_some, Bool.false_eq_true, if_true, if_false, Bool.not_true, Bool.not_false, Bool.and_true, Bool.true_and, Bool.and_false, Bool.false_and, true_and, and_true, List.contains_nil, List.contains_cons, Nat.reduceLT, Nat.reduceAdd, Nat.reduceBEq, Bool.or_false, Bool.false_or, Bool.or_true, Bool.true_or, List.map_cons, List.map_nil, List.append_nil, List.cons_append, List.nil_append, decide_true, decide_false, Nat.not_lt_zero]
  refine kI_both (fun h => ?_) (fun h => ?_)
  · have hb : 0 < m := by
      simp at h
      omega
    refine ⟨by omega, a % m, Nat.mod_lt _ hb, m, a % m, by rw [Int.natCast_emod], ?_, rfl⟩
    rw [← hg, Nat.gcd_comm a m, Nat.gcd_rec m a, Nat.gcd_comm]
  · have hb : m = 0 := by
      simp at h
      omega
    subst hb
    rw [Nat.gcd_zero_right] at hg
    rw [hg]
/-! lowest -/
/-- the pair in lowest terms -/
def low (x y : Nat) : D := .tup [.int ((x / Nat.gcd x y : Nat) : Int), .int ((y / Nat.gcd x y : Nat) : Int)]
theorem lowest_ok {x y : Nat} (h0 : 0 < y) (hy : y < 2 ^ 200) : CALL Gm (n + 2) F_lowest [.sh (.int x), .sh (.int y)] = .ok (.sh (low x y)) [.sh (.int x), .sh (.int y)] := by
  refine wC_eq ?_
  rw [u_lowest]
  have ha : (if (x : Int) < 0 then -(x : Int) else (x : Int)) = (x : Int) := if_neg (by omega)
  have hg : 0 < Nat.gcd x y := Nat.gcd_pos_of_pos_right _ h0
  have hg2 : Nat.gcd x y ≤ y := Nat.gcd_le_right _ h0
  have e : ((2 : Int) ^ 200) = ((2 ^ 200 : Nat) : Int) := by norm_cast
  simp only [b_lowest, w_var, w_cst, wB_var, kO1_eq, kO2, w_bin, w_cmp, w_ix, w_neg, kNeg_int, w_no, kNo, kT_bl, w_and, w_or, w_ite, kAnd, kOr, kIte, w_cm2, kC1_eq, kC2_eq, kC3, wD_nil, wD_cons, kD1_eq, kD3, kD2, wR_nil, wR_cons, kR1, kR2, wA_nil, wA_var, kA1, kA2, kAv, kAn_sh, kAn_ol, kAn_od, w_tup, w_lst, kTup, kLst, w_dc0, kX1_eq, w_ixd, kX2_int, w_cal, kCal, w_calk, kKw1, kKw, w_blt1, w_blt, kBl1, kBl, w_isi, kIs, kV_sh, kV_ol, kL_some, kR_some, kR_if, kI_t, kI_f, s_nil, s_cons, kSq_nx, kSq_bk, kSq_ct, kSq_rt, kSq_ex, s_ex, kDr, s_asg, kAs_nm, kAs_tp, s_par, kPar, s_sidx, kSi1, kSi2, set0, set1, set2, s_iff, kIf, s_whl, s_rng, kRg_eq, kRg', s_seq, kSeq, s_retv, s_retn, kRv_some, s_rse, kRse, s_try, kTry_nx, kTry_bk, kTry_ct, kTry_rt, kTry_ex, s_pass, s_brk, s_cnt, kFin_nx, kFin_bk, kFin_ct, kFin_rt, kFin_ex, kO_some, suitS, suit, Su.flat, beq_self_eq_true, stg, wS_nx, wS_bk, wS_ct, wS_rt, wS_ex, rt_cst, lb_cst, la_cst, l2_cst, rt_glb, lb_glb, la_glb, l2_glb, rt_bin, lb_bin, la_bin, l2_bin, rt_neg, lb_neg, la_neg, l2_neg, rt_inv, lb_inv, la_inv, l2_inv, rt_no, lb_no, la_no, l2_no, rt_cmp, lb_cmp, la_cmp, l2_cmp, rt_cm2, lb_cm2, la_cm2, l2_cm2, rt_and, lb_and, la_and, l2_and, rt_or, lb_or, la_or, l2_or, rt_ite, lb_ite, la_ite, l2_ite, rt_tup, lb_tup, la_tup, l2_tup, rt_lst, lb_lst, la_lst, rt_dc0, lb_dc0, la_dc0, l2_dc0, rt_ix, lb_ix, la_ix, l2_ix, rt_ixd, lb_ixd, la_ixd, l2_ixd, rt_att, lb_att, la_att, l2_att, rt_cal, lb_cal, la_cal, l2_cal, rt_calk, lb_calk, la_calk, l2_calk, rt_blt, lb_blt, la_blt, l2_blt, rt_isi, lb_isi, la_isi, l2_isi, l2_var, l2_ln, l2_lc, frz, snap, binD, cmpR, cmpD, idxR, idxD, bltD, isD, isNon, at0, at1, at2, eqD_int, List.getElem?_cons_zero, List.getElem?_cons_succ, List.set_cons_zero, List.set_cons_succ, List.length_cons, List.length_nil, setr, setl, takeA, putA, picks, outs, Option.map_some, Option.bind_some, Bool.false_eq_true, if_true, if_false, Bool.not_true, Bool.not_false, Bool.and_true, Bool.true_and, Bool.and_false, Bool.false_and, true_and, and_true, List.contains_nil, List.contains_cons, Nat.reduceLT, Nat.reduceAdd, Nat.reduceBEq, Bool.or_false, Bool.false_or, Bool.or_true, Bool.true_or, List.map_cons, List.map_nil, List.append_nil, List.cons_append, List.nil_append, decide_true, decide_false, Nat.not_lt_zero, g_common_divisor, d_common_divisor, ha, wC_of (common_divisor_ok hy)]
  have hd : divOk (Nat.gcd x y : Nat) = true := div_ok (by omega) (by omega)
  simp only [w_var, w_cst, wB_var, kO1_eq, kO2, w_bin, w_cmp, w_ix, w_neg, kNeg_int, w_no, kNo, kT_bl, w_and, w_or, w_ite, kAnd, kOr, kIte, w_cm2, kC1_eq, kC2_eq, kC3, wD_nil, wD_cons, kD1_eq, kD3, kD2, wR_nil, wR_cons, kR1, kR2, wA_nil, wA_var, kA1, kA2, kAv, kAn_sh, kAn_ol, kAn_od, w_tup, w_lst, kTup, kLst, w_dc0, kX1_eq, w_ixd, kX2_int, w_cal, kCal, w_calk, kKw1, kKw, w_blt1, w_blt, kBl1, kBl, w_isi, kIs, kV_sh, kV_ol, kL_some, kR_some, kR_if, kI_t, kI_f, s_nil, s_cons, kSq_nx, kSq_bk, kSq_ct, kSq_rt, kSq_ex, s_ex, kDr, s_asg, kAs_nm, kAs_tp, s_par, kPar, s_sidx, kSi1, kSi2, set0, set1, set2, s_iff, kIf, s_whl, s_rng, kRg_eq, kRg', s_seq, kSeq, s_retv, s_retn, kRv_some, s_rse, kRse, s_try, kTry_nx, kTry_bk, kTry_ct, kTry_rt, kTry_ex, s_pass, s_brk, s_cnt, kFin_nx, kFin_bk, kFin_ct, kFin_rt, kFin_ex, kO_some, suitS, suit, Su.flat, beq_self_eq_true, stg, wS_nx, wS_bk, wS_ct, wS_rt, wS_ex, rt_cst, lb_cst, la_cst, l2_cst, rt_glb, lb_glb, la_glb, l2_glb, rt_bin, lb_bin, la_bin, l2_bin, rt_neg, lb_neg, la_neg, l2_neg, rt_inv, lb_inv, la_inv, l2_inv, rt_no, lb_no, la_no, l2_no, rt_cmp, lb_cmp, la_cmp, l2_cmp, rt_cm2, lb_cm2, la_cm2, l2_cm2, rt_and, lb_and, la_and, l2_and, rt_or, lb_or, la_or, l2_or, rt_ite, lb_ite, la_ite, l2_ite, rt_tup, lb_tup, la_tup, l2_tup, rt_lst, lb_lst, la_lst, rt_dc0, lb_dc0, la_dc0, l2_dc0, rt_ix, lb_ix, la_ix, l2_ix, rt_ixd, lb_ixd, la_ixd, l2_ixd, rt_att, lb_att, la_att, l2_att, rt_cal, lb_cal, la_cal, l2_cal, rt_calk, lb_calk, la_calk, l2_calk, rt_blt, lb_blt, la_blt, l2_blt, rt_isi, lb_isi, la_isi, l2_isi, l2_var, l2_ln, l2_lc, frz, snap, binD, cmpR, cmpD, idxR, idxD, bltD, isD, isNon, at0, at1, at2, eqD_int, List.getElem?_cons_zero, List.getElem?_cons_succ, List.set_cons_zero, List.set_cons_succ, List.length_cons, List.length_nil, setr, setl, takeA, putA, picks, outs, Option.map_some, Option.bind_some, Bool.false_eq_true, if_true, if_false, Bool.not_true, Bool.not_false, Bool.and_true, Bool.true_and, Bool.and_false, Bool.false_and, true_and, and_true, List.contains_nil, List.contains_cons, Nat.reduceLT, Nat.reduceAdd, Nat.reduceBEq, Bool.or_false, Bool.false_or, Bool.or_true, Bool.true_or, List.map_cons, List.map_nil, List.append_nil, List.cons_append, List.nil_append, decide_true, decide_false, Nat.not_lt_zero, hd]
  simp only [low, Int.natCast_ediv]
/-! degrees -/
def isDeg : D → Bool
  | .tup [.int a, .int b] => decide (0 ≤ a) && (decide (a ≤ b) && (decide (0 < b) && decide (Nat.gcd a.toNat b.toNat = 1)))
  | _ => false
def szD (d : D) : Prop := ∀ a b, d = .tup [.int a, .int b] → b < 2 ^ 200
theorem is_degree_ok {d : D} (h : szD d) : CALL Gm (n + 2) F_is_degree [.sh d] = .ok (.sh (.bl (isDeg d))) [.sh d] := by
  refine wC_eq ?_
  rw [u_is_degree]
  cases d with
  | tup l =>
    match l, h with
    | [], h =>
      simp only [b_is_degree, w_var, w_cst, wB_var, kO1_eq, kO2, w_bin, w_cmp, w_ix, w_neg, kNeg_int, w_no, kNo, kT_bl, w_and, w_or, w_ite, kAnd, kOr, kIte, w_cm2, kC1_eq, kC2_eq, kC3, wD_nil, wD_cons, kD1_eq, kD3, kD2, wR_nil, wR_cons, kR1, kR2, wA_nil, wA_var, kA1, kA2, kAv, kAn_sh, kAn_ol, kAn_od, w_tup, w_lst, kTup, kLst, w_dc0, kX1_eq, w_ixd, kX2_int, w_cal, kCal, w_calk, kKw1, kKw, w_blt1, w_blt, kBl1, kBl, w_isi, kIs, kV_sh, kV_ol, kL_some, kR_some, kR_if, kI_t, kI_f, s_nil, s_cons, kSq_nx, kSq_bk, kSq_ct, kSq_rt, kSq_ex, s_ex, kDr, s_asg, kAs_nm, kAs_tp, s_par, kPar, s_sidx, kSi1, kSi2, set0, set1, set2, s_iff, kIf, s_whl, s_rng, kRg_eq, kRg', s_seq, kSeq, s_retv, s_retn, kRv_some, s_rse, kRse, s_try, kTry_nx, kTry_bk, kTry_ct, kTry_rt, kTry_ex, s_pass, s_brk, s_cnt, kFin_nx, kFin_bk, kFin_ct, kFin_rt, kFin_ex, kO_some, suitS, suit, Su.flat, beq_self_eq_true, stg, wS_nx, wS_bk, wS_ct, wS_rt, wS_ex, rt_cst, lb_cst, la_cst, l2_cst, rt_glb, lb_glb, la_glb, l2_glb, rt_bin, lb_bin, la_bin, l2_bin, rt_neg, lb_neg, la_neg, l2_neg, rt_inv, lb_inv, la_inv, l2_inv, rt_no, lb_no, la_no, l2_no, rt_cmp, lb_cmp, la_cmp, l2_cmp, rt_cm2, lb_cm2, la_cm2, l2_cm2, rt_and, lb_and, la_and, l2_and, rt_or, lb_or, la_or, l2_or, rt_ite, lb_ite, la_ite, l2_ite, rt_tup, lb_tup, la_tup, l2_tup, rt_lst, lb_lst, la_lst, rt_dc0, lb_dc0, la_dc0, l2_dc0, rt_ix, lb_ix, la_ix, l2_ix, rt_ixd, lb_ixd, la_ixd, l2_ixd, rt_att, lb_att, la_att, l2_att, rt_cal, lb_cal, la_cal, l2_cal, rt_calk, lb_calk, la_calk, l2_calk, rt_blt, lb_blt, la_blt, l2_blt, rt_isi, lb_isi, la_isi, l2_isi, l2_var, l2_ln, l2_lc, frz, snap, binD, cmpR, cmpD, idxR, idxD, bltD, isD, isNon, at0, at1, at2, eqD_int, List.getElem?_cons_zero, List.getElem?_cons_succ, List.set_cons_zero, List.set_cons_succ, List.length_cons, List.length_nil, setr, setl, takeA, putA, picks, outs, Option.map_some, Option.bind_some, Bool.false_eq_true, if_true, if_false, Bool.not_true, Bool.not_false, Bool.and_true, Bool.true_and, Bool.and_false, Bool.false_and, true_and, and_true, List.contains_nil, List.contains_cons, Nat.reduceLT, Nat.reduceAdd, Nat.reduceBEq, Bool.or_false, Bool.false_or, Bool.or_true, Bool.true_or, List.map_cons, List.map_nil, List.append_nil, List.cons_append, List.nil_append, decide_true, decide_false, Nat.not_lt_zero, isDeg]
      exact kI_both (fun _ => trivial) (fun h => by simp at h)
    | [x], h =>
      simp only [b_is_degree, w_var, w_cst, wB_var, kO1_eq, kO2, w_bin, w_cmp, w_ix, w_neg, kNeg_int, w_no, kNo, kT_bl, w_and, w_or, w_ite, kAnd, kOr, kIte, w_cm2, kC1_eq, kC2_eq, kC3, wD_nil, wD_cons, kD1_eq, kD3, kD2, wR_nil, wR_cons, kR1, kR2, wA_nil, wA_var, kA1, kA2, kAv, kAn_sh, kAn_ol, kAn_od, w_tup, w_lst, kTup, kLst, w_dc0, kX1_eq, w_ixd, kX2_int, w_cal, kCal, w_calk, kKw1, kKw, w_blt1, w_blt, kBl1, kBl, w_isi, kIs, kV_sh, kV_ol, kL_some, kR_some, kR_if, kI_t, kI_f, s_nil, s_cons, kSq_nx, kSq_bk, kSq_ct, kSq_rt, kSq_ex, s_ex, kDr, s_asg, kAs_nm, kAs_tp, s_par, kPar, s_sidx, kSi1, kSi2, set0, set1, set2, s_iff, kIf, s_whl, s_rng, kRg_eq, kRg', s_seq, kSeq, s_retv, s_retn, kRv_some, s_rse, kRse, s_try, kTry_nx, kTry_bk, kTry_ct, kTry_rt, kTry_ex, s_pass, s_brk, s_cnt, kFin_nx, kFin_bk, kFin_ct, kFin_rt, kFin_ex, kO_some, suitS, suit, Su.flat, beq_self_eq_true, stg, wS_nx, wS_bk, wS_ct, wS_rt, wS_ex, rt_cst, lb_cst, la_cst, l2_cst, rt_glb, lb_glb, la_glb, l2_glb, rt_bin, lb_bin, la_bin, l2_bin, rt_neg, lb_neg, la_neg, l2_neg, rt_inv, lb_inv, la_inv, l2_inv, rt_no, lb_no, la_no, l2_no, rt_cmp, lb_cmp, la_cmp, l2_cmp, rt_cm2, lb_cm2, la_cm2, l2_cm2, rt_and, lb_and, la_and, l2_and, rt_or, lb_or, la_or, l2_or, rt_ite, lb_ite, la_ite, l2_ite, rt_tup, lb_tup, la_tup, l2_tup, rt_lst, lb_lst, la_lst, rt_dc0, lb_dc0, la_dc0, l2_dc0, rt_ix, lb_ix, la_ix, l2_ix, rt_ixd, lb_ixd, la_ixd, l2_ixd, rt_att, lb_att, la_att, l2_att, rt_cal, lb_cal, la_cal, l2_cal, rt_calk, lb_calk, la_calk, l2_calk, rt_blt, lb_blt, la_blt, l2_blt, rt_isi, lb_isi, la_isi, l2_isi, l2_var, l2_ln, l2_lc, frz, snap, binD, cmpR, cmpD, idxR, idxD, bltD, isD, isNon, at0, at1, at2, eqD_int, List.getElem?_cons_zero, List.getElem?_cons_succ, List.set_cons_zero, List.set_cons_succ, List.length_cons, List.length_nil, setr, setl, takeA, putA, picks, outs, Option.map_some, Option.bind_some, Bool.false_eq_true, if_true, if_false, Bool.not_true, Bool.not_false, Bool.and_true, Bool.true_and, Bool.and_false, Bool.false_and, true_and, and_true, List.contains_nil, List.contains_cons, Nat.reduceLT, Nat.reduceAdd, Nat.reduceBEq, Bool.or_false, Bool.false_or, Bool.or_true, Bool.true_or, List.map_cons, List.map_nil, List.append_nil, List.cons_append, List.nil_append, decide_true, decide_false, Nat.not_lt_zero, isDeg]
      exact kI_both (fun _ => trivial) (fun h => by simp at h)
    | x :: y :: z :: l, h =>
      simp only [b_is_degree, w_var, w_cst, wB_var, kO1_eq, kO2, w_bin, w_cmp, w_ix, w_neg, kNeg_int, w_no, kNo, kT_bl, w_and, w_or, w_ite, kAnd, kOr, kIte, w_cm2, kC1_eq, kC2_eq, kC3, wD_nil, wD_cons, kD1_eq, kD3, kD2, wR_nil, wR_cons, kR1, kR2, wA_nil, wA_var, kA1, kA2, kAv, kAn_sh, kAn_ol, kAn_od, w_tup, w_lst, kTup, kLst, w_dc0, kX1_eq, w_ixd, kX2_int, w_cal, kCal, w_calk, kKw1, kKw, w_blt1, w_blt, kBl1, kBl, w_isi, kIs, kV_sh, kV_ol, kL_some, kR_some, kR_if, kI_t, kI_f, s_nil, s_cons, kSq_nx, kSq_bk, kSq_ct, kSq_rt, kSq_ex, s_ex, kDr, s_asg, kAs_nm, kAs_tp, s_par, kPar, s_sidx, kSi1, kSi2, set0, set1, set2, s_iff, kIf, s_whl, s_rng, kRg_eq, kRg', s_seq, kSeq, s_retv, s_retn, kRv_some, s_rse, kRse, s_try, kTry_nx, kTry_bk, kTry_ct, kTry_rt, kTry_ex, s_pass, s_brk, s_cnt, kFin_nx, kFin_bk, kFin_ct, kFin_rt, kFin_ex, kO_some, suitS, suit, Su.flat, beq_self_eq_true, stg, wS_nx, wS_bk, wS_ct, wS_rt, wS_ex, rt_cst, lb_cst, la_cst, l2_cst, rt_glb, lb_glb, la_glb, l2_glb, rt_bin, lb_bin, la_bin, l2_bin, rt_neg, lb_neg, la_neg, l2_neg, rt_inv, lb_inv, la_inv, l2_inv, rt_no, lb_no, la_no, l2_no, rt_cmp, lb_cmp, la_cmp, l2_cmp, rt_cm2, lb_cm2, la_cm2, l2_cm2, rt_and, lb_and, la_and, l2_and, rt_or, lb_or, la_or, l2_or, rt_ite, lb_ite, la_ite, l2_ite, rt_tup, lb_tup, la_tup, l2_tup, rt_lst, lb_lst, la_lst, rt_dc0, lb_dc0, la_dc0, l2_dc0, rt_ix, lb_ix, la_ix, l2_ix, rt_ixd, lb_ixd, la_ixd, l2_ixd, rt_att, lb_att, la_att, l2_att, rt_cal, lb_cal, la_cal, l2_cal, rt_calk, lb_calk, la_calk, l2_calk, rt_blt, lb_blt, la_blt, l2_blt, rt_isi, lb_isi, la_isi, l2_isi, l2_var, l2_ln, l2_lc, frz, snap, binD, cmpR, cmpD, idxR, idxD, bltD, isD, isNon, at0, at1, at2, eqD_int, List.getElem?_cons_zero, List.getElem?_cons_succ, List.set_cons_zero, List.set_cons_succ, List.length_cons, List.length_nil, setr, setl, takeA, putA, picks, outs, Option.map_some, Option.bind_some, Bool.false_eq_true, if_true, if_false, Bool.not_true, Bool.not_false, Bool.and_true, Bool.true_and, Bool.and_false, Bool.false_and, true_and, and_true, List.contains_nil, List.contains_cons, Nat.reduceLT, Nat.reduceAdd, Nat.reduceBEq, Bool.or_false, Bool.false_or, Bool.or_true, Bool.true_or, List.map_cons, List.map_nil, List.append_nil, List.cons_append, List.nil_append, decide_true, decide_false, Nat.not_lt_zero, isDeg]
      exact kI_both (fun _ => trivial) (fun h => by simp at h; omega)
    | [x, y], h =>
      have two : (!decide ((((0 + 1 + 1 : Nat)) : Int) = 2)) = false := by decide
      cases x with
      | int a =>
        cases y with
        | int b =>
          simp only [b_is_degree, w_var, w_cst, wB_var, kO1_eq, kO2, w_bin, w_cmp, w_ix, w_neg, kNeg_int, w_no, kNo, kT_bl, w_and, w_or, w_ite, kAnd, kOr, kIte, w_cm2, kC1_eq, kC2_eq, kC3, wD_nil, wD_cons, kD1_eq, kD3, kD2, wR_nil, wR_cons, kR1, kR2, wA_nil, wA_var, kA1, kA2, kAv, kAn_sh, kAn_ol, kAn_od, w_tup, w_lst, kTup, kLst, w_dc0, kX1_eq, w_ixd, kX2_int, w_cal, kCal, w_calk, kKw1, kKw, w_blt1, w_blt, kBl1, kBl, w_isi, kIs, kV_sh, kV_ol, kL_some, kR_some, kR_if, kI_t, kI_f, s_nil, s_cons, kSq_nx, kSq_bk, kSq_ct, kSq_rt, kSq_ex, s_ex, kDr, s_asg, kAs_nm, kAs_tp, s_par, kPar, s_sidx, kSi1, kSi2, set0, set1, set2, s_iff, kIf, s_whl, s_rng, kRg_eq, kRg', s_seq, kSeq, s_retv, s_retn, kRv_some, s_rse, kRse, s_try, kTry_nx, kTry_bk, kTry_ct, kTry_rt, kTry_ex, s_pass, s_brk, s_cnt, kFin_nx, kFin_bk, kFin_ct, kFin_rt, kFin_ex, kO_some, suitS, suit, Su.flat, beq_self_eq_true, stg, wS_nx, wS_bk, wS_ct, wS_rt, wS_ex, rt_cst, lb_cst, la_cst, l2_cst, rt_glb, lb_glb, la_glb, l2_glb, rt_bin, lb_bin, la_bin, l2_bin, rt_neg, lb_neg, la_neg, l2_neg, rt_inv, lb_inv, la_inv, l2_inv, rt_no, lb_no, la_no, l2_no, rt_cmp, lb_cmp, la_cmp, l2_cmp, rt_cm2, lb_cm2, la_cm2, l2_cm2, rt_and, lb_and, la_and, l2_and, rt_or, lb_or, la_or, l2_or, rt_ite, lb_ite, la_ite, l2_ite, rt_tup, lb_tup, la_tup, l2_tup, rt_lst, lb_lst, la_lst, rt_dc0, lb_dc0, la_dc0, l2_dc0, rt_ix, lb_ix, la_ix, l2_ix, rt_ixd, lb_ixd, la_ixd, l2_ixd, rt_att, lb_att, la_att, l2_att, rt_cal, lb_cal, la_cal, l2_cal, rt_calk, lb_calk, la_calk, l2_calk, rt_blt, lb_blt, la_blt, l2_blt, rt_isi, lb_isi, la_isi, l2_isi, l2_var, l2_ln, l2_lc, frz, snap, binD, cmpR, cmpD, idxR, idxD, bltD, isD, isNon, at0, at1, at2, eqD_int, List.getElem?_cons_zero, List.getElem?_cons_succ, List.set_cons_zero, List.set_cons_succ, List.length_cons, List.length_nil, setr, setl, takeA, putA, picks, outs, Option.map_some, Option.bind_some, Bool.false_eq_true, if_true, if_false, Bool.not_true, Bool.not_false, Bool.and_true, Bool.true_and, Bool.and_false, Bool.false_and, true_and, and_true, List.contains_nil, List.contains_cons, Nat.reduceLT, Nat.reduceAdd, Nat.reduceBEq, Bool.or_false, Bool.false_or, Bool.or_true, Bool.true_or, List.map_cons, List.map_nil, List.append_nil, List.cons_append, List.nil_append, decide_true, decide_false, Nat.not_lt_zero, g_is_integer, d_is_integer, g_common_divisor, d_common_divisor, is_integer_ok, two, isI]
          refine kI_both (fun h1 => ?_) (fun h1 => ?_)
          · refine kI_both (fun h2 => ?_) (fun h2 => ?_)
            · refine kI_both (fun h3 => ?_) (fun h3 => ?_)
              · have h1' := of_decide_eq_true h1
                have h2' := of_decide_eq_true h2
                have h3' := of_decide_eq_true h3
                obtain ⟨a, rfl⟩ := Int.eq_ofNat_of_zero_le h1'
                obtain ⟨b, rfl⟩ := Int.eq_ofNat_of_zero_le (Int.le_trans h1' h2')
                have hb : b < 2 ^ 200 := by
                  have q := h _ _ rfl
                  have e : ((2 : Int) ^ 200) = ((2 ^ 200 : Nat) : Int) := by norm_cast
                  rw [e] at q
                  exact_mod_cast q
                simp only [wC_of (common_divisor_ok (n := n) hb), w_var, w_cst, wB_var, kO1_eq, kO2, w_bin, w_cmp, w_ix, w_neg, kNeg_int, w_no, kNo, kT_bl, w_and, w_or, w_ite, kAnd, kOr, kIte, w_cm2, kC1_eq, kC2_eq, kC3, wD_nil, wD_cons, kD1_eq, kD3, kD2, wR_nil, wR_cons, kR1, kR2, wA_nil, wA_var, kA1, kA2, kAv, kAn_sh, kAn_ol, kAn_od, w_tup, w_lst, kTup, kLst, w_dc0, kX1_eq, w_ixd, kX2_int, w_cal, kCal, w_calk, kKw1, kKw, w_blt1, w_blt, kBl1, kBl, w_isi, kIs, kV_sh, kV_ol, kL_some, kR_some, kR_if, kI_t, kI_f, s_nil, s_cons, kSq_nx, kSq_bk, kSq_ct, kSq_rt, kSq_ex, s_ex, kDr, s_asg, kAs_nm, kAs_tp, s_par, kPar, s_sidx, kSi1, kSi2, set0, set1, set2, s_iff, kIf, s_whl, s_rng, kRg_eq, kRg', s_seq, kSeq, s_retv, s_retn, kRv_some, s_rse, kRse, s_try, kTry_nx, kTry_bk, kTry_ct, kTry_rt, kTry_ex, s_pass, s_brk, s_cnt, kFin_nx, kFin_bk, kFin_ct, kFin_rt, kFin_ex, kO_some, suitS, suit, Su.flat, beq_self_eq_true, stg, wS_nx, wS_bk, wS_ct, wS_rt, wS_ex, rt_cst, lb_cst, la_cst, l2_cst, rt_glb, lb_glb, la_glb, l2_glb, rt_bin, lb_bin, la_bin, l2_bin, rt_neg, lb_neg, la_neg, l2_neg, rt_inv, lb_inv, la_inv, l2_inv, rt_no, lb_no, la_no, l2_no, rt_cmp, lb_cmp, la_cmp, l2_cmp, rt_cm2, lb_cm2, la_cm2, l2_cm2, rt_and, lb_and, la_and, l2_and, rt_or, lb_or, la_or, l2_or, rt_ite, lb_ite, la_ite, l2_ite, rt_tup, lb_tup, la_tup, l2_tup, rt_lst, lb_lst, la_lst, rt_dc0, lb_dc0, la_dc0, l2_dc0, rt_ix, lb_ix, la_ix, l2_ix, rt_ixd, lb_ixd, la_ixd, l2_ixd, rt_att, lb_att, la_att, l2_att, rt_cal, lb_cal, la_cal, l2_cal, rt_calk, lb_calk, la_calk, l2_calk, rt_blt, lb_blt, la_blt, l2_blt, rt_isi, lb_isi, la_isi, l2_isi, l2_var, l2_ln, l2_lc, frz, snap, binD, cmpR, cmpD, idxR, idxD, bltD, isD, isNon, at0, at1, at2, eqD_int, List.getElem?_cons_zero, List.getElem?_cons_succ, List.set_cons_zero, List.set_cons_succ, List.length_cons, List.length_nil, setr, setl, takeA, putA, picks, outs, Option.map_some, Option.bind_some, Bool.false_eq_true, if_true, if_false, Bool.not_true, Bool.not_false, Bool.and_true, Bool.true_and, Bool.and_false, Bool.false_and, true_and, and_true, List.contains_nil, List.contains_cons, Nat.reduceLT, Nat.reduceAdd, Nat.reduceBEq, Bool.or_false, Bool.false_or, Bool.or_true, Bool.true_or, List.map_cons, List.map_nil, List.append_nil, List.cons_append, List.nil_append, decide_true, decide_false, Nat.not_lt_zero, isDeg, h1, h2, h3]
                have e : (((Nat.gcd a b : Nat) : Int) = 1) = (Nat.gcd a b = 1) := propext (by omega)
                simp only [Int.toNat_natCast, e]
              · simp only [w_var, w_cst, wB_var, kO1_eq, kO2, w_bin, w_cmp, w_ix, w_neg, kNeg_int, w_no, kNo, kT_bl, w_and, w_or, w_ite, kAnd, kOr, kIte, w_cm2, kC1_eq, kC2_eq, kC3, wD_nil, wD_cons, kD1_eq, kD3, kD2, wR_nil, wR_cons, kR1, kR2, wA_nil, wA_var, kA1, kA2, kAv, kAn_sh, kAn_ol, kAn_od, w_tup, w_lst, kTup, kLst, w_dc0, kX1_eq, w_ixd, kX2_int, w_cal, kCal, w_calk, kKw1, kKw, w_blt1, w_blt, kBl1, kBl, w_isi, kIs, kV_sh, kV_ol, kL_some, kR_some, kR_if, kI_t, kI_f, s_nil, s_cons, kSq_nx, kSq_bk, kSq_ct, kSq_rt, kSq_ex, s_ex, kDr, s_asg, kAs_nm, kAs_tp, s_par, kPar, s_sidx, kSi1, kSi2, set0, set1, set2, s_iff, kIf, s_whl, s_rng, kRg_eq, kRg', s_seq, kSeq, s_retv, s_retn, kRv_some, s_rse, kRse, s_try, kTry_nx, kTry_bk, kTry_ct, kTry_rt, kTry_ex, s_pass, s_brk, s_cnt, kFin_nx, kFin_bk, kFin_ct, kFin_rt, kFin_ex, kO_some, suitS, suit, Su.flat, beq_self_eq_true, stg, wS_nx, wS_bk, wS_ct, wS_rt, wS_ex, rt_cst, lb_cst, la_cst, l2_cst, rt_glb, lb_glb, la_glb, l2_glb, rt_bin, lb_bin, la_bin, l2_bin, rt_neg, lb_neg, la_neg, l2_neg, rt_inv, lb_inv, la_inv, l2_inv, rt_no, lb_no, la_no, l2_no, rt_cmp, lb_cmp, la_cmp, l2_cmp, rt_cm2, lb_cm2, la_cm2, l2_cm2, rt_and, lb_and, la_and, l2_and, rt_or, lb_or, la_or, l2_or, rt_ite, lb_ite, la_ite, l2_ite, rt_tup, lb_tup, la_tup, l2_tup, rt_lst, lb_lst, la_lst, rt_dc0, lb_dc0, la_dc0, l2_dc0, rt_ix, lb_ix, la_ix, l2_ix, rt_ixd, lb_ixd, la_ixd, l2_ixd, rt_att, lb_att, la_att, l2_att, rt_cal, lb_cal, la_cal, l2_cal, rt_calk, lb_calk, la_calk, l2_calk, rt_blt, lb_blt, la_blt, l2_blt, rt_isi, lb_isi, la_isi, l2_isi, l2_var, l2_ln, l2_lc, frz, snap, binD, cmpR, cmpD, idxR, idxD, bltD, isD, isNon, at0, at1, at2, eqD_int, List.getElem?_cons_zero, List.getElem?_cons_succ, List.set_cons_zero, List.set_cons_succ, List.length_cons, List.length_nil, setr, setl, takeA, putA, picks, outs, Option.map_some, Option.bind_some, Bool.false_eq_true, if_true, if_false, Bool.not_true, Bool.not_false, Bool.and_true, Bool.true_and, Bool.and_false, Bool.false_and, true_and, and_true, List.contains_nil, List.contains_cons, Nat.reduceLT, Nat.reduceAdd, Nat.reduceBEq, Bool.or_false, Bool.false_or, Bool.or_true, Bool.true_or, List.map_cons, List.map_nil, List.append_nil, List.cons_append, List.nil_append, decide_true, decide_false, Nat.not_lt_zero, isDeg, h1, h2, h3]
            · simp only [w_var, w_cst, wB_var, kO1_eq, kO2, w_bin, w_cmp, w_ix, w_neg, kNeg_int, w_no, kNo, kT_bl, w_and, w_or, w_ite, kAnd, kOr, kIte, w_cm2, kC1_eq, kC2_eq, kC3, wD_nil, wD_cons, kD1_eq, kD3, kD2, wR_nil, wR_cons, kR1, kR2, wA_nil, wA_var, kA1, kA2, kAv, kAn_sh, kAn_ol, kAn_od, w_tup, w_lst, kTup, kLst, w_dc0, kX1_eq, w_ixd, kX2_int, w_cal, kCal, w_calk, kKw1, kKw, w_blt1, w_blt, kBl1, kBl, w_isi, kIs, kV_sh, kV_ol, kL_some, kR_some, kR_if, kI_t, kI_f, s_nil, s_cons, kSq_nx, kSq_bk, kSq_ct, kSq_rt, kSq_ex, s_ex, kDr, s_asg, kAs_nm, kAs_tp, s_par, kPar, s_sidx, kSi1, kSi2, set0, set1, set2, s_iff, kIf, s_whl, s_rng, kRg_eq, kRg', s_seq, kSeq, s_retv, s_retn, kRv_some, s_rse, kRse, s_try, kTry_nx, kTry_bk, kTry_ct, kTry_rt, kTry_ex, s_pass, s_brk, s_cnt, kFin_nx, kFin_bk, kFin_ct, kFin_rt, kFin_ex, kO_some, suitS, suit, Su.flat, beq_self_eq_true, stg, wS_nx, wS_bk, wS_ct, wS_rt, wS_ex, rt_cst, lb_cst, la_cst, l2_cst, rt_glb, lb_glb, la_glb, l2_glb, rt_bin, lb_bin, la_bin, l2_bin, rt_neg, lb_neg, la_neg, l2_neg, rt_inv, lb_inv, la_inv, l2_inv, rt_no, lb_no, la_no, l2_no, rt_cmp, lb_cmp, la_cmp, l2_cmp, rt_cm2, lb_cm2, la_cm2, l2_cm2, rt_and, lb_and, la_and, l2_and, rt_or, lb_or, la_or, l2_or, rt_ite, lb_ite, la_ite, l2_ite, rt_tup, lb_tup, la_tup, l2_tup, rt_lst, lb_lst, la_lst, rt_dc0, lb_dc0, la_dc0, l2_dc0, rt_ix, lb_ix, la_ix, l2_ix, rt_ixd, lb_ixd, la_ixd, l2_ixd, rt_att, lb_att, la_att, l2_att, rt_cal, lb_cal, la_cal, l2_cal, rt_calk, lb_calk, la_calk, l2_calk, rt_blt, lb_blt, la_blt, l2_blt, rt_isi, lb_isi, la_isi, l2_isi, l2_var, l2_ln, l2_lc, frz, snap, binD, cmpR, cmpD, idxR, idxD, bltD, isD, isNon, at0, at1, at2, eqD_int, List.getElem?_cons_zero, List.getElem?_cons_succ, List.set_cons_zero, List.set_cons_succ, List.length_cons, List.length_nil, setr, setl, takeA, putA, picks, outs, Option.map_some, Option.bind_some, Bool.false_eq_true, if_true, if_false, Bool.not_true, Bool.not_false, Bool.and_true, Bool.true_and, Bool.and_false, Bool.false_and, true_and, and_true, List.contains_nil, List.contains_cons, Nat.reduceLT, Nat.reduceAdd, Nat.reduceBEq, Bool.or_false, Bool.false_or, Bool.or_true, Bool.true_or, List.map_cons, List.map_nil, List.append_nil, List.cons_append, List.nil_append, decide_true, decide_false, Nat.not_lt_zero, isDeg, h1, h2]
          · simp only [w_var, w_cst, wB_var, kO1_eq, kO2, w_bin, w_cmp, w_ix, w_neg, kNeg_int, w_no, kNo, kT_bl, w_and, w_or, w_ite, kAnd, kOr, kIte, w_cm2, kC1_eq, kC2_eq, kC3, wD_nil, wD_cons, kD1_eq, kD3, kD2, wR_nil, wR_cons, kR1, kR2, wA_nil, wA_var, kA1, kA2, kAv, kAn_sh, kAn_ol, kAn_od, w_tup, w_lst, kTup, kLst, w_dc0, kX1_eq, w_ixd, kX2_int, w_cal, kCal, w_calk, kKw1, kKw, w_blt1, w_blt, kBl1, kBl, w_isi, kIs, kV_sh, kV_ol, kL_some, kR_some, kR_if, kI_t, kI_f, s_nil, s_cons, kSq_nx, kSq_bk, kSq_ct, kSq_rt, kSq_ex, s_ex, kDr, s_asg, kAs_nm, kAs_tp, s_par, kPar, s_sidx, kSi1, kSi2, set0, set1, set2, s_iff, kIf, s_whl, s_rng, kRg_eq, kRg', s_seq, kSeq, s_retv, s_retn, kRv_some, s_rse, kRse, s_try, kTry_nx, kTry_bk, kTry_ct, kTry_rt, kTry_ex, s_pass, s_brk, s_cnt, kFin_nx, kFin_bk, kFin_ct, kFin_rt, kFin_ex, kO_some, suitS, suit, Su.flat, beq_self_eq_true, stg, wS_nx, wS_bk, wS_ct, wS_rt, wS_ex, rt_cst, lb_cst, la_cst, l2_cst, rt_glb, lb_glb, la_glb, l2_glb, rt_bin, lb_bin, la_bin, l2_bin, rt_neg, lb_neg, la_neg, l2_neg, rt_inv, lb_inv, la_inv, l2_inv, rt_no, lb_no, la_no, l2_no, rt_cmp, lb_cmp, la_cmp, l2_cmp, rt_cm2, lb_cm2, la_cm2, l2_cm2, rt_and, lb_and, la_and, l2_and, rt_or, lb_or, la_or, l2_or, rt_ite, lb_ite, la_ite, l2_ite, rt_tup, lb_tup, la_tup, l2_tup, rt_lst, lb_lst, la_lst, rt_dc0, lb_dc0, la_dc0, l2_dc0, rt_ix, lb_ix, la_ix, l2_ix, rt_ixd, lb_ixd, la_ixd, l2_ixd, rt_att, lb_att, la_att, l2_att, rt_cal, lb_cal, la_cal, l2_cal, rt_calk, lb_calk, la_calk, l2_calk, rt_blt, lb_blt, la_blt, l2_blt, rt_isi, lb_isi, la_isi, l2_isi, l2_var, l2_ln, l2_lc, frz, snap, binD, cmpR, cmpD, idxR, idxD, bltD, isD, isNon, at0, at1, at2, eqD_int, List.getElem?_cons_zero, List.getElem?_cons_succ, List.set_cons_zero, List.set_cons_succ, List.length_cons, List.length_nil, setr, setl, takeA, putA, picks, outs, Option.map_some, Option.bind_some, Bool.false_eq_true, if_true, if_false, Bool.not_true, Bool.not_false, Bool.and_true, Bool.true_and, Bool.and_false, Bool.false_and, true_and, and_true, List.contains_nil, List.contains_cons, Nat.reduceLT, Nat.reduceAdd, Nat.reduceBEq, Bool.or_false, Bool.false_or, Bool.or_true, Bool.true_or, List.map_cons, List.map_nil, List.append_nil, List.cons_append, List.nil_append, decide_true, decide_false, Nat.not_lt_zero, isDeg, h1]
        | _ => simp only [b_is_degree, w_var, w_cst, wB_var, kO1_eq, kO2, w_bin, w_cmp, w_ix, w_neg, kNeg_int, w_no, kNo, kT_bl, w_and, w_or, w_ite, kAnd, kOr, kIte, w_cm2, kC1_eq, kC2_eq, kC3, wD_nil, wD_cons, kD1_eq, kD3, kD2, wR_nil, wR_cons, kR1, kR2, wA_nil, wA_var, kA1, kA2, kAv, kAn_sh, kAn_ol, kAn_od, w_tup, w_lst, kTup, kLst, w_dc0, kX1_eq, w_ixd, kX2_int, w_cal, kCal, w_calk, kKw1, kKw, w_blt1, w_blt, kBl1, kBl, w_isi, kIs, kV_sh, kV_ol, kL_some, kR_some, kR_if, kI_t, kI_f, s_nil, s_cons, kSq_nx, kSq_bk, kSq_ct, kSq_rt, kSq_ex, s_ex, kDr, s_asg, kAs_nm, kAs_tp, s_par, kPar, s_sidx, kSi1, kSi2, set0, set1, set2, s_iff, kIf, s_whl, s_rng, kRg_eq, kRg', s_seq, kSeq, s_retv, s_retn, kRv_some, s_rse, kRse, s_try, kTry_nx, kTry_bk, kTry_ct, kTry_rt, kTry_ex, s_pass, s_brk, s_cnt, kFin_nx, kFin_bk, kFin_ct, kFin_rt, kFin_ex, kO_some, suitS, suit, Su.flat, beq_self_eq_true, stg, wS_nx, wS_bk, wS_ct, wS_rt, wS_ex, rt_cst, lb_cst, la_cst, l2_cst, rt_glb, lb_glb, la_glb, l2_glb, rt_bin, lb_bin, la_bin, l2_bin, rt_neg, lb_neg, la_neg, l2_neg, rt_inv, lb_inv, la_inv, l2_inv, rt_no, lb_no, la_no, l2_no, rt_cmp, lb_cmp, la_cmp, l2_cmp, rt_cm2, lb_cm2, la_cm2, l2_cm2, rt_and, lb_and, la_and, l2_and, rt_or, lb_or, la_or, l2_or, rt_ite, lb_ite, la_ite, l2_ite, rt_tup, lb_tup, la_tup, l2_tup, rt_lst, lb_lst, la_lst, rt_dc0, lb_dc0, la_dc0, l2_dc0, rt_ix, lb_ix, la_ix, l2_ix, rt_ixd, lb_ixd, la_ixd, l2_ixd, rt_att, lb_att, la_att, l2_att, rt_cal, lb_cal, la_cal, l2_cal, rt_calk, lb_calk, la_calk, l2_calk, rt_blt, lb_blt, la_blt, l2_blt, rt_isi, lb_isi, la_isi, l2_isi, l2_var, l2_ln, l2_lc, frz, snap, binD, cmpR, cmpD, idxR, idxD, bltD, isD, isNon, at0, at1, at2, eqD_int, List.getElem?_cons_zero, List.getElem?_cons_succ, List.set_cons_zero, List.set_cons_succ, List.length_cons, List.length_nil, setr, setl, takeA, putA, picks, outs, Option.map_some, Option.bind_some, Bool.false_eq_true, if_true, if_false, Bool.not_true, Bool.not_false, Bool.and_true, Bool.true_and, Bool.and_false, Bool.false_and, true_and, and_true, List.contains_nil, List.contains_cons, Nat.reduceLT, Nat.reduceAdd, Nat.reduceBEq, Bool.or_false, Bool.false_or, Bool.or_true, Bool.true_or, List.map_cons, List.map_nil, List.append_nil, List.cons_append, List.nil_append, decide_true, decide_false, Nat.not_lt_zero, g_is_integer, d_is_integer, g_common_divisor, d_common_divisor, is_integer_ok, two, isI, isDeg]
      | _ => simp only [b_is_degree, w_var, w_cst, wB_var, kO1_eq, kO2, w_bin, w_cmp, w_ix, w_neg, kNeg_int, w_no, kNo, kT_bl, w_and, w_or, w_ite, kAnd, kOr, kIte, w_cm2, kC1_eq, kC2_eq, kC3, wD_nil, wD_cons, kD1_eq, kD3, kD2, wR_nil, wR_cons, kR1, kR2, wA_nil, wA_var, kA1, kA2, kAv, kAn_sh, kAn_ol, kAn_od, w_tup, w_lst, kTup, kLst, w_dc0, kX1_eq, w_ixd, kX2_int, w_cal, kCal, w_calk, kKw1, kKw, w_blt1, w_blt, kBl1, kBl, w_isi, kIs, kV_sh, kV_ol, kL_some, kR_some, kR_if, kI_t, kI_f, s_nil, s_cons, kSq_nx, kSq_bk, kSq_ct, kSq_rt, kSq_ex, s_ex, kDr, s_asg, kAs_nm, kAs_tp, s_par, kPar, s_sidx, kSi1, kSi2, set0, set1, set2, s_iff, kIf, s_whl, s_rng, kRg_eq, kRg', s_seq, kSeq, s_retv, s_retn, kRv_some, s_rse, kRse, s_try, kTry_nx, kTry_bk, kTry_ct, kTry_rt, kTry_ex, s_pass, s_brk, s_cnt, kFin_nx, kFin_bk, kFin_ct, kFin_rt, kFin_ex, kO_some, suitS, suit, Su.flat, beq_self_eq_true, stg, wS_nx, wS_bk, wS_ct, wS_rt, wS_ex, rt_cst, lb_cst, la_cst, l2_cst, rt_glb, lb_glb, la_glb, l2_glb, rt_bin, lb_bin, la_bin, l2_bin, rt_neg, lb_neg, la_neg, l2_neg, rt_inv, lb_inv, la_inv, l2_inv, rt_no, lb_no, la_no, l2_no, rt_cmp, lb_cmp, la_cmp, l2_cmp, rt_cm2, lb_cm2, la_cm2, l2_cm2, rt_and, lb_and, la_and, l2_and, rt_or, lb_or, la_or, l2_or, rt_ite, lb_ite, la_ite, l2_ite, rt_tup, lb_tup, la_tup, l2_tup, rt_lst, lb_lst, la_lst, rt_dc0, lb_dc0, la_dc0, l2_dc0, rt_ix, lb_ix, la_ix, l2_ix, rt_ixd, lb_ixd, la_ixd, l2_ixd, rt_att, lb_att, la_att, l2_att, rt_cal, lb_cal, la_cal, l2_cal, rt_calk, lb_calk, la_calk, l2_calk, rt_blt, lb_blt, la_blt, l2_blt, rt_isi, lb_isi, la_isi, l2_isi, l2_var, l2_ln, l2_lc, frz, snap, binD, cmpR, cmpD, idxR, idxD, bltD, isD, isNon, at0, at1, at2, eqD_int, List.getElem?_cons_zero, List.getElem?_cons_succ, List.set_cons_zero, List.set_cons_succ, List.length_cons, List.length_nil, setr, setl, takeA, putA, picks, outs, Option.map_some, Option.bind_some, Bool.false_eq_true, if_true, if_false, Bool.not_true, Bool.not_false, Bool.and_true, Bool.true_and, Bool.and_false, Bool.false_and, true_and, and_true, List.contains_nil, List.contains_cons, Nat.reduceLT, Nat.reduceAdd, Nat.reduceBEq, Bool.or_false, Bool.false_or, Bool.or_true, Bool.true_or, List.map_cons, List.map_nil, List.append_nil, List.cons_append, List.nil_append, decide_true, decide_false, Nat.not_lt_zero, g_is_integer, d_is_integer, g_common_divisor, d_common_divisor, is_integer_ok, two, isI, isDeg]
  | _ => simp only [b_is_degree, w_var, w_cst, wB_var, kO1_eq, kO2, w_bin, w_cmp, w_ix, w_neg, kNeg_int, w_no, kNo, kT_bl, w_and, w_or, w_ite, kAnd, kOr, kIte, w_cm2, kC1_eq, kC2_eq, kC3, wD_nil, wD_cons, kD1_eq, kD3, kD2, wR_nil, wR_cons, kR1, kR2, wA_nil, wA_var, kA1, kA2, kAv, kAn_sh, kAn_ol, kAn_od, w_tup, w_lst, kTup, kLst, w_dc0, kX1_eq, w_ixd, kX2_int, w_cal, kCal, w_calk, kKw1, kKw, w_blt1, w_blt, kBl1, kBl, w_isi, kIs, kV_sh, kV_ol, kL_some, kR_some, kR_if, kI_t, kI_f, s_nil, s_cons, kSq_nx, kSq_bk, kSq_ct, kSq_rt, kSq_ex, s_ex, kDr, s_asg, kAs_nm, kAs_tp, s_par, kPar, s_sidx, kSi1, kSi2, set0, set1, set2, s_iff, kIf, s_whl, s_rng, kRg_eq, kRg', s_seq, kSeq, s_retv, s_retn, kRv_some, s_rse, kRse, s_try, kTry_nx, kTry_bk, kTry_ct, kTry_rt, kTry_ex, s_pass, s_brk, s_cnt, kFin_nx, kFin_bk, kFin_ct, kFin_rt, kFin_ex, kO_some, suitS, suit, Su.flat, beq_self_eq_true, stg, wS_nx, wS_bk, wS_ct, wS_rt, wS_ex, rt_cst, lb_cst, la_cst, l2_cst, rt_glb, lb_glb, la_glb, l2_glb, rt_bin, lb_bin, la_bin, l2_bin, rt_neg, lb_neg, la_neg, l2_neg, rt_inv, lb_inv, la_inv, l2_inv, rt_no, lb_no, la_no, l2_no, rt_cmp, lb_cmp, la_cmp, l2_cmp, rt_cm2, lb_cm2, la_cm2, l2_cm2, rt_and, lb_and, la_and, l2_and, rt_or, lb_or, la_or, l2_or, rt_ite, lb_ite, la_ite, l2_ite, rt_tup, lb_tup, la_tup, l2_tup, rt_lst, lb_lst, la_lst, rt_dc0, lb_dc0, la_dc0, l2_dc0, rt_ix, lb_ix, la_ix, l2_ix, rt_ixd, lb_ixd, la_ixd, l2_ixd, rt_att, lb_att, la_att, l2_att, rt_cal, lb_cal, la_cal, l2_cal, rt_calk, lb_calk, la_calk, l2_calk, rt_blt, lb_blt, la_blt, l2_blt, rt_isi, lb_isi, la_isi, l2_isi, l2_var, l2_ln, l2_lc, frz, snap, binD, cmpR, cmpD, idxR, idxD, bltD, isD, isNon, at0, at1, at2, eqD_int, List.getElem?_cons_zero, List.getElem?_cons_succ, List.set_cons_zero, List.set_cons_succ, List.length_cons, List.length_nil, setr, setl, takeA, putA, picks, outs, Option.map_some, Option.bind_some, Bool.false_eq_true, if_true, if_false, Bool.not_true, Bool.not_false, Bool.and_true, Bool.true_and, Bool.and_false, Bool.false_and, true_and, and_true, List.contains_nil, List.contains_cons, Nat.reduceLT, Nat.reduceAdd, Nat.reduceBEq, Bool.or_false, Bool.false_or, Bool.or_true, Bool.true_or, List.map_cons, List.map_nil, List.append_nil, List.cons_append, List.nil_append, decide_true, decide_false, Nat.not_lt_zero, isDeg]
theorem require_degree_ok {d : D} (h : szD d) : wC (CALL Gm (n + 3) F_require_degree [.sh d]) Q E = kI (isDeg d) (Q (.sh .non) [.sh d]) (E X_InvalidDegree [d] [.sh d]) := by
  rw [u_require_degree]
  simp only [b_require_degree, w_var, w_cst, wB_var, kO1_eq, kO2, w_bin, w_cmp, w_ix, w_neg, kNeg_int, w_no, kNo, kT_bl, w_and, w_or, w_ite, kAnd, kOr, kIte, w_cm2, kC1_eq, kC2_eq, kC3, wD_nil, wD_cons, kD1_eq, kD3, kD2, wR_nil, wR_cons, kR1, kR2, wA_nil, wA_var, kA1, kA2, kAv, kAn_sh, kAn_ol, kAn_od, w_tup, w_lst, kTup, kLst, w_dc0, kX1_eq, w_ixd, kX2_int, w_cal, kCal, w_calk, kKw1, kKw, w_blt1, w_blt, kBl1, kBl, w_isi, kIs, kV_sh, kV_ol, kL_some, kR_some, kR_if, kI_t, kI_f, s_nil, s_cons, kSq_nx, kSq_bk, kSq_ct, kSq_rt, kSq_ex, s_ex, kDr, s_asg, kAs_nm, kAs_tp, s_par, kPar, s_sidx, kSi1, kSi2, set0, set1, set2, s_iff, kIf, s_whl, s_rng, kRg_eq, kRg', s_seq, kSeq, s_retv, s_retn, kRv_some, s_rse, kRse, s_try, kTry_nx, kTry_bk, kTry_ct, kTry_rt, kTry_ex, s_pass, s_brk, s_cnt, kFin_nx, kFin_bk, kFin_ct, kFin_rt, kFin_ex, kO_some, suitS, suit, Su.flat, beq_self_eq_true, stg, wS_nx, wS_bk, wS_ct, wS_rt, wS_ex, rt_cst, lb_cst, la_cst, l2_cst, rt_glb, lb_glb, la_glb, l2_glb, rt_bin, lb_bin, la_bin, l2_bin, rt_neg, lb_neg, la_neg, l2_neg, rt_inv, lb_inv, la_inv, l2_inv, rt_no, lb_no, la_no, l2_no, rt_cmp, lb_cmp, la_cmp, l2_cmp, rt_cm2, lb_cm2, la_cm2, l2_cm2, rt_and, lb_and, la_and, l2_and, rt_or, lb_or, la_or, l2_or, rt_ite, lb_ite, la_ite, l2_ite, rt_tup, lb_tup, la_tup, l2_tup, rt_lst, lb_lst, la_lst, rt_dc0, lb_dc0, la_dc0, l2_dc0, rt_ix, lb_ix, la_ix, l2_ix, rt_ixd, lb_ixd, la_ixd, l2_ixd, rt_att, lb_att, la_att, l2_att, rt_cal, lb_cal, la_cal, l2_cal, rt_calk, lb_calk, la_calk, l2_calk, rt_blt, lb_blt, la_blt, l2_blt, rt_isi, lb_isi, la_isi, l2_isi, l2_var, l2_ln, l2_lc, frz, snap, binD, cmpR, cmpD, idxR, idxD, bltD, isD, isNon, at0, at1, at2, eqD_int, List.getElem?_cons_zero, List.getElem?_cons_succ, List.set_cons_zero, List.set_cons_succ, List.length_cons, List.length_nil, setr, setl, takeA, putA, picks, outs, Option.map_some, Option.bind_some, Bool.false_eq_true, if_true, if_false, Bool.not_true, Bool.not_false, Bool.and_true, Bool.true_and, Bool.and_false, Bool.false_and, true_and, and_true, List.contains_nil, List.contains_cons, Nat.reduceLT, Nat.reduceAdd, Nat.reduceBEq, Bool.or_false, Bool.false_or, Bool.or_true, Bool.true_or, List.map_cons, List.map_nil, List.append_nil, List.cons_append, List.nil_append, decide_true, decide_false, Nat.not_lt_zero, g_is_degree, d_is_degree, wC_of (is_degree_ok h)]
  cases isDeg d <;> simp only [w_var, w_cst, wB_var, kO1_eq, kO2, w_bin, w_cmp, w_ix, w_neg, kNeg_int, w_no, kNo, kT_bl, w_and, w_or, w_ite, kAnd, kOr, kIte, w_cm2, kC1_eq, kC2_eq, kC3, wD_nil, wD_cons, kD1_eq, kD3, kD2, wR_nil, wR_cons, kR1, kR2, wA_nil, wA_var, kA1, kA2, kAv, kAn_sh, kAn_ol, kAn_od, w_tup, w_lst, kTup, kLst, w_dc0, kX1_eq, w_ixd, kX2_int, w_cal, kCal, w_calk, kKw1, kKw, w_blt1, w_blt, kBl1, kBl, w_isi, kIs, kV_sh, kV_ol, kL_some, kR_some, kR_if, kI_t, kI_f, s_nil, s_cons, kSq_nx, kSq_bk, kSq_ct, kSq_rt, kSq_ex, s_ex, kDr, s_asg, kAs_nm, kAs_tp, s_par, kPar, s_sidx, kSi1, kSi2, set0, set1, set2, s_iff, kIf, s_whl, s_rng, kRg_eq, kRg', s_seq, kSeq, s_retv, s_retn, kRv_some, s_rse, kRse, s_try, kTry_nx, kTry_bk, kTry_ct, kTry_rt, kTry_ex, s_pass, s_brk, s_cnt, kFin_nx, kFin_bk, kFin_ct, kFin_rt, kFin_ex, kO_some, suitS, suit, Su.flat, beq_self_eq_true, stg, wS_nx, wS_bk, wS_ct, wS_rt, wS_ex, rt_cst, lb_cst, la_cst, l2_cst, rt_glb, lb_glb, la_glb, l2_glb, rt_bin, lb_bin, la_bin, l2_bin, rt_neg, lb_neg, la_neg, l2_neg, rt_inv, lb_inv, la_inv, l2_inv, rt_no, lb_no, la_no, l2_no, rt_cmp, lb_cmp, la_cmp, l2_cmp, rt_cm2, lb_cm2, la_cm2, l2_cm2, rt_and, lb_and, la_and, l2_and, rt_or, lb_or, la_or, l2_or, rt_ite, lb_ite, la_ite, l2_ite, rt_tup, lb_tup, la_tup, l2_tup, rt_lst, lb_lst, la_lst, rt_dc0, lb_dc0, la_dc0, l2_dc0, rt_ix, lb_ix, la_ix, l2_ix, rt_ixd, lb_ixd, la_ixd, l2_ixd, rt_att, lb_att, la_att, l2_att, rt_cal, lb_cal, la_cal, l2_cal, rt_calk, lb_calk, la_calk, l2_calk, rt_blt, lb_blt, la_blt, l2_blt, rt_isi, lb_isi, la_isi, l2_isi, l2_var, l2_ln, l2_lc, frz, snap, binD, cmpR, cmpD, idxR, idxD, bltD, isD, isNon, at0, at1, at2, eqD_int, List.getElem?_cons_zero, List.getElem?_cons_succ, List.set_cons_zero, List.set_cons_succ, List.length_cons, List.length_nil, setr, setl, takeA, putA, picks, outs, Option.map_some, Option.bind_some, Bool.false_eq_true, if_true, if_false, Bool.not_true, Bool.not_false, Bool.and_true, Bool.true_and, Bool.and_false, Bool.false_and, true_and, and_true, List.contains_nil, List.contains_cons, Nat.reduceLT, Nat.reduceAdd, Nat.reduceBEq, Bool.or_false, Bool.false_or, Bool.or_true, Bool.true_or, List.map_cons, List.map_nil, List.append_nil, List.cons_append, List.nil_append, decide_true, decide_false, Nat.not_lt_zero]
def badT : D → Bool
  | .int i => decide (i < 0)
  | _ => true
def badB : D → Bool
  | .int i => decide (i < 1)
  | _ => true
theorem degree_top {t b : D} (h : badT t = true) : wC (CALL Gm (n + 3) F_degree [.sh t, .sh b]) Q E = E X_InvalidDegree [t] [.sh t, .sh b] := by
  rw [u_degree]
  cases t with
  | int i =>
    simp only [badT] at h
    simp only [b_degree, w_var, w_cst, wB_var, kO1_eq, kO2, w_bin, w_cmp, w_ix, w_neg, kNeg_int, w_no, kNo, kT_bl, w_and, w_or, w_ite, kAnd, kOr, kIte, w_cm2, kC1_eq, kC2_eq, kC3, wD_nil, wD_cons, kD1_eq, kD3, kD2, wR_nil, wR_cons, kR1, kR2, wA_nil, wA_var, kA1, kA2, kAv, kAn_sh, kAn_ol, kAn_od, w_tup, w_lst, kTup, kLst, w_dc0, kX1_eq, w_ixd, kX2_int, w_cal, kCal, w_calk, kKw1, kKw, w_blt1, w_blt, kBl1, kBl, w_isi, kIs, kV_sh, kV_ol, kL_some, kR_some, kR_if, kI_t, kI_f, s_nil, s_cons, kSq_nx, kSq_bk, kSq_ct, kSq_rt, kSq_ex, s_ex, kDr, s_asg, kAs_nm, kAs_tp, s_par, kPar, s_sidx, kSi1, kSi2, set0, set1, set2, s_iff, kIf, s_whl, s_rng, kRg_eq, kRg', s_seq, kSeq, s_retv, s_retn, kRv_some, s_rse, kRse, s_try, kTry_nx, kTry_bk, kTry_ct, kTry_rt, kTry_ex, s_pass, s_brk, s_cnt, kFin_nx, kFin_bk, kFin_ct, kFin_rt, kFin_ex, kO_some, suitS, suit, Su.flat, beq_self_eq_true, stg, wS_nx, wS_bk, wS_ct, wS_rt, wS_ex, rt_cst, lb_cst, la_cst, l2_cst, rt_glb, lb_glb, la_glb, l2_glb, rt_bin, lb_bin, la_bin, l2_bin, rt_neg, lb_neg, la_neg, l2_neg, rt_inv, lb_inv, la_inv, l2_inv, rt_no, lb_no, la_no, l2_no, rt_cmp, lb_cmp, la_cmp, l2_cmp, rt_cm2, lb_cm2, la_cm2, l2_cm2, rt_and, lb_and, la_and, l2_and, rt_or, lb_or, la_or, l2_or, rt_ite, lb_ite, la_ite, l2_ite, rt_tup, lb_tup, la_tup, l2_tup, rt_lst, lb_lst, la_lst, rt_dc0, lb_dc0, la_dc0, l2_dc0, rt_ix, lb_ix, la_ix, l2_ix, rt_ixd, lb_ixd, la_ixd, l2_ixd, rt_att, lb_att, la_att, l2_att, rt_cal, lb_cal, la_cal, l2_cal, rt_calk, lb_calk, la_calk, l2_calk, rt_blt, lb_blt, la_blt, l2_blt, rt_isi, lb_isi, la_isi, l2_isi, l2_var, l2_ln, l2_lc, frz, snap, binD, cmpR, cmpD, idxR, idxD, bltD, isD, isNon, at0, at1, at2, eqD_int, List.getElem?_cons_zero, List.getElem?_cons_succ, List.set_cons_zero, List.set_cons_succ, List.length_cons, List.length_nil, setr, setl, takeA, putA, picks, outs, Option.map_some, Option.bind_some, Bool.false_eq_true, if_true, if_false, Bool.not_true, Bool.not_false, Bool.and_true, Bool.true_and, Bool.and_false, Bool.false_and, true_and, and_true, List.contains_nil, List.contains_cons, Nat.reduceLT, Nat.reduceAdd, Nat.reduceBEq, Bool.or_false, Bool.false_or, Bool.or_true, Bool.true_or, List.map_cons, List.map_nil, List.append_nil, List.cons_append, List.nil_append, decide_true, decide_false, Nat.not_lt_zero, g_is_integer, d_is_integer, is_integer_ok, isI, h]
  | _ => simp only [b_degree, w_var, w_cst, wB_var, kO1_eq, kO2, w_bin, w_cmp, w_ix, w_neg, kNeg_int, w_no, kNo, kT_bl, w_and, w_or, w_ite, kAnd, kOr, kIte, w_cm2, kC1_eq, kC2_eq, kC3, wD_nil, wD_cons, kD1_eq, kD3, kD2, wR_nil, wR_cons, kR1, kR2, wA_nil, wA_var, kA1, kA2, kAv, kAn_sh, kAn_ol, kAn_od, w_tup, w_lst, kTup, kLst, w_dc0, kX1_eq, w_ixd, kX2_int, w_cal, kCal, w_calk, kKw1, kKw, w_blt1, w_blt, kBl1, kBl, w_isi, kIs, kV_sh, kV_ol, kL_some, kR_some, kR_if, kI_t, kI_f, s_nil, s_cons, kSq_nx, kSq_bk, kSq_ct, kSq_rt, kSq_ex, s_ex, kDr, s_asg, kAs_nm, kAs_tp, s_par, kPar, s_sidx, kSi1, kSi2, set0, set1, set2, s_iff, kIf, s_whl, s_rng, kRg_eq, kRg', s_seq, kSeq, s_retv, s_retn, kRv_some, s_rse, kRse, s_try, kTry_nx, kTry_bk, kTry_ct, kTry_rt, kTry_ex, s_pass, s_brk, s_cnt, kFin_nx, kFin_bk, kFin_ct, kFin_rt, kFin_ex, kO_some, suitS, suit, Su.flat, beq_self_eq_true, stg, wS_nx, wS_bk, wS_ct, wS_rt, wS_ex, rt_cst, lb_cst, la_cst, l2_cst, rt_glb, lb_glb, la_glb, l2_glb, rt_bin, lb_bin, la_bin, l2_bin, rt_neg, lb_neg, la_neg, l2_neg, rt_inv, lb_inv, la_inv, l2_inv, rt_no, lb_no, la_no, l2_no, rt_cmp, lb_cmp, la_cmp, l2_cmp, rt_cm2, lb_cm2, la_cm2, l2_cm2, rt_and, lb_and, la_and, l2_and, rt_or, lb_or, la_or, l2_or, rt_ite, lb_ite, la_ite, l2_ite, rt_tup, lb_tup, la_tup, l2_tup, rt_lst, lb_lst, la_lst, rt_dc0, lb_dc0, la_dc0, l2_dc0, rt_ix, lb_ix, la_ix, l2_ix, rt_ixd, lb_ixd, la_ixd, l2_ixd, rt_att, lb_att, la_att, l2_att, rt_cal, lb_cal, la_cal, l2_cal, rt_calk, lb_calk, la_calk, l2_calk, rt_blt, lb_blt, la_blt, l2_blt, rt_isi, lb_isi, la_isi, l2_isi, l2_var, l2_ln, l2_lc, frz, snap, binD, cmpR, cmpD, idxR, idxD, bltD, isD, isNon, at0, at1, at2, eqD_int, List.getElem?_cons_zero, List.getElem?_cons_succ, List.set_cons_zero, List.set_cons_succ, List.length_cons, List.length_nil, setr, setl, takeA, putA, picks, outs, Option.map_some, Option.bind_some, Bool.false_eq_true, if_true, if_false, Bool.not_true, Bool.not_false, Bool.and_true, Bool.true_and, Bool.and_false, Bool.false_and, true_and, and_true, List.contains_nil, List.contains_cons, Nat.reduceLT, Nat.reduceAdd, Nat.reduceBEq, Bool.or_false, Bool.false_or, Bool.or_true, Bool.true_or, List.map_cons, List.map_nil, List.append_nil, List.cons_append, List.nil_append, decide_true, decide_false, Nat.not_lt_zero, g_is_integer, d_is_integer, is_integer_ok, isI]
theorem degree_bot {x : Int} {b : D} (hx : 0 ≤ x) (h : badB b = true) : wC (CALL Gm (n + 3) F_degree [.sh (.int x), .sh b]) Q E = E X_InvalidDegree [b] [.sh (.int x), .sh b] := by
  rw [u_degree]
  have h0 : decide (x < 0) = false := decide_eq_false (by omega)
  cases b with
  | int i =>
    simp only [badB] at h
    simp only [b_degree, w_var, w_cst, wB_var, kO1_eq, kO2, w_bin, w_cmp, w_ix, w_neg, kNeg_int, w_no, kNo, kT_bl, w_and, w_or, w_ite, kAnd, kOr, kIte, w_cm2, kC1_eq, kC2_eq, kC3, wD_nil, wD_cons, kD1_eq, kD3, kD2, wR_nil, wR_cons, kR1, kR2, wA_nil, wA_var, kA1, kA2, kAv, kAn_sh, kAn_ol, kAn_od, w_tup, w_lst, kTup, kLst, w_dc0, kX1_eq, w_ixd, kX2_int, w_cal, kCal, w_calk, kKw1, kKw, w_blt1, w_blt, kBl1, kBl, w_isi, kIs, kV_sh, kV_ol, kL_some, kR_some, kR_if, kI_t, kI_f, s_nil, s_cons, kSq_nx, kSq_bk, kSq_ct, kSq_rt, kSq_ex, s_ex, kDr, s_asg, kAs_nm, kAs_tp, s_par, kPar, s_sidx, kSi1, kSi2, set0, set1, set2, s_iff, kIf, s_whl, s_rng, kRg_eq, kRg', s_seq, kSeq, s_retv, s_retn, kRv_some, s_rse, kRse, s_try, kTry_nx, kTry_bk, kTry_ct, kTry_rt, kTry_ex, s_pass, s_brk, s_cnt, kFin_nx, kFin_bk, kFin_ct, kFin_rt, kFin_ex, kO_some, suitS, suit, Su.flat, beq_self_eq_true, stg, wS_nx, wS_bk, wS_ct, wS_rt, wS_ex, rt_cst, lb_cst, la_cst, l2_cst, rt_glb, lb_glb, la_glb, l2_glb, rt_bin, lb_bin, la_bin, l2_bin, rt_neg, lb_neg, la_neg, l2_neg, rt_inv, lb_inv, la_inv, l2_inv, rt_no, lb_no, la_no, l2_no, rt_cmp, lb_cmp, la_cmp, l2_cmp, rt_cm2, lb_cm2, la_cm2, l2_cm2, rt_and, lb_and, la_and, l2_and, rt_or, lb_or, la_or, l2_or, rt_ite, lb_ite, la_ite, l2_ite, rt_tup, lb_tup, la_tup, l2_tup, rt_lst, lb_lst, la_lst, rt_dc0, lb_dc0, la_dc0, l2_dc0, rt_ix, lb_ix, la_ix, l2_ix, rt_ixd, lb_ixd, la_ixd, l2_ixd, rt_att, lb_att, la_att, l2_att, rt_cal, lb_cal, la_cal, l2_cal, rt_calk, lb_calk, la_calk, l2_calk, rt_blt, lb_blt, la_blt, l2_blt, rt_isi, lb_isi, la_isi, l2_isi, l2_var, l2_ln, l2_lc, frz, snap, binD, cmpR, cmpD, idxR, idxD, bltD, isD, isNon, at0, at1, at2, eqD_int, List.getElem?_cons_zero, List.getElem?_cons_succ, List.set_cons_zero, List.set_cons_succ, List.length_cons, List.length_nil, setr, setl, takeA, putA, picks, outs, Option.map_some, Option.bind_some, Bool.false_eq_true, if_true, if_false, Bool.not_true, Bool.not_false, Bool.and_true, Bool.true_and, Bool.and_false, Bool.false_and, true_and, and_true, List.contains_nil, List.contains_cons, Nat.reduceLT, Nat.reduceAdd, Nat.reduceBEq, Bool.or_false, Bool.false_or, Bool.or_true, Bool.true_or, List.map_cons, List.map_nil, List.append_nil, List.cons_append, List.nil_append, decide_true, decide_false, Nat.not_lt_zero, g_is_integer, d_is_integer, is_integer_ok, isI, h, h0]
  | _ => simp only [b_degree, w_var, w_cst, wB_var, kO1_eq, kO2, w_bin, w_cmp, w_ix, w_neg, kNeg_int, w_no, kNo, kT_bl, w_and, w_or, w_ite, kAnd, kOr, kIte, w_cm2, kC1_eq, kC2_eq, kC3, wD_nil, wD_cons, kD1_eq, kD3, kD2, wR_nil, wR_cons, kR1, kR2, wA_nil, wA_var, kA1, kA2, kAv, kAn_sh, kAn_ol, kAn_od, w_tup, w_lst, kTup, kLst, w_dc0, kX1_eq, w_ixd, kX2_int, w_cal, kCal, w_calk, kKw1, kKw, w_blt1, w_blt, kBl1, kBl, w_isi, kIs, kV_sh, kV_ol, kL_some, kR_some, kR_if, kI_t, kI_f, s_nil, s_cons, kSq_nx, kSq_bk, kSq_ct, kSq_rt, kSq_ex, s_ex, kDr, s_asg, kAs_nm, kAs_tp, s_par, kPar, s_sidx, kSi1, kSi2, set0, set1, set2, s_iff, kIf, s_whl, s_rng, kRg_eq, kRg', s_seq, kSeq, s_retv, s_retn, kRv_some, s_rse, kRse, s_try, kTry_nx, kTry_bk, kTry_ct, kTry_rt, kTry_ex, s_pass, s_brk, s_cnt, kFin_nx, kFin_bk, kFin_ct, kFin_rt, kFin_ex, kO_some, suitS, suit, Su.flat, beq_self_eq_true, stg, wS_nx, wS_bk, wS_ct, wS_rt, wS_ex, rt_cst, lb_cst, la_cst, l2_cst, rt_glb, lb_glb, la_glb, l2_glb, rt_bin, lb_bin, la_bin, l2_bin, rt_neg, lb_neg, la_neg, l2_neg, rt_inv, lb_inv, la_inv, l2_inv, rt_no, lb_no, la_no, l2_no, rt_cmp, lb_cmp, la_cmp, l2_cmp, rt_cm2, lb_cm2, la_cm2, l2_cm2, rt_and, lb_and, la_and, l2_and, rt_or, lb_or, la_or, l2_or, rt_ite, lb_ite, la_ite, l2_ite, rt_tup, lb_tup, la_tup, l2_tup, rt_lst, lb_lst, la_lst, rt_dc0, lb_dc0, la_dc0, l2_dc0, rt_ix, lb_ix, la_ix, l2_ix, rt_ixd, lb_ixd, la_ixd, l2_ixd, rt_att, lb_att, la_att, l2_att, rt_cal, lb_cal, la_cal, l2_cal, rt_calk, lb_calk, la_calk, l2_calk, rt_blt, lb_blt, la_blt, l2_blt, rt_isi, lb_isi, la_isi, l2_isi, l2_var, l2_ln, l2_lc, frz, snap, binD, cmpR, cmpD, idxR, idxD, bltD, isD, isNon, at0, at1, at2, eqD_int, List.getElem?_cons_zero, List.getElem?_cons_succ, List.set_cons_zero, List.set_cons_succ, List.length_cons, List.length_nil, setr, setl, takeA, putA, picks, outs, Option.map_some, Option.bind_some, Bool.false_eq_true, if_true, if_false, Bool.not_true, Bool.not_false, Bool.and_true, Bool.true_and, Bool.and_false, Bool.false_and, true_and, and_true, List.contains_nil, List.contains_cons, Nat.reduceLT, Nat.reduceAdd, Nat.reduceBEq, Bool.or_false, Bool.false_or, Bool.or_true, Bool.true_or, List.map_cons, List.map_nil, List.append_nil, List.cons_append, List.nil_append, decide_true, decide_false, Nat.not_lt_zero, g_is_integer, d_is_integer, is_integer_ok, isI, h0]
theorem degree_gt {x y : Int} (hy : 1 ≤ y) (h : y < x) : wC (CALL Gm (n + 3) F_degree [.sh (.int x), .sh (.int y)]) Q E = E X_InvalidDegree [.tup [.int x, .int y]] [.sh (.int x), .sh (.int y)] := by
  rw [u_degree]
  have h0 : decide (x < 0) = false := decide_eq_false (by omega)
  have h1 : decide (y < 1) = false := decide_eq_false (by omega)
  have h2 : decide (y < x) = true := decide_eq_true h
  simp only [b_degree, w_var, w_cst, wB_var, kO1_eq, kO2, w_bin, w_cmp, w_ix, w_neg, kNeg_int, w_no, kNo, kT_bl, w_and, w_or, w_ite, kAnd, kOr, kIte, w_cm2, kC1_eq, kC2_eq, kC3, wD_nil, wD_cons, kD1_eq, kD3, kD2, wR_nil, wR_cons, kR1, kR2, wA_nil, wA_var, kA1, kA2, kAv, kAn_sh, kAn_ol, kAn_od, w_tup, w_lst, kTup, kLst, w_dc0, kX1_eq, w_ixd, kX2_int, w_cal, kCal, w_calk, kKw1, kKw, w_blt1, w_blt, kBl1, kBl, w_isi, kIs, kV_sh, kV_ol, kL_some, kR_some, kR_if, kI_t, kI_f, s_nil, s_cons, kSq_nx, kSq_bk, kSq_ct, kSq_rt, kSq_ex, s_ex, kDr, s_asg, kAs_nm, kAs_tp, s_par, kPar, s_sidx, kSi1, kSi2, set0, set1, set2, s_iff, kIf, s_whl, s_rng, kRg_eq, kRg', s_seq, kSeq, s_retv, s_retn, kRv_some, s_rse, kRse, s_try, kTry_nx, kTry_bk, kTry_ct, kTry_rt, kTry_ex, s_pass, s_brk, s_cnt, kFin_nx, kFin_bk, kFin_ct, kFin_rt, kFin_ex, kO_some, suitS, suit, Su.flat, beq_self_eq_true, stg, wS_nx, wS_bk, wS_ct, wS_rt, wS_ex, rt_cst, lb_cst, la_cst, l2_cst, rt_glb, lb_glb, la_glb, l2_glb, rt_bin, lb_bin, la_bin, l2_bin, rt_neg, lb_neg, la_neg, l2_neg, rt_inv, lb_inv, la_inv, l2_inv, rt_no, lb_no, la_no, l2_no, rt_cmp, lb_cmp, la_cmp, l2_cmp, rt_cm2, lb_cm2, la_cm2, l2_cm2, rt_and, lb_and, la_and, l2_and, rt_or, lb_or, la_or, l2_or, rt_ite, lb_ite, la_ite, l2_ite, rt_tup, lb_tup, la_tup, l2_tup, rt_lst, lb_lst, la_lst, rt_dc0, lb_dc0, la_dc0, l2_dc0, rt_ix, lb_ix, la_ix, l2_ix, rt_ixd, lb_ixd, la_ixd, l2_ixd, rt_att, lb_att, la_att, l2_att, rt_cal, lb_cal, la_cal, l2_cal, rt_calk, lb_calk, la_calk, l2_calk, rt_blt, lb_blt, la_blt, l2_blt, rt_isi, lb_isi, la_isi, l2_isi, l2_var, l2_ln, l2_lc, frz, snap, binD, cmpR, cmpD, idxR, idxD, bltD, isD, isNon, at0, at1, at2, eqD_int, List.getElem?_cons_zero, List.getElem?_cons_succ, List.set_cons_zero, List.set_cons_succ, List.length_cons, List.length_nil, setr, setl, takeA, putA, picks, outs, Option.map_some, Option.bind_some, Bool.false_eq_true, if_true, if_false, Bool.not_true, Bool.not_false, Bool.and_true, Bool.true_and, Bool.and_false, Bool.false_and, true_and, and_true, List.contains_nil, List.contains_cons, Nat.reduceLT, Nat.reduceAdd, Nat.reduceBEq, Bool.or_false, Bool.false_or, Bool.or_true, Bool.true_or, List.map_cons, List.map_nil, List.append_nil, List.cons_append, List.nil_append, decide_true, decide_false, Nat.not_lt_zero, g_is_integer, d_is_integer, is_integer_ok, isI, h0, h1, h2]
theorem degree_ok {x y : Nat} (hy : 1 ≤ y) (h : x ≤ y) (hz : y < 2 ^ 200) : CALL Gm (n + 3) F_degree [.sh (.int x), .sh (.int y)] = .ok (.sh (low x y)) [.sh (.int x), .sh (.int y)] := by
  refine wC_eq ?_
  rw [u_degree]
  have h0 : decide ((x : Int) < 0) = false := decide_eq_false (by omega)
  have h1 : decide ((y : Int) < 1) = false := decide_eq_false (by omega)
  have h2 : decide ((y : Int) < (x : Int)) = false := decide_eq_false (by omega)
  simp only [b_degree, w_var, w_cst, wB_var, kO1_eq, kO2, w_bin, w_cmp, w_ix, w_neg, kNeg_int, w_no, kNo, kT_bl, w_and, w_or, w_ite, kAnd, kOr, kIte, w_cm2, kC1_eq, kC2_eq, kC3, wD_nil, wD_cons, kD1_eq, kD3, kD2, wR_nil, wR_cons, kR1, kR2, wA_nil, wA_var, kA1, kA2, kAv, kAn_sh, kAn_ol, kAn_od, w_tup, w_lst, kTup, kLst, w_dc0, kX1_eq, w_ixd, kX2_int, w_cal, kCal, w_calk, kKw1, kKw, w_blt1, w_blt, kBl1, kBl, w_isi, kIs, kV_sh, kV_ol, kL_some, kR_some, kR_if, kI_t, kI_f, s_nil, s_cons, kSq_nx, kSq_bk, kSq_ct, kSq_rt, kSq_ex, s_ex, kDr, s_asg, kAs_nm, kAs_tp, s_par, kPar, s_sidx, kSi1, kSi2, set0, set1, set2, s_iff, kIf, s_whl, s_rng, kRg_eq, kRg', s_seq, kSeq, s_retv, s_retn, kRv_some, s_rse, kRse, s_try, kTry_nx, kTry_bk, kTry_ct, kTry_rt, kTry_ex, s_pass, s_brk, s_cnt, kFin_nx, kFin_bk, kFin_ct, kFin_rt, kFin_ex, kO_some, suitS, suit, Su.flat, beq_self_eq_true, stg, wS_nx, wS_bk, wS_ct, wS_rt, wS_ex, rt_cst, lb_cst, la_cst, l2_cst, rt_glb, lb_glb, la_glb, l2_glb, rt_bin, lb_bin, la_bin, l2_bin, rt_neg, lb_neg, la_neg, l2_neg, rt_inv, lb_inv, la_inv, l2_inv, rt_no, lb_no, la_no, l2_no, rt_cmp, lb_cmp, la_cmp, l2_cmp, rt_cm2, lb_cm2, la_cm2, l2_cm2, rt_and, lb_and, la_and, l2_and, rt_or, lb_or, la_or, l2_or, rt_ite, lb_ite, la_ite, l2_ite, rt_tup, lb_tup, la_tup, l2_tup, rt_lst, lb_lst, la_lst, rt_dc0, lb_dc0, la_dc0, l2_dc0, rt_ix, lb_ix, la_ix, l2_ix, rt_ixd, lb_ixd, la_ixd, l2_ixd, rt_att, lb_att, la_att, l2_att, rt_cal, lb_cal, la_cal, l2_cal, rt_calk, lb_calk, la_calk, l2_calk, rt_blt, lb_blt, la_blt, l2_blt, rt_isi, lb_isi, la_isi, l2_isi, l2_var, l2_ln, l2_lc, frz, snap, binD, cmpR, cmpD, idxR, idxD, bltD, isD, isNon, at0, at1, at2, eqD_int, List.getElem?_cons_zero, List.getElem?_cons_succ, List.set_cons_zero, List.set_cons_succ, List.length_cons, List.length_nil, setr, setl, takeA, putA, picks, outs, Option.map_some, Option.bind_some, Bool.false_eq_true, if_true, if_false, Bool.not_true, Bool.not_false, Bool.and_true, Bool.true_and, Bool.and_false, Bool.false_and, true_and, and_true, List.contains_nil, List.contains_cons, Nat.reduceLT, Nat.reduceAdd, Nat.reduceBEq, Bool.or_false, Bool.false_or, Bool.or_true, Bool.true_or, List.map_cons, List.map_nil, List.append_nil, List.cons_append, List.nil_append, decide_true, decide_false, Nat.not_lt_zero, g_is_integer, d_is_integer, g_lowest, d_lowest, is_integer_ok, isI, h0, h1, h2, wC_of (lowest_ok (n := n) (x := x) hy hz)]
/-- a degree's shape -/
theorem isDeg_of {d : D} (h : isDeg d = true) : ∃ a b : Int, d = .tup [.int a, .int b] ∧ 0 ≤ a ∧ a ≤ b ∧ 0 < b := by
  unfold isDeg at h
  split at h
  · rename_i a b
    simp only [Bool.and_eq_true, decide_eq_true_eq] at h
    exact ⟨a, b, rfl, h.1, h.2.1, h.2.2.1⟩
  · cases h
theorem at_most_1 {d e : D} (hd : szD d) (h : isDeg d = false) : wC (CALL Gm (n + 4) F_at_most [.sh d, .sh e]) Q E = E X_InvalidDegree [d] [.sh d, .sh e] := by
  rw [u_at_most]
  simp only [b_at_most, w_var, w_cst, wB_var, kO1_eq, kO2, w_bin, w_cmp, w_ix, w_neg, kNeg_int, w_no, kNo, kT_bl, w_and, w_or, w_ite, kAnd, kOr, kIte, w_cm2, kC1_eq, kC2_eq, kC3, wD_nil, wD_cons, kD1_eq, kD3, kD2, wR_nil, wR_cons, kR1, kR2, wA_nil, wA_var, kA1, kA2, kAv, kAn_sh, kAn_ol, kAn_od, w_tup, w_lst, kTup, kLst, w_dc0, kX1_eq, w_ixd, kX2_int, w_cal, kCal, w_calk, kKw1, kKw, w_blt1, w_blt, kBl1, kBl, w_isi, kIs, kV_sh, kV_ol, kL_some, kR_some, kR_if, kI_t, kI_f, s_nil, s_cons, kSq_nx, kSq_bk, kSq_ct, kSq_rt, kSq_ex, s_ex, kDr, s_asg, kAs_nm, kAs_tp, s_par, kPar, s_sidx, kSi1, kSi2, set0, set1, set2, s_iff, kIf, s_whl, s_rng, kRg_eq, kRg', s_seq, kSeq, s_retv, s_retn, kRv_some, s_rse, kRse, s_try, kTry_nx, kTry_bk, kTry_ct, kTry_rt, kTry_ex, s_pass, s_brk, s_cnt, kFin_nx, kFin_bk, kFin_ct, kFin_rt, kFin_ex, kO_some, suitS, suit, Su.flat, beq_self_eq_true, stg, wS_nx, wS_bk, wS_ct, wS_rt, wS_ex, rt_cst, lb_cst, la_cst, l2_cst, rt_glb, lb_glb, la_glb, l2_glb, rt_bin, lb_bin, la_bin, l2_bin, rt_neg, lb_neg, la_neg, l2_neg, rt_inv, lb_inv, la_inv, l2_inv, rt_no, lb_no, la_no, l2_no, rt_cmp, lb_cmp, la_cmp, l2_cmp, rt_cm2, lb_cm2, la_cm2, l2_cm2, rt_and, lb_and, la_and, l2_and, rt_or, lb_or, la_or, l2_or, rt_ite, lb_ite, la_ite, l2_ite, rt_tup, lb_tup, la_tup, l2_tup, rt_lst, lb_lst, la_lst, rt_dc0, lb_dc0, la_dc0, l2_dc0, rt_ix, lb_ix, la_ix, l2_ix, rt_ixd, lb_ixd, la_ixd, l2_ixd, rt_att, lb_att, la_att, l2_att, rt_cal, lb_cal, la_cal, l2_cal, rt_calk, lb_calk, la_calk, l2_calk, rt_blt, lb_blt, la_blt, l2_blt, rt_isi, lb_isi, la_isi, l2_isi, l2_var, l2_ln, l2_lc, frz, snap, binD, cmpR, cmpD, idxR, idxD, bltD, isD, isNon, at0, at1, at2, eqD_int, List.getElem?_cons_zero, List.getElem?_cons_succ, List.set_cons_zero, List.set_cons_succ, List.length_cons, List.length_nil, setr, setl, takeA, putA, picks, outs, Option.map_some, Option.bind_some, Bool.false_eq_true, if_true, if_false, Bool.not_true, Bool.not_false, Bool.and_true, Bool.true_and, Bool.and_false, Bool.false_and, true_and, and_true, List.contains_nil, List.contains_cons, Nat.reduceLT, Nat.reduceAdd, Nat.reduceBEq, Bool.or_false, Bool.false_or, Bool.or_true, Bool.true_or, List.map_cons, List.map_nil, List.append_nil, List.cons_append, List.nil_append, decide_true, decide_false, Nat.not_lt_zero, g_require_degree, d_require_degree, require_degree_ok hd, h]
theorem at_most_2 {d e : D} (hd : szD d) (he : szD e) (h : isDeg d = true) (h2 : isDeg e = false) : wC (CALL Gm (n + 4) F_at_most [.sh d, .sh e]) Q E = E X_InvalidDegree [e] [.sh d, .sh e] := by
  rw [u_at_most]
  simp only [b_at_most, w_var, w_cst, wB_var, kO1_eq, kO2, w_bin, w_cmp, w_ix, w_neg, kNeg_int, w_no, kNo, kT_bl, w_and, w_or, w_ite, kAnd, kOr, kIte, w_cm2, kC1_eq, kC2_eq, kC3, wD_nil, wD_cons, kD1_eq, kD3, kD2, wR_nil, wR_cons, kR1, kR2, wA_nil, wA_var, kA1, kA2, kAv, kAn_sh, kAn_ol, kAn_od, w_tup, w_lst, kTup, kLst, w_dc0, kX1_eq, w_ixd, kX2_int, w_cal, kCal, w_calk, kKw1, kKw, w_blt1, w_blt, kBl1, kBl, w_isi, kIs, kV_sh, kV_ol, kL_some, kR_some, kR_if, kI_t, kI_f, s_nil, s_cons, kSq_nx, kSq_bk, kSq_ct, kSq_rt, kSq_ex, s_ex, kDr, s_asg, kAs_nm, kAs_tp, s_par, kPar, s_sidx, kSi1, kSi2, set0, set1, set2, s_iff, kIf, s_whl, s_rng, kRg_eq, kRg', s_seq, kSeq, s_retv, s_retn, kRv_some, s_rse, kRse, s_try, kTry_nx, kTry_bk, kTry_ct, kTry_rt, kTry_ex, s_pass, s_brk, s_cnt, kFin_nx, kFin_bk, kFin_ct, kFin_rt, kFin_ex, kO_some, suitS, suit, Su.flat, beq_self_eq_true, stg, wS_nx, wS_bk, wS_ct, wS_rt, wS_ex, rt_cst, lb_cst, la_cst, l2_cst, rt_glb, lb_glb, la_glb, l2_glb, rt_bin, lb_bin, la_bin, l2_bin, rt_neg, lb_neg, la_neg, l2_neg, rt_inv, lb_inv, la_inv, l2_inv, rt_no, lb_no, la_no, l2_no, rt_cmp, lb_cmp, la_cmp, l2_cmp, rt_cm2, lb_cm2, la_cm2, l2_cm2, rt_and, lb_and, la_and, l2_and, rt_or, lb_or, la_or, l2_or, rt_ite, lb_ite, la_ite, l2_ite, rt_tup, lb_tup, la_tup, l2_tup, rt_lst, lb_lst, la_lst, rt_dc0, lb_dc0, la_dc0, l2_dc0, rt_ix, lb_ix, la_ix, l2_ix, rt_ixd, lb_ixd, la_ixd, l2_ixd, rt_att, lb_att, la_att, l2_att, rt_cal, lb_cal, la_cal, l2_cal, rt_calk, lb_calk, la_calk, l2_calk, rt_blt, lb_blt, la_blt, l2_blt, rt_isi, lb_isi, la_isi, l2_isi, l2_var, l2_ln, l2_lc, frz, snap, binD, cmpR, cmpD, idxR, idxD, bltD, isD, isNon, at0, at1, at2, eqD_int, List.getElem?_cons_zero, List.getElem?_cons_succ, List.set_cons_zero, List.set_cons_succ, List.length_cons, List.length_nil, setr, setl, takeA, putA, picks, outs, Option.map_some, Option.bind_some, Bool.false_eq_true, if_true, if_false, Bool.not_true, Bool.not_false, Bool.and_true, Bool.true_and, Bool.and_false, Bool.false_and, true_and, and_true, List.contains_nil, List.contains_cons, Nat.reduceLT, Nat.reduceAdd, Nat.reduceBEq, Bool.or_false, Bool.false_or, Bool.or_true, Bool.true_or, List.map_cons, List.map_nil, List.append_nil, List.cons_append, List.nil_append, decide_true, decide_false, Nat.not_lt_zero, g_require_degree, d_require_degree, require_degree_ok hd, require_degree_ok he, h, h2]
theorem at_most_ok {a b c d : Int} (h1 : isDeg (.tup [.int a, .int b]) = true) (h2 : isDeg (.tup [.int c, .int d]) = true) (hb : b < 2 ^ 200) (hd : d < 2 ^ 200) :
    CALL Gm (n + 4) F_at_most [.sh (.tup [.int a, .int b]), .sh (.tup [.int c, .int d])] = .ok (.sh (.bl (!decide (c * b < a * d)))) [.sh (.tup [.int a, .int b]), .sh (.tup [.int c, .int d])] := by
  refine wC_eq ?_
  rw [u_at_most]
  obtain ⟨_, _, e1, p1, p2, p3⟩ := isDeg_of h1
  cases e1
  obtain ⟨_, _, e2, q1, q2, q3⟩ := isDeg_of h2
  cases e2
  have s1 : szD (.tup [.int a, .int b]) := fun _ _ e => by cases e; exact hb
  have s2 : szD (.tup [.int c, .int d]) := fun _ _ e => by cases e; exact hd
  have m1 : mulOk c b = true := mul_ok (by omega) (by omega) (by omega) (by omega)
  have m2 : mulOk a d = true := mul_ok (by omega) (by omega) (by omega) (by omega)
  simp only [b_at_most, w_var, w_cst, wB_var, kO1_eq, kO2, w_bin, w_cmp, w_ix, w_neg, kNeg_int, w_no, kNo, kT_bl, w_and, w_or, w_ite, kAnd, kOr, kIte, w_cm2, kC1_eq, kC2_eq, kC3, wD_nil, wD_cons, kD1_eq, kD3, kD2, wR_nil, wR_cons, kR1, kR2, wA_nil, wA_var, kA1, kA2, kAv, kAn_sh, kAn_ol, kAn_od, w_tup, w_lst, kTup, kLst, w_dc0, kX1_eq, w_ixd, kX2_int, w_cal, kCal, w_calk, kKw1, kKw, w_blt1, w_blt, kBl1, kBl, w_isi, kIs, kV_sh, kV_ol, kL_some, kR_some, kR_if, kI_t, kI_f, s_nil, s_cons, kSq_nx, kSq_bk, kSq_ct, kSq_rt, kSq_ex, s_ex, kDr, s_asg, kAs_nm, kAs_tp, s_par, kPar, s_sidx, kSi1, kSi2, set0, set1, set2, s_iff, kIf, s_whl, s_rng, kRg_eq, kRg', s_seq, kSeq, s_retv, s_retn, kRv_some, s_rse, kRse, s_try, kTry_nx, kTry_bk, kTry_ct, kTry_rt, kTry_ex, s_pass, s_brk, s_cnt, kFin_nx, kFin_bk, kFin_ct, kFin_rt, kFin_ex, kO_some, suitS, suit, Su.flat, beq_self_eq_true, stg, wS_nx, wS_bk, wS_ct, wS_rt, wS_ex, rt_cst, lb_cst, la_cst, l2_cst, rt_glb, lb_glb, la_glb, l2_glb, rt_bin, lb_bin, la_bin, l2_bin, rt_neg, lb_neg, la_neg, l2_neg, rt_inv, lb_inv, la_inv, l2_inv, rt_no, lb_no, la_no, l2_no, rt_cmp, lb_cmp, la_cmp, l2_cmp, rt_cm2, lb_cm2, la_cm2, l2_cm2, rt_and, lb_and, la_and, l2_and, rt_or, lb_or, la_or, l2_or, rt_ite, lb_ite, la_ite, l2_ite, rt_tup, lb_tup, la_tup, l2_tup, rt_lst, lb_lst, la_lst, rt_dc0, lb_dc0, la_dc0, l2_dc0, rt_ix, lb_ix, la_ix, l2_ix, rt_ixd, lb_ixd, la_ixd, l2_ixd, rt_att, lb_att, la_att, l2_att, rt_cal, lb_cal, la_cal, l2_cal, rt_calk, lb_calk, la_calk, l2_calk, rt_blt, lb_blt, la_blt, l2_blt, rt_isi, lb_isi, la_isi, l2_isi, l2_var, l2_ln, l2_lc, frz, snap, binD, cmpR, cmpD, idxR, idxD, bltD, isD, isNon, at0, at1, at2, eqD_int, List.getElem?_cons_zero, List.getElem?_cons_succ, List.set_cons_zero, List.set_cons_succ, List.length_cons, List.length_nil, setr, setl, takeA, putA, picks, outs, Option.map_some, Option.bind_some, Bool.false_eq_true, if_true, if_false, Bool.not_true, Bool.not_false, Bool.and_true, Bool.true_and, Bool.and_false, Bool.false_and, true_and, and_true, List.contains_nil, List.contains_cons, Nat.reduceLT, Nat.reduceAdd, Nat.reduceBEq, Bool.or_false, Bool.false_or, Bool.or_true, Bool.true_or, List.map_cons, List.map_nil, List.append_nil, List.cons_append, List.nil_append, decide_true, decide_false, Nat.not_lt_zero, g_require_degree, d_require_degree, g_less, d_less, require_degree_ok s1, require_degree_ok s2, h1, h2, less_ok, m1, m2]
end
end G4

namespace G4
section
variable {n m : Nat} {Q : R → List R → Prop} {E : Nat → List D → List R → Prop} {p : R}
/-- a purse; what was drawn by chance is counted -/
def Pu (m : Nat) (p : R) : Prop := ∃ a b c : Int, p = .ol [.int a, .int b, .int c] ∧ 0 ≤ a ∧ 0 ≤ b ∧ b < 2147483647 ∧ 0 ≤ c ∧ c ≤ m
theorem mixed_ok {b c : Int} (h1 : 0 ≤ b) (h2 : b < 2147483647) (h3 : 0 ≤ c) (h4 : c < 2 ^ 60) (h : ∀ r, 0 ≤ r → Q (.sh (.int r)) [.sh (.int b), .sh (.int c)]) : wC (CALL Gm (n + 1) F__law_mixed [.sh (.int b), .sh (.int c)]) Q E := by
  rw [u__law_mixed]
  simp only [b__law_mixed, w_var, w_cst, wB_var, kO1_eq, kO2, w_bin, w_cmp, w_ix, w_neg, kNeg_int, w_no, kNo, kT_bl, w_and, w_or, w_ite, kAnd, kOr, kIte, w_cm2, kC1_eq, kC2_eq, kC3, wD_nil, wD_cons, kD1_eq, kD3, kD2, wR_nil, wR_cons, kR1, kR2, wA_nil, wA_var, kA1, kA2, kAv, kAn_sh, kAn_ol, kAn_od, w_tup, w_lst, kTup, kLst, w_dc0, kX1_eq, w_ixd, kX2_int, w_cal, kCal, w_calk, kKw1, kKw, w_blt1, w_blt, kBl1, kBl, w_isi, kIs, kV_sh, kV_ol, kL_some, kR_some, kR_if, kI_t, kI_f, s_nil, s_cons, kSq_nx, kSq_bk, kSq_ct, kSq_rt, kSq_ex, s_ex, kDr, s_asg, kAs_nm, kAs_tp, s_par, kPar, s_sidx, kSi1, kSi2, set0, set1, set2, s_iff, kIf, s_whl, s_rng, kRg_eq, kRg', s_seq, kSeq, s_retv, s_retn, kRv_some, s_rse, kRse, s_try, kTry_nx, kTry_bk, kTry_ct, kTry_rt, kTry_ex, s_pass, s_brk, s_cnt, kFin_nx, kFin_bk, kFin_ct, kFin_rt, kFin_ex, kO_some, suitS, suit, Su.flat, beq_self_eq_true, stg, wS_nx, wS_bk, wS_ct, wS_rt, wS_ex, rt_cst, lb_cst, la_cst, l2_cst, rt_glb, lb_glb, la_glb, l2_glb, rt_bin, lb_bin, la_bin, l2_bin, rt_neg, lb_neg, la_neg, l2_neg, rt_inv, lb_inv, la_inv, l2_inv, rt_no, lb_no, la_no, l2_no, rt_cmp, lb_cmp, la_cmp, l2_cmp, rt_cm2, lb_cm2, la_cm2, l2_cm2, rt_and, lb_and, la_and, l2_and, rt_or, lb_or, la_or, l2_or, rt_ite, lb_ite, la_ite, l2_ite, rt_tup, lb_tup, la_tup, l2_tup, rt_lst, lb_lst, la_lst, rt_dc0, lb_dc0, la_dc0, l2_dc0, rt_ix, lb_ix, la_ix, l2_ix, rt_ixd, lb_ixd, la_ixd, l2_ixd, rt_att, lb_att, la_att, l2_att, rt_cal, lb_cal, la_cal, l2_cal, rt_calk, lb_calk, la_calk, l2_calk, rt_blt, lb_blt, la_blt, l2_blt, rt_isi, lb_isi, la_isi, l2_isi, l2_var, l2_ln, l2_lc, frz, snap, binD, cmpR, cmpD, idxR, idxD, bltD, isD, isNon, at0, at1, at2, eqD_int, List.getElem?_cons_zero, List.getElem?_cons_succ, List.set_cons_zero, List.set_cons_succ, List.length_cons, List.length_nil, setr, setl, takeA, putA, picks, outs, Option.map_some, Option.bind_some, Bool.false_eq_true, if_true, if_false, Bool.not_true, Bool.not_false, Bool.and_true, Bool.true_and, Bool.and_false, Bool.false_and, true_and, and_true, List.contains_nil, List.contains_cons, Nat.reduceLT, Nat.reduceAdd, Nat.reduceBEq, Bool.or_false, Bool.false_or, Bool.or_true, Bool.true_or, List.map_cons, List.map_nil, List.append_nil, List.cons_append, List.nil_append, decide_true, decide_false, Nat.not_lt_zero]
  have g : ∀ x : Int, 0 ≤ x % 2147483647 ∧ x % 2147483647 < 2147483647 := fun x => ⟨Int.emod_nonneg _ (by decide), Int.emod_lt_of_pos _ (by decide)⟩
  obtain ⟨g1, g2⟩ := g (b * 2654435761 + 40503 * c * c + 97 * c + 13)
  refine ⟨mul_ok (by omega) (by omega) (by omega) (by omega), mul_ok (by omega) (by omega) (by omega) (by omega), mul_ok (by omega) (by omega) (by omega) (by omega), mul_ok (by omega) (by omega) (by omega) (by omega), by decide, mul_ok (by omega) (by omega) (by omega) (by omega), mul_ok (by omega) (by omega) (by omega) (by omega), by decide, by decide, ?_⟩
  exact h _ (Int.ediv_nonneg (Int.emod_nonneg _ (by decide)) (by decide))
theorem draw_ok {k : Int} (hp : Pu m p) (hm : m < 2 ^ 50) (hk : 0 < k) (hk2 : k < 2 ^ 200) (h : ∀ r p', 0 ≤ r → r < k → Pu (m + 1) p' → Q (.sh (.int r)) [p', .sh (.int k)]) : wC (CALL Gm (n + 2) F__law_draw [p, .sh (.int k)]) Q E := by
  obtain ⟨a, b, c, rfl, ha, hb, hb2, hc, hc2⟩ := hp
  rw [u__law_draw]
  simp only [b__law_draw, w_var, w_cst, wB_var, kO1_eq, kO2, w_bin, w_cmp, w_ix, w_neg, kNeg_int, w_no, kNo, kT_bl, w_and, w_or, w_ite, kAnd, kOr, kIte, w_cm2, kC1_eq, kC2_eq, kC3, wD_nil, wD_cons, kD1_eq, kD3, kD2, wR_nil, wR_cons, kR1, kR2, wA_nil, wA_var, kA1, kA2, kAv, kAn_sh, kAn_ol, kAn_od, w_tup, w_lst, kTup, kLst, w_dc0, kX1_eq, w_ixd, kX2_int, w_cal, kCal, w_calk, kKw1, kKw, w_blt1, w_blt, kBl1, kBl, w_isi, kIs, kV_sh, kV_ol, kL_some, kR_some, kR_if, kI_t, kI_f, s_nil, s_cons, kSq_nx, kSq_bk, kSq_ct, kSq_rt, kSq_ex, s_ex, kDr, s_asg, kAs_nm, kAs_tp, s_par, kPar, s_sidx, kSi1, kSi2, set0, set1, set2, s_iff, kIf, s_whl, s_rng, kRg_eq, kRg', s_seq, kSeq, s_retv, s_retn, kRv_some, s_rse, kRse, s_try, kTry_nx, kTry_bk, kTry_ct, kTry_rt, kTry_ex, s_pass, s_brk, s_cnt, kFin_nx, kFin_bk, kFin_ct, kFin_rt, kFin_ex, kO_some, suitS, suit, Su.flat, beq_self_eq_true, stg, wS_nx, wS_bk, wS_ct, wS_rt, wS_ex, rt_cst, lb_cst, la_cst, l2_cst, rt_glb, lb_glb, la_glb, l2_glb, rt_bin, lb_bin, la_bin, l2_bin, rt_neg, lb_neg, la_neg, l2_neg, rt_inv, lb_inv, la_inv, l2_inv, rt_no, lb_no, la_no, l2_no, rt_cmp, lb_cmp, la_cmp, l2_cmp, rt_cm2, lb_cm2, la_cm2, l2_cm2, rt_and, lb_and, la_and, l2_and, rt_or, lb_or, la_or, l2_or, rt_ite, lb_ite, la_ite, l2_ite, rt_tup, lb_tup, la_tup, l2_tup, rt_lst, lb_lst, la_lst, rt_dc0, lb_dc0, la_dc0, l2_dc0, rt_ix, lb_ix, la_ix, l2_ix, rt_ixd, lb_ixd, la_ixd, l2_ixd, rt_att, lb_att, la_att, l2_att, rt_cal, lb_cal, la_cal, l2_cal, rt_calk, lb_calk, la_calk, l2_calk, rt_blt, lb_blt, la_blt, l2_blt, rt_isi, lb_isi, la_isi, l2_isi, l2_var, l2_ln, l2_lc, frz, snap, binD, cmpR, cmpD, idxR, idxD, bltD, isD, isNon, at0, at1, at2, eqD_int, List.getElem?_cons_zero, List.getElem?_cons_succ, List.set_cons_zero, List.set_cons_succ, List.length_cons, List.length_nil, setr, setl, takeA, putA, picks, outs, Option.map_some, Option.bind_some, Bool.false_eq_true, if_true, if_false, Bool.not_true, Bool.not_false, Bool.and_true, Bool.true_and, Bool.and_false, Bool.false_and, true_and, and_true, List.contains_nil, List.contains_cons, Nat.reduceLT, Nat.reduceAdd, Nat.reduceBEq, Bool.or_false, Bool.false_or, Bool.or_true, Bool.true_or, List.map_cons, List.map_nil, List.append_nil, List.cons_append, List.nil_append, decide_true, decide_false, Nat.not_lt_zero, g__law_mixed, d__law_mixed]
  refine kI_both (fun h1 => ?_) (fun h1 => ?_)
  · refine ⟨hk, div_ok hk hk2, ?_⟩
    exact h _ _ (Int.emod_nonneg _ (by omega)) (Int.emod_lt_of_pos _ hk) ⟨_, _, _, rfl, Int.ediv_nonneg ha (by omega), hb, hb2, hc, by omega⟩
  · refine mixed_ok hb hb2 (by omega) (by omega) fun r hr => ?_
    simp only [w_var, w_cst, wB_var, kO1_eq, kO2, w_bin, w_cmp, w_ix, w_neg, kNeg_int, w_no, kNo, kT_bl, w_and, w_or, w_ite, kAnd, kOr, kIte, w_cm2, kC1_eq, kC2_eq, kC3, wD_nil, wD_cons, kD1_eq, kD3, kD2, wR_nil, wR_cons, kR1, kR2, wA_nil, wA_var, kA1, kA2, kAv, kAn_sh, kAn_ol, kAn_od, w_tup, w_lst, kTup, kLst, w_dc0, kX1_eq, w_ixd, kX2_int, w_cal, kCal, w_calk, kKw1, kKw, w_blt1, w_blt, kBl1, kBl, w_isi, kIs, kV_sh, kV_ol, kL_some, kR_some, kR_if, kI_t, kI_f, s_nil, s_cons, kSq_nx, kSq_bk, kSq_ct, kSq_rt, kSq_ex, s_ex, kDr, s_asg, kAs_nm, kAs_tp, s_par, kPar, s_sidx, kSi1, kSi2, set0, set1, set2, s_iff, kIf, s_whl, s_rng, kRg_eq, kRg', s_seq, kSeq, s_retv, s_retn, kRv_some, s_rse, kRse, s_try, kTry_nx, kTry_bk, kTry_ct, kTry_rt, kTry_ex, s_pass, s_brk, s_cnt, kFin_nx, kFin_bk, kFin_ct, kFin_rt, kFin_ex, kO_some, suitS, suit, Su.flat, beq_self_eq_true, stg, wS_nx, wS_bk, wS_ct, wS_rt, wS_ex, rt_cst, lb_cst, la_cst, l2_cst, rt_glb, lb_glb, la_glb, l2_glb, rt_bin, lb_bin, la_bin, l2_bin, rt_neg, lb_neg, la_neg, l2_neg, rt_inv, lb_inv, la_inv, l2_inv, rt_no, lb_no, la_no, l2_no, rt_cmp, lb_cmp, la_cmp, l2_cmp, rt_cm2, lb_cm2, la_cm2, l2_cm2, rt_and, lb_and, la_and, l2_and, rt_or, lb_or, la_or, l2_or, rt_ite, lb_ite, la_ite, l2_ite, rt_tup, lb_tup, la_tup, l2_tup, rt_lst, lb_lst, la_lst, rt_dc0, lb_dc0, la_dc0, l2_dc0, rt_ix, lb_ix, la_ix, l2_ix, rt_ixd, lb_ixd, la_ixd, l2_ixd, rt_att, lb_att, la_att, l2_att, rt_cal, lb_cal, la_cal, l2_cal, rt_calk, lb_calk, la_calk, l2_calk, rt_blt, lb_blt, la_blt, l2_blt, rt_isi, lb_isi, la_isi, l2_isi, l2_var, l2_ln, l2_lc, frz, snap, binD, cmpR, cmpD, idxR, idxD, bltD, isD, isNon, at0, at1, at2, eqD_int, List.getElem?_cons_zero, List.getElem?_cons_succ, List.set_cons_zero, List.set_cons_succ, List.length_cons, List.length_nil, setr, setl, takeA, putA, picks, outs, Option.map_some, Option.bind_some, Bool.false_eq_true, if_true, if_false, Bool.not_true, Bool.not_false, Bool.and_true, Bool.true_and, Bool.and_false, Bool.false_and, true_and, and_true, List.contains_nil, List.contains_cons, Nat.reduceLT, Nat.reduceAdd, Nat.reduceBEq, Bool.or_false, Bool.false_or, Bool.or_true, Bool.true_or, List.map_cons, List.map_nil, List.append_nil, List.cons_append, List.nil_append, decide_true, decide_false, Nat.not_lt_zero]
    exact ⟨hk, h _ _ (Int.emod_nonneg _ (by omega)) (Int.emod_lt_of_pos _ hk) ⟨_, _, _, rfl, ha, hb, hb2, by omega, by omega⟩⟩
/-- figures -/
theorem great_ok (hp : Pu m p) (hm : m < 2 ^ 40) (h : ∀ r p', 0 ≤ r → r < 10 ^ 12 → Pu (m + 12) p' → Q (.sh (.int r)) [p', .sh (.int 12)]) : wC (CALL Gm (n + 3) F__law_great [p, .sh (.int 12)]) Q E := by
  rw [u__law_great]
  simp only [b__law_great, w_var, w_cst, wB_var, kO1_eq, kO2, w_bin, w_cmp, w_ix, w_neg, kNeg_int, w_no, kNo, kT_bl, w_and, w_or, w_ite, kAnd, kOr, kIte, w_cm2, kC1_eq, kC2_eq, kC3, wD_nil, wD_cons, kD1_eq, kD3, kD2, wR_nil, wR_cons, kR1, kR2, wA_nil, wA_var, kA1, kA2, kAv, kAn_sh, kAn_ol, kAn_od, w_tup, w_lst, kTup, kLst, w_dc0, kX1_eq, w_ixd, kX2_int, w_cal, kCal, w_calk, kKw1, kKw, w_blt1, w_blt, kBl1, kBl, w_isi, kIs, kV_sh, kV_ol, kL_some, kR_some, kR_if, kI_t, kI_f, s_nil, s_cons, kSq_nx, kSq_bk, kSq_ct, kSq_rt, kSq_ex, s_ex, kDr, s_asg, kAs_nm, kAs_tp, s_par, kPar, s_sidx, kSi1, kSi2, set0, set1, set2, s_iff, kIf, s_whl, s_rng, kRg_eq, kRg', s_seq, kSeq, s_retv, s_retn, kRv_some, s_rse, kRse, s_try, kTry_nx, kTry_bk, kTry_ct, kTry_rt, kTry_ex, s_pass, s_brk, s_cnt, kFin_nx, kFin_bk, kFin_ct, kFin_rt, kFin_ex, kO_some, suitS, suit, Su.flat, beq_self_eq_true, stg, wS_nx, wS_bk, wS_ct, wS_rt, wS_ex, rt_cst, lb_cst, la_cst, l2_cst, rt_glb, lb_glb, la_glb, l2_glb, rt_bin, lb_bin, la_bin, l2_bin, rt_neg, lb_neg, la_neg, l2_neg, rt_inv, lb_inv, la_inv, l2_inv, rt_no, lb_no, la_no, l2_no, rt_cmp, lb_cmp, la_cmp, l2_cmp, rt_cm2, lb_cm2, la_cm2, l2_cm2, rt_and, lb_and, la_and, l2_and, rt_or, lb_or, la_or, l2_or, rt_ite, lb_ite, la_ite, l2_ite, rt_tup, lb_tup, la_tup, l2_tup, rt_lst, lb_lst, la_lst, rt_dc0, lb_dc0, la_dc0, l2_dc0, rt_ix, lb_ix, la_ix, l2_ix, rt_ixd, lb_ixd, la_ixd, l2_ixd, rt_att, lb_att, la_att, l2_att, rt_cal, lb_cal, la_cal, l2_cal, rt_calk, lb_calk, la_calk, l2_calk, rt_blt, lb_blt, la_blt, l2_blt, rt_isi, lb_isi, la_isi, l2_isi, l2_var, l2_ln, l2_lc, frz, snap, binD, cmpR, cmpD, idxR, idxD, bltD, isD, isNon, at0, at1, at2, eqD_int, List.getElem?_cons_zero, List.getElem?_cons_succ, List.set_cons_zero, List.set_cons_succ, List.length_cons, List.length_nil, setr, setl, takeA, putA, picks, outs, Option.map_some, Option.bind_some, Bool.false_eq_true, if_true, if_false, Bool.not_true, Bool.not_false, Bool.and_true, Bool.true_and, Bool.and_false, Bool.false_and, true_and, and_true, List.contains_nil, List.contains_cons, Nat.reduceLT, Nat.reduceAdd, Nat.reduceBEq, Bool.or_false, Bool.false_or, Bool.or_true, Bool.true_or, List.map_cons, List.map_nil, List.append_nil, List.cons_append, List.nil_append, decide_true, decide_false, Nat.not_lt_zero]
  have e : rngD [.int 12] = some ((List.range 12).map fun j => D.int (0 + (j : Nat))) := rfl
  simp only [e, w_var, w_cst, wB_var, kO1_eq, kO2, w_bin, w_cmp, w_ix, w_neg, kNeg_int, w_no, kNo, kT_bl, w_and, w_or, w_ite, kAnd, kOr, kIte, w_cm2, kC1_eq, kC2_eq, kC3, wD_nil, wD_cons, kD1_eq, kD3, kD2, wR_nil, wR_cons, kR1, kR2, wA_nil, wA_var, kA1, kA2, kAv, kAn_sh, kAn_ol, kAn_od, w_tup, w_lst, kTup, kLst, w_dc0, kX1_eq, w_ixd, kX2_int, w_cal, kCal, w_calk, kKw1, kKw, w_blt1, w_blt, kBl1, kBl, w_isi, kIs, kV_sh, kV_ol, kL_some, kR_some, kR_if, kI_t, kI_f, s_nil, s_cons, kSq_nx, kSq_bk, kSq_ct, kSq_rt, kSq_ex, s_ex, kDr, s_asg, kAs_nm, kAs_tp, s_par, kPar, s_sidx, kSi1, kSi2, set0, set1, set2, s_iff, kIf, s_whl, s_rng, kRg_eq, kRg', s_seq, kSeq, s_retv, s_retn, kRv_some, s_rse, kRse, s_try, kTry_nx, kTry_bk, kTry_ct, kTry_rt, kTry_ex, s_pass, s_brk, s_cnt, kFin_nx, kFin_bk, kFin_ct, kFin_rt, kFin_ex, kO_some, suitS, suit, Su.flat, beq_self_eq_true, stg, wS_nx, wS_bk, wS_ct, wS_rt, wS_ex, rt_cst, lb_cst, la_cst, l2_cst, rt_glb, lb_glb, la_glb, l2_glb, rt_bin, lb_bin, la_bin, l2_bin, rt_neg, lb_neg, la_neg, l2_neg, rt_inv, lb_inv, la_inv, l2_inv, rt_no, lb_no, la_no, l2_no, rt_cmp, lb_cmp, la_cmp, l2_cmp, rt_cm2, lb_cm2, la_cm2, l2_cm2, rt_and, lb_and, la_and, l2_and, rt_or, lb_or, la_or, l2_or, rt_ite, lb_ite, la_ite, l2_ite, rt_tup, lb_tup, la_tup, l2_tup, rt_lst, lb_lst, la_lst, rt_dc0, lb_dc0, la_dc0, l2_dc0, rt_ix, lb_ix, la_ix, l2_ix, rt_ixd, lb_ixd, la_ixd, l2_ixd, rt_att, lb_att, la_att, l2_att, rt_cal, lb_cal, la_cal, l2_cal, rt_calk, lb_calk, la_calk, l2_calk, rt_blt, lb_blt, la_blt, l2_blt, rt_isi, lb_isi, la_isi, l2_isi, l2_var, l2_ln, l2_lc, frz, snap, binD, cmpR, cmpD, idxR, idxD, bltD, isD, isNon, at0, at1, at2, eqD_int, List.getElem?_cons_zero, List.getElem?_cons_succ, List.set_cons_zero, List.set_cons_succ, List.length_cons, List.length_nil, setr, setl, takeA, putA, picks, outs, Option.map_some, Option.bind_some, Bool.false_eq_true, if_true, if_false, Bool.not_true, Bool.not_false, Bool.and_true, Bool.true_and, Bool.and_false, Bool.false_and, true_and, and_true, List.contains_nil, List.contains_cons, Nat.reduceLT, Nat.reduceAdd, Nat.reduceBEq, Bool.or_false, Bool.false_or, Bool.or_true, Bool.true_or, List.map_cons, List.map_nil, List.append_nil, List.cons_append, List.nil_append, decide_true, decide_false, Nat.not_lt_zero]
  refine wF_rule (fun l ρ => ∃ (j : Nat) (p : R) (f : Int) (x : Option R), ρ = [some p, some (.sh (.int 12)), some (.sh (.int f)), x] ∧ j + l.length = 12 ∧ Pu (m + j) p ∧ 0 ≤ f ∧ f < 10 ^ j) ?_ ?_ ⟨0, p, 0, none, rfl, rfl, hp, by decide, by decide⟩
  · rintro v l ρ ⟨j, p, f, x, rfl, hl, hp, h0, h1⟩
    have hq := hp
    obtain ⟨a, b, c, rfl, _⟩ := hp
    have hj : j < 12 := by simp only [List.length_cons] at hl; omega
    have hb : (10 : Int) ^ j ≤ 10 ^ 12 := by
      have q := Nat.pow_le_pow_right (n := 10) (by decide) (show j ≤ 12 by omega)
      exact_mod_cast q
    have hm10 : mulOk 10 f = true := mul_ok (by omega) (by omega) (by omega) (by omega)
    simp only [w_var, w_cst, wB_var, kO1_eq, kO2, w_bin, w_cmp, w_ix, w_neg, kNeg_int, w_no, kNo, kT_bl, w_and, w_or, w_ite, kAnd, kOr, kIte, w_cm2, kC1_eq, kC2_eq, kC3, wD_nil, wD_cons, kD1_eq, kD3, kD2, wR_nil, wR_cons, kR1, kR2, wA_nil, wA_var, kA1, kA2, kAv, kAn_sh, kAn_ol, kAn_od, w_tup, w_lst, kTup, kLst, w_dc0, kX1_eq, w_ixd, kX2_int, w_cal, kCal, w_calk, kKw1, kKw, w_blt1, w_blt, kBl1, kBl, w_isi, kIs, kV_sh, kV_ol, kL_some, kR_some, kR_if, kI_t, kI_f, s_nil, s_cons, kSq_nx, kSq_bk, kSq_ct, kSq_rt, kSq_ex, s_ex, kDr, s_asg, kAs_nm, kAs_tp, s_par, kPar, s_sidx, kSi1, kSi2, set0, set1, set2, s_iff, kIf, s_whl, s_rng, kRg_eq, kRg', s_seq, kSeq, s_retv, s_retn, kRv_some, s_rse, kRse, s_try, kTry_nx, kTry_bk, kTry_ct, kTry_rt, kTry_ex, s_pass, s_brk, s_cnt, kFin_nx, kFin_bk, kFin_ct, kFin_rt, kFin_ex, kO_some, suitS, suit, Su.flat, beq_self_eq_true, stg, wS_nx, wS_bk, wS_ct, wS_rt, wS_ex, rt_cst, lb_cst, la_cst, l2_cst, rt_glb, lb_glb, la_glb, l2_glb, rt_bin, lb_bin, la_bin, l2_bin, rt_neg, lb_neg, la_neg, l2_neg, rt_inv, lb_inv, la_inv, l2_inv, rt_no, lb_no, la_no, l2_no, rt_cmp, lb_cmp, la_cmp, l2_cmp, rt_cm2, lb_cm2, la_cm2, l2_cm2, rt_and, lb_and, la_and, l2_and, rt_or, lb_or, la_or, l2_or, rt_ite, lb_ite, la_ite, l2_ite, rt_tup, lb_tup, la_tup, l2_tup, rt_lst, lb_lst, la_lst, rt_dc0, lb_dc0, la_dc0, l2_dc0, rt_ix, lb_ix, la_ix, l2_ix, rt_ixd, lb_ixd, la_ixd, l2_ixd, rt_att, lb_att, la_att, l2_att, rt_cal, lb_cal, la_cal, l2_cal, rt_calk, lb_calk, la_calk, l2_calk, rt_blt, lb_blt, la_blt, l2_blt, rt_isi, lb_isi, la_isi, l2_isi, l2_var, l2_ln, l2_lc, frz, snap, binD, cmpR, cmpD, idxR, idxD, bltD, isD, isNon, at0, at1, at2, eqD_int, List.getElem?_cons_zero, List.getElem?_cons_succ, List.set_cons_zero, List.set_cons_succ, List.length_cons, List.length_nil, setr, setl, takeA, putA, picks, outs, Option.map_some, Option.bind_some, Bool.false_eq_true, if_true, if_false, Bool.not_true, Bool.not_false, Bool.and_true, Bool.true_and, Bool.and_false, Bool.false_and, true_and, and_true, List.contains_nil, List.contains_cons, Nat.reduceLT, Nat.reduceAdd, Nat.reduceBEq, Bool.or_false, Bool.false_or, Bool.or_true, Bool.true_or, List.map_cons, List.map_nil, List.append_nil, List.cons_append, List.nil_append, decide_true, decide_false, Nat.not_lt_zero, g__law_draw, d__law_draw, hm10]
    refine draw_ok hq (by omega) (by decide) (by decide) fun r p' r0 r1 hp' => ?_
    simp only [w_var, w_cst, wB_var, kO1_eq, kO2, w_bin, w_cmp, w_ix, w_neg, kNeg_int, w_no, kNo, kT_bl, w_and, w_or, w_ite, kAnd, kOr, kIte, w_cm2, kC1_eq, kC2_eq, kC3, wD_nil, wD_cons, kD1_eq, kD3, kD2, wR_nil, wR_cons, kR1, kR2, wA_nil, wA_var, kA1, kA2, kAv, kAn_sh, kAn_ol, kAn_od, w_tup, w_lst, kTup, kLst, w_dc0, kX1_eq, w_ixd, kX2_int, w_cal, kCal, w_calk, kKw1, kKw, w_blt1, w_blt, kBl1, kBl, w_isi, kIs, kV_sh, kV_ol, kL_some, kR_some, kR_if, kI_t, kI_f, s_nil, s_cons, kSq_nx, kSq_bk, kSq_ct, kSq_rt, kSq_ex, s_ex, kDr, s_asg, kAs_nm, kAs_tp, s_par, kPar, s_sidx, kSi1, kSi2, set0, set1, set2, s_iff, kIf, s_whl, s_rng, kRg_eq, kRg', s_seq, kSeq, s_retv, s_retn, kRv_some, s_rse, kRse, s_try, kTry_nx, kTry_bk, kTry_ct, kTry_rt, kTry_ex, s_pass, s_brk, s_cnt, kFin_nx, kFin_bk, kFin_ct, kFin_rt, kFin_ex, kO_some, suitS, suit, Su.flat, beq_self_eq_true, stg, wS_nx, wS_bk, wS_ct, wS_rt, wS_ex, rt_cst, lb_cst, la_cst, l2_cst, rt_glb, lb_glb, la_glb, l2_glb, rt_bin, lb_bin, la_bin, l2_bin, rt_neg, lb_neg, la_neg, l2_neg, rt_inv, lb_inv, la_inv, l2_inv, rt_no, lb_no, la_no, l2_no, rt_cmp, lb_cmp, la_cmp, l2_cmp, rt_cm2, lb_cm2, la_cm2, l2_cm2, rt_and, lb_and, la_and, l2_and, rt_or, lb_or, la_or, l2_or, rt_ite, lb_ite, la_ite, l2_ite, rt_tup, lb_tup, la_tup, l2_tup, rt_lst, lb_lst, la_lst, rt_dc0, lb_dc0, la_dc0, l2_dc0, rt_ix, lb_ix, la_ix, l2_ix, rt_ixd, lb_ixd, la_ixd, l2_ixd, rt_att, lb_att, la_att, l2_att, rt_cal, lb_cal, la_cal, l2_cal, rt_calk, lb_calk, la_calk, l2_calk, rt_blt, lb_blt, la_blt, l2_blt, rt_isi, lb_isi, la_isi, l2_isi, l2_var, l2_ln, l2_lc, frz, snap, binD, cmpR, cmpD, idxR, idxD, bltD, isD, isNon, at0, at1, at2, eqD_int, List.getElem?_cons_zero, List.getElem?_cons_succ, List.set_cons_zero, List.set_cons_succ, List.length_cons, List.length_nil, setr, setl, takeA, putA, picks, outs, Option.map_some, Option.bind_some, Bool.false_eq_true, if_true, if_false, Bool.not_true, Bool.not_false, Bool.and_true, Bool.true_and, Bool.and_false, Bool.false_and, true_and, and_true, List.contains_nil, List.contains_cons, Nat.reduceLT, Nat.reduceAdd, Nat.reduceBEq, Bool.or_false, Bool.false_or, Bool.or_true, Bool.true_or, List.map_cons, List.map_nil, List.append_nil, List.cons_append, List.nil_append, decide_true, decide_false, Nat.not_lt_zero]
    refine ⟨j + 1, p', 10 * f + r, _, rfl, by simp only [List.length_cons] at hl; omega, hp', by omega, ?_⟩
    rw [Int.pow_succ]
    omega
  · rintro ρ ⟨j, p, f, x, rfl, hl, hp, h0, h1⟩
    simp only [List.length_nil, Nat.add_zero] at hl
    subst hl
    simp only [w_var, w_cst, wB_var, kO1_eq, kO2, w_bin, w_cmp, w_ix, w_neg, kNeg_int, w_no, kNo, kT_bl, w_and, w_or, w_ite, kAnd, kOr, kIte, w_cm2, kC1_eq, kC2_eq, kC3, wD_nil, wD_cons, kD1_eq, kD3, kD2, wR_nil, wR_cons, kR1, kR2, wA_nil, wA_var, kA1, kA2, kAv, kAn_sh, kAn_ol, kAn_od, w_tup, w_lst, kTup, kLst, w_dc0, kX1_eq, w_ixd, kX2_int, w_cal, kCal, w_calk, kKw1, kKw, w_blt1, w_blt, kBl1, kBl, w_isi, kIs, kV_sh, kV_ol, kL_some, kR_some, kR_if, kI_t, kI_f, s_nil, s_cons, kSq_nx, kSq_bk, kSq_ct, kSq_rt, kSq_ex, s_ex, kDr, s_asg, kAs_nm, kAs_tp, s_par, kPar, s_sidx, kSi1, kSi2, set0, set1, set2, s_iff, kIf, s_whl, s_rng, kRg_eq, kRg', s_seq, kSeq, s_retv, s_retn, kRv_some, s_rse, kRse, s_try, kTry_nx, kTry_bk, kTry_ct, kTry_rt, kTry_ex, s_pass, s_brk, s_cnt, kFin_nx, kFin_bk, kFin_ct, kFin_rt, kFin_ex, kO_some, suitS, suit, Su.flat, beq_self_eq_true, stg, wS_nx, wS_bk, wS_ct, wS_rt, wS_ex, rt_cst, lb_cst, la_cst, l2_cst, rt_glb, lb_glb, la_glb, l2_glb, rt_bin, lb_bin, la_bin, l2_bin, rt_neg, lb_neg, la_neg, l2_neg, rt_inv, lb_inv, la_inv, l2_inv, rt_no, lb_no, la_no, l2_no, rt_cmp, lb_cmp, la_cmp, l2_cmp, rt_cm2, lb_cm2, la_cm2, l2_cm2, rt_and, lb_and, la_and, l2_and, rt_or, lb_or, la_or, l2_or, rt_ite, lb_ite, la_ite, l2_ite, rt_tup, lb_tup, la_tup, l2_tup, rt_lst, lb_lst, la_lst, rt_dc0, lb_dc0, la_dc0, l2_dc0, rt_ix, lb_ix, la_ix, l2_ix, rt_ixd, lb_ixd, la_ixd, l2_ixd, rt_att, lb_att, la_att, l2_att, rt_cal, lb_cal, la_cal, l2_cal, rt_calk, lb_calk, la_calk, l2_calk, rt_blt, lb_blt, la_blt, l2_blt, rt_isi, lb_isi, la_isi, l2_isi, l2_var, l2_ln, l2_lc, frz, snap, binD, cmpR, cmpD, idxR, idxD, bltD, isD, isNon, at0, at1, at2, eqD_int, List.getElem?_cons_zero, List.getElem?_cons_succ, List.set_cons_zero, List.set_cons_succ, List.length_cons, List.length_nil, setr, setl, takeA, putA, picks, outs, Option.map_some, Option.bind_some, Bool.false_eq_true, if_true, if_false, Bool.not_true, Bool.not_false, Bool.and_true, Bool.true_and, Bool.and_false, Bool.false_and, true_and, and_true, List.contains_nil, List.contains_cons, Nat.reduceLT, Nat.reduceAdd, Nat.reduceBEq, Bool.or_false, Bool.false_or, Bool.or_true, Bool.true_or, List.map_cons, List.map_nil, List.append_nil, List.cons_append, List.nil_append, decide_true, decide_false, Nat.not_lt_zero]
    exact h _ _ h0 h1 hp
theorem law_common_ok {x y : Nat} (hy : y < 2 ^ 200) : CALL Gm (n + 1) F__law_common [.sh (.int x), .sh (.int y)] = .ok (.sh (.int (Nat.gcd x y))) [.sh (.int x), .sh (.int y)] := by
  refine wC_eq ?_
  rw [u__law_common]
  simp only [b__law_common, w_var, w_cst, wB_var, kO1_eq, kO2, w_bin, w_cmp, w_ix, w_neg, kNeg_int, w_no, kNo, kT_bl, w_and, w_or, w_ite, kAnd, kOr, kIte, w_cm2, kC1_eq, kC2_eq, kC3, wD_nil, wD_cons, kD1_eq, kD3, kD2, wR_nil, wR_cons, kR1, kR2, wA_nil, wA_var, kA1, kA2, kAv, kAn_sh, kAn_ol, kAn_od, w_tup, w_lst, kTup, kLst, w_dc0, kX1_eq, w_ixd, kX2_int, w_cal, kCal, w_calk, kKw1, kKw, w_blt1, w_blt, kBl1, kBl, w_isi, kIs, kV_sh, kV_ol, kL_some, kR_some, kR_if, kI_t, kI_f, s_nil, s_cons, kSq_nx, kSq_bk, kSq_ct, kSq_rt, kSq_ex, s_ex, kDr, s_asg, kAs_nm, kAs_tp, s_par, kPar, s_sidx, kSi1, kSi2, set0, set1, set2, s_iff, kIf, s_whl, s_rng, kRg_eq, kRg', s_seq, kSeq, s_retv, s_retn, kRv_some, s_rse, kRse, s_try, kTry_nx, kTry_bk, kTry_ct, kTry_rt, kTry_ex, s_pass, s_brk, s_cnt, kFin_nx, kFin_bk, kFin_ct, kFin_rt, kFin_ex, kO_some, suitS, suit, Su.flat, beq_self_eq_true, stg, wS_nx, wS_bk, wS_ct, wS_rt, wS_ex, rt_cst, lb_cst, la_cst, l2_cst, rt_glb, lb_glb, la_glb, l2_glb, rt_bin, lb_bin, la_bin, l2_bin, rt_neg, lb_neg, la_neg, l2_neg, rt_inv, lb_inv, la_inv, l2_inv, rt_no, lb_no, la_no, l2_no, rt_cmp, lb_cmp, la_cmp, l2_cmp, rt_cm2, lb_cm2, la_cm2, l2_cm2, rt_and, lb_and, la_and, l2_and, rt_or, lb_or, la_or, l2_or, rt_ite, lb_ite, la_ite, l2_ite, rt_tup, lb_tup, la_tup, l2_tup, rt_lst, lb_lst, la_lst, rt_dc0, lb_dc0, la_dc0, l2_dc0, rt_ix, lb_ix, la_ix, l2_ix, rt_ixd, lb_ixd, la_ixd, l2_ixd, rt_att, lb_att, la_att, l2_att, rt_cal, lb_cal, la_cal, l2_cal, rt_calk, lb_calk, la_calk, l2_calk, rt_blt, lb_blt, la_blt, l2_blt, rt_isi, lb_isi, la_isi, l2_isi, l2_var, l2_ln, l2_lc, frz, snap, binD, cmpR, cmpD, idxR, idxD, bltD, isD, isNon, at0, at1, at2, eqD_int, List.getElem?_cons_zero, List.getElem?_cons_succ, List.set_cons_zero, List.set_cons_succ, List.length_cons, List.length_nil, setr, setl, takeA, putA, picks, outs, Option.map_some, Option.bind_some, Bool.false_eq_true, if_true, if_false, Bool.not_true, Bool.not_false, Bool.and_true, Bool.true_and, Bool.and_false, Bool.false_and, true_and, and_true, List.contains_nil, List.contains_cons, Nat.reduceLT, Nat.reduceAdd, Nat.reduceBEq, Bool.or_false, Bool.false_or, Bool.or_true, Bool.true_or, List.map_cons, List.map_nil, List.append_nil, List.cons_append, List.nil_append, decide_true, decide_false, Nat.not_lt_zero]
  refine wW_rule (fun m ρ => ∃ a b : Nat, ρ = [some (.sh (.int a)), some (.sh (.int b))] ∧ Nat.gcd a b = Nat.gcd x y ∧ m = b) ?_ (m := y) (Nat.lt_of_lt_of_le hy LIM_big) ⟨x, y, rfl, rfl, rfl⟩
  rintro m ρ ⟨a, b, rfl, hg, rfl⟩
  simp only [w_var, w_cst, wB_var, kO1_eq, kO2, w_bin, w_cmp, w_ix, w_neg, kNeg_int, w_no, kNo, kT_bl, w_and, w_or, w_ite, kAnd, kOr, kIte, w_cm2, kC1_eq, kC2_eq, kC3, wD_nil, wD_cons, kD1_eq, kD3, kD2, wR_nil, wR_cons, kR1, kR2, wA_nil, wA_var, kA1, kA2, kAv, kAn_sh, kAn_ol, kAn_od, w_tup, w_lst, kTup, kLst, w_dc0, kX1_eq, w_ixd, kX2_int, w_cal, kCal, w_calk, kKw1, kKw, w_blt1, w_blt, kBl1, kBl, w_isi, kIs, kV_sh, kV_ol, kL_some, kR_some, kR_if, kI_t, kI_f, s_nil, s_cons, kSq_nx, kSq_bk, kSq_ct, kSq_rt, kSq_ex, s_ex, kDr, s_asg, kAs_nm, kAs_tp, s_par, kPar, s_sidx, kSi1, kSi2, set0, set1, set2, s_iff, kIf, s_whl, s_rng, kRg_eq, kRg', s_seq, kSeq, s_retv, s_retn, kRv_some, s_rse, kRse, s_try, kTry_nx, kTry_bk, kTry_ct, kTry_rt, kTry_ex, s_pass, s_brk, s_cnt, kFin_nx, kFin_bk, kFin_ct, kFin_rt, kFin_ex, kO_some, suitS, suit, Su.flat, beq_self_eq_true, stg, wS_nx, wS_bk, wS_ct, wS_rt, wS_ex, rt_cst, lb_cst, la_cst, l2_cst, rt_glb, lb_glb, la_glb, l2_glb, rt_bin, lb_bin, la_bin, l2_bin, rt_neg, lb_neg, la_neg, l2_neg, rt_inv, lb_inv, la_inv, l2_inv, rt_no, lb_no, la_no, l2_no, rt_cmp, lb_cmp, la_cmp, l2_cmp, rt_cm2, lb_cm2, la_cm2, l2_cm2, rt_and, lb_and, la_and, l2_and, rt_or, lb_or, la_or, l2_or, rt_ite, lb_ite, la_ite, l2_ite, rt_tup, lb_tup, la_tup, l2_tup, rt_lst, lb_lst, la_lst, rt_dc0, lb_dc0, la_dc0, l2_dc0, rt_ix, lb_ix, la_ix, l2_ix, rt_ixd, lb_ixd, la_ixd, l2_ixd, rt_att, lb_att, la_att, l2_att, rt_cal, lb_cal, la_cal, l2_cal, rt_calk, lb_calk, la_calk, l2_calk, rt_blt, lb_blt, la_blt, l2_blt, rt_isi, lb_isi, la_isi, l2_isi, l2_var, l2_ln, l2_lc, frz, snap, binD, cmpR, cmpD, idxR, idxD, bltD, isD, isNon, at0, at1, at2, eqD_int, List.getElem?_cons_zero, List.getElem?_cons_succ, List.set_cons_zero, List.set_cons_succ, List.length_cons, List.length_nil, setr, setl, takeA, putA, picks, outs, Option.map_some, Option.bind_some, Bool.false_eq_true, if_true, if_false, Bool.not_true, Bool.not_false, Bool.and_true, Bool.true_and, Bool.and_false, Bool.false_and, true_and, and_true, List.contains_nil, List.contains_cons, Nat.reduceLT, Nat.reduceAdd, Nat.reduceBEq, Bool.or_false, Bool.false_or, Bool.or_true, Bool.true_or, List.map_cons, List.map_nil, List.append_nil, List.cons_append, List.nil_append, decide_true, decide_false, Nat.not_lt_zero]
  refine kI_both (fun h => ?_) (fun h => ?_)
  · have hb : 0 < m := by
      simp at h
      omega
    refine ⟨by omega, a % m, Nat.mod_lt _ hb, m, a % m, by rw [Int.natCast_emod], ?_, rfl⟩
    rw [← hg, Nat.gcd_comm a m, Nat.gcd_rec m a, Nat.gcd_comm]
  · have hb : m = 0 := by
      simp at h
      omega
    subst hb
    rw [Nat.gcd_zero_right] at hg
    rw [hg]
theorem law_lowest_ok {x y : Nat} (h0 : 0 < y) (hy : y < 2 ^ 200) : CALL Gm (n + 2) F__law_lowest [.sh (.int x), .sh (.int y)] = .ok (.sh (low x y)) [.sh (.int x), .sh (.int y)] := by
  refine wC_eq ?_
  rw [u__law_lowest]
  have ha : (if (x : Int) < 0 then -(x : Int) else (x : Int)) = (x : Int) := if_neg (by omega)
  have hg : 0 < Nat.gcd x y := Nat.gcd_pos_of_pos_right _ h0
  have hg2 : Nat.gcd x y ≤ y := Nat.gcd_le_right _ h0
  have e : ((2 : Int) ^ 200) = ((2 ^ 200 : Nat) : Int) := by norm_cast
  have hd : divOk (Nat.gcd x y : Nat) = true := div_ok (by omega) (by omega)
  simp only [b__law_lowest, w_var, w_cst, wB_var, kO1_eq, kO2, w_bin, w_cmp, w_ix, w_neg, kNeg_int, w_no, kNo, kT_bl, w_and, w_or, w_ite, kAnd, kOr, kIte, w_cm2, kC1_eq, kC2_eq, kC3, wD_nil, wD_cons, kD1_eq, kD3, kD2, wR_nil, wR_cons, kR1, kR2, wA_nil, wA_var, kA1, kA2, kAv, kAn_sh, kAn_ol, kAn_od, w_tup, w_lst, kTup, kLst, w_dc0, kX1_eq, w_ixd, kX2_int, w_cal, kCal, w_calk, kKw1, kKw, w_blt1, w_blt, kBl1, kBl, w_isi, kIs, kV_sh, kV_ol, kL_some, kR_some, kR_if, kI_t, kI_f, s_nil, s_cons, kSq_nx, kSq_bk, kSq_ct, kSq_rt, kSq_ex, s_ex, kDr, s_asg, kAs_nm, kAs_tp, s_par, kPar, s_sidx, kSi1, kSi2, set0, set1, set2, s_iff, kIf, s_whl, s_rng, kRg_eq, kRg', s_seq, kSeq, s_retv, s_retn, kRv_some, s_rse, kRse, s_try, kTry_nx, kTry_bk, kTry_ct, kTry_rt, kTry_ex, s_pass, s_brk, s_cnt, kFin_nx, kFin_bk, kFin_ct, kFin_rt, kFin_ex, kO_some, suitS, suit, Su.flat, beq_self_eq_true, stg, wS_nx, wS_bk, wS_ct, wS_rt, wS_ex, rt_cst, lb_cst, la_cst, l2_cst, rt_glb, lb_glb, la_glb, l2_glb, rt_bin, lb_bin, la_bin, l2_bin, rt_neg, lb_neg, la_neg, l2_neg, rt_inv, lb_inv, la_inv, l2_inv, rt_no, lb_no, la_no, l2_no, rt_cmp, lb_cmp, la_cmp, l2_cmp, rt_cm2, lb_cm2, la_cm2, l2_cm2, rt_and, lb_and, la_and, l2_and, rt_or, lb_or, la_or, l2_or, rt_ite, lb_ite, la_ite, l2_ite, rt_tup, lb_tup, la_tup, l2_tup, rt_lst, lb_lst, la_lst, rt_dc0, lb_dc0, la_dc0, l2_dc0, rt_ix, lb_ix, la_ix, l2_ix, rt_ixd, lb_ixd, la_ixd, l2_ixd, rt_att, lb_att, la_att, l2_att, rt_cal, lb_cal, la_cal, l2_cal, rt_calk, lb_calk, la_calk, l2_calk, rt_blt, lb_blt, la_blt, l2_blt, rt_isi, lb_isi, la_isi, l2_isi, l2_var, l2_ln, l2_lc, frz, snap, binD, cmpR, cmpD, idxR, idxD, bltD, isD, isNon, at0, at1, at2, eqD_int, List.getElem?_cons_zero, List.getElem?_cons_succ, List.set_cons_zero, List.set_cons_succ, List.length_cons, List.length_nil, setr, setl, takeA, putA, picks, outs, Option.map_some, Option.bind_some, Bool.false_eq_true, if_true, if_false, Bool.not_true, Bool.not_false, Bool.and_true, Bool.true_and, Bool.and_false, Bool.false_and, true_and, and_true, List.contains_nil, List.contains_cons, Nat.reduceLT, Nat.reduceAdd, Nat.reduceBEq, Bool.or_false, Bool.false_or, Bool.or_true, Bool.true_or, List.map_cons, List.map_nil, List.append_nil, List.cons_append, List.nil_append, decide_true, decide_false, Nat.not_lt_zero, g__law_common, d__law_common, ha, wC_of (law_common_ok hy), hd]
  simp only [low, Int.natCast_ediv]
theorem law_degree_ok (hp : Pu m p) (hm : m < 2 ^ 40) (h : ∀ (x y : Nat) p', 0 < y → y ≤ 10 ^ 11 → x ≤ y → Pu (m + 2) p' → Q (.sh (low x y)) [p']) : wC (CALL Gm (n + 3) F__law_degree [p]) Q E := by
  have hq := hp
  obtain ⟨a, b, c, rfl, _⟩ := hp
  rw [u__law_degree]
  simp only [b__law_degree, w_var, w_cst, wB_var, kO1_eq, kO2, w_bin, w_cmp, w_ix, w_neg, kNeg_int, w_no, kNo, kT_bl, w_and, w_or, w_ite, kAnd, kOr, kIte, w_cm2, kC1_eq, kC2_eq, kC3, wD_nil, wD_cons, kD1_eq, kD3, kD2, wR_nil, wR_cons, kR1, kR2, wA_nil, wA_var, kA1, kA2, kAv, kAn_sh, kAn_ol, kAn_od, w_tup, w_lst, kTup, kLst, w_dc0, kX1_eq, w_ixd, kX2_int, w_cal, kCal, w_calk, kKw1, kKw, w_blt1, w_blt, kBl1, kBl, w_isi, kIs, kV_sh, kV_ol, kL_some, kR_some, kR_if, kI_t, kI_f, s_nil, s_cons, kSq_nx, kSq_bk, kSq_ct, kSq_rt, kSq_ex, s_ex, kDr, s_asg, kAs_nm, kAs_tp, s_par, kPar, s_sidx, kSi1, kSi2, set0, set1, set2, s_iff, kIf, s_whl, s_rng, kRg_eq, kRg', s_seq, kSeq, s_retv, s_retn, kRv_some, s_rse, kRse, s_try, kTry_nx, kTry_bk, kTry_ct, kTry_rt, kTry_ex, s_pass, s_brk, s_cnt, kFin_nx, kFin_bk, kFin_ct, kFin_rt, kFin_ex, kO_some, suitS, suit, Su.flat, beq_self_eq_true, stg, wS_nx, wS_bk, wS_ct, wS_rt, wS_ex, rt_cst, lb_cst, la_cst, l2_cst, rt_glb, lb_glb, la_glb, l2_glb, rt_bin, lb_bin, la_bin, l2_bin, rt_neg, lb_neg, la_neg, l2_neg, rt_inv, lb_inv, la_inv, l2_inv, rt_no, lb_no, la_no, l2_no, rt_cmp, lb_cmp, la_cmp, l2_cmp, rt_cm2, lb_cm2, la_cm2, l2_cm2, rt_and, lb_and, la_and, l2_and, rt_or, lb_or, la_or, l2_or, rt_ite, lb_ite, la_ite, l2_ite, rt_tup, lb_tup, la_tup, l2_tup, rt_lst, lb_lst, la_lst, rt_dc0, lb_dc0, la_dc0, l2_dc0, rt_ix, lb_ix, la_ix, l2_ix, rt_ixd, lb_ixd, la_ixd, l2_ixd, rt_att, lb_att, la_att, l2_att, rt_cal, lb_cal, la_cal, l2_cal, rt_calk, lb_calk, la_calk, l2_calk, rt_blt, lb_blt, la_blt, l2_blt, rt_isi, lb_isi, la_isi, l2_isi, l2_var, l2_ln, l2_lc, frz, snap, binD, cmpR, cmpD, idxR, idxD, bltD, isD, isNon, at0, at1, at2, eqD_int, List.getElem?_cons_zero, List.getElem?_cons_succ, List.set_cons_zero, List.set_cons_succ, List.length_cons, List.length_nil, setr, setl, takeA, putA, picks, outs, Option.map_some, Option.bind_some, Bool.false_eq_true, if_true, if_false, Bool.not_true, Bool.not_false, Bool.and_true, Bool.true_and, Bool.and_false, Bool.false_and, true_and, and_true, List.contains_nil, List.contains_cons, Nat.reduceLT, Nat.reduceAdd, Nat.reduceBEq, Bool.or_false, Bool.false_or, Bool.or_true, Bool.true_or, List.map_cons, List.map_nil, List.append_nil, List.cons_append, List.nil_append, decide_true, decide_false, Nat.not_lt_zero, g__law_draw, d__law_draw]
  refine ⟨by decide, draw_ok hq (by omega) (by decide) (by decide) fun r p' r0 r1 hp' => ?_⟩
  have hq' := hp'
  obtain ⟨a', b', c', rfl, _⟩ := hp'
  simp only [w_var, w_cst, wB_var, kO1_eq, kO2, w_bin, w_cmp, w_ix, w_neg, kNeg_int, w_no, kNo, kT_bl, w_and, w_or, w_ite, kAnd, kOr, kIte, w_cm2, kC1_eq, kC2_eq, kC3, wD_nil, wD_cons, kD1_eq, kD3, kD2, wR_nil, wR_cons, kR1, kR2, wA_nil, wA_var, kA1, kA2, kAv, kAn_sh, kAn_ol, kAn_od, w_tup, w_lst, kTup, kLst, w_dc0, kX1_eq, w_ixd, kX2_int, w_cal, kCal, w_calk, kKw1, kKw, w_blt1, w_blt, kBl1, kBl, w_isi, kIs, kV_sh, kV_ol, kL_some, kR_some, kR_if, kI_t, kI_f, s_nil, s_cons, kSq_nx, kSq_bk, kSq_ct, kSq_rt, kSq_ex, s_ex, kDr, s_asg, kAs_nm, kAs_tp, s_par, kPar, s_sidx, kSi1, kSi2, set0, set1, set2, s_iff, kIf, s_whl, s_rng, kRg_eq, kRg', s_seq, kSeq, s_retv, s_retn, kRv_some, s_rse, kRse, s_try, kTry_nx, kTry_bk, kTry_ct, kTry_rt, kTry_ex, s_pass, s_brk, s_cnt, kFin_nx, kFin_bk, kFin_ct, kFin_rt, kFin_ex, kO_some, suitS, suit, Su.flat, beq_self_eq_true, stg, wS_nx, wS_bk, wS_ct, wS_rt, wS_ex, rt_cst, lb_cst, la_cst, l2_cst, rt_glb, lb_glb, la_glb, l2_glb, rt_bin, lb_bin, la_bin, l2_bin, rt_neg, lb_neg, la_neg, l2_neg, rt_inv, lb_inv, la_inv, l2_inv, rt_no, lb_no, la_no, l2_no, rt_cmp, lb_cmp, la_cmp, l2_cmp, rt_cm2, lb_cm2, la_cm2, l2_cm2, rt_and, lb_and, la_and, l2_and, rt_or, lb_or, la_or, l2_or, rt_ite, lb_ite, la_ite, l2_ite, rt_tup, lb_tup, la_tup, l2_tup, rt_lst, lb_lst, la_lst, rt_dc0, lb_dc0, la_dc0, l2_dc0, rt_ix, lb_ix, la_ix, l2_ix, rt_ixd, lb_ixd, la_ixd, l2_ixd, rt_att, lb_att, la_att, l2_att, rt_cal, lb_cal, la_cal, l2_cal, rt_calk, lb_calk, la_calk, l2_calk, rt_blt, lb_blt, la_blt, l2_blt, rt_isi, lb_isi, la_isi, l2_isi, l2_var, l2_ln, l2_lc, frz, snap, binD, cmpR, cmpD, idxR, idxD, bltD, isD, isNon, at0, at1, at2, eqD_int, List.getElem?_cons_zero, List.getElem?_cons_succ, List.set_cons_zero, List.set_cons_succ, List.length_cons, List.length_nil, setr, setl, takeA, putA, picks, outs, Option.map_some, Option.bind_some, Bool.false_eq_true, if_true, if_false, Bool.not_true, Bool.not_false, Bool.and_true, Bool.true_and, Bool.and_false, Bool.false_and, true_and, and_true, List.contains_nil, List.contains_cons, Nat.reduceLT, Nat.reduceAdd, Nat.reduceBEq, Bool.or_false, Bool.false_or, Bool.or_true, Bool.true_or, List.map_cons, List.map_nil, List.append_nil, List.cons_append, List.nil_append, decide_true, decide_false, Nat.not_lt_zero]
  refine kR_at r0 (by simpa using r1) fun z hz => ?_
  have hy : ∃ y : Nat, 0 < y ∧ y ≤ 10 ^ 11 ∧ z = .sh (.int y) := by
    simp only [List.mem_cons, List.not_mem_nil, or_false] at hz
    rcases hz with rfl | rfl | rfl | rfl | rfl | rfl | rfl | rfl | rfl
    · exact ⟨1, by decide, by decide, rfl⟩
    · exact ⟨2, by decide, by decide, rfl⟩
    · exact ⟨3, by decide, by decide, rfl⟩
    · exact ⟨4, by decide, by decide, rfl⟩
    · exact ⟨5, by decide, by decide, rfl⟩
    · exact ⟨6, by decide, by decide, rfl⟩
    · exact ⟨8, by decide, by decide, rfl⟩
    · exact ⟨12, by decide, by decide, rfl⟩
    · exact ⟨10 ^ 11, by decide, by decide, rfl⟩
  obtain ⟨y, y0, y1, rfl⟩ := hy
  simp only [w_var, w_cst, wB_var, kO1_eq, kO2, w_bin, w_cmp, w_ix, w_neg, kNeg_int, w_no, kNo, kT_bl, w_and, w_or, w_ite, kAnd, kOr, kIte, w_cm2, kC1_eq, kC2_eq, kC3, wD_nil, wD_cons, kD1_eq, kD3, kD2, wR_nil, wR_cons, kR1, kR2, wA_nil, wA_var, kA1, kA2, kAv, kAn_sh, kAn_ol, kAn_od, w_tup, w_lst, kTup, kLst, w_dc0, kX1_eq, w_ixd, kX2_int, w_cal, kCal, w_calk, kKw1, kKw, w_blt1, w_blt, kBl1, kBl, w_isi, kIs, kV_sh, kV_ol, kL_some, kR_some, kR_if, kI_t, kI_f, s_nil, s_cons, kSq_nx, kSq_bk, kSq_ct, kSq_rt, kSq_ex, s_ex, kDr, s_asg, kAs_nm, kAs_tp, s_par, kPar, s_sidx, kSi1, kSi2, set0, set1, set2, s_iff, kIf, s_whl, s_rng, kRg_eq, kRg', s_seq, kSeq, s_retv, s_retn, kRv_some, s_rse, kRse, s_try, kTry_nx, kTry_bk, kTry_ct, kTry_rt, kTry_ex, s_pass, s_brk, s_cnt, kFin_nx, kFin_bk, kFin_ct, kFin_rt, kFin_ex, kO_some, suitS, suit, Su.flat, beq_self_eq_true, stg, wS_nx, wS_bk, wS_ct, wS_rt, wS_ex, rt_cst, lb_cst, la_cst, l2_cst, rt_glb, lb_glb, la_glb, l2_glb, rt_bin, lb_bin, la_bin, l2_bin, rt_neg, lb_neg, la_neg, l2_neg, rt_inv, lb_inv, la_inv, l2_inv, rt_no, lb_no, la_no, l2_no, rt_cmp, lb_cmp, la_cmp, l2_cmp, rt_cm2, lb_cm2, la_cm2, l2_cm2, rt_and, lb_and, la_and, l2_and, rt_or, lb_or, la_or, l2_or, rt_ite, lb_ite, la_ite, l2_ite, rt_tup, lb_tup, la_tup, l2_tup, rt_lst, lb_lst, la_lst, rt_dc0, lb_dc0, la_dc0, l2_dc0, rt_ix, lb_ix, la_ix, l2_ix, rt_ixd, lb_ixd, la_ixd, l2_ixd, rt_att, lb_att, la_att, l2_att, rt_cal, lb_cal, la_cal, l2_cal, rt_calk, lb_calk, la_calk, l2_calk, rt_blt, lb_blt, la_blt, l2_blt, rt_isi, lb_isi, la_isi, l2_isi, l2_var, l2_ln, l2_lc, frz, snap, binD, cmpR, cmpD, idxR, idxD, bltD, isD, isNon, at0, at1, at2, eqD_int, List.getElem?_cons_zero, List.getElem?_cons_succ, List.set_cons_zero, List.set_cons_succ, List.length_cons, List.length_nil, setr, setl, takeA, putA, picks, outs, Option.map_some, Option.bind_some, Bool.false_eq_true, if_true, if_false, Bool.not_true, Bool.not_false, Bool.and_true, Bool.true_and, Bool.and_false, Bool.false_and, true_and, and_true, List.contains_nil, List.contains_cons, Nat.reduceLT, Nat.reduceAdd, Nat.reduceBEq, Bool.or_false, Bool.false_or, Bool.or_true, Bool.true_or, List.map_cons, List.map_nil, List.append_nil, List.cons_append, List.nil_append, decide_true, decide_false, Nat.not_lt_zero, g__law_lowest, d__law_lowest, g__law_draw, d__law_draw]
  refine draw_ok hq' (by omega) (by omega) (by omega) fun x p'' x0 x1 hp'' => ?_
  obtain ⟨x, rfl⟩ := Int.eq_ofNat_of_zero_le x0
  simp only [w_var, w_cst, wB_var, kO1_eq, kO2, w_bin, w_cmp, w_ix, w_neg, kNeg_int, w_no, kNo, kT_bl, w_and, w_or, w_ite, kAnd, kOr, kIte, w_cm2, kC1_eq, kC2_eq, kC3, wD_nil, wD_cons, kD1_eq, kD3, kD2, wR_nil, wR_cons, kR1, kR2, wA_nil, wA_var, kA1, kA2, kAv, kAn_sh, kAn_ol, kAn_od, w_tup, w_lst, kTup, kLst, w_dc0, kX1_eq, w_ixd, kX2_int, w_cal, kCal, w_calk, kKw1, kKw, w_blt1, w_blt, kBl1, kBl, w_isi, kIs, kV_sh, kV_ol, kL_some, kR_some, kR_if, kI_t, kI_f, s_nil, s_cons, kSq_nx, kSq_bk, kSq_ct, kSq_rt, kSq_ex, s_ex, kDr, s_asg, kAs_nm, kAs_tp, s_par, kPar, s_sidx, kSi1, kSi2, set0, set1, set2, s_iff, kIf, s_whl, s_rng, kRg_eq, kRg', s_seq, kSeq, s_retv, s_retn, kRv_some, s_rse, kRse, s_try, kTry_nx, kTry_bk, kTry_ct, kTry_rt, kTry_ex, s_pass, s_brk, s_cnt, kFin_nx, kFin_bk, kFin_ct, kFin_rt, kFin_ex, kO_some, suitS, suit, Su.flat, beq_self_eq_true, stg, wS_nx, wS_bk, wS_ct, wS_rt, wS_ex, rt_cst, lb_cst, la_cst, l2_cst, rt_glb, lb_glb, la_glb, l2_glb, rt_bin, lb_bin, la_bin, l2_bin, rt_neg, lb_neg, la_neg, l2_neg, rt_inv, lb_inv, la_inv, l2_inv, rt_no, lb_no, la_no, l2_no, rt_cmp, lb_cmp, la_cmp, l2_cmp, rt_cm2, lb_cm2, la_cm2, l2_cm2, rt_and, lb_and, la_and, l2_and, rt_or, lb_or, la_or, l2_or, rt_ite, lb_ite, la_ite, l2_ite, rt_tup, lb_tup, la_tup, l2_tup, rt_lst, lb_lst, la_lst, rt_dc0, lb_dc0, la_dc0, l2_dc0, rt_ix, lb_ix, la_ix, l2_ix, rt_ixd, lb_ixd, la_ixd, l2_ixd, rt_att, lb_att, la_att, l2_att, rt_cal, lb_cal, la_cal, l2_cal, rt_calk, lb_calk, la_calk, l2_calk, rt_blt, lb_blt, la_blt, l2_blt, rt_isi, lb_isi, la_isi, l2_isi, l2_var, l2_ln, l2_lc, frz, snap, binD, cmpR, cmpD, idxR, idxD, bltD, isD, isNon, at0, at1, at2, eqD_int, List.getElem?_cons_zero, List.getElem?_cons_succ, List.set_cons_zero, List.set_cons_succ, List.length_cons, List.length_nil, setr, setl, takeA, putA, picks, outs, Option.map_some, Option.bind_some, Bool.false_eq_true, if_true, if_false, Bool.not_true, Bool.not_false, Bool.and_true, Bool.true_and, Bool.and_false, Bool.false_and, true_and, and_true, List.contains_nil, List.contains_cons, Nat.reduceLT, Nat.reduceAdd, Nat.reduceBEq, Bool.or_false, Bool.false_or, Bool.or_true, Bool.true_or, List.map_cons, List.map_nil, List.append_nil, List.cons_append, List.nil_append, decide_true, decide_false, Nat.not_lt_zero, g__law_lowest, d__law_lowest, wC_of (law_lowest_ok (n := n) (x := x) y0 (show y < 2 ^ 200 by omega))]
  exact h x y _ y0 y1 (by omega) hp''
theorem caught_deg {t b w : D} (hd : ∀ {Q : R → List R → Prop} {E : Nat → List D → List R → Prop}, wC (CALL Gm (n + 4) F_degree [.sh t, .sh b]) Q E = E X_InvalidDegree [w] [.sh t, .sh b]) :
    CALL Gm (n + 5) F__law_caught [.sh (.int 0), .sh t, .sh b] = .ok (.ol [w]) [.sh (.int 0), .sh t, .sh b] := by
  refine wC_eq ?_
  rw [u__law_caught]
  have e : decide ((0 : Int) = 0) = true := rfl
  simp only [b__law_caught, w_var, w_cst, wB_var, kO1_eq, kO2, w_bin, w_cmp, w_ix, w_neg, kNeg_int, w_no, kNo, kT_bl, w_and, w_or, w_ite, kAnd, kOr, kIte, w_cm2, kC1_eq, kC2_eq, kC3, wD_nil, wD_cons, kD1_eq, kD3, kD2, wR_nil, wR_cons, kR1, kR2, wA_nil, wA_var, kA1, kA2, kAv, kAn_sh, kAn_ol, kAn_od, w_tup, w_lst, kTup, kLst, w_dc0, kX1_eq, w_ixd, kX2_int, w_cal, kCal, w_calk, kKw1, kKw, w_blt1, w_blt, kBl1, kBl, w_isi, kIs, kV_sh, kV_ol, kL_some, kR_some, kR_if, kI_t, kI_f, s_nil, s_cons, kSq_nx, kSq_bk, kSq_ct, kSq_rt, kSq_ex, s_ex, kDr, s_asg, kAs_nm, kAs_tp, s_par, kPar, s_sidx, kSi1, kSi2, set0, set1, set2, s_iff, kIf, s_whl, s_rng, kRg_eq, kRg', s_seq, kSeq, s_retv, s_retn, kRv_some, s_rse, kRse, s_try, kTry_nx, kTry_bk, kTry_ct, kTry_rt, kTry_ex, s_pass, s_brk, s_cnt, kFin_nx, kFin_bk, kFin_ct, kFin_rt, kFin_ex, kO_some, suitS, suit, Su.flat, beq_self_eq_true, stg, wS_nx, wS_bk, wS_ct, wS_rt, wS_ex, rt_cst, lb_cst, la_cst, l2_cst, rt_glb, lb_glb, la_glb, l2_glb, rt_bin, lb_bin, la_bin, l2_bin, rt_neg, lb_neg, la_neg, l2_neg, rt_inv, lb_inv, la_inv, l2_inv, rt_no, lb_no, la_no, l2_no, rt_cmp, lb_cmp, la_cmp, l2_cmp, rt_cm2, lb_cm2, la_cm2, l2_cm2, rt_and, lb_and, la_and, l2_and, rt_or, lb_or, la_or, l2_or, rt_ite, lb_ite, la_ite, l2_ite, rt_tup, lb_tup, la_tup, l2_tup, rt_lst, lb_lst, la_lst, rt_dc0, lb_dc0, la_dc0, l2_dc0, rt_ix, lb_ix, la_ix, l2_ix, rt_ixd, lb_ixd, la_ixd, l2_ixd, rt_att, lb_att, la_att, l2_att, rt_cal, lb_cal, la_cal, l2_cal, rt_calk, lb_calk, la_calk, l2_calk, rt_blt, lb_blt, la_blt, l2_blt, rt_isi, lb_isi, la_isi, l2_isi, l2_var, l2_ln, l2_lc, frz, snap, binD, cmpR, cmpD, idxR, idxD, bltD, isD, isNon, at0, at1, at2, eqD_int, List.getElem?_cons_zero, List.getElem?_cons_succ, List.set_cons_zero, List.set_cons_succ, List.length_cons, List.length_nil, setr, setl, takeA, putA, picks, outs, Option.map_some, Option.bind_some, Bool.false_eq_true, if_true, if_false, Bool.not_true, Bool.not_false, Bool.and_true, Bool.true_and, Bool.and_false, Bool.false_and, true_and, and_true, List.contains_nil, List.contains_cons, Nat.reduceLT, Nat.reduceAdd, Nat.reduceBEq, Bool.or_false, Bool.false_or, Bool.or_true, Bool.true_or, List.map_cons, List.map_nil, List.append_nil, List.cons_append, List.nil_append, decide_true, decide_false, Nat.not_lt_zero, g_degree, d_degree, e, hd, hnd, an_InvalidDegree]
theorem caught_am {t b w : D} (hd : ∀ {Q : R → List R → Prop} {E : Nat → List D → List R → Prop}, wC (CALL Gm (n + 4) F_at_most [.sh t, .sh b]) Q E = E X_InvalidDegree [w] [.sh t, .sh b]) :
    CALL Gm (n + 5) F__law_caught [.sh (.int 1), .sh t, .sh b] = .ok (.ol [w]) [.sh (.int 1), .sh t, .sh b] := by
  refine wC_eq ?_
  rw [u__law_caught]
  have e : decide ((1 : Int) = 0) = false := rfl
  simp only [b__law_caught, w_var, w_cst, wB_var, kO1_eq, kO2, w_bin, w_cmp, w_ix, w_neg, kNeg_int, w_no, kNo, kT_bl, w_and, w_or, w_ite, kAnd, kOr, kIte, w_cm2, kC1_eq, kC2_eq, kC3, wD_nil, wD_cons, kD1_eq, kD3, kD2, wR_nil, wR_cons, kR1, kR2, wA_nil, wA_var, kA1, kA2, kAv, kAn_sh, kAn_ol, kAn_od, w_tup, w_lst, kTup, kLst, w_dc0, kX1_eq, w_ixd, kX2_int, w_cal, kCal, w_calk, kKw1, kKw, w_blt1, w_blt, kBl1, kBl, w_isi, kIs, kV_sh, kV_ol, kL_some, kR_some, kR_if, kI_t, kI_f, s_nil, s_cons, kSq_nx, kSq_bk, kSq_ct, kSq_rt, kSq_ex, s_ex, kDr, s_asg, kAs_nm, kAs_tp, s_par, kPar, s_sidx, kSi1, kSi2, set0, set1, set2, s_iff, kIf, s_whl, s_rng, kRg_eq, kRg', s_seq, kSeq, s_retv, s_retn, kRv_some, s_rse, kRse, s_try, kTry_nx, kTry_bk, kTry_ct, kTry_rt, kTry_ex, s_pass, s_brk, s_cnt, kFin_nx, kFin_bk, kFin_ct, kFin_rt, kFin_ex, kO_some, suitS, suit, Su.flat, beq_self_eq_true, stg, wS_nx, wS_bk, wS_ct, wS_rt, wS_ex, rt_cst, lb_cst, la_cst, l2_cst, rt_glb, lb_glb, la_glb, l2_glb, rt_bin, lb_bin, la_bin, l2_bin, rt_neg, lb_neg, la_neg, l2_neg, rt_inv, lb_inv, la_inv, l2_inv, rt_no, lb_no, la_no, l2_no, rt_cmp, lb_cmp, la_cmp, l2_cmp, rt_cm2, lb_cm2, la_cm2, l2_cm2, rt_and, lb_and, la_and, l2_and, rt_or, lb_or, la_or, l2_or, rt_ite, lb_ite, la_ite, l2_ite, rt_tup, lb_tup, la_tup, l2_tup, rt_lst, lb_lst, la_lst, rt_dc0, lb_dc0, la_dc0, l2_dc0, rt_ix, lb_ix, la_ix, l2_ix, rt_ixd, lb_ixd, la_ixd, l2_ixd, rt_att, lb_att, la_att, l2_att, rt_cal, lb_cal, la_cal, l2_cal, rt_calk, lb_calk, la_calk, l2_calk, rt_blt, lb_blt, la_blt, l2_blt, rt_isi, lb_isi, la_isi, l2_isi, l2_var, l2_ln, l2_lc, frz, snap, binD, cmpR, cmpD, idxR, idxD, bltD, isD, isNon, at0, at1, at2, eqD_int, List.getElem?_cons_zero, List.getElem?_cons_succ, List.set_cons_zero, List.set_cons_succ, List.length_cons, List.length_nil, setr, setl, takeA, putA, picks, outs, Option.map_some, Option.bind_some, Bool.false_eq_true, if_true, if_false, Bool.not_true, Bool.not_false, Bool.and_true, Bool.true_and, Bool.and_false, Bool.false_and, true_and, and_true, List.contains_nil, List.contains_cons, Nat.reduceLT, Nat.reduceAdd, Nat.reduceBEq, Bool.or_false, Bool.false_or, Bool.or_true, Bool.true_or, List.map_cons, List.map_nil, List.append_nil, List.cons_append, List.nil_append, decide_true, decide_false, Nat.not_lt_zero, g_at_most, d_at_most, e, hd, hnd, an_InvalidDegree]
theorem caught_none {t b : D} {r : R} (hd : CALL Gm (n + 4) F_at_most [.sh t, .sh b] = .ok r [.sh t, .sh b]) :
    CALL Gm (n + 5) F__law_caught [.sh (.int 1), .sh t, .sh b] = .ok (.sh .non) [.sh (.int 1), .sh t, .sh b] := by
  refine wC_eq ?_
  rw [u__law_caught]
  have e : decide ((1 : Int) = 0) = false := rfl
  simp only [b__law_caught, w_var, w_cst, wB_var, kO1_eq, kO2, w_bin, w_cmp, w_ix, w_neg, kNeg_int, w_no, kNo, kT_bl, w_and, w_or, w_ite, kAnd, kOr, kIte, w_cm2, kC1_eq, kC2_eq, kC3, wD_nil, wD_cons, kD1_eq, kD3, kD2, wR_nil, wR_cons, kR1, kR2, wA_nil, wA_var, kA1, kA2, kAv, kAn_sh, kAn_ol, kAn_od, w_tup, w_lst, kTup, kLst, w_dc0, kX1_eq, w_ixd, kX2_int, w_cal, kCal, w_calk, kKw1, kKw, w_blt1, w_blt, kBl1, kBl, w_isi, kIs, kV_sh, kV_ol, kL_some, kR_some, kR_if, kI_t, kI_f, s_nil, s_cons, kSq_nx, kSq_bk, kSq_ct, kSq_rt, kSq_ex, s_ex, kDr, s_asg, kAs_nm, kAs_tp, s_par, kPar, s_sidx, kSi1, kSi2, set0, set1, set2, s_iff, kIf, s_whl, s_rng, kRg_eq, kRg', s_seq, kSeq, s_retv, s_retn, kRv_some, s_rse, kRse, s_try, kTry_nx, kTry_bk, kTry_ct, kTry_rt, kTry_ex, s_pass, s_brk, s_cnt, kFin_nx, kFin_bk, kFin_ct, kFin_rt, kFin_ex, kO_some, suitS, suit, Su.flat, beq_self_eq_true, stg, wS_nx, wS_bk, wS_ct, wS_rt, wS_ex, rt_cst, lb_cst, la_cst, l2_cst, rt_glb, lb_glb, la_glb, l2_glb, rt_bin, lb_bin, la_bin, l2_bin, rt_neg, lb_neg, la_neg, l2_neg, rt_inv, lb_inv, la_inv, l2_inv, rt_no, lb_no, la_no, l2_no, rt_cmp, lb_cmp, la_cmp, l2_cmp, rt_cm2, lb_cm2, la_cm2, l2_cm2, rt_and, lb_and, la_and, l2_and, rt_or, lb_or, la_or, l2_or, rt_ite, lb_ite, la_ite, l2_ite, rt_tup, lb_tup, la_tup, l2_tup, rt_lst, lb_lst, la_lst, rt_dc0, lb_dc0, la_dc0, l2_dc0, rt_ix, lb_ix, la_ix, l2_ix, rt_ixd, lb_ixd, la_ixd, l2_ixd, rt_att, lb_att, la_att, l2_att, rt_cal, lb_cal, la_cal, l2_cal, rt_calk, lb_calk, la_calk, l2_calk, rt_blt, lb_blt, la_blt, l2_blt, rt_isi, lb_isi, la_isi, l2_isi, l2_var, l2_ln, l2_lc, frz, snap, binD, cmpR, cmpD, idxR, idxD, bltD, isD, isNon, at0, at1, at2, eqD_int, List.getElem?_cons_zero, List.getElem?_cons_succ, List.set_cons_zero, List.set_cons_succ, List.length_cons, List.length_nil, setr, setl, takeA, putA, picks, outs, Option.map_some, Option.bind_some, Bool.false_eq_true, if_true, if_false, Bool.not_true, Bool.not_false, Bool.and_true, Bool.true_and, Bool.and_false, Bool.false_and, true_and, and_true, List.contains_nil, List.contains_cons, Nat.reduceLT, Nat.reduceAdd, Nat.reduceBEq, Bool.or_false, Bool.false_or, Bool.or_true, Bool.true_or, List.map_cons, List.map_nil, List.append_nil, List.cons_append, List.nil_append, decide_true, decide_false, Nat.not_lt_zero, g_at_most, d_at_most, e, wC_of hd]
theorem law_less_ok {a b c d : Int} (m1 : mulOk a d = true) (m2 : mulOk c b = true) : CALL Gm (n + 1) F__law_less [.sh (.tup [.int a, .int b]), .sh (.tup [.int c, .int d])] =
    .ok (.sh (.bl (decide (a * d < c * b)))) [.sh (.tup [.int a, .int b]), .sh (.tup [.int c, .int d])] := by
  refine wC_eq ?_
  rw [u__law_less]
  simp only [b__law_less, w_var, w_cst, wB_var, kO1_eq, kO2, w_bin, w_cmp, w_ix, w_neg, kNeg_int, w_no, kNo, kT_bl, w_and, w_or, w_ite, kAnd, kOr, kIte, w_cm2, kC1_eq, kC2_eq, kC3, wD_nil, wD_cons, kD1_eq, kD3, kD2, wR_nil, wR_cons, kR1, kR2, wA_nil, wA_var, kA1, kA2, kAv, kAn_sh, kAn_ol, kAn_od, w_tup, w_lst, kTup, kLst, w_dc0, kX1_eq, w_ixd, kX2_int, w_cal, kCal, w_calk, kKw1, kKw, w_blt1, w_blt, kBl1, kBl, w_isi, kIs, kV_sh, kV_ol, kL_some, kR_some, kR_if, kI_t, kI_f, s_nil, s_cons, kSq_nx, kSq_bk, kSq_ct, kSq_rt, kSq_ex, s_ex, kDr, s_asg, kAs_nm, kAs_tp, s_par, kPar, s_sidx, kSi1, kSi2, set0, set1, set2, s_iff, kIf, s_whl, s_rng, kRg_eq, kRg', s_seq, kSeq, s_retv, s_retn, kRv_some, s_rse, kRse, s_try, kTry_nx, kTry_bk, kTry_ct, kTry_rt, kTry_ex, s_pass, s_brk, s_cnt, kFin_nx, kFin_bk, kFin_ct, kFin_rt, kFin_ex, kO_some, suitS, suit, Su.flat, beq_self_eq_true, stg, wS_nx, wS_bk, wS_ct, wS_rt, wS_ex, rt_cst, lb_cst, la_cst, l2_cst, rt_glb, lb_glb, la_glb, l2_glb, rt_bin, lb_bin, la_bin, l2_bin, rt_neg, lb_neg, la_neg, l2_neg, rt_inv, lb_inv, la_inv, l2_inv, rt_no, lb_no, la_no, l2_no, rt_cmp, lb_cmp, la_cmp, l2_cmp, rt_cm2, lb_cm2, la_cm2, l2_cm2, rt_and, lb_and, la_and, l2_and, rt_or, lb_or, la_or, l2_or, rt_ite, lb_ite, la_ite, l2_ite, rt_tup, lb_tup, la_tup, l2_tup, rt_lst, lb_lst, la_lst, rt_dc0, lb_dc0, la_dc0, l2_dc0, rt_ix, lb_ix, la_ix, l2_ix, rt_ixd, lb_ixd, la_ixd, l2_ixd, rt_att, lb_att, la_att, l2_att, rt_cal, lb_cal, la_cal, l2_cal, rt_calk, lb_calk, la_calk, l2_calk, rt_blt, lb_blt, la_blt, l2_blt, rt_isi, lb_isi, la_isi, l2_isi, l2_var, l2_ln, l2_lc, frz, snap, binD, cmpR, cmpD, idxR, idxD, bltD, isD, isNon, at0, at1, at2, eqD_int, List.getElem?_cons_zero, List.getElem?_cons_succ, List.set_cons_zero, List.set_cons_succ, List.length_cons, List.length_nil, setr, setl, takeA, putA, picks, outs, Option.map_some, Option.bind_some, Bool.false_eq_true, if_true, if_false, Bool.not_true, Bool.not_false, Bool.and_true, Bool.true_and, Bool.and_false, Bool.false_and, true_and, and_true, List.contains_nil, List.contains_cons, Nat.reduceLT, Nat.reduceAdd, Nat.reduceBEq, Bool.or_false, Bool.false_or, Bool.or_true, Bool.true_or, List.map_cons, List.map_nil, List.append_nil, List.cons_append, List.nil_append, decide_true, decide_false, Nat.not_lt_zero, m1, m2]
end
end G4

namespace G4
section
variable {n m : Nat} {Q : R → List R → Prop} {E : Nat → List D → List R → Prop} {p : R}
theorem isDeg_nat {a b : Nat} (h : a ≤ b) (hb : 0 < b) (hc : Nat.gcd a b = 1) : isDeg (.tup [.int a, .int b]) = true := by
  unfold isDeg
  simp only [Int.toNat_natCast, hc, decide_true, Bool.and_true, Bool.and_eq_true, decide_eq_true_eq]
  omega
theorem low_deg {x y : Nat} (h0 : 0 < y) (h : x ≤ y) : ∃ a b : Nat, low x y = .tup [.int a, .int b] ∧ 0 < b ∧ a ≤ b ∧ b ≤ y ∧ Nat.gcd a b = 1 ∧ isDeg (low x y) = true := by
  have hg : 0 < Nat.gcd x y := Nat.gcd_pos_of_pos_right _ h0
  have hc : Nat.gcd (x / Nat.gcd x y) (y / Nat.gcd x y) = 1 := by
    rw [Nat.gcd_div (Nat.gcd_dvd_left x y) (Nat.gcd_dvd_right x y), Nat.div_self hg]
  have hb : 0 < y / Nat.gcd x y := Nat.div_pos (Nat.gcd_le_right _ h0) hg
  have hab : x / Nat.gcd x y ≤ y / Nat.gcd x y := Nat.div_le_div_right h
  exact ⟨_, _, rfl, hb, hab, Nat.div_le_self _ _, hc, isDeg_nat hab hb hc⟩
theorem law_right_ok (hp : Pu m p) (hm : m < 2 ^ 30) (h : ∀ p', Pu (m + 100) p' → Q (.sh (.bl true)) [p']) : wC (CALL Gm (n + 6) F__law_right [p]) Q E := by
  have hq := hp
  obtain ⟨a, b, c, rfl, _⟩ := hp
  rw [u__law_right]
  simp only [b__law_right, w_var, w_cst, wB_var, kO1_eq, kO2, w_bin, w_cmp, w_ix, w_neg, kNeg_int, w_no, kNo, kT_bl, w_and, w_or, w_ite, kAnd, kOr, kIte, w_cm2, kC1_eq, kC2_eq, kC3, wD_nil, wD_cons, kD1_eq, kD3, kD2, wR_nil, wR_cons, kR1, kR2, wA_nil, wA_var, kA1, kA2, kAv, kAn_sh, kAn_ol, kAn_od, w_tup, w_lst, kTup, kLst, w_dc0, kX1_eq, w_ixd, kX2_int, w_cal, kCal, w_calk, kKw1, kKw, w_blt1, w_blt, kBl1, kBl, w_isi, kIs, kV_sh, kV_ol, kL_some, kR_some, kR_if, kI_t, kI_f, s_nil, s_cons, kSq_nx, kSq_bk, kSq_ct, kSq_rt, kSq_ex, s_ex, kDr, s_asg, kAs_nm, kAs_tp, s_par, kPar, s_sidx, kSi1, kSi2, set0, set1, set2, s_iff, kIf, s_whl, s_rng, kRg_eq, kRg', s_seq, kSeq, s_retv, s_retn, kRv_some, s_rse, kRse, s_try, kTry_nx, kTry_bk, kTry_ct, kTry_rt, kTry_ex, s_pass, s_brk, s_cnt, kFin_nx, kFin_bk, kFin_ct, kFin_rt, kFin_ex, kO_some, suitS, suit, Su.flat, beq_self_eq_true, stg, wS_nx, wS_bk, wS_ct, wS_rt, wS_ex, rt_cst, lb_cst, la_cst, l2_cst, rt_glb, lb_glb, la_glb, l2_glb, rt_bin, lb_bin, la_bin, l2_bin, rt_neg, lb_neg, la_neg, l2_neg, rt_inv, lb_inv, la_inv, l2_inv, rt_no, lb_no, la_no, l2_no, rt_cmp, lb_cmp, la_cmp, l2_cmp, rt_cm2, lb_cm2, la_cm2, l2_cm2, rt_and, lb_and, la_and, l2_and, rt_or, lb_or, la_or, l2_or, rt_ite, lb_ite, la_ite, l2_ite, rt_tup, lb_tup, la_tup, l2_tup, rt_lst, lb_lst, la_lst, rt_dc0, lb_dc0, la_dc0, l2_dc0, rt_ix, lb_ix, la_ix, l2_ix, rt_ixd, lb_ixd, la_ixd, l2_ixd, rt_att, lb_att, la_att, l2_att, rt_cal, lb_cal, la_cal, l2_cal, rt_calk, lb_calk, la_calk, l2_calk, rt_blt, lb_blt, la_blt, l2_blt, rt_isi, lb_isi, la_isi, l2_isi, l2_var, l2_ln, l2_lc, frz, snap, binD, cmpR, cmpD, idxR, idxD, bltD, isD, isNon, at0, at1, at2, eqD_int, List.getElem?_cons_zero, List.getElem?_cons_succ, List.set_cons_zero, List.set_cons_succ, List.length_cons, List.length_nil, setr, setl, takeA, putA, picks, outs, Option.map_some, Option.bind_some, Bool.false_eq_true, if_true, if_false, Bool.not_true, Bool.not_false, Bool.and_true, Bool.true_and, Bool.and_false, Bool.false_and, true_and, and_true, List.contains_nil, List.contains_cons, Nat.reduceLT, Nat.reduceAdd, Nat.reduceBEq, Bool.or_false, Bool.false_or, Bool.or_true, Bool.true_or, List.map_cons, List.map_nil, List.append_nil, List.cons_append, List.nil_append, decide_true, decide_false, Nat.not_lt_zero, g__law_draw, d__law_draw]
  refine draw_ok hq (by omega) (by decide) (by decide) fun r1 p1 r10 r11 hp => ?_
  have hq := hp
  obtain ⟨_, _, _, rfl, _⟩ := hp
  simp only [w_var, w_cst, wB_var, kO1_eq, kO2, w_bin, w_cmp, w_ix, w_neg, kNeg_int, w_no, kNo, kT_bl, w_and, w_or, w_ite, kAnd, kOr, kIte, w_cm2, kC1_eq, kC2_eq, kC3, wD_nil, wD_cons, kD1_eq, kD3, kD2, wR_nil, wR_cons, kR1, kR2, wA_nil, wA_var, kA1, kA2, kAv, kAn_sh, kAn_ol, kAn_od, w_tup, w_lst, kTup, kLst, w_dc0, kX1_eq, w_ixd, kX2_int, w_cal, kCal, w_calk, kKw1, kKw, w_blt1, w_blt, kBl1, kBl, w_isi, kIs, kV_sh, kV_ol, kL_some, kR_some, kR_if, kI_t, kI_f, s_nil, s_cons, kSq_nx, kSq_bk, kSq_ct, kSq_rt, kSq_ex, s_ex, kDr, s_asg, kAs_nm, kAs_tp, s_par, kPar, s_sidx, kSi1, kSi2, set0, set1, set2, s_iff, kIf, s_whl, s_rng, kRg_eq, kRg', s_seq, kSeq, s_retv, s_retn, kRv_some, s_rse, kRse, s_try, kTry_nx, kTry_bk, kTry_ct, kTry_rt, kTry_ex, s_pass, s_brk, s_cnt, kFin_nx, kFin_bk, kFin_ct, kFin_rt, kFin_ex, kO_some, suitS, suit, Su.flat, beq_self_eq_true, stg, wS_nx, wS_bk, wS_ct, wS_rt, wS_ex, rt_cst, lb_cst, la_cst, l2_cst, rt_glb, lb_glb, la_glb, l2_glb, rt_bin, lb_bin, la_bin, l2_bin, rt_neg, lb_neg, la_neg, l2_neg, rt_inv, lb_inv, la_inv, l2_inv, rt_no, lb_no, la_no, l2_no, rt_cmp, lb_cmp, la_cmp, l2_cmp, rt_cm2, lb_cm2, la_cm2, l2_cm2, rt_and, lb_and, la_and, l2_and, rt_or, lb_or, la_or, l2_or, rt_ite, lb_ite, la_ite, l2_ite, rt_tup, lb_tup, la_tup, l2_tup, rt_lst, lb_lst, la_lst, rt_dc0, lb_dc0, la_dc0, l2_dc0, rt_ix, lb_ix, la_ix, l2_ix, rt_ixd, lb_ixd, la_ixd, l2_ixd, rt_att, lb_att, la_att, l2_att, rt_cal, lb_cal, la_cal, l2_cal, rt_calk, lb_calk, la_calk, l2_calk, rt_blt, lb_blt, la_blt, l2_blt, rt_isi, lb_isi, la_isi, l2_isi, l2_var, l2_ln, l2_lc, frz, snap, binD, cmpR, cmpD, idxR, idxD, bltD, isD, isNon, at0, at1, at2, eqD_int, List.getElem?_cons_zero, List.getElem?_cons_succ, List.set_cons_zero, List.set_cons_succ, List.length_cons, List.length_nil, setr, setl, takeA, putA, picks, outs, Option.map_some, Option.bind_some, Bool.false_eq_true, if_true, if_false, Bool.not_true, Bool.not_false, Bool.and_true, Bool.true_and, Bool.and_false, Bool.false_and, true_and, and_true, List.contains_nil, List.contains_cons, Nat.reduceLT, Nat.reduceAdd, Nat.reduceBEq, Bool.or_false, Bool.false_or, Bool.or_true, Bool.true_or, List.map_cons, List.map_nil, List.append_nil, List.cons_append, List.nil_append, decide_true, decide_false, Nat.not_lt_zero, g__law_great, d__law_great]
  refine great_ok hq (by omega) fun r2 p2 r20 r21 hp => ?_
  have hq := hp
  obtain ⟨_, _, _, rfl, _⟩ := hp
  simp only [w_var, w_cst, wB_var, kO1_eq, kO2, w_bin, w_cmp, w_ix, w_neg, kNeg_int, w_no, kNo, kT_bl, w_and, w_or, w_ite, kAnd, kOr, kIte, w_cm2, kC1_eq, kC2_eq, kC3, wD_nil, wD_cons, kD1_eq, kD3, kD2, wR_nil, wR_cons, kR1, kR2, wA_nil, wA_var, kA1, kA2, kAv, kAn_sh, kAn_ol, kAn_od, w_tup, w_lst, kTup, kLst, w_dc0, kX1_eq, w_ixd, kX2_int, w_cal, kCal, w_calk, kKw1, kKw, w_blt1, w_blt, kBl1, kBl, w_isi, kIs, kV_sh, kV_ol, kL_some, kR_some, kR_if, kI_t, kI_f, s_nil, s_cons, kSq_nx, kSq_bk, kSq_ct, kSq_rt, kSq_ex, s_ex, kDr, s_asg, kAs_nm, kAs_tp, s_par, kPar, s_sidx, kSi1, kSi2, set0, set1, set2, s_iff, kIf, s_whl, s_rng, kRg_eq, kRg', s_seq, kSeq, s_retv, s_retn, kRv_some, s_rse, kRse, s_try, kTry_nx, kTry_bk, kTry_ct, kTry_rt, kTry_ex, s_pass, s_brk, s_cnt, kFin_nx, kFin_bk, kFin_ct, kFin_rt, kFin_ex, kO_some, suitS, suit, Su.flat, beq_self_eq_true, stg, wS_nx, wS_bk, wS_ct, wS_rt, wS_ex, rt_cst, lb_cst, la_cst, l2_cst, rt_glb, lb_glb, la_glb, l2_glb, rt_bin, lb_bin, la_bin, l2_bin, rt_neg, lb_neg, la_neg, l2_neg, rt_inv, lb_inv, la_inv, l2_inv, rt_no, lb_no, la_no, l2_no, rt_cmp, lb_cmp, la_cmp, l2_cmp, rt_cm2, lb_cm2, la_cm2, l2_cm2, rt_and, lb_and, la_and, l2_and, rt_or, lb_or, la_or, l2_or, rt_ite, lb_ite, la_ite, l2_ite, rt_tup, lb_tup, la_tup, l2_tup, rt_lst, lb_lst, la_lst, rt_dc0, lb_dc0, la_dc0, l2_dc0, rt_ix, lb_ix, la_ix, l2_ix, rt_ixd, lb_ixd, la_ixd, l2_ixd, rt_att, lb_att, la_att, l2_att, rt_cal, lb_cal, la_cal, l2_cal, rt_calk, lb_calk, la_calk, l2_calk, rt_blt, lb_blt, la_blt, l2_blt, rt_isi, lb_isi, la_isi, l2_isi, l2_var, l2_ln, l2_lc, frz, snap, binD, cmpR, cmpD, idxR, idxD, bltD, isD, isNon, at0, at1, at2, eqD_int, List.getElem?_cons_zero, List.getElem?_cons_succ, List.set_cons_zero, List.set_cons_succ, List.length_cons, List.length_nil, setr, setl, takeA, putA, picks, outs, Option.map_some, Option.bind_some, Bool.false_eq_true, if_true, if_false, Bool.not_true, Bool.not_false, Bool.and_true, Bool.true_and, Bool.and_false, Bool.false_and, true_and, and_true, List.contains_nil, List.contains_cons, Nat.reduceLT, Nat.reduceAdd, Nat.reduceBEq, Bool.or_false, Bool.false_or, Bool.or_true, Bool.true_or, List.map_cons, List.map_nil, List.append_nil, List.cons_append, List.nil_append, decide_true, decide_false, Nat.not_lt_zero, g__law_draw, d__law_draw]
  refine draw_ok hq (by omega) (by decide) (by decide) fun r3 p3 r30 r31 hp => ?_
  have hq := hp
  obtain ⟨_, _, _, rfl, _⟩ := hp
  simp only [w_var, w_cst, wB_var, kO1_eq, kO2, w_bin, w_cmp, w_ix, w_neg, kNeg_int, w_no, kNo, kT_bl, w_and, w_or, w_ite, kAnd, kOr, kIte, w_cm2, kC1_eq, kC2_eq, kC3, wD_nil, wD_cons, kD1_eq, kD3, kD2, wR_nil, wR_cons, kR1, kR2, wA_nil, wA_var, kA1, kA2, kAv, kAn_sh, kAn_ol, kAn_od, w_tup, w_lst, kTup, kLst, w_dc0, kX1_eq, w_ixd, kX2_int, w_cal, kCal, w_calk, kKw1, kKw, w_blt1, w_blt, kBl1, kBl, w_isi, kIs, kV_sh, kV_ol, kL_some, kR_some, kR_if, kI_t, kI_f, s_nil, s_cons, kSq_nx, kSq_bk, kSq_ct, kSq_rt, kSq_ex, s_ex, kDr, s_asg, kAs_nm, kAs_tp, s_par, kPar, s_sidx, kSi1, kSi2, set0, set1, set2, s_iff, kIf, s_whl, s_rng, kRg_eq, kRg', s_seq, kSeq, s_retv, s_retn, kRv_some, s_rse, kRse, s_try, kTry_nx, kTry_bk, kTry_ct, kTry_rt, kTry_ex, s_pass, s_brk, s_cnt, kFin_nx, kFin_bk, kFin_ct, kFin_rt, kFin_ex, kO_some, suitS, suit, Su.flat, beq_self_eq_true, stg, wS_nx, wS_bk, wS_ct, wS_rt, wS_ex, rt_cst, lb_cst, la_cst, l2_cst, rt_glb, lb_glb, la_glb, l2_glb, rt_bin, lb_bin, la_bin, l2_bin, rt_neg, lb_neg, la_neg, l2_neg, rt_inv, lb_inv, la_inv, l2_inv, rt_no, lb_no, la_no, l2_no, rt_cmp, lb_cmp, la_cmp, l2_cmp, rt_cm2, lb_cm2, la_cm2, l2_cm2, rt_and, lb_and, la_and, l2_and, rt_or, lb_or, la_or, l2_or, rt_ite, lb_ite, la_ite, l2_ite, rt_tup, lb_tup, la_tup, l2_tup, rt_lst, lb_lst, la_lst, rt_dc0, lb_dc0, la_dc0, l2_dc0, rt_ix, lb_ix, la_ix, l2_ix, rt_ixd, lb_ixd, la_ixd, l2_ixd, rt_att, lb_att, la_att, l2_att, rt_cal, lb_cal, la_cal, l2_cal, rt_calk, lb_calk, la_calk, l2_calk, rt_blt, lb_blt, la_blt, l2_blt, rt_isi, lb_isi, la_isi, l2_isi, l2_var, l2_ln, l2_lc, frz, snap, binD, cmpR, cmpD, idxR, idxD, bltD, isD, isNon, at0, at1, at2, eqD_int, List.getElem?_cons_zero, List.getElem?_cons_succ, List.set_cons_zero, List.set_cons_succ, List.length_cons, List.length_nil, setr, setl, takeA, putA, picks, outs, Option.map_some, Option.bind_some, Bool.false_eq_true, if_true, if_false, Bool.not_true, Bool.not_false, Bool.and_true, Bool.true_and, Bool.and_false, Bool.false_and, true_and, and_true, List.contains_nil, List.contains_cons, Nat.reduceLT, Nat.reduceAdd, Nat.reduceBEq, Bool.or_false, Bool.false_or, Bool.or_true, Bool.true_or, List.map_cons, List.map_nil, List.append_nil, List.cons_append, List.nil_append, decide_true, decide_false, Nat.not_lt_zero]
  refine kR_at r30 (by simpa using r31) fun z hz => ?_
  have hy : ∃ y : Nat, y < 10 ^ 12 ∧ z = .sh (.int y) := by
    simp only [List.mem_cons, List.not_mem_nil, or_false] at hz
    rcases hz with rfl | rfl
    · exact ⟨r1.toNat, by omega, by rw [Int.toNat_of_nonneg r10]⟩
    · exact ⟨r2.toNat, by omega, by rw [Int.toNat_of_nonneg r20]⟩
  obtain ⟨y, y1, rfl⟩ := hy
  simp only [w_var, w_cst, wB_var, kO1_eq, kO2, w_bin, w_cmp, w_ix, w_neg, kNeg_int, w_no, kNo, kT_bl, w_and, w_or, w_ite, kAnd, kOr, kIte, w_cm2, kC1_eq, kC2_eq, kC3, wD_nil, wD_cons, kD1_eq, kD3, kD2, wR_nil, wR_cons, kR1, kR2, wA_nil, wA_var, kA1, kA2, kAv, kAn_sh, kAn_ol, kAn_od, w_tup, w_lst, kTup, kLst, w_dc0, kX1_eq, w_ixd, kX2_int, w_cal, kCal, w_calk, kKw1, kKw, w_blt1, w_blt, kBl1, kBl, w_isi, kIs, kV_sh, kV_ol, kL_some, kR_some, kR_if, kI_t, kI_f, s_nil, s_cons, kSq_nx, kSq_bk, kSq_ct, kSq_rt, kSq_ex, s_ex, kDr, s_asg, kAs_nm, kAs_tp, s_par, kPar, s_sidx, kSi1, kSi2, set0, set1, set2, s_iff, kIf, s_whl, s_rng, kRg_eq, kRg', s_seq, kSeq, s_retv, s_retn, kRv_some, s_rse, kRse, s_try, kTry_nx, kTry_bk, kTry_ct, kTry_rt, kTry_ex, s_pass, s_brk, s_cnt, kFin_nx, kFin_bk, kFin_ct, kFin_rt, kFin_ex, kO_some, suitS, suit, Su.flat, beq_self_eq_true, stg, wS_nx, wS_bk, wS_ct, wS_rt, wS_ex, rt_cst, lb_cst, la_cst, l2_cst, rt_glb, lb_glb, la_glb, l2_glb, rt_bin, lb_bin, la_bin, l2_bin, rt_neg, lb_neg, la_neg, l2_neg, rt_inv, lb_inv, la_inv, l2_inv, rt_no, lb_no, la_no, l2_no, rt_cmp, lb_cmp, la_cmp, l2_cmp, rt_cm2, lb_cm2, la_cm2, l2_cm2, rt_and, lb_and, la_and, l2_and, rt_or, lb_or, la_or, l2_or, rt_ite, lb_ite, la_ite, l2_ite, rt_tup, lb_tup, la_tup, l2_tup, rt_lst, lb_lst, la_lst, rt_dc0, lb_dc0, la_dc0, l2_dc0, rt_ix, lb_ix, la_ix, l2_ix, rt_ixd, lb_ixd, la_ixd, l2_ixd, rt_att, lb_att, la_att, l2_att, rt_cal, lb_cal, la_cal, l2_cal, rt_calk, lb_calk, la_calk, l2_calk, rt_blt, lb_blt, la_blt, l2_blt, rt_isi, lb_isi, la_isi, l2_isi, l2_var, l2_ln, l2_lc, frz, snap, binD, cmpR, cmpD, idxR, idxD, bltD, isD, isNon, at0, at1, at2, eqD_int, List.getElem?_cons_zero, List.getElem?_cons_succ, List.set_cons_zero, List.set_cons_succ, List.length_cons, List.length_nil, setr, setl, takeA, putA, picks, outs, Option.map_some, Option.bind_some, Bool.false_eq_true, if_true, if_false, Bool.not_true, Bool.not_false, Bool.and_true, Bool.true_and, Bool.and_false, Bool.false_and, true_and, and_true, List.contains_nil, List.contains_cons, Nat.reduceLT, Nat.reduceAdd, Nat.reduceBEq, Bool.or_false, Bool.false_or, Bool.or_true, Bool.true_or, List.map_cons, List.map_nil, List.append_nil, List.cons_append, List.nil_append, decide_true, decide_false, Nat.not_lt_zero, g__law_great, d__law_great]
  refine great_ok hq (by omega) fun r4 p4 r40 r41 hp => ?_
  have hq := hp
  obtain ⟨_, _, _, rfl, _⟩ := hp
  have hB : ∃ B : Nat, (1 + (y : Int)) = B ∧ 0 < B ∧ B ≤ 10 ^ 12 := ⟨y + 1, by omega, by omega, by omega⟩
  obtain ⟨B, eB, B0, B1⟩ := hB
  have hX : ∃ X : Nat, r4 % ((B : Int) + 1) = X ∧ X ≤ B := by
    have q0 := Int.emod_nonneg r4 (show ((B : Int) + 1) ≠ 0 by omega)
    have q1 := Int.emod_lt_of_pos r4 (show 0 < ((B : Int) + 1) by omega)
    exact ⟨(r4 % ((B : Int) + 1)).toNat, by omega, by omega⟩
  obtain ⟨X, eX, X1⟩ := hX
  have zB : B < 2 ^ 200 := by omega
  simp only [w_var, w_cst, wB_var, kO1_eq, kO2, w_bin, w_cmp, w_ix, w_neg, kNeg_int, w_no, kNo, kT_bl, w_and, w_or, w_ite, kAnd, kOr, kIte, w_cm2, kC1_eq, kC2_eq, kC3, wD_nil, wD_cons, kD1_eq, kD3, kD2, wR_nil, wR_cons, kR1, kR2, wA_nil, wA_var, kA1, kA2, kAv, kAn_sh, kAn_ol, kAn_od, w_tup, w_lst, kTup, kLst, w_dc0, kX1_eq, w_ixd, kX2_int, w_cal, kCal, w_calk, kKw1, kKw, w_blt1, w_blt, kBl1, kBl, w_isi, kIs, kV_sh, kV_ol, kL_some, kR_some, kR_if, kI_t, kI_f, s_nil, s_cons, kSq_nx, kSq_bk, kSq_ct, kSq_rt, kSq_ex, s_ex, kDr, s_asg, kAs_nm, kAs_tp, s_par, kPar, s_sidx, kSi1, kSi2, set0, set1, set2, s_iff, kIf, s_whl, s_rng, kRg_eq, kRg', s_seq, kSeq, s_retv, s_retn, kRv_some, s_rse, kRse, s_try, kTry_nx, kTry_bk, kTry_ct, kTry_rt, kTry_ex, s_pass, s_brk, s_cnt, kFin_nx, kFin_bk, kFin_ct, kFin_rt, kFin_ex, kO_some, suitS, suit, Su.flat, beq_self_eq_true, stg, wS_nx, wS_bk, wS_ct, wS_rt, wS_ex, rt_cst, lb_cst, la_cst, l2_cst, rt_glb, lb_glb, la_glb, l2_glb, rt_bin, lb_bin, la_bin, l2_bin, rt_neg, lb_neg, la_neg, l2_neg, rt_inv, lb_inv, la_inv, l2_inv, rt_no, lb_no, la_no, l2_no, rt_cmp, lb_cmp, la_cmp, l2_cmp, rt_cm2, lb_cm2, la_cm2, l2_cm2, rt_and, lb_and, la_and, l2_and, rt_or, lb_or, la_or, l2_or, rt_ite, lb_ite, la_ite, l2_ite, rt_tup, lb_tup, la_tup, l2_tup, rt_lst, lb_lst, la_lst, rt_dc0, lb_dc0, la_dc0, l2_dc0, rt_ix, lb_ix, la_ix, l2_ix, rt_ixd, lb_ixd, la_ixd, l2_ixd, rt_att, lb_att, la_att, l2_att, rt_cal, lb_cal, la_cal, l2_cal, rt_calk, lb_calk, la_calk, l2_calk, rt_blt, lb_blt, la_blt, l2_blt, rt_isi, lb_isi, la_isi, l2_isi, l2_var, l2_ln, l2_lc, frz, snap, binD, cmpR, cmpD, idxR, idxD, bltD, isD, isNon, at0, at1, at2, eqD_int, List.getElem?_cons_zero, List.getElem?_cons_succ, List.set_cons_zero, List.set_cons_succ, List.length_cons, List.length_nil, setr, setl, takeA, putA, picks, outs, Option.map_some, Option.bind_some, Bool.false_eq_true, if_true, if_false, Bool.not_true, Bool.not_false, Bool.and_true, Bool.true_and, Bool.and_false, Bool.false_and, true_and, and_true, List.contains_nil, List.contains_cons, Nat.reduceLT, Nat.reduceAdd, Nat.reduceBEq, Bool.or_false, Bool.false_or, Bool.or_true, Bool.true_or, List.map_cons, List.map_nil, List.append_nil, List.cons_append, List.nil_append, decide_true, decide_false, Nat.not_lt_zero, g__law_lowest, d__law_lowest, eB, eX, wC_of (law_lowest_ok (n := n + 3) (x := X) B0 zB)]
  obtain ⟨P, q, el, q0, Pq, qB, gc, dg⟩ := low_deg B0 X1
  have szl : szD (low X B) := fun a b e => by
    rw [el] at e; cases e; omega
  refine ⟨by omega, ?_⟩
  have es : eqD (low X B) (low X B) = some true := by
    rw [el, eqD_ii]; simp
  have bt : (true == true) = true := rfl
  simp only [w_var, w_cst, wB_var, kO1_eq, kO2, w_bin, w_cmp, w_ix, w_neg, kNeg_int, w_no, kNo, kT_bl, w_and, w_or, w_ite, kAnd, kOr, kIte, w_cm2, kC1_eq, kC2_eq, kC3, wD_nil, wD_cons, kD1_eq, kD3, kD2, wR_nil, wR_cons, kR1, kR2, wA_nil, wA_var, kA1, kA2, kAv, kAn_sh, kAn_ol, kAn_od, w_tup, w_lst, kTup, kLst, w_dc0, kX1_eq, w_ixd, kX2_int, w_cal, kCal, w_calk, kKw1, kKw, w_blt1, w_blt, kBl1, kBl, w_isi, kIs, kV_sh, kV_ol, kL_some, kR_some, kR_if, kI_t, kI_f, s_nil, s_cons, kSq_nx, kSq_bk, kSq_ct, kSq_rt, kSq_ex, s_ex, kDr, s_asg, kAs_nm, kAs_tp, s_par, kPar, s_sidx, kSi1, kSi2, set0, set1, set2, s_iff, kIf, s_whl, s_rng, kRg_eq, kRg', s_seq, kSeq, s_retv, s_retn, kRv_some, s_rse, kRse, s_try, kTry_nx, kTry_bk, kTry_ct, kTry_rt, kTry_ex, s_pass, s_brk, s_cnt, kFin_nx, kFin_bk, kFin_ct, kFin_rt, kFin_ex, kO_some, suitS, suit, Su.flat, beq_self_eq_true, stg, wS_nx, wS_bk, wS_ct, wS_rt, wS_ex, rt_cst, lb_cst, la_cst, l2_cst, rt_glb, lb_glb, la_glb, l2_glb, rt_bin, lb_bin, la_bin, l2_bin, rt_neg, lb_neg, la_neg, l2_neg, rt_inv, lb_inv, la_inv, l2_inv, rt_no, lb_no, la_no, l2_no, rt_cmp, lb_cmp, la_cmp, l2_cmp, rt_cm2, lb_cm2, la_cm2, l2_cm2, rt_and, lb_and, la_and, l2_and, rt_or, lb_or, la_or, l2_or, rt_ite, lb_ite, la_ite, l2_ite, rt_tup, lb_tup, la_tup, l2_tup, rt_lst, lb_lst, la_lst, rt_dc0, lb_dc0, la_dc0, l2_dc0, rt_ix, lb_ix, la_ix, l2_ix, rt_ixd, lb_ixd, la_ixd, l2_ixd, rt_att, lb_att, la_att, l2_att, rt_cal, lb_cal, la_cal, l2_cal, rt_calk, lb_calk, la_calk, l2_calk, rt_blt, lb_blt, la_blt, l2_blt, rt_isi, lb_isi, la_isi, l2_isi, l2_var, l2_ln, l2_lc, frz, snap, binD, cmpR, cmpD, idxR, idxD, bltD, isD, isNon, at0, at1, at2, eqD_int, List.getElem?_cons_zero, List.getElem?_cons_succ, List.set_cons_zero, List.set_cons_succ, List.length_cons, List.length_nil, setr, setl, takeA, putA, picks, outs, Option.map_some, Option.bind_some, Bool.false_eq_true, if_true, if_false, Bool.not_true, Bool.not_false, Bool.and_true, Bool.true_and, Bool.and_false, Bool.false_and, true_and, and_true, List.contains_nil, List.contains_cons, Nat.reduceLT, Nat.reduceAdd, Nat.reduceBEq, Bool.or_false, Bool.false_or, Bool.or_true, Bool.true_or, List.map_cons, List.map_nil, List.append_nil, List.cons_append, List.nil_append, decide_true, decide_false, Nat.not_lt_zero, g_degree, d_degree, g_is_degree, d_is_degree, wC_of (degree_ok (n := n + 2) (show 1 ≤ B from B0) X1 zB), es, wC_of (is_degree_ok (n := n + 3) szl), dg, bt]
  have mP : mulOk 2 P = true := mul_ok (by omega) (by omega) (by omega) (by omega)
  have mq : mulOk 2 q = true := mul_ok (by omega) (by omega) (by omega) (by omega)
  simp only [el, w_var, w_cst, wB_var, kO1_eq, kO2, w_bin, w_cmp, w_ix, w_neg, kNeg_int, w_no, kNo, kT_bl, w_and, w_or, w_ite, kAnd, kOr, kIte, w_cm2, kC1_eq, kC2_eq, kC3, wD_nil, wD_cons, kD1_eq, kD3, kD2, wR_nil, wR_cons, kR1, kR2, wA_nil, wA_var, kA1, kA2, kAv, kAn_sh, kAn_ol, kAn_od, w_tup, w_lst, kTup, kLst, w_dc0, kX1_eq, w_ixd, kX2_int, w_cal, kCal, w_calk, kKw1, kKw, w_blt1, w_blt, kBl1, kBl, w_isi, kIs, kV_sh, kV_ol, kL_some, kR_some, kR_if, kI_t, kI_f, s_nil, s_cons, kSq_nx, kSq_bk, kSq_ct, kSq_rt, kSq_ex, s_ex, kDr, s_asg, kAs_nm, kAs_tp, s_par, kPar, s_sidx, kSi1, kSi2, set0, set1, set2, s_iff, kIf, s_whl, s_rng, kRg_eq, kRg', s_seq, kSeq, s_retv, s_retn, kRv_some, s_rse, kRse, s_try, kTry_nx, kTry_bk, kTry_ct, kTry_rt, kTry_ex, s_pass, s_brk, s_cnt, kFin_nx, kFin_bk, kFin_ct, kFin_rt, kFin_ex, kO_some, suitS, suit, Su.flat, beq_self_eq_true, stg, wS_nx, wS_bk, wS_ct, wS_rt, wS_ex, rt_cst, lb_cst, la_cst, l2_cst, rt_glb, lb_glb, la_glb, l2_glb, rt_bin, lb_bin, la_bin, l2_bin, rt_neg, lb_neg, la_neg, l2_neg, rt_inv, lb_inv, la_inv, l2_inv, rt_no, lb_no, la_no, l2_no, rt_cmp, lb_cmp, la_cmp, l2_cmp, rt_cm2, lb_cm2, la_cm2, l2_cm2, rt_and, lb_and, la_and, l2_and, rt_or, lb_or, la_or, l2_or, rt_ite, lb_ite, la_ite, l2_ite, rt_tup, lb_tup, la_tup, l2_tup, rt_lst, lb_lst, la_lst, rt_dc0, lb_dc0, la_dc0, l2_dc0, rt_ix, lb_ix, la_ix, l2_ix, rt_ixd, lb_ixd, la_ixd, l2_ixd, rt_att, lb_att, la_att, l2_att, rt_cal, lb_cal, la_cal, l2_cal, rt_calk, lb_calk, la_calk, l2_calk, rt_blt, lb_blt, la_blt, l2_blt, rt_isi, lb_isi, la_isi, l2_isi, l2_var, l2_ln, l2_lc, frz, snap, binD, cmpR, cmpD, idxR, idxD, bltD, isD, isNon, at0, at1, at2, eqD_int, List.getElem?_cons_zero, List.getElem?_cons_succ, List.set_cons_zero, List.set_cons_succ, List.length_cons, List.length_nil, setr, setl, takeA, putA, picks, outs, Option.map_some, Option.bind_some, Bool.false_eq_true, if_true, if_false, Bool.not_true, Bool.not_false, Bool.and_true, Bool.true_and, Bool.and_false, Bool.false_and, true_and, and_true, List.contains_nil, List.contains_cons, Nat.reduceLT, Nat.reduceAdd, Nat.reduceBEq, Bool.or_false, Bool.false_or, Bool.or_true, Bool.true_or, List.map_cons, List.map_nil, List.append_nil, List.cons_append, List.nil_append, decide_true, decide_false, Nat.not_lt_zero, mP, mq]
  refine ⟨by decide, by decide, ?_⟩
  simp only [g__law_draw, d__law_draw, kR_some]
  refine draw_ok hq (by omega) (by decide) (by decide) fun r5 p5 r50 r51 hp => ?_
  have hq := hp
  obtain ⟨_, _, _, rfl, _⟩ := hp
  simp only [w_var, w_cst, wB_var, kO1_eq, kO2, w_bin, w_cmp, w_ix, w_neg, kNeg_int, w_no, kNo, kT_bl, w_and, w_or, w_ite, kAnd, kOr, kIte, w_cm2, kC1_eq, kC2_eq, kC3, wD_nil, wD_cons, kD1_eq, kD3, kD2, wR_nil, wR_cons, kR1, kR2, wA_nil, wA_var, kA1, kA2, kAv, kAn_sh, kAn_ol, kAn_od, w_tup, w_lst, kTup, kLst, w_dc0, kX1_eq, w_ixd, kX2_int, w_cal, kCal, w_calk, kKw1, kKw, w_blt1, w_blt, kBl1, kBl, w_isi, kIs, kV_sh, kV_ol, kL_some, kR_some, kR_if, kI_t, kI_f, s_nil, s_cons, kSq_nx, kSq_bk, kSq_ct, kSq_rt, kSq_ex, s_ex, kDr, s_asg, kAs_nm, kAs_tp, s_par, kPar, s_sidx, kSi1, kSi2, set0, set1, set2, s_iff, kIf, s_whl, s_rng, kRg_eq, kRg', s_seq, kSeq, s_retv, s_retn, kRv_some, s_rse, kRse, s_try, kTry_nx, kTry_bk, kTry_ct, kTry_rt, kTry_ex, s_pass, s_brk, s_cnt, kFin_nx, kFin_bk, kFin_ct, kFin_rt, kFin_ex, kO_some, suitS, suit, Su.flat, beq_self_eq_true, stg, wS_nx, wS_bk, wS_ct, wS_rt, wS_ex, rt_cst, lb_cst, la_cst, l2_cst, rt_glb, lb_glb, la_glb, l2_glb, rt_bin, lb_bin, la_bin, l2_bin, rt_neg, lb_neg, la_neg, l2_neg, rt_inv, lb_inv, la_inv, l2_inv, rt_no, lb_no, la_no, l2_no, rt_cmp, lb_cmp, la_cmp, l2_cmp, rt_cm2, lb_cm2, la_cm2, l2_cm2, rt_and, lb_and, la_and, l2_and, rt_or, lb_or, la_or, l2_or, rt_ite, lb_ite, la_ite, l2_ite, rt_tup, lb_tup, la_tup, l2_tup, rt_lst, lb_lst, la_lst, rt_dc0, lb_dc0, la_dc0, l2_dc0, rt_ix, lb_ix, la_ix, l2_ix, rt_ixd, lb_ixd, la_ixd, l2_ixd, rt_att, lb_att, la_att, l2_att, rt_cal, lb_cal, la_cal, l2_cal, rt_calk, lb_calk, la_calk, l2_calk, rt_blt, lb_blt, la_blt, l2_blt, rt_isi, lb_isi, la_isi, l2_isi, l2_var, l2_ln, l2_lc, frz, snap, binD, cmpR, cmpD, idxR, idxD, bltD, isD, isNon, at0, at1, at2, eqD_int, List.getElem?_cons_zero, List.getElem?_cons_succ, List.set_cons_zero, List.set_cons_succ, List.length_cons, List.length_nil, setr, setl, takeA, putA, picks, outs, Option.map_some, Option.bind_some, Bool.false_eq_true, if_true, if_false, Bool.not_true, Bool.not_false, Bool.and_true, Bool.true_and, Bool.and_false, Bool.false_and, true_and, and_true, List.contains_nil, List.contains_cons, Nat.reduceLT, Nat.reduceAdd, Nat.reduceBEq, Bool.or_false, Bool.false_or, Bool.or_true, Bool.true_or, List.map_cons, List.map_nil, List.append_nil, List.cons_append, List.nil_append, decide_true, decide_false, Nat.not_lt_zero]
  refine kR_atR r50 (by simpa using r51) fun z hz => ?_
  have gc2 : Nat.gcd (2 * P) (2 * q) = 2 := by rw [Nat.gcd_mul_left, gc]
  have szc : ∀ {a b : Int}, b < 2 ^ 200 → szD (.tup [.int a, .int b]) := fun hb _ _ e => by cases e; exact hb
  have szn : ∀ {d : D}, (∀ a b, d ≠ .tup [.int a, .int b]) → szD d := fun hn _ _ e => absurd e (hn _ _)
  have hz' : isDeg z = false ∧ szD z ∧ okS 3 20000 z := by
    simp only [List.mem_cons, List.not_mem_nil, or_false] at hz
    rcases hz with rfl | rfl | rfl | rfl | rfl | rfl | rfl | rfl | rfl | rfl | rfl | rfl | rfl | rfl | rfl | rfl | rfl | rfl | rfl | rfl | rfl | rfl | rfl | rfl
    · exact ⟨rfl, szn fun _ _ e => (by cases e), ⟨_, rfl, by decide, by decide, by decide⟩⟩
    · exact ⟨rfl, szn fun _ _ e => (by cases e), ⟨_, rfl, by decide, by decide, by decide⟩⟩
    · exact ⟨rfl, szn fun _ _ e => (by cases e), ⟨_, rfl, by decide, by decide, by decide⟩⟩
    · exact ⟨rfl, szn fun _ _ e => (by cases e), ⟨_, rfl, by decide, by decide, by decide⟩⟩
    · exact ⟨rfl, szn fun _ _ e => (by cases e), ⟨_, rfl, by decide, by decide, by decide⟩⟩
    · exact ⟨rfl, szn fun _ _ e => (by cases e), ⟨_, rfl, by decide, by decide, by decide⟩⟩
    · exact ⟨rfl, szn fun _ _ e => (by cases e), ⟨_, rfl, by decide, by decide, by decide⟩⟩
    · exact ⟨by decide, szc (by decide), ⟨_, rfl, by decide, by decide, by decide⟩⟩
    · exact ⟨by decide, szc (by decide), ⟨_, rfl, by decide, by decide, by decide⟩⟩
    · exact ⟨by decide, szc (by decide), ⟨_, rfl, by decide, by decide, by decide⟩⟩
    · exact ⟨by decide, szc (by decide), ⟨_, rfl, by decide, by decide, by decide⟩⟩
    · exact ⟨by decide, szc (by decide), ⟨_, rfl, by decide, by decide, by decide⟩⟩
    · exact ⟨rfl, szn fun _ _ e => (by cases e), ⟨_, rfl, by decide, by decide, by decide⟩⟩
    · exact ⟨rfl, szn fun _ _ e => (by cases e), ⟨_, rfl, by decide, by decide, by decide⟩⟩
    · exact ⟨rfl, szn fun _ _ e => (by cases e), ⟨_, rfl, by decide, by decide, by decide⟩⟩
    · exact ⟨rfl, szn fun _ _ e => (by cases e), ⟨_, rfl, by decide, by decide, by decide⟩⟩
    · exact ⟨rfl, szn fun _ _ e => (by cases e), ⟨_, rfl, by decide, by decide, by decide⟩⟩
    · exact ⟨rfl, szn fun _ _ e => (by cases e), ⟨_, rfl, by decide, by decide, by decide⟩⟩
    · have e1 : (2 * (P : Int)) = ((2 * P : Nat) : Int) := by omega
      have e2 : (2 * (q : Int)) = ((2 * q : Nat) : Int) := by omega
      refine ⟨?_, szc (by omega), (okS_tup (k := 0) (b := 2000) fun d hd => ?_).mono (by decide) (show 2 * (2000 + 10) + 10 ≤ 20000 by decide)⟩
      · unfold isDeg
        rw [e1, e2]
        simp only [Int.toNat_natCast, gc2]
        simp
      · simp only [List.mem_cons, List.not_mem_nil, or_false] at hd
        rcases hd with rfl | rfl <;> exact okS_int (by omega) (by omega)
    · refine ⟨rfl, szn fun _ _ e => (by cases e), (okS_lst (k := 0) (b := 2000) fun d hd => ?_).mono (by decide) (show 2 * (2000 + 10) + 10 ≤ 20000 by decide)⟩
      simp only [List.mem_cons, List.not_mem_nil, or_false] at hd
      rcases hd with rfl | rfl <;> exact okS_int (by omega) (by omega)
    · exact ⟨by decide, szc (by decide), ⟨_, rfl, by decide, by decide, by decide⟩⟩
    · exact ⟨by decide, szc (by decide), ⟨_, rfl, by decide, by decide, by decide⟩⟩
    · exact ⟨by decide, szc (by decide), ⟨_, rfl, by decide, by decide, by decide⟩⟩
    · refine ⟨?_, szc (by omega), (okS_tup (k := 0) (b := 2000) fun d hd => ?_).mono (by decide) (show 2 * (2000 + 10) + 10 ≤ 20000 by decide)⟩
      · unfold isDeg
        have e1 : decide ((B : Int) + 1 ≤ B) = false := decide_eq_false (by omega)
        simp only [e1, Bool.false_and, Bool.and_false]
      · simp only [List.mem_cons, List.not_mem_nil, or_false] at hd
        rcases hd with rfl | rfl <;> exact okS_int (by omega) (by omega)
  clear hz
  obtain ⟨zd, zs, zo⟩ := hz'
  rw [el] at szl dg
  simp only [w_var, w_cst, wB_var, kO1_eq, kO2, w_bin, w_cmp, w_ix, w_neg, kNeg_int, w_no, kNo, kT_bl, w_and, w_or, w_ite, kAnd, kOr, kIte, w_cm2, kC1_eq, kC2_eq, kC3, wD_nil, wD_cons, kD1_eq, kD3, kD2, wR_nil, wR_cons, kR1, kR2, wA_nil, wA_var, kA1, kA2, kAv, kAn_sh, kAn_ol, kAn_od, w_tup, w_lst, kTup, kLst, w_dc0, kX1_eq, w_ixd, kX2_int, w_cal, kCal, w_calk, kKw1, kKw, w_blt1, w_blt, kBl1, kBl, w_isi, kIs, kV_sh, kV_ol, kL_some, kR_some, kR_if, kI_t, kI_f, s_nil, s_cons, kSq_nx, kSq_bk, kSq_ct, kSq_rt, kSq_ex, s_ex, kDr, s_asg, kAs_nm, kAs_tp, s_par, kPar, s_sidx, kSi1, kSi2, set0, set1, set2, s_iff, kIf, s_whl, s_rng, kRg_eq, kRg', s_seq, kSeq, s_retv, s_retn, kRv_some, s_rse, kRse, s_try, kTry_nx, kTry_bk, kTry_ct, kTry_rt, kTry_ex, s_pass, s_brk, s_cnt, kFin_nx, kFin_bk, kFin_ct, kFin_rt, kFin_ex, kO_some, suitS, suit, Su.flat, beq_self_eq_true, stg, wS_nx, wS_bk, wS_ct, wS_rt, wS_ex, rt_cst, lb_cst, la_cst, l2_cst, rt_glb, lb_glb, la_glb, l2_glb, rt_bin, lb_bin, la_bin, l2_bin, rt_neg, lb_neg, la_neg, l2_neg, rt_inv, lb_inv, la_inv, l2_inv, rt_no, lb_no, la_no, l2_no, rt_cmp, lb_cmp, la_cmp, l2_cmp, rt_cm2, lb_cm2, la_cm2, l2_cm2, rt_and, lb_and, la_and, l2_and, rt_or, lb_or, la_or, l2_or, rt_ite, lb_ite, la_ite, l2_ite, rt_tup, lb_tup, la_tup, l2_tup, rt_lst, lb_lst, la_lst, rt_dc0, lb_dc0, la_dc0, l2_dc0, rt_ix, lb_ix, la_ix, l2_ix, rt_ixd, lb_ixd, la_ixd, l2_ixd, rt_att, lb_att, la_att, l2_att, rt_cal, lb_cal, la_cal, l2_cal, rt_calk, lb_calk, la_calk, l2_calk, rt_blt, lb_blt, la_blt, l2_blt, rt_isi, lb_isi, la_isi, l2_isi, l2_var, l2_ln, l2_lc, frz, snap, binD, cmpR, cmpD, idxR, idxD, bltD, isD, isNon, at0, at1, at2, eqD_int, List.getElem?_cons_zero, List.getElem?_cons_succ, List.set_cons_zero, List.set_cons_succ, List.length_cons, List.length_nil, setr, setl, takeA, putA, picks, outs, Option.map_some, Option.bind_some, Bool.false_eq_true, if_true, if_false, Bool.not_true, Bool.not_false, Bool.and_true, Bool.true_and, Bool.and_false, Bool.false_and, true_and, and_true, List.contains_nil, List.contains_cons, Nat.reduceLT, Nat.reduceAdd, Nat.reduceBEq, Bool.or_false, Bool.false_or, Bool.or_true, Bool.true_or, List.map_cons, List.map_nil, List.append_nil, List.cons_append, List.nil_append, decide_true, decide_false, Nat.not_lt_zero, g_is_degree, d_is_degree, g__law_degree, d__law_degree, wC_of (is_degree_ok (n := n + 3) zs), zd, wC_of (is_degree_ok (n := n + 3) szl), dg, bt, (show (false == false) = true from rfl)]
  refine law_degree_ok hq (by omega) fun x1 y2 p6 y20 y21 x11 hp => ?_
  have hq := hp
  obtain ⟨_, _, _, rfl, _⟩ := hp
  obtain ⟨P1, q1, el1, q10, Pq1, qB1, gc1, dg1⟩ := low_deg y20 x11
  rw [el1] at dg1 ⊢
  simp only [w_var, w_cst, wB_var, kO1_eq, kO2, w_bin, w_cmp, w_ix, w_neg, kNeg_int, w_no, kNo, kT_bl, w_and, w_or, w_ite, kAnd, kOr, kIte, w_cm2, kC1_eq, kC2_eq, kC3, wD_nil, wD_cons, kD1_eq, kD3, kD2, wR_nil, wR_cons, kR1, kR2, wA_nil, wA_var, kA1, kA2, kAv, kAn_sh, kAn_ol, kAn_od, w_tup, w_lst, kTup, kLst, w_dc0, kX1_eq, w_ixd, kX2_int, w_cal, kCal, w_calk, kKw1, kKw, w_blt1, w_blt, kBl1, kBl, w_isi, kIs, kV_sh, kV_ol, kL_some, kR_some, kR_if, kI_t, kI_f, s_nil, s_cons, kSq_nx, kSq_bk, kSq_ct, kSq_rt, kSq_ex, s_ex, kDr, s_asg, kAs_nm, kAs_tp, s_par, kPar, s_sidx, kSi1, kSi2, set0, set1, set2, s_iff, kIf, s_whl, s_rng, kRg_eq, kRg', s_seq, kSeq, s_retv, s_retn, kRv_some, s_rse, kRse, s_try, kTry_nx, kTry_bk, kTry_ct, kTry_rt, kTry_ex, s_pass, s_brk, s_cnt, kFin_nx, kFin_bk, kFin_ct, kFin_rt, kFin_ex, kO_some, suitS, suit, Su.flat, beq_self_eq_true, stg, wS_nx, wS_bk, wS_ct, wS_rt, wS_ex, rt_cst, lb_cst, la_cst, l2_cst, rt_glb, lb_glb, la_glb, l2_glb, rt_bin, lb_bin, la_bin, l2_bin, rt_neg, lb_neg, la_neg, l2_neg, rt_inv, lb_inv, la_inv, l2_inv, rt_no, lb_no, la_no, l2_no, rt_cmp, lb_cmp, la_cmp, l2_cmp, rt_cm2, lb_cm2, la_cm2, l2_cm2, rt_and, lb_and, la_and, l2_and, rt_or, lb_or, la_or, l2_or, rt_ite, lb_ite, la_ite, l2_ite, rt_tup, lb_tup, la_tup, l2_tup, rt_lst, lb_lst, la_lst, rt_dc0, lb_dc0, la_dc0, l2_dc0, rt_ix, lb_ix, la_ix, l2_ix, rt_ixd, lb_ixd, la_ixd, l2_ixd, rt_att, lb_att, la_att, l2_att, rt_cal, lb_cal, la_cal, l2_cal, rt_calk, lb_calk, la_calk, l2_calk, rt_blt, lb_blt, la_blt, l2_blt, rt_isi, lb_isi, la_isi, l2_isi, l2_var, l2_ln, l2_lc, frz, snap, binD, cmpR, cmpD, idxR, idxD, bltD, isD, isNon, at0, at1, at2, eqD_int, List.getElem?_cons_zero, List.getElem?_cons_succ, List.set_cons_zero, List.set_cons_succ, List.length_cons, List.length_nil, setr, setl, takeA, putA, picks, outs, Option.map_some, Option.bind_some, Bool.false_eq_true, if_true, if_false, Bool.not_true, Bool.not_false, Bool.and_true, Bool.true_and, Bool.and_false, Bool.false_and, true_and, and_true, List.contains_nil, List.contains_cons, Nat.reduceLT, Nat.reduceAdd, Nat.reduceBEq, Bool.or_false, Bool.false_or, Bool.or_true, Bool.true_or, List.map_cons, List.map_nil, List.append_nil, List.cons_append, List.nil_append, decide_true, decide_false, Nat.not_lt_zero, g__law_degree, d__law_degree]
  refine law_degree_ok hq (by omega) fun x3 y4 p7 y40 y41 x31 hp => ?_
  have hq := hp
  obtain ⟨_, _, _, rfl, _⟩ := hp
  obtain ⟨P2, q2, el2, q20, Pq2, qB2, gc2', dg2⟩ := low_deg y40 x31
  rw [el2] at dg2 ⊢
  have ma : mulOk (P2 : Int) q1 = true := mul_ok (by omega) (by omega) (by omega) (by omega)
  have mb : mulOk (P1 : Int) q2 = true := mul_ok (by omega) (by omega) (by omega) (by omega)
  have ba : ∀ t : Bool, (bTx t == bTx t) = true := fun t => by simp
  have li : decide ((P1 : Int) * q1 < P1 * q1) = false := decide_eq_false (Int.lt_irrefl _)
  simp only [w_var, w_cst, wB_var, kO1_eq, kO2, w_bin, w_cmp, w_ix, w_neg, kNeg_int, w_no, kNo, kT_bl, w_and, w_or, w_ite, kAnd, kOr, kIte, w_cm2, kC1_eq, kC2_eq, kC3, wD_nil, wD_cons, kD1_eq, kD3, kD2, wR_nil, wR_cons, kR1, kR2, wA_nil, wA_var, kA1, kA2, kAv, kAn_sh, kAn_ol, kAn_od, w_tup, w_lst, kTup, kLst, w_dc0, kX1_eq, w_ixd, kX2_int, w_cal, kCal, w_calk, kKw1, kKw, w_blt1, w_blt, kBl1, kBl, w_isi, kIs, kV_sh, kV_ol, kL_some, kR_some, kR_if, kI_t, kI_f, s_nil, s_cons, kSq_nx, kSq_bk, kSq_ct, kSq_rt, kSq_ex, s_ex, kDr, s_asg, kAs_nm, kAs_tp, s_par, kPar, s_sidx, kSi1, kSi2, set0, set1, set2, s_iff, kIf, s_whl, s_rng, kRg_eq, kRg', s_seq, kSeq, s_retv, s_retn, kRv_some, s_rse, kRse, s_try, kTry_nx, kTry_bk, kTry_ct, kTry_rt, kTry_ex, s_pass, s_brk, s_cnt, kFin_nx, kFin_bk, kFin_ct, kFin_rt, kFin_ex, kO_some, suitS, suit, Su.flat, beq_self_eq_true, stg, wS_nx, wS_bk, wS_ct, wS_rt, wS_ex, rt_cst, lb_cst, la_cst, l2_cst, rt_glb, lb_glb, la_glb, l2_glb, rt_bin, lb_bin, la_bin, l2_bin, rt_neg, lb_neg, la_neg, l2_neg, rt_inv, lb_inv, la_inv, l2_inv, rt_no, lb_no, la_no, l2_no, rt_cmp, lb_cmp, la_cmp, l2_cmp, rt_cm2, lb_cm2, la_cm2, l2_cm2, rt_and, lb_and, la_and, l2_and, rt_or, lb_or, la_or, l2_or, rt_ite, lb_ite, la_ite, l2_ite, rt_tup, lb_tup, la_tup, l2_tup, rt_lst, lb_lst, la_lst, rt_dc0, lb_dc0, la_dc0, l2_dc0, rt_ix, lb_ix, la_ix, l2_ix, rt_ixd, lb_ixd, la_ixd, l2_ixd, rt_att, lb_att, la_att, l2_att, rt_cal, lb_cal, la_cal, l2_cal, rt_calk, lb_calk, la_calk, l2_calk, rt_blt, lb_blt, la_blt, l2_blt, rt_isi, lb_isi, la_isi, l2_isi, l2_var, l2_ln, l2_lc, frz, snap, binD, cmpR, cmpD, idxR, idxD, bltD, isD, isNon, at0, at1, at2, eqD_int, List.getElem?_cons_zero, List.getElem?_cons_succ, List.set_cons_zero, List.set_cons_succ, List.length_cons, List.length_nil, setr, setl, takeA, putA, picks, outs, Option.map_some, Option.bind_some, Bool.false_eq_true, if_true, if_false, Bool.not_true, Bool.not_false, Bool.and_true, Bool.true_and, Bool.and_false, Bool.false_and, true_and, and_true, List.contains_nil, List.contains_cons, Nat.reduceLT, Nat.reduceAdd, Nat.reduceBEq, Bool.or_false, Bool.false_or, Bool.or_true, Bool.true_or, List.map_cons, List.map_nil, List.append_nil, List.cons_append, List.nil_append, decide_true, decide_false, Nat.not_lt_zero, g_at_most, d_at_most, g__law_less, d__law_less, wC_of (at_most_ok (n := n + 1) dg1 dg2 (show (q1 : Int) < 2 ^ 200 by omega) (show (q2 : Int) < 2 ^ 200 by omega)), wC_of (law_less_ok (n := n + 4) ma mb), wC_of (at_most_ok (n := n + 1) dg1 dg1 (show (q1 : Int) < 2 ^ 200 by omega) (show (q1 : Int) < 2 ^ 200 by omega)), li, shw_bl, eqD_str, ba, bt]
  simp only [g__law_draw, d__law_draw, kR_some]
  refine draw_ok hq (by omega) (by decide) (by decide) fun r7 p8 r70 r71 hp => ?_
  have hq := hp
  obtain ⟨_, _, _, rfl, _⟩ := hp
  simp only [w_var, w_cst, wB_var, kO1_eq, kO2, w_bin, w_cmp, w_ix, w_neg, kNeg_int, w_no, kNo, kT_bl, w_and, w_or, w_ite, kAnd, kOr, kIte, w_cm2, kC1_eq, kC2_eq, kC3, wD_nil, wD_cons, kD1_eq, kD3, kD2, wR_nil, wR_cons, kR1, kR2, wA_nil, wA_var, kA1, kA2, kAv, kAn_sh, kAn_ol, kAn_od, w_tup, w_lst, kTup, kLst, w_dc0, kX1_eq, w_ixd, kX2_int, w_cal, kCal, w_calk, kKw1, kKw, w_blt1, w_blt, kBl1, kBl, w_isi, kIs, kV_sh, kV_ol, kL_some, kR_some, kR_if, kI_t, kI_f, s_nil, s_cons, kSq_nx, kSq_bk, kSq_ct, kSq_rt, kSq_ex, s_ex, kDr, s_asg, kAs_nm, kAs_tp, s_par, kPar, s_sidx, kSi1, kSi2, set0, set1, set2, s_iff, kIf, s_whl, s_rng, kRg_eq, kRg', s_seq, kSeq, s_retv, s_retn, kRv_some, s_rse, kRse, s_try, kTry_nx, kTry_bk, kTry_ct, kTry_rt, kTry_ex, s_pass, s_brk, s_cnt, kFin_nx, kFin_bk, kFin_ct, kFin_rt, kFin_ex, kO_some, suitS, suit, Su.flat, beq_self_eq_true, stg, wS_nx, wS_bk, wS_ct, wS_rt, wS_ex, rt_cst, lb_cst, la_cst, l2_cst, rt_glb, lb_glb, la_glb, l2_glb, rt_bin, lb_bin, la_bin, l2_bin, rt_neg, lb_neg, la_neg, l2_neg, rt_inv, lb_inv, la_inv, l2_inv, rt_no, lb_no, la_no, l2_no, rt_cmp, lb_cmp, la_cmp, l2_cmp, rt_cm2, lb_cm2, la_cm2, l2_cm2, rt_and, lb_and, la_and, l2_and, rt_or, lb_or, la_or, l2_or, rt_ite, lb_ite, la_ite, l2_ite, rt_tup, lb_tup, la_tup, l2_tup, rt_lst, lb_lst, la_lst, rt_dc0, lb_dc0, la_dc0, l2_dc0, rt_ix, lb_ix, la_ix, l2_ix, rt_ixd, lb_ixd, la_ixd, l2_ixd, rt_att, lb_att, la_att, l2_att, rt_cal, lb_cal, la_cal, l2_cal, rt_calk, lb_calk, la_calk, l2_calk, rt_blt, lb_blt, la_blt, l2_blt, rt_isi, lb_isi, la_isi, l2_isi, l2_var, l2_ln, l2_lc, frz, snap, binD, cmpR, cmpD, idxR, idxD, bltD, isD, isNon, at0, at1, at2, eqD_int, List.getElem?_cons_zero, List.getElem?_cons_succ, List.set_cons_zero, List.set_cons_succ, List.length_cons, List.length_nil, setr, setl, takeA, putA, picks, outs, Option.map_some, Option.bind_some, Bool.false_eq_true, if_true, if_false, Bool.not_true, Bool.not_false, Bool.and_true, Bool.true_and, Bool.and_false, Bool.false_and, true_and, and_true, List.contains_nil, List.contains_cons, Nat.reduceLT, Nat.reduceAdd, Nat.reduceBEq, Bool.or_false, Bool.false_or, Bool.or_true, Bool.true_or, List.map_cons, List.map_nil, List.append_nil, List.cons_append, List.nil_append, decide_true, decide_false, Nat.not_lt_zero]
  refine kR_at r70 (by simpa using r71) fun zw hzw => ?_
  have hw : ∃ w, zw = .sh w ∧ badT w = true ∧ okS 3 20000 w := by
    simp only [List.mem_cons, List.not_mem_nil, or_false] at hzw
    rcases hzw with rfl | rfl | rfl | rfl | rfl <;> exact ⟨_, rfl, by decide, ⟨_, rfl, by decide, by decide, by decide⟩⟩
  clear hzw
  obtain ⟨wr, rfl, wb, wo⟩ := hw
  simp only [w_var, w_cst, wB_var, kO1_eq, kO2, w_bin, w_cmp, w_ix, w_neg, kNeg_int, w_no, kNo, kT_bl, w_and, w_or, w_ite, kAnd, kOr, kIte, w_cm2, kC1_eq, kC2_eq, kC3, wD_nil, wD_cons, kD1_eq, kD3, kD2, wR_nil, wR_cons, kR1, kR2, wA_nil, wA_var, kA1, kA2, kAv, kAn_sh, kAn_ol, kAn_od, w_tup, w_lst, kTup, kLst, w_dc0, kX1_eq, w_ixd, kX2_int, w_cal, kCal, w_calk, kKw1, kKw, w_blt1, w_blt, kBl1, kBl, w_isi, kIs, kV_sh, kV_ol, kL_some, kR_some, kR_if, kI_t, kI_f, s_nil, s_cons, kSq_nx, kSq_bk, kSq_ct, kSq_rt, kSq_ex, s_ex, kDr, s_asg, kAs_nm, kAs_tp, s_par, kPar, s_sidx, kSi1, kSi2, set0, set1, set2, s_iff, kIf, s_whl, s_rng, kRg_eq, kRg', s_seq, kSeq, s_retv, s_retn, kRv_some, s_rse, kRse, s_try, kTry_nx, kTry_bk, kTry_ct, kTry_rt, kTry_ex, s_pass, s_brk, s_cnt, kFin_nx, kFin_bk, kFin_ct, kFin_rt, kFin_ex, kO_some, suitS, suit, Su.flat, beq_self_eq_true, stg, wS_nx, wS_bk, wS_ct, wS_rt, wS_ex, rt_cst, lb_cst, la_cst, l2_cst, rt_glb, lb_glb, la_glb, l2_glb, rt_bin, lb_bin, la_bin, l2_bin, rt_neg, lb_neg, la_neg, l2_neg, rt_inv, lb_inv, la_inv, l2_inv, rt_no, lb_no, la_no, l2_no, rt_cmp, lb_cmp, la_cmp, l2_cmp, rt_cm2, lb_cm2, la_cm2, l2_cm2, rt_and, lb_and, la_and, l2_and, rt_or, lb_or, la_or, l2_or, rt_ite, lb_ite, la_ite, l2_ite, rt_tup, lb_tup, la_tup, l2_tup, rt_lst, lb_lst, la_lst, rt_dc0, lb_dc0, la_dc0, l2_dc0, rt_ix, lb_ix, la_ix, l2_ix, rt_ixd, lb_ixd, la_ixd, l2_ixd, rt_att, lb_att, la_att, l2_att, rt_cal, lb_cal, la_cal, l2_cal, rt_calk, lb_calk, la_calk, l2_calk, rt_blt, lb_blt, la_blt, l2_blt, rt_isi, lb_isi, la_isi, l2_isi, l2_var, l2_ln, l2_lc, frz, snap, binD, cmpR, cmpD, idxR, idxD, bltD, isD, isNon, at0, at1, at2, eqD_int, List.getElem?_cons_zero, List.getElem?_cons_succ, List.set_cons_zero, List.set_cons_succ, List.length_cons, List.length_nil, setr, setl, takeA, putA, picks, outs, Option.map_some, Option.bind_some, Bool.false_eq_true, if_true, if_false, Bool.not_true, Bool.not_false, Bool.and_true, Bool.true_and, Bool.and_false, Bool.false_and, true_and, and_true, List.contains_nil, List.contains_cons, Nat.reduceLT, Nat.reduceAdd, Nat.reduceBEq, Bool.or_false, Bool.false_or, Bool.or_true, Bool.true_or, List.map_cons, List.map_nil, List.append_nil, List.cons_append, List.nil_append, decide_true, decide_false, Nat.not_lt_zero, g__law_draw, d__law_draw]
  refine draw_ok hq (by omega) (by decide) (by decide) fun r8 p9 r80 r81 hp => ?_
  have hq := hp
  obtain ⟨_, _, _, rfl, _⟩ := hp
  simp only [w_var, w_cst, wB_var, kO1_eq, kO2, w_bin, w_cmp, w_ix, w_neg, kNeg_int, w_no, kNo, kT_bl, w_and, w_or, w_ite, kAnd, kOr, kIte, w_cm2, kC1_eq, kC2_eq, kC3, wD_nil, wD_cons, kD1_eq, kD3, kD2, wR_nil, wR_cons, kR1, kR2, wA_nil, wA_var, kA1, kA2, kAv, kAn_sh, kAn_ol, kAn_od, w_tup, w_lst, kTup, kLst, w_dc0, kX1_eq, w_ixd, kX2_int, w_cal, kCal, w_calk, kKw1, kKw, w_blt1, w_blt, kBl1, kBl, w_isi, kIs, kV_sh, kV_ol, kL_some, kR_some, kR_if, kI_t, kI_f, s_nil, s_cons, kSq_nx, kSq_bk, kSq_ct, kSq_rt, kSq_ex, s_ex, kDr, s_asg, kAs_nm, kAs_tp, s_par, kPar, s_sidx, kSi1, kSi2, set0, set1, set2, s_iff, kIf, s_whl, s_rng, kRg_eq, kRg', s_seq, kSeq, s_retv, s_retn, kRv_some, s_rse, kRse, s_try, kTry_nx, kTry_bk, kTry_ct, kTry_rt, kTry_ex, s_pass, s_brk, s_cnt, kFin_nx, kFin_bk, kFin_ct, kFin_rt, kFin_ex, kO_some, suitS, suit, Su.flat, beq_self_eq_true, stg, wS_nx, wS_bk, wS_ct, wS_rt, wS_ex, rt_cst, lb_cst, la_cst, l2_cst, rt_glb, lb_glb, la_glb, l2_glb, rt_bin, lb_bin, la_bin, l2_bin, rt_neg, lb_neg, la_neg, l2_neg, rt_inv, lb_inv, la_inv, l2_inv, rt_no, lb_no, la_no, l2_no, rt_cmp, lb_cmp, la_cmp, l2_cmp, rt_cm2, lb_cm2, la_cm2, l2_cm2, rt_and, lb_and, la_and, l2_and, rt_or, lb_or, la_or, l2_or, rt_ite, lb_ite, la_ite, l2_ite, rt_tup, lb_tup, la_tup, l2_tup, rt_lst, lb_lst, la_lst, rt_dc0, lb_dc0, la_dc0, l2_dc0, rt_ix, lb_ix, la_ix, l2_ix, rt_ixd, lb_ixd, la_ixd, l2_ixd, rt_att, lb_att, la_att, l2_att, rt_cal, lb_cal, la_cal, l2_cal, rt_calk, lb_calk, la_calk, l2_calk, rt_blt, lb_blt, la_blt, l2_blt, rt_isi, lb_isi, la_isi, l2_isi, l2_var, l2_ln, l2_lc, frz, snap, binD, cmpR, cmpD, idxR, idxD, bltD, isD, isNon, at0, at1, at2, eqD_int, List.getElem?_cons_zero, List.getElem?_cons_succ, List.set_cons_zero, List.set_cons_succ, List.length_cons, List.length_nil, setr, setl, takeA, putA, picks, outs, Option.map_some, Option.bind_some, Bool.false_eq_true, if_true, if_false, Bool.not_true, Bool.not_false, Bool.and_true, Bool.true_and, Bool.and_false, Bool.false_and, true_and, and_true, List.contains_nil, List.contains_cons, Nat.reduceLT, Nat.reduceAdd, Nat.reduceBEq, Bool.or_false, Bool.false_or, Bool.or_true, Bool.true_or, List.map_cons, List.map_nil, List.append_nil, List.cons_append, List.nil_append, decide_true, decide_false, Nat.not_lt_zero]
  refine kR_at r80 (by simpa using r81) fun zb hzb => ?_
  have hb : ∃ w, zb = .sh w ∧ badB w = true ∧ okS 3 20000 w := by
    simp only [List.mem_cons, List.not_mem_nil, or_false] at hzb
    rcases hzb with rfl | rfl | rfl | rfl | rfl <;> exact ⟨_, rfl, by decide, ⟨_, rfl, by decide, by decide, by decide⟩⟩
  clear hzb
  obtain ⟨bd, rfl, bb, bo⟩ := hb
  simp only [w_var, w_cst, wB_var, kO1_eq, kO2, w_bin, w_cmp, w_ix, w_neg, kNeg_int, w_no, kNo, kT_bl, w_and, w_or, w_ite, kAnd, kOr, kIte, w_cm2, kC1_eq, kC2_eq, kC3, wD_nil, wD_cons, kD1_eq, kD3, kD2, wR_nil, wR_cons, kR1, kR2, wA_nil, wA_var, kA1, kA2, kAv, kAn_sh, kAn_ol, kAn_od, w_tup, w_lst, kTup, kLst, w_dc0, kX1_eq, w_ixd, kX2_int, w_cal, kCal, w_calk, kKw1, kKw, w_blt1, w_blt, kBl1, kBl, w_isi, kIs, kV_sh, kV_ol, kL_some, kR_some, kR_if, kI_t, kI_f, s_nil, s_cons, kSq_nx, kSq_bk, kSq_ct, kSq_rt, kSq_ex, s_ex, kDr, s_asg, kAs_nm, kAs_tp, s_par, kPar, s_sidx, kSi1, kSi2, set0, set1, set2, s_iff, kIf, s_whl, s_rng, kRg_eq, kRg', s_seq, kSeq, s_retv, s_retn, kRv_some, s_rse, kRse, s_try, kTry_nx, kTry_bk, kTry_ct, kTry_rt, kTry_ex, s_pass, s_brk, s_cnt, kFin_nx, kFin_bk, kFin_ct, kFin_rt, kFin_ex, kO_some, suitS, suit, Su.flat, beq_self_eq_true, stg, wS_nx, wS_bk, wS_ct, wS_rt, wS_ex, rt_cst, lb_cst, la_cst, l2_cst, rt_glb, lb_glb, la_glb, l2_glb, rt_bin, lb_bin, la_bin, l2_bin, rt_neg, lb_neg, la_neg, l2_neg, rt_inv, lb_inv, la_inv, l2_inv, rt_no, lb_no, la_no, l2_no, rt_cmp, lb_cmp, la_cmp, l2_cmp, rt_cm2, lb_cm2, la_cm2, l2_cm2, rt_and, lb_and, la_and, l2_and, rt_or, lb_or, la_or, l2_or, rt_ite, lb_ite, la_ite, l2_ite, rt_tup, lb_tup, la_tup, l2_tup, rt_lst, lb_lst, la_lst, rt_dc0, lb_dc0, la_dc0, l2_dc0, rt_ix, lb_ix, la_ix, l2_ix, rt_ixd, lb_ixd, la_ixd, l2_ixd, rt_att, lb_att, la_att, l2_att, rt_cal, lb_cal, la_cal, l2_cal, rt_calk, lb_calk, la_calk, l2_calk, rt_blt, lb_blt, la_blt, l2_blt, rt_isi, lb_isi, la_isi, l2_isi, l2_var, l2_ln, l2_lc, frz, snap, binD, cmpR, cmpD, idxR, idxD, bltD, isD, isNon, at0, at1, at2, eqD_int, List.getElem?_cons_zero, List.getElem?_cons_succ, List.set_cons_zero, List.set_cons_succ, List.length_cons, List.length_nil, setr, setl, takeA, putA, picks, outs, Option.map_some, Option.bind_some, Bool.false_eq_true, if_true, if_false, Bool.not_true, Bool.not_false, Bool.and_true, Bool.true_and, Bool.and_false, Bool.false_and, true_and, and_true, List.contains_nil, List.contains_cons, Nat.reduceLT, Nat.reduceAdd, Nat.reduceBEq, Bool.or_false, Bool.false_or, Bool.or_true, Bool.true_or, List.map_cons, List.map_nil, List.append_nil, List.cons_append, List.nil_append, decide_true, decide_false, Nat.not_lt_zero, g__law_draw, d__law_draw]
  refine draw_ok hq (by omega) (by decide) (by decide) fun r9 p10 r90 r91 hp => ?_
  have hq := hp
  obtain ⟨_, _, _, rfl, _⟩ := hp
  have hUV : ∃ U V : Int, (1 + r9) * ((B : Int) + 1) = U ∧ (1 + r9) * (B : Int) = V ∧ 1 ≤ V ∧ V < U ∧ U < 10 ^ 20 := by
    rcases (show r9 = 0 ∨ r9 = 1 ∨ r9 = 2 ∨ r9 = 3 ∨ r9 = 4 by omega) with rfl | rfl | rfl | rfl | rfl <;> exact ⟨_, _, rfl, rfl, by omega, by omega, by omega⟩
  obtain ⟨U, V, eU, eV, V1, UV, U2⟩ := hUV
  have mU : mulOk (1 + r9) ((B : Int) + 1) = true := mul_ok (by omega) (by omega) (by omega) (by omega)
  have mV : mulOk (1 + r9) (B : Int) = true := mul_ok (by omega) (by omega) (by omega) (by omega)
  have es2 : eqD (.lst [.tup [.int U, .int V]]) (.lst [.tup [.int U, .int V]]) = some true := by
    rw [eqD_ltii]; simp
  obtain ⟨x, hx⟩ := shw_some (k := 5) (b := 6 * (20020 + 10) + 10) (l := [.lst [wr], .lst [bd], .lst [.tup [.int ((B : Int) + 1), .int B]], .lst [z], .lst [z], .non]) (okS_lst (k := 4) (b := 20020) fun d hd => by
    have one : ∀ {w : D}, okS 3 20000 w → okS 4 20020 (.lst [w]) := fun hw => (okS_lst (l := [_]) (k := 3) (b := 20000) fun d hd => by
      simp only [List.mem_cons, List.not_mem_nil, or_false] at hd
      rw [hd]; exact hw)
    simp only [List.mem_cons, List.not_mem_nil, or_false] at hd
    rcases hd with rfl | rfl | rfl | rfl | rfl | rfl
    · exact one wo
    · exact one bo
    · refine one ((okS_tup (k := 0) (b := 2000) fun d hd => ?_).mono (by decide) (show 2 * (2000 + 10) + 10 ≤ 20000 by decide))
      simp only [List.mem_cons, List.not_mem_nil, or_false] at hd
      rcases hd with rfl | rfl <;> exact okS_int (by omega) (by omega)
    · exact one zo
    · exact one zo
    · exact ⟨_, rfl, rfl, Nat.zero_le _, by decide⟩) (by decide) (by decide)
  have xx : (x == x) = true := by simp
  have c1 := caught_deg (n := n) (degree_top (n := n + 1) (b := bd) wb)
  have c2 := caught_deg (n := n) (degree_bot (n := n + 1) (x := 3) (by decide) bb)
  have c3 := caught_deg (n := n) (degree_gt (n := n + 1) (x := (B : Int) + 1) (y := B) (by omega) (by omega))
  have c4 := caught_deg (n := n) (degree_gt (n := n + 1) V1 UV)
  have sz1 : szD (.tup [.int (P1 : Int), .int q1]) := szc (by omega)
  have c5 := caught_am (n := n) (at_most_1 (n := n) (e := .non) zs zd)
  have c6 := caught_am (n := n) (at_most_2 (n := n) sz1 zs dg1 zd)
  have c7 := caught_none (n := n) (at_most_ok (n := n) dg1 dg2 (show (q1 : Int) < 2 ^ 200 by omega) (show (q2 : Int) < 2 ^ 200 by omega))
  simp only [w_var, w_cst, wB_var, kO1_eq, kO2, w_bin, w_cmp, w_ix, w_neg, kNeg_int, w_no, kNo, kT_bl, w_and, w_or, w_ite, kAnd, kOr, kIte, w_cm2, kC1_eq, kC2_eq, kC3, wD_nil, wD_cons, kD1_eq, kD3, kD2, wR_nil, wR_cons, kR1, kR2, wA_nil, wA_var, kA1, kA2, kAv, kAn_sh, kAn_ol, kAn_od, w_tup, w_lst, kTup, kLst, w_dc0, kX1_eq, w_ixd, kX2_int, w_cal, kCal, w_calk, kKw1, kKw, w_blt1, w_blt, kBl1, kBl, w_isi, kIs, kV_sh, kV_ol, kL_some, kR_some, kR_if, kI_t, kI_f, s_nil, s_cons, kSq_nx, kSq_bk, kSq_ct, kSq_rt, kSq_ex, s_ex, kDr, s_asg, kAs_nm, kAs_tp, s_par, kPar, s_sidx, kSi1, kSi2, set0, set1, set2, s_iff, kIf, s_whl, s_rng, kRg_eq, kRg', s_seq, kSeq, s_retv, s_retn, kRv_some, s_rse, kRse, s_try, kTry_nx, kTry_bk, kTry_ct, kTry_rt, kTry_ex, s_pass, s_brk, s_cnt, kFin_nx, kFin_bk, kFin_ct, kFin_rt, kFin_ex, kO_some, suitS, suit, Su.flat, beq_self_eq_true, stg, wS_nx, wS_bk, wS_ct, wS_rt, wS_ex, rt_cst, lb_cst, la_cst, l2_cst, rt_glb, lb_glb, la_glb, l2_glb, rt_bin, lb_bin, la_bin, l2_bin, rt_neg, lb_neg, la_neg, l2_neg, rt_inv, lb_inv, la_inv, l2_inv, rt_no, lb_no, la_no, l2_no, rt_cmp, lb_cmp, la_cmp, l2_cmp, rt_cm2, lb_cm2, la_cm2, l2_cm2, rt_and, lb_and, la_and, l2_and, rt_or, lb_or, la_or, l2_or, rt_ite, lb_ite, la_ite, l2_ite, rt_tup, lb_tup, la_tup, l2_tup, rt_lst, lb_lst, la_lst, rt_dc0, lb_dc0, la_dc0, l2_dc0, rt_ix, lb_ix, la_ix, l2_ix, rt_ixd, lb_ixd, la_ixd, l2_ixd, rt_att, lb_att, la_att, l2_att, rt_cal, lb_cal, la_cal, l2_cal, rt_calk, lb_calk, la_calk, l2_calk, rt_blt, lb_blt, la_blt, l2_blt, rt_isi, lb_isi, la_isi, l2_isi, l2_var, l2_ln, l2_lc, frz, snap, binD, cmpR, cmpD, idxR, idxD, bltD, isD, isNon, at0, at1, at2, eqD_int, List.getElem?_cons_zero, List.getElem?_cons_succ, List.set_cons_zero, List.set_cons_succ, List.length_cons, List.length_nil, setr, setl, takeA, putA, picks, outs, Option.map_some, Option.bind_some, Bool.false_eq_true, if_true, if_false, Bool.not_true, Bool.not_false, Bool.and_true, Bool.true_and, Bool.and_false, Bool.false_and, true_and, and_true, List.contains_nil, List.contains_cons, Nat.reduceLT, Nat.reduceAdd, Nat.reduceBEq, Bool.or_false, Bool.false_or, Bool.or_true, Bool.true_or, List.map_cons, List.map_nil, List.append_nil, List.cons_append, List.nil_append, decide_true, decide_false, Nat.not_lt_zero, g__law_caught, d__law_caught, mU, mV, eU, eV, wC_of c4, es2]
  simp only [w_var, w_cst, wB_var, kO1_eq, kO2, w_bin, w_cmp, w_ix, w_neg, kNeg_int, w_no, kNo, kT_bl, w_and, w_or, w_ite, kAnd, kOr, kIte, w_cm2, kC1_eq, kC2_eq, kC3, wD_nil, wD_cons, kD1_eq, kD3, kD2, wR_nil, wR_cons, kR1, kR2, wA_nil, wA_var, kA1, kA2, kAv, kAn_sh, kAn_ol, kAn_od, w_tup, w_lst, kTup, kLst, w_dc0, kX1_eq, w_ixd, kX2_int, w_cal, kCal, w_calk, kKw1, kKw, w_blt1, w_blt, kBl1, kBl, w_isi, kIs, kV_sh, kV_ol, kL_some, kR_some, kR_if, kI_t, kI_f, s_nil, s_cons, kSq_nx, kSq_bk, kSq_ct, kSq_rt, kSq_ex, s_ex, kDr, s_asg, kAs_nm, kAs_tp, s_par, kPar, s_sidx, kSi1, kSi2, set0, set1, set2, s_iff, kIf, s_whl, s_rng, kRg_eq, kRg', s_seq, kSeq, s_retv, s_retn, kRv_some, s_rse, kRse, s_try, kTry_nx, kTry_bk, kTry_ct, kTry_rt, kTry_ex, s_pass, s_brk, s_cnt, kFin_nx, kFin_bk, kFin_ct, kFin_rt, kFin_ex, kO_some, suitS, suit, Su.flat, beq_self_eq_true, stg, wS_nx, wS_bk, wS_ct, wS_rt, wS_ex, rt_cst, lb_cst, la_cst, l2_cst, rt_glb, lb_glb, la_glb, l2_glb, rt_bin, lb_bin, la_bin, l2_bin, rt_neg, lb_neg, la_neg, l2_neg, rt_inv, lb_inv, la_inv, l2_inv, rt_no, lb_no, la_no, l2_no, rt_cmp, lb_cmp, la_cmp, l2_cmp, rt_cm2, lb_cm2, la_cm2, l2_cm2, rt_and, lb_and, la_and, l2_and, rt_or, lb_or, la_or, l2_or, rt_ite, lb_ite, la_ite, l2_ite, rt_tup, lb_tup, la_tup, l2_tup, rt_lst, lb_lst, la_lst, rt_dc0, lb_dc0, la_dc0, l2_dc0, rt_ix, lb_ix, la_ix, l2_ix, rt_ixd, lb_ixd, la_ixd, l2_ixd, rt_att, lb_att, la_att, l2_att, rt_cal, lb_cal, la_cal, l2_cal, rt_calk, lb_calk, la_calk, l2_calk, rt_blt, lb_blt, la_blt, l2_blt, rt_isi, lb_isi, la_isi, l2_isi, l2_var, l2_ln, l2_lc, frz, snap, binD, cmpR, cmpD, idxR, idxD, bltD, isD, isNon, at0, at1, at2, eqD_int, List.getElem?_cons_zero, List.getElem?_cons_succ, List.set_cons_zero, List.set_cons_succ, List.length_cons, List.length_nil, setr, setl, takeA, putA, picks, outs, Option.map_some, Option.bind_some, Bool.false_eq_true, if_true, if_false, Bool.not_true, Bool.not_false, Bool.and_true, Bool.true_and, Bool.and_false, Bool.false_and, true_and, and_true, List.contains_nil, List.contains_cons, Nat.reduceLT, Nat.reduceAdd, Nat.reduceBEq, Bool.or_false, Bool.false_or, Bool.or_true, Bool.true_or, List.map_cons, List.map_nil, List.append_nil, List.cons_append, List.nil_append, decide_true, decide_false, Nat.not_lt_zero, g__law_caught, d__law_caught, wC_of c1, wC_of c2, wC_of c3, wC_of c5, wC_of c6, wC_of c7, hx, eqD_str, xx]
  obtain ⟨_, _, _, e, g1, g2, g3, g4, g5⟩ := hq
  exact ⟨by decide, h _ ⟨_, _, _, e, g1, g2, g3, g4, by omega⟩⟩
end
end G4

namespace G4
section
variable {n m : Nat} {Q : R → List R → Prop} {E : Nat → List D → List R → Prop} {p : R}
theorem purse_ok {l : List Int} {at' : Nat} (ha : at' ≤ 8) (h : ∀ p, Pu 8000 p → Q p [.sh (.scr l), .sh (.int at')]) : wC (CALL Gm (n + 1) F__law_purse [.sh (.scr l), .sh (.int at')]) Q E := by
  rw [u__law_purse]
  have p1 : powOk 10 18 = true := by decide
  have p2 : powOk 10 60 = true := by decide
  have p3 : powOk (10 ^ Int.toNat 60) 8 = true := by decide +kernel
  have p4 : (0 : Int) < (10 ^ Int.toNat 60) ^ Int.toNat 8 := by decide +kernel
  have p5 : (0 : Int) < 2147483647 := by decide
  have p6 : mulOk 1000 (at' : Int) = true := mul_ok (by omega) (by omega) (by omega) (by omega)
  have fin : ∀ x y : Int, Pu 8000 (.ol [.int (x % (10 ^ Int.toNat 60) ^ Int.toNat 8), .int (y % 2147483647), .int (1000 * (at' : Int))]) := fun x y =>
    ⟨_, _, _, rfl, Int.emod_nonneg _ (Int.ne_of_gt p4), Int.emod_nonneg _ (by decide), Int.emod_lt_of_pos _ p5, by omega, by omega⟩
  simp only [b__law_purse, w_var, w_cst, wB_var, kO1_eq, kO2, w_bin, w_cmp, w_ix, w_neg, kNeg_int, w_no, kNo, kT_bl, w_and, w_or, w_ite, kAnd, kOr, kIte, w_cm2, kC1_eq, kC2_eq, kC3, wD_nil, wD_cons, kD1_eq, kD3, kD2, wR_nil, wR_cons, kR1, kR2, wA_nil, wA_var, kA1, kA2, kAv, kAn_sh, kAn_ol, kAn_od, w_tup, w_lst, kTup, kLst, w_dc0, kX1_eq, w_ixd, kX2_int, w_cal, kCal, w_calk, kKw1, kKw, w_blt1, w_blt, kBl1, kBl, w_isi, kIs, kV_sh, kV_ol, kL_some, kR_some, kR_if, kI_t, kI_f, s_nil, s_cons, kSq_nx, kSq_bk, kSq_ct, kSq_rt, kSq_ex, s_ex, kDr, s_asg, kAs_nm, kAs_tp, s_par, kPar, s_sidx, kSi1, kSi2, set0, set1, set2, s_iff, kIf, s_whl, s_rng, kRg_eq, kRg', s_seq, kSeq, s_retv, s_retn, kRv_some, s_rse, kRse, s_try, kTry_nx, kTry_bk, kTry_ct, kTry_rt, kTry_ex, s_pass, s_brk, s_cnt, kFin_nx, kFin_bk, kFin_ct, kFin_rt, kFin_ex, kO_some, suitS, suit, Su.flat, beq_self_eq_true, stg, wS_nx, wS_bk, wS_ct, wS_rt, wS_ex, rt_cst, lb_cst, la_cst, l2_cst, rt_glb, lb_glb, la_glb, l2_glb, rt_bin, lb_bin, la_bin, l2_bin, rt_neg, lb_neg, la_neg, l2_neg, rt_inv, lb_inv, la_inv, l2_inv, rt_no, lb_no, la_no, l2_no, rt_cmp, lb_cmp, la_cmp, l2_cmp, rt_cm2, lb_cm2, la_cm2, l2_cm2, rt_and, lb_and, la_and, l2_and, rt_or, lb_or, la_or, l2_or, rt_ite, lb_ite, la_ite, l2_ite, rt_tup, lb_tup, la_tup, l2_tup, rt_lst, lb_lst, la_lst, rt_dc0, lb_dc0, la_dc0, l2_dc0, rt_ix, lb_ix, la_ix, l2_ix, rt_ixd, lb_ixd, la_ixd, l2_ixd, rt_att, lb_att, la_att, l2_att, rt_cal, lb_cal, la_cal, l2_cal, rt_calk, lb_calk, la_calk, l2_calk, rt_blt, lb_blt, la_blt, l2_blt, rt_isi, lb_isi, la_isi, l2_isi, l2_var, l2_ln, l2_lc, frz, snap, binD, cmpR, cmpD, idxR, idxD, bltD, isD, isNon, at0, at1, at2, eqD_int, List.getElem?_cons_zero, List.getElem?_cons_succ, List.set_cons_zero, List.set_cons_succ, List.length_cons, List.length_nil, setr, setl, takeA, putA, picks, outs, Option.map_some, Option.bind_some, Bool.false_eq_true, if_true, if_false, Bool.not_true, Bool.not_false, Bool.and_true, Bool.true_and, Bool.and_false, Bool.false_and, true_and, and_true, List.contains_nil, List.contains_cons, Nat.reduceLT, Nat.reduceAdd, Nat.reduceBEq, Bool.or_false, Bool.false_or, Bool.or_true, Bool.true_or, List.map_cons, List.map_nil, List.append_nil, List.cons_append, List.nil_append, decide_true, decide_false, Nat.not_lt_zero, p1, p2, p3, p4, p5, p6]
  refine kI_both (fun h1 => ?_) (fun h1 => h _ (fin _ _))
  obtain ⟨x, e, _⟩ := at_nat (l := l) (i := (at' : Int)) (by omega) (of_decide_eq_true h1)
  simp only [e, w_var, w_cst, wB_var, kO1_eq, kO2, w_bin, w_cmp, w_ix, w_neg, kNeg_int, w_no, kNo, kT_bl, w_and, w_or, w_ite, kAnd, kOr, kIte, w_cm2, kC1_eq, kC2_eq, kC3, wD_nil, wD_cons, kD1_eq, kD3, kD2, wR_nil, wR_cons, kR1, kR2, wA_nil, wA_var, kA1, kA2, kAv, kAn_sh, kAn_ol, kAn_od, w_tup, w_lst, kTup, kLst, w_dc0, kX1_eq, w_ixd, kX2_int, w_cal, kCal, w_calk, kKw1, kKw, w_blt1, w_blt, kBl1, kBl, w_isi, kIs, kV_sh, kV_ol, kL_some, kR_some, kR_if, kI_t, kI_f, s_nil, s_cons, kSq_nx, kSq_bk, kSq_ct, kSq_rt, kSq_ex, s_ex, kDr, s_asg, kAs_nm, kAs_tp, s_par, kPar, s_sidx, kSi1, kSi2, set0, set1, set2, s_iff, kIf, s_whl, s_rng, kRg_eq, kRg', s_seq, kSeq, s_retv, s_retn, kRv_some, s_rse, kRse, s_try, kTry_nx, kTry_bk, kTry_ct, kTry_rt, kTry_ex, s_pass, s_brk, s_cnt, kFin_nx, kFin_bk, kFin_ct, kFin_rt, kFin_ex, kO_some, suitS, suit, Su.flat, beq_self_eq_true, stg, wS_nx, wS_bk, wS_ct, wS_rt, wS_ex, rt_cst, lb_cst, la_cst, l2_cst, rt_glb, lb_glb, la_glb, l2_glb, rt_bin, lb_bin, la_bin, l2_bin, rt_neg, lb_neg, la_neg, l2_neg, rt_inv, lb_inv, la_inv, l2_inv, rt_no, lb_no, la_no, l2_no, rt_cmp, lb_cmp, la_cmp, l2_cmp, rt_cm2, lb_cm2, la_cm2, l2_cm2, rt_and, lb_and, la_and, l2_and, rt_or, lb_or, la_or, l2_or, rt_ite, lb_ite, la_ite, l2_ite, rt_tup, lb_tup, la_tup, l2_tup, rt_lst, lb_lst, la_lst, rt_dc0, lb_dc0, la_dc0, l2_dc0, rt_ix, lb_ix, la_ix, l2_ix, rt_ixd, lb_ixd, la_ixd, l2_ixd, rt_att, lb_att, la_att, l2_att, rt_cal, lb_cal, la_cal, l2_cal, rt_calk, lb_calk, la_calk, l2_calk, rt_blt, lb_blt, la_blt, l2_blt, rt_isi, lb_isi, la_isi, l2_isi, l2_var, l2_ln, l2_lc, frz, snap, binD, cmpR, cmpD, idxR, idxD, bltD, isD, isNon, at0, at1, at2, eqD_int, List.getElem?_cons_zero, List.getElem?_cons_succ, List.set_cons_zero, List.set_cons_succ, List.length_cons, List.length_nil, setr, setl, takeA, putA, picks, outs, Option.map_some, Option.bind_some, Bool.false_eq_true, if_true, if_false, Bool.not_true, Bool.not_false, Bool.and_true, Bool.true_and, Bool.and_false, Bool.false_and, true_and, and_true, List.contains_nil, List.contains_cons, Nat.reduceLT, Nat.reduceAdd, Nat.reduceBEq, Bool.or_false, Bool.false_or, Bool.or_true, Bool.true_or, List.map_cons, List.map_nil, List.append_nil, List.cons_append, List.nil_append, decide_true, decide_false, Nat.not_lt_zero, p1, p2, p3, p4, p5, p6]
  exact h _ (fin _ _)
theorem kR_of {α : Type} {o : Option α} {a : α} {Q : α → Env → Prop} {ρ : Env} (h : o = some a) (q : Q a ρ) : kR o Q ρ := by
  subst h
  exact q
theorem rng_nat {k : Nat} (h : k ≤ 1000) : rngD [.int (k : Int)] = some ((List.range k).map fun j => D.int (0 + (j : Nat))) := by
  have c : (decide (-(2 : Int) ^ 62 ≤ (k : Int)) && decide ((k : Int) < 2 ^ 62)) = true := by
    simp only [Bool.and_eq_true, decide_eq_true_eq]
    omega
  simp only [rngD, c, if_true, Int.toNat_natCast]
theorem lo1 : low 0 7 = .tup [.int 0, .int 1] := by simp [low]
theorem lo2 : low 7 7 = .tup [.int 1, .int 1] := by simp [low]
theorem lo3 : low 6 8 = .tup [.int 3, .int 4] := by simp [low]
theorem d1 : CALL Gm (n + 7) F_degree [.sh (.int 0), .sh (.int 7)] = .ok (.sh (.tup [.int 0, .int 1])) [.sh (.int 0), .sh (.int 7)] := by
  have h := degree_ok (n := n + 4) (x := 0) (y := 7) (by decide) (by decide) (by decide)
  rw [lo1] at h
  exact h
theorem d2 : CALL Gm (n + 7) F_degree [.sh (.int 7), .sh (.int 7)] = .ok (.sh (.tup [.int 1, .int 1])) [.sh (.int 7), .sh (.int 7)] := by
  have h := degree_ok (n := n + 4) (x := 7) (y := 7) (by decide) (by decide) (by decide)
  rw [lo2] at h
  exact h
theorem d3 : CALL Gm (n + 7) F_degree [.sh (.int 6), .sh (.int 8)] = .ok (.sh (.tup [.int 3, .int 4])) [.sh (.int 6), .sh (.int 8)] := by
  have h := degree_ok (n := n + 4) (x := 6) (y := 8) (by decide) (by decide) (by decide)
  rw [lo3] at h
  exact h
theorem d4 : CALL Gm (n + 7) F_is_degree [.sh (.tup [.int 0, .int 5])] = .ok (.sh (.bl false)) [.sh (.tup [.int 0, .int 5])] := by
  have h := is_degree_ok (n := n + 5) (d := .tup [.int 0, .int 5]) (fun a b e => by cases e; decide)
  have e : isDeg (.tup [.int 0, .int 5]) = false := by decide +kernel
  rw [e] at h
  exact h
theorem e1 : eqD (.lst [.tup [.int 0, .int 1], .tup [.int 1, .int 1], .tup [.int 3, .int 4]]) (.lst [.tup [.int 0, .int 1], .tup [.int 1, .int 1], .tup [.int 3, .int 4]]) = some true := by decide +kernel
theorem e2 : (false == false) = true := rfl
theorem e4 : rngD [.int 4] = some ((List.range 4).map fun j => D.int (0 + (j : Nat))) := rfl
def bLast : Ss := (.cons (.ret (.and (.cmp .eq (.lst (.cons (.cal F_degree (.cons (.cst (.int 0)) (.cons (.cst (.int 7)) .nil))) (.cons (.cal F_degree (.cons (.cst (.int 7)) (.cons (.cst (.int 7)) .nil))) (.cons (.cal F_degree (.cons (.cst (.int 6)) (.cons (.cst (.int 8)) .nil))) .nil)))) (.lst (.cons (.tup (.cons (.cst (.int 0)) (.cons (.cst (.int 1)) .nil))) (.cons (.tup (.cons (.cst (.int 1)) (.cons (.cst (.int 1)) .nil))) (.cons (.tup (.cons (.cst (.int 3)) (.cons (.cst (.int 4)) .nil))) .nil))))) (.cmp .is (.cal F_is_degree (.cons (.tup (.cons (.cst (.int 0)) (.cons (.cst (.int 5)) .nil))) .nil)) (.cst (.bl false)))))
 .nil)
theorem last_ok {l : List Int} {Q : R → List R → Prop} {v1 v2 v3 : Option R} : wS (xss Gm (CALL Gm (n + 7)) 1 bLast [some (.sh (.scr l)), v1, v2, v3]) (kFin [] [.sh (.scr l)] Q E) ↔ Q (.sh (.bl true)) [.sh (.scr l)] := by
  simp only [bLast, w_var, w_cst, wB_var, kO1_eq, kO2, w_bin, w_cmp, w_ix, w_neg, kNeg_int, w_no, kNo, kT_bl, w_and, w_or, w_ite, kAnd, kOr, kIte, w_cm2, kC1_eq, kC2_eq, kC3, wD_nil, wD_cons, kD1_eq, kD3, kD2, wR_nil, wR_cons, kR1, kR2, wA_nil, wA_var, kA1, kA2, kAv, kAn_sh, kAn_ol, kAn_od, w_tup, w_lst, kTup, kLst, w_dc0, kX1_eq, w_ixd, kX2_int, w_cal, kCal, w_calk, kKw1, kKw, w_blt1, w_blt, kBl1, kBl, w_isi, kIs, kV_sh, kV_ol, kL_some, kR_some, kR_if, kI_t, kI_f, s_nil, s_cons, kSq_nx, kSq_bk, kSq_ct, kSq_rt, kSq_ex, s_ex, kDr, s_asg, kAs_nm, kAs_tp, s_par, kPar, s_sidx, kSi1, kSi2, set0, set1, set2, s_iff, kIf, s_whl, s_rng, kRg_eq, kRg', s_seq, kSeq, s_retv, s_retn, kRv_some, s_rse, kRse, s_try, kTry_nx, kTry_bk, kTry_ct, kTry_rt, kTry_ex, s_pass, s_brk, s_cnt, kFin_nx, kFin_bk, kFin_ct, kFin_rt, kFin_ex, kO_some, suitS, suit, Su.flat, beq_self_eq_true, stg, wS_nx, wS_bk, wS_ct, wS_rt, wS_ex, rt_cst, lb_cst, la_cst, l2_cst, rt_glb, lb_glb, la_glb, l2_glb, rt_bin, lb_bin, la_bin, l2_bin, rt_neg, lb_neg, la_neg, l2_neg, rt_inv, lb_inv, la_inv, l2_inv, rt_no, lb_no, la_no, l2_no, rt_cmp, lb_cmp, la_cmp, l2_cmp, rt_cm2, lb_cm2, la_cm2, l2_cm2, rt_and, lb_and, la_and, l2_and, rt_or, lb_or, la_or, l2_or, rt_ite, lb_ite, la_ite, l2_ite, rt_tup, lb_tup, la_tup, l2_tup, rt_lst, lb_lst, la_lst, rt_dc0, lb_dc0, la_dc0, l2_dc0, rt_ix, lb_ix, la_ix, l2_ix, rt_ixd, lb_ixd, la_ixd, l2_ixd, rt_att, lb_att, la_att, l2_att, rt_cal, lb_cal, la_cal, l2_cal, rt_calk, lb_calk, la_calk, l2_calk, rt_blt, lb_blt, la_blt, l2_blt, rt_isi, lb_isi, la_isi, l2_isi, l2_var, l2_ln, l2_lc, frz, snap, binD, cmpR, cmpD, idxR, idxD, bltD, isD, isNon, at0, at1, at2, eqD_int, List.getElem?_cons_zero, List.getElem?_cons_succ, List.set_cons_zero, List.set_cons_succ, List.length_cons, List.length_nil, setr, setl, takeA, putA, picks, outs, Option.map_some, Option.bind_some, Bool.false_eq_true, if_true, if_false, Bool.not_true, Bool.not_false, Bool.and_true, Bool.true_and, Bool.and_false, Bool.false_and, true_and, and_true, List.contains_nil, List.contains_cons, Nat.reduceLT, Nat.reduceAdd, Nat.reduceBEq, Bool.or_false, Bool.false_or, Bool.or_true, Bool.true_or, List.map_cons, List.map_nil, List.append_nil, List.cons_append, List.nil_append, decide_true, decide_false, Nat.not_lt_zero, g_degree, d_degree, g_is_degree, d_is_degree, wC_of (d1 (n := n)), wC_of (d2 (n := n)), wC_of (d3 (n := n)), wC_of (d4 (n := n)), e1, e2]
theorem law_all {l : List Int} : wC (CALL Gm (n + 8) F_law [.sh (.scr l)]) (fun r _ => r = .sh (.bl true)) (fun _ _ _ => False) := by
  rw [u_law]
  obtain ⟨K, ek, hk⟩ : ∃ K : Nat, (1 + (if (l.length : Int) < 8 then (l.length : Int) else 8)) = (K : Int) ∧ K ≤ 9 := by
    split
    · exact ⟨1 + l.length, by omega, by omega⟩
    · exact ⟨9, by omega, by omega⟩
  have er : rngD [.int (K : Int)] = some ((List.range K).map fun j => D.int (0 + (j : Nat))) := rng_nat (by omega)
  simp only [b_law, w_var, w_cst, wB_var, kO1_eq, kO2, w_bin, w_cmp, w_ix, w_neg, kNeg_int, w_no, kNo, kT_bl, w_and, w_or, w_ite, kAnd, kOr, kIte, w_cm2, kC1_eq, kC2_eq, kC3, wD_nil, wD_cons, kD1_eq, kD3, kD2, wR_nil, wR_cons, kR1, kR2, wA_nil, wA_var, kA1, kA2, kAv, kAn_sh, kAn_ol, kAn_od, w_tup, w_lst, kTup, kLst, w_dc0, kX1_eq, w_ixd, kX2_int, w_cal, kCal, w_calk, kKw1, kKw, w_blt1, w_blt, kBl1, kBl, w_isi, kIs, kV_sh, kV_ol, kL_some, kR_some, kR_if, kI_t, kI_f, s_nil, s_cons, kSq_nx, kSq_bk, kSq_ct, kSq_rt, kSq_ex, s_ex, kDr, s_asg, kAs_nm, kAs_tp, s_par, kPar, s_sidx, kSi1, kSi2, set0, set1, set2, s_iff, kIf, s_whl, s_rng, kRg_eq, kRg', s_seq, kSeq, s_retv, s_retn, kRv_some, s_rse, kRse, s_try, kTry_nx, kTry_bk, kTry_ct, kTry_rt, kTry_ex, s_pass, s_brk, s_cnt, kFin_nx, kFin_bk, kFin_ct, kFin_rt, kFin_ex, kO_some, suitS, suit, Su.flat, beq_self_eq_true, stg, wS_nx, wS_bk, wS_ct, wS_rt, wS_ex, rt_cst, lb_cst, la_cst, l2_cst, rt_glb, lb_glb, la_glb, l2_glb, rt_bin, lb_bin, la_bin, l2_bin, rt_neg, lb_neg, la_neg, l2_neg, rt_inv, lb_inv, la_inv, l2_inv, rt_no, lb_no, la_no, l2_no, rt_cmp, lb_cmp, la_cmp, l2_cmp, rt_cm2, lb_cm2, la_cm2, l2_cm2, rt_and, lb_and, la_and, l2_and, rt_or, lb_or, la_or, l2_or, rt_ite, lb_ite, la_ite, l2_ite, rt_tup, lb_tup, la_tup, l2_tup, rt_lst, lb_lst, la_lst, rt_dc0, lb_dc0, la_dc0, l2_dc0, rt_ix, lb_ix, la_ix, l2_ix, rt_ixd, lb_ixd, la_ixd, l2_ixd, rt_att, lb_att, la_att, l2_att, rt_cal, lb_cal, la_cal, l2_cal, rt_calk, lb_calk, la_calk, l2_calk, rt_blt, lb_blt, la_blt, l2_blt, rt_isi, lb_isi, la_isi, l2_isi, l2_var, l2_ln, l2_lc, frz, snap, binD, cmpR, cmpD, idxR, idxD, bltD, isD, isNon, at0, at1, at2, eqD_int, List.getElem?_cons_zero, List.getElem?_cons_succ, List.set_cons_zero, List.set_cons_succ, List.length_cons, List.length_nil, setr, setl, takeA, putA, picks, outs, Option.map_some, Option.bind_some, Bool.false_eq_true, if_true, if_false, Bool.not_true, Bool.not_false, Bool.and_true, Bool.true_and, Bool.and_false, Bool.false_and, true_and, and_true, List.contains_nil, List.contains_cons, Nat.reduceLT, Nat.reduceAdd, Nat.reduceBEq, Bool.or_false, Bool.false_or, Bool.or_true, Bool.true_or, List.map_cons, List.map_nil, List.append_nil, List.cons_append, List.nil_append, decide_true, decide_false, Nat.not_lt_zero]
  refine kR_of (by rw [ek]; exact er) ?_
  unfold kRg'
  refine wF_rule (fun rest ρ => ∃ v1 v2 v3, ρ = [some (.sh (.scr l)), v1, v2, v3] ∧ ∀ d ∈ rest, ∃ at' : Nat, at' ≤ 8 ∧ d = .int at') ?_ ?_ ⟨none, none, none, rfl, fun d hd => ?_⟩
  · rintro x rest ρ ⟨v1, v2, v3, rfl, hr⟩
    obtain ⟨at', ha, rfl⟩ := hr x List.mem_cons_self
    have hr' : ∀ d ∈ rest, ∃ at' : Nat, at' ≤ 8 ∧ d = .int at' := fun d hd => hr d (List.mem_cons_of_mem _ hd)
    simp only [w_var, w_cst, wB_var, kO1_eq, kO2, w_bin, w_cmp, w_ix, w_neg, kNeg_int, w_no, kNo, kT_bl, w_and, w_or, w_ite, kAnd, kOr, kIte, w_cm2, kC1_eq, kC2_eq, kC3, wD_nil, wD_cons, kD1_eq, kD3, kD2, wR_nil, wR_cons, kR1, kR2, wA_nil, wA_var, kA1, kA2, kAv, kAn_sh, kAn_ol, kAn_od, w_tup, w_lst, kTup, kLst, w_dc0, kX1_eq, w_ixd, kX2_int, w_cal, kCal, w_calk, kKw1, kKw, w_blt1, w_blt, kBl1, kBl, w_isi, kIs, kV_sh, kV_ol, kL_some, kR_some, kR_if, kI_t, kI_f, s_nil, s_cons, kSq_nx, kSq_bk, kSq_ct, kSq_rt, kSq_ex, s_ex, kDr, s_asg, kAs_nm, kAs_tp, s_par, kPar, s_sidx, kSi1, kSi2, set0, set1, set2, s_iff, kIf, s_whl, s_rng, kRg_eq, kRg', s_seq, kSeq, s_retv, s_retn, kRv_some, s_rse, kRse, s_try, kTry_nx, kTry_bk, kTry_ct, kTry_rt, kTry_ex, s_pass, s_brk, s_cnt, kFin_nx, kFin_bk, kFin_ct, kFin_rt, kFin_ex, kO_some, suitS, suit, Su.flat, beq_self_eq_true, stg, wS_nx, wS_bk, wS_ct, wS_rt, wS_ex, rt_cst, lb_cst, la_cst, l2_cst, rt_glb, lb_glb, la_glb, l2_glb, rt_bin, lb_bin, la_bin, l2_bin, rt_neg, lb_neg, la_neg, l2_neg, rt_inv, lb_inv, la_inv, l2_inv, rt_no, lb_no, la_no, l2_no, rt_cmp, lb_cmp, la_cmp, l2_cmp, rt_cm2, lb_cm2, la_cm2, l2_cm2, rt_and, lb_and, la_and, l2_and, rt_or, lb_or, la_or, l2_or, rt_ite, lb_ite, la_ite, l2_ite, rt_tup, lb_tup, la_tup, l2_tup, rt_lst, lb_lst, la_lst, rt_dc0, lb_dc0, la_dc0, l2_dc0, rt_ix, lb_ix, la_ix, l2_ix, rt_ixd, lb_ixd, la_ixd, l2_ixd, rt_att, lb_att, la_att, l2_att, rt_cal, lb_cal, la_cal, l2_cal, rt_calk, lb_calk, la_calk, l2_calk, rt_blt, lb_blt, la_blt, l2_blt, rt_isi, lb_isi, la_isi, l2_isi, l2_var, l2_ln, l2_lc, frz, snap, binD, cmpR, cmpD, idxR, idxD, bltD, isD, isNon, at0, at1, at2, eqD_int, List.getElem?_cons_zero, List.getElem?_cons_succ, List.set_cons_zero, List.set_cons_succ, List.length_cons, List.length_nil, setr, setl, takeA, putA, picks, outs, Option.map_some, Option.bind_some, Bool.false_eq_true, if_true, if_false, Bool.not_true, Bool.not_false, Bool.and_true, Bool.true_and, Bool.and_false, Bool.false_and, true_and, and_true, List.contains_nil, List.contains_cons, Nat.reduceLT, Nat.reduceAdd, Nat.reduceBEq, Bool.or_false, Bool.false_or, Bool.or_true, Bool.true_or, List.map_cons, List.map_nil, List.append_nil, List.cons_append, List.nil_append, decide_true, decide_false, Nat.not_lt_zero, g__law_purse, d__law_purse]
    refine purse_ok ha fun p hp => ?_
    simp only [w_var, w_cst, wB_var, kO1_eq, kO2, w_bin, w_cmp, w_ix, w_neg, kNeg_int, w_no, kNo, kT_bl, w_and, w_or, w_ite, kAnd, kOr, kIte, w_cm2, kC1_eq, kC2_eq, kC3, wD_nil, wD_cons, kD1_eq, kD3, kD2, wR_nil, wR_cons, kR1, kR2, wA_nil, wA_var, kA1, kA2, kAv, kAn_sh, kAn_ol, kAn_od, w_tup, w_lst, kTup, kLst, w_dc0, kX1_eq, w_ixd, kX2_int, w_cal, kCal, w_calk, kKw1, kKw, w_blt1, w_blt, kBl1, kBl, w_isi, kIs, kV_sh, kV_ol, kL_some, kR_some, kR_if, kI_t, kI_f, s_nil, s_cons, kSq_nx, kSq_bk, kSq_ct, kSq_rt, kSq_ex, s_ex, kDr, s_asg, kAs_nm, kAs_tp, s_par, kPar, s_sidx, kSi1, kSi2, set0, set1, set2, s_iff, kIf, s_whl, s_rng, kRg_eq, kRg', s_seq, kSeq, s_retv, s_retn, kRv_some, s_rse, kRse, s_try, kTry_nx, kTry_bk, kTry_ct, kTry_rt, kTry_ex, s_pass, s_brk, s_cnt, kFin_nx, kFin_bk, kFin_ct, kFin_rt, kFin_ex, kO_some, suitS, suit, Su.flat, beq_self_eq_true, stg, wS_nx, wS_bk, wS_ct, wS_rt, wS_ex, rt_cst, lb_cst, la_cst, l2_cst, rt_glb, lb_glb, la_glb, l2_glb, rt_bin, lb_bin, la_bin, l2_bin, rt_neg, lb_neg, la_neg, l2_neg, rt_inv, lb_inv, la_inv, l2_inv, rt_no, lb_no, la_no, l2_no, rt_cmp, lb_cmp, la_cmp, l2_cmp, rt_cm2, lb_cm2, la_cm2, l2_cm2, rt_and, lb_and, la_and, l2_and, rt_or, lb_or, la_or, l2_or, rt_ite, lb_ite, la_ite, l2_ite, rt_tup, lb_tup, la_tup, l2_tup, rt_lst, lb_lst, la_lst, rt_dc0, lb_dc0, la_dc0, l2_dc0, rt_ix, lb_ix, la_ix, l2_ix, rt_ixd, lb_ixd, la_ixd, l2_ixd, rt_att, lb_att, la_att, l2_att, rt_cal, lb_cal, la_cal, l2_cal, rt_calk, lb_calk, la_calk, l2_calk, rt_blt, lb_blt, la_blt, l2_blt, rt_isi, lb_isi, la_isi, l2_isi, l2_var, l2_ln, l2_lc, frz, snap, binD, cmpR, cmpD, idxR, idxD, bltD, isD, isNon, at0, at1, at2, eqD_int, List.getElem?_cons_zero, List.getElem?_cons_succ, List.set_cons_zero, List.set_cons_succ, List.length_cons, List.length_nil, setr, setl, takeA, putA, picks, outs, Option.map_some, Option.bind_some, Bool.false_eq_true, if_true, if_false, Bool.not_true, Bool.not_false, Bool.and_true, Bool.true_and, Bool.and_false, Bool.false_and, true_and, and_true, List.contains_nil, List.contains_cons, Nat.reduceLT, Nat.reduceAdd, Nat.reduceBEq, Bool.or_false, Bool.false_or, Bool.or_true, Bool.true_or, List.map_cons, List.map_nil, List.append_nil, List.cons_append, List.nil_append, decide_true, decide_false, Nat.not_lt_zero, e4]
    refine wF_rule (fun rest' ρ => ∃ p m v, ρ = [some (.sh (.scr l)), some (.sh (.int at')), some p, v] ∧ Pu m p ∧ m + 100 * rest'.length ≤ 8400) ?_ ?_ ⟨p, 8000, v3, rfl, hp, by simp⟩
    · rintro y rest' ρ ⟨p, m, v, rfl, hp, hm⟩
      have hq := hp
      obtain ⟨_, _, _, rfl, _⟩ := hp
      simp only [List.length_cons] at hm
      simp only [w_var, w_cst, wB_var, kO1_eq, kO2, w_bin, w_cmp, w_ix, w_neg, kNeg_int, w_no, kNo, kT_bl, w_and, w_or, w_ite, kAnd, kOr, kIte, w_cm2, kC1_eq, kC2_eq, kC3, wD_nil, wD_cons, kD1_eq, kD3, kD2, wR_nil, wR_cons, kR1, kR2, wA_nil, wA_var, kA1, kA2, kAv, kAn_sh, kAn_ol, kAn_od, w_tup, w_lst, kTup, kLst, w_dc0, kX1_eq, w_ixd, kX2_int, w_cal, kCal, w_calk, kKw1, kKw, w_blt1, w_blt, kBl1, kBl, w_isi, kIs, kV_sh, kV_ol, kL_some, kR_some, kR_if, kI_t, kI_f, s_nil, s_cons, kSq_nx, kSq_bk, kSq_ct, kSq_rt, kSq_ex, s_ex, kDr, s_asg, kAs_nm, kAs_tp, s_par, kPar, s_sidx, kSi1, kSi2, set0, set1, set2, s_iff, kIf, s_whl, s_rng, kRg_eq, kRg', s_seq, kSeq, s_retv, s_retn, kRv_some, s_rse, kRse, s_try, kTry_nx, kTry_bk, kTry_ct, kTry_rt, kTry_ex, s_pass, s_brk, s_cnt, kFin_nx, kFin_bk, kFin_ct, kFin_rt, kFin_ex, kO_some, suitS, suit, Su.flat, beq_self_eq_true, stg, wS_nx, wS_bk, wS_ct, wS_rt, wS_ex, rt_cst, lb_cst, la_cst, l2_cst, rt_glb, lb_glb, la_glb, l2_glb, rt_bin, lb_bin, la_bin, l2_bin, rt_neg, lb_neg, la_neg, l2_neg, rt_inv, lb_inv, la_inv, l2_inv, rt_no, lb_no, la_no, l2_no, rt_cmp, lb_cmp, la_cmp, l2_cmp, rt_cm2, lb_cm2, la_cm2, l2_cm2, rt_and, lb_and, la_and, l2_and, rt_or, lb_or, la_or, l2_or, rt_ite, lb_ite, la_ite, l2_ite, rt_tup, lb_tup, la_tup, l2_tup, rt_lst, lb_lst, la_lst, rt_dc0, lb_dc0, la_dc0, l2_dc0, rt_ix, lb_ix, la_ix, l2_ix, rt_ixd, lb_ixd, la_ixd, l2_ixd, rt_att, lb_att, la_att, l2_att, rt_cal, lb_cal, la_cal, l2_cal, rt_calk, lb_calk, la_calk, l2_calk, rt_blt, lb_blt, la_blt, l2_blt, rt_isi, lb_isi, la_isi, l2_isi, l2_var, l2_ln, l2_lc, frz, snap, binD, cmpR, cmpD, idxR, idxD, bltD, isD, isNon, at0, at1, at2, eqD_int, List.getElem?_cons_zero, List.getElem?_cons_succ, List.set_cons_zero, List.set_cons_succ, List.length_cons, List.length_nil, setr, setl, takeA, putA, picks, outs, Option.map_some, Option.bind_some, Bool.false_eq_true, if_true, if_false, Bool.not_true, Bool.not_false, Bool.and_true, Bool.true_and, Bool.and_false, Bool.false_and, true_and, and_true, List.contains_nil, List.contains_cons, Nat.reduceLT, Nat.reduceAdd, Nat.reduceBEq, Bool.or_false, Bool.false_or, Bool.or_true, Bool.true_or, List.map_cons, List.map_nil, List.append_nil, List.cons_append, List.nil_append, decide_true, decide_false, Nat.not_lt_zero, g__law_right, d__law_right]
      refine law_right_ok hq (by omega) fun p' hp' => ?_
      simp only [w_var, w_cst, wB_var, kO1_eq, kO2, w_bin, w_cmp, w_ix, w_neg, kNeg_int, w_no, kNo, kT_bl, w_and, w_or, w_ite, kAnd, kOr, kIte, w_cm2, kC1_eq, kC2_eq, kC3, wD_nil, wD_cons, kD1_eq, kD3, kD2, wR_nil, wR_cons, kR1, kR2, wA_nil, wA_var, kA1, kA2, kAv, kAn_sh, kAn_ol, kAn_od, w_tup, w_lst, kTup, kLst, w_dc0, kX1_eq, w_ixd, kX2_int, w_cal, kCal, w_calk, kKw1, kKw, w_blt1, w_blt, kBl1, kBl, w_isi, kIs, kV_sh, kV_ol, kL_some, kR_some, kR_if, kI_t, kI_f, s_nil, s_cons, kSq_nx, kSq_bk, kSq_ct, kSq_rt, kSq_ex, s_ex, kDr, s_asg, kAs_nm, kAs_tp, s_par, kPar, s_sidx, kSi1, kSi2, set0, set1, set2, s_iff, kIf, s_whl, s_rng, kRg_eq, kRg', s_seq, kSeq, s_retv, s_retn, kRv_some, s_rse, kRse, s_try, kTry_nx, kTry_bk, kTry_ct, kTry_rt, kTry_ex, s_pass, s_brk, s_cnt, kFin_nx, kFin_bk, kFin_ct, kFin_rt, kFin_ex, kO_some, suitS, suit, Su.flat, beq_self_eq_true, stg, wS_nx, wS_bk, wS_ct, wS_rt, wS_ex, rt_cst, lb_cst, la_cst, l2_cst, rt_glb, lb_glb, la_glb, l2_glb, rt_bin, lb_bin, la_bin, l2_bin, rt_neg, lb_neg, la_neg, l2_neg, rt_inv, lb_inv, la_inv, l2_inv, rt_no, lb_no, la_no, l2_no, rt_cmp, lb_cmp, la_cmp, l2_cmp, rt_cm2, lb_cm2, la_cm2, l2_cm2, rt_and, lb_and, la_and, l2_and, rt_or, lb_or, la_or, l2_or, rt_ite, lb_ite, la_ite, l2_ite, rt_tup, lb_tup, la_tup, l2_tup, rt_lst, lb_lst, la_lst, rt_dc0, lb_dc0, la_dc0, l2_dc0, rt_ix, lb_ix, la_ix, l2_ix, rt_ixd, lb_ixd, la_ixd, l2_ixd, rt_att, lb_att, la_att, l2_att, rt_cal, lb_cal, la_cal, l2_cal, rt_calk, lb_calk, la_calk, l2_calk, rt_blt, lb_blt, la_blt, l2_blt, rt_isi, lb_isi, la_isi, l2_isi, l2_var, l2_ln, l2_lc, frz, snap, binD, cmpR, cmpD, idxR, idxD, bltD, isD, isNon, at0, at1, at2, eqD_int, List.getElem?_cons_zero, List.getElem?_cons_succ, List.set_cons_zero, List.set_cons_succ, List.length_cons, List.length_nil, setr, setl, takeA, putA, picks, outs, Option.map_some, Option.bind_some, Bool.false_eq_true, if_true, if_false, Bool.not_true, Bool.not_false, Bool.and_true, Bool.true_and, Bool.and_false, Bool.false_and, true_and, and_true, List.contains_nil, List.contains_cons, Nat.reduceLT, Nat.reduceAdd, Nat.reduceBEq, Bool.or_false, Bool.false_or, Bool.or_true, Bool.true_or, List.map_cons, List.map_nil, List.append_nil, List.cons_append, List.nil_append, decide_true, decide_false, Nat.not_lt_zero]
      exact ⟨p', m + 100, _, rfl, hp', by omega⟩
    · rintro ρ ⟨p, m, v, rfl, hp, hm⟩
      simp only [w_var, w_cst, wB_var, kO1_eq, kO2, w_bin, w_cmp, w_ix, w_neg, kNeg_int, w_no, kNo, kT_bl, w_and, w_or, w_ite, kAnd, kOr, kIte, w_cm2, kC1_eq, kC2_eq, kC3, wD_nil, wD_cons, kD1_eq, kD3, kD2, wR_nil, wR_cons, kR1, kR2, wA_nil, wA_var, kA1, kA2, kAv, kAn_sh, kAn_ol, kAn_od, w_tup, w_lst, kTup, kLst, w_dc0, kX1_eq, w_ixd, kX2_int, w_cal, kCal, w_calk, kKw1, kKw, w_blt1, w_blt, kBl1, kBl, w_isi, kIs, kV_sh, kV_ol, kL_some, kR_some, kR_if, kI_t, kI_f, s_nil, s_cons, kSq_nx, kSq_bk, kSq_ct, kSq_rt, kSq_ex, s_ex, kDr, s_asg, kAs_nm, kAs_tp, s_par, kPar, s_sidx, kSi1, kSi2, set0, set1, set2, s_iff, kIf, s_whl, s_rng, kRg_eq, kRg', s_seq, kSeq, s_retv, s_retn, kRv_some, s_rse, kRse, s_try, kTry_nx, kTry_bk, kTry_ct, kTry_rt, kTry_ex, s_pass, s_brk, s_cnt, kFin_nx, kFin_bk, kFin_ct, kFin_rt, kFin_ex, kO_some, suitS, suit, Su.flat, beq_self_eq_true, stg, wS_nx, wS_bk, wS_ct, wS_rt, wS_ex, rt_cst, lb_cst, la_cst, l2_cst, rt_glb, lb_glb, la_glb, l2_glb, rt_bin, lb_bin, la_bin, l2_bin, rt_neg, lb_neg, la_neg, l2_neg, rt_inv, lb_inv, la_inv, l2_inv, rt_no, lb_no, la_no, l2_no, rt_cmp, lb_cmp, la_cmp, l2_cmp, rt_cm2, lb_cm2, la_cm2, l2_cm2, rt_and, lb_and, la_and, l2_and, rt_or, lb_or, la_or, l2_or, rt_ite, lb_ite, la_ite, l2_ite, rt_tup, lb_tup, la_tup, l2_tup, rt_lst, lb_lst, la_lst, rt_dc0, lb_dc0, la_dc0, l2_dc0, rt_ix, lb_ix, la_ix, l2_ix, rt_ixd, lb_ixd, la_ixd, l2_ixd, rt_att, lb_att, la_att, l2_att, rt_cal, lb_cal, la_cal, l2_cal, rt_calk, lb_calk, la_calk, l2_calk, rt_blt, lb_blt, la_blt, l2_blt, rt_isi, lb_isi, la_isi, l2_isi, l2_var, l2_ln, l2_lc, frz, snap, binD, cmpR, cmpD, idxR, idxD, bltD, isD, isNon, at0, at1, at2, eqD_int, List.getElem?_cons_zero, List.getElem?_cons_succ, List.set_cons_zero, List.set_cons_succ, List.length_cons, List.length_nil, setr, setl, takeA, putA, picks, outs, Option.map_some, Option.bind_some, Bool.false_eq_true, if_true, if_false, Bool.not_true, Bool.not_false, Bool.and_true, Bool.true_and, Bool.and_false, Bool.false_and, true_and, and_true, List.contains_nil, List.contains_cons, Nat.reduceLT, Nat.reduceAdd, Nat.reduceBEq, Bool.or_false, Bool.false_or, Bool.or_true, Bool.true_or, List.map_cons, List.map_nil, List.append_nil, List.cons_append, List.nil_append, decide_true, decide_false, Nat.not_lt_zero]
      exact ⟨_, _, _, rfl, hr'⟩
  · rintro ρ ⟨v1, v2, v3, rfl, _⟩
    simp only [kSq_nx]
    exact (last_ok (E := fun _ _ _ => False)).mpr rfl
  · simp only [List.mem_map, List.mem_range] at hd
    obtain ⟨j, hj, rfl⟩ := hd
    exact ⟨j, by omega, by rw [Int.zero_add]⟩
theorem law_ok : ∀ l : List Int, l.length ≤ 63 → ∃ fin, CALL Gm 200 F_law [.sh (.scr l)] = .ok (.sh (.bl true)) fin := fun l _ => by
  obtain ⟨r, fin, e, rfl⟩ := wC_get (law_all (n := 192) (l := l))
  exact ⟨fin, e⟩
end
end G4

namespace G4
open PySem L2
def topS (i : Nat) : Stmt := PySem.Challenge.pw_gradetalk_k01_degrees.main.body.getD i (.Pass ⟨0, 0, 0, 0⟩)
def nmS : Nms := ⟨(["is_integer", "common_divisor", "lowest", "is_degree", "require_degree", "degree", "less", "at_most", "_law_mixed", "_law_purse", "_law_draw", "_law_great", "_law_common", "_law_lowest", "_law_degree", "_law_less", "_law_caught", "_law_right", "law"] : List Str), (["GradeError", "InvalidDegree"] : List Str), [], [(7, 0, [1, 0], (["y", "x"] : List Str)), (3, 0, [0], (["thing"] : List Str)), (5, 0, [1, 0], (["bottom", "top"] : List Str))], [([] : List Str), (["thing"] : List Str)]⟩
theorem c_f_is_integer : defOk nmS (topS 4) (["thing"] : List Str) (["thing"] : List Str) f_is_integer = true := by decide +kernel
theorem c_f_common_divisor : defOk nmS (topS 5) (["one", "other"] : List Str) (["one", "other"] : List Str) f_common_divisor = true := by decide +kernel
theorem c_f_lowest : defOk nmS (topS 6) (["top", "bottom", "shared"] : List Str) (["top", "bottom"] : List Str) f_lowest = true := by decide +kernel
theorem c_f_is_degree : defOk nmS (topS 7) (["thing"] : List Str) (["thing"] : List Str) f_is_degree = true := by decide +kernel
theorem c_f_require_degree : defOk nmS (topS 8) (["thing"] : List Str) (["thing"] : List Str) f_require_degree = true := by decide +kernel
theorem c_f_degree : defOk nmS (topS 9) (["top", "bottom"] : List Str) (["top", "bottom"] : List Str) f_degree = true := by decide +kernel
theorem c_f_less : defOk nmS (topS 10) (["x", "y"] : List Str) (["x", "y"] : List Str) f_less = true := by decide +kernel
theorem c_f_at_most : defOk nmS (topS 11) (["x", "y"] : List Str) (["x", "y"] : List Str) f_at_most = true := by decide +kernel
theorem c_f__law_mixed : defOk nmS (topS 13) (["cell", "k", "stirred"] : List Str) (["cell", "k"] : List Str) f__law_mixed = true := by decide +kernel
theorem c_f__law_purse : defOk nmS (topS 14) (["cells", "at", "cell"] : List Str) (["cells", "at"] : List Str) f__law_purse = true := by decide +kernel
theorem c_f__law_draw : defOk nmS (topS 15) (["purse", "out_of", "drawn"] : List Str) (["purse", "out_of"] : List Str) f__law_draw = true := by decide +kernel
theorem c_f__law_great : defOk nmS (topS 16) (["purse", "figures", "found", "turn"] : List Str) (["purse", "figures"] : List Str) f__law_great = true := by decide +kernel
theorem c_f__law_common : defOk nmS (topS 17) (["one", "second"] : List Str) (["one", "second"] : List Str) f__law_common = true := by decide +kernel
theorem c_f__law_lowest : defOk nmS (topS 18) (["above", "beneath", "shared"] : List Str) (["above", "beneath"] : List Str) f__law_lowest = true := by decide +kernel
theorem c_f__law_degree : defOk nmS (topS 19) (["purse", "beneath"] : List Str) (["purse"] : List Str) f__law_degree = true := by decide +kernel
theorem c_f__law_less : defOk nmS (topS 21) (["u", "v"] : List Str) (["u", "v"] : List Str) f__law_less = true := by decide +kernel
theorem c_f__law_caught : defOk nmS (topS 22) (["kind", "one", "second", "caught", "error"] : List Str) (["kind", "one", "second"] : List Str) f__law_caught = true := by decide +kernel
theorem c_f__law_right : defOk nmS (topS 23) (["purse", "beneath", "above", "due", "doubled", "odd", "one", "second", "wrong", "bad", "many", "told"] : List Str) (["purse"] : List Str) f__law_right = true := by decide +kernel
theorem c_f_law : defOk nmS (topS 24) (["script", "at", "purse", "turn"] : List Str) (["script"] : List Str) f_law = true := by decide +kernel
theorem c_X_InvalidDegree : iniOk (inClass (topS 2) 0) (["thing"] : List Str) = true := by decide +kernel
theorem all_of {K : PySem.W.Frag} {h : Heap} {mg : PySem.Str → Option Value} {fa : Addr} (X : K.In h) (G : h.Ns mainGlobals mg) (hfa : mg "law" = some (.ref fa))
    {f0 f1 f2 f3 f4 f5 f6 f7 f8 f9 f10 f11 f12 f13 f14 f15 f16 f17 f18 : Addr} {od0 od1 od2 od3 od4 od5 od6 od7 od8 od9 od10 od11 od12 od13 od14 od15 od16 od17 od18 an0 an1 an2 an3 an4 an5 an6 an7 an8 an9 an10 an11 an12 an13 an14 an15 an16 an17 an18 : Option Addr} {sl0 sl1 sl2 sl3 sl4 sl5 sl6 sl7 sl8 sl9 sl10 sl11 sl12 sl13 sl14 sl15 sl16 sl17 sl18 : Array (Option Value)} {oc0 oc1 oc2 oc3 oc4 oc5 oc6 oc7 oc8 oc9 oc10 oc11 oc12 oc13 oc14 oc15 oc16 oc17 oc18 kV0 kV1 kV2 kV3 kV4 kV5 kV6 kV7 kV8 kV9 kV10 kV11 kV12 kV13 kV14 kV15 kV16 kV17 kV18 dc0 dc1 dc2 dc3 dc4 dc5 dc6 dc7 dc8 dc9 dc10 dc11 dc12 dc13 dc14 dc15 dc16 dc17 dc18 pm0 pm1 pm2 pm3 pm4 pm5 pm6 pm7 pm8 pm9 pm10 pm11 pm12 pm13 pm14 pm15 pm16 pm17 pm18 cd0 cd1 cd2 cd3 cd4 cd5 cd6 cd7 cd8 cd9 cd10 cd11 cd12 cd13 cd14 cd15 cd16 cd17 cd18 ct0 ct1 ct2 ct3 ct4 ct5 ct6 ct7 ct8 ct9 ct10 ct11 ct12 ct13 ct14 ct15 ct16 ct17 ct18 : Value}
    {C0 C1 : Addr}
    (a0 : PySem.W.nsIn K mainGlobals "is_integer" = some (some (.ref f0))) (l0 : K.lookup f0 = some ⟨oc0, od0, .func (PySem.W.fnOf "is_integer" "is_integer" (defArgs (topS 4)) (defBody (topS 4)) (defScope (topS 4)) .none kV0 dc0 pm0 an0 cd0 ct0), sl0⟩) (c0 : PySem.W.codeIn K cd0 "is_integer" = true) (k0 : PySem.W.keepIn K (.ref f0) = true)
    (a1 : PySem.W.nsIn K mainGlobals "common_divisor" = some (some (.ref f1))) (l1 : K.lookup f1 = some ⟨oc1, od1, .func (PySem.W.fnOf "common_divisor" "common_divisor" (defArgs (topS 5)) (defBody (topS 5)) (defScope (topS 5)) .none kV1 dc1 pm1 an1 cd1 ct1), sl1⟩) (c1 : PySem.W.codeIn K cd1 "common_divisor" = true) (k1 : PySem.W.keepIn K (.ref f1) = true)
    (a2 : PySem.W.nsIn K mainGlobals "lowest" = some (some (.ref f2))) (l2 : K.lookup f2 = some ⟨oc2, od2, .func (PySem.W.fnOf "lowest" "lowest" (defArgs (topS 6)) (defBody (topS 6)) (defScope (topS 6)) .none kV2 dc2 pm2 an2 cd2 ct2), sl2⟩) (c2 : PySem.W.codeIn K cd2 "lowest" = true) (k2 : PySem.W.keepIn K (.ref f2) = true)
    (a3 : PySem.W.nsIn K mainGlobals "is_degree" = some (some (.ref f3))) (l3 : K.lookup f3 = some ⟨oc3, od3, .func (PySem.W.fnOf "is_degree" "is_degree" (defArgs (topS 7)) (defBody (topS 7)) (defScope (topS 7)) .none kV3 dc3 pm3 an3 cd3 ct3), sl3⟩) (c3 : PySem.W.codeIn K cd3 "is_degree" = true) (k3 : PySem.W.keepIn K (.ref f3) = true)
    (a4 : PySem.W.nsIn K mainGlobals "require_degree" = some (some (.ref f4))) (l4 : K.lookup f4 = some ⟨oc4, od4, .func (PySem.W.fnOf "require_degree" "require_degree" (defArgs (topS 8)) (defBody (topS 8)) (defScope (topS 8)) .none kV4 dc4 pm4 an4 cd4 ct4), sl4⟩) (c4 : PySem.W.codeIn K cd4 "require_degree" = true) (k4 : PySem.W.keepIn K (.ref f4) = true)
    (a5 : PySem.W.nsIn K mainGlobals "degree" = some (some (.ref f5))) (l5 : K.lookup f5 = some ⟨oc5, od5, .func (PySem.W.fnOf "degree" "degree" (defArgs (topS 9)) (defBody (topS 9)) (defScope (topS 9)) .none kV5 dc5 pm5 an5 cd5 ct5), sl5⟩) (c5 : PySem.W.codeIn K cd5 "degree" = true) (k5 : PySem.W.keepIn K (.ref f5) = true)
    (a6 : PySem.W.nsIn K mainGlobals "less" = some (some (.ref f6))) (l6 : K.lookup f6 = some ⟨oc6, od6, .func (PySem.W.fnOf "less" "less" (defArgs (topS 10)) (defBody (topS 10)) (defScope (topS 10)) .none kV6 dc6 pm6 an6 cd6 ct6), sl6⟩) (c6 : PySem.W.codeIn K cd6 "less" = true) (k6 : PySem.W.keepIn K (.ref f6) = true)
    (a7 : PySem.W.nsIn K mainGlobals "at_most" = some (some (.ref f7))) (l7 : K.lookup f7 = some ⟨oc7, od7, .func (PySem.W.fnOf "at_most" "at_most" (defArgs (topS 11)) (defBody (topS 11)) (defScope (topS 11)) .none kV7 dc7 pm7 an7 cd7 ct7), sl7⟩) (c7 : PySem.W.codeIn K cd7 "at_most" = true) (k7 : PySem.W.keepIn K (.ref f7) = true)
    (a8 : PySem.W.nsIn K mainGlobals "_law_mixed" = some (some (.ref f8))) (l8 : K.lookup f8 = some ⟨oc8, od8, .func (PySem.W.fnOf "_law_mixed" "_law_mixed" (defArgs (topS 13)) (defBody (topS 13)) (defScope (topS 13)) .none kV8 dc8 pm8 an8 cd8 ct8), sl8⟩) (c8 : PySem.W.codeIn K cd8 "_law_mixed" = true) (k8 : PySem.W.keepIn K (.ref f8) = true)
    (a9 : PySem.W.nsIn K mainGlobals "_law_purse" = some (some (.ref f9))) (l9 : K.lookup f9 = some ⟨oc9, od9, .func (PySem.W.fnOf "_law_purse" "_law_purse" (defArgs (topS 14)) (defBody (topS 14)) (defScope (topS 14)) .none kV9 dc9 pm9 an9 cd9 ct9), sl9⟩) (c9 : PySem.W.codeIn K cd9 "_law_purse" = true) (k9 : PySem.W.keepIn K (.ref f9) = true)
    (a10 : PySem.W.nsIn K mainGlobals "_law_draw" = some (some (.ref f10))) (l10 : K.lookup f10 = some ⟨oc10, od10, .func (PySem.W.fnOf "_law_draw" "_law_draw" (defArgs (topS 15)) (defBody (topS 15)) (defScope (topS 15)) .none kV10 dc10 pm10 an10 cd10 ct10), sl10⟩) (c10 : PySem.W.codeIn K cd10 "_law_draw" = true) (k10 : PySem.W.keepIn K (.ref f10) = true)
    (a11 : PySem.W.nsIn K mainGlobals "_law_great" = some (some (.ref f11))) (l11 : K.lookup f11 = some ⟨oc11, od11, .func (PySem.W.fnOf "_law_great" "_law_great" (defArgs (topS 16)) (defBody (topS 16)) (defScope (topS 16)) .none kV11 dc11 pm11 an11 cd11 ct11), sl11⟩) (c11 : PySem.W.codeIn K cd11 "_law_great" = true) (k11 : PySem.W.keepIn K (.ref f11) = true)
    (a12 : PySem.W.nsIn K mainGlobals "_law_common" = some (some (.ref f12))) (l12 : K.lookup f12 = some ⟨oc12, od12, .func (PySem.W.fnOf "_law_common" "_law_common" (defArgs (topS 17)) (defBody (topS 17)) (defScope (topS 17)) .none kV12 dc12 pm12 an12 cd12 ct12), sl12⟩) (c12 : PySem.W.codeIn K cd12 "_law_common" = true) (k12 : PySem.W.keepIn K (.ref f12) = true)
    (a13 : PySem.W.nsIn K mainGlobals "_law_lowest" = some (some (.ref f13))) (l13 : K.lookup f13 = some ⟨oc13, od13, .func (PySem.W.fnOf "_law_lowest" "_law_lowest" (defArgs (topS 18)) (defBody (topS 18)) (defScope (topS 18)) .none kV13 dc13 pm13 an13 cd13 ct13), sl13⟩) (c13 : PySem.W.codeIn K cd13 "_law_lowest" = true) (k13 : PySem.W.keepIn K (.ref f13) = true)
    (a14 : PySem.W.nsIn K mainGlobals "_law_degree" = some (some (.ref f14))) (l14 : K.lookup f14 = some ⟨oc14, od14, .func (PySem.W.fnOf "_law_degree" "_law_degree" (defArgs (topS 19)) (defBody (topS 19)) (defScope (topS 19)) .none kV14 dc14 pm14 an14 cd14 ct14), sl14⟩) (c14 : PySem.W.codeIn K cd14 "_law_degree" = true) (k14 : PySem.W.keepIn K (.ref f14) = true)
    (a15 : PySem.W.nsIn K mainGlobals "_law_less" = some (some (.ref f15))) (l15 : K.lookup f15 = some ⟨oc15, od15, .func (PySem.W.fnOf "_law_less" "_law_less" (defArgs (topS 21)) (defBody (topS 21)) (defScope (topS 21)) .none kV15 dc15 pm15 an15 cd15 ct15), sl15⟩) (c15 : PySem.W.codeIn K cd15 "_law_less" = true) (k15 : PySem.W.keepIn K (.ref f15) = true)
    (a16 : PySem.W.nsIn K mainGlobals "_law_caught" = some (some (.ref f16))) (l16 : K.lookup f16 = some ⟨oc16, od16, .func (PySem.W.fnOf "_law_caught" "_law_caught" (defArgs (topS 22)) (defBody (topS 22)) (defScope (topS 22)) .none kV16 dc16 pm16 an16 cd16 ct16), sl16⟩) (c16 : PySem.W.codeIn K cd16 "_law_caught" = true) (k16 : PySem.W.keepIn K (.ref f16) = true)
    (a17 : PySem.W.nsIn K mainGlobals "_law_right" = some (some (.ref f17))) (l17 : K.lookup f17 = some ⟨oc17, od17, .func (PySem.W.fnOf "_law_right" "_law_right" (defArgs (topS 23)) (defBody (topS 23)) (defScope (topS 23)) .none kV17 dc17 pm17 an17 cd17 ct17), sl17⟩) (c17 : PySem.W.codeIn K cd17 "_law_right" = true) (k17 : PySem.W.keepIn K (.ref f17) = true)
    (a18 : PySem.W.nsIn K mainGlobals "law" = some (some (.ref f18))) (l18 : K.lookup f18 = some ⟨oc18, od18, .func (PySem.W.fnOf "law" "law" (defArgs (topS 24)) (defBody (topS 24)) (defScope (topS 24)) .none kV18 dc18 pm18 an18 cd18 ct18), sl18⟩) (c18 : PySem.W.codeIn K cd18 "law" = true) (k18 : PySem.W.keepIn K (.ref f18) = true)
    (xa0 : PySem.W.nsIn K mainGlobals "GradeError" = some (some (.ref C0))) (xe0 : PySem.W.subIn K (.ref C0) (.type "BaseException") = some true) (xi0 : PySem.W.isClsIn K C0 = true) (xt0 : PySem.W.typeIn K (.ref C0) = some (.type "type"))
    (xa1 : PySem.W.nsIn K mainGlobals "InvalidDegree" = some (some (.ref C1))) (xe1 : PySem.W.subIn K (.ref C1) (.type "BaseException") = some true) (xi1 : PySem.W.isClsIn K C1 = true) (xt1 : PySem.W.typeIn K (.ref C1) = some (.type "type"))
    {xf1 : Addr} {xod1 xan1 : Option Addr} {xsl1 : Array (Option Value)} {xoc1 xkV1 xdc1 xpm1 xcd1 xct1 : Value}
    {nm1 q1 : PySem.Str} {N1 : Addr} {bs1 : List Value} {sn1 : List PySem.Str} {sub1 : List Value} {ab1 : Bool} {col1 : Option Bool} {dd1 : Option Addr} {m01 m11 m21 m31 m51 : Option Value}
    (xL1 : K.lookup C1 = some (excClassObj nm1 q1 C1 N1 bs1 [.ref C0, .type "ValueError", .type "Exception", .type "BaseException", .type "object"] true sn1 sub1 ab1 col1 dd1 m01 m11 m21 m31 m51 "ValueError.__new__"))
    (xs1 : PySem.W.findIn K (.ref C1) "__setattr__" = some (some (.builtin "object.__setattr__"))) (xg1 : PySem.W.findIn K (.ref C1) "__getattribute__" = some (some (.builtin "BaseException.__getattribute__"))) (xh1 : PySem.W.findIn K (.ref C1) "__getattr__" = some none)
    (xn1 : PySem.W.findIn K (.ref C1) "__init__" = some (some (.ref xf1))) (xm1 : PySem.W.typeIn K (.ref xf1) = some (.type "function")) (xl1 : K.lookup xf1 = some ⟨xoc1, xod1, .func (PySem.W.fnOf "__init__" "InvalidDegree.__init__" (defArgs (inClass (topS 2) 0)) (defBody (inClass (topS 2) 0)) (defScope (inClass (topS 2) 0)) .none xkV1 xdc1 xpm1 xan1 xcd1 xct1), xsl1⟩) (xc1 : PySem.W.codeIn K xcd1 "InvalidDegree.__init__" = true)
    (xk1 : PySem.W.keepIn K (.ref C1) = true) (xd1 : PySem.W.hasDictIn K C1 = true)
    (xo1_0 : PySem.W.findIn K (.ref C1) "thing" = some none)
    (s0_0 : PySem.W.subIn K (.ref C0) (.ref C0) = some true)
    (s0_1 : PySem.W.subIn K (.ref C0) (.ref C1) = some false)
    (s1_0 : PySem.W.subIn K (.ref C1) (.ref C0) = some true)
    (s1_1 : PySem.W.subIn K (.ref C1) (.ref C1) = some true)
    (z_len : PySem.W.nsIn K mainGlobals "len" = some none)
    (z_abs : PySem.W.nsIn K mainGlobals "abs" = some none)
    (z_int : PySem.W.nsIn K mainGlobals "int" = some none)
    (z_str : PySem.W.nsIn K mainGlobals "str" = some none)
    (z_list : PySem.W.nsIn K mainGlobals "list" = some none)
    (z_tuple : PySem.W.nsIn K mainGlobals "tuple" = some none)
    (z_max : PySem.W.nsIn K mainGlobals "max" = some none)
    (z_min : PySem.W.nsIn K mainGlobals "min" = some none)
    (z_sum : PySem.W.nsIn K mainGlobals "sum" = some none)
    (z_sorted : PySem.W.nsIn K mainGlobals "sorted" = some none)
    (z_all : PySem.W.nsIn K mainGlobals "all" = some none)
    (z_dict : PySem.W.nsIn K mainGlobals "dict" = some none)
    (z_set : PySem.W.nsIn K mainGlobals "set" = some none)
    (z_isinstance : PySem.W.nsIn K mainGlobals "isinstance" = some none)
    (z_bool : PySem.W.nsIn K mainGlobals "bool" = some none)
    (z_range : PySem.W.nsIn K mainGlobals "range" = some none)
    : ∃ T fe, (∀ base : Heap, (∃ o, base.get? sysModules = some o) → Whole Gm T nmS K mg base) ∧ T.fn F_law = some fe ∧ fe.adr = fa ∧ fe.ps = (["script"] : List Str) ∧ ∀ (s : Shared) (u : Value), BindsTo s fe.fd ⟨[u], []⟩ ([("script", u)] : List (PySem.Str × Value)) := by
  cases hfa.symm.trans (PySem.W.mg_of X G a18)
  have d0 := def_at0 (PySem.W.mg_of X G a0) l0 c0 k0 c_f_is_integer rfl fun us hl => match us, hl with | [_], _ => rfl
  have d1 := def_at0 (PySem.W.mg_of X G a1) l1 c1 k1 c_f_common_divisor rfl fun us hl => match us, hl with | [_, _], _ => rfl
  have d2 := def_at0 (PySem.W.mg_of X G a2) l2 c2 k2 c_f_lowest rfl fun us hl => match us, hl with | [_, _], _ => rfl
  have d3 := def_at0 (PySem.W.mg_of X G a3) l3 c3 k3 c_f_is_degree rfl fun us hl => match us, hl with | [_], _ => rfl
  have d4 := def_at0 (PySem.W.mg_of X G a4) l4 c4 k4 c_f_require_degree rfl fun us hl => match us, hl with | [_], _ => rfl
  have d5 := def_at0 (PySem.W.mg_of X G a5) l5 c5 k5 c_f_degree rfl fun us hl => match us, hl with | [_, _], _ => rfl
  have d6 := def_at0 (PySem.W.mg_of X G a6) l6 c6 k6 c_f_less rfl fun us hl => match us, hl with | [_, _], _ => rfl
  have d7 := def_at0 (PySem.W.mg_of X G a7) l7 c7 k7 c_f_at_most rfl fun us hl => match us, hl with | [_, _], _ => rfl
  have d8 := def_at0 (PySem.W.mg_of X G a8) l8 c8 k8 c_f__law_mixed rfl fun us hl => match us, hl with | [_, _], _ => rfl
  have d9 := def_at0 (PySem.W.mg_of X G a9) l9 c9 k9 c_f__law_purse rfl fun us hl => match us, hl with | [_, _], _ => rfl
  have d10 := def_at0 (PySem.W.mg_of X G a10) l10 c10 k10 c_f__law_draw rfl fun us hl => match us, hl with | [_, _], _ => rfl
  have d11 := def_at0 (PySem.W.mg_of X G a11) l11 c11 k11 c_f__law_great rfl fun us hl => match us, hl with | [_, _], _ => rfl
  have d12 := def_at0 (PySem.W.mg_of X G a12) l12 c12 k12 c_f__law_common rfl fun us hl => match us, hl with | [_, _], _ => rfl
  have d13 := def_at0 (PySem.W.mg_of X G a13) l13 c13 k13 c_f__law_lowest rfl fun us hl => match us, hl with | [_, _], _ => rfl
  have d14 := def_at0 (PySem.W.mg_of X G a14) l14 c14 k14 c_f__law_degree rfl fun us hl => match us, hl with | [_], _ => rfl
  have d15 := def_at0 (PySem.W.mg_of X G a15) l15 c15 k15 c_f__law_less rfl fun us hl => match us, hl with | [_, _], _ => rfl
  have d16 := def_at0 (PySem.W.mg_of X G a16) l16 c16 k16 c_f__law_caught rfl fun us hl => match us, hl with | [_, _, _], _ => rfl
  have d17 := def_at0 (PySem.W.mg_of X G a17) l17 c17 k17 c_f__law_right rfl fun us hl => match us, hl with | [_], _ => rfl
  have d18 := def_at0 (PySem.W.mg_of X G a18) l18 c18 k18 c_f_law rfl fun us hl => match us, hl with | [_], _ => rfl
  have D : Defs nmS K mg _ Gm.fn nmS.fn := .cons d0 (.cons d1 (.cons d2 (.cons d3 (.cons d4 (.cons d5 (.cons d6 (.cons d7 (.cons d8 (.cons d9 (.cons d10 (.cons d11 (.cons d12 (.cons d13 (.cons d14 (.cons d15 (.cons d16 (.cons d17 (.cons d18 .nil))))))))))))))))))
  have e0 : ExcAt K mg ⟨C0, "GradeError", []⟩ "GradeError" [] := ⟨rfl, PySem.W.mg_of X G xa0, rfl, fun h => absurd rfl h, xe0, xi0, xt0⟩
  have o1 : OexT K C1 (["thing"] : List Str) := ⟨⟨⟨nm1, q1, N1, bs1, _, sn1, sub1, ab1, col1, dd1, m01, m11, m21, m31, m51, xL1, by with_unfolding_all rfl⟩, xs1, xe1, xt1, xk1⟩, fun f hf => by
      simp only [List.mem_cons, List.not_mem_nil, or_false] at hf
      subst hf; exact xo1_0, xg1, xh1, xd1, by decide, by decide, by decide⟩
  have i1 : IniF K C1 (["thing"] : List Str) := ini_at xn1 xm1 xl1 xc1 c_X_InvalidDegree fun us hl => match us, hl with | [_, _], _ => rfl
  have e1 : ExcAt K mg ⟨C1, "InvalidDegree", (["thing"] : List Str)⟩ "InvalidDegree" (["thing"] : List Str) := ⟨rfl, PySem.W.mg_of X G xa1, rfl, fun _ => ⟨o1, i1⟩, xe1, xi1, xt1⟩
  have E : Excs K mg _ nmS.xc nmS.fl := .cons e0 (.cons e1 .nil)
  have F : Free mg := ⟨fun f => by cases f <;> exact PySem.W.mg_none_of X G (by assumption), PySem.W.mg_none_of X G z_isinstance, PySem.W.mg_none_of X G z_bool, PySem.W.mg_none_of X G z_range⟩
  refine ⟨tabOf _ _, _, fun base sy => whole_of D E F ?_ ?_ sy, rfl, rfl, rfl, fun s u => .of_eq rfl⟩
  · intro f m p ks hm fe hf s us ws hK hu hw
    simp only [nmS, List.mem_cons, List.not_mem_nil, or_false, Prod.mk.injEq] at hm
    rcases hm with ⟨rfl, rfl, rfl, rfl⟩ | ⟨rfl, rfl, rfl, rfl⟩ | ⟨rfl, rfl, rfl, rfl⟩
    · cases hf
      match us, ws, hu, hw with
      | [], [w0, w1], _, _ => exact ⟨_, rfl, rfl, .of_eq (by with_unfolding_all rfl)⟩
    · cases hf
      match us, ws, hu, hw with
      | [], [w0], _, _ => exact ⟨_, rfl, rfl, .of_eq (by with_unfolding_all rfl)⟩
    · cases hf
      match us, ws, hu, hw with
      | [], [w0, w1], _, _ => exact ⟨_, rfl, rfl, .of_eq (by with_unfolding_all rfl)⟩
  · intro c k xe ke l h1 h2 h3
    match c, k with
    | 0, 0 => cases h1; cases h2; cases h3; exact s0_0
    | 0, 1 => cases h1; cases h2; cases h3; exact s0_1
    | 1, 0 => cases h1; cases h2; cases h3; exact s1_0
    | 1, 1 => cases h1; cases h2; cases h3; exact s1_1
    | c + 2, _ => simp at h1
    | 0, k + 2 => simp at h2
    | 1, k + 2 => simp at h2
end G4

open PySem PySem.W PyProof.Rows
set_option maxRecDepth 100000 in
set_option maxHeartbeats 0 in
theorem PySem.Challenge.cw_gradetalk_k01_degrees_holds : PySem.Challenge.rw_gradetalk_k01_degrees.Holds := by
  w_on; o_law; k_head; (case hw => w_witness2)
  k_fill
  refine G4.walkG (l := PySem.Challenge.rw_gradetalk_k01_degrees) (Γ := G4.Gm) (nm := G4.nmS) (n := 200) (f := G4.F_law) (x := "script") rfl rfl (by decide +kernel) ⟨rfl, by decide, by decide⟩ (fun w h Y => PySem.W.kIn_of Y) ?F G4.law_ok
  case F =>
    intro w mg fa h KX G hmg
    refine' G4.all_of KX G hmg ?a0 ?l0 ?c0 ?k0 ?a1 ?l1 ?c1 ?k1 ?a2 ?l2 ?c2 ?k2 ?a3 ?l3 ?c3 ?k3 ?a4 ?l4 ?c4 ?k4 ?a5 ?l5 ?c5 ?k5 ?a6 ?l6 ?c6 ?k6 ?a7 ?l7 ?c7 ?k7 ?a8 ?l8 ?c8 ?k8 ?a9 ?l9 ?c9 ?k9 ?a10 ?l10 ?c10 ?k10 ?a11 ?l11 ?c11 ?k11 ?a12 ?l12 ?c12 ?k12 ?a13 ?l13 ?c13 ?k13 ?a14 ?l14 ?c14 ?k14 ?a15 ?l15 ?c15 ?k15 ?a16 ?l16 ?c16 ?k16 ?a17 ?l17 ?c17 ?k17 ?a18 ?l18 ?c18 ?k18 ?xa0 ?xe0 ?xi0 ?xt0 ?xa1 ?xe1 ?xi1 ?xt1 ?xL1 ?xs1 ?xg1 ?xh1 ?xn1 ?xm1 ?xl1 ?xc1 ?xk1 ?xd1 ?xo1_0 ?s0_0 ?s0_1 ?s1_0 ?s1_1 ?z_len ?z_abs ?z_int ?z_str ?z_list ?z_tuple ?z_max ?z_min ?z_sum ?z_sorted ?z_all ?z_dict ?z_set ?z_isinstance ?z_bool ?z_range
    (case a0 => k_is)
    (case l0 => k_is)
    (case c0 => k_is)
    (case k0 => k_is)
    (case a1 => k_is)
    (case l1 => k_is)
    (case c1 => k_is)
    (case k1 => k_is)
    (case a2 => k_is)
    (case l2 => k_is)
    (case c2 => k_is)
    (case k2 => k_is)
    (case a3 => k_is)
    (case l3 => k_is)
    (case c3 => k_is)
    (case k3 => k_is)
    (case a4 => k_is)
    (case l4 => k_is)
    (case c4 => k_is)
    (case k4 => k_is)
    (case a5 => k_is)
    (case l5 => k_is)
    (case c5 => k_is)
    (case k5 => k_is)
    (case a6 => k_is)
    (case l6 => k_is)
    (case c6 => k_is)
    (case k6 => k_is)
    (case a7 => k_is)
    (case l7 => k_is)
    (case c7 => k_is)
    (case k7 => k_is)
    (case a8 => k_is)
    (case l8 => k_is)
    (case c8 => k_is)
    (case k8 => k_is)
    (case a9 => k_is)
    (case l9 => k_is)
    (case c9 => k_is)
    (case k9 => k_is)
    (case a10 => k_is)
    (case l10 => k_is)
    (case c10 => k_is)
    (case k10 => k_is)
    (case a11 => k_is)
    (case l11 => k_is)
    (case c11 => k_is)
    (case k11 => k_is)
    (case a12 => k_is)
    (case l12 => k_is)
    (case c12 => k_is)
    (case k12 => k_is)
    (case a13 => k_is)
    (case l13 => k_is)
    (case c13 => k_is)
    (case k13 => k_is)
    (case a14 => k_is)
    (case l14 => k_is)
    (case c14 => k_is)
    (case k14 => k_is)
    (case a15 => k_is)
    (case l15 => k_is)
    (case c15 => k_is)
    (case k15 => k_is)
    (case a16 => k_is)
    (case l16 => k_is)
    (case c16 => k_is)
    (case k16 => k_is)
    (case a17 => k_is)
    (case l17 => k_is)
    (case c17 => k_is)
    (case k17 => k_is)
    (case a18 => k_is)
    (case l18 => k_is)
    (case c18 => k_is)
    (case k18 => k_is)
    (case xa0 => k_is)
    (case xe0 => k_is)
    (case xi0 => k_is)
    (case xt0 => k_is)
    (case xa1 => k_is)
    (case xe1 => k_is)
    (case xi1 => k_is)
    (case xt1 => k_is)
    (case xL1 => k_is)
    (case xs1 => k_is)
    (case xg1 => k_is)
    (case xh1 => k_is)
    (case xn1 => k_is)
    (case xm1 => k_is)
    (case xl1 => k_is)
    (case xc1 => k_is)
    (case xk1 => k_is)
    (case xd1 => k_is)
    (case xo1_0 => k_is)
    (case s0_0 => k_is)
    (case s0_1 => k_is)
    (case s1_0 => k_is)
    (case s1_1 => k_is)
    (case z_len => k_is)
    (case z_abs => k_is)
    (case z_int => k_is)
    (case z_str => k_is)
    (case z_list => k_is)
    (case z_tuple => k_is)
    (case z_max => k_is)
    (case z_min => k_is)
    (case z_sum => k_is)
    (case z_sorted => k_is)
    (case z_all => k_is)
    (case z_dict => k_is)
    (case z_set => k_is)
    (case z_isinstance => k_is)
    (case z_bool => k_is)
    (case z_range => k_is)
#print axioms PySem.Challenge.cw_gradetalk_k01_degrees_holds

