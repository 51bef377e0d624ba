import PyProof.Rows.All
import Wide.All
import OpenK.AllK
import Wide.FinOn
import HandS.ForMost
import HandS.ForExc
import HandS.Wide
import HandS.TupAny
import HandS.TupMul
import HandS.Style
import HandS.IsInst
import KE.KTupSum
import PyProof.ReprRoads
import HandS.ExcInit
import HandS.ExcField
import HandS.Defaults
import HandS.Flow
import HandS.Zip
import HandS.Iter
import HandS.NoneIn
import KE.GoesEnumKw
import PyProof.Rows.CallKwBuiltin
import HandS.TryMany
import HandS.HeadHook2
import HandS.Head0
import HandS.Head1
import HandS.Head2
import HandS.HeadEnd
import HandS.Ends
import HandS.EndBits
import PyProof.ReprLen
import PyProof.P3Eq
import HandS.Words
import KE.KStateDown
import HandS.More
import HandS.WordsExc
import PySem.Challenge.RW_partingfees_k51_fractions
set_option Elab.async false
set_option linter.all false
set_option autoImplicit false
set_option maxRecDepth 100000
namespace PV
open PySem
inductive D where
  | non | bl (b : Bool) | int (i : Int) | str (s : Str) | tup (xs : List D) | ref (i : Nat)
inductive MO where
  | lst (w : Bool) (xs : List D) | dct (kvs : List (D × D)) | ins (c : Nat) (fs : List (Str × D))
mutual
def D.imm : D → Bool
  | .tup xs => D.immL xs
  | .ref _ => false
  | .non => true
  | .bl _ => true
  | .int _ => true
  | .str _ => true
def D.immL : List D → Bool
  | [] => true
  | x :: r => x.imm && D.immL r
end
structure HS (b : List MO) where
  M : List MO
  lo : Nat
  ok : b.take lo <+: M
variable {b : List MO}
theorem pre_set {M : List MO} {lo : Nat} (h : b.take lo <+: M) (i : Nat) (o : MO) : b.take (min lo i) <+: M.set i o := by
  have h1 : b.take (min lo i) <+: M := (by
    have e : b.take (min lo i) = (b.take lo).take i := by rw [List.take_take, Nat.min_comm]
    rw [e]
    exact (List.take_prefix _ _).trans h)
  have h2 : (b.take (min lo i)).length ≤ i := by
    rw [List.length_take]; omega
  have e := List.prefix_iff_eq_take.mp h1
  rw [List.prefix_iff_eq_take]
  rw [List.take_set_of_le h2]
  exact e
def HS.alloc (s : HS b) (o : MO) : HS b := ⟨s.M ++ [o], s.lo, s.ok.trans (List.prefix_append _ _)⟩
def HS.set (s : HS b) (i : Nat) (o : MO) : HS b := ⟨s.M.set i o, min s.lo i, pre_set s.ok i o⟩
def HS.start (M : List MO) : HS M := ⟨M, M.length, by rw [List.take_length]; exact List.prefix_rfl⟩
inductive Out (b : List MO) (α : Type) where
  | ok (a : α) (s : HS b)
  | ex (c : Nat) (fs : List (Str × D)) (s : HS b)
abbrev R (b : List MO) (α : Type) := Option (Out b α)
def ret {α : Type} (a : α) (s : HS b) : R b α := some (.ok a s)
def bnd {α β : Type} (x : R b α) (f : α → HS b → R b β) : R b β := match x with
  | none => none
  | some (.ok a s) => f a s
  | some (.ex c fs s) => some (.ex c fs s)
def noX {α : Type} (x : R b α) : R b α := match x with
  | some (.ex _ _ _) => none
  | y => y
abbrev Env := List (Option D)
mutual
def deepW (f : Nat → Option PyData) : D → Option PyData
  | .non => some .none
  | .bl b => some (.bool b)
  | .int i => some (.int i)
  | .str x => some (.str x)
  | .tup xs => (deepWL f xs).map .tuple
  | .ref i => f i
def deepWL (f : Nat → Option PyData) : List D → Option (List PyData)
  | [] => some []
  | x :: r => match deepW f x, deepWL f r with
    | some a, some b => some (a :: b)
    | _, _ => none
end
def deepR (M : List MO) : Nat → Nat → Option PyData
  | 0, _ => none
  | n + 1, i => match M[i]? with
    | some (.lst _ xs) => (deepWL (deepR M n) xs).map .list
    | _ => none
def deep (M : List MO) (d : D) : Option PyData := deepW (deepR M 8) d
inductive B2 where
  | add | sub | mul | fdiv | mod | pow
inductive C2 where
  | eq | ne | lt | le | gt | ge | is | isn
inductive TyC where
  | int | bool | tuple | list | dict | str
def mulOk (i j : Int) : Bool := decide (i.natAbs.log2 + j.natAbs.log2 < 1000000) || decide (i.natAbs < 2 ^ 64) || decide (j.natAbs < 2 ^ 64)
def divOk (j : Int) : Bool := decide (j ≠ 0) && decide (j.natAbs.log2 < 9000)
def sizeOk (n : Nat) : Bool := decide (n ≤ sizeLine)
def bin (o : B2) (x y : D) (s : HS b) : R b D := match o with
  | .add => (match x, y with
    | .int i, .int j => ret (.int (i + j)) s
    | .str a, .str b => if sizeOk (a.length + b.length) then ret (.str (a ++ b)) s else none
    | .tup a, .tup b => if sizeOk (a.length + b.length) then ret (.tup (a ++ b)) s else none
    | .ref p, .ref q => (match s.M[p]?, s.M[q]? with
      | some (.lst true a), some (.lst true b) => if sizeOk (a.length + b.length) then ret (.ref s.M.length) (s.alloc (.lst true (a ++ b))) else none
      | _, _ => none)
    | _, _ => none)
  | .sub => (match x, y with
    | .int i, .int j => ret (.int (i - j)) s
    | _, _ => none)
  | .mul => (match x, y with
    | .int i, .int j => if mulOk i j then ret (.int (i * j)) s else none
    | .tup a, .int k => if !a.isEmpty && decide (0 ≤ k) && decide (k ≤ 1000) && decide (a.length ≤ 1000) then ret (.tup (List.replicate k.toNat a).flatten) s else none
    | _, _ => none)
  | .fdiv => (match x, y with
    | .int i, .int j => if divOk j then ret (.int (i.fdiv j)) s else none
    | _, _ => none)
  | .mod => (match x, y with
    | .int i, .int j => if decide (j ≠ 0) then ret (.int (i.fmod j)) s else none
    | _, _ => none)
  | .pow => (match x, y with
    | .int i, .int j => if decide (0 ≤ j) && decide (j ≤ 1000000) && decide (i.natAbs < 2 ^ 64) then ret (.int (i ^ j.toNat)) s else none
    | _, _ => none)
def eqD (M : List MO) (x y : D) : Option Bool := match deep M x, deep M y with
  | some a, some b => if SeqAt.shaped a && SeqAt.shaped b then some (PyData.eqv a b) else none
  | _, _ => none
def isD (x y : D) : Option Bool := match x, y with
  | .bl a, .bl b => some (decide (a = b))
  | .non, .non => some true
  | _, .non => some false
  | _, _ => none
def cmp (o : C2) (x y : D) (s : HS b) : R b D := match o with
  | .eq => (match eqD s.M x y with | some b => ret (.bl b) s | none => none)
  | .ne => (match eqD s.M x y with | some b => ret (.bl (!b)) s | none => none)
  | .lt => (match x, y with | .int i, .int j => ret (.bl (decide (i < j))) s | _, _ => none)
  | .le => (match x, y with | .int i, .int j => ret (.bl (decide (i ≤ j))) s | _, _ => none)
  | .gt => (match x, y with | .int i, .int j => ret (.bl (decide (j < i))) s | _, _ => none)
  | .ge => (match x, y with | .int i, .int j => ret (.bl (decide (j ≤ i))) s | _, _ => none)
  | .is => (match isD x y with | some b => ret (.bl b) s | none => none)
  | .isn => (match isD x y with | some b => ret (.bl (!b)) s | none => none)
def truth (M : List MO) : D → Option Bool
  | .non => some false
  | .bl b => some b
  | .int i => some (i != 0)
  | .str x => if sizeOk x.length then some (x.length != 0) else none
  | .tup xs => some (!xs.isEmpty)
  | .ref i => match M[i]? with
    | some (.lst _ xs) => some (!xs.isEmpty)
    | _ => none
def isTy (M : List MO) (t : TyC) : D → Option Bool
  | .non => some false
  | .bl _ => some (match t with | .int => true | .bool => true | _ => false)
  | .int _ => some (match t with | .int => true | _ => false)
  | .str _ => some (match t with | .str => true | _ => false)
  | .tup _ => some (match t with | .tuple => true | _ => false)
  | .ref i => match M[i]? with
    | some (.lst _ _) => some (match t with | .list => true | _ => false)
    | some (.dct _) => some (match t with | .dict => true | _ => false)
    | _ => none
def index (x y : D) (s : HS b) : R b D := match x, y with
  | .tup xs, .int i => (match L2.atI xs i with | some d => ret d s | none => none)
  | .ref p, .int i => (match s.M[p]? with
    | some (.lst _ xs) => (match L2.atI xs i with | some d => ret d s | none => none)
    | _ => none)
  | _, _ => none
def cutD (xs : List D) (lo hi : Option Int) : List D := (xs.drop (HT.sIx xs.length 0 lo)).take (HT.sIx xs.length xs.length hi - HT.sIx xs.length 0 lo)
def slice (x : D) (lo hi : Option Int) (s : HS b) : R b D := match x with
  | .tup xs => ret (.tup (cutD xs lo hi)) s
  | .ref p => (match s.M[p]? with
    | some (.lst _ xs) => ret (.ref s.M.length) (s.alloc (.lst true (cutD xs lo hi)))
    | _ => none)
  | _ => none
def asInts : List D → Option (List Int)
  | [] => some []
  | .int i :: r => (asInts r).map (i :: ·)
  | _ => none
def asBools : List D → Option (List Bool)
  | [] => some []
  | .bl i :: r => (asBools r).map (i :: ·)
  | _ => none
def items (M : List MO) : D → Option (List D)
  | .tup xs => some xs
  | .ref p => match M[p]? with
    | some (.lst _ xs) => some xs
    | _ => none
  | _ => none
inductive BI where
  | len | all | any | sum | tuple | list | int | max2 | min2 | repr | abs | isi (t : TyC)
def call (g : BI) (xs : List D) (s : HS b) : R b D := match g with
  | .len => (match xs with
    | [x] => (match items s.M x with | some ys => ret (.int ys.length) s | none => none)
    | _ => none)
  | .all => (match xs with
    | [.ref p] => (match s.M[p]? with
      | some (.lst _ ys) => (match asBools ys with | some bs => ret (.bl (bs.all id)) s | none => none)
      | _ => none)
    | _ => none)
  | .any => (match xs with
    | [.ref p] => (match s.M[p]? with
      | some (.lst _ ys) => (match asBools ys with | some bs => ret (.bl (bs.any id)) s | none => none)
      | _ => none)
    | _ => none)
  | .sum => (match xs with
    | [x] => (match items s.M x with
      | some ys => (match asInts ys with | some ns => ret (.int ns.sum) s | none => none)
      | none => none)
    | _ => none)
  | .tuple => (match xs with
    | [x] => (match items s.M x with | some ys => ret (.tup ys) s | none => none)
    | _ => none)
  | .list => (match xs with
    | [x] => (match items s.M x with | some ys => ret (.ref s.M.length) (s.alloc (.lst true ys)) | none => none)
    | _ => none)
  | .int => (match xs with
    | [.int i] => ret (.int i) s
    | [.bl b] => ret (.int (if b then 1 else 0)) s
    | _ => none)
  | .max2 => (match xs with
    | [.int i, .int j] => ret (.int (if j > i then j else i)) s
    | _ => none)
  | .min2 => (match xs with
    | [.int i, .int j] => ret (.int (if j < i then j else i)) s
    | _ => none)
  | .repr => (match xs with
    | [x] => (match deep s.M x with
      | some d => if d.showable && sizeOk d.shown.length && decide (d.depth ≤ 64) then ret (.str d.shown) s else none
      | none => (match x with
        | .ref p => (match s.M[p]? with
          | some (.dct []) => ret (.str "{}") s
          | _ => none)
        | _ => none))
    | _ => none)
  | .abs => (match xs with
    | [.int i] => ret (.int (if i < 0 then -i else i)) s
    | _ => none)
  | .isi t => (match xs with
    | [x] => (match isTy s.M t x with | some b => ret (.bl b) s | none => none)
    | _ => none)
inductive MT where
  | append
def mtOk (m : MT) (M : List MO) (x : D) : Bool := match m with
  | .append => (match x with
    | .ref p => (match M[p]? with
      | some (.lst true _) => true
      | _ => false)
    | _ => false)
def meth (m : MT) (x : D) (xs : List D) (s : HS b) : R b D := match m with
  | .append => (match x, xs with
    | .ref p, [v] => (match s.M[p]? with
      | some (.lst true ys) => if sizeOk (ys.length + 1) then ret .non (s.set p (.lst true (ys ++ [v]))) else none
      | _ => none)
    | _, _ => none)
inductive ITk where
  | val | range | range2 | zip | zipS
inductive Src where
  | its (xs : List D) | rng (lo : Int) (n : Nat) | live (p : Nat)
def Src.at (r : Src) (i : Nat) (s : HS b) : Option (Option D) := match r with
  | .its xs => some xs[i]?
  | .rng lo n => some (if i < n then some (.int (lo + i)) else none)
  | .live p => match s.M[p]? with
    | some (.lst _ xs) => some xs[i]?
    | _ => none
def src (k : ITk) (M : List MO) (xs : List D) : Option Src := match k with
  | .val => (match xs with
    | [.tup ys] => some (.its ys)
    | [.ref p] => (match M[p]? with
      | some (.lst _ _) => some (.live p)
      | _ => none)
    | _ => none)
  | .range => (match xs with
    | [.int n] => if decide (-(2 ^ 62) ≤ n) && decide (n < 2 ^ 62) then some (.rng 0 n.toNat) else none
    | _ => none)
  | .range2 => (match xs with
    | [.int a, .int b] => if decide (-(2 ^ 62) ≤ a) && decide (a < 2 ^ 62) && decide (-(2 ^ 62) ≤ b) && decide (b < 2 ^ 62) then some (.rng a (b - a).toNat) else none
    | _ => none)
  | .zip => (match xs with
    | [.tup a, .tup b] => some (.its (List.zipWith (fun x y => .tup [x, y]) a b))
    | _ => none)
  | .zipS => (match xs with
    | [.tup a, .tup b] => if a.length = b.length then some (.its (List.zipWith (fun x y => .tup [x, y]) a b)) else none
    | _ => none)
def srcR (k : ITk) (xs : List D) (s : HS b) : R b Src := match src k s.M xs with
  | none => none
  | some r => ret r s
inductive Tg where
  | nm (i : Nat) | tp (is : List Nat)
def setAll : List Nat → List D → Env → Option Env
  | [], [], e => some e
  | i :: is, d :: ds, e => setAll is ds (e.set i (some d))
  | _, _, _ => none
def Tg.slots : Tg → List Nat
  | .nm i => [i]
  | .tp is => is
def Tg.bind (t : Tg) (d : D) (e : Env) : Option Env := match t with
  | .nm i => some (e.set i (some d))
  | .tp is => match d with
    | .tup ds => setAll is ds e
    | _ => none
def Tg.bindM (t : Tg) (M : List MO) (d : D) (e : Env) : Option Env := match t with
  | .nm i => some (e.set i (some d))
  | .tp is => match d with
    | .tup ds => setAll is ds e
    | .ref p => (match M[p]? with
      | some (.lst _ ds) => setAll is ds e
      | _ => none)
    | _ => none
def wipeE (e : Env) : List Nat → Env
  | [] => e
  | v :: vs => (wipeE e vs).set v none
structure ArI where
  pn : List Str
  np : Nat
  dfl : List (Str × D)
def arrB (a : ArI) (n : Nat) (ks : List Str) : Bool := decide (n ≤ a.np) && decide ks.Nodup && (ks.all fun k => a.pn.contains k) && (ks.all fun k => !(a.pn.take n).contains k)
def arrV {α : Type} (pn : List Str) (kv : List (Str × α)) : List Str → Option (List α)
  | [] => some []
  | n :: r => match kv.lookup n, arrV pn kv r with
    | some d, some ds => some (d :: ds)
    | _, _ => none
def arr (a : ArI) (xs : List D) (ks : List Str) (ys : List D) : Option (List D) :=
  if arrB a xs.length ks && decide (ys.length = ks.length) then arrV a.pn (a.pn.zip xs ++ ks.zip ys ++ a.dfl) a.pn else none
inductive CE where
  | cst (d : D)
  | var (i : Nat)
  | glb (x : Str) (i : Int)
  | bin (o : B2) (a b : CE)
  | neg (a : CE)
  | cmp (o : C2) (a b : CE)
  | chn (o o2 : C2) (a b c : CE)
  | ands (es : List CE)
  | ors (es : List CE)
  | nt (a : CE)
  | ite (c a b : CE)
  | tup (es : List CE)
  | lst (es : List CE)
  | dct0
  | call (f : Nat) (es : List CE)
  | callk (f : Nat) (es : List CE) (ks : List Str) (kes : List CE)
  | bi (b : BI) (es : List CE)
  | mt (m : MT) (o : CE) (es : List CE)
  | idx (a b : CE)
  | slc (a : CE) (lo hi : Option CE)
  | lc (tg : Tg) (k : ITk) (src : List CE) (ifs : List CE) (elt : CE) (own : List Nat)
  | excf (i : Nat) (f : Str)
  | exci (i : Nat) (x : Str)
mutual
inductive CS where
  | exp (e : CE)
  | ret (e : CE)
  | set (t : Tg) (e : CE)
  | par (is : List Nat) (es : List CE)
  | aug (i : Nat) (o : B2) (e : CE)
  | sub (o i e : CE)
  | ite (c : CE) (a b : List CS)
  | for_ (tg : Tg) (k : ITk) (src : List CE) (body : List CS)
  | while_ (c : CE) (body : List CS)
  | raise (c : Nat) (es : List CE)
  | try_ (body : List CS) (hs : List CH)
  | pass
inductive CH where
  | mk (x : Str) (i : Option Nat) (suite : List CS)
end
structure Ev where
  cf : {b : List MO} → Nat → List D → HS b → R b D
  fu : Nat
  flds : Nat → List Str
  isx : Nat → Str → Bool
  mt : Nat → Str → Option Bool
  ar : Nat → Option ArI
abbrev Cur := Option (Nat × Nat × List (Str × D))
def lcL (at_ : Nat → HS b → Option (Option D)) (turn : D → HS b → R b (Option D)) : Nat → Nat → List D → HS b → R b (List D)
  | 0, _, _, _ => none
  | n + 1, i, acc, s => match at_ i s with
    | none => none
    | some none => ret acc s
    | some (some d) => bnd (turn d s) fun r s1 => match r with
      | some y => lcL at_ turn n (i + 1) (acc ++ [y]) s1
      | none => lcL at_ turn n (i + 1) acc s1
mutual
def evE (P : Ev) (X : Cur) : CE → Env → HS b → R b D
  | .cst d, _, s => ret d s
  | .var i, e, s => (match e[i]? with
    | some (some d) => ret d s
    | _ => none)
  | .glb _ i, _, s => ret (.int i) s
  | .bin o a b, e, s => bnd (evE P X a e s) fun x s1 => bnd (evE P X b e s1) fun y s2 => bin o x y s2
  | .neg a, e, s => bnd (evE P X a e s) fun x s1 => (match x with
    | .int i => ret (.int (-i)) s1
    | _ => none)
  | .cmp o a b, e, s => bnd (evE P X a e s) fun x s1 => bnd (evE P X b e s1) fun y s2 => cmp o x y s2
  | .chn o o2 a b c, e, s => bnd (evE P X a e s) fun x s1 => bnd (evE P X b e s1) fun y s2 => bnd (cmp o x y s2) fun z s3 => (match z with
    | .bl true => bnd (evE P X c e s3) fun w s4 => cmp o2 y w s4
    | .bl false => ret (.bl false) s3
    | _ => none)
  | .ands es, e, s => evAnd P X es e s
  | .ors es, e, s => evOr P X es e s
  | .nt a, e, s => bnd (evE P X a e s) fun x s1 => (match truth s1.M x with
    | some b => ret (.bl (!b)) s1
    | none => none)
  | .ite c a b, e, s => bnd (evE P X c e s) fun x s1 => (match truth s1.M x with
    | some true => evE P X a e s1
    | some false => evE P X b e s1
    | none => none)
  | .tup es, e, s => bnd (evL P X es e s) fun xs s1 => if sizeOk xs.length then ret (.tup xs) s1 else none
  | .lst es, e, s => bnd (evL P X es e s) fun xs s1 => if sizeOk xs.length then ret (.ref s1.M.length) (s1.alloc (.lst true xs)) else none
  | .dct0, _, s => ret (.ref s.M.length) (s.alloc (.dct []))
  | .call f es, e, s => bnd (evL P X es e s) fun xs s1 => P.cf f xs s1
  | .callk f es ks kes, e, s => (match P.ar f with
    | some a => bnd (evL P X es e s) fun xs s1 => bnd (evL P X kes e s1) fun ys s2 => (match arr a xs ks ys with
      | some zs => P.cf f zs s2
      | none => none)
    | none => none)
  | .bi b es, e, s => bnd (evL P X es e s) fun xs s1 => PV.call b xs s1
  | .mt m o es, e, s => bnd (evE P X o e s) fun x s1 => if mtOk m s1.M x then bnd (evL P X es e s1) fun xs s2 => meth m x xs s2 else none
  | .idx a b, e, s => bnd (evE P X a e s) fun x s1 => bnd (evE P X b e s1) fun y s2 => index x y s2
  | .slc a lo hi, e, s => bnd (evE P X a e s) fun x s1 => bnd (evO P X lo e s1) fun l s2 => bnd (evO P X hi e s2) fun h s3 => slice x l h s3
  | .lc tg k sr ifs elt own, e, s => bnd (bnd (evL P X sr e s) fun xs s1 => srcR k xs s1) fun r s1 => bnd (lcL r.at (fun d s2 => noX (match tg.bind d (wipeE e own) with
        | none => none
        | some e1 => bnd (evIf P none ifs e1 s2) fun b s3 => if b then bnd (evE P none elt e1 s3) fun y s4 => ret (some y) s4 else ret none s3)) P.fu 0 [] s1)
        fun ys s2 => ret (.ref s2.M.length) (s2.alloc (.lst true ys))
  | .excf i f, e, s => (match X with
    | some (j, c, fs) => if i = j ∧ f ∈ P.flds c then (match e[i]? with
      | some none => (match fs.lookup f with | some d => ret d s | none => none)
      | _ => none) else none
    | none => none)
  | .exci i x, e, s => (match X with
    | some (j, c, _) => if i = j then (match e[i]? with
      | some none => if P.isx c x then ret (.bl true) s else none
      | _ => none) else none
    | none => none)
def evL (P : Ev) (X : Cur) : List CE → Env → HS b → R b (List D)
  | [], _, s => ret [] s
  | a :: r, e, s => bnd (evE P X a e s) fun x s1 => bnd (evL P X r e s1) fun xs s2 => ret (x :: xs) s2
def evO (P : Ev) (X : Cur) : Option CE → Env → HS b → R b (Option Int)
  | none, _, s => ret none s
  | some a, e, s => bnd (evE P X a e s) fun x s1 => (match x with
    | .int i => ret (some i) s1
    | _ => none)
def evAnd (P : Ev) (X : Cur) : List CE → Env → HS b → R b D
  | [], _, _ => none
  | a :: r, e, s => bnd (evE P X a e s) fun x s1 => (match r with
    | [] => ret x s1
    | _ :: _ => (match truth s1.M x with
      | some true => evAnd P X r e s1
      | some false => ret x s1
      | none => none))
def evOr (P : Ev) (X : Cur) : List CE → Env → HS b → R b D
  | [], _, _ => none
  | a :: r, e, s => bnd (evE P X a e s) fun x s1 => (match r with
    | [] => ret x s1
    | _ :: _ => (match truth s1.M x with
      | some true => ret x s1
      | some false => evOr P X r e s1
      | none => none))
def evIf (P : Ev) (X : Cur) : List CE → Env → HS b → R b Bool
  | [], _, s => ret true s
  | [c], e, s => bnd (evE P X c e s) fun x s1 => (match truth s1.M x with
    | some b => ret b s1
    | none => none)
  | _ :: _ :: _, _, _ => none
end
inductive SR (b : List MO) where
  | nx (e : Env) (s : HS b)
  | rt (d : D) (s : HS b)
  | ex (c : Nat) (fs : List (Str × D)) (e : Env) (s : HS b)
def lft {α : Type} (e : Env) (x : R b α) (f : α → HS b → Option (SR b)) : Option (SR b) := match x with
  | none => none
  | some (.ok a s) => f a s
  | some (.ex c fs s) => some (.ex c fs e s)
def sq (x : Option (SR b)) (f : Env → HS b → Option (SR b)) : Option (SR b) := match x with
  | some (.nx e s) => f e s
  | y => y
def forL (at_ : Nat → HS b → Option (Option D)) (turn : D → Env → HS b → Option (SR b)) : Nat → Nat → Env → HS b → Option (SR b)
  | 0, _, _, _ => none
  | n + 1, i, e, s => match at_ i s with
    | none => none
    | some none => some (.nx e s)
    | some (some d) => sq (turn d e s) fun e1 s1 => forL at_ turn n (i + 1) e1 s1
def whL (c : Env → HS b → R b Bool) (body : Env → HS b → Option (SR b)) : Nat → Env → HS b → Option (SR b)
  | 0, _, _ => none
  | n + 1, e, s => lft e (c e s) fun b s1 => if b then sq (body e s1) fun e2 s2 => whL c body n e2 s2 else some (.nx e s1)
def tst (x : R b D) : R b Bool := bnd x fun d s => match truth s.M d with
  | some b => ret b s
  | none => none
def setItem (o i v : D) (s : HS b) : Option (HS b) := match o, i with
  | .ref p, .int k => (match s.M[p]? with
    | some (.lst true xs) => (match L2.ixN xs.length k with
      | some j => some (s.set p (.lst true (xs.set j v)))
      | none => none)
    | _ => none)
  | _, _ => none
mutual
def exS (P : Ev) (X : Cur) : CS → Env → HS b → Option (SR b)
  | .exp a, e, s => lft e (evE P X a e s) fun _ s1 => some (.nx e s1)
  | .ret a, e, s => lft e (evE P X a e s) fun d s1 => some (.rt d s1)
  | .set t a, e, s => lft e (evE P X a e s) fun d s1 => (match t.bindM s1.M d e with
    | some e1 => some (.nx e1 s1)
    | none => none)
  | .par is es, e, s => lft e (evL P X es e s) fun ds s1 => (match setAll is ds e with
    | some e1 => some (.nx e1 s1)
    | none => none)
  | .aug i o a, e, s => (match e[i]? with
    | some (some x) => lft e (evE P X a e s) fun y s1 => (match x, y with
      | .int _, .int _ => lft e (bin o x y s1) fun z s2 => some (.nx (e.set i (some z)) s2)
      | _, _ => none)
    | _ => none)
  | .sub o i a, e, s => lft e (evE P X a e s) fun v s1 => lft e (evE P X o e s1) fun x s2 => lft e (evE P X i e s2) fun y s3 => (match setItem x y v s3 with
    | some s4 => some (.nx e s4)
    | none => none)
  | .ite c a b, e, s => lft e (tst (evE P X c e s)) fun t s1 => if t then exB P X a e s1 else exB P X b e s1
  | .for_ tg k sr body, e, s => lft e (bnd (evL P X sr e s) fun xs s1 => srcR k xs s1) fun r s1 => forL r.at (fun d e1 s2 => (match tg.bind d e1 with
        | none => none
        | some e2 => exB P X body e2 s2)) P.fu 0 e s1
  | .while_ c body, e, s => whL (fun e1 s1 => tst (evE P X c e1 s1)) (fun e1 s1 => exB P X body e1 s1) P.fu e s
  | .raise c es, e, s => lft e (evL P X es e s) fun ds s1 => if decide (ds.length = (P.flds c).length) then some (.ex c ((P.flds c).zip ds) e s1) else none
  | .try_ body hs, e, s => (match exB P X body e s with
    | some (.ex c1 fs e1 s1) => exH P c1 fs hs e1 s1
    | y => y)
  | .pass, e, s => some (.nx e s)
def exB (P : Ev) (X : Cur) : List CS → Env → HS b → Option (SR b)
  | [], e, s => some (.nx e s)
  | a :: r, e, s => sq (exS P X a e s) fun e1 s1 => exB P X r e1 s1
def exH (P : Ev) (c : Nat) (fs : List (Str × D)) : List CH → Env → HS b → Option (SR b)
  | [], e, s => some (.ex c fs e s)
  | .mk x i suite :: r, e, s => (match P.mt c x with
    | some true => (match i with
      | some j => (match exB P (some (j, c, fs)) suite (e.set j none) s with
        | some (.nx e2 s2) => some (.nx (e2.set j none) s2)
        | some (.rt d s2) => some (.rt d s2)
        | _ => none)
      | none => (match exB P none suite e s with
        | some (.nx e2 s2) => some (.nx e2 s2)
        | some (.rt d s2) => some (.rt d s2)
        | _ => none))
    | some false => exH P c fs r e s
    | none => none)
end
def pull (n : Nat) (M : List MO) (d : D) : Option (D × List MO) := match d with
  | .ref p => if p < n then none else (match M[p]? with
    | some (.lst true xs) => if D.immL xs then some (.ref n, [.lst true xs]) else none
    | _ => none)
  | d => if d.imm then some (d, []) else none
def HS.grow (s : HS b) (x : List MO) : HS b := ⟨s.M ++ x, s.lo, s.ok.trans (List.prefix_append _ _)⟩
theorem take_pre {x y : List MO} (h : x <+: y) (n : Nat) : x.take n <+: y.take n := by
  obtain ⟨t, rfl⟩ := h
  rw [List.take_append]
  exact List.prefix_append _ _
theorem back_ok (s : HS b) (s1 : HS s.M) : b.take (min s.lo s1.lo) <+: s1.M := by
  have e : b.take (min s.lo s1.lo) = (b.take s.lo).take s1.lo := by rw [List.take_take, Nat.min_comm]
  rw [e]
  exact (take_pre s.ok s1.lo).trans s1.ok
def HS.back (s : HS b) (s1 : HS s.M) : HS b := ⟨s1.M, min s.lo s1.lo, back_ok s s1⟩
def fin (s : HS b) (d : D) (s1 : HS s.M) : R b D :=
  if s1.lo = s.M.length then (match pull s.M.length s1.M d with
    | some (d', x) => ret d' (s.grow x)
    | none => ret d (s.back s1)) else ret d (s.back s1)
def finish (s : HS b) (r : Option (SR s.M)) : R b D := match r with
  | none => none
  | some (.nx _ s1) => fin s .non s1
  | some (.rt d s1) => fin s d s1
  | some (.ex c fs _ s1) => some (.ex c fs (s.back s1))
structure Fd where
  ps : Nat
  n : Nat
  body : List CS
structure Pg where
  tb : Nat → Option Fd
  fu : Nat
  flds : Nat → List Str
  isx : Nat → Str → Bool
  mt : Nat → Str → Option Bool
  ar : Nat → Option ArI
def callF (p : Pg) : Nat → {b : List MO} → Nat → List D → HS b → R b D
  | 0, _, _, _, _ => none
  | k + 1, _, f, xs, s => match p.tb f with
    | none => none
    | some d => if xs.length = d.ps then finish s (exB ⟨fun {_} => callF p k, p.fu, p.flds, p.isx, p.mt, p.ar⟩ none d.body (xs.map some ++ List.replicate (d.n - xs.length) none) (HS.start s.M)) else none
end PV
set_option Elab.async false
set_option linter.all false
set_option autoImplicit false
set_option maxRecDepth 100000
set_option maxHeartbeats 1000000
namespace PV
open PySem PySem.Spec PyProof.Rows L2
def Stb : HO → Bool
  | .tup _ => true
  | .frz _ _ => true
  | .xd _ => true
  | _ => false
def Ext (H H' : Hp) : Prop := ∀ a u, Stb u = true → H a = some u → H' a = some u
theorem Ext.refl (H : Hp) : Ext H H := fun _ _ _ h => h
theorem Ext.trans {H H1 H2 : Hp} (a : Ext H H1) (b : Ext H1 H2) : Ext H H2 := fun c u s h => b c u s (a c u s h)
theorem Ext.same {H H' : Hp} (h : Same H H') : Ext H H' := fun a u _ e => h a u e
theorem Same.new {H : Hp} {p : Addr} {o : HO} (h : H p = none) : Same H (upd H p o) := fun b u e => by
  rw [upd_ne (ne_of_none e h)]; exact e
theorem Ext.new {H : Hp} {p : Addr} {o : HO} (h : H p = none) : Ext H (upd H p o) := Ext.same (Same.new h)
theorem Ext.upd {H : Hp} {p : Addr} {o u : HO} (h : H p = some o) (n : Stb o = false) : Ext H (upd H p u) := fun a w s e => by
  have ne : a ≠ p := fun z => by
    subst z; rw [h] at e; cases e; rw [n] at s; cases s
  rw [upd_ne ne]; exact e
theorem Ext.sqT {K : PySem.W.Frag} {H H' : Hp} (x : Ext H H') {a : Addr} {xs : List V} (h : SqT K H a xs) : SqT K H' a xs := by
  rcases h with (h | ⟨o, h⟩) | h
  · exact .inl (.inl (x _ _ rfl h))
  · exact .inl (.inr ⟨o, x _ _ rfl h⟩)
  · exact .inr h
def Fz (K : PySem.W.Frag) (H : Hp) (a : Addr) (xs : List V) : Prop :=
  (∃ o, H a = some (.frz o (.lst xs))) ∨ ∃ (o : Obj) (its : Array Value) (n : Nat), K.lookup a = some o ∧ o.cls = .type "list" ∧ o.dict = none ∧ o.data = .seq its n ∧ its.size ≤ sizeLine ∧ Vals xs its.toList
theorem Fz.sq {K : PySem.W.Frag} {H : Hp} {a : Addr} {xs : List V} (h : Fz K H a xs) : SqL K H a xs := by
  rcases h with h | h
  · exact .inl (.inr h)
  · exact .inr h
theorem Ext.fz {K : PySem.W.Frag} {H H' : Hp} (x : Ext H H') {a : Addr} {xs : List V} (h : Fz K H a xs) : Fz K H' a xs := by
  rcases h with ⟨o, h⟩ | h
  · exact .inl ⟨o, x _ _ rfl h⟩
  · exact .inr h
abbrev RA := List (Addr × Bool)
mutual
def Rep (K : PySem.W.Frag) (r : RA) (H : Hp) : D → V → Prop
  | .non, v => v = .non
  | .bl x, v => v = .bl x
  | .int i, v => v = .int i
  | .str x, v => v = .str x
  | .tup xs, v => ∃ a vs, v = .ref a ∧ SqT K H a vs ∧ RepL K r H xs vs
  | .ref i, v => ∃ a w, r[i]? = some (a, w) ∧ v = .ref a
def RepL (K : PySem.W.Frag) (r : RA) (H : Hp) : List D → List V → Prop
  | [], vs => vs = []
  | x :: xs, vs => ∃ v vr, vs = v :: vr ∧ Rep K r H x v ∧ RepL K r H xs vr
end
section
variable {K : PySem.W.Frag} {r r' : RA} {H H' : Hp}
theorem RepL.length : ∀ {xs : List D} {vs : List V}, RepL K r H xs vs → vs.length = xs.length
  | [], vs, h => by rw [show vs = [] from h]; rfl
  | x :: xs, vs, h => by
    obtain ⟨v, vr, rfl, _, t⟩ := h
    simp [RepL.length t]
theorem RepL.get : ∀ {xs : List D} {vs : List V} {i : Nat} {x : D}, RepL K r H xs vs → xs[i]? = some x → ∃ v, vs[i]? = some v ∧ Rep K r H x v
  | [], _, _, _, _, e => by simp at e
  | y :: xs, vs, 0, x, h, e => by
    obtain ⟨v, vr, rfl, h1, _⟩ := h
    have e' : y = x := by simpa using e
    subst e'
    exact ⟨v, rfl, h1⟩
  | y :: xs, vs, i + 1, x, h, e => by
    obtain ⟨v, vr, rfl, _, t⟩ := h
    obtain ⟨w, e1, e2⟩ := RepL.get (i := i) t (by simpa using e)
    exact ⟨w, by simpa using e1, e2⟩
theorem RepL.app : ∀ {xs ys : List D} {vs ws : List V}, RepL K r H xs vs → RepL K r H ys ws → RepL K r H (xs ++ ys) (vs ++ ws)
  | [], _, vs, ws, h, h' => by
    rw [show vs = [] from h]
    exact h'
  | x :: xs, ys, vs, ws, h, h' => by
    obtain ⟨v, vr, rfl, h1, t⟩ := h
    exact ⟨v, vr ++ ws, rfl, h1, RepL.app t h'⟩
theorem RepL.take : ∀ {xs : List D} {vs : List V} (n : Nat), RepL K r H xs vs → RepL K r H (xs.take n) (vs.take n)
  | _, _, 0, _ => rfl
  | [], vs, n + 1, h => by rw [show vs = [] from h]; rfl
  | x :: xs, vs, n + 1, h => by
    obtain ⟨v, vr, rfl, h1, t⟩ := h
    exact ⟨v, vr.take n, rfl, h1, RepL.take n t⟩
theorem RepL.drop : ∀ {xs : List D} {vs : List V} (n : Nat), RepL K r H xs vs → RepL K r H (xs.drop n) (vs.drop n)
  | _, _, 0, h => h
  | [], vs, n + 1, h => by rw [show vs = [] from h]; rfl
  | x :: xs, vs, n + 1, h => by
    obtain ⟨v, vr, rfl, h1, t⟩ := h
    exact RepL.drop n t
theorem RepL.set : ∀ {xs : List D} {vs : List V} (i : Nat) {x : D} {v : V}, RepL K r H xs vs → Rep K r H x v → RepL K r H (xs.set i x) (vs.set i v)
  | [], vs, i, _, _, h, _ => by rw [show vs = [] from h]; rfl
  | y :: xs, vs, 0, x, v, h, q => by
    obtain ⟨w, vr, rfl, h1, t⟩ := h
    exact ⟨v, vr, rfl, q, t⟩
  | y :: xs, vs, i + 1, x, v, h, q => by
    obtain ⟨w, vr, rfl, h1, t⟩ := h
    exact ⟨w, vr.set i v, rfl, h1, RepL.set i t q⟩
theorem RepL.rep {xs : List D} {vs : List V} (h : RepL K r H xs vs) : ∀ n : Nat, RepL K r H (List.replicate n xs).flatten (List.replicate n vs).flatten
  | 0 => rfl
  | n + 1 => by
    rw [List.replicate_succ, List.replicate_succ, List.flatten_cons, List.flatten_cons]
    exact h.app (RepL.rep h n)
theorem RepL.ints : ∀ {xs : List D} {vs : List V} {ns : List Int}, RepL K r H xs vs → asInts xs = some ns → vs = ns.map V.int
  | [], vs, ns, h, e => by
    rw [show vs = [] from h]
    cases e
    rfl
  | .int i :: xs, vs, ns, h, e => by
    obtain ⟨v, vr, rfl, h1, t⟩ := h
    rw [show v = .int i from h1]
    unfold asInts at e
    cases q : asInts xs with
    | none => rw [q] at e; cases e
    | some ms =>
      rw [q] at e
      cases e
      rw [RepL.ints t q]
      rfl
  | .non :: _, _, _, _, e => by cases e
  | .bl _ :: _, _, _, _, e => by cases e
  | .str _ :: _, _, _, _, e => by cases e
  | .tup _ :: _, _, _, _, e => by cases e
  | .ref _ :: _, _, _, _, e => by cases e
theorem RepL.bools : ∀ {xs : List D} {vs : List V} {ns : List Bool}, RepL K r H xs vs → asBools xs = some ns → vs = ns.map V.bl
  | [], vs, ns, h, e => by
    rw [show vs = [] from h]
    cases e
    rfl
  | .bl i :: xs, vs, ns, h, e => by
    obtain ⟨v, vr, rfl, h1, t⟩ := h
    rw [show v = .bl i from h1]
    unfold asBools at e
    cases q : asBools xs with
    | none => rw [q] at e; cases e
    | some ms =>
      rw [q] at e
      cases e
      rw [RepL.bools t q]
      rfl
  | .non :: _, _, _, _, e => by cases e
  | .int _ :: _, _, _, _, e => by cases e
  | .str _ :: _, _, _, _, e => by cases e
  | .tup _ :: _, _, _, _, e => by cases e
  | .ref _ :: _, _, _, _, e => by cases e
mutual
theorem Rep.mono (hp : r <+: r') (hx : Ext H H') : ∀ (d : D) (v : V), Rep K r H d v → Rep K r' H' d v
  | .non, _, h => h
  | .bl _, _, h => h
  | .int _, _, h => h
  | .str _, _, h => h
  | .tup xs, v, h => by
    obtain ⟨a, vs, e, q, t⟩ := h
    exact ⟨a, vs, e, hx.sqT q, RepL.mono hp hx xs vs t⟩
  | .ref i, v, h => by
    obtain ⟨a, w, e, q⟩ := h
    obtain ⟨t, rfl⟩ := hp
    refine ⟨a, w, ?_, q⟩
    rw [List.getElem?_append_left (List.getElem?_eq_some_iff.mp e).1]
    exact e
theorem RepL.mono (hp : r <+: r') (hx : Ext H H') : ∀ (ds : List D) (vs : List V), RepL K r H ds vs → RepL K r' H' ds vs
  | [], _, h => h
  | x :: xs, vs, h => by
    obtain ⟨v, vr, e, h1, t⟩ := h
    exact ⟨v, vr, e, Rep.mono hp hx x v h1, RepL.mono hp hx xs vr t⟩
end
mutual
theorem Rep.imm (hx : Ext H H') : ∀ (d : D) (v : V), d.imm = true → Rep K r H d v → Rep K r' H' d v
  | .non, _, _, h => h
  | .bl _, _, _, h => h
  | .int _, _, _, h => h
  | .str _, _, _, h => h
  | .tup xs, v, i, h => by
    obtain ⟨a, vs, e, q, t⟩ := h
    exact ⟨a, vs, e, hx.sqT q, RepL.imm hx xs vs (by simpa [D.imm] using i) t⟩
  | .ref i, v, n, h => by simp [D.imm] at n
theorem RepL.imm (hx : Ext H H') : ∀ (ds : List D) (vs : List V), D.immL ds = true → RepL K r H ds vs → RepL K r' H' ds vs
  | [], _, _, h => h
  | x :: xs, vs, i, h => by
    obtain ⟨v, vr, e, h1, t⟩ := h
    have i' : x.imm = true ∧ D.immL xs = true := by simpa [D.immL] using i
    exact ⟨v, vr, e, Rep.imm hx x v i'.1 h1, RepL.imm hx xs vr i'.2 t⟩
end
end
def RO (K : PySem.W.Frag) (r : RA) (H : Hp) (a : Addr) : MO → Prop
  | .lst true xs => ∃ vs, H a = some (.lst vs) ∧ RepL K r H xs vs
  | .lst false xs => ∃ vs, Fz K H a vs ∧ RepL K r H xs vs
  | .dct kvs => kvs = [] ∧ H a = some (.dK [])
  | .ins _ _ => False
def MO.wr : MO → Bool
  | .lst false _ => false
  | _ => true
structure Rel (K : PySem.W.Frag) (r : RA) (M : List MO) (H : Hp) : Prop where
  len : r.length = M.length
  nd : ∀ (i j : Nat) (a : Addr), r[i]? = some (a, true) → r[j]? = some (a, true) → i = j
  obj : ∀ (i : Nat) (o : MO) (a : Addr) (w : Bool), M[i]? = some o → r[i]? = some (a, w) → w = o.wr ∧ RO K r H a o
theorem wr_some {K : PySem.W.Frag} {r : RA} {H : Hp} {a : Addr} {o : MO} (h : RO K r H a o) (w : o.wr = true) : ∃ u, H a = some u ∧ Stb u = false := by
  cases o with
  | lst w' xs =>
    cases w' with
    | true => obtain ⟨vs, e, _⟩ := h; exact ⟨_, e, rfl⟩
    | false => cases w
  | dct kvs => obtain ⟨_, e⟩ := h; exact ⟨_, e, rfl⟩
  | ins c fs => exact h.elim
section
variable {K : PySem.W.Frag} {r r' : RA} {H H' : Hp} {M : List MO}
theorem RO.mono {a : Addr} {o : MO} (hp : r <+: r') (hx : Ext H H') (ha : o.wr = true → H' a = H a) (h : RO K r H a o) : RO K r' H' a o := by
  cases o with
  | lst w xs =>
    cases w with
    | true =>
      obtain ⟨vs, e, t⟩ := h
      exact ⟨vs, by rw [ha rfl]; exact e, RepL.mono hp hx xs vs t⟩
    | false =>
      obtain ⟨vs, e, t⟩ := h
      exact ⟨vs, hx.fz e, RepL.mono hp hx xs vs t⟩
  | dct kvs =>
    obtain ⟨z, e⟩ := h
    exact ⟨z, by rw [ha rfl]; exact e⟩
  | ins c fs => exact h
theorem Rel.ob (R : Rel K r M H) {i : Nat} {o : MO} {a : Addr} {w : Bool} (e : M[i]? = some o) (q : r[i]? = some (a, w)) : RO K r H a o := (R.obj i o a w e q).2
theorem Rel.objOf (R : Rel K r M H) {i : Nat} {a : Addr} {w : Bool} (q : r[i]? = some (a, w)) : ∃ o, M[i]? = some o := by
  have hi : i < M.length := by rw [← R.len]; exact (List.getElem?_eq_some_iff.mp q).1
  exact ⟨M[i], by simp [hi]⟩
theorem Rel.live (R : Rel K r M H) {i : Nat} {a : Addr} (q : r[i]? = some (a, true)) : ∃ u, H a = some u ∧ Stb u = false := by
  obtain ⟨o, e⟩ := R.objOf q
  obtain ⟨h1, h2⟩ := R.obj i o a true e q
  exact wr_some h2 h1.symm
theorem Rel.same (R : Rel K r M H) (hs : Same H H') : Rel K r M H' :=
  ⟨R.len, R.nd, fun i o a w e q => ⟨(R.obj i o a w e q).1, (R.ob e q).mono List.prefix_rfl (Ext.same hs) fun w' => by
    obtain ⟨u, hu, _⟩ := wr_some (R.ob e q) w'
    rw [hs a u hu, hu]⟩⟩
theorem Rel.new (R : Rel K r M H) {p : Addr} {u : HO} (h : H p = none) : Rel K r M (upd H p u) := R.same (Same.new h)
theorem snoc_at {α : Type} {l : List α} {x y : α} {i : Nat} (e : (l ++ [x])[i]? = some y) : (i < l.length ∧ l[i]? = some y) ∨ (i = l.length ∧ y = x) := by
  by_cases hi : i < l.length
  · rw [List.getElem?_append_left hi] at e
    exact .inl ⟨hi, e⟩
  · have hl := (List.getElem?_eq_some_iff.mp e).1
    rw [List.length_append] at hl
    have hi' : i = l.length := by simp at hl; omega
    subst hi'
    rw [List.getElem?_append_right (Nat.le_refl _)] at e
    exact .inr ⟨rfl, by simpa using e.symm⟩
theorem Rel.alloc (R : Rel K r M H) {p : Addr} {u : HO} {o : MO} (h : H p = none) (wo : o.wr = true) (ho : RO K (r ++ [(p, true)]) (upd H p u) p o) : Rel K (r ++ [(p, true)]) (M ++ [o]) (upd H p u) := by
  have fresh : ∀ {i : Nat} {a : Addr}, r[i]? = some (a, true) → a ≠ p := fun {i a} q => by
    obtain ⟨u', hu, _⟩ := R.live q
    exact ne_of_none hu h
  refine ⟨by simp [R.len], fun i j a q1 q2 => ?_, fun i o' a w e q => ?_⟩
  · rcases snoc_at q1 with ⟨h1, z1⟩ | ⟨h1, z1⟩
    · rcases snoc_at q2 with ⟨h2, z2⟩ | ⟨h2, z2⟩
      · exact R.nd i j a z1 z2
      · cases z2
        exact absurd rfl (fresh z1)
    · rcases snoc_at q2 with ⟨h2, z2⟩ | ⟨h2, z2⟩
      · cases z1
        exact absurd rfl (fresh z2)
      · omega
  · rcases snoc_at e with ⟨h1, z1⟩ | ⟨h1, z1⟩
    · rcases snoc_at q with ⟨h2, z2⟩ | ⟨h2, z2⟩
      · obtain ⟨k1, k2⟩ := R.obj i o' a w z1 z2
        exact ⟨k1, k2.mono (List.prefix_append _ _) (Ext.new h) fun w1 => upd_ne (fresh (by rw [← w1, ← k1]; exact z2))⟩
      · rw [R.len] at h2
        omega
    · rcases snoc_at q with ⟨h2, z2⟩ | ⟨h2, z2⟩
      · rw [R.len] at h2
        omega
      · cases z2
        subst z1
        exact ⟨wo.symm, ho⟩
theorem Rel.set (R : Rel K r M H) {i : Nat} {a : Addr} {o' : MO} {u : HO} (w' : o'.wr = true) (q : r[i]? = some (a, true)) (ho : RO K r (upd H a u) a o') : Rel K r (M.set i o') (upd H a u) := by
  obtain ⟨u0, hu, hs⟩ := R.live q
  obtain ⟨o, e⟩ := R.objOf q
  have hi : i < M.length := (List.getElem?_eq_some_iff.mp e).1
  refine ⟨by rw [List.length_set]; exact R.len, R.nd, fun j x b w e1 q1 => ?_⟩
  by_cases hj : j = i
  · subst hj
    rw [List.getElem?_set_self hi] at e1
    rw [q] at q1
    cases e1
    cases q1
    exact ⟨w'.symm, ho⟩
  · rw [List.getElem?_set_ne (Ne.symm hj)] at e1
    obtain ⟨k1, k2⟩ := R.obj j x b w e1 q1
    refine ⟨k1, k2.mono List.prefix_rfl (Ext.upd hu hs) fun w1 => upd_ne fun z => ?_⟩
    subst z
    rw [k1, w1] at q1
    exact hj (R.nd j i b q1 q)
end
structure Fx (r : RA) (H : Hp) (r' : RA) (H' : Hp) : Prop where
  pre : r <+: r'
  ext : Ext H H'
  frm : ∀ a u, H a = some u → (a, true) ∉ r → H' a = some u ∧ (a, true) ∉ r'
theorem Fx.refl (r : RA) (H : Hp) : Fx r H r H := ⟨List.prefix_rfl, Ext.refl H, fun _ _ h n => ⟨h, n⟩⟩
theorem Fx.trans {r r1 r2 : RA} {H H1 H2 : Hp} (a : Fx r H r1 H1) (b : Fx r1 H1 r2 H2) : Fx r H r2 H2 :=
  ⟨a.pre.trans b.pre, a.ext.trans b.ext, fun c u h n => let ⟨h1, n1⟩ := a.frm c u h n; b.frm c u h1 n1⟩
theorem Fx.same {r : RA} {H H' : Hp} (h : Same H H') : Fx r H r H' := ⟨List.prefix_rfl, Ext.same h, fun a u e n => ⟨h a u e, n⟩⟩
theorem Fx.new {r : RA} {H : Hp} {p : Addr} {o : HO} (h : H p = none) : Fx r H r (upd H p o) := Fx.same (Same.new h)
theorem Fx.alloc {r : RA} {H : Hp} {p : Addr} {o : HO} (h : H p = none) : Fx r H (r ++ [(p, true)]) (upd H p o) :=
  ⟨List.prefix_append _ _, Ext.new h, fun a u e n => ⟨Same.new h a u e, fun z => by
    rcases List.mem_append.mp z with z | z
    · exact n z
    · have z' := List.mem_singleton.mp z
      cases z'
      rw [h] at e
      cases e⟩⟩
theorem Fx.upd {r : RA} {H : Hp} {p : Addr} {o u : HO} (h : H p = some o) (n : Stb o = false) (hp : (p, true) ∈ r) : Fx r H r (upd H p u) :=
  ⟨List.prefix_rfl, Ext.upd h n, fun a w e na => ⟨by rw [upd_ne (fun z => na (by rw [z]; exact hp))]; exact e, na⟩⟩
def Then (K : PySem.W.Frag) (r : RA) (H : Hp) (d : D) (M' : List MO) (Q : VK) : Prop :=
  ∀ r' H' v, Fx r H r' H' → Rel K r' M' H' → Rep K r' H' d v → Q v H'
section
variable {K : PySem.W.Frag} {r : RA} {H : Hp} {M : List MO} {d : D} {v : V} {Q : VK}
theorem Then.self (T : Then K r H d M Q) (R : Rel K r M H) (h : Rep K r H d v) : Q v H := T r H v (Fx.refl r H) R h
theorem Then.lst {xs : List D} {vs : List V} (T : Then K r H (.ref M.length) (M ++ [.lst true xs]) Q) (R : Rel K r M H) (h : RepL K r H xs vs) (p : Addr) (hp : H p = none) : Q (.ref p) (upd H p (.lst vs)) :=
  T (r ++ [(p, true)]) _ _ (Fx.alloc hp) (R.alloc hp rfl ⟨vs, upd_same, RepL.mono (List.prefix_append _ _) (Ext.new hp) xs vs h⟩) ⟨p, true, by rw [← R.len]; simp, rfl⟩
theorem Then.tup {xs : List D} {vs : List V} (T : Then K r H (.tup xs) M Q) (R : Rel K r M H) (h : RepL K r H xs vs) (p : Addr) (hp : H p = none) : Q (.ref p) (upd H p (.tup vs)) :=
  T r _ _ (Fx.new hp) (R.new hp) ⟨p, vs, rfl, SqT.of upd_same, RepL.mono List.prefix_rfl (Ext.new hp) xs vs h⟩
end
end PV
set_option Elab.async false
set_option linter.all false
set_option autoImplicit false
set_option maxRecDepth 100000
set_option maxHeartbeats 1000000
namespace PV
open PySem PySem.Spec PyProof.Rows L2
theorem sizeOk_le {n : Nat} (h : sizeOk n = true) : n ≤ sizeLine := of_decide_eq_true h
theorem mulOk_ok {i j : Int} (h : mulOk i j = true) : IntMulOk i j := by
  unfold mulOk at h
  simp only [Bool.or_eq_true, decide_eq_true_eq] at h
  rcases h with (h | h) | h
  · exact CMulW.ok h
  · exact CMul.ok (.inl (by omega))
  · exact CMul.ok (.inr (by omega))
section
variable {X : Cx}
theorem tuple_mul1 (l : Addr) (items : Array Value) (n : Nat) (dd : Option Addr) (sl : Array (Option Value)) (x : Int) (u : Tok) (c0 : (decide (x < -(2 ^ 63)) || decide (x ≥ 2 ^ 63)) = false) (c1 : (items.isEmpty || x == 1) = true) :
    Meets (Builtin.«tuple.__mul__» ⟨[.ref l, .int x u], []⟩) (fun _ R s => s.heap.get? l = some { cls := .type "tuple", dict := dd, data := .seq items n, slots := sl } ∧
      R (.ok (.ret (Value.ref l))) s) :=
  .of_wp fun prog w A R s h => by
    obtain ⟨hp, g, d, tk, os⟩ := s
    obtain ⟨hl, h⟩ := h
    have f1 := AutoSeq1.idx_int
    wp_walk using AutoSeq1.wpAny_loadPart' hl
    repeat (first
      | (refine wpAny_ite_false (decide_eq_false (by rw [c0]; exact Bool.false_ne_true)) ?_; wp_walk using AutoSeq1.wpAny_loadPart' hl)
      | (refine wpAny_ite_true (decide_eq_true (by rw [c1])) ?_; wp_walk using AutoSeq1.wpAny_loadPart' hl))
    exact ⟨_, rfl, h⟩
theorem tuple_mul0 (l : Addr) (items : Array Value) (n : Nat) (dd : Option Addr) (sl : Array (Option Value)) (x : Int) (u : Tok) (c0 : (decide (x < -(2 ^ 63)) || decide (x ≥ 2 ^ 63)) = false) (c1 : (items.isEmpty || x == 1) = false) (c2 : (decide (x ≤ 0) || items.isEmpty) = true) :
    Meets (Builtin.«tuple.__mul__» ⟨[.ref l, .int x u], []⟩) (fun _ R s => s.heap.get? l = some { cls := .type "tuple", dict := dd, data := .seq items n, slots := sl } ∧
      R (.ok (.ret (Value.ref s.heap.objs.size))) { s with heap := s.heap.push { cls := Value.type "tuple", data := Data.seq #[] }, toks := s.toks }) :=
  .of_wp fun prog w A R s h => by
    obtain ⟨hp, g, d, tk, os⟩ := s
    obtain ⟨hl, h⟩ := h
    have f1 := AutoSeq1.idx_int
    wp_walk using AutoSeq1.wpAny_loadPart' hl
    repeat (first
      | (refine wpAny_ite_false (decide_eq_false (by rw [c0]; exact Bool.false_ne_true)) ?_; wp_walk using AutoSeq1.wpAny_loadPart' hl)
      | (refine wpAny_ite_false (decide_eq_false (by rw [c1]; exact Bool.false_ne_true)) ?_; wp_walk using AutoSeq1.wpAny_loadPart' hl)
      | (refine wpAny_ite_true (decide_eq_true (by rw [c2])) ?_; wp_walk using AutoSeq1.wpAny_loadPart' hl))
    exact ⟨_, rfl, h⟩
def rRepA (K : PySem.W.Frag) : R2 := fun x y H Q => ∃ l k xs, x = .ref l ∧ y = .int k ∧ SqT K H l xs ∧ xs ≠ [] ∧ 0 ≤ k ∧ k ≤ 1000 ∧ xs.length ≤ 1000 ∧
  (k = 1 → Q (.ref l) H) ∧ (k ≠ 1 → ∀ p, H p = none → Q (.ref p) (upd H p (.tup (List.replicate k.toNat xs).flatten)))
theorem op_repA : OpR X (binaryOp .Mult) (rRepA X.K) := by
  intro pins s σ H x y v u Q I rx ry h
  obtain ⟨l, k, xs, rfl, rfl, hT, hne, h1, h2, hz, q1, q2⟩ := h
  by_cases k2 : 2 ≤ k
  · exact op_repT pins s σ H _ _ v u Q I rx ry ⟨l, k, xs, rfl, rfl, hT, hne, k2, h2, hz, q2 (by omega)⟩
  cases rx
  obtain ⟨t, rfl⟩ := ry
  obtain ⟨its, r, ⟨⟨cls, dd, data, sl⟩, ho, hc, n, hd⟩, hs⟩ := I.tuple hT
  simp only at hc hd
  subst hc hd
  have hle : its.length = xs.length := r.length.symm
  have hn : its ≠ [] := fun e => hne (by
    rw [e] at hle
    exact List.eq_nil_of_length_eq_zero hle.symm)
  have hi : its.toArray.isEmpty = false := by
    cases its with
    | nil => exact absurd rfl hn
    | cons a b => rfl
  have c0 : (decide (k < -(2 ^ 63)) || decide (k ≥ 2 ^ 63)) = false := by
    rw [decide_eq_false (by omega), decide_eq_false (by omega)] <;> rfl
  by_cases k1 : k = 1
  · subst k1
    have c1 : (its.toArray.isEmpty || (1 : Int) == 1) = true := by rw [hi]; rfl
    exact wpAny_binaryOp_repeat_ref (T := "tuple") (U := "int") (by decide) ⟨_, ho, rfl⟩ (fun s' => typeIs_int s' 1 t) noFill_tuple_mul F.fills_int_mul F.slot_int_rmul repeat_tuple F.slot_int_index.lookup
      (call_meets F.slot_int_rmul (typeIs_int s 1 t) F.entry_int_rmul (F.args_int_rmul_2 _ _) (int_rmul_tuple 1 t l its.toArray n dd sl)
        ⟨ho, rfl, ⟨_, ho, rfl⟩, call_meets F.slot_tuple_mul ⟨_, ho, rfl⟩ F.entry_tuple_mul (F.args_tuple_mul_2 _ _) (tuple_mul1 l its.toArray n dd sl 1 t c0 c1) ⟨ho, ⟨.ref l, H, I, rfl, q1 rfl⟩⟩⟩)
  · have k0 : k = 0 := by omega
    subst k0
    have c1 : (its.toArray.isEmpty || (0 : Int) == 1) = false := by rw [hi]; rfl
    have c2 : (decide ((0 : Int) ≤ 0) || its.toArray.isEmpty) = true := by rw [hi]; rfl
    refine wpAny_binaryOp_repeat_ref (T := "tuple") (U := "int") (by decide) ⟨_, ho, rfl⟩ (fun s' => typeIs_int s' 0 t) noFill_tuple_mul F.fills_int_mul F.slot_int_rmul repeat_tuple F.slot_int_index.lookup
      (call_meets F.slot_int_rmul (typeIs_int s 0 t) F.entry_int_rmul (F.args_int_rmul_2 _ _) (int_rmul_tuple 0 t l its.toArray n dd sl)
        ⟨ho, rfl, ⟨_, ho, rfl⟩, call_meets F.slot_tuple_mul ⟨_, ho, rfl⟩ F.entry_tuple_mul (F.args_tuple_mul_2 _ _) (tuple_mul0 l its.toArray n dd sl 0 t c0 c1 c2) ⟨ho, ?_⟩⟩)
    have hf : H s.heap.objs.size = none := I.hok.fresh (Nat.le_refl _)
    refine ⟨.ref s.heap.objs.size, upd H s.heap.objs.size (.tup []), I.laid (t' := s.toks) (fun b u e => Heap.get?_push_of_some _ e) (Nat.le_refl _) ?_, rfl, q2 k1 _ hf⟩
    exact ⟨Nat.zero_le _, [], .nil, ⟨_, Heap.get?_push_size _ rfl, rfl, _, rfl⟩⟩
def B2.op : B2 → Operator
  | .add => .Add
  | .sub => .Sub
  | .mul => .Mult
  | .fdiv => .FloorDiv
  | .mod => .Mod
  | .pow => .Pow
def rB (K : PySem.W.Frag) (o : B2) : R2 := fun x y H Q => ∃ (b : List MO) (s s' : HS b) (r : RA) (dx dy d : D), Rel K r s.M H ∧ Rep K r H dx x ∧ Rep K r H dy y ∧ bin o dx dy s = some (.ok d s') ∧ Then K r H d s'.M Q
theorem bin_noex {b : List MO} {o : B2} {x y : D} {s : HS b} {c : Nat} {fs : List (Str × D)} {s' : HS b} (h : bin o x y s = some (.ex c fs s')) : False := by
  cases o <;> cases x <;> cases y <;> simp only [bin, ret] at h <;> first | cases h | (split at h <;> first | cases h | (split at h <;> cases h))
theorem add_tuples {K : PySem.W.Frag} {r : RA} {H : Hp} {M : List MO} {xs ys : List D} {x y : V} {Q : VK} (R : Rel K r M H) (hx : Rep K r H (.tup xs) x) (hy : Rep K r H (.tup ys) y) (hz : xs.length + ys.length ≤ sizeLine) (T : Then K r H (.tup (xs ++ ys)) M Q) : rCatA K x y H Q := by
  obtain ⟨a, vs, rfl, q1, t1⟩ := hx
  obtain ⟨c, ws, rfl, q2, t2⟩ := hy
  refine ⟨a, c, vs, ws, rfl, rfl, q1, q2, by rw [t1.length, t2.length]; exact hz, fun e => ?_, fun _ e => ?_, fun _ _ p hp => ?_⟩
  · subst e
    have e : xs = [] := List.eq_nil_of_length_eq_zero (by rw [← t1.length]; rfl)
    subst e
    exact T.self R ⟨c, ws, rfl, q2, t2⟩
  · subst e
    have e : ys = [] := List.eq_nil_of_length_eq_zero (by rw [← t2.length]; rfl)
    subst e
    rw [List.append_nil] at T
    exact T.self R ⟨a, vs, rfl, q1, t1⟩
  · exact T.tup R (t1.app t2) p hp
theorem op_bin (o : B2) : OpR X (binaryOp o.op) (rB X.K o) := by
  intro pins s σ H x y v u Q I rx ry h
  obtain ⟨b, hs, hs', r, dx, dy, d, R, hx, hy, e, T⟩ := h
  cases o with
  | add =>
    cases dx <;> cases dy <;> simp only [bin, ret] at e <;> try (cases e; done)
    case int.int i j =>
      cases e; cases hx; cases hy
      exact op_add pins s σ H _ _ v u Q I rx ry ⟨i, j, rfl, rfl, T.self R rfl⟩
    case str.str i j =>
      split at e
      · rename_i z
        cases e; cases hx; cases hy
        exact op_add_str pins s σ H _ _ v u Q I rx ry ⟨i, j, rfl, rfl, sizeOk_le z, T.self R rfl⟩
      · cases e
    case tup.tup xs ys =>
      split at e
      · rename_i z
        cases e
        exact op_catA pins s σ H _ _ v u Q I rx ry (add_tuples R hx hy (sizeOk_le z) T)
      · cases e
    case ref.ref p q =>
      split at e
      · rename_i xs ys e1 e2
        split at e
        · rename_i z
          cases e
          obtain ⟨a, wa, ha, rfl⟩ := hx
          obtain ⟨c, wc, hc, rfl⟩ := hy
          obtain ⟨vs, v1, v2⟩ := R.ob e1 ha
          obtain ⟨ws, w1, w2⟩ := R.ob e2 hc
          exact op_cat pins s σ H _ _ v u Q I rx ry ⟨a, c, vs, ws, rfl, rfl, v1, w1, by rw [v2.length, w2.length]; exact sizeOk_le z, fun p hp => T.lst R (v2.app w2) p hp⟩
        · cases e
      · cases e
  | sub =>
    cases dx <;> cases dy <;> simp only [bin, ret] at e <;> try (cases e; done)
    case int.int i j =>
      cases e; cases hx; cases hy
      exact op_sub pins s σ H _ _ v u Q I rx ry ⟨i, j, rfl, rfl, T.self R rfl⟩
  | mul =>
    cases dx <;> cases dy <;> simp only [bin, ret] at e <;> try (cases e; done)
    case int.int i j =>
      split at e
      · rename_i z
        cases e; cases hx; cases hy
        have h : OpR X (binaryOp .Mult) (rI (fun i j => mulOk i j = true) fun i j => .int (i * j)) := opI fun _ _ _ _ _ _ _ hc q => mul_int q (mulOk_ok hc)
        exact h pins s σ H _ _ v u Q I rx ry ⟨i, j, rfl, rfl, z, T.self R rfl⟩
      · cases e
    case tup.int xs k =>
      split at e
      · rename_i z
        cases e
        simp only [Bool.and_eq_true, decide_eq_true_eq, Bool.not_eq_true'] at z
        obtain ⟨⟨⟨z1, z2⟩, z3⟩, z4⟩ := z
        obtain ⟨a, vs, rfl, q1, t1⟩ := hx
        cases hy
        have hne : vs ≠ [] := fun e => by
          subst e
          have e : xs = [] := List.eq_nil_of_length_eq_zero (by rw [← t1.length]; rfl)
          rw [e] at z1
          cases z1
        refine op_repA pins s σ H _ _ v u Q I rx ry ⟨a, k, vs, rfl, rfl, q1, hne, z2, z3, by rw [t1.length]; exact z4, fun e => ?_, fun _ p hp => T.tup R (t1.rep _) p hp⟩
        subst e
        have e1 : (List.replicate (1 : Int).toNat xs).flatten = xs := by simp
        rw [e1] at T
        exact T.self R ⟨a, vs, rfl, q1, t1⟩
      · cases e
  | fdiv =>
    cases dx <;> cases dy <;> simp only [bin, ret] at e <;> try (cases e; done)
    case int.int i j =>
      split at e
      · rename_i z
        cases e; cases hx; cases hy
        have h : OpR X (binaryOp .FloorDiv) (rI (fun _ j => divOk j = true) fun i j => .int (i.fdiv j)) := opI fun _ _ _ _ _ _ _ hc q => by
          unfold divOk at hc
          simp only [Bool.and_eq_true, decide_eq_true_eq] at hc
          exact floordiv_int hc.1 q (.inl (PyProof.noPylong_of_log2 hc.2))
        exact h pins s σ H _ _ v u Q I rx ry ⟨i, j, rfl, rfl, z, T.self R rfl⟩
      · cases e
  | mod =>
    cases dx <;> cases dy <;> simp only [bin, ret] at e <;> try (cases e; done)
    case int.int i j =>
      split at e
      · rename_i z
        cases e; cases hx; cases hy
        exact op_modN pins s σ H _ _ v u Q I rx ry ⟨i, j, rfl, rfl, of_decide_eq_true z, T.self R rfl⟩
      · cases e
  | pow =>
    cases dx <;> cases dy <;> simp only [bin, ret] at e <;> try (cases e; done)
    case int.int i j =>
      split at e
      · rename_i z
        cases e; cases hx; cases hy
        simp only [Bool.and_eq_true, decide_eq_true_eq] at z
        exact op_pow pins s σ H _ _ v u Q I rx ry ⟨i, j, rfl, rfl, ⟨z.1.1, z.1.2, z.2⟩, T.self R rfl⟩
      · cases e
end
end PV
set_option Elab.async false
set_option linter.all false
set_option autoImplicit false
set_option maxRecDepth 100000
set_option maxHeartbeats 1000000
namespace PV
open PySem PySem.Spec PyProof.Rows L2
section
variable {K : PySem.W.Frag} {r : RA} {H : Hp} {M : List MO}
mutual
theorem deepW_ok {f : Nat → Option PyData} (hf : ∀ i pd a w, f i = some pd → r[i]? = some (a, w) → Dp K H (.ref a) pd) : ∀ (d : D) (v : V) (pd : PyData), deepW f d = some pd → Rep K r H d v → Dp K H v pd
  | .non, v, pd, e, h => by cases e; cases h; exact .non
  | .bl x, v, pd, e, h => by cases e; cases h; exact .bl x
  | .int i, v, pd, e, h => by cases e; cases h; exact .int i
  | .str x, v, pd, e, h => by cases e; cases h; exact .str x
  | .tup xs, v, pd, e, h => by
    obtain ⟨a, vs, rfl, q, t⟩ := h
    simp only [deepW] at e
    cases q2 : deepWL f xs with
    | none => rw [q2] at e; cases e
    | some ys =>
      rw [q2] at e
      cases e
      exact .tup q (deepWL_ok hf xs vs ys q2 t)
  | .ref i, v, pd, e, h => by
    obtain ⟨a, wa, ha, rfl⟩ := h
    exact hf i pd a wa e ha
theorem deepWL_ok {f : Nat → Option PyData} (hf : ∀ i pd a w, f i = some pd → r[i]? = some (a, w) → Dp K H (.ref a) pd) : ∀ (ds : List D) (vs : List V) (ps : List PyData), deepWL f ds = some ps → RepL K r H ds vs → DpAll K H vs ps
  | [], vs, ps, e, h => by
    rw [show vs = [] from h]
    cases e
    exact .nil
  | x :: xs, vs, ps, e, h => by
    obtain ⟨v, vr, rfl, h1, t⟩ := h
    simp only [deepWL] at e
    cases q1 : deepW f x with
    | none => rw [q1] at e; cases e
    | some y =>
      cases q2 : deepWL f xs with
      | none => rw [q1, q2] at e; cases e
      | some ys =>
        rw [q1, q2] at e
        cases e
        exact .cons (deepW_ok hf x v y q1 h1) (deepWL_ok hf xs vr ys q2 t)
end
theorem RO.sq {a : Addr} {w : Bool} {xs : List D} (h : RO K r H a (.lst w xs)) : ∃ vs, SqL K H a vs ∧ RepL K r H xs vs := by
  cases w with
  | true => obtain ⟨vs, e, t⟩ := h; exact ⟨vs, SqL.of e, t⟩
  | false => obtain ⟨vs, e, t⟩ := h; exact ⟨vs, e.sq, t⟩
theorem deepR_ok (R : Rel K r M H) : ∀ (n : Nat) (i : Nat) (pd : PyData) (a : Addr) (w : Bool), deepR M n i = some pd → r[i]? = some (a, w) → Dp K H (.ref a) pd
  | 0, _, _, _, _, e, _ => by cases e
  | n + 1, i, pd, a, wa, e, ha => by
    simp only [deepR] at e
    split at e
    · rename_i w xs hm
      obtain ⟨vs, q, t⟩ := (R.ob hm ha).sq
      cases q2 : deepWL (deepR M n) xs with
      | none => rw [q2] at e; cases e
      | some ys =>
        rw [q2] at e
        cases e
        exact .lst q (deepWL_ok (deepR_ok R n) xs vs ys q2 t)
    · cases e
theorem deep_ok (R : Rel K r M H) {d : D} {v : V} {pd : PyData} (e : deep M d = some pd) (h : Rep K r H d v) : Dp K H v pd := deepW_ok (deepR_ok R 8) d v pd e h
end
section
variable {X : Cx}
def C2.op : C2 → CmpOp
  | .eq => .Eq
  | .ne => .NotEq
  | .lt => .Lt
  | .le => .LtE
  | .gt => .Gt
  | .ge => .GtE
  | .is => .Is
  | .isn => .IsNot
def rC (K : PySem.W.Frag) (o : C2) : R2 := fun x y H Q => ∃ (b : List MO) (s s' : HS b) (r : RA) (dx dy d : D), Rel K r s.M H ∧ Rep K r H dx x ∧ Rep K r H dy y ∧ cmp o dx dy s = some (.ok d s') ∧ Then K r H d s'.M Q
theorem eqD_ok {K : PySem.W.Frag} {r : RA} {H : Hp} {M : List MO} {dx dy : D} {x y : V} {k : Bool} (R : Rel K r M H) (hx : Rep K r H dx x) (hy : Rep K r H dy y) (e : eqD M dx dy = some k) :
    ∃ p q, Dp K H x p ∧ Dp K H y q ∧ SeqAt.shaped p = true ∧ SeqAt.shaped q = true ∧ k = PyData.eqv p q := by
  unfold eqD at e
  split at e
  · rename_i p q e1 e2
    split at e
    · rename_i z
      simp only [Bool.and_eq_true] at z
      cases e
      exact ⟨p, q, deep_ok R e1 hx, deep_ok R e2 hy, z.1, z.2, rfl⟩
    · cases e
  · cases e
theorem cmp_pure {b : List MO} {o : C2} {x y : D} {s : HS b} {u : Out b D} (h : cmp o x y s = some u) : ∃ k, u = .ok (.bl k) s := by
  cases o <;> simp only [cmp, ret] at h <;> split at h <;> first | (cases h; done) | (cases h; exact ⟨_, rfl⟩)
def isNon : D → Bool
  | .non => true
  | _ => false
theorem isD_ok {x y : D} {k : Bool} (e : isD x y = some k) : (∃ a c, x = .bl a ∧ y = .bl c ∧ k = decide (a = c)) ∨ (y = .non ∧ k = isNon x) := by
  cases x <;> cases y <;> simp only [isD] at e <;> first | (cases e; done) | (cases e; exact .inl ⟨_, _, rfl, rfl, rfl⟩) | (cases e; exact .inr ⟨rfl, rfl⟩)
theorem rep_non {K : PySem.W.Frag} {r : RA} {H : Hp} {d : D} {v : V} (h : Rep K r H d v) : decide (v = V.non) = isNon d := by
  cases d with
  | non => cases h; rfl
  | bl _ => cases h; rfl
  | int _ => cases h; rfl
  | str _ => cases h; rfl
  | tup _ => obtain ⟨a, vs, rfl, _⟩ := h; rfl
  | ref _ => obtain ⟨a, _, _, rfl⟩ := h; rfl
theorem op_cmp (hu : X.A.units + 64 < cLine) (o : C2) : OpR X (compareOp o.op) (rC X.K o) := by
  intro pins s σ H x y v u Q I rx ry h
  obtain ⟨b, hs, hs', r, dx, dy, d, R, hx, hy, e, T⟩ := h
  cases o with
  | eq =>
    simp only [cmp, ret] at e
    split at e
    · rename_i k ek
      cases e
      obtain ⟨p, q, h1, h2, s1, s2, rfl⟩ := eqD_ok R hx hy ek
      exact op_eqD hu pins s σ H x y v u Q I rx ry ⟨p, q, h1, h2, s1, s2, T.self R rfl⟩
    · cases e
  | ne =>
    simp only [cmp, ret] at e
    split at e
    · rename_i k ek
      cases e
      obtain ⟨p, q, h1, h2, s1, s2, rfl⟩ := eqD_ok R hx hy ek
      exact op_neD hu pins s σ H x y v u Q I rx ry ⟨p, q, h1, h2, s1, s2, T.self R rfl⟩
    · cases e
  | lt =>
    cases dx <;> cases dy <;> simp only [cmp, ret] at e <;> try (cases e; done)
    case int.int i j =>
      cases e; cases hx; cases hy
      exact op_lt pins s σ H _ _ v u Q I rx ry ⟨i, j, rfl, rfl, T.self R rfl⟩
  | le =>
    cases dx <;> cases dy <;> simp only [cmp, ret] at e <;> try (cases e; done)
    case int.int i j =>
      cases e; cases hx; cases hy
      exact op_le pins s σ H _ _ v u Q I rx ry ⟨i, j, rfl, rfl, T.self R rfl⟩
  | gt =>
    cases dx <;> cases dy <;> simp only [cmp, ret] at e <;> try (cases e; done)
    case int.int i j =>
      cases e; cases hx; cases hy
      exact op_gt pins s σ H _ _ v u Q I rx ry ⟨i, j, rfl, rfl, T.self R rfl⟩
  | ge =>
    cases dx <;> cases dy <;> simp only [cmp, ret] at e <;> try (cases e; done)
    case int.int i j =>
      cases e; cases hx; cases hy
      exact op_ge pins s σ H _ _ v u Q I rx ry ⟨i, j, rfl, rfl, T.self R rfl⟩
  | is =>
    simp only [cmp, ret] at e
    split at e
    · rename_i k ek
      cases e
      rcases isD_ok ek with ⟨a, c, rfl, rfl, rfl⟩ | ⟨rfl, rfl⟩
      · cases hx; cases hy
        exact op_isBl pins s σ H _ _ v u Q I rx ry ⟨a, c, rfl, rfl, T.self R rfl⟩
      · cases hy
        refine op_isN pins s σ H _ _ v u Q I rx ry ⟨rfl, ?_⟩
        rw [rep_non hx]
        exact T.self R rfl
    · cases e
  | isn =>
    simp only [cmp, ret] at e
    split at e
    · rename_i k ek
      cases e
      rcases isD_ok ek with ⟨a, c, rfl, rfl, rfl⟩ | ⟨rfl, rfl⟩
      · cases hx; cases hy
        exact op_notBl pins s σ H _ _ v u Q I rx ry ⟨a, c, rfl, rfl, T.self R rfl⟩
      · cases hy
        refine op_notN pins s σ H _ _ v u Q I rx ry ⟨rfl, ?_⟩
        rw [rep_non hx]
        exact T.self R rfl
    · cases e
theorem truth_ok {K : PySem.W.Frag} {r : RA} {H : Hp} {M : List MO} {d : D} {v : V} {k : Bool} (R : Rel K r M H) (h : Rep K r H d v) (e : truth M d = some k) : TruV K v H k := by
  cases d with
  | non => cases h; cases e; rfl
  | bl _ => cases h; cases e; rfl
  | int _ => cases h; cases e; rfl
  | str x =>
    cases h
    simp only [truth] at e
    split at e
    · rename_i z
      cases e
      refine ⟨sizeOk_le z, ?_⟩
      by_cases hz : x.length = 0
      · rw [hz]; rfl
      · rw [bne_iff_ne.mpr hz]
        exact (bne_iff_ne.mpr (by omega)).symm
    · cases e
  | tup xs =>
    obtain ⟨a, vs, rfl, q, t⟩ := h
    cases e
    refine .inr (.inl ⟨vs, q, ?_⟩)
    cases xs with
    | nil => rw [show vs = [] from t]; rfl
    | cons x xs => obtain ⟨v, vr, rfl, _⟩ := t; rfl
  | ref i =>
    obtain ⟨a, wa, ha, rfl⟩ := h
    simp only [truth] at e
    split at e
    · rename_i w xs hm
      cases e
      obtain ⟨vs, q, t⟩ := (R.ob hm ha).sq
      refine .inl ⟨vs, q, ?_⟩
      cases xs with
      | nil => rw [show vs = [] from t]; rfl
      | cons x xs => obtain ⟨v, vr, rfl, _⟩ := t; rfl
    · cases e
def rIdx (K : PySem.W.Frag) : R2 := fun x y H Q => ∃ (b : List MO) (s s' : HS b) (r : RA) (dx dy d : D), Rel K r s.M H ∧ Rep K r H dx x ∧ Rep K r H dy y ∧ index dx dy s = some (.ok d s') ∧ Then K r H d s'.M Q
theorem index_pure {b : List MO} {x y : D} {s : HS b} {u : Out b D} (h : index x y s = some u) : ∃ d, u = .ok d s := by
  cases x <;> cases y <;> simp only [index, ret] at h <;> first
    | (cases h; done)
    | (split at h <;> first | (cases h; done) | (cases h; exact ⟨_, rfl⟩) | (split at h <;> first | (cases h; done) | (cases h; exact ⟨_, rfl⟩)))
theorem atI_rep {K : PySem.W.Frag} {r : RA} {H : Hp} {xs : List D} {vs : List V} {i : Int} {d : D} (t : RepL K r H xs vs) (e : atI xs i = some d) : ∃ v, atI vs i = some v ∧ Rep K r H d v := by
  unfold atI at e ⊢
  rw [t.length]
  cases q : ixN xs.length i with
  | none => rw [q] at e; cases e
  | some j =>
    rw [q] at e
    exact t.get e
theorem ix_idx : IxR X (rIdx X.K) := by
  intro ev es pins s σ H x y v u Q I rx ry h hsub
  obtain ⟨b, hs, hs', r, dx, dy, d, R, hx, hy, e, T⟩ := h
  cases dx <;> cases dy <;> simp only [index, ret] at e <;> try (cases e; done)
  case tup.int xs i =>
    split at e
    · rename_i d' ed
      cases e
      obtain ⟨a, vs, rfl, q, t⟩ := hx
      cases hy
      obtain ⟨w, e1, e2⟩ := atI_rep t ed
      exact ix_tup ev es pins s σ H _ _ v u Q I rx ry ⟨a, vs, i, w, rfl, rfl, q, e1, T.self R e2⟩ hsub
    · cases e
  case ref.int p i =>
    split at e
    · rename_i w xs hm
      split at e
      · rename_i d' ed
        cases e
        obtain ⟨a, wa, ha, rfl⟩ := hx
        cases hy
        obtain ⟨vs, q, t⟩ := (R.ob hm ha).sq
        obtain ⟨w, e1, e2⟩ := atI_rep t ed
        exact ix_list ev es pins s σ H _ _ v u Q I rx ry ⟨a, vs, i, w, rfl, rfl, q, e1, T.self R e2⟩ hsub
      · cases e
    · cases e
def rSlc (K : PySem.W.Frag) : V → Option Int → Option Int → Hp → VK → Prop := fun x lo hi H Q => ∃ (b : List MO) (s s' : HS b) (r : RA) (dx d : D), Rel K r s.M H ∧ Rep K r H dx x ∧ slice dx lo hi s = some (.ok d s') ∧ Then K r H d s'.M Q
theorem slice_ok {b : List MO} {x : D} {lo hi : Option Int} {s : HS b} {u : Out b D} (h : slice x lo hi s = some u) : ∃ d s', u = .ok d s' := by
  cases x <;> simp only [slice, ret] at h <;> first
    | (cases h; done)
    | (cases h; exact ⟨_, _, rfl⟩)
    | (split at h <;> first | (cases h; done) | (cases h; exact ⟨_, _, rfl⟩))
theorem cut_rep {K : PySem.W.Frag} {r : RA} {H : Hp} {xs : List D} {vs : List V} (lo hi : Option Int) (t : RepL K r H xs vs) : RepL K r H (cutD xs lo hi) (cutV vs lo hi) := by
  unfold cutD cutV
  rw [t.length]
  exact (t.drop _).take _
theorem sl_slc : SlR X (rSlc X.K) := by
  intro pins s σ H x v vl vu lo hi sl Q I rx hs pl pu h
  obtain ⟨b, hs1, hs', r, dx, d, R, hx, e, T⟩ := h
  cases dx <;> simp only [slice, ret] at e <;> try (cases e; done)
  case tup xs =>
    cases e
    obtain ⟨a, vs, rfl, q, t⟩ := hx
    refine sl_tupA pins s σ H _ v vl vu lo hi sl Q I rx hs pl pu ⟨a, vs, rfl, q, fun z => ?_, fun _ p hp => T.tup R (cut_rep lo hi t) p hp⟩
    have e : cutD xs lo hi = xs := by
      unfold cutD
      rw [← t.length, z.1, z.2, t.length]
      simp
    rw [e] at T
    exact T.self R ⟨a, vs, rfl, q, t⟩
  case ref p =>
    split at e
    · rename_i w xs hm
      cases e
      obtain ⟨a, wa, ha, rfl⟩ := hx
      obtain ⟨vs, q, t⟩ := (R.ob hm ha).sq
      exact sl_list pins s σ H _ v vl vu lo hi sl Q I rx hs pl pu ⟨a, vs, rfl, q, fun p hp => T.lst R (cut_rep lo hi t) p hp⟩
    · cases e
def BI.val : BI → Value
  | .len => .builtin "len"
  | .all => .builtin "all"
  | .any => .builtin "any"
  | .sum => .builtin "sum"
  | .tuple => .type "tuple"
  | .list => .type "list"
  | .int => .type "int"
  | .max2 => .builtin "max"
  | .min2 => .builtin "min"
  | .repr => .builtin "repr"
  | .abs => .builtin "abs"
  | .isi _ => .builtin "isinstance"
def rF (K : PySem.W.Frag) (g : BI) : List V → Hp → VK → Prop := fun xs H Q => ∃ (b : List MO) (s s' : HS b) (r : RA) (ds : List D) (d : D), Rel K r s.M H ∧ RepL K r H ds xs ∧ call g ds s = some (.ok d s') ∧ Then K r H d s'.M Q
theorem items_ok {K : PySem.W.Frag} {r : RA} {H : Hp} {M : List MO} {d : D} {v : V} {ys : List D} (R : Rel K r M H) (h : Rep K r H d v) (e : items M d = some ys) : ∃ a vs, v = .ref a ∧ ((SqL K H a vs ∧ ∃ i w, d = .ref i ∧ M[i]? = some (.lst w ys)) ∨ (SqT K H a vs ∧ d = .tup ys)) ∧ RepL K r H ys vs := by
  cases d <;> simp only [items] at e <;> try (cases e; done)
  case tup xs =>
    cases e
    obtain ⟨a, vs, rfl, q, t⟩ := h
    exact ⟨a, vs, rfl, .inr ⟨q, rfl⟩, t⟩
  case ref i =>
    split at e
    · rename_i w xs hm
      cases e
      obtain ⟨a, wa, ha, rfl⟩ := h
      obtain ⟨vs, q, t⟩ := (R.ob hm ha).sq
      exact ⟨a, vs, rfl, .inl ⟨q, i, w, rfl, hm⟩, t⟩
    · cases e
theorem one_rep {K : PySem.W.Frag} {r : RA} {H : Hp} {d : D} {xs : List V} (h : RepL K r H [d] xs) : ∃ v, xs = [v] ∧ Rep K r H d v := by
  obtain ⟨v, vr, rfl, h1, t⟩ := h
  rw [show vr = [] from t]
  exact ⟨v, rfl, h1⟩
theorem two_rep {K : PySem.W.Frag} {r : RA} {H : Hp} {d d' : D} {xs : List V} (h : RepL K r H [d, d'] xs) : ∃ v v', xs = [v, v'] ∧ Rep K r H d v ∧ Rep K r H d' v' := by
  obtain ⟨v, vr, rfl, h1, t⟩ := h
  obtain ⟨v', rfl, h2⟩ := one_rep t
  exact ⟨v, v', rfl, h1, h2⟩
theorem cr_sumT (hc : X.calm = true) : CallR X (.builtin "sum") (fun vs H Q => ∃ (a : Addr) (ns : List Int), vs = [V.ref a] ∧ SqT X.K H a (ns.map V.int) ∧ Q (.int ns.sum) H) := by
  intro pins s σ H xs us Q I rs h
  obtain ⟨a, ns, rfl, hq, q⟩ := h
  obtain ⟨u, rfl, ru⟩ := vals1 rs
  cases ru
  obtain ⟨its, rv, ht, hz⟩ := I.tuple hq
  have hi := rv.ints
  obtain ⟨ys, hy⟩ := hi.allInts.items
  have hn : numsOf its = ns := hi.numsOf
  have e2 : its.toArray = intItems ys := by rw [← hy]
  rw [e2] at ht
  refine PySem.W.ktm_sumG (I.ok.hd hc) ht fun h' tk t' hk => ?_
  have e3 : preSum (numAt ys) ys.size = ns.sum := by
    rw [preSum_eq, List.take_of_length_le (by simp), ← hn, show its = (intItems ys).toList from by rw [← e2], nums_intItems]
  rw [e3]
  exact ⟨.int _, H, I.kept (t' := tk) fun b o e => hk b o e, ⟨_, rfl⟩, q⟩
theorem cr_repr (hu : X.A.units + 200 < cLine) (hg : X.A.guards = some []) : CallR X (.builtin "repr") (fun vs H Q => ∃ (v : V) (d : PyData), vs = [v] ∧ Dp X.K H v d ∧ d.showable = true ∧ d.hasDict = false ∧ d.depth ≤ 64 ∧ d.shown.length ≤ sizeLine ∧ Q (.str d.shown) H) := by
  intro pins s σ H xs us Q I rs h
  obtain ⟨v, d, rfl, hd, h1, h2, h3, h4, q⟩ := h
  obtain ⟨u, rfl, ru⟩ := vals1 rs
  obtain ⟨as, rd⟩ := Dp.reads I d v u hd ru
  cases hd with
  | non =>
    cases ru
    exact PySem.P.repr_of_none ⟨.str _, H, I.tok _, ⟨_, rfl⟩, q⟩
  | bl x =>
    cases ru
    refine PySem.P.repr_of_bool ⟨.str _, H, I.tok _, ⟨_, rfl⟩, ?_⟩
    cases x <;> exact q
  | int i =>
    obtain ⟨t, rfl⟩ := ru
    exact PySem.P.repr_of_int (by simpa [PyData.showable] using h1) ⟨.str _, H, I.tok _, ⟨_, rfl⟩, q⟩
  | str x =>
    obtain ⟨t, rfl⟩ := ru
    exact PySem.P.repr_of_str ⟨.str _, H, I.tok _, ⟨_, rfl⟩, q⟩ h4
  | lst hs ha =>
    cases ru
    exact repr_of_reads' rd h1 (PyData.noDict_hsm h2) hg (by omega) (fun _ _ e => e) (fun h' u' tk hk => ⟨.str _, H, I.kept (t' := tk) fun b o e => hk b o e, ⟨_, rfl⟩, q⟩) h4
  | tup hs ha =>
    cases ru
    exact repr_of_reads' rd h1 (PyData.noDict_hsm h2) hg (by omega) (fun _ _ e => e) (fun h' u' tk hk => ⟨.str _, H, I.kept (t' := tk) fun b o e => hk b o e, ⟨_, rfl⟩, q⟩) h4
theorem cr_repr0 (hu : X.A.units + 200 < cLine) (hg : X.A.guards = some []) : CallR X (.builtin "repr") (fun vs H Q => ∃ a : Addr, vs = [.ref a] ∧ H a = some (.dK []) ∧ Q (.str "{}") H) := by
  intro pins s σ H xs us Q I rs h
  obtain ⟨a, rfl, hd, q⟩ := h
  obtain ⟨u, rfl, ru⟩ := vals1 rs
  cases ru
  obtain ⟨_, hm, vs, r, o, es, ep, e1, e2, e3, _, e4, _⟩ := I.hok a _ hd
  cases r
  have he : es.toList = [] := by
    cases h : es.toList with
    | nil => rfl
    | cons x l =>
      rw [h] at e4
      cases e4
  have rd : Reads s.heap (.ref a) (.dict []) (a :: [] ++ []) := .dict e1 e2.1 e3 (by rw [he]; exact .nil) (by rw [he]; exact .nil)
  refine repr_of_reads' rd rfl (fun _ z => ?_) hg (by show _ + (PyData.dict []).depth.succ < _; have : (PyData.dict []).depth ≤ 10 := by decide
                                                      omega) (fun _ _ e => e) (fun h' u' tk hk => ⟨.str _, H, I.kept (t' := tk) fun b o e => hk b o e, ⟨_, rfl⟩, q⟩) (by rw [sizeLine_eq]; decide)
  simp at z
  rw [← z] at hm
  simp at hm
theorem hasDict_dp {K : PySem.W.Frag} {H : Hp} {v : V} {d : PyData} (h : SeqAt.shaped d = true) : d.hasDict = false := PyData.hasDict_of_canLay d (SeqAt.canLay_of_shaped h)
mutual
theorem deepW_nodict {f : Nat → Option PyData} (hf : ∀ i pd, f i = some pd → pd.hasDict = false) : ∀ (d : D) (pd : PyData), deepW f d = some pd → pd.hasDict = false
  | .non, _, e => by cases e; rfl
  | .bl _, _, e => by cases e; rfl
  | .int _, _, e => by cases e; rfl
  | .str _, _, e => by cases e; rfl
  | .tup xs, pd, e => by
    simp only [deepW] at e
    cases q2 : deepWL f xs with
    | none => rw [q2] at e; cases e
    | some ys =>
      rw [q2] at e
      cases e
      simp only [PyData.hasDict]
      exact deepWL_nodict hf xs ys q2
  | .ref i, pd, e => hf i pd e
theorem deepWL_nodict {f : Nat → Option PyData} (hf : ∀ i pd, f i = some pd → pd.hasDict = false) : ∀ (ds : List D) (ps : List PyData), deepWL f ds = some ps → PyData.hasDictAll ps = false
  | [], ps, e => by cases e; rfl
  | x :: xs, ps, e => by
    simp only [deepWL] at e
    cases q1 : deepW f x with
    | none => rw [q1] at e; cases e
    | some y =>
      cases q2 : deepWL f xs with
      | none => rw [q1, q2] at e; cases e
      | some ys =>
        rw [q1, q2] at e
        cases e
        simp only [PyData.hasDictAll]
        rw [deepW_nodict hf x y q1, deepWL_nodict hf xs ys q2]
        rfl
end
theorem deepR_nodict {M : List MO} : ∀ (n i : Nat) (pd : PyData), deepR M n i = some pd → pd.hasDict = false
  | 0, _, _, e => by cases e
  | n + 1, i, pd, e => by
    simp only [deepR] at e
    split at e
    · rename_i w xs hm
      cases q2 : deepWL (deepR M n) xs with
      | none => rw [q2] at e; cases e
      | some ys =>
        rw [q2] at e
        cases e
        simp only [PyData.hasDict]
        exact deepWL_nodict (deepR_nodict n) xs ys q2
    · cases e
theorem deep_nodict {M : List MO} {d : D} {pd : PyData} (e : deep M d = some pd) : pd.hasDict = false := deepW_nodict (deepR_nodict 8) d pd e
def TyC.nm : TyC → String
  | .int => "int"
  | .bool => "bool"
  | .tuple => "tuple"
  | .list => "list"
  | .dict => "dict"
  | .str => "str"
def tySub : TyC → TyC → Bool
  | .int, .int => true
  | .bool, .bool => true
  | .bool, .int => true
  | .tuple, .tuple => true
  | .list, .list => true
  | .dict, .dict => true
  | .str, .str => true
  | _, _ => false
theorem kit_ty (K : PySem.W.Frag) (a c : TyC) : PySem.W.kitOne K (.type a.nm) (.type c.nm) = some (tySub a c) := by
  cases a <;> cases c <;> kernel_rfl
theorem kit_non (K : PySem.W.Frag) (c : TyC) : PySem.W.kitOne K (.type "NoneType") (.type c.nm) = some false := by
  cases c <;> kernel_rfl
theorem call_ok {b : List MO} {g : BI} {xs : List D} {s : HS b} {u : Out b D} (h : call g xs s = some u) : ∃ d s', u = .ok d s' := by
  cases g <;> simp only [call, ret] at h <;> (repeat' (first | (cases h; done) | (cases h; exact ⟨_, _, rfl⟩) | split at h))
def BI.hot : BI → Bool
  | .len => true
  | .tuple => true
  | .list => true
  | .int => true
  | .repr => true
  | .abs => true
  | .isi _ => true
  | _ => false
theorem cr_bi {g : BI} (hc' : g.hot = false → X.calm = true) (hu : X.A.units + 200 < cLine) (hg : X.A.guards = some []) (hn : ∀ t, g ≠ .isi t) : CallR X g.val (rF X.K g) := by
  intro pins s σ H xs us Q I rs h
  obtain ⟨b, hs, hs', r, ds, d, R, hx, e, T⟩ := h
  cases g with
  | len =>
    simp only [call, ret] at e
    split at e
    · rename_i x
      split at e
      · rename_i ys ei
        cases e
        obtain ⟨v, rfl, h1⟩ := one_rep hx
        obtain ⟨a, vs, rfl, hq, t⟩ := items_ok R h1 ei
        refine call_len_seq pins s σ H _ us Q I rs ⟨a, vs, rfl, hq.elim (fun z => .inl z.1) fun z => .inr z.1, ?_⟩
        rw [t.length]
        exact T.self R rfl
      · cases e
    · cases e
  | all =>
    have hc := hc' rfl
    simp only [call, ret] at e
    split at e
    · rename_i p
      split at e
      · rename_i w ys hm
        split at e
        · rename_i bs eb
          cases e
          obtain ⟨v, rfl, h1⟩ := one_rep hx
          obtain ⟨a, wa, ha, rfl⟩ := h1
          obtain ⟨vs, q, t⟩ := (R.ob hm ha).sq
          rw [t.bools eb] at q
          exact cr_all hc pins s σ H _ us Q I rs ⟨a, bs, rfl, q, T.self R rfl⟩
        · cases e
      · cases e
    · cases e
  | any =>
    have hc := hc' rfl
    simp only [call, ret] at e
    split at e
    · rename_i p
      split at e
      · rename_i w ys hm
        split at e
        · rename_i bs eb
          cases e
          obtain ⟨v, rfl, h1⟩ := one_rep hx
          obtain ⟨a, wa, ha, rfl⟩ := h1
          obtain ⟨vs, q, t⟩ := (R.ob hm ha).sq
          rw [t.bools eb] at q
          exact cr_any hc pins s σ H _ us Q I rs ⟨a, bs, rfl, q, T.self R rfl⟩
        · cases e
      · cases e
    · cases e
  | sum =>
    have hc := hc' rfl
    simp only [call, ret] at e
    split at e
    · rename_i x
      split at e
      · rename_i ys ei
        split at e
        · rename_i ns en
          cases e
          obtain ⟨v, rfl, h1⟩ := one_rep hx
          obtain ⟨a, vs, rfl, hq, t⟩ := items_ok R h1 ei
          rw [t.ints en] at hq
          rcases hq with ⟨hq, _⟩ | ⟨hq, _⟩
          · exact cr_sum hc pins s σ H _ us Q I rs ⟨a, ns, rfl, hq, T.self R rfl⟩
          · exact cr_sumT hc pins s σ H _ us Q I rs ⟨a, ns, rfl, hq, T.self R rfl⟩
        · cases e
      · cases e
    · cases e
  | tuple =>
    simp only [call, ret] at e
    split at e
    · rename_i x
      split at e
      · rename_i ys ei
        cases e
        obtain ⟨v, rfl, h1⟩ := one_rep hx
        obtain ⟨a, vs, rfl, hq, t⟩ := items_ok R h1 ei
        rcases hq with ⟨hq, _⟩ | ⟨hq, rfl⟩
        · exact call_tuple_of pins s σ H _ us Q I rs ⟨a, vs, rfl, .inl ⟨hq, fun l hl => T.tup R t l hl⟩⟩
        · exact call_tuple_of pins s σ H _ us Q I rs ⟨a, vs, rfl, .inr ⟨hq, T.self R h1⟩⟩
      · cases e
    · cases e
  | list =>
    simp only [call, ret] at e
    split at e
    · rename_i x
      split at e
      · rename_i ys ei
        cases e
        obtain ⟨v, rfl, h1⟩ := one_rep hx
        obtain ⟨a, vs, rfl, hq, t⟩ := items_ok R h1 ei
        exact call_list_of pins s σ H _ us Q I rs ⟨a, vs, rfl, hq.elim (fun z => .inl z.1) fun z => .inr z.1, fun l hl => T.lst R t l hl⟩
      · cases e
    · cases e
  | int =>
    simp only [call, ret] at e
    split at e
    · rename_i i
      cases e
      obtain ⟨v, rfl, h1⟩ := one_rep hx
      cases h1
      exact call_int1 pins s σ H _ us Q I rs (.inl ⟨i, rfl, T.self R rfl⟩)
    · rename_i k
      cases e
      obtain ⟨v, rfl, h1⟩ := one_rep hx
      cases h1
      exact call_int1 pins s σ H _ us Q I rs (.inr ⟨k, rfl, T.self R rfl⟩)
    · cases e
  | max2 =>
    have hc := hc' rfl
    simp only [call, ret] at e
    split at e
    · rename_i i j
      cases e
      obtain ⟨v, v', rfl, h1, h2⟩ := two_rep hx
      cases h1; cases h2
      exact call_max2 hc pins s σ H _ us Q I rs ⟨i, j, rfl, T.self R rfl⟩
    · cases e
  | min2 =>
    have hc := hc' rfl
    simp only [call, ret] at e
    split at e
    · rename_i i j
      cases e
      obtain ⟨v, v', rfl, h1, h2⟩ := two_rep hx
      cases h1; cases h2
      exact call_min2 hc pins s σ H _ us Q I rs ⟨i, j, rfl, T.self R rfl⟩
    · cases e
  | repr =>
    simp only [call, ret] at e
    split at e
    · rename_i x
      split at e
      · rename_i pd ed
        split at e
        · rename_i z
          cases e
          simp only [Bool.and_eq_true, decide_eq_true_eq] at z
          obtain ⟨v, rfl, h1⟩ := one_rep hx
          exact cr_repr hu hg pins s σ H _ us Q I rs ⟨v, pd, rfl, deep_ok R ed h1, z.1.1, deep_nodict ed, z.2, sizeOk_le z.1.2, T.self R rfl⟩
        · cases e
      · split at e
        · rename_i p
          split at e
          · rename_i hm
            cases e
            obtain ⟨v, rfl, a, wa, ha, rfl⟩ := one_rep hx
            exact cr_repr0 hu hg pins s σ H _ us Q I rs ⟨a, rfl, (R.ob hm ha).2, T.self R rfl⟩
          · cases e
        · cases e
    · cases e
  | abs =>
    simp only [call, ret] at e
    split at e
    · rename_i i
      cases e
      obtain ⟨v, rfl, h1⟩ := one_rep hx
      cases h1
      exact call_abs pins s σ H _ us Q I rs ⟨i, rfl, T.self R rfl⟩
    · cases e
  | isi t => exact absurd rfl (hn t)
theorem cr_isi (t : TyC) : CallR X (.builtin "isinstance") (fun xs H Q => ∃ (v : V), xs = [v, .ty t.nm] ∧ rF X.K (.isi t) [v] H Q) := by
  intro pins s σ H xs us Q I rs h
  obtain ⟨v, rfl, b, hs, hs', r, ds, d, R, hx, e, T⟩ := h
  simp only [call, ret] at e
  split at e
  · rename_i x
    split at e
    · rename_i k ek
      cases e
      obtain ⟨v', e', h1⟩ := one_rep hx
      cases e'
      have go : ∀ a : TyC, TyX X.K H v (.type a.nm) → k = tySub a t →
          wpAny (model X.prog X.w) X.A (PySem.call (.builtin "isinstance") us) (EP X pins σ Q) X.xe s := fun a ta ea =>
        call_isi pins s σ H _ us Q I rs ⟨v, .ty t.nm, .type a.nm, .type t.nm, k, rfl, .ty _, ta, by rw [ea]; exact kit_ty _ a t, T.self R rfl⟩
      cases x with
      | non =>
        cases h1
        cases ek
        refine call_isi pins s σ H _ us Q I rs ⟨.non, .ty t.nm, .type "NoneType", .type t.nm, false, rfl, .ty _, .base .non, kit_non _ t, T.self R rfl⟩
      | bl z =>
        cases h1
        simp only [isTy] at ek
        exact go .bool (.base (.bl z)) (by cases t <;> (cases ek; rfl))
      | int z =>
        cases h1
        simp only [isTy] at ek
        exact go .int (.base (.int z)) (by cases t <;> (cases ek; rfl))
      | str z =>
        cases h1
        simp only [isTy] at ek
        exact go .str (.base (.str z)) (by cases t <;> (cases ek; rfl))
      | tup zs =>
        obtain ⟨a, vs, rfl, q, tt⟩ := h1
        simp only [isTy] at ek
        refine go .tuple ?_ (by cases t <;> (cases ek; rfl))
        rcases q with (q | ⟨o, q⟩) | ⟨o, its, n, k1, k2, _⟩
        · exact .base (.tup q)
        · exact .fTuple q
        · exact .kTuple k1 k2
      | ref i =>
        obtain ⟨a, wa, ha, rfl⟩ := h1
        simp only [isTy] at ek
        split at ek
        · rename_i w zs hm
          refine go .list ?_ (by cases t <;> (cases ek; rfl))
          have ro := R.ob hm ha
          cases w with
          | true => obtain ⟨vs, e1, _⟩ := ro; exact .base (.lst e1)
          | false =>
            obtain ⟨vs, e1, _⟩ := ro
            rcases e1 with ⟨o, q⟩ | ⟨o, its, n, k1, k2, _⟩
            · exact .base (.frz q)
            · exact .kList k1 k2
        · rename_i kvs hm
          obtain ⟨_, e1⟩ := R.ob hm ha
          exact go .dict (.base (.dK e1)) (by cases t <;> (cases ek; rfl))
        · cases ek
    · cases e
  · cases e
end
end PV
set_option Elab.async false
set_option linter.all false
set_option autoImplicit false
set_option maxRecDepth 100000
set_option maxHeartbeats 1000000
namespace PV
open PySem PySem.Spec PyProof.Rows L2
structure FnG (P : Program) (w : World) (K : PySem.W.Frag) (mg : Str → Option Value) (base : Heap) (k : Nat) (f : Addr) (fd : FuncData) (ps : List Str) (sp : Sp) : Prop where
  len : ∀ vs H Q E, sp vs H Q E → vs.length = ps.length
  run : ∀ (A : Around) (outer : List PySem.Env) (s : Shared) (H : Hp) (args : Args) (us : List Value) (vs : List V) (Q : VK) (E : XK), Room k A → A.guards = some [] → Env0 P w K mg base A outer s H →
    BindsTo s fd args (ps.zip us) → Vals vs us → sp vs H Q E → codeAny (model P w) A (.call (.ref f) args) (CR (L2.CX P w) outer P w H s Q E) s
section
variable {X : Cx} {k : Nat} {f : Addr} {fd : FuncData} {ps : List Str} {sp : Sp} {W : WX} {x : Str} {p pos : Pos} {e : Expr} {es : List Expr} {t : TA}
theorem run_g {pins : List (Addr × Obj)} {σ : L2.St} {H : Hp} {s : Shared} {Q : VK} {us : List Value} {vs : List V} (F : FnG X.prog X.w X.K X.mg X.base k f fd ps sp) (hr : Room k X.A) (hg : X.A.guards = some []) (hb : Binds X.K fd ps [])
    (tk : Takes X W) (I : Inv X pins σ H s) (r : Vals vs us) (h : sp vs H Q fun c d H' => W c d σ H') : wpAny (model X.prog X.w) X.A (PySem.call (.ref f) us) (EP X pins σ Q) X.xe s := by
  have hl : us.length = ps.length := by rw [← r.length]; exact F.len _ _ _ _ h
  have hb' : BindsTo s fd ⟨us, []⟩ (ps.zip us) := by
    have q := hb s us I.kIn (by rw [List.append_nil]; exact hl)
    rw [List.append_nil] at q
    exact q
  refine wpAny_call (codeAny_mono (F.run X.A X.stack s H ⟨us, []⟩ us vs Q _ hr hg I.env0 hb' r h) fun res s' hq => ?_)
  match res, hq with
  | .error u, hq => exact tk u s' (XE.of_call I (fun _ _ _ z => z) hq)
  | .ok (.ret u), hq => exact I.after hq
  | .ok .next, hq => exact False.elim hq
  | .ok .brk, hq => exact False.elim hq
  | .ok .cont, hq => exact False.elim hq
def tG (sp : Sp) (W : WX) (t : TA) : TE := fun σ H Q => t σ H fun vs H1 => sp vs H1 Q fun c d H' => W c d σ H'
theorem pe_g (F : FnG X.prog X.w X.K X.mg X.base k f fd ps sp) (hr : Room k X.A) (hgd : X.A.guards = some []) (hg : Gl X x) (hm : X.mg x = some (.ref f)) (hk : PySem.W.keepIn X.K (.ref f) = true) (hb : Binds X.K fd ps []) (tk : Takes X W)
    (ha : PA X (e :: es) t) (hdb : (x == ("__debug__" : Str)) = false) (he : starEach (e :: es) X.env = (false, eval e X.env) :: starEach es X.env) (hpl : (backTo pos (starEach es X.env)).any (·.1) = false) :
    PE X (.Call (.Name x p) (e :: es) [] pos) (tG sp W t) :=
  ⟨fun pins s σ H Q I h => wpAny_Call_Name_kw (ld_glob I hg hm (PySem.W.callWith_K (h₀ := X.base) I.ok.mod.kin hk
    (thn (ha.run pos pins s σ H _ I h) fun us s1 ⟨vs, H1, I1, r, q⟩ => ⟨I1.kIn, run_g F hr hgd hb tk I1 r q⟩) he hpl) hdb)⟩
theorem pe_g0 (F : FnG X.prog X.w X.K X.mg X.base k f fd ps sp) (hr : Room k X.A) (hgd : X.A.guards = some []) (hg : Gl X x) (hm : X.mg x = some (.ref f)) (hk : PySem.W.keepIn X.K (.ref f) = true) (hb : Binds X.K fd ps []) (tk : Takes X W)
    (hdb : (x == ("__debug__" : Str)) = false) : PE X (.Call (.Name x p) [] [] pos) (tG sp W tNil) :=
  ⟨fun pins s σ H Q I h => wpAny_Call_Name_kw (ld_glob I hg hm (PySem.W.callWith_K0 I.kIn hk (run_g (us := []) F hr hgd hb tk I .nil h)) hdb)⟩
end
theorem fn_g {P : Program} {w : World} {K : PySem.W.Frag} {mg : Str → Option Value} {base : Heap} {k : Nat} {f : Addr} {name qual : Str} {params : Arguments} {body : List Stmt} {scope : Scope} {dV kV doc pm cdv ct oc : Value} {an od : Option Addr}
    {osl : Array (Option Value)} {N ps : List Str} {sp : Sp} (lk : K.lookup f = some ⟨oc, od, .func (PySem.W.fnOf name qual params body scope dV kV doc pm an cdv ct), osl⟩) (hcd : PySem.W.codeIn K cdv qual = true) (S : FnScope N ps scope)
    (len : ∀ vs H Q E, sp vs H Q E → vs.length = ps.length)
    (hbody : ∀ (A : Around) (outer : List PySem.Env) (s : Shared) (H : Hp) (vs : List V) (Q : VK) (E : XK), Room k (A.deeper (envOfC qual scope s.heap.objs.size f cdv)) → A.guards = some [] → sp vs H Q E →
      ∃ t, PSs (cxOf (L2.CX P w) P w K mg base N qual scope f cdv A outer s H E) body t ∧ t { nx := fun _ H' => Q .non H', rt := Q } (start N vs) H) :
    FnG P w K mg base (k + 1) f (PySem.W.fnOf name qual params body scope dV kV doc pm an cdv ct) ps sp := by
  refine ⟨len, fun A outer s H args us vs Q E hr hgd e0 hb r hsp => ?_⟩
  have hin : ∀ b o, base.get? b = some o → s.heap.get? b = some o := fun b o e => (e0.bs b o e).1
  have KX : K.In s.heap := e0.mod.kin.keeps hin
  refine codeAny_call_function hr.depth (KX _ _ lk) rfl S.co S.gen rfl (PySem.W.codeRec_of KX hcd) (hb _ _ _ _ (wpAny_newFunctionEnv_cells S.kind (fun y hy => ?_) fun env he s1 x => ?_))
  · rcases S.par y.1 (List.of_mem_zip (show (y.1, y.2) ∈ ps.zip us from hy)).1 with q | q
    · exact .inl q
    · exact .inr ⟨q, PySem.W.cellsFrom_some _ _ _ (.inl q)⟩
  · subst he
    obtain ⟨t, ht, hq⟩ := hbody A outer s H vs Q E (hr.deeper _) hgd hsp
    have I := inv_start (CX := L2.CX P w) (E := E) S hr.hd e0 (len _ _ _ _ hsp) r x
    refine ⟨(e0.mod.nolimit.keeps hin).keeps x.toInCall.keep, codeAny_func (wpAny_mono (ht.run [] s1 (start N vs) H _ I hq) (fun fl s' hs => ?_) fun _ _ z => z)⟩
    match fl, hs with
    | .ret u, ⟨v, σ', H', J, rv, q⟩ => exact ⟨v, H', J.os, J.bare, J.base, J.hok, rv, q⟩
    | .next, ⟨σ', H', J, q⟩ => exact ⟨V.non, H', J.os, J.bare, J.base, J.hok, rfl, q⟩
    | .brk, ⟨_, _, _, q⟩ => exact False.elim q
    | .cont, ⟨_, _, _, q⟩ => exact False.elim q
theorem law_g {P : Program} {w : World} {K : PySem.W.Frag} {mg mb : Str → Option Value} {k : Nat} {fa a : Addr} {fd : FuncData} {x : Str} {sp : Sp} {s1 : Shared} {vs : List Value} {ns : List Int}
    (KX : K.In s1.heap) (hns : s1.heap.Ns mainGlobals mg) (hb : s1.heap.Ns builtinsNs mb) (hbb : ∀ x : Str, x ≠ "__name__" → mb x = bootBuiltins x) (hlim : s1.heap.NoLimit) (hg : s1.gens = #[])
    (ha : s1.heap.get? a = some { cls := .type "list", data := .seq vs.toArray }) (hi : IntsAre vs ns) (hl : ns.length ≤ sizeLine) (hr : Room k callerA)
    (F : ∀ base : Heap, K.In base → base.Ns mainGlobals mg → FnG P w K mg base k fa fd [x] sp) (hbind : ∀ (s : Shared) (u : Value), BindsTo s fd ⟨[u], []⟩ [(x, u)])
    (hsp : ∀ H : Hp, Fz K H a (ns.map V.int) → sp [.ref a] H (fun v _ => v = .bl true) fun _ _ _ => False) :
    codeAny (model P w) callerA (.call (.ref fa) ⟨[.ref a], []⟩) (fun r s' => r = .ok (.ret (.bool true)) ∧ OldK s1.heap s'.heap ∧ s'.os = s1.os ∧ AllBare s'.gens) s1 := by
  have lenV := hi.length
  have go : ∀ H : Hp, (∀ b u, H b = some u → b = a ∧ K.lookup a = none ∧ ∃ o xs, u = .frz o (.lst xs)) → Fz K H a (ns.map V.int) → HOk P w H s1.heap →
      codeAny (model P w) callerA (.call (.ref fa) ⟨[.ref a], []⟩) (fun r s' => r = .ok (.ret (.bool true)) ∧ OldK s1.heap s'.heap ∧ s'.os = s1.os ∧ AllBare s'.gens) s1 := by
    intro H hO hS hok
    have only : ∀ {b : Addr}, b ≠ a → H b = none := fun {b} nb => by
      cases q : H b with
      | none => rfl
      | some u => exact absurd (hO b u q).1 nb
    have nsK : ∀ {b : Addr} {m : Str → Option Value}, s1.heap.Ns b m → (hidT s1.heap H).Ns b m := fun {b m} ⟨o, es, ep, e, d, r⟩ => ⟨o, es, ep, hidT_get e (only fun z => by
      subst z
      rw [ha] at e
      cases e
      have z2 : Data.seq vs.toArray _ = Data.dict es ep := d
      cases z2), d, r⟩
    have hKb : K.In (hidT s1.heap H) := fun b o e => hidT_get (KX b o e) (by
      cases q : H b with
      | none => rfl
      | some u =>
        obtain ⟨z, z2, _⟩ := hO b u q
        rw [z, z2] at e
        cases e)
    have hM : Mod K mg (hidT s1.heap H) := ⟨hKb, nsK hns, ⟨mb, nsK hb, hbb⟩, let ⟨mc, h1, h2⟩ := hlim; ⟨mc, nsK h1, h2⟩⟩
    have e0 : Env0 P w K mg (hidT s1.heap H) callerA [] s1 H := ⟨rfl, hM, fun b o e => of_hidT e, Nat.le_of_eq (hidT_size _ _), trivial, fun b hb => (by cases (show b ∈ ([] : List Addr) from hb)), hok, .of_eq hg⟩
    refine codeAny_mono ((F _ hKb (nsK hns)).run callerA [] s1 H ⟨[.ref a], []⟩ [.ref a] [.ref a] _ _ hr rfl e0 (hbind s1 (.ref a)) (.cons rfl .nil) (hsp H hS)) fun r s' h => ?_
    match r, h with
    | .error e, h =>
      obtain ⟨_, _, _, _, _, _, _, _, _, _, _, _, z⟩ := h
      exact z.elim
    | .ok .next, h => exact False.elim h
    | .ok .brk, h => exact False.elim h
    | .ok .cont, h => exact False.elim h
    | .ok (.ret u), ⟨v, H', os, bare, un, hok', r', q⟩ =>
      subst q
      obtain rfl : u = Value.bool true := r'
      refine ⟨rfl, OldK.of_keep fun b o e => ?_, os, bare⟩
      cases q : H b with
      | none => exact un.keep b o e q (fun z => (by cases (show b ∈ ([] : List Addr) from z))) (by simp)
      | some y =>
        obtain ⟨_, _, ob, xs, rfl⟩ := hO b y q
        have e2 := (hok' b _ (un.frzs b ob _ q)).1
        have e1 := (hok b _ q).1
        rw [e] at e1
        cases e1
        exact e2
  cases hk : K.lookup a with
  | some o =>
    have e := KX a o hk
    rw [ha] at e
    cases e
    exact go (fun _ => none) (fun _ _ z => by cases (show (none : Option HO) = some _ from z)) (.inr ⟨_, vs.toArray, _, hk, rfl, rfl, rfl, by rw [List.size_toArray, lenV]; exact hl, by simpa using vals_ints hi⟩) (fun _ _ z => by cases (show (none : Option HO) = some _ from z))
  | none =>
    have key : ∀ (b : Addr) (u : HO), (if b = a then some (HO.frz { cls := .type "list", data := .seq vs.toArray } (.lst (ns.map V.int))) else none) = some u → b = a ∧ u = HO.frz { cls := .type "list", data := .seq vs.toArray } (.lst (ns.map V.int)) := fun b u z => by
      by_cases h : b = a
      · rw [if_pos h] at z
        exact ⟨h, (Option.some.inj z).symm⟩
      · rw [if_neg h] at z
        cases z
    refine go (fun b => if b = a then some (.frz { cls := .type "list", data := .seq vs.toArray } (.lst (ns.map V.int))) else none) (fun b u z => ?_) (.inl ⟨_, if_pos rfl⟩) (fun b u z => ?_)
    · obtain ⟨h1, h2⟩ := key b u z
      exact ⟨h1, hk, _, _, h2⟩
    · obtain ⟨h1, h2⟩ := key b u z
      subst h1 h2
      exact ⟨ha, by rw [List.length_map]; exact hl, vs, _, vals_ints hi, ha⟩
end PV
set_option Elab.async false
set_option linter.all false
set_option autoImplicit false
set_option maxRecDepth 100000
set_option maxHeartbeats 4000000
namespace PV
open PySem PySem.Spec PyProof.Rows L2
theorem look_app {α : Type} (n : Str) : ∀ (a b : List (Str × α)), (a ++ b).lookup n = match a.lookup n with
    | some v => some v
    | none => b.lookup n
  | [], b => rfl
  | (k, v) :: a, b => by
    rw [List.cons_append, List.lookup_cons, List.lookup_cons]
    cases n == k with
    | true => rfl
    | false => exact look_app n a b
theorem kw_loop' {α : Type} {body : Str × Value → List (Str × Value) × α → Sem (ForInStep (List (Str × Value) × α))} {x : α} {ok : Str → Prop} (hb : ∀ k v S, S.lookup k = none → ok k → body (k, v) (S, x) = pure (.yield (S ++ [(k, v)], x))) :
    ∀ (kv : List (Str × Value)) (S : List (Str × Value)), (∀ q ∈ kv, ok q.1 ∧ S.lookup q.1 = none) → (kv.map (·.1)).Nodup → forIn kv (S, x) body = pure (S ++ kv, x)
  | [], S, _, _ => by simp
  | (k, v) :: kv, S, h, nd => by
    have h0 := h (k, v) List.mem_cons_self
    rw [List.map_cons, List.nodup_cons] at nd
    have ih := kw_loop' hb kv (S ++ [(k, v)]) (fun q hq => ⟨(h q (List.mem_cons_of_mem _ hq)).1, by
      rw [look_app, (h q (List.mem_cons_of_mem _ hq)).2]
      simp only [List.lookup]
      have : (q.1 == k) = false := by
        rw [beq_eq_false_iff_ne]
        intro z
        exact nd.1 (List.mem_map.mpr ⟨q, hq, z⟩)
      rw [this]⟩) nd.2
    rw [List.forIn_cons, hb k v S h0.2 h0.1]
    simp only [pure_bind]
    rw [ih]
    simp
def addD {α : Type} (S : List (Str × α)) : List (Str × α) → List (Str × α)
  | [] => S
  | (n, d) :: r => addD (if (S.lookup n).isNone then S ++ [(n, d)] else S) r
theorem addD_look {α : Type} (n : Str) : ∀ (l S : List (Str × α)), (addD S l).lookup n = (S ++ l).lookup n
  | [], S => by simp [addD]
  | (m, d) :: l, S => by
    rw [addD, addD_look n l]
    rw [look_app, look_app]
    cases hm : S.lookup m with
    | none =>
      simp only [Option.isNone_none, if_true]
      rw [look_app]
      simp only [List.lookup]
      cases hn : S.lookup n with
      | some v => rfl
      | none =>
        simp only
        cases n == m <;> rfl
    | some v =>
      simp only [Option.isNone_some, Bool.false_eq_true, if_false]
      cases hn : S.lookup n with
      | some v => rfl
      | none =>
        simp only [List.lookup]
        have : (n == m) = false := by
          rw [beq_eq_false_iff_ne]
          intro z
          subst z
          rw [hm] at hn
          cases hn
        rw [this]
theorem df_loop : ∀ (l S : List (Str × Value)), (forIn l S fun x S => if (List.lookup x.fst S).isNone = true then (pure (ForInStep.yield (S ++ [(x.fst, x.snd)])) : Sem (ForInStep (List (Str × Value)))) else pure (ForInStep.yield S)) = pure (addD S l)
  | [], S => by simp [addD]
  | (n, d) :: l, S => by
    rw [List.forIn_cons]
    cases h : (S.lookup n).isNone with
    | true =>
      simp only [h, if_true, pure_bind]
      rw [df_loop l]
      simp [addD, h]
    | false =>
      simp only [h, Bool.false_eq_true, if_false, pure_bind]
      rw [df_loop l]
      simp [addD, h]
theorem ko_loop {K : PySem.W.Frag} {M : Model} {h : Heap} {D : Addr} (X : K.In h) : ∀ (kos : List (Str × Value)) (S : List (Str × Value)), (∀ q ∈ kos, PySem.W.nsIn K D q.1 = some (some q.2)) →
    PySem.W.Looks M h (forIn (kos.map (·.1)) (S, ([] : List Str)) fun name s =>
      if (List.lookup name s.fst).isNone = true then do
        let dflt ← nsGet D name
        match dflt with
          | some v => pure (ForInStep.yield (s.fst ++ [(name, v)], s.snd))
          | none => pure (ForInStep.yield (s.fst, s.snd ++ [name]))
      else pure (ForInStep.yield (s.fst, s.snd))) (addD S kos, [])
  | [], S, _ => by
    rw [List.map_nil, List.forIn_nil]
    exact .of_pure rfl
  | (n, d) :: kos, S, hk => by
    rw [List.map_cons, List.forIn_cons]
    cases hn : (S.lookup n).isNone with
    | true =>
      simp only [hn, if_true, bind_assoc]
      refine (PySem.W.looks_nsIn X (hk (n, d) List.mem_cons_self)).andThen ?_
      simp only [pure_bind]
      have := ko_loop X (M := M) kos (S ++ [(n, d)]) fun q hq => hk q (List.mem_cons_of_mem _ hq)
      simpa [addD, hn] using this
    | false =>
      simp only [hn, Bool.false_eq_true, if_false, pure_bind]
      have := ko_loop X (M := M) kos S fun q hq => hk q (List.mem_cons_of_mem _ hq)
      simpa [addD, hn] using this
theorem bind_gen {K : PySem.W.Frag} {M : Model} {h : Heap} (X : K.In h) {fd : FuncData} {ps : List Str} {kos : List (Str × Value)} {its us ws : List Value} {ks : List Str} (h1 : fd.params.posonlyargs = []) (h2 : fd.params.args.map (·.arg) = ps) (h3 : fd.params.vararg = none) (h4 : fd.params.kwonlyargs.map (·.arg) = kos.map (·.1)) (h5 : fd.params.kwarg = none)
    (hd : (fd.defaults = .none ∧ its = []) ∨ ∃ (T : Addr) (o : Obj) (n : Nat), fd.defaults = .ref T ∧ K.lookup T = some o ∧ o.data = .seq its.toArray n) (hk : kos = [] ∨ ∃ D : Addr, fd.kwdefaults = .ref D ∧ ∀ q ∈ kos, PySem.W.nsIn K D q.1 = some (some q.2))
    (hl : us.length ≤ ps.length) (hi : its.length ≤ ps.length) (hks : ks.Nodup) (hk1 : ∀ k ∈ ks, k ∈ ps ∨ k ∈ kos.map (·.1)) (hk2 : ∀ k ∈ ks, (ps.zip us).lookup k = none) (hw : ws.length = ks.length)
    (hm : ∀ n ∈ ps.take (ps.length - its.length), ((ps.zip us ++ ks.zip ws).lookup n).isSome = true) :
    PySem.W.Looks M h (bindArgs fd ⟨us, ks.zip ws⟩) ((ps ++ kos.map (·.1)).filterMap fun n => ((ps.zip us ++ ks.zip ws ++ (ps.drop (ps.length - its.length)).zip its ++ kos).lookup n).map (n, ·)) := by
  have hz : (ks.zip ws).map (·.1) = ks := by
    rw [List.map_fst_zip]
    omega
  unfold bindArgs
  simp only [h1, h2, h3, h4, h5, List.map_nil, List.nil_append, List.append_nil, Option.isSome_none, Option.isNone_none]
  rw [kw_loop' (ok := fun k => (ps.contains k || (kos.map (·.1)).contains k) = true) (fun k v S e1 e2 => by
    simp only [e1, e2, if_true, Option.isSome_none, Bool.false_eq_true, if_false]) (ks.zip ws) (ps.zip us) (fun q hq => by
      have : q.1 ∈ ks := by rw [← hz]; exact List.mem_map.mpr ⟨q, hq, rfl⟩
      refine ⟨?_, hk2 _ this⟩
      rw [Bool.or_eq_true]
      rcases hk1 _ this with z | z
      · exact .inl (by simpa using z)
      · exact .inr (by simpa using z)) (by rw [hz]; exact hks)]
  simp only [pure_bind]
  have items : PySem.W.Looks M h (seqItems? fd.defaults) (if its.isEmpty = true ∧ fd.defaults = .none then none else some its.toArray) := by
    rcases hd with ⟨e1, e2⟩ | ⟨T, o, n, e1, e2, e3⟩
    · rw [e1, e2]
      exact .of_pure rfl
    · rw [e1, if_neg (fun z => nomatch z.2)]
      have := looks_items (M := M) (h := h) (k := fun x => pure x) (r := some its.toArray) X e2 e3 (.of_pure rfl)
      simpa using this
  refine items.andThen ?_
  have dl : ((if its.isEmpty = true ∧ fd.defaults = .none then none else some its.toArray : Option (Array Value)).getD #[]).toList = its := by
    split
    · rename_i z
      have : its = [] := by simpa using z.1
      rw [this]
      rfl
    · rfl
  rw [dl]
  have hg : ¬ us.length > ps.length := by omega
  have hdz : its.length - ps.length = 0 := by omega
  simp only [hg, decide_false, Bool.false_and, Bool.false_eq_true, if_false, hdz, List.drop_zero]
  have hmm : (List.filter (fun n => (List.lookup n (ps.zip us ++ ks.zip ws)).isNone) (List.take (ps.length - its.length) ps)) = [] := by
    rw [List.filter_eq_nil_iff]
    intro n hn
    have := hm n hn
    cases e : (ps.zip us ++ ks.zip ws).lookup n with
    | none => rw [e] at this; cases this
    | some v => simp
  simp only [hmm, List.isEmpty_nil, Bool.not_true, Bool.false_eq_true, if_false]
  rw [df_loop]
  simp only [pure_bind]
  have fin : ∀ S : List (Str × Value), (∀ n, S.lookup n = (ps.zip us ++ ks.zip ws ++ (ps.drop (ps.length - its.length)).zip its ++ kos).lookup n) → (List.filterMap (fun n => Option.map (fun x => (n, x)) (List.lookup n S)) (ps ++ kos.map (·.1))) = ((ps ++ kos.map (·.1)).filterMap fun n => ((ps.zip us ++ ks.zip ws ++ (ps.drop (ps.length - its.length)).zip its ++ kos).lookup n).map (n, ·)) := fun S hS => by
    congr 1
    funext n
    rw [hS]
  rcases hk with rfl | ⟨D, e1, e2⟩
  · rw [List.map_nil, List.forIn_nil]
    simp only [pure_bind, List.isEmpty_nil, Bool.not_true, Bool.false_eq_true, if_false]
    refine .of_pure (congrArg pure ?_)
    exact fin _ fun n => by rw [addD_look]; simp
  · rw [e1]
    refine (ko_loop X kos _ e2).andThen ?_
    simp only [List.isEmpty_nil, Bool.not_true, Bool.false_eq_true, if_false]
    refine .of_pure (congrArg pure ?_)
    exact fin _ fun n => by
      rw [addD_look, look_app, addD_look, ← look_app]
def KvR {α β : Type} (G : α → β → Prop) : List (Str × α) → List (Str × β) → Prop := Paired fun p q => p.1 = q.1 ∧ G p.2 q.2
theorem KvR.app {α β : Type} {G : α → β → Prop} : ∀ {a : List (Str × α)} {b : List (Str × β)} {c : List (Str × α)} {d : List (Str × β)}, KvR G a b → KvR G c d → KvR G (a ++ c) (b ++ d)
  | _, _, _, _, .nil, h => h
  | _, _, _, _, .cons x t, h => .cons x (KvR.app t h)
theorem KvR.zip {α β : Type} {G : α → β → Prop} : ∀ (ns : List Str) {a : List α} {b : List β}, Paired G a b → KvR G (ns.zip a) (ns.zip b)
  | [], _, _, _ => by rw [List.zip_nil_left, List.zip_nil_left]; exact .nil
  | n :: ns, _, _, .nil => by rw [List.zip_nil_right, List.zip_nil_right]; exact .nil
  | n :: ns, _, _, .cons x t => .cons ⟨rfl, x⟩ (KvR.zip ns t)
theorem KvR.look {α β : Type} {G : α → β → Prop} {n : Str} {d : α} : ∀ {a : List (Str × α)} {b : List (Str × β)}, KvR G a b → a.lookup n = some d → ∃ u, b.lookup n = some u ∧ G d u
  | _, _, .nil, h => by cases h
  | (k, x) :: a, (k', y) :: b, .cons ⟨e, g⟩ t, h => by
    have e' : k = k' := e
    subst e'
    rw [List.lookup_cons] at h ⊢
    cases hk : n == k with
    | true =>
      rw [hk] at h
      cases h
      exact ⟨y, rfl, g⟩
    | false =>
      rw [hk] at h
      exact KvR.look t h
theorem arrV_rel {α β : Type} {G : α → β → Prop} {pn : List Str} {a : List (Str × α)} {b : List (Str × β)} (h : KvR G a b) : ∀ {ns : List Str} {ds : List α}, arrV pn a ns = some ds → ∃ us, arrV pn b ns = some us ∧ Paired G ds us
  | [], ds, e => by
    cases e
    exact ⟨[], rfl, .nil⟩
  | n :: ns, ds, e => by
    rw [arrV] at e
    split at e
    · rename_i d dr e1 e2
      cases e
      obtain ⟨u, h1, h2⟩ := h.look e1
      obtain ⟨us, k1, k2⟩ := arrV_rel h e2
      exact ⟨u :: us, by rw [arrV, h1, k1], .cons h2 k2⟩
    · cases e
theorem arrV_zip {pn : List Str} {kv : List (Str × Value)} : ∀ {ns : List Str} {us : List Value}, arrV pn kv ns = some us → (ns.filterMap fun n => (kv.lookup n).map (n, ·)) = ns.zip us ∧ us.length = ns.length ∧ ∀ n ∈ ns, (kv.lookup n).isSome = true
  | [], us, e => by
    cases e
    exact ⟨rfl, rfl, fun n h => by cases h⟩
  | n :: ns, us, e => by
    rw [arrV] at e
    split at e
    · rename_i d dr e1 e2
      cases e
      obtain ⟨k1, k2, k3⟩ := arrV_zip e2
      refine ⟨by rw [List.filterMap_cons, e1]; simp [k1], by simp [k2], fun m hm => ?_⟩
      rcases List.mem_cons.mp hm with rfl | hm
      · rw [e1]; rfl
      · exact k3 m hm
    · cases e
def Stands (K : PySem.W.Frag) (r : RA) (H : Hp) (d : D) (u : Value) : Prop := ∃ v, Rep K r H d v ∧ RelV v u
theorem stands_of {K : PySem.W.Frag} {r : RA} {H : Hp} : ∀ {ds : List D} {vs : List V} {us : List Value}, RepL K r H ds vs → Vals vs us → Paired (Stands K r H) ds us
  | [], vs, us, h, r => by
    cases (show vs = [] from h)
    cases r
    exact .nil
  | d :: ds, vs, us, h, r => by
    obtain ⟨v, vr, rfl, h1, h2⟩ := h
    cases r with
    | cons r1 r2 => exact .cons ⟨v, h1, r1⟩ (stands_of h2 r2)
theorem stands_to {K : PySem.W.Frag} {r : RA} {H : Hp} : ∀ {ds : List D} {us : List Value}, Paired (Stands K r H) ds us → ∃ vs, RepL K r H ds vs ∧ Vals vs us
  | _, _, .nil => ⟨[], rfl, .nil⟩
  | _, _, .cons ⟨v, h1, h2⟩ t => by
    obtain ⟨vs, k1, k2⟩ := stands_to t
    exact ⟨v :: vs, ⟨v, vs, rfl, h1, k1⟩, .cons h2 k2⟩
def KaOk (K : PySem.W.Frag) (fd : FuncData) (ps : List Str) (a : ArI) : Prop := a.pn = ps ∧ ∃ dU : List (Str × Value), (∀ (r : RA) (H : Hp), KvR (Stands K r H) a.dfl dU) ∧
  ∀ (s : Shared) (us ws zs : List Value) (ks : List Str), K.In s.heap → arrB a us.length ks = true → ws.length = ks.length → arrV a.pn (a.pn.zip us ++ ks.zip ws ++ dU) a.pn = some zs → BindsTo s fd ⟨us, ks.zip ws⟩ (ps.zip zs)
theorem arr_ok {K : PySem.W.Frag} {fd : FuncData} {ps : List Str} {a : ArI} (h : KaOk K fd ps a) {r : RA} {H : Hp} {xs ys zs : List D} {vs ws : List V} {us uw : List Value} {ks : List Str} (e : arr a xs ks ys = some zs) (h1 : RepL K r H xs vs) (r1 : Vals vs us) (h2 : RepL K r H ys ws) (r2 : Vals ws uw) {s : Shared} (X : K.In s.heap) :
    ∃ zv zu, RepL K r H zs zv ∧ Vals zv zu ∧ BindsTo s fd ⟨us, ks.zip uw⟩ (ps.zip zu) := by
  obtain ⟨e1, dU, hd, hb⟩ := h
  unfold arr at e
  split at e
  · rename_i hg
    rw [Bool.and_eq_true, decide_eq_true_eq] at hg
    have p1 := stands_of h1 r1
    have p2 := stands_of h2 r2
    obtain ⟨zu, k1, k2⟩ := arrV_rel (((KvR.zip a.pn p1).app (KvR.zip ks p2)).app (hd r H)) e
    obtain ⟨zv, k3, k4⟩ := stands_to k2
    have l1 : us.length = xs.length := by rw [← r1.length, RepL.length h1]
    have l2 : uw.length = ks.length := by rw [← r2.length, RepL.length h2, hg.2]
    exact ⟨zv, zu, k3, k4, hb s us uw zu ks X (by rw [l1]; exact hg.1) l2 k1⟩
  · cases e
theorem zip_left {α : Type} : ∀ {a b : List Str} {us : List α}, us.length ≤ a.length → (a ++ b).zip us = a.zip us
  | [], b, [], _ => by simp
  | [], b, _ :: _, h => by simp at h
  | x :: a, b, [], _ => by simp
  | x :: a, b, u :: us, h => by
    rw [List.cons_append, List.zip_cons_cons, List.zip_cons_cons, zip_left (by simpa using h)]
theorem look_none {α : Type} {n : Str} : ∀ {kv : List (Str × α)}, n ∉ kv.map (·.1) → kv.lookup n = none
  | [], _ => rfl
  | (k, v) :: kv, h => by
    rw [List.map_cons, List.mem_cons, not_or] at h
    rw [List.lookup_cons]
    have : (n == k) = false := by
      rw [beq_eq_false_iff_ne]
      exact h.1
    rw [this]
    exact look_none h.2
theorem zip_keys {α : Type} {n : Str} : ∀ {ps : List Str} {us : List α}, n ∉ ps.take us.length → n ∉ (ps.zip us).map (·.1)
  | [], us, _ => by simp
  | p :: ps, [], _ => by simp
  | p :: ps, u :: us, h => by
    rw [List.length_cons, List.take_succ_cons, List.mem_cons, not_or] at h
    rw [List.zip_cons_cons, List.map_cons, List.mem_cons, not_or]
    exact ⟨h.1, zip_keys h.2⟩
theorem zip_fst_sub {α : Type} {n : Str} : ∀ {ps : List Str} {us : List α}, n ∈ (ps.zip us).map (·.1) → n ∈ ps
  | [], us, h => by simp at h
  | p :: ps, [], h => by simp at h
  | p :: ps, u :: us, h => by
    rw [List.zip_cons_cons, List.map_cons, List.mem_cons] at h
    rcases h with h | h
    · exact h ▸ List.mem_cons_self
    · exact List.mem_cons_of_mem _ (zip_fst_sub h)
def DfV (K : PySem.W.Frag) (d : D) (v : V) : Prop := ∀ (r : RA) (H : Hp), Rep K r H d v
theorem dfl_zip {K : PySem.W.Frag} {r : RA} {H : Hp} : ∀ (ns : List Str) {ds : List D} {vs : List V} {us : List Value}, Paired (DfV K) ds vs → Vals vs us → KvR (Stands K r H) (ns.zip ds) (ns.zip us)
  | [], _, _, _, _, _ => by rw [List.zip_nil_left, List.zip_nil_left]; exact .nil
  | n :: ns, _, _, _, .nil, .nil => by rw [List.zip_nil_right, List.zip_nil_right]; exact .nil
  | n :: ns, _, _, _, .cons x t, .cons y u => .cons ⟨rfl, _, x r H, y⟩ (dfl_zip ns t u)
theorem kwd_rel {K : PySem.W.Frag} {D0 : Addr} {r : RA} {H : Hp} : ∀ {ks : List (Str × D)} {ms : List (Str × V)}, KvR (DfV K) ks ms → (∀ q ∈ ms, ∃ u, PySem.W.nsIn K D0 q.1 = some (some u) ∧ RelV q.2 u) →
    ∃ kos : List (Str × Value), kos.map (·.1) = ms.map (·.1) ∧ (∀ r H, KvR (Stands K r H) ks kos) ∧ ∀ q ∈ kos, PySem.W.nsIn K D0 q.1 = some (some q.2)
  | _, _, .nil, _ => ⟨[], rfl, fun _ _ => .nil, fun q hq => by cases hq⟩
  | (k, d) :: ks, (m, v) :: ms, .cons ⟨e, x⟩ t, h => by
    obtain ⟨u, e1, e2⟩ := h (m, v) List.mem_cons_self
    obtain ⟨kos, k1, k2, k3⟩ := kwd_rel (r := r) (H := H) t fun q hq => h q (List.mem_cons_of_mem _ hq)
    refine ⟨(m, u) :: kos, by simp [k1], fun r H => .cons ⟨e, v, x r H, e2⟩ (k2 r H), fun q hq => ?_⟩
    rcases List.mem_cons.mp hq with rfl | hq
    · exact e1
    · exact k3 q hq
theorem ka_of {K : PySem.W.Frag} {fd : FuncData} {ps : List Str} {dflD : List D} {kwD : List (Str × D)} {dvs : List V} {kws : List (Str × V)} (h1 : fd.params.posonlyargs = []) (h2 : fd.params.args.map (·.arg) = ps) (h3 : fd.params.vararg = none) (h4 : fd.params.kwonlyargs.map (·.arg) = kwD.map (·.1)) (h5 : fd.params.kwarg = none)
    (hd : DflV K fd.defaults dvs) (hk : KwdV K fd.kwdefaults kws) (rd : Paired (DfV K) dflD dvs) (rk : KvR (DfV K) kwD kws) (hi : dflD.length ≤ ps.length) (nd : (ps ++ kwD.map (·.1)).Nodup) :
    KaOk K fd (ps ++ kwD.map (·.1)) ⟨ps ++ kwD.map (·.1), ps.length, (ps.drop (ps.length - dflD.length)).zip dflD ++ kwD⟩ := by
  have keyEq : ∀ {a : List (Str × D)} {b : List (Str × V)}, KvR (DfV K) a b → a.map (·.1) = b.map (·.1) := fun {a b} h => by
    induction h with
    | nil => rfl
    | cons x _ ih => rw [List.map_cons, List.map_cons, x.1, ih]
  obtain ⟨its, hits, rits, l1⟩ : ∃ its : List Value, ((fd.defaults = .none ∧ its = []) ∨ ∃ (T : Addr) (o : Obj) (n : Nat), fd.defaults = .ref T ∧ K.lookup T = some o ∧ o.data = .seq its.toArray n) ∧ Vals dvs its ∧ its.length = dflD.length := by
    have ll : dflD.length = dvs.length := by
      clear hd hi
      induction rd with
      | nil => rfl
      | cons _ _ ih => simp [ih]
    rcases hd with ⟨e1, e2⟩ | ⟨_, T, o, its, n, e1, e2, e3, e4⟩
    · subst e1
      exact ⟨[], .inl ⟨e2, rfl⟩, .nil, by simpa using ll.symm⟩
    · exact ⟨its, .inr ⟨T, o, n, e1, e2, e3⟩, e4, by rw [← e4.length, ll]⟩
  obtain ⟨kos, hkos, k1, k2⟩ : ∃ kos : List (Str × Value), kos.map (·.1) = kwD.map (·.1) ∧ (∀ r H, KvR (Stands K r H) kwD kos) ∧ (kos = [] ∨ ∃ D : Addr, fd.kwdefaults = .ref D ∧ ∀ q ∈ kos, PySem.W.nsIn K D q.1 = some (some q.2)) := by
    rcases hk with e | ⟨D0, e1, e2⟩
    · subst e
      cases rk
      exact ⟨[], rfl, fun _ _ => .nil, .inl rfl⟩
    · obtain ⟨kos, k1, k2, k3⟩ := kwd_rel (r := []) (H := fun _ => none) rk e2
      exact ⟨kos, by rw [k1, ← keyEq rk], k2, .inr ⟨D0, e1, k3⟩⟩
  refine ⟨rfl, (ps.drop (ps.length - dflD.length)).zip its ++ kos, fun r H => (dfl_zip _ rd rits).app (k1 r H), fun s us ws zs ks X hB hw hz => ?_⟩
  simp only [arrB, Bool.and_eq_true, decide_eq_true_eq, List.all_eq_true, Bool.not_eq_true'] at hB
  obtain ⟨⟨⟨b1, b2⟩, b3⟩, b4⟩ := hB
  dsimp only at b1 b3 b4 hz
  rw [zip_left b1] at hz
  obtain ⟨z1, z2, z3⟩ := arrV_zip hz
  have hk2 : ∀ k ∈ ks, (ps.zip us).lookup k = none := fun k hk => look_none (zip_keys fun z => by
    have := b4 k hk
    rw [List.take_append_of_le_length b1] at this
    simp [z] at this)
  have main := fun M => bind_gen (M := M) X (us := us) (ws := ws) (ks := ks) h1 h2 h3 (h4.trans hkos.symm) h5 hits k2 b1 (by omega) b2 (fun k hk => by
      have := b3 k hk
      rw [List.contains_iff_mem, List.mem_append] at this
      rw [hkos]
      exact this) hk2 hw (fun n hn => by
        have hp : n ∈ ps := List.mem_of_mem_take hn
        have q := z3 n (List.mem_append.mpr (.inl hp))
        rw [← List.append_assoc, look_app, look_app] at q
        cases e : (ps.zip us ++ ks.zip ws).lookup n with
        | some v => rfl
        | none =>
          rw [e] at q
          simp only at q
          have n1 : ((ps.drop (ps.length - dflD.length)).zip its).lookup n = none := look_none fun z => by
            have z' := zip_fst_sub z
            have nps : ps.Nodup := (List.nodup_append.mp nd).1
            rw [← List.take_append_drop (ps.length - dflD.length) ps, List.nodup_append] at nps
            rw [l1] at hn
            exact nps.2.2 n hn n z' rfl
          have n2 : kos.lookup n = none := look_none fun z => by
            rw [hkos] at z
            exact (List.nodup_append.mp nd).2.2 n hp n z rfl
          rw [n1] at q
          simp only [n2] at q
          cases q)
  refine BindsTo.of_looks fun M => ?_
  have := main M
  rw [hkos, l1] at this
  rw [← List.append_assoc] at z1
  rw [z1] at this
  exact this
section
variable {X : Cx} {k : Nat} {f : Addr} {fd : FuncData} {ps ks : List Str} {sp : Sp} {W : WX} {x : Str} {p pos : Pos} {es : List Expr} {kws : List Keyword} {t tk : TA} {a : ArI}
theorem run_gk {pins : List (Addr × Obj)} {σ : L2.St} {H : Hp} {s : Shared} {Q : VK} {us uw zu : List Value} {zv : List V} (F : FnG X.prog X.w X.K X.mg X.base k f fd ps sp) (hr : Room k X.A) (hg : X.A.guards = some []) (hb : BindsTo s fd ⟨us, ks.zip uw⟩ (ps.zip zu))
    (tk : Takes X W) (I : Inv X pins σ H s) (r : Vals zv zu) (h : sp zv H Q fun c d H' => W c d σ H') : wpAny (model X.prog X.w) X.A (PySem.call (.ref f) us (ks.zip uw)) (EP X pins σ Q) X.xe s := by
  refine wpAny_call (codeAny_mono (F.run X.A X.stack s H ⟨us, ks.zip uw⟩ zu zv Q _ hr hg I.env0 hb r h) fun res s' hq => ?_)
  match res, hq with
  | .error u, hq => exact tk u s' (XE.of_call I (fun _ _ _ z => z) hq)
  | .ok (.ret u), hq => exact I.after hq
  | .ok .next, hq => exact False.elim hq
  | .ok .brk, hq => exact False.elim hq
  | .ok .cont, hq => exact False.elim hq
def tKW (K : PySem.W.Frag) (a : ArI) (ks : List Str) (sp : Sp) (W : WX) (t tk : TA) : TE := fun σ H Q => t σ H fun vs H1 => tk σ H1 fun ws H2 => ∃ (r : RA) (xs ys zs : List D), RepL K r H2 xs vs ∧ RepL K r H2 ys ws ∧ arr a xs ks ys = some zs ∧ ∀ zv, RepL K r H2 zs zv → sp zv H2 Q fun c d H' => W c d σ H'
theorem pe_gk {e : Expr} {rest : List Expr} (F : FnG X.prog X.w X.K X.mg X.base k f fd ps sp) (hr : Room k X.A) (hgd : X.A.guards = some []) (hg : Gl X x) (hm : X.mg x = some (.ref f)) (hk : PySem.W.keepIn X.K (.ref f) = true) (hb : KaOk X.K fd ps a) (htk : Takes X W)
    (ha : PA X (e :: rest) t) (hkw : PK X kws tk) (hall : (backToKw pos (keywordEach kws X.env)).all (·.1.isSome) = true) (hks : (backToKw pos (keywordEach kws X.env)).filterMap (·.1) = ks) (hdb : (x == ("__debug__" : Str)) = false) (he : starEach (e :: rest) X.env = (false, eval e X.env) :: starEach rest X.env)
    (hpl : ((backTo pos (starEach (e :: rest) X.env)).any (·.1) || (backToKw pos (keywordEach kws X.env)).any (·.1.isNone)) = false) : PE X (.Call (.Name x p) (e :: rest) kws pos) (tKW X.K a ks sp W t tk) := by
  refine ⟨fun pins s σ H Q I h => ?_⟩
  refine wpAny_Call_Name_kw (ld_glob I hg hm ?_ hdb)
  refine PySem.W.callWith_KW (h₀ := X.base) I.ok.mod.kin hk hall (thn (ha.run pos pins s σ H _ I h) fun us s1 ⟨vs, H1, I1, r, q⟩ => ?_) hpl he
  refine thn (hkw.run pos pins s1 σ H1 _ I1 q) fun uw s2 ⟨ws, H2, I2, rz, rr, xs, ys, zs, q1, q2, q3, q4⟩ => ⟨I2.kIn, ?_⟩
  rw [hks]
  obtain ⟨zv, zu, k1, k2, k3⟩ := arr_ok hb q3 q1 r q2 rz I2.kIn
  exact run_gk F hr hgd k3 htk I2 k2 (q4 zv k1)
theorem pe_gk0 (F : FnG X.prog X.w X.K X.mg X.base k f fd ps sp) (hr : Room k X.A) (hgd : X.A.guards = some []) (hg : Gl X x) (hm : X.mg x = some (.ref f)) (hk : PySem.W.keepIn X.K (.ref f) = true) (hb : KaOk X.K fd ps a) (htk : Takes X W)
    (hkw : PK X kws tk) (hall : (backToKw pos (keywordEach kws X.env)).all (·.1.isSome) = true) (hks : (backToKw pos (keywordEach kws X.env)).filterMap (·.1) = ks) (hdb : (x == ("__debug__" : Str)) = false)
    (hpl : ((backTo pos (starEach [] X.env)).any (·.1) || (backToKw pos (keywordEach kws X.env)).any (·.1.isNone)) = false) : PE X (.Call (.Name x p) [] kws pos) (tKW X.K a ks sp W tNil tk) := by
  refine ⟨fun pins s σ H Q I h => ?_⟩
  refine wpAny_Call_Name_kw (ld_glob I hg hm ?_ hdb)
  refine PySem.W.callWith_KW0 (h₀ := X.base) I.ok.mod.kin hk hall ?_ hpl
  refine thn (hkw.run pos pins s σ H _ I h) fun uw s2 ⟨ws, H2, I2, rz, rr, xs, ys, zs, q1, q2, q3, q4⟩ => ⟨I2.kIn, ?_⟩
  rw [hks]
  obtain ⟨zv, zu, k1, k2, k3⟩ := arr_ok (us := []) hb q3 q1 .nil q2 rz I2.kIn
  exact run_gk (us := []) F hr hgd k3 htk I2 k2 (q4 zv k1)
end
end PV
set_option Elab.async false
set_option linter.all false
set_option autoImplicit false
set_option maxRecDepth 100000
set_option maxHeartbeats 1000000
namespace PV
open PySem PySem.Spec PyProof.Rows L2
abbrev Sl := L2.St
def XdR (K : PySem.W.Frag) (r : RA) (H : Hp) (fs : List (Str × D)) (dd : Option Addr) : Prop :=
  ∃ d fv, dd = some d ∧ H d = some (.xd fv) ∧ ∀ f x, fs.lookup f = some x → ∃ v, fv.lookup f = some v ∧ Rep K r H x v
structure Cn where
  ad : Nat → Addr
  xg : Option (Nat × Addr × Option Addr × List (Str × D))
def EnvR (C : Cn) (K : PySem.W.Frag) (r : RA) (H : Hp) (e : Env) (σ : Sl) : Prop := e.length = σ.length ∧ (∀ (i : Nat) (d : D), e[i]? = some (some d) → ∃ v, σ[i]? = some (some v) ∧ Rep K r H d v) ∧
  ∀ i a dd fs, C.xg = some (i, a, dd, fs) → (e[i]? = some none → σ[i]? = some (some (.ref a))) ∧ XdR K r H fs dd
def PostG {α β : Type} {b : List MO} (RP : RA → Hp → α → β → Prop) (K : PySem.W.Frag) (C : Cn) (W : WX) (σ : Sl) (r : RA) (H : Hp) (o : Out b α) (Q : β → Hp → Prop) : Prop := match o with
  | .ok a s => ∀ r' H' v, Fx r H r' H' → Rel K r' s.M H' → RP r' H' a v → Q v H'
  | .ex c fs s => ∀ r' H' dd, Fx r H r' H' → Rel K r' s.M H' → XdR K r' H' fs dd → W (.ref (C.ad c)) dd σ H'
section
variable {α β γ δ : Type} {b : List MO} {RP : RA → Hp → α → β → Prop} {RP2 : RA → Hp → γ → δ → Prop} {K : PySem.W.Frag} {C : Cn} {W : WX} {σ : Sl} {r r' : RA} {H H' : Hp}
theorem PostG.mono {o : Out b α} {Q : β → Hp → Prop} (h : PostG RP K C W σ r H o Q) (fx : Fx r H r' H') : PostG RP K C W σ r' H' o Q := by
  cases o with
  | ok a s => exact fun r2 H2 v x => h r2 H2 v (fx.trans x)
  | ex c fs s => exact fun r2 H2 v x => h r2 H2 v (fx.trans x)
theorem XdR.mono {fs : List (Str × D)} {dd : Option Addr} (h : XdR K r H fs dd) (hp : r <+: r') (hx : Ext H H') : XdR K r' H' fs dd := by
  obtain ⟨d, fv, e1, e2, e3⟩ := h
  exact ⟨d, fv, e1, hx d _ rfl e2, fun f x q => by
    obtain ⟨v, e4, e5⟩ := e3 f x q
    exact ⟨v, e4, Rep.mono hp hx x v e5⟩⟩
theorem EnvR.mono {e : Env} (h : EnvR C K r H e σ) (hp : r <+: r') (hx : Ext H H') : EnvR C K r' H' e σ :=
  ⟨h.1, fun i d q => by
    obtain ⟨v, e1, e2⟩ := h.2.1 i d q
    exact ⟨v, e1, Rep.mono hp hx d v e2⟩, fun i a dd fs q => ⟨(h.2.2 i a dd fs q).1, (h.2.2 i a dd fs q).2.mono hp hx⟩⟩
theorem EnvR.set {e : Env} (h : EnvR C K r H e σ) (i : Nat) {d : D} {v : V} (q : Rep K r H d v) : EnvR C K r H (e.set i (some d)) (σ.set i (some v)) := by
  refine ⟨by rw [List.length_set, List.length_set]; exact h.1, fun j x z => ?_, fun j a dd fs hx => ⟨fun z => ?_, (h.2.2 j a dd fs hx).2⟩⟩
  · by_cases hj : j = i
    · subst hj
      by_cases hi : j < e.length
      · rw [List.getElem?_set_self hi] at z
        cases z
        exact ⟨v, List.getElem?_set_self (by rw [← h.1]; exact hi), q⟩
      · rw [List.getElem?_eq_none (by rw [List.length_set]; omega)] at z
        cases z
    · rw [List.getElem?_set_ne (Ne.symm hj)] at z ⊢
      exact h.2.1 j x z
  · by_cases hj : j = i
    · subst hj
      by_cases hi : j < e.length
      · rw [List.getElem?_set_self hi] at z
        cases z
      · rw [List.getElem?_eq_none (by rw [List.length_set]; omega)] at z
        cases z
    · rw [List.getElem?_set_ne (Ne.symm hj)] at z ⊢
      exact (h.2.2 j a dd fs hx).1 z
theorem EnvR.wipe1 {e : Env} (hx : C.xg = none) (h : EnvR C K r H e σ) (i : Nat) (o : Option V) : EnvR C K r H (e.set i none) (σ.set i o) := by
  refine ⟨by rw [List.length_set, List.length_set]; exact h.1, fun j x z => ?_, fun j a dd fs z => by rw [hx] at z; cases z⟩
  by_cases hj : j = i
  · subst hj
    by_cases hi : j < e.length
    · rw [List.getElem?_set_self hi] at z
      cases z
    · rw [List.getElem?_eq_none (by rw [List.length_set]; omega)] at z
      cases z
  · rw [List.getElem?_set_ne (Ne.symm hj)] at z ⊢
    exact h.2.1 j x z
theorem EnvR.wipe {e : Env} (hx : C.xg = none) (h : EnvR C K r H e σ) : ∀ vs : List Nat, EnvR C K r H (wipeE e vs) (wipe σ vs)
  | [] => h
  | v :: vs => (EnvR.wipe hx h vs).wipe1 hx v none
theorem EnvR.suite {e : Env} (hx : C.xg = none) (h : EnvR C K r H e σ) (i : Nat) (a : Addr) {dd : Option Addr} {fs : List (Str × D)} (xd : XdR K r H fs dd) : EnvR ⟨C.ad, some (i, a, dd, fs)⟩ K r H (e.set i none) (σ.set i (some (.ref a))) := by
  refine ⟨(h.wipe1 hx i _).1, (h.wipe1 hx i _).2.1, fun j b dd fs z => ?_⟩
  cases z
  refine ⟨fun q => ?_, xd⟩
  rw [List.getElem?_set] at q ⊢
  by_cases hi : i < e.length
  · rw [if_pos rfl, if_pos (by rw [← h.1]; exact hi)]
  · rw [if_pos rfl, if_neg hi] at q
    cases q
theorem EnvR.unsuite {e : Env} (h : EnvR C K r H e σ) (i : Nat) : EnvR ⟨C.ad, none⟩ K r H (e.set i none) (σ.set i none) :=
  EnvR.wipe1 (C := ⟨C.ad, none⟩) rfl ⟨h.1, h.2.1, fun _ _ _ _ z => by cases z⟩ i none
def tN (RP : RA → Hp → α → β → Prop) (K : PySem.W.Frag) (C : Cn) (W : WX) (ev : {b : List MO} → Env → HS b → R b α) : Sl → Hp → (β → Hp → Prop) → Prop := fun σ H Q =>
  ∃ (b : List MO) (s : HS b) (r : RA) (e : Env) (o : Out b α), Rel K r s.M H ∧ EnvR C K r H e σ ∧ ev e s = some o ∧ PostG RP K C W σ r H o Q
theorem tN.seq {s : HS b} {e : Env} {ev : {b : List MO} → Env → HS b → R b α} {F : α → HS b → R b γ} {o : Out b γ} {Q : β → Hp → Prop} {Q2 : δ → Hp → Prop} (R : Rel K r s.M H) (E : EnvR C K r H e σ) (h : bnd (ev e s) F = some o) (post : PostG RP2 K C W σ r H o Q2)
    (next : ∀ a s1 r' H' v, Fx r H r' H' → F a s1 = some o → Rel K r' s1.M H' → EnvR C K r' H' e σ → RP r' H' a v → PostG RP2 K C W σ r' H' o Q2 → Q v H') : tN RP K C W ev σ H Q := by
  cases q : ev e s with
  | none => rw [q] at h; cases h
  | some o1 =>
    rw [q] at h
    refine ⟨b, s, r, e, o1, R, E, q, ?_⟩
    cases o1 with
    | ok a s1 => exact fun r' H' v x R1 rp => next a s1 r' H' v x h R1 (E.mono x.pre x.ext) rp (post.mono x)
    | ex c fs s1 =>
      cases h
      exact post
end
abbrev RD (K : PySem.W.Frag) : RA → Hp → D → V → Prop := fun r H d v => Rep K r H d v
abbrev RDL (K : PySem.W.Frag) : RA → Hp → List D → List V → Prop := fun r H d v => RepL K r H d v
abbrev RBl : RA → Hp → Bool → Bool → Prop := fun _ _ a v => v = a
abbrev ROI : RA → Hp → Option Int → Option Int → Prop := fun _ _ a v => v = a
def tE (K : PySem.W.Frag) (C : Cn) (P : Ev) (cur : Cur) (W : WX) (c : CE) : TE := tN (RD K) K C W (fun e s => evE P cur c e s)
def tL (K : PySem.W.Frag) (C : Cn) (P : Ev) (cur : Cur) (W : WX) (cs : List CE) : TA := tN (RDL K) K C W (fun e s => evL P cur cs e s)
def tT (K : PySem.W.Frag) (C : Cn) (P : Ev) (cur : Cur) (W : WX) (c : CE) : TT := tN RBl K C W (fun e s => tst (evE P cur c e s))
def tOp' (K : PySem.W.Frag) (C : Cn) (P : Ev) (cur : Cur) (W : WX) (c : Option CE) : TO := tN ROI K C W (fun e s => evO P cur c e s)
theorem PE.imp {X : Cx} {e : Expr} {t t' : TE} (h : PE X e t) (i : ∀ σ H Q, t' σ H Q → t σ H Q) : PE X e t' := ⟨fun pins s σ H Q I q => h.run pins s σ H Q I (i σ H Q q)⟩
theorem PT.imp {X : Cx} {e : Expr} {t t' : TT} (h : PT X e t) (i : ∀ σ H Q, t' σ H Q → t σ H Q) : PT X e t' := ⟨fun pins s σ H Q I q => h.run pins s σ H Q I (i σ H Q q)⟩
theorem PW.imp {X : Cx} {e : Expr} {t t' : TT} (h : PW X e t) (i : ∀ σ H Q, t' σ H Q → t σ H Q) : PW X e t' := ⟨fun wh pins s σ H Q I q => h.run wh pins s σ H Q I (i σ H Q q)⟩
theorem PA.imp {X : Cx} {e : List Expr} {t t' : TA} (h : PA X e t) (i : ∀ σ H Q, t' σ H Q → t σ H Q) : PA X e t' := ⟨fun pos pins s σ H Q I q => h.run pos pins s σ H Q I (i σ H Q q)⟩
theorem PO.imp {X : Cx} {e : Option Expr} {t t' : TO} (h : PO X e t) (i : ∀ σ H Q, t' σ H Q → t σ H Q) : PO X e t' := ⟨fun pins s σ H Q I q => h.run pins s σ H Q I (i σ H Q q)⟩
structure Tb where
  nm : Nat → Option Str
  gl : List (Str × Int)
  fr : List Str
  cn : Nat → Option Str
  xs : List Str
  pl : Nat → Bool
def visB (sc : Scope) (x : Str) : Bool := match sc.names.lookup x with
  | some .local => true
  | some .cell => true
  | some .free => true
  | _ => false
def glB (sc : Scope) (x : Str) : Bool := decide (sc.names.lookup x = some .globalImplicit)
def okN (x : Str) : Bool := !(x == ("__debug__" : Str)) && !(x == ("__classdict__" : Str)) && decide (x ≠ ("__name__" : Str))
def BI.nm : BI → Str
  | .len => "len"
  | .all => "all"
  | .any => "any"
  | .sum => "sum"
  | .tuple => "tuple"
  | .list => "list"
  | .int => "int"
  | .max2 => "max"
  | .min2 => "min"
  | .repr => "repr"
  | .abs => "abs"
  | .isi _ => "isinstance"
def notSl : Expr → Bool
  | .Slice _ _ none _ => false
  | _ => true
def baseB : Expr → Bool
  | .Call (.Name id _) [] [] _ => id != ("super" : Str)
  | _ => true
def MT.nm : MT → Str
  | .append => "append"
def locB (cel : Bool) (sc : Scope) (x : Str) : Bool := match sc.names.lookup x with
  | some .local => true
  | some .cell => cel
  | _ => false
def chkTg (cel : Bool) (N : List Str) (sc : Scope) : Tg → Expr → Bool
  | .nm i, e => (match e with
    | .Name x _ => decide (N[i]? = some x) && locB cel sc x
    | _ => false)
  | .tp is, e => (match e with
    | .Tuple es _ _ => go is es
    | _ => false)
where go : List Nat → List Expr → Bool
  | [], [] => true
  | i :: is, .Name x _ :: es => decide (N[i]? = some x) && locB cel sc x && go is es
  | _, _ => false
def ownP (N : List Str) (own : List Nat) : List (Str × Nat) := own.filterMap fun i => (N[i]?).map fun x => (x, i)
mutual
def chkE (T : Tb) (hot : Bool) (N : List Str) (sc : Scope) : CE → Expr → Bool
  | .cst d, e => (match e, d with
    | .Constant (.int i) _ _, .int j => decide (i = j)
    | .Constant (.bool i) _ _, .bl j => decide (i = j)
    | .Constant .none _ _, .non => true
    | .Constant (.str i) _ _, .str j => decide (i = j)
    | _, _ => false)
  | .var i, e => (match e with
    | .Name x _ => decide (N[i]? = some x) && visB sc x && okN x
    | _ => false)
  | .glb y i, e => (match e with
    | .Name x _ => decide (x = y) && glB sc x && okN x && decide (T.gl.lookup x = some i)
    | _ => false)
  | .bin o a b, e => (match e with
    | .BinOp l op r _ => decide (op = o.op) && chkE T hot N sc a l && chkE T hot N sc b r
    | _ => false)
  | .neg a, e => (match e with
    | .UnaryOp .USub x _ => chkE T hot N sc a x
    | _ => false)
  | .cmp o a b, e => (match e with
    | .Compare l [op] [r] _ => decide (op = o.op) && chkE T hot N sc a l && chkE T hot N sc b r
    | _ => false)
  | .chn o o2 a b c, e => (match e with
    | .Compare l [op, op2] [m, r] _ => decide (op = o.op) && decide (op2 = o2.op) && chkE T hot N sc a l && chkE T hot N sc b m && chkE T hot N sc c r
    | _ => false)
  | .ands es, e => (match e with
    | .BoolOp .And vs _ => chkL T hot N sc es vs
    | _ => false)
  | .ors es, e => (match e with
    | .BoolOp .Or vs _ => chkL T hot N sc es vs
    | _ => false)
  | .nt a, e => (match e with
    | .UnaryOp .Not x _ => chkE T hot N sc a x
    | _ => false)
  | .ite c a b, e => (match e with
    | .IfExp t x y _ => chkE T hot N sc c t && chkE T hot N sc a x && chkE T hot N sc b y
    | _ => false)
  | .tup es, e => (match e with
    | .Tuple vs _ _ => chkL T hot N sc es vs
    | _ => false)
  | .lst es, e => (match e with
    | .List vs _ => chkL T hot N sc es vs
    | _ => false)
  | .dct0, e => (match e with
    | .Dict [] [] _ => true
    | _ => false)
  | .call f es, e => (match e with
    | .Call (.Name x _) args [] _ => !hot && decide (T.nm f = some x) && glB sc x && okN x && T.pl f && chkL T hot N sc es args
    | _ => false)
  | .callk f es ks kes, e => (match e with
    | .Call (.Name x _) args kws _ => !hot && decide (T.nm f = some x) && glB sc x && okN x && decide (kws.map (·.arg) = ks.map some) && chkL T hot N sc es args && chkL T hot N sc kes (kws.map (·.value))
    | _ => false)
  | .bi g es, e => (match e with
    | .Call (.Name x _) args [] _ => (!hot || g.hot) && decide (x = g.nm) && glB sc x && T.fr.contains x && (match g with
      | .isi t => (match args with
        | [a, .Name y _] => decide (y = (t.nm : Str)) && glB sc y && T.fr.contains y && chkL T hot N sc es [a]
        | _ => false)
      | _ => !args.isEmpty && chkL T hot N sc es args)
    | _ => false)
  | .mt m o es, e => (match e with
    | .Call (.Attribute x n apos) args [] cpos => !hot && decide (n = m.nm) && baseB x && (apos.endLine == cpos.line) && decide (args.length < 29) && !args.isEmpty && chkE T hot N sc o x && chkL T hot N sc es args
    | _ => false)
  | .idx a b, e => (match e with
    | .Subscript v s _ => notSl s && chkE T hot N sc a v && chkE T hot N sc b s
    | _ => false)
  | .slc a lo hi, e => (match e with
    | .Subscript v (.Slice l u none _) _ => chkE T hot N sc a v && chkO T hot N sc lo l && chkO T hot N sc hi u
    | _ => false)
  | .lc tg k src ifs elt own, e => (match e with
    | .ListComp el [⟨t, it, fs, 0⟩] scope _ => !hot && blkC N sc scope (ownP N own) && decide ((ownP N own).map (·.2) = own) && tg.slots.all (own.contains ·) && chkTg false N (relS scope sc) tg t && decide (fs.length ≤ 1) && chkL T hot N (relS scope sc) ifs fs && chkE T hot N (relS scope sc) elt el &&
      (match k with
      | .val => (match src with
        | [c] => chkE T hot N sc c it && (match it with | .Set _ _ _ => false | _ => true)
        | _ => false)
      | .range => (match it with
        | .Call (.Name x _) args [] _ => decide (x = ("range" : Str)) && glB sc x && T.fr.contains x && chkL T hot N sc src args && args.length == 1
        | _ => false)
      | .range2 => (match it with
        | .Call (.Name x _) args [] _ => decide (x = ("range" : Str)) && glB sc x && T.fr.contains x && chkL T hot N sc src args && args.length == 2
        | _ => false)
      | .zip => (match t with
        | .Tuple _ _ _ => (match it with
          | .Call (.Name x _) [a1, a2] [] _ => decide (x = ("zip" : Str)) && glB sc x && T.fr.contains x && chkL T hot N sc src [a1, a2]
          | _ => false)
        | _ => false)
      | .zipS => (match t with
        | .Tuple _ _ _ => (match it with
          | .Call (.Name x _) [a1, a2] [⟨some kn, .Constant (.bool true) _ _, _⟩] _ => decide (x = ("zip" : Str)) && decide (kn = ("strict" : Str)) && glB sc x && T.fr.contains x && chkL T hot N sc src [a1, a2]
          | _ => false)
        | _ => false))
    | _ => false)
  | .excf i f, e => (match e with
    | .Attribute (.Name x _) g _ => decide (g = f) && decide (N[i]? = some x) && visB sc x && okN x
    | _ => false)
  | .exci i y, e => (match e with
    | .Call (.Name g _) [.Name x _, .Name z _] [] _ => decide (g = ("isinstance" : Str)) && decide (z = y) && decide (N[i]? = some x) && visB sc x && okN x && glB sc g && glB sc z && T.fr.contains g && T.fr.contains z
    | _ => false)
def chkL (T : Tb) (hot : Bool) (N : List Str) (sc : Scope) : List CE → List Expr → Bool
  | [], es => es.isEmpty
  | c :: cs, es => (match es with
    | e :: r => chkE T hot N sc c e && chkL T hot N sc cs r
    | [] => false)
def chkO (T : Tb) (hot : Bool) (N : List Str) (sc : Scope) : Option CE → Option Expr → Bool
  | none, e => e.isNone
  | some c, e => (match e with
    | some x => chkE T hot N sc c x
    | none => false)
end
def spOf (K : PySem.W.Frag) (C : Cn) (cf : {b : List MO} → Nat → List D → HS b → R b D) (f : Nat) : Sp := fun vs H Q E =>
  ∃ (b : List MO) (s : HS b) (r : RA) (ds : List D) (o : Out b D), Rel K r s.M H ∧ RepL K r H ds vs ∧ cf f ds s = some o ∧ PostG (RD K) K C (fun c d _ H' => E c d H') [] r H o Q
structure Gd (T : Tb) (P : Ev) (C : Cn) (hot : Bool) (cur : Cur) (W : WX) (k : Nat) (X : Cx) : Prop where
  nd : X.N.Nodup
  un : X.A.units + 200 < cLine
  gd : X.A.guards = some []
  fu : P.fu ≤ sizeLine
  gl : ∀ x i, T.gl.lookup x = some i → ∃ t, X.mg x = some (.int i t)
  fr : ∀ x, x ∈ T.fr → X.mg x = none
  calm : hot = false → X.calm = true
  room : hot = false → Room k X.A
  cur0 : hot = false → cur = none
  xg0 : hot = false → C.xg = none
  tk : Takes X W
  fn : ∀ f x, T.nm f = some x → ∃ (j : Nat) (fa : Addr) (fd : FuncData) (ps : List Str), j ≤ k ∧ X.mg x = some (.ref fa) ∧ PySem.W.keepIn X.K (.ref fa) = true ∧ (T.pl f = true → Binds X.K fd ps []) ∧ (∀ a, P.ar f = some a → KaOk X.K fd ps a) ∧ FnG X.prog X.w X.K X.mg X.base j fa fd ps (spOf X.K C P.cf f)
  xf : ∀ i f n p p', X.N[i]? = some n → Vis X.env.scope n → okN n = true → PE X (.Attribute (.Name n p) f p') (tE X.K C P cur W (.excf i f))
  xi : ∀ i y n p p1 p2 p', X.N[i]? = some n → Vis X.env.scope n → okN n = true → Gl X "isinstance" → Gl X y → X.mg "isinstance" = none → X.mg y = none → PE X (.Call (.Name "isinstance" p) [.Name n p1, .Name y p2] [] p') (tE X.K C P cur W (.exci i y))
theorem chk_star {T : Tb} {hot : Bool} {N : List Str} {sc : Scope} {c : CE} {v : Expr} {p : Pos} (h : chkE T hot N sc c (.Starred v p) = true) : False := by
  cases c <;> exact Bool.noConfusion (show false = true from h)
theorem star_of {e : Expr} (h : ∀ v p, e ≠ .Starred v p) (es : List Expr) (env : PySem.Env) : starEach (e :: es) env = (false, eval e env) :: starEach es env := by
  cases e <;> first | rfl | exact absurd rfl (h _ _)
theorem chk_ns {T : Tb} {hot : Bool} {N : List Str} {sc : Scope} {c : CE} {e : Expr} (h : chkE T hot N sc c e = true) : ∀ v p, e ≠ .Starred v p := fun v p z => by
  subst z
  exact chk_star h
theorem any_ns {T : Tb} {hot : Bool} {N : List Str} {sc : Scope} {pos : Pos} {env : PySem.Env} : ∀ {cs : List CE} {es : List Expr}, chkL T hot N sc cs es = true → (backTo pos (starEach es env)).any (·.1) = false
  | [], es, h => by
    have e : es = [] := by simpa [chkL] using h
    subst e
    rfl
  | c :: cs, [], h => by simp [chkL] at h
  | c :: cs, e :: es, h => by
    have q : chkE T hot N sc c e = true ∧ chkL T hot N sc cs es = true := by simpa [chkL] using h
    rw [star_of (chk_ns q.1) es env]
    exact any_ns (cs := cs) q.2
theorem vis_of {sc : Scope} {x : Str} (h : visB sc x = true) : Vis sc x := by
  unfold visB at h
  split at h
  · exact .inl (by assumption)
  · exact .inr (.inl (by assumption))
  · exact .inr (.inr (by assumption))
  · cases h
theorem gl_of {X : Cx} {x : Str} (h : glB X.env.scope x = true) : Gl X x := by
  unfold glB at h
  have q := of_decide_eq_true h
  exact q
theorem okN_of {x : Str} (h : okN x = true) : (x == ("__debug__" : Str)) = false ∧ (x == ("__classdict__" : Str)) = false ∧ x ≠ ("__name__" : Str) := by
  unfold okN at h
  simp only [Bool.and_eq_true, Bool.not_eq_true', decide_eq_true_eq] at h
  exact ⟨h.1.1, h.1.2, h.2⟩
end PV
set_option Elab.async false
set_option linter.all false
set_option autoImplicit false
set_option maxRecDepth 100000
set_option maxHeartbeats 1000000
namespace PV
open PySem PySem.Spec PyProof.Rows L2
def JOk (K : PySem.W.Frag) (J : It) (sr : Src) (r : RA) (H : Hp) : Prop := ∀ (b : List MO) (s : HS b) (r' : RA) (H' : Hp) (i : Nat), Fx r H r' H' → Rel K r' s.M H' →
  (sr.at i s = some none → J.stop i H') ∧ ∀ d, sr.at i s = some (some d) → J.go i H' ∧ ∀ x H2, J.yld i H' x H2 → Same H' H2 ∧ Rep K r' H2 d x
def tI (K : PySem.W.Frag) (C : Cn) (P : Ev) (cur : Cur) (W : WX) (k : ITk) (cs : List CE) : TI := tN (fun r H sr J => JOk K J sr r H) K C W (fun e s => bnd (evL P cur cs e s) fun xs s1 => srcR k xs s1)
theorem PI.imp {X : Cx} {tg e : Expr} {t t' : TI} (h : PI X tg e t) (i : ∀ σ H Q, t' σ H Q → t σ H Q) : PI X tg e t' := ⟨fun pins s σ H Q I q => h.run pins s σ H Q I (i σ H Q q)⟩
section
variable {K : PySem.W.Frag} {r : RA} {H : Hp}
theorem jok_tup {a : Addr} {xs : List D} {vs : List V} (q : SqT K H a vs) (t : RepL K r H xs vs) : JOk K (Itt K a) (.its xs) r H := by
  intro b s r' H' i fx R
  have hp := fx.pre
  have hx := fx.ext
  refine ⟨fun e => ?_, fun d e => ?_⟩
  · simp only [Src.at, Option.some.injEq, List.getElem?_eq_none_iff] at e
    exact ⟨vs, hx.sqT q, by rw [t.length]; exact e⟩
  · simp only [Src.at, Option.some.injEq] at e
    obtain ⟨v, e1, e2⟩ := t.get e
    refine ⟨⟨vs, v, hx.sqT q, e1⟩, fun x H2 z => ?_⟩
    obtain ⟨rfl, z⟩ := z
    have z2 := z vs (hx.sqT q)
    rw [e1] at z2
    cases z2
    exact ⟨Same.refl _, Rep.mono hp hx d _ e2⟩
theorem jok_live {a : Addr} {p : Nat} {w : Bool} (ha : r[p]? = some (a, w)) : JOk K (Itl K a) (.live p) r H := by
  intro b s r' H' i fx R
  have hp := fx.pre
  have hx := fx.ext
  have ha' : r'[p]? = some (a, w) := by
    obtain ⟨t, rfl⟩ := hp
    rw [List.getElem?_append_left (List.getElem?_eq_some_iff.mp ha).1]
    exact ha
  refine ⟨fun e => ?_, fun d e => ?_⟩
  · simp only [Src.at] at e
    split at e
    · rename_i w xs hm
      simp only [Option.some.injEq, List.getElem?_eq_none_iff] at e
      obtain ⟨vs, q, t⟩ := (R.ob hm ha').sq
      exact ⟨vs, q, by rw [t.length]; exact e⟩
    · cases e
  · simp only [Src.at] at e
    split at e
    · rename_i w xs hm
      simp only [Option.some.injEq] at e
      obtain ⟨vs, q, t⟩ := (R.ob hm ha').sq
      obtain ⟨v, e1, e2⟩ := t.get e
      refine ⟨⟨vs, v, q, e1⟩, fun x H2 z => ?_⟩
      obtain ⟨rfl, z⟩ := z
      have z2 := z vs q
      rw [e1] at z2
      cases z2
      exact ⟨Same.refl _, e2⟩
    · cases e
theorem jok_rng {lo : Int} {n : Nat} : JOk K (Itr lo n) (.rng lo n) r H := by
  intro b s r' H' i fx R
  have hp := fx.pre
  have hx := fx.ext
  refine ⟨fun e => ?_, fun d e => ?_⟩
  · simp only [Src.at, Option.some.injEq] at e
    split at e
    · cases e
    · rename_i h
      exact Nat.le_of_not_lt h
  · simp only [Src.at, Option.some.injEq] at e
    split at e
    · rename_i h
      cases e
      refine ⟨h, fun x H2 z => ?_⟩
      obtain ⟨rfl, rfl⟩ := z
      exact ⟨Same.refl _, rfl⟩
    · cases e
theorem zip_at {xs ys : List D} {i : Nat} {d : D} (h : (List.zipWith (fun x y => D.tup [x, y]) xs ys)[i]? = some d) : ∃ x y, xs[i]? = some x ∧ ys[i]? = some y ∧ d = .tup [x, y] := by
  rw [List.getElem?_zipWith] at h
  split at h
  · rename_i x y e1 e2
    cases h
    exact ⟨x, y, e1, e2, rfl⟩
  · cases h
theorem jok_zip {a c : Addr} {xs ys : List D} {vs ws : List V} (q : SqT K H a vs) (t : RepL K r H xs vs) (q2 : SqT K H c ws) (t2 : RepL K r H ys ws) : JOk K (RZ.ItzT K a c) (.its (List.zipWith (fun x y => .tup [x, y]) xs ys)) r H := by
  intro b s r' H' i fx R
  have hp := fx.pre
  have hx := fx.ext
  refine ⟨fun e => ?_, fun d e => ?_⟩
  · simp only [Src.at, Option.some.injEq, List.getElem?_eq_none_iff, List.length_zipWith] at e
    refine ⟨vs, ws, hx.sqT q, hx.sqT q2, ?_⟩
    rw [t.length, t2.length]
    omega
  · simp only [Src.at, Option.some.injEq] at e
    obtain ⟨x, y, ex, ey, rfl⟩ := zip_at e
    obtain ⟨v, e1, e2⟩ := t.get ex
    obtain ⟨w, f1, f2⟩ := t2.get ey
    refine ⟨⟨vs, ws, v, w, hx.sqT q, hx.sqT q2, e1, f1⟩, fun z H2 hz => ?_⟩
    obtain ⟨T, x', y', rfl, hT, rfl, g1, g2⟩ := hz
    have z1 := g1 vs (hx.sqT q)
    have z2 := g2 ws (hx.sqT q2)
    rw [e1] at z1
    rw [f1] at z2
    cases z1
    cases z2
    refine ⟨Same.new hT, T, [v, w], rfl, SqT.of upd_same, v, [w], rfl, ?_, w, [], rfl, ?_, rfl⟩
    · exact Rep.mono hp (hx.trans (Ext.new hT)) x v e2
    · exact Rep.mono hp (hx.trans (Ext.new hT)) y w f2
end
end PV
set_option Elab.async false
set_option linter.all false
set_option autoImplicit false
set_option maxRecDepth 100000
set_option maxHeartbeats 1000000
namespace PV
open PySem PySem.Spec PyProof.Rows L2
section
variable {P : Ev} {C : Cn} {cur : Cur} {W : WX} {X : Cx} {a b c : CE} {as : List CE} {l m r e : Expr} {es : List Expr} {pos : Pos}
theorem PostG.self {α β : Type} {bb : List MO} {RP : RA → Hp → α → β → Prop} {K : PySem.W.Frag} {σ : Sl} {rr : RA} {H : Hp} {x : α} {s : HS bb} {v : β} {Q : β → Hp → Prop} (h : PostG RP K C W σ rr H (.ok x s) Q) (R : Rel K rr s.M H) (q : RP rr H x v) : Q v H :=
  h rr H v (Fx.refl rr H) R q
theorem st_cst {d : D} {v : V} (h : PE X e (tC v)) (hv : ∀ K r H, Rep K r H d v) : PE X e (tE X.K C P cur W (.cst d)) := PE.imp h fun σ H Q ⟨bb, s, rr, en, o, R, E, ev, post⟩ => by
  simp only [evE, ret] at ev
  cases ev
  exact post.self R (hv _ _ _)
theorem st_var {i : Nat} (h : PE X e (tVar i)) : PE X e (tE X.K C P cur W (.var i)) := PE.imp h fun σ H Q ⟨bb, s, rr, en, o, R, E, ev, post⟩ => by
  simp only [evE, ret] at ev
  split at ev
  · rename_i d hd
    cases ev
    obtain ⟨v, e1, e2⟩ := E.2.1 i d hd
    exact ⟨v, e1, post.self R e2⟩
  · cases ev
theorem st_glb {x : Str} {i : Int} (h : PE X e (tC (.int i))) : PE X e (tE X.K C P cur W (.glb x i)) := PE.imp h fun σ H Q ⟨bb, s, rr, en, o, R, E, ev, post⟩ => by
  simp only [evE, ret] at ev
  cases ev
  exact post.self R rfl
theorem two_then {K : PySem.W.Frag} {bb : List MO} {s : HS bb} {rr : RA} {H : Hp} {σ : Sl} {en : Env} {o : Out bb D} {Q : VK} {F : D → D → HS bb → R bb D} {rd : R2} (R : Rel K rr s.M H) (E : EnvR C K rr H en σ)
    (ev : bnd (evE P cur a en s) (fun x s1 => bnd (evE P cur b en s1) fun y s2 => F x y s2) = some o) (post : PostG (RD K) K C W σ rr H o Q)
    (fin : ∀ x y s2 r2 H2 v w, F x y s2 = some o → Rel K r2 s2.M H2 → Rep K r2 H2 x v → Rep K r2 H2 y w → PostG (RD K) K C W σ r2 H2 o Q → rd v w H2 Q) : tOp rd (tE K C P cur W a) (tE K C P cur W b) σ H Q := by
  refine tN.seq R E ev post fun x s1 r1 H1 v fx1 ev1 R1 E1 q1 post1 => ?_
  refine ⟨bb, s1, r1, en, ?_⟩
  cases h2 : evE P cur b en s1 with
  | none => rw [h2] at ev1; cases ev1
  | some o1 =>
    rw [h2] at ev1
    refine ⟨o1, R1, E1, h2, ?_⟩
    cases o1 with
    | ok y s2 => exact fun r2 H2 w fx R2 q2 => fin x y s2 r2 H2 v w ev1 R2 (Rep.mono fx.pre fx.ext _ _ q1) q2 (post1.mono fx)
    | ex c fs s2 =>
      cases ev1
      exact post1
theorem post_then {K : PySem.W.Frag} {bb : List MO} {rr : RA} {H : Hp} {σ : Sl} {d : D} {s : HS bb} {Q : VK} (h : PostG (RD K) K C W σ rr H (.ok d s) Q) : Then K rr H d s.M Q := h
theorem st_bin {o : B2} (ha : PE X l (tE X.K C P cur W a)) (hb : PE X r (tE X.K C P cur W b)) : PE X (.BinOp l o.op r pos) (tE X.K C P cur W (.bin o a b)) :=
  PE.imp (pe_op (op_bin o) ha hb) fun σ H Q ⟨bb, s, rr, en, u, R, E, ev, post⟩ => by
    simp only [evE] at ev
    refine two_then R E ev post fun x y s2 r2 H2 v w ef R2 q1 q2 p2 => ?_
    cases u with
    | ok d s3 => exact ⟨bb, s2, s3, r2, x, y, d, R2, q1, q2, ef, p2⟩
    | ex c fs s3 => exact (bin_noex ef).elim
theorem st_neg (ha : PE X l (tE X.K C P cur W a)) : PE X (.UnaryOp .USub l pos) (tE X.K C P cur W (.neg a)) :=
  PE.imp (pe_un un_neg ha) fun σ H Q ⟨bb, s, rr, en, u, R, E, ev, post⟩ => by
    simp only [evE] at ev
    refine tN.seq R E ev post fun x s1 r1 H1 v fx1 ev1 R1 E1 q1 post1 => ?_
    split at ev1
    · rename_i i
      cases ev1
      exact ⟨i, q1, post1.self R1 rfl⟩
    · cases ev1
theorem st_cmp (hu : X.A.units + 64 < cLine) {o : C2} (ha : PE X l (tE X.K C P cur W a)) (hb : PE X r (tE X.K C P cur W b)) : PE X (.Compare l [o.op] [r] pos) (tE X.K C P cur W (.cmp o a b)) :=
  PE.imp (pe_cmpR (op_cmp hu o) ha hb (nomark _ (by cases o <;> decide) (by cases o <;> decide))) fun σ H Q ⟨bb, s, rr, en, u, R, E, ev, post⟩ => by
    simp only [evE] at ev
    refine two_then R E ev post fun x y s2 r2 H2 v w ef R2 q1 q2 p2 => ?_
    obtain ⟨k, rfl⟩ := cmp_pure ef
    exact ⟨bb, s2, s2, r2, x, y, _, R2, q1, q2, ef, p2⟩
theorem tst_bl {bb : List MO} {k : Bool} {s : HS bb} : tst (some (.ok (.bl k) s)) = some (.ok k s) := rfl
theorem pt_of (h : PE X e (tE X.K C P cur W a)) (he : ∀ whole, isTrue e X.env whole = (do let v ← whole; standAt e.pos; holding [v] (truthy v))) : PT X e (tT X.K C P cur W a) :=
  PT.imp (pt_truth h he) fun σ H Q ⟨bb, s, rr, en, u, R, E, ev, post⟩ => by
    refine tN.seq R E ev post fun x s1 r1 H1 v fx1 ev1 R1 E1 q1 post1 => ?_
    split at ev1
    · rename_i k ek
      cases ev1
      exact ⟨k, truth_ok R1 q1 ek, post1.self R1 rfl⟩
    · cases ev1
theorem tt_cmp (hu : X.A.units + 64 < cLine) {o : C2} (ha : PE X l (tE X.K C P cur W a)) (hb : PE X r (tE X.K C P cur W b)) : PT X (.Compare l [o.op] [r] pos) (tT X.K C P cur W (.cmp o a b)) :=
  PT.imp (pt_cmpR (op_cmp hu o) ha hb (nomark _ (by cases o <;> decide) (by cases o <;> decide))) fun σ H Q ⟨bb, s, rr, en, u, R, E, ev, post⟩ => by
    simp only [evE, tst] at ev
    refine tN.seq (F := fun x s1 => bnd (bnd (evE P cur b en s1) fun y s2 => cmp o x y s2) fun d s => match truth s.M d with | some b => ret b s | none => none) R E (by
      rw [← ev]
      cases evE P cur a en s with
      | none => rfl
      | some o1 => cases o1 <;> rfl) post fun x s1 r1 H1 v fx1 ev1 R1 E1 q1 post1 => ?_
    refine ⟨bb, s1, r1, en, ?_⟩
    cases h2 : evE P cur b en s1 with
    | none => rw [h2] at ev1; cases ev1
    | some o1 =>
      rw [h2] at ev1
      refine ⟨o1, R1, E1, h2, ?_⟩
      cases o1 with
      | ex c fs s2 =>
        cases ev1
        exact post1
      | ok y s2 =>
        intro r2 H2 w fx R2 q2
        cases h3 : cmp o x y s2 with
        | none =>
          rw [show bnd (some (Out.ok y s2)) (fun y s2 => cmp o x y s2) = cmp o x y s2 from rfl, h3] at ev1
          cases ev1
        | some o2 =>
          obtain ⟨k, rfl⟩ := cmp_pure h3
          rw [show bnd (some (Out.ok y s2)) (fun y s2 => cmp o x y s2) = cmp o x y s2 from rfl, h3] at ev1
          cases ev1
          refine ⟨bb, s2, s2, r2, x, y, _, R2, Rep.mono fx.pre fx.ext _ _ q1, q2, h3, fun r3 H3 z fx3 R3 q3 => ?_⟩
          exact ⟨k, q3, (post1.mono fx) r3 H3 k fx3 R3 rfl⟩
theorem st_nt (ha : PE X l (tE X.K C P cur W a)) : PE X (.UnaryOp .Not l pos) (tE X.K C P cur W (.nt a)) :=
  PE.imp (pe_notT ha) fun σ H Q ⟨bb, s, rr, en, u, R, E, ev, post⟩ => by
    simp only [evE] at ev
    refine tN.seq R E ev post fun x s1 r1 H1 v fx1 ev1 R1 E1 q1 post1 => ?_
    split at ev1
    · rename_i k ek
      cases ev1
      exact ⟨k, truth_ok R1 q1 ek, post1.self R1 rfl⟩
    · cases ev1
theorem tt_nt (ha : PT X l (tT X.K C P cur W a)) : PT X (.UnaryOp .Not l pos) (tT X.K C P cur W (.nt a)) :=
  PT.imp (pt_not ha) fun σ H Q ⟨bb, s, rr, en, u, R, E, ev, post⟩ => by
    refine tN.seq (F := fun k s1 => ret (!k) s1) R E (by
      rw [← ev]
      simp only [evE, tst]
      cases evE P cur a en s with
      | none => rfl
      | some o1 =>
        cases o1 with
        | ex c fs s1 => rfl
        | ok d s1 =>
          show bnd (match truth s1.M d with | some b => ret b s1 | none => none) (fun k s1 => ret (!k) s1) = bnd (match truth s1.M d with | some b => ret (D.bl (!b)) s1 | none => none) _
          cases truth s1.M d <;> rfl) post fun k s1 r1 H1 v fx1 ev1 R1 E1 q1 post1 => ?_
    cases ev1
    subst q1
    exact post1.self R1 rfl
theorem st_ite (hc : PT X m (tT X.K C P cur W c)) (ha : PE X l (tE X.K C P cur W a)) (hb : PE X r (tE X.K C P cur W b)) : PE X (.IfExp m l r pos) (tE X.K C P cur W (.ite c a b)) :=
  PE.imp (pe_ifExp hc ha hb) fun σ H Q ⟨bb, s, rr, en, u, R, E, ev, post⟩ => by
    refine tN.seq (F := fun k s1 => if k then evE P cur a en s1 else evE P cur b en s1) R E (by
      rw [← ev]
      simp only [evE, tst]
      cases evE P cur c en s with
      | none => rfl
      | some o1 =>
        cases o1 with
        | ex c fs s1 => rfl
        | ok d s1 =>
          show bnd (match truth s1.M d with | some b => ret b s1 | none => none) _ = (match truth s1.M d with | some true => _ | some false => _ | none => none)
          cases truth s1.M d with
          | none => rfl
          | some k => cases k <;> rfl) post fun k s1 r1 H1 v fx1 ev1 R1 E1 q1 post1 => ?_
    subst q1
    cases v with
    | true => exact iteT ⟨bb, s1, r1, en, u, R1, E1, ev1, post1⟩
    | false => exact iteF ⟨bb, s1, r1, en, u, R1, E1, ev1, post1⟩
theorem pt_ite {tc ta tb : TT} (hc : PT X m tc) (ha : PT X l ta) (hb : PT X r tb) : PT X (.IfExp m l r pos) (fun σ H Q => tc σ H fun k H1 => if k = true then ta σ H1 Q else tb σ H1 Q) := by
  refine ⟨fun pins s σ H Q I h => ?_⟩
  show wpAny _ _ (isTrue m X.env (eval m X.env) >>= fun k => if k = true then isTrue l X.env (eval l X.env) else isTrue r X.env (eval r X.env)) _ _ _
  refine wpAny_bind (thn (hc.run pins s σ H _ I h) fun k s1 ⟨H1, I1, q1⟩ => ?_)
  cases k with
  | true => exact ha.run pins s1 σ H1 Q I1 q1
  | false => exact hb.run pins s1 σ H1 Q I1 q1
theorem tt_ite (hc : PT X m (tT X.K C P cur W c)) (ha : PT X l (tT X.K C P cur W a)) (hb : PT X r (tT X.K C P cur W b)) : PT X (.IfExp m l r pos) (tT X.K C P cur W (.ite c a b)) :=
  PT.imp (pt_ite hc ha hb) fun σ H Q ⟨bb, s, rr, en, u, R, E, ev, post⟩ => by
    refine tN.seq (F := fun k s1 => if k then tst (evE P cur a en s1) else tst (evE P cur b en s1)) R E (by
      rw [← ev]
      simp only [evE, tst]
      cases evE P cur c en s with
      | none => rfl
      | some o1 =>
        cases o1 with
        | ex c fs s1 => rfl
        | ok d s1 =>
          show bnd (match truth s1.M d with | some b => ret b s1 | none => none) _ = bnd (match truth s1.M d with | some true => evE P cur a en s1 | some false => evE P cur b en s1 | none => none) _
          cases truth s1.M d with
          | none => rfl
          | some k => cases k <;> rfl) post fun k s1 r1 H1 v fx1 ev1 R1 E1 q1 post1 => ?_
    subst q1
    cases v with
    | true => exact iteT ⟨bb, s1, r1, en, u, R1, E1, ev1, post1⟩
    | false => exact iteF ⟨bb, s1, r1, en, u, R1, E1, ev1, post1⟩
theorem st_nil : PA X [] (tL X.K C P cur W []) := PA.imp pa_nil fun σ H Q ⟨bb, s, rr, en, u, R, E, ev, post⟩ => by
  simp only [evL, ret] at ev
  cases ev
  exact post.self R rfl
theorem st_cons (ha : PE X e (tE X.K C P cur W a)) (hr : PA X es (tL X.K C P cur W as)) (hs : starEach (e :: es) X.env = (false, eval e X.env) :: starEach es X.env) : PA X (e :: es) (tL X.K C P cur W (a :: as)) :=
  PA.imp (pa_cons ha hr hs) fun σ H Q ⟨bb, s, rr, en, u, R, E, ev, post⟩ => by
    simp only [evL] at ev
    refine tN.seq R E ev post fun x s1 r1 H1 v fx1 ev1 R1 E1 q1 post1 => ?_
    refine tN.seq (ev := fun e s => evL P cur as e s) (RP := RDL X.K) R1 E1 ev1 post1 fun xs s2 r2 H2 vs fx2 ev2 R2 E2 q2 post2 => ?_
    cases ev2
    exact post2.self R2 ⟨v, vs, rfl, Rep.mono fx2.pre fx2.ext _ _ q1, q2⟩
theorem st_tup {k : Nat} (h : PA X es (tL X.K C P cur W as)) : PE X (.Tuple es k pos) (tE X.K C P cur W (.tup as)) :=
  PE.imp (pe_tup h) fun σ H Q ⟨bb, s, rr, en, u, R, E, ev, post⟩ => by
    simp only [evE] at ev
    refine tN.seq R E ev post fun xs s1 r1 H1 vs fx1 ev1 R1 E1 q1 post1 => ?_
    split at ev1
    · rename_i z
      cases ev1
      exact ⟨by rw [RepL.length q1]; exact sizeOk_le z, fun p hp => Then.tup (post_then post1) R1 q1 p hp⟩
    · cases ev1
theorem st_lst (h : PA X es (tL X.K C P cur W as)) : PE X (.List es pos) (tE X.K C P cur W (.lst as)) :=
  PE.imp (pe_lst h) fun σ H Q ⟨bb, s, rr, en, u, R, E, ev, post⟩ => by
    simp only [evE] at ev
    refine tN.seq R E ev post fun xs s1 r1 H1 vs fx1 ev1 R1 E1 q1 post1 => ?_
    split at ev1
    · rename_i z
      cases ev1
      exact ⟨by rw [RepL.length q1]; exact sizeOk_le z, fun p hp => Then.lst (post_then post1) R1 q1 p hp⟩
    · cases ev1
theorem st_dct0 : PE X (.Dict [] [] pos) (tE X.K C P cur W .dct0) :=
  PE.imp pe_dnewK fun σ H Q ⟨bb, s, rr, en, u, R, E, ev, post⟩ => by
    simp only [evE, ret] at ev
    cases ev
    intro d hd
    exact post (rr ++ [(d, true)]) _ _ (Fx.alloc hd) (R.alloc hd rfl ⟨rfl, upd_same⟩) ⟨d, true, by rw [← R.len]; simp, rfl⟩
theorem st_idx (ha : PE X l (tE X.K C P cur W a)) (hb : PE X r (tE X.K C P cur W b)) (hs : PlainIx r) : PE X (.Subscript l r pos) (tE X.K C P cur W (.idx a b)) :=
  PE.imp (pe_ix ix_idx ha hb hs) fun σ H Q ⟨bb, s, rr, en, u, R, E, ev, post⟩ => by
    simp only [evE] at ev
    refine two_then R E ev post fun x y s2 r2 H2 v w ef R2 q1 q2 p2 => ?_
    obtain ⟨d, rfl⟩ := index_pure ef
    exact ⟨bb, s2, s2, r2, x, y, d, R2, q1, q2, ef, p2⟩
theorem st_none : PO X none (tOp' X.K C P cur W none) := PO.imp po_none fun σ H Q ⟨bb, s, rr, en, u, R, E, ev, post⟩ => by
  simp only [evO, ret] at ev
  cases ev
  exact post.self R rfl
theorem st_some (ha : PE X e (tE X.K C P cur W a)) : PO X (some e) (tOp' X.K C P cur W (some a)) := PO.imp (po_some ha) fun σ H Q ⟨bb, s, rr, en, u, R, E, ev, post⟩ => by
  simp only [evO] at ev
  refine tN.seq R E ev post fun x s1 r1 H1 v fx1 ev1 R1 E1 q1 post1 => ?_
  split at ev1
  · rename_i i
    cases ev1
    exact ⟨i, q1, post1.self R1 rfl⟩
  · cases ev1
theorem st_slc {lo hi : Option CE} {el eh : Option Expr} {p2 : Pos} (ha : PE X l (tE X.K C P cur W a)) (hl : PO X el (tOp' X.K C P cur W lo)) (hh : PO X eh (tOp' X.K C P cur W hi)) : PE X (.Subscript l (.Slice el eh none p2) pos) (tE X.K C P cur W (.slc a lo hi)) :=
  PE.imp (pe_slice sl_slc ha hl hh) fun σ H Q ⟨bb, s, rr, en, u, R, E, ev, post⟩ => by
    simp only [evE] at ev
    refine tN.seq R E ev post fun x s1 r1 H1 v fx1 ev1 R1 E1 q1 post1 => ?_
    refine tN.seq (ev := fun e s => evO P cur lo e s) (RP := ROI) R1 E1 ev1 post1 fun il s2 r2 H2 wl fx2 ev2 R2 E2 q2 post2 => ?_
    refine tN.seq (ev := fun e s => evO P cur hi e s) (RP := ROI) R2 E2 ev2 post2 fun ih s3 r3 H3 wh fx3 ev3 R3 E3 q3 post3 => ?_
    subst q2 q3
    obtain ⟨d, s4, rfl⟩ := slice_ok ev3
    exact ⟨bb, s3, s4, r3, x, d, R3, Rep.mono (fx2.trans fx3).pre (fx2.trans fx3).ext _ _ q1, ev3, post3⟩
theorem st_call {f k j : Nat} {fa : Addr} {fd : FuncData} {ps : List Str} {x : Str} {p : Pos} (F : FnG X.prog X.w X.K X.mg X.base j fa fd ps (spOf X.K C P.cf f)) (hr : Room j X.A) (hgd : X.A.guards = some []) (hg : Gl X x) (hm : X.mg x = some (.ref fa)) (hk : PySem.W.keepIn X.K (.ref fa) = true) (hb : Binds X.K fd ps [])
    (tk : Takes X W) (ha : PA X es (tL X.K C P cur W as)) (hdb : (x == ("__debug__" : Str)) = false) (he : ∀ e es', es = e :: es' → starEach (e :: es') X.env = (false, eval e X.env) :: starEach es' X.env) (hpl : ∀ e es', es = e :: es' → (backTo pos (starEach es' X.env)).any (·.1) = false) (hn : es = [] → as = []) :
    PE X (.Call (.Name x p) es [] pos) (tE X.K C P cur W (.call f as)) := by
  cases es with
  | nil =>
    have e := hn rfl
    subst e
    refine PE.imp (pe_g0 F hr hgd hg hm hk hb tk hdb) fun σ H Q ⟨bb, s, rr, en, u, R, E, ev, post⟩ => ?_
    simp only [evE, evL] at ev
    refine ⟨bb, s, rr, [], u, R, rfl, ev, ?_⟩
    cases u with
    | ok d s1 => exact post
    | ex c fs s1 => exact post
  | cons e0 es0 =>
    refine PE.imp (pe_g F hr hgd hg hm hk hb tk ha hdb (he e0 es0 rfl) (hpl e0 es0 rfl)) fun σ H Q ⟨bb, s, rr, en, u, R, E, ev, post⟩ => ?_
    simp only [evE] at ev
    refine tN.seq R E ev post fun xs s1 r1 H1 vs fx1 ev1 R1 E1 q1 post1 => ?_
    refine ⟨bb, s1, r1, xs, u, R1, q1, ev1, ?_⟩
    cases u with
    | ok d s2 => exact post1
    | ex c fs s2 => exact post1
theorem kw_names {env : PySem.Env} {pos : Pos} : ∀ {kws : List Keyword} {ks : List Str}, kws.map (·.arg) = ks.map some → (backToKw pos (keywordEach kws env)).all (·.1.isSome) = true ∧ (backToKw pos (keywordEach kws env)).filterMap (·.1) = ks ∧ (backToKw pos (keywordEach kws env)).any (·.1.isNone) = false
  | [], [], _ => ⟨rfl, rfl, rfl⟩
  | [], _ :: _, h => by cases h
  | _ :: _, [], h => by cases h
  | ⟨a, v, p⟩ :: kws, k :: ks, h => by
    rw [List.map_cons, List.map_cons, List.cons.injEq] at h
    obtain ⟨h1, h2⟩ := h
    have h1' : a = some k := h1
    subst h1'
    obtain ⟨e1, e2, e3⟩ := kw_names (env := env) (pos := pos) (kws := kws) (ks := ks) h2
    refine ⟨?_, ?_, ?_⟩
    · show (true && (backToKw pos (keywordEach kws env)).all (·.1.isSome)) = true
      rw [e1]
      rfl
    · show k :: (backToKw pos (keywordEach kws env)).filterMap (·.1) = k :: ks
      rw [e2]
    · show (false || (backToKw pos (keywordEach kws env)).any (·.1.isNone)) = false
      rw [e3]
      rfl
theorem st_callk {f k j : Nat} {fa : Addr} {fd : FuncData} {ps ks : List Str} {x : Str} {p : Pos} {kes : List CE} {kws : List Keyword} (F : FnG X.prog X.w X.K X.mg X.base j fa fd ps (spOf X.K C P.cf f)) (hr : Room j X.A) (hgd : X.A.guards = some []) (hg : Gl X x) (hm : X.mg x = some (.ref fa)) (hk : PySem.W.keepIn X.K (.ref fa) = true) (hb : ∀ a, P.ar f = some a → KaOk X.K fd ps a)
    (tk : Takes X W) (ha : PA X es (tL X.K C P cur W as)) (hkw : PK X kws (tL X.K C P cur W kes)) (hks : kws.map (·.arg) = ks.map some) (hdb : (x == ("__debug__" : Str)) = false) (he : ∀ e es', es = e :: es' → starEach (e :: es') X.env = (false, eval e X.env) :: starEach es' X.env) (hpl : ∀ e es', es = e :: es' → (backTo pos (starEach (e :: es') X.env)).any (·.1) = false) (hn : es = [] → as = []) :
    PE X (.Call (.Name x p) es kws pos) (tE X.K C P cur W (.callk f as ks kes)) := by
  obtain ⟨n1, n2, n3⟩ := kw_names (env := X.env) (pos := pos) hks
  have key : ∀ {σ : Sl} {H1 : Hp} {Q : VK} {bb : List MO} {s1 : HS bb} {r1 : RA} {en : Env} {u : Out bb D} {xs : List D} {vs : List V} {a : ArI}, P.ar f = some a → Rel X.K r1 s1.M H1 → EnvR C X.K r1 H1 en σ → RepL X.K r1 H1 xs vs → PostG (RD X.K) X.K C W σ r1 H1 u Q →
      (bnd (evL P cur kes en s1) fun ys s2 => (match arr a xs ks ys with
        | some zs => P.cf f zs s2
        | none => none)) = some u → tL X.K C P cur W kes σ H1 fun ws H2 => ∃ (r : RA) (xs ys zs : List D), RepL X.K r H2 xs vs ∧ RepL X.K r H2 ys ws ∧ arr a xs ks ys = some zs ∧ ∀ zv, RepL X.K r H2 zs zv → spOf X.K C P.cf f zv H2 Q fun c d H' => W c d σ H' := by
    intro σ H1 Q bb s1 r1 en u xs vs a ea R1 E1 q1 post1 ev1
    refine tN.seq (ev := fun e s => evL P cur kes e s) (RP := RDL X.K) R1 E1 ev1 post1 fun ys s2 r2 H2 ws fx2 ev2 R2 E2 q2 post2 => ?_
    split at ev2
    · rename_i zs hz
      refine ⟨r2, xs, ys, zs, RepL.mono fx2.pre fx2.ext _ _ q1, q2, hz, fun zv hzv => ⟨bb, s2, r2, zs, u, R2, hzv, ev2, ?_⟩⟩
      cases u with
      | ok d s3 => exact post2
      | ex c fs s3 => exact post2
    · cases ev2
  cases ea : P.ar f with
  | none => exact ⟨fun pins s0 σ H Q I ⟨bb, s, rr, en, u, R, E, ev, post⟩ => by
      simp only [evE, ea] at ev
      cases ev⟩
  | some a =>
    cases es with
    | nil =>
      have e := hn rfl
      subst e
      refine PE.imp (pe_gk0 F hr hgd hg hm hk (hb a ea) tk hkw n1 n2 hdb (by rw [n3]; rfl)) fun σ H Q ⟨bb, s, rr, en, u, R, E, ev, post⟩ => ?_
      simp only [evE, evL, ea] at ev
      exact key (xs := []) (vs := []) ea R E rfl post ev
    | cons e0 es0 =>
      refine PE.imp (pe_gk F hr hgd hg hm hk (hb a ea) tk ha hkw n1 n2 hdb (he e0 es0 rfl) (by rw [n3, hpl e0 es0 rfl]; rfl)) fun σ H Q ⟨bb, s, rr, en, u, R, E, ev, post⟩ => ?_
      simp only [evE, ea] at ev
      refine tN.seq R E ev post fun xs s1 r1 H1 vs fx1 ev1 R1 E1 q1 post1 => ?_
      exact key ea R1 E1 q1 post1 ev1
theorem st_bi {g : BI} {x : Str} {p : Pos} {rest : List Expr} (hc : CallR X g.val (rF X.K g)) (hg : Gl X x) (hm : X.mg x = none) (hv : bootBuiltins x = some g.val) (ha : PA X (e :: rest) (tL X.K C P cur W as)) (hn : x ≠ "__name__") (hdb : (x == ("__debug__" : Str)) = false)
    (he : starEach (e :: rest) X.env = (false, eval e X.env) :: starEach rest X.env) (hpl : (backTo pos (starEach rest X.env)).any (·.1) = false) : PE X (.Call (.Name x p) (e :: rest) [] pos) (tE X.K C P cur W (.bi g as)) := by
  have h : PE X (.Call (.Name x p) (e :: rest) [] pos) (tCB (rF X.K g) (tL X.K C P cur W as)) := by
    cases g <;> first
      | exact pe_callB hc hg hm hv ha hn hdb he hpl
      | exact pe_callTy hc hg hm hv ha hn hdb he hpl
  refine PE.imp h fun σ H Q ⟨bb, s, rr, en, u, R, E, ev, post⟩ => ?_
  simp only [evE] at ev
  refine tN.seq R E ev post fun xs s1 r1 H1 vs fx1 ev1 R1 E1 q1 post1 => ?_
  obtain ⟨d, s2, rfl⟩ := call_ok ev1
  exact ⟨bb, s1, s2, r1, xs, d, R1, q1, ev1, post1⟩
def MT.ty : MT → String
  | .append => "list"
def MT.id : MT → String
  | .append => "list.append"
def rM (K : PySem.W.Frag) (m : MT) : V → List V → Hp → VK → Prop := fun x vs H Q => ∃ (bb : List MO) (s s1 : HS bb) (r : RA) (d : D) (ds : List D) (y : D), Rel K r s.M H ∧ Rep K r H d x ∧ RepL K r H ds vs ∧ meth m d ds s = some (.ok y s1) ∧ Then K r H y s1.M Q
theorem base_ok {o : Expr} {n : Str} {env : PySem.Env} {w : Sem Value} (h : baseB o = true) : attributeBase o n env w = w := by
  cases o with
  | Call f args kws p =>
    cases f with
    | Name id p2 =>
      cases args with
      | cons _ _ => rfl
      | nil =>
        cases kws with
        | cons _ _ => rfl
        | nil =>
          have h' : (id != ("super" : Str)) = true := h
          show (if (id != "super" || n == "__class__" || env.kindOf "super" != some .globalImplicit || env.kindOf "__class__" != some .free) = true then _ else _) = _
          rw [h']
          rfl
    | _ => rfl
  | _ => rfl
theorem meth_ok {m : MT} {bb : List MO} {x : D} {xs : List D} {s : HS bb} {o : Out bb D} (h : meth m x xs s = some o) : ∃ d s1, o = .ok d s1 := by
  cases m with
  | append =>
    simp only [meth] at h
    split at h
    · split at h
      · split at h
        · cases h
          exact ⟨_, _, rfl⟩
        · cases h
      · cases h
    · cases h
theorem mr_append : MtR X "list.append" (rM X.K .append) := by
  intro pins s σ H x vs v us Q I rx rv h
  obtain ⟨bb, s0, s1, r, d, ds, y, R, q1, q2, ev, post⟩ := h
  simp only [meth] at ev
  split at ev
  · rename_i p z
    split at ev
    · rename_i ys hm
      split at ev
      · rename_i hz
        cases ev
        obtain ⟨a, w, ha, rfl⟩ := q1
        obtain ⟨v1, vr, rfl, qv, hr⟩ := q2
        cases (show vr = [] from hr)
        obtain ⟨hw, ws, hH, ht⟩ := R.obj p _ a w hm ha
        have hw' : w = true := hw
        subst hw'
        have hzz := sizeOk_le hz
        refine mt_append pins s σ H _ _ v us Q I rx rv ⟨a, ws, v1, rfl, rfl, hH, by rw [RepL.length ht]; omega, ?_⟩
        have hx := Ext.upd (u := .lst (ws ++ [v1])) hH rfl
        refine post r _ _ (Fx.upd hH rfl (List.mem_of_getElem? ha)) (R.set rfl ha ⟨_, upd_same, ?_⟩) rfl
        exact RepL.app (RepL.mono List.prefix_rfl hx _ _ ht) ⟨v1, [], rfl, Rep.mono List.prefix_rfl hx _ _ qv, rfl⟩
      · cases ev
    · cases ev
  · cases ev
theorem mt_of (m : MT) : MtR X m.id (rM X.K m) ∧ PlainAttrs m.ty ∧ Slot m.ty m.nm m.id ∧ typeOf (.builtin m.id) = pure (.type "method_descriptor") := by
  cases m with
  | append => exact ⟨mr_append, PySem.F.plainAttrs_list, PySem.F.slot_list_append, PySem.F.type_list_append⟩
theorem mtOk_ty {K : PySem.W.Frag} {m : MT} {bb : List MO} {s : HS bb} {rr : RA} {H : Hp} {d : D} {v : V} (h : mtOk m s.M d = true) (R : Rel K rr s.M H) (q : Rep K rr H d v) : tyV K m.ty v H := by
  cases m with
  | append =>
    simp only [mtOk] at h
    split at h
    · rename_i p
      split at h
      · rename_i ys hm
        obtain ⟨a, w, ha, rfl⟩ := q
        obtain ⟨ws, hq, ht⟩ := (R.ob hm ha).sq
        exact .inl ⟨rfl, ws, hq⟩
      · cases h
    · cases h
theorem st_mt {m : MT} {o : Expr} {apos cpos : Pos} {rest : List Expr} (ho : PE X o (tE X.K C P cur W a)) (ha : PA X (e :: rest) (tL X.K C P cur W as)) (hb : baseB o = true) (hl : (apos.endLine == cpos.line) = true) (hn : (e :: rest).length < 29)
    (hns : (backTo cpos (starEach (e :: rest) X.env)).all (fun x => !x.1) = true) (he : starEach (e :: rest) X.env = (false, eval e X.env) :: starEach rest X.env) (hpl : (backTo cpos (starEach rest X.env)).any (·.1) = false) :
    PE X (.Call (.Attribute o m.nm apos) (e :: rest) [] cpos) (tE X.K C P cur W (.mt m a as)) := by
  obtain ⟨h1, h2, h3, h4⟩ := mt_of (X := X) m
  refine PE.imp (pe_bm h2 h3 h4 h1 ho ha (base_ok hb) (by
    rw [hns, Bool.true_and]
    show (true && decide ((e :: rest).length + 0 + 0 < 30)) = true
    rw [Bool.true_and]
    exact decide_eq_true (by omega)) hl he hpl) fun σ H Q ⟨bb, s, rr, en, u, R, E, ev, post⟩ => ?_
  simp only [evE] at ev
  refine tN.seq R E ev post fun x s1 r1 H1 v fx1 ev1 R1 E1 q1 post1 => ?_
  split at ev1
  · rename_i hok
    refine ⟨mtOk_ty hok R1 q1, ?_⟩
    refine tN.seq (ev := fun e s => evL P cur as e s) (RP := RDL X.K) R1 E1 ev1 post1 fun xs s2 r2 H2 vs fx2 ev2 R2 E2 q2 post2 => ?_
    obtain ⟨d, s3, rfl⟩ := meth_ok ev2
    exact ⟨bb, s2, s3, r2, x, xs, d, R2, Rep.mono fx2.pre fx2.ext _ _ q1, q2, ev2, post2⟩
  · cases ev1
theorem st_isi {t : TyC} {p p2 : Pos} (hg : Gl X "isinstance") (hm : X.mg "isinstance" = none) (hg2 : Gl X t.nm) (hm2 : X.mg t.nm = none) (hv2 : bootBuiltins t.nm = some (.type t.nm)) (hn2 : (t.nm : Str) ≠ "__name__") (hd2 : ((t.nm : Str) == ("__debug__" : Str)) = false)
    (ha : PE X e (tE X.K C P cur W a)) (he : starEach [e, .Name t.nm p2] X.env = (false, eval e X.env) :: starEach [.Name t.nm p2] X.env) : PE X (.Call (.Name "isinstance" p) [e, .Name t.nm p2] [] pos) (tE X.K C P cur W (.bi (.isi t) [a])) := by
  have hb : PE X (.Name t.nm p2) (tC (.ty t.nm)) := pe_bltn hg2 hm2 hv2 rfl hn2 hd2
  refine PE.imp (pe_callB (cr_isi t) hg hm (by decide +kernel) (pa_cons ha (pa_cons hb pa_nil) he) (by decide) (by decide) he rfl) fun σ H Q ⟨bb, s, rr, en, u, R, E, ev, post⟩ => ?_
  simp only [evE, evL] at ev
  refine tN.seq (F := fun x s1 => PV.call (.isi t) [x] s1) R E (by
    rw [← ev]
    cases evE P cur a en s with
    | none => rfl
    | some o1 => cases o1 <;> rfl) post fun x s1 r1 H1 v fx1 ev1 R1 E1 q1 post1 => ?_
  obtain ⟨d, s2, rfl⟩ := call_ok ev1
  exact ⟨v, rfl, bb, s1, s2, r1, [x], d, R1, ⟨v, [], rfl, q1, rfl⟩, ev1, post1⟩
end
end PV
set_option Elab.async false
set_option linter.all false
set_option autoImplicit false
set_option maxRecDepth 100000
set_option maxHeartbeats 1000000
namespace PV
open PySem PySem.Spec PyProof.Rows L2
section
variable {P : Ev} {C : Cn} {cur : Cur} {W : WX} {X : Cx} {a b c : CE} {as : List CE} {l m r e : Expr} {es : List Expr} {pos : Pos}
theorem tst_post {K : PySem.W.Frag} {bb : List MO} {rr : RA} {H : Hp} {σ : Sl} {x : R bb D} {u : Out bb Bool} {Q : Bool → Hp → Prop} (h : tst x = some u) (post : PostG RBl K C W σ rr H u Q) (hb : ∀ d s, x = some (.ok d s) → ∃ k, d = .bl k) :
    ∃ o, x = some o ∧ PostG (RD K) K C W σ rr H o (fun v H' => ∃ k, v = .bl k ∧ Q k H') := by
  cases x with
  | none => cases h
  | some o =>
    refine ⟨o, rfl, ?_⟩
    cases o with
    | ex c fs s =>
      cases h
      exact post
    | ok d s =>
      obtain ⟨k, rfl⟩ := hb d s rfl
      cases h
      exact fun r' H' v fx R q => ⟨k, q, post r' H' k fx R rfl⟩
theorem chn_bl {o o2 : C2} {bb : List MO} {en : Env} {s s' : HS bb} {d : D} (h : evE P cur (.chn o o2 a b c) en s = some (.ok d s')) : ∃ k, d = .bl k := by
  simp only [evE] at h
  cases h1 : evE P cur a en s with
  | none => rw [h1] at h; cases h
  | some o1 =>
    rw [h1] at h
    cases o1 with
    | ex _ _ _ => cases h
    | ok x s1 =>
      simp only [bnd] at h
      cases h2 : evE P cur b en s1 with
      | none => rw [h2] at h; cases h
      | some o3 =>
        rw [h2] at h
        cases o3 with
        | ex _ _ _ => cases h
        | ok y s2 =>
          simp only at h
          cases h3 : cmp o x y s2 with
          | none => rw [h3] at h; cases h
          | some o4 =>
            rw [h3] at h
            obtain ⟨k, rfl⟩ := cmp_pure h3
            cases k with
            | false => cases h; exact ⟨_, rfl⟩
            | true =>
              simp only at h
              cases h4 : evE P cur c en s2 with
              | none => rw [h4] at h; cases h
              | some o5 =>
                rw [h4] at h
                cases o5 with
                | ex _ _ _ => cases h
                | ok z s3 =>
                  obtain ⟨k, q⟩ := cmp_pure h
                  cases q
                  exact ⟨k, rfl⟩
theorem chn_read {K : PySem.W.Frag} {o o2 : C2} {bb : List MO} {s : HS bb} {rr : RA} {H : Hp} {σ : Sl} {en : Env} {u : Out bb D} {Q : VK} (R : Rel K rr s.M H) (E : EnvR C K rr H en σ) (ev : evE P cur (.chn o o2 a b c) en s = some u) (post : PostG (RD K) K C W σ rr H u Q) :
    tChain (rC K o) (rC K o2) (tE K C P cur W a) (tE K C P cur W b) (tE K C P cur W c) σ H Q := by
  simp only [evE] at ev
  refine tN.seq R E ev post fun x s1 r1 H1 v fx1 ev1 R1 E1 q1 post1 => ?_
  refine tN.seq (ev := fun e s => evE P cur b e s) (RP := RD K) R1 E1 ev1 post1 fun y s2 r2 H2 w fx2 ev2 R2 E2 q2 post2 => ?_
  cases h3 : cmp o x y s2 with
  | none => rw [h3] at ev2; cases ev2
  | some o4 =>
    rw [h3] at ev2
    obtain ⟨k, rfl⟩ := cmp_pure h3
    refine ⟨bb, s2, s2, r2, x, y, _, R2, Rep.mono fx2.pre fx2.ext _ _ q1, q2, h3, fun r3 H3 z fx3 R3 q3 => ⟨k, q3, ?_⟩⟩
    cases k with
    | false =>
      cases ev2
      exact iteF ((post2.mono fx3).self R3 rfl)
    | true =>
      refine iteT (tN.seq (ev := fun e s => evE P cur c e s) (RP := RD K) R3 (E2.mono fx3.pre fx3.ext) ev2 (post2.mono fx3) fun z' s4 r4 H4 w' fx4 ev4 R4 E4 q4 post4 => ?_)
      obtain ⟨k, rfl⟩ := cmp_pure ev4
      exact ⟨bb, s4, s4, r4, y, z', _, R4, Rep.mono (fx3.trans fx4).pre (fx3.trans fx4).ext _ _ q2, q4, ev4, post4⟩
theorem lastM {o o2 : C2} (x y : Expr) : lastMarks [o.op, o2.op] [x, y] = false := by
  show behindInMarks o2.op y = false
  exact nomark _ (by cases o2 <;> decide) (by cases o2 <;> decide)
theorem st_chn (hu : X.A.units + 64 < cLine) {o o2 : C2} (ha : PE X l (tE X.K C P cur W a)) (hb : PE X m (tE X.K C P cur W b)) (hc : PE X r (tE X.K C P cur W c)) : PE X (.Compare l [o.op, o2.op] [m, r] pos) (tE X.K C P cur W (.chn o o2 a b c)) :=
  PE.imp (pe_chain (op_cmp hu o) (op_cmp hu o2) ha hb hc (lastM m r)) fun σ H Q ⟨bb, s, rr, en, u, R, E, ev, post⟩ => chn_read R E ev post
theorem tt_chn (hu : X.A.units + 64 < cLine) {o o2 : C2} (ha : PE X l (tE X.K C P cur W a)) (hb : PE X m (tE X.K C P cur W b)) (hc : PE X r (tE X.K C P cur W c)) : PT X (.Compare l [o.op, o2.op] [m, r] pos) (tT X.K C P cur W (.chn o o2 a b c)) :=
  PT.imp (pt_chain (op_cmp hu o) (op_cmp hu o2) ha hb hc (lastM m r)) fun σ H Q ⟨bb, s, rr, en, u, R, E, ev, post⟩ => by
    obtain ⟨o', e', p'⟩ := tst_post ev post fun d s h => chn_bl h
    exact chn_read R E e' p'
def tAn (K : PySem.W.Frag) (C : Cn) (P : Ev) (cur : Cur) (W : WX) (cs : List CE) : TE := tN (RD K) K C W (fun e s => evAnd P cur cs e s)
def tAnT (K : PySem.W.Frag) (C : Cn) (P : Ev) (cur : Cur) (W : WX) (cs : List CE) : TT := tN RBl K C W (fun e s => tst (evAnd P cur cs e s))
def tOn (K : PySem.W.Frag) (C : Cn) (P : Ev) (cur : Cur) (W : WX) (cs : List CE) : TE := tN (RD K) K C W (fun e s => evOr P cur cs e s)
def tOnT (K : PySem.W.Frag) (C : Cn) (P : Ev) (cur : Cur) (W : WX) (cs : List CE) : TT := tN RBl K C W (fun e s => tst (evOr P cur cs e s))
theorem an_one (ha : PE X e (tE X.K C P cur W a)) : PE X (.BoolOp .And [e] pos) (tAn X.K C P cur W [a]) := PE.imp (pe_one ha) fun σ H Q ⟨bb, s, rr, en, u, R, E, ev, post⟩ => by
  simp only [evAnd] at ev
  refine tN.seq R E ev post fun x s1 r1 H1 v fx1 ev1 R1 E1 q1 post1 => ?_
  cases ev1
  exact post1.self R1 q1
theorem on_one (ha : PE X e (tE X.K C P cur W a)) : PE X (.BoolOp .Or [e] pos) (tOn X.K C P cur W [a]) := PE.imp (pe_one ha) fun σ H Q ⟨bb, s, rr, en, u, R, E, ev, post⟩ => by
  simp only [evOr] at ev
  refine tN.seq R E ev post fun x s1 r1 H1 v fx1 ev1 R1 E1 q1 post1 => ?_
  cases ev1
  exact post1.self R1 q1
theorem an_cons {e2 : Expr} (ha : PE X e (tE X.K C P cur W a)) (hb : PE X (.BoolOp .And (e2 :: es) pos) (tAn X.K C P cur W (b :: as))) : PE X (.BoolOp .And (e :: e2 :: es) pos) (tAn X.K C P cur W (a :: b :: as)) :=
  PE.imp (pe_andT ha hb) fun σ H Q ⟨bb, s, rr, en, u, R, E, ev, post⟩ => by
    rw [show (fun {b_1 : List MO} e (s : HS b_1) => evAnd P cur (a :: b :: as) e s) en s = bnd (evE P cur a en s) fun x s1 => (match truth s1.M x with | some true => evAnd P cur (b :: as) en s1 | some false => ret x s1 | none => none) from rfl] at ev
    refine tN.seq R E ev post fun x s1 r1 H1 v fx1 ev1 R1 E1 q1 post1 => ?_
    split at ev1
    · rename_i ek
      exact ⟨true, truth_ok R1 q1 ek, iteT ⟨bb, s1, r1, en, u, R1, E1, ev1, post1⟩⟩
    · rename_i ek
      cases ev1
      exact ⟨false, truth_ok R1 q1 ek, iteF (post1.self R1 q1)⟩
    · cases ev1
theorem on_cons {e2 : Expr} (ha : PE X e (tE X.K C P cur W a)) (hb : PE X (.BoolOp .Or (e2 :: es) pos) (tOn X.K C P cur W (b :: as))) : PE X (.BoolOp .Or (e :: e2 :: es) pos) (tOn X.K C P cur W (a :: b :: as)) :=
  PE.imp (pe_orT ha hb) fun σ H Q ⟨bb, s, rr, en, u, R, E, ev, post⟩ => by
    rw [show (fun {b_1 : List MO} e (s : HS b_1) => evOr P cur (a :: b :: as) e s) en s = bnd (evE P cur a en s) fun x s1 => (match truth s1.M x with | some true => ret x s1 | some false => evOr P cur (b :: as) en s1 | none => none) from rfl] at ev
    refine tN.seq R E ev post fun x s1 r1 H1 v fx1 ev1 R1 E1 q1 post1 => ?_
    split at ev1
    · rename_i ek
      cases ev1
      exact ⟨true, truth_ok R1 q1 ek, iteT (post1.self R1 q1)⟩
    · rename_i ek
      exact ⟨false, truth_ok R1 q1 ek, iteF ⟨bb, s1, r1, en, u, R1, E1, ev1, post1⟩⟩
    · cases ev1
theorem bnd_ret {bb : List MO} {x : R bb D} : bnd x (fun d s => ret d s) = x := by
  cases x with
  | none => rfl
  | some o => cases o <;> rfl
theorem anT_one (ha : PT X e (tT X.K C P cur W a)) : PW X (.BoolOp .And [e] pos) (tAnT X.K C P cur W [a]) := PW.imp (pw_and1 ha) fun σ H Q ⟨bb, s, rr, en, u, R, E, ev, post⟩ => by
  refine ⟨bb, s, rr, en, u, R, E, ?_, post⟩
  rw [← ev]
  show tst (evE P cur a en s) = tst (bnd (evE P cur a en s) fun x s1 => ret x s1)
  rw [bnd_ret]
theorem onT_one (ha : PT X e (tT X.K C P cur W a)) : PW X (.BoolOp .Or [e] pos) (tOnT X.K C P cur W [a]) := PW.imp (pw_or1 ha) fun σ H Q ⟨bb, s, rr, en, u, R, E, ev, post⟩ => by
  refine ⟨bb, s, rr, en, u, R, E, ?_, post⟩
  rw [← ev]
  show tst (evE P cur a en s) = tst (bnd (evE P cur a en s) fun x s1 => ret x s1)
  rw [bnd_ret]
theorem anT_cons {e2 : Expr} (ha : PT X e (tT X.K C P cur W a)) (hb : PW X (.BoolOp .And (e2 :: es) pos) (tAnT X.K C P cur W (b :: as))) : PW X (.BoolOp .And (e :: e2 :: es) pos) (tAnT X.K C P cur W (a :: b :: as)) :=
  PW.imp (pw_and ha hb) fun σ H Q ⟨bb, s, rr, en, u, R, E, ev, post⟩ => by
    refine tN.seq (F := fun k s1 => if k then tst (evAnd P cur (b :: as) en s1) else ret false s1) R E (by
      rw [← ev]
      show _ = tst (bnd (evE P cur a en s) fun x s1 => (match truth s1.M x with | some true => evAnd P cur (b :: as) en s1 | some false => ret x s1 | none => none))
      simp only [tst]
      cases evE P cur a en s with
      | none => rfl
      | some o1 =>
        cases o1 with
        | ex c fs s1 => rfl
        | ok d s1 =>
          simp only [bnd]
          cases ht : truth s1.M d with
          | none => rfl
          | some k =>
            cases k with
            | true => rfl
            | false => simp only [ret, ht]; rfl) post fun k s1 r1 H1 v fx1 ev1 R1 E1 q1 post1 => ?_
    subst q1
    cases v with
    | true => exact iteT ⟨bb, s1, r1, en, u, R1, E1, ev1, post1⟩
    | false =>
      cases ev1
      exact iteF (post1.self R1 rfl)
theorem onT_cons {e2 : Expr} (ha : PT X e (tT X.K C P cur W a)) (hb : PW X (.BoolOp .Or (e2 :: es) pos) (tOnT X.K C P cur W (b :: as))) : PW X (.BoolOp .Or (e :: e2 :: es) pos) (tOnT X.K C P cur W (a :: b :: as)) :=
  PW.imp (pw_or ha hb) fun σ H Q ⟨bb, s, rr, en, u, R, E, ev, post⟩ => by
    refine tN.seq (F := fun k s1 => if k then ret true s1 else tst (evOr P cur (b :: as) en s1)) R E (by
      rw [← ev]
      show _ = tst (bnd (evE P cur a en s) fun x s1 => (match truth s1.M x with | some true => ret x s1 | some false => evOr P cur (b :: as) en s1 | none => none))
      simp only [tst]
      cases evE P cur a en s with
      | none => rfl
      | some o1 =>
        cases o1 with
        | ex c fs s1 => rfl
        | ok d s1 =>
          simp only [bnd]
          cases ht : truth s1.M d with
          | none => rfl
          | some k =>
            cases k with
            | false => rfl
            | true => simp only [ret, ht]; rfl) post fun k s1 r1 H1 v fx1 ev1 R1 E1 q1 post1 => ?_
    subst q1
    cases v with
    | false => exact iteF ⟨bb, s1, r1, en, u, R1, E1, ev1, post1⟩
    | true =>
      cases ev1
      exact iteT (post1.self R1 rfl)
end
end PV
set_option Elab.async false
set_option linter.all false
set_option autoImplicit false
set_option maxRecDepth 100000
set_option maxHeartbeats 1000000
namespace PV
open PySem PySem.Spec PyProof.Rows L2
def setV : List Nat → List V → Sl → Sl
  | i :: is, v :: vs, σ => setV is vs (σ.set i (some v))
  | _, _, σ => σ
def gTg (K : PySem.W.Frag) : Tg → TG
  | .nm i => gName i
  | .tp is => fun v σ H Q => ∃ a xs, v = .ref a ∧ SqT K H a xs ∧ xs.length = is.length ∧ Q (setV is xs σ) H
theorem PG.imp {X : Cx} {e : Expr} {t t' : TG} (h : PG X e t) (i : ∀ v σ H Q, t' v σ H Q → t v σ H Q) : PG X e t' := ⟨fun pins s σ H v u Q I r q => h.run pins s σ H v u Q I r (i v σ H Q q)⟩
theorem PGs.imp {X : Cx} {e : List Expr} {t t' : TGs} (h : PGs X e t) (i : ∀ v σ H Q, t' v σ H Q → t v σ H Q) : PGs X e t' := ⟨fun pins s σ H v u Q I r q => h.run pins s σ H v u Q I r (i v σ H Q q)⟩
theorem loc_of {cel : Bool} {X : Cx} {x : Str} (hf : cel = true → ∀ y, X.fn y = true) (h : locB cel X.env.scope x = true) : Loc X.env.scope x ∧ (X.fn x = true ∨ X.env.scope.names.lookup x = some .local) := by
  unfold locB at h
  split at h
  · rename_i q
    exact ⟨.inl q, .inr q⟩
  · rename_i q
    exact ⟨.inr q, .inl (hf h x)⟩
  · cases h
theorem pgs_names {cel : Bool} {X : Cx} (hf : cel = true → ∀ y, X.fn y = true) (hN : X.N.Nodup) : ∀ {is : List Nat} {es : List Expr}, chkTg.go cel X.N X.env.scope is es = true →
    PGs X es (fun vs σ H Q => vs.length = is.length ∧ Q (setV is vs σ) H) ∧ (assignEach es X.env).length = is.length ∧ (assignEach es X.env).findIdx? (·.1) = none
  | [], [], _ => ⟨PGs.imp pgs_nil fun vs σ H Q ⟨e, q⟩ => ⟨List.eq_nil_of_length_eq_zero e, by cases vs <;> exact q⟩, rfl, rfl⟩
  | [], _ :: _, h => by cases h
  | i :: is, [], h => by cases h
  | i :: is, e :: es, h => by
    cases e <;> try (cases h; done)
    rename_i x p
    simp only [chkTg.go, Bool.and_eq_true, decide_eq_true_eq] at h
    obtain ⟨⟨h1, h2⟩, h3⟩ := h
    obtain ⟨l1, l2⟩ := loc_of hf h2
    obtain ⟨g, gl, gf⟩ := pgs_names hf hN h3
    refine ⟨PGs.imp (pgs_cons (pg_name hN h1 l1 l2) g rfl) fun vs σ H Q ⟨e, q⟩ => ?_, ?_, ?_⟩
    · cases vs with
      | nil => cases e
      | cons v vr => exact ⟨v, vr, rfl, by simpa using e, q⟩
    · show (assignEach es X.env).length + 1 = is.length + 1
      rw [gl]
    · show ((false, assign (.Name x p) X.env) :: assignEach es X.env).findIdx? (·.1) = none
      rw [List.findIdx?_cons]
      rw [gf]
      rfl
theorem pg_tg {cel : Bool} {X : Cx} {tg : Tg} {e : Expr} (hf : cel = true → ∀ y, X.fn y = true) (hc : X.calm = true) (hN : X.N.Nodup) (h : chkTg cel X.N X.env.scope tg e = true) : PG X e (gTg X.K tg) := by
  cases tg with
  | nm i =>
    cases e <;> try (cases h; done)
    rename_i x p
    simp only [chkTg, Bool.and_eq_true, decide_eq_true_eq] at h
    obtain ⟨l1, l2⟩ := loc_of hf h.2
    exact pg_name hN h.1 l1 l2
  | tp is =>
    cases e <;> try (cases h; done)
    rename_i es k p
    obtain ⟨g, gl, gf⟩ := pgs_names hf hN (show chkTg.go cel X.N X.env.scope is es = true from h)
    exact PG.imp (pg_tup hc g gl gf) fun v σ H Q ⟨a, xs, e1, e2, e3, q⟩ => ⟨a, xs, e1, e2, e3, e3, q⟩
theorem setAll_ok {C : Cn} {K : PySem.W.Frag} {r : RA} {H : Hp} : ∀ {is : List Nat} {ds : List D} {vs : List V} {e e1 : Env} {σ : Sl}, setAll is ds e = some e1 → RepL K r H ds vs → EnvR C K r H e σ → EnvR C K r H e1 (setV is vs σ) ∧ vs.length = is.length
  | [], [], vs, e, e1, σ, h, t, E => by
    cases h
    rw [show vs = [] from t]
    exact ⟨E, rfl⟩
  | [], _ :: _, _, _, _, _, h, _, _ => by cases h
  | _ :: _, [], _, _, _, _, h, _, _ => by cases h
  | i :: is, d :: ds, vs, e, e1, σ, h, t, E => by
    obtain ⟨v, vr, rfl, h1, h2⟩ := t
    obtain ⟨k1, k2⟩ := setAll_ok (is := is) h h2 (E.set i h1)
    exact ⟨k1, by simp [k2]⟩
def Tg.put (tg : Tg) (v : V) (vs : List V) (σ : Sl) : Sl := match tg with
  | .nm i => σ.set i (some v)
  | .tp is => setV is vs σ
theorem bind_ok {C : Cn} {K : PySem.W.Frag} {r : RA} {H : Hp} {tg : Tg} {d : D} {v : V} {e e1 : Env} {σ : Sl} {Q : Sl → Hp → Prop} (h : tg.bind d e = some e1) (q : Rep K r H d v) (E : EnvR C K r H e σ) (k : ∀ vs, EnvR C K r H e1 (tg.put v vs σ) → Q (tg.put v vs σ) H) : gTg K tg v σ H Q := by
  cases tg with
  | nm i =>
    cases h
    exact k [] (E.set i q)
  | tp is =>
    simp only [Tg.bind] at h
    split at h
    · rename_i ds
      obtain ⟨a, vs, rfl, q1, t⟩ := q
      obtain ⟨k1, k2⟩ := setAll_ok h t E
      exact ⟨a, vs, rfl, q1, k2, k vs k1⟩
    · cases h
def gTgM (K : PySem.W.Frag) : Tg → TG
  | .nm i => gName i
  | .tp is => fun v σ H Q => ∃ a xs, v = .ref a ∧ (SqT K H a xs ∨ SqL K H a xs) ∧ xs.length = is.length ∧ Q (setV is xs σ) H
theorem pg_tgM {cel : Bool} {X : Cx} {tg : Tg} {e : Expr} (hf : cel = true → ∀ y, X.fn y = true) (hc : X.calm = true) (hN : X.N.Nodup) (h : chkTg cel X.N X.env.scope tg e = true) : PG X e (gTgM X.K tg) := by
  cases tg with
  | nm i => exact pg_tg hf hc hN h
  | tp is =>
    cases e <;> try (cases h; done)
    rename_i es k p
    obtain ⟨g, gl, gf⟩ := pgs_names hf hN (show chkTg.go cel X.N X.env.scope is es = true from h)
    refine ⟨fun pins s σ H v u Q I r hw => ?_⟩
    obtain ⟨a, xs, e1, e2 | e2, e3, q⟩ := hw
    · exact (pg_tup hc g gl gf).run pins s σ H v u Q I r ⟨a, xs, e1, e2, e3, e3, q⟩
    · exact (pg_unl hc g gl gf).run pins s σ H v u Q I r ⟨a, xs, e1, e2, e3, e3, q⟩
theorem bindM_ok {C : Cn} {K : PySem.W.Frag} {r : RA} {M : List MO} {H : Hp} {tg : Tg} {d : D} {v : V} {e e1 : Env} {σ : Sl} {Q : Sl → Hp → Prop} (h : tg.bindM M d e = some e1) (R : Rel K r M H) (q : Rep K r H d v) (E : EnvR C K r H e σ) (k : ∀ vs, EnvR C K r H e1 (tg.put v vs σ) → Q (tg.put v vs σ) H) : gTgM K tg v σ H Q := by
  cases tg with
  | nm i =>
    cases h
    exact k [] (E.set i q)
  | tp is =>
    simp only [Tg.bindM] at h
    split at h
    · rename_i ds
      obtain ⟨a, vs, rfl, q1, t⟩ := q
      obtain ⟨k1, k2⟩ := setAll_ok h t E
      exact ⟨a, vs, rfl, .inl q1, k2, k vs k1⟩
    · rename_i p
      split at h
      · rename_i w ds hm
        obtain ⟨a, w, ha, rfl⟩ := q
        obtain ⟨vs, hq, t⟩ := (R.ob hm ha).sq
        obtain ⟨k1, k2⟩ := setAll_ok h t E
        exact ⟨a, vs, rfl, .inr hq, k2, k vs k1⟩
      · cases h
    · cases h
theorem wipe_at (σ : Sl) : ∀ (vs : List Nat) (j : Nat), (wipe σ vs)[j]? = if j ∈ vs then (σ[j]?).map fun _ => none else σ[j]?
  | [], j => by simp [wipe]
  | v :: vs, j => by
    unfold wipe
    by_cases hj : j = v
    · subst hj
      rw [List.getElem?_set]
      have hl := wipe_length σ vs
      by_cases h : j < σ.length
      · simp [hl, h]
      · have e : σ[j]? = none := List.getElem?_eq_none (by omega)
        simp [hl, h, e]
    · rw [List.getElem?_set_ne (Ne.symm hj), wipe_at σ vs j]
      simp [hj]
theorem wipe_set {σ : Sl} {i : Nat} {x : Option V} {vs : List Nat} (h : i ∈ vs) : wipe (σ.set i x) vs = wipe σ vs := by
  apply List.ext_getElem?
  intro j
  rw [wipe_at, wipe_at]
  by_cases hj : j ∈ vs
  · rw [if_pos hj, if_pos hj, List.getElem?_set]
    by_cases hi : i = j
    · subst hi
      by_cases hl : i < σ.length
      · simp [hl]
      · have e : σ[i]? = none := List.getElem?_eq_none (by omega)
        simp [hl, e]
    · simp [hi]
  · rw [if_neg hj, if_neg hj, List.getElem?_set_ne (show i ≠ j from fun z => hj (by rw [← z]; exact h))]
theorem wipe_setV {vs : List Nat} : ∀ {is : List Nat} {xs : List V} {σ : Sl}, (∀ i ∈ is, i ∈ vs) → wipe (setV is xs σ) vs = wipe σ vs
  | [], _, _, _ => rfl
  | i :: is, [], _, _ => rfl
  | i :: is, x :: xs, σ, h => by
    show wipe (setV is xs (σ.set i (some x))) vs = _
    rw [wipe_setV fun j hj => h j (List.mem_cons_of_mem _ hj), wipe_set (h i List.mem_cons_self)]
theorem wipe_put {tg : Tg} {v : V} {xs : List V} {vs : List Nat} {σ : Sl} (h : ∀ i ∈ tg.slots, i ∈ vs) : wipe (tg.put v xs σ) vs = wipe σ vs := by
  cases tg with
  | nm i => exact wipe_set (h i (by simp [Tg.slots]))
  | tp is => exact wipe_setV h
theorem wipe_wipe {σ : Sl} {vs : List Nat} : wipe (wipe σ vs) vs = wipe σ vs := by
  apply List.ext_getElem?
  intro j
  rw [wipe_at, wipe_at]
  by_cases hj : j ∈ vs
  · rw [if_pos hj, if_pos hj]
    cases σ[j]? <;> rfl
  · rw [if_neg hj, if_neg hj]
abbrev W0 : WX := fun _ _ _ _ => False
def tIf (K : PySem.W.Frag) (C : Cn) (P : Ev) (cs : List CE) : TT := tN RBl K C W0 (fun e s => evIf P none cs e s)
theorem noX_some {α : Type} {b : List MO} {x : R b α} {o : Out b α} (h : noX x = some o) : ∃ a s, o = .ok a s ∧ x = some (.ok a s) := by
  cases x with
  | none => cases h
  | some u =>
    cases u with
    | ok a s =>
      cases h
      exact ⟨a, s, rfl, rfl⟩
    | ex c fs s => cases h
theorem bnd_some {α β : Type} {b : List MO} {x : R b α} {f : α → HS b → R b β} {c : β} {s' : HS b} (h : bnd x f = some (.ok c s')) : ∃ a s, x = some (.ok a s) ∧ f a s = some (.ok c s') := by
  cases x with
  | none => cases h
  | some u =>
    cases u with
    | ok a s => exact ⟨a, s, rfl, h⟩
    | ex _ _ _ => cases h
section
variable {P : Ev} {C : Cn} {cur : Cur} {W : WX} {X : Cx} {pos : Pos}
theorem Fx.at {r r' : RA} {H H' : Hp} {p : Addr} {o u : HO} (fx : Fx r H r' H') (h : H p = none) (h' : H' p = some o) (n : Stb o = false) : Fx r H r' (L2.upd H' p u) :=
  ⟨fx.pre, fx.ext.trans (Ext.upd h' n), fun a w e na => ⟨by rw [upd_ne (ne_of_none e h)]; exact (fx.frm a w e na).1, (fx.frm a w e na).2⟩⟩
theorem Rel.apart {K : PySem.W.Frag} {r : RA} {M : List MO} {H : Hp} {p : Addr} {o u : HO} (R : Rel K r M H) (n : (p, true) ∉ r) (h : H p = some o) (ns : Stb o = false) : Rel K r M (upd H p u) :=
  ⟨R.len, R.nd, fun i x a w e q => ⟨(R.obj i x a w e q).1, (R.ob e q).mono List.prefix_rfl (Ext.upd h ns) fun wx => upd_ne fun z => n (by
    rw [← z, ← wx, ← (R.obj i x a w e q).1]
    exact List.mem_of_getElem? q)⟩⟩
def turnC (P : Ev) (tg : Tg) (ifs : List CE) (elt : CE) (e : Env) {b : List MO} (d : D) (s2 : HS b) : R b (Option D) := noX (match tg.bind d e with
  | none => none
  | some e1 => bnd (evIf P none ifs e1 s2) fun b s3 => if b then bnd (evE P none elt e1 s3) fun y s4 => ret (some y) s4 else ret none s3)
theorem evE_lc {tg : Tg} {k : ITk} {sr ifs : List CE} {elt : CE} {own : List Nat} {b : List MO} {e : Env} {s : HS b} : evE P cur (.lc tg k sr ifs elt own) e s =
    bnd (bnd (evL P cur sr e s) fun xs s1 => srcR k xs s1) fun r s1 => bnd (lcL r.at (turnC P tg ifs elt (wipeE e own)) P.fu 0 [] s1) fun ys s2 => ret (.ref s2.M.length) (s2.alloc (.lst true ys)) := rfl
theorem turnC_ok {tg : Tg} {ifs : List CE} {elt : CE} {e : Env} {b : List MO} {d : D} {s2 : HS b} {o : Out b (Option D)} (h : turnC P tg ifs elt e d s2 = some o) : ∃ e1 k s3, tg.bind d e = some e1 ∧ evIf P none ifs e1 s2 = some (.ok k s3) ∧
    ((k = true ∧ ∃ y s4, evE P none elt e1 s3 = some (.ok y s4) ∧ o = .ok (some y) s4) ∨ (k = false ∧ o = .ok none s3)) := by
  obtain ⟨a, s, rfl, h'⟩ := noX_some h
  split at h'
  · cases h'
  · rename_i e1 he1
    obtain ⟨k, s3, h1, h2⟩ := bnd_some h'
    refine ⟨e1, k, s3, he1, h1, ?_⟩
    cases k with
    | true =>
      obtain ⟨y, s4, h3, h4⟩ := bnd_some h2
      cases h4
      exact .inl ⟨rfl, y, s, h3, rfl⟩
    | false =>
      cases h2
      exact .inr ⟨rfl, rfl⟩
theorem lc_read {K : PySem.W.Frag} (xg : C.xg = none) {tg : Tg} {k : ITk} {src ifs : List CE} {elt : CE} {own : List Nat} (fu : P.fu ≤ sizeLine) (hsub : ∀ i ∈ tg.slots, i ∈ own) {σ : Sl} {H : Hp} {Q : VK} (h : tE K C P cur W (.lc tg k src ifs elt own) σ H Q) :
    tLc (tI K C P cur W k src) (gTg K tg) (tIf K C P ifs) (tE K C P none W0 elt) own σ H Q := by
  obtain ⟨bb, s, rr, en, u, R, E, ev, post⟩ := h
  rw [show (fun {b_1 : List MO} e (s : HS b_1) => evE P cur (.lc tg k src ifs elt own) e s) en s = _ from evE_lc] at ev
  refine tN.seq (ev := fun e s => bnd (evL P cur src e s) fun xs s1 => srcR k xs s1) (RP := fun r H sr J => JOk K J sr r H) R E ev post fun sr s1 r1 H1 J fx1 ev1 R1 E1 jok post1 => ?_
  intro Dd hD
  have dn : (Dd, true) ∉ r1 := fun z => by
    obtain ⟨i, hi⟩ := List.getElem?_of_mem z
    obtain ⟨u0, hu, _⟩ := R1.live hi
    rw [hD] at hu
    cases hu
  have fx0 : Fx r1 H1 r1 (upd H1 Dd (.lst [])) := Fx.new hD
  refine ⟨fun i m Hc => ∃ (s2 : HS bb) (r2 : RA) (acc : List D) (vs : List V), Fx r1 H1 r2 Hc ∧ Rel K r2 s2.M Hc ∧ Hc Dd = some (.lst vs) ∧ RepL K r2 Hc acc vs ∧ (Dd, true) ∉ r2 ∧ acc.length + m ≤ P.fu ∧
      (bnd (lcL sr.at (turnC P tg ifs elt (wipeE en own)) m i acc s2) fun ys s3 => ret (D.ref s3.M.length) (s3.alloc (.lst true ys))) = some u,
    ⟨P.fu, s1, r1, [], [], fx0, R1.new hD, upd_same, rfl, dn, by simp, ev1⟩, ?_⟩
  rintro i m Hc ⟨s2, r2, acc, vs, fx2, R2, hDc, t2, dn2, hlen, ev2⟩
  have fxa := fx2
  cases m with
  | zero => cases ev2
  | succ m =>
    simp only [lcL] at ev2
    split at ev2
    · cases ev2
    · rename_i hat
      cases ev2
      obtain ⟨hstop, _⟩ := jok bb s2 r2 Hc i fxa R2
      refine .inl ⟨hstop hat, ?_⟩
      have nin : ∀ {j : Nat} {a : Addr}, r2[j]? = some (a, true) → a ≠ Dd := fun {j a} q z => dn2 (by
        rw [← z]
        exact List.mem_of_getElem? q)
      have Rn : Rel K (r2 ++ [(Dd, true)]) (s2.M ++ [.lst true acc]) Hc := by
        refine ⟨by simp [R2.len], fun j l a q1 q2 => ?_, fun j o a w e q => ?_⟩
        · rcases snoc_at q1 with ⟨h1, z1⟩ | ⟨h1, z1⟩
          · rcases snoc_at q2 with ⟨h2, z2⟩ | ⟨h2, z2⟩
            · exact R2.nd j l a z1 z2
            · cases z2
              exact absurd rfl (nin z1)
          · rcases snoc_at q2 with ⟨h2, z2⟩ | ⟨h2, z2⟩
            · cases z1
              exact absurd rfl (nin z2)
            · omega
        · rcases snoc_at e with ⟨h1, z1⟩ | ⟨h1, z1⟩
          · rcases snoc_at q with ⟨h2, z2⟩ | ⟨h2, z2⟩
            · obtain ⟨k1, k2⟩ := R2.obj j o a w z1 z2
              exact ⟨k1, k2.mono (List.prefix_append _ _) (Ext.refl _) fun _ => rfl⟩
            · rw [R2.len] at h2
              omega
          · rcases snoc_at q with ⟨h2, z2⟩ | ⟨h2, z2⟩
            · rw [R2.len] at h2
              omega
            · cases z2
              subst z1
              exact ⟨rfl, vs, hDc, RepL.mono (List.prefix_append _ _) (Ext.refl _) acc vs t2⟩
      have fxn : Fx r1 H1 (r2 ++ [(Dd, true)]) Hc := ⟨fxa.pre.trans (List.prefix_append _ _), fxa.ext, fun a u0 e n => by
        obtain ⟨h1, h2⟩ := fxa.frm a u0 e n
        refine ⟨h1, fun z => ?_⟩
        rcases List.mem_append.mp z with z | z
        · exact h2 z
        · have z' := List.mem_singleton.mp z
          cases z'
          rw [hD] at e
          cases e⟩
      exact post1 _ _ _ fxn Rn ⟨Dd, true, by rw [← R2.len]; simp, rfl⟩
    · rename_i d hat
      obtain ⟨_, hgo⟩ := jok bb s2 r2 Hc i fxa R2
      obtain ⟨go, yld⟩ := hgo d hat
      refine .inr ⟨go, fun H' => ∃ m', m' < m + 1 ∧ ∃ (s2 : HS bb) (r2 : RA) (acc : List D) (vs : List V), Fx r1 H1 r2 H' ∧ Rel K r2 s2.M H' ∧ H' Dd = some (.lst vs) ∧ RepL K r2 H' acc vs ∧ (Dd, true) ∉ r2 ∧ acc.length + m' ≤ P.fu ∧
          (bnd (lcL sr.at (turnC P tg ifs elt (wipeE en own)) m' (i + 1) acc s2) fun ys s3 => ret (D.ref s3.M.length) (s3.alloc (.lst true ys))) = some u, fun H' h => h, fun x H2 hy => ?_⟩
      obtain ⟨same, qx⟩ := yld x H2 hy
      have fx3 : Fx r2 Hc r2 H2 := Fx.same same
      have R3 : Rel K r2 s2.M H2 := R2.same same
      cases htn : turnC P tg ifs elt (wipeE en own) d s2 with
      | none => rw [htn] at ev2; cases ev2
      | some ot =>
        rw [htn] at ev2
        obtain ⟨e1, kk, s3, hb, hif, hres⟩ := turnC_ok htn
        have E3 : EnvR C K r2 H2 (wipeE en own) (wipe σ own) := (E1.mono (fxa.trans fx3).pre (fxa.trans fx3).ext).wipe xg own
        refine bind_ok hb qx E3 fun xs E4 => ⟨by rw [wipe_put hsub, wipe_wipe], ?_⟩
        refine ⟨bb, s2, r2, e1, _, R3, E4, hif, fun r4 H4 b4 fx4 R4 q4 => ?_⟩
        subst q4
        rcases hres with ⟨rfl, y, s4, hel, rfl⟩ | ⟨rfl, rfl⟩
        · refine iteT ⟨bb, s3, r4, e1, _, R4, E4.mono fx4.pre fx4.ext, hel, fun r5 H5 w fx5 R5 q5 => ?_⟩
          have fx35 := fx3.trans (fx4.trans fx5)
          obtain ⟨hD5, dn5⟩ := fx35.frm Dd _ hDc dn2
          refine ⟨vs, hD5, ?_, m, Nat.lt_succ_self _, s4, r5, acc ++ [y], vs ++ [w], ?_, ?_, upd_same, ?_, dn5, ?_, ev2⟩
          · rw [RepL.length t2]
            omega
          · exact (fx2.trans fx35).at hD hD5 rfl
          · exact R5.apart dn5 hD5 rfl
          · exact RepL.app (RepL.mono fx35.pre (fx35.ext.trans (Ext.upd hD5 rfl)) _ _ t2) ⟨w, [], rfl, Rep.mono List.prefix_rfl (Ext.upd hD5 rfl) _ _ q5, rfl⟩
          · simp
            omega
        · refine iteF ⟨m, Nat.lt_succ_self _, s3, r4, acc, vs, fx2.trans (fx3.trans fx4), R4, ((fx3.trans fx4).frm Dd _ hDc dn2).1, RepL.mono (fx3.trans fx4).pre (fx3.trans fx4).ext _ _ t2, ((fx3.trans fx4).frm Dd _ hDc dn2).2, by omega, ev2⟩
theorem st_lc {tg : Tg} {k : ITk} {src ifs : List CE} {elt : CE} {own : List Nat} {ownp : List (Str × Nat)} {et it el : Expr} {eifs : List Expr} {scope : Scope} (xg : C.xg = none) (hc : X.calm = true) (hN : X.N.Nodup) (fu : P.fu ≤ sizeLine) (hi : PI X et it (tI X.K C P cur W k src)) (ok : BlkOk X.N X.env.scope scope ownp) (ho : ownp.map (·.2) = own)
    (hsub : ∀ i ∈ tg.slots, i ∈ own)
    (hg : ∀ (s : Shared) (H : Hp) (c : Addr) (cl : List (Str × Addr)) (fp : List Addr), PG (X.blk s H scope (compEnvC scope cl c X.env) fp) et (gTg X.K tg))
    (ht : ∀ (s : Shared) (H : Hp) (c : Addr) (cl : List (Str × Addr)) (fp : List Addr), PTs (X.blk s H scope (compEnvC scope cl c X.env) fp) eifs (tIf X.K C P ifs))
    (he : ∀ (s : Shared) (H : Hp) (c : Addr) (cl : List (Str × Addr)) (fp : List Addr), PE (X.blk s H scope (compEnvC scope cl c X.env) fp) el (tE X.K C P none W0 elt)) (hs : ∀ x, foldedSetIterable it X.env x = pure x) :
    PE X (.ListComp el [⟨et, it, eifs, 0⟩] scope pos) (tE X.K C P cur W (.lc tg k src ifs elt own)) := by
  refine PE.imp (pe_lc hc hN hi ok hg ht he hs) fun σ H Q h => ?_
  rw [ho]
  exact lc_read xg fu hsub h
end
end PV
set_option Elab.async false
set_option linter.all false
set_option autoImplicit false
set_option maxRecDepth 100000
set_option maxHeartbeats 2000000
namespace PV
open PySem PySem.Spec PyProof.Rows L2 RZ
section
variable {prog : Program} {w : World} {A : Around} {E : Value → Shared → Prop} {s : Shared}
abbrev Zs (h : Heap) (z p q : Addr) (x : Value) : Prop := h.get? z = some { cls := .type "zip", dict := none, data := .fields #[x, .bool false, .bool true, .ref p, .ref q], slots := #[] }
theorem noe_item {it l : Addr} {i : Nat} {vs : Array Value} {x : Value} {Q : Option Value → Shared → Prop} (a1 : s.heap.IsTupleIter it l i) (a2 : s.heap.IsTuple l vs) (a3 : vs[i]? = some x)
    (k : ∀ h', h'.IsTupleIter it l (i + 1) → Heap.SameBut it s.heap h' → Q (some x) { s with heap := h' }) : wpAny (model prog w) A (Builtin.SmallTypes.nextOrEnd (.ref it)) Q E s := by
  unfold Builtin.SmallTypes.nextOrEnd
  exact wpAny_bind (wpAny_attempt (nextOf_tuple_item a1 a2 a3 fun h' b1 b2 => wpAny_pure (k h' b1 b2)))
theorem noe_end {it l : Addr} {i : Nat} {vs : Array Value} {Q : Option Value → Shared → Prop} (hh : A.handled = none) (a1 : s.heap.IsTupleIter it l i) (a2 : s.heap.IsTuple l vs) (a3 : vs[i]? = none)
    (k : ∀ h', Heap.ExtBut it s.heap h' → Q none { s with heap := h' }) : wpAny (model prog w) A (Builtin.SmallTypes.nextOrEnd (.ref it)) Q E s := by
  unfold Builtin.SmallTypes.nextOrEnd
  refine wpAny_bind (wpAny_attempt (nextOf_tuple_end hh a1 a2 a3 fun h' e b1 ⟨o, b2, b3⟩ => ?_))
  exact wpAny_bind (wpAny_isInstance (T := "StopIteration") (b := true) ⟨o, b2, b3⟩ isSubtype_stop (wpAny_pure (k h' b1)))
structure Zst (h : Heap) (z p q i j a b : Addr) (n m : Nat) (f x y : Value) (xs ys : Array Value) : Prop where
  z : Zs h z p q f
  p : IsPair h p (.ref i) (.ref j)
  q : IsPair h q x y
  i : h.IsTupleIter i a n
  j : h.IsTupleIter j b m
  a : h.IsTuple a xs
  b : h.IsTuple b ys
theorem Zst.but {h h' : Heap} {z p q i j a b c : Addr} {n m : Nat} {f x y : Value} {xs ys : Array Value} (Z : Zst h z p q i j a b n m f x y xs ys) (e : ∀ d o, d ≠ z → d ≠ q → d ≠ i → d ≠ j → h.get? d = some o → h'.get? d = some o) (D : ZipApart z p q i j a b) :
    IsPair h' p (.ref i) (.ref j) ∧ h'.IsTuple a xs ∧ h'.IsTuple b ys := by
  refine ⟨e _ _ D.TIz D.TITO D.TIi1 D.TIi2 Z.p, ?_, ?_⟩
  · obtain ⟨o, e1, e2⟩ := Z.a
    exact ⟨o, e _ _ D.l1z D.l1TO D.l1i1 D.l1i2 e1, e2⟩
  · obtain ⟨o, e1, e2⟩ := Z.b
    exact ⟨o, e _ _ D.l2z D.l2TO D.l2i1 D.l2i2 e1, e2⟩
theorem zs_item {z p q i j a b : Addr} {n m : Nat} {x0 y0 x y : Value} {xs ys : Array Value} {Q : Value → Shared → Prop} (Z : Zst s.heap z p q i j a b n m .none x0 y0 xs ys) (D : ZipApart z p q i j a b) (hx : xs[n]? = some x) (hy : ys[m]? = some y)
    (k : ∀ h', Zs h' z p q (rawInt s.heap.objs.size) → IsPair h' q x y → h'.IsTupleIter i a (n + 1) → h'.IsTupleIter j b (m + 1) → IsPair h' s.heap.objs.size x y →
      (∀ d o, d ≠ z → d ≠ q → d ≠ i → d ≠ j → s.heap.get? d = some o → h'.get? d = some o) → Q (.ref s.heap.objs.size) { s with heap := h' }) :
    wpAny (model prog w) A (Builtin.«zip.__next__» ⟨[.ref z], []⟩) (fun fin s' => ∃ v, fin = .done (.ret v) ∧ Q v s') E s := by
  show wpAny _ _ (field (.ref z) 2 >>= _) _ _ _
  refine wpAny_bind (wpAny_field Z.z rfl (x := .bool true) rfl ?_)
  show wpAny _ _ (field (.ref z) 3 >>= _) _ _ _
  refine wpAny_bind (wpAny_field Z.z rfl (x := .ref p) rfl (wpAny_bind (wpAny_seqItems Z.p rfl ?_)))
  show wpAny _ _ (Builtin.SmallTypes.ownedTupleIsFree (.ref z) >>= _) _ _ _
  refine wpAny_bind ?_
  unfold Builtin.SmallTypes.ownedTupleIsFree
  refine wpAny_bind (wpAny_field Z.z rfl (x := .none) rfl (wpAny_pure ?_))
  simp only [if_true]
  refine wpAny_bind (wpAny_rule (wpAny_bind (wpAny_field Z.z rfl (x := .ref q) rfl ?_)))
  refine wpAny_bind (wpAny_setField_rec Z.z (by simp) fun k1 z1 u1 => ?_)
  replace z1 : Zs k1 z p q .ellipsis := z1
  refine wpAny_bind ?_
  simp only [List.zipIdx_cons, List.zipIdx_nil, List.forIn_cons, List.forIn_nil]
  refine wpAny_bind (wpAny_bind (wpAny_onRaise ?_))
  show wpAny _ _ (Builtin.SmallTypes.nextOrEnd (.ref i)) _ _ _
  refine noe_item (Z.i.extBut u1.extBut D.i1z) (Z.a.extBut u1.extBut D.l1z) hx fun k2 i2 u2 => ?_
  have q2 : IsPair k2 q x0 y0 := u2.extBut _ _ D.TOi1 (u1.extBut _ _ D.TOz Z.q)
  refine wpAny_bind (wpAny_seqItems q2 rfl (wpAny_bind (wpAny_updateSeq_pair q2 fun k3 q3 u3 => ?_)))
  replace q3 : IsPair k3 q x y0 := q3
  refine wpAny_bind (wpAny_letGo (wpAny_pure ?_))
  refine wpAny_bind (wpAny_bind (wpAny_onRaise ?_))
  show wpAny _ _ (Builtin.SmallTypes.nextOrEnd (.ref j)) _ _ _
  have j3 := ((Z.j.extBut u1.extBut D.i2z).extBut u2.extBut D.i12.symm).extBut u3.extBut D.TOi2.symm
  have b3 := ((Z.b.extBut u1.extBut D.l2z).extBut u2.extBut D.l2i1).extBut u3.extBut D.l2TO
  refine noe_item j3 b3 hy fun k4 j4 u4 => ?_
  have q4 : IsPair k4 q x y0 := u4.extBut _ _ D.TOi2 q3
  refine wpAny_bind (wpAny_seqItems q4 rfl (wpAny_bind (wpAny_updateSeq_pair q4 fun k5 q5 u5 => ?_)))
  replace q5 : IsPair k5 q x y := q5
  refine wpAny_bind (wpAny_letGo (wpAny_pure (wpAny_pure ?_)))
  refine wpAny_bind (wpAny_seqItems q5 rfl (wpAny_bind (wpAny_newTuple ?_)))
  have sz : k5.objs.size = s.heap.objs.size := by rw [u5.1, u4.1, u3.1, u2.1, u1.1]
  have z5 : Zs k5 z p q .ellipsis := u5.extBut _ _ D.TOz.symm (u4.extBut _ _ D.i2z.symm (u3.extBut _ _ D.TOz.symm (u2.extBut _ _ D.i1z.symm z1)))
  have keep : ∀ d o, d ≠ z → d ≠ q → d ≠ i → d ≠ j → s.heap.get? d = some o → k5.get? d = some o := fun d o c1 c2 c3 c4 e => u5.extBut _ _ c2 (u4.extBut _ _ c4 (u3.extBut _ _ c2 (u2.extBut _ _ c3 (u1.extBut _ _ c1 e))))
  have i5 := ((i2.extBut u3.extBut D.TOi1.symm).extBut u4.extBut D.i12).extBut u5.extBut D.TOi1.symm
  have j5 := j4.extBut u5.extBut D.TOi2.symm
  show wpAny _ _ (Builtin.SmallTypes.ownedTupleHandOut (.ref z) (.ref k5.objs.size) >>= _) _ _ _
  refine wpAny_bind ?_
  unfold Builtin.SmallTypes.ownedTupleHandOut
  have z6 : Zs (k5.push { cls := .type "tuple", data := .seq #[x, y] }) z p q .ellipsis := Heap.get?_push_of_some _ z5
  refine wpAny_bind (wpAny_setField_rec z6 (by simp) fun k7 z7 u7 => ?_)
  replace z7 : Zs k7 z p q (rawInt k5.objs.size) := z7
  refine wpAny_setField_rec z7 (by simp) fun k8 z8 u8 => ?_
  replace z8 : Zs k8 z p q (rawInt k5.objs.size) := z8
  have up : ∀ d o, d ≠ z → k5.get? d = some o → k8.get? d = some o := fun d o c1 e => u8.extBut _ _ c1 (u7.extBut _ _ c1 (Heap.get?_push_of_some _ e))
  have ne : k5.objs.size ≠ z := Nat.ne_of_gt (Heap.lt_size z5)
  have t8 : IsPair k8 k5.objs.size x y := u8.extBut _ _ ne (u7.extBut _ _ ne (Heap.get?_push_size _ rfl))
  rw [sz] at z8 t8
  refine wpAny_pure ⟨_, rfl, ?_⟩
  show Q (.ref k5.objs.size) _
  rw [sz]
  exact k k8 z8 (up _ _ D.TOz q5) (i5.at fun o e => up _ o D.i1z e) (j5.at fun o e => up _ o D.i2z e) t8 fun d o c1 c2 c3 c4 e => up d o c1 (keep d o c1 c2 c3 c4 e)
theorem stop_ok {α : Type} {Q : α → Shared → Prop} (hh : A.handled = none) (k : ∀ h' e, (∀ d o, s.heap.get? d = some o → h'.get? d = some o) → (∃ o, h'.get? e = some o ∧ o.cls = .type "StopIteration") → E (.ref e) { s with heap := h' }) :
    wpAny (model prog w) A (Builtin.SmallTypes.stopIteration : Sem α) Q E s := by
  unfold Builtin.SmallTypes.stopIteration
  refine wpAny_bind ?_
  simp only [newExc, newTuple]
  refine wpAny_bind (wpAny_newObj_type (wpAny_bind (m := firstArgMember _ _) (wpAny_of_eq (a := Value.none) (by first | rfl | (simp only [firstArgMember]; rfl)) (wpAny_newObj_type ?_ (by size_fits)))) (by size_fits))
  simp only [raiseNew]
  refine wpAny_bind (wpAny_handled ?_)
  rw [hh]
  refine wpAny_bind (wpAny_pure (wpAny_throw ?_))
  exact k _ _ (fun d o x => Heap.get?_push_of_some _ (Heap.get?_push_of_some _ x)) ⟨_, Heap.get?_push_size _ rfl, rfl⟩
theorem zs_end {z p q i j a b : Addr} {n m : Nat} {x0 y0 : Value} {xs ys : Array Value} {Q : Fin → Shared → Prop} (hh : A.handled = none) (Z : Zst s.heap z p q i j a b n m .none x0 y0 xs ys) (D : ZipApart z p q i j a b) (hx : xs[n]? = none) (hy : ys[m]? = none)
    (k : ∀ h' e, (∀ d o, d ≠ z → d ≠ q → d ≠ i → d ≠ j → s.heap.get? d = some o → h'.get? d = some o) → (∃ o, h'.get? e = some o ∧ o.cls = .type "StopIteration") → E (.ref e) { s with heap := h' }) :
    wpAny (model prog w) A (Builtin.«zip.__next__» ⟨[.ref z], []⟩) Q E s := by
  show wpAny _ _ (field (.ref z) 2 >>= _) _ _ _
  refine wpAny_bind (wpAny_field Z.z rfl (x := .bool true) rfl ?_)
  show wpAny _ _ (field (.ref z) 3 >>= _) _ _ _
  refine wpAny_bind (wpAny_field Z.z rfl (x := .ref p) rfl (wpAny_bind (wpAny_seqItems Z.p rfl ?_)))
  show wpAny _ _ (Builtin.SmallTypes.ownedTupleIsFree (.ref z) >>= _) _ _ _
  refine wpAny_bind ?_
  unfold Builtin.SmallTypes.ownedTupleIsFree
  refine wpAny_bind (wpAny_field Z.z rfl (x := .none) rfl (wpAny_pure ?_))
  simp only [if_true]
  refine wpAny_bind (wpAny_rule (wpAny_bind (wpAny_field Z.z rfl (x := .ref q) rfl ?_)))
  refine wpAny_bind (wpAny_setField_rec Z.z (by simp) fun k1 z1 u1 => ?_)
  replace z1 : Zs k1 z p q .ellipsis := z1
  refine wpAny_bind ?_
  simp only [List.zipIdx_cons, List.zipIdx_nil, List.forIn_cons, List.forIn_nil]
  refine wpAny_bind (wpAny_bind (wpAny_onRaise ?_))
  show wpAny _ _ (Builtin.SmallTypes.nextOrEnd (.ref i)) _ _ _
  refine noe_end hh (Z.i.extBut u1.extBut D.i1z) (Z.a.extBut u1.extBut D.l1z) hx fun k2 u2 => ?_
  have z2 : Zs k2 z p q .ellipsis := u2 _ _ D.i1z.symm z1
  refine wpAny_bind (wpAny_setField_rec z2 (by simp) fun k3 z3 u3 => ?_)
  have j3 := ((Z.j.extBut u1.extBut D.i2z).extBut u2 D.i12.symm).extBut u3.extBut D.i2z
  have b3 := ((Z.b.extBut u1.extBut D.l2z).extBut u2 D.l2i1).extBut u3.extBut D.l2z
  refine wpAny_bind ?_
  show wpAny _ _ (forIn [(Value.ref j, 1)] PUnit.unit _ >>= _) _ _ _
  refine wpAny_bind ?_
  simp only [List.drop_succ_cons, List.drop_zero, List.zipIdx_cons, List.zipIdx_nil, List.forIn_cons, List.forIn_nil]
  refine wpAny_bind (wpAny_bind (noe_end hh j3 b3 hy fun k4 u4 => ?_))
  simp only [Option.isSome_none, Bool.false_eq_true, if_false]
  refine wpAny_pure (wpAny_pure (wpAny_bind (wpAny_rule (stop_ok hh fun h' e up he => ?_))))
  exact k h' e (fun d o c1 c2 c3 c4 x => up d o (u4 _ _ c4 (u3.extBut _ _ c1 (u2 _ _ c3 (u1.extBut _ _ c1 x))))) he
theorem pn_item {z p q i j a b : Addr} {n m : Nat} {x0 y0 x y : Value} {xs ys : Array Value} {Q : Option Value → Shared → Prop} (Z : Zst s.heap z p q i j a b n m .none x0 y0 xs ys) (D : ZipApart z p q i j a b) (hx : xs[n]? = some x) (hy : ys[m]? = some y)
    (k : ∀ h', Zs h' z p q (rawInt s.heap.objs.size) → IsPair h' q x y → h'.IsTupleIter i a (n + 1) → h'.IsTupleIter j b (m + 1) → IsPair h' s.heap.objs.size x y →
      (∀ d o, d ≠ z → d ≠ q → d ≠ i → d ≠ j → s.heap.get? d = some o → h'.get? d = some o) → Q (some (.ref s.heap.objs.size)) { s with heap := h' }) :
    wpAny (model prog w) A (pyNext (.ref z)) Q E s := by
  have ty : s.TypeIs (.ref z) "zip" := ⟨_, Z.z, rfl⟩
  unfold pyNext
  refine wpAny_bind (wpAny_attempt (wpAny_callSpecial?_slot (name := Str.ofString "__next__") ty F.slot_zip_next (wpAny_call_entry F.slot_zip_next ty F.entry_zip_next ?_ (F.args_zip_next_1 _))))
  exact zs_item Z D hx hy fun h' c1 c2 c3 c4 c5 c6 => wpAny_pure (k h' c1 c2 c3 c4 c5 c6)
theorem pn_end {z p q i j a b : Addr} {n m : Nat} {x0 y0 : Value} {xs ys : Array Value} {Q : Option Value → Shared → Prop} (hh : A.handled = none) (Z : Zst s.heap z p q i j a b n m .none x0 y0 xs ys) (D : ZipApart z p q i j a b) (hx : xs[n]? = none) (hy : ys[m]? = none)
    (k : ∀ h', (∀ d o, d ≠ z → d ≠ q → d ≠ i → d ≠ j → s.heap.get? d = some o → h'.get? d = some o) → Q none { s with heap := h' }) : wpAny (model prog w) A (pyNext (.ref z)) Q E s := by
  have ty : s.TypeIs (.ref z) "zip" := ⟨_, Z.z, rfl⟩
  unfold pyNext
  refine wpAny_bind (wpAny_attempt (wpAny_callSpecial?_slot (name := Str.ofString "__next__") ty F.slot_zip_next (wpAny_call_entry F.slot_zip_next ty F.entry_zip_next ?_ (F.args_zip_next_1 _))))
  refine zs_end hh Z D hx hy fun h' e up ⟨o, ho, hc⟩ => ?_
  exact wpAny_bind (wpAny_isInstance (T := "StopIteration") (b := true) ⟨o, ho, hc⟩ isSubtype_stop (wpAny_pure (k h' up)))
theorem go_zs {elts : List Expr} {kk : Nat} {pos : Pos} {z p q t : Addr} {Q : Unit → Shared → Prop} (hz : Zs s.heap z p q (rawInt t)) (k : ∀ h', Zs h' z p q .none → Heap.SameBut z s.heap h' → Q () { s with heap := h' }) :
    wpAny (model prog w) A (letOwnedTupleGo (.Tuple elts kk pos) (.ref z) (.ref t)) Q E s := by
  unfold letOwnedTupleGo
  refine wpAny_bind (wpAny_load hz ?_)
  refine (fun h => ?_ : (["enumerate", "zip", "dict_itemiterator", "dict_reverseitemiterator", "odict_iterator", "itertools.zip_longest", "itertools.pairwise"].contains "zip" && (#[rawInt t, .bool false, .bool true, .ref p, .ref q] : Array Value)[0]? == some (rawInt t)) = true → _) (by simp)
  refine (congrArg (fun m => wpAny (model prog w) A m Q E s) (if_pos h)).mpr ?_
  refine wpAny_bind (wpAny_rule ?_)
  show wpAny _ _ (setField (.ref z) 0 .none) Q E s
  exact wpAny_setField_rec hz (by simp) fun h' c1 c2 => k h' c1 c2
theorem it_zs {z p q : Addr} {x : Value} {Q : Value → Shared → Prop} (hz : Zs s.heap z p q x) (h : Q (.ref z) s) : wpAny (model prog w) A (pyIter (.ref z)) Q E s := by
  have ty : s.TypeIs (.ref z) "zip" := ⟨_, hz, rfl⟩
  refine wpAny_pyIter_slot ty F.slot_zip_iter (wpAny_call_entry F.slot_zip_iter ty F.entry_zip_iter ?_ (F.args_zip_iter_1 _))
  show wpAny _ _ (PySem.ret (.ref z)) _ _ s
  exact wpAny_pure ⟨_, rfl, "zip", _, ty, F.slot_zip_next.lookup, h⟩
end
def ItzS (K : PySem.W.Frag) (a b : Addr) : It :=
  ⟨fun i H => ∃ (xs ys : List V) (x y : V), SqT K H a xs ∧ SqT K H b ys ∧ xs[i]? = some x ∧ ys[i]? = some y,
    fun i H v H' => ∃ T x y, v = .ref T ∧ H T = none ∧ H' = upd H T (.tup [x, y]) ∧ (∀ xs, SqT K H a xs → xs[i]? = some x) ∧ ∀ ys, SqT K H b ys → ys[i]? = some y,
    fun i H => ∃ xs ys : List V, SqT K H a xs ∧ SqT K H b ys ∧ xs.length ≤ i ∧ ys.length ≤ i⟩
def ZsAt (z p q u v a b : Addr) (i : Nat) (h : Heap) : Prop := Zs h z p q .none ∧ IsPair h p (.ref u) (.ref v) ∧ (∃ x y, IsPair h q x y) ∧ h.IsTupleIter u a i ∧ h.IsTupleIter v b i
theorem mem5 {c z p q u v : Addr} (h : c ∈ [z, p, q, u, v]) : c = z ∨ c = p ∨ c = q ∨ c = u ∨ c = v := by simpa using h
theorem not5 {c z p q u v : Addr} (h : c ∉ [z, p, q, u, v]) : c ≠ z ∧ c ≠ p ∧ c ≠ q ∧ c ≠ u ∧ c ≠ v := by simpa using h
theorem turn_zs {P : Program} {w : World} {K : PySem.W.Frag} {elts : List Expr} {kk : Nat} {tpos : Pos} {a b z p q u v : Addr} (D : ZipApart z p q u v a b) : Turn P w K (.Tuple elts kk tpos) (ItzS K a b) [z, p, q, u, v] z (ZsAt z p q u v a b) where
  mem := by simp
  obj := fun i h ⟨hz, hp, ⟨x, y, hq⟩, ⟨o1, e1, _, d1⟩, ⟨o2, e2, _, d2⟩⟩ c hc => by
    rcases mem5 hc with rfl | rfl | rfl | rfl | rfl
    · exact ⟨_, hz, fun _ r => nomatch r⟩
    · exact ⟨_, hp, fun _ r => nomatch r⟩
    · exact ⟨_, hq, fun _ r => nomatch r⟩
    · exact ⟨o1, e1, fun _ r => by rw [d1] at r; cases r⟩
    · exact ⟨o2, e2, fun _ r => by rw [d2] at r; cases r⟩
  keep := fun i h h' ⟨hz, hp, ⟨x, y, hq⟩, hu, hv⟩ k => ⟨k z (by simp) _ hz, k p (by simp) _ hp, ⟨x, y, k q (by simp) _ hq⟩, hu.at fun o r => k u (by simp) o r, hv.at fun o r => k v (by simp) o r⟩
  item := by
    intro X hP hw hK hc i pins s σ H E I hf ⟨hz, hp, ⟨x0, y0, hq⟩, hu, hv⟩ ⟨xs, ys, x, y, qx, qy, hx, hy⟩
    subst hP hw hK
    obtain ⟨its, rv, tx, _⟩ := I.tuple qx
    obtain ⟨its2, rv2, ty, _⟩ := I.tuple qy
    obtain ⟨ux, ex, rx⟩ := rv.get hx
    obtain ⟨uy, ey, ry⟩ := rv2.get hy
    have lz : z < s.heap.objs.size := Heap.lt_size hz
    refine pn_item (x := ux) (y := uy) ⟨hz, hp, hq, hu, hv, tx, ty⟩ D (by simpa using ex) (by simpa using ey) fun h1 z1 q1 u1 v1 t1 k1 => ⟨_, rfl, go_zs (s := { s with heap := h1 }) z1 fun h2 z2 sb => ?_⟩
    have t2 : h2.get? s.heap.objs.size = some { cls := .type "tuple", data := .seq #[ux, uy] } := (sb.2 _ (Nat.ne_of_gt lz)).trans t1
    have ok : ObjOk X.prog X.w (upd H s.heap.objs.size (.tup [x, y])) h2 s.heap.objs.size (.tup [x, y]) := ⟨by show 2 ≤ sizeLine; decide, [ux, uy], .cons rx (.cons ry .nil), ⟨_, t2, rfl, _, rfl⟩⟩
    have I2 : Inv X pins σ (upd H s.heap.objs.size (.tup [x, y])) { s with heap := h2 } := I.turnedNew (t' := s.toks) (ch := [z, p, q, u, v]) (fun c o hb r => by
      obtain ⟨n1, n2, n3, n4, n5⟩ := not5 hb
      exact (sb.2 c n1).trans (k1 c o n1 n3 n4 n5 r)) hf (Nat.le_refl _) ok
    refine ⟨.ref s.heap.objs.size, _, I2, rfl, ⟨_, x, y, rfl, I.hok.fresh (Nat.le_refl _), rfl, fun l hl => by rw [I.tuple_inj hl qx]; exact hx, fun l hl => by rw [I.tuple_inj hl qy]; exact hy⟩,
      ⟨z2, (sb.2 _ D.TIz).trans (k1 _ _ D.TIz D.TITO D.TIi1 D.TIi2 hp), ⟨ux, uy, (sb.2 _ D.TOz).trans q1⟩, u1.at fun o r => (sb.2 _ D.i1z).trans r, v1.at fun o r => (sb.2 _ D.i2z).trans r⟩, fun c hm => ?_⟩
    have lt : c < s.heap.objs.size := by
      rcases mem5 hm with rfl | rfl | rfl | rfl | rfl
      · exact lz
      · exact Heap.lt_size hp
      · exact Heap.lt_size hq
      · obtain ⟨_, e, _⟩ := hu; exact Heap.lt_size e
      · obtain ⟨_, e, _⟩ := hv; exact Heap.lt_size e
    rw [upd_ne (Nat.ne_of_lt lt)]
    exact (hf c hm).1
  done := by
    intro X hP hw hK hc i pins s σ H E I hf ⟨hz, hp, ⟨x0, y0, hq⟩, hu, hv⟩ ⟨xs, ys, qx, qy, lx, ly⟩
    subst hP hw hK
    obtain ⟨its, rv, tx, _⟩ := I.tuple qx
    obtain ⟨its2, rv2, ty, _⟩ := I.tuple qy
    have l1 := rv.length
    have l2 := rv2.length
    refine pn_end (I.ok.hd hc) ⟨hz, hp, hq, hu, hv, tx, ty⟩ D (by simp; omega) (by simp; omega) fun h1 k1 => ⟨rfl, I.turnedL (t' := s.toks) (ch := [z, p, q, u, v]) (fun c o hb r => ?_) hf⟩
    obtain ⟨n1, n2, n3, n4, n5⟩ := not5 hb
    exact k1 c o n1 n3 n4 n5 r
  self := fun A i s Q E st h => it_zs st.1 h
abbrev zs5 (h : Heap) (a b : Addr) : Heap := (zipTH4 h a b).push { cls := .type "zip", data := .fields #[.none, .bool false, .bool true, .ref (zipTH2 h a b).objs.size, .ref (zipTH3 h a b).objs.size] }
theorem tc_zs (a b : Value) : checkTypeCall "zip" ⟨[a, b], [(Str.ofString "strict", .bool true)]⟩ = pure () := by kernel_rfl
theorem nc_zs (a b : Value) : checkBuiltinCall "zip.__new__" ⟨[.type "zip", a, b], [(Str.ofString "strict", .bool true)]⟩ = pure () := by kernel_rfl
theorem ao_zs (o a b : Value) : argsOk "object.__init__" ⟨[o, a, b], [(Str.ofString "strict", .bool true)]⟩ := by unfold argsOk; kernel_rfl
theorem new_zs (a b : Addr) (xs ys : Array Value) : Meets (Builtin.«zip.__new__» ⟨[.type "zip", .ref a, .ref b], [(Str.ofString "strict", .bool true)]⟩) (fun _ R s => s.heap.IsTuple a xs ∧ s.heap.IsTuple b ys ∧ R (.ok (.ret (.ref (zipTH4 s.heap a b).objs.size))) { s with heap := zs5 s.heap a b }) :=
  .of_wp fun prog w A R s h => by
    obtain ⟨hp, g, d, tk, os⟩ := s
    obtain ⟨ha, hb, h⟩ := h
    have hsub := sub_zip
    have ta : Heap.IsTuple (Shared.heap ⟨hp, g, d, tk, os⟩) a xs := ha
    have tb : Heap.IsTuple (Shared.heap ⟨hp.push { cls := .type "tuple_iterator", data := .fields #[.ref a, .int 0 0] }, g, d, tk, os⟩) b ys := Heap.IsTuple.push hb _
    have e1 : (Str.ofString "strict" != ("strict" : Str)) = false := by decide +kernel
    wp_walk using wpAny_pyIter_tuple ta, wpAny_pyIter_tuple tb
    exact ⟨_, rfl, h⟩
theorem call_zs {prog : Program} {w : World} {A : Around} {E : Value → Shared → Prop} {s : Shared} {a b : Addr} {xs ys : Array Value} {Q : Value → Shared → Prop} (ha : s.heap.IsTuple a xs) (hb : s.heap.IsTuple b ys)
    (k : ∀ h', ZsAt (s.heap.objs.size + 4) (s.heap.objs.size + 2) (s.heap.objs.size + 3) s.heap.objs.size (s.heap.objs.size + 1) a b 0 h' → (∀ c o, s.heap.get? c = some o → h'.get? c = some o) → Q (.ref (s.heap.objs.size + 4)) { s with heap := h' }) :
    wpAny (model prog w) A (PySem.call (.type "zip") [.ref a, .ref b] [(Str.ofString "strict", .bool true)]) Q E s := by
  refine callType_newKw F.called_zip (by decide) (tc_zs _ _) (nc_zs _ _) (fun o => ao_zs o _ _) F.entry_zip_new (new_zs a b xs ys) ⟨ha, hb, ?_⟩
  obtain ⟨n, en⟩ : ∃ n, n = s.heap.objs.size := ⟨_, rfl⟩
  have w1 : (zipTH1 s.heap a).objs.size = n + 1 := by rw [Heap.size_push, en]
  have w2 : (zipTH2 s.heap a b).objs.size = n + 2 := by rw [Heap.size_push, w1]
  have w3 : (zipTH3 s.heap a b).objs.size = n + 3 := by rw [Heap.size_push, w2]
  have w4 : (zipTH4 s.heap a b).objs.size = n + 4 := by rw [Heap.size_push, w3]
  have v5 : (zs5 s.heap a b).get? (zipTH4 s.heap a b).objs.size = some _ := Heap.get?_push_size _ rfl
  have v4 : (zs5 s.heap a b).get? (zipTH3 s.heap a b).objs.size = some _ := Heap.get?_push_of_some _ (Heap.get?_push_size _ rfl)
  have v3 : (zs5 s.heap a b).get? (zipTH2 s.heap a b).objs.size = some _ := Heap.get?_push_of_some _ (Heap.get?_push_of_some _ (Heap.get?_push_size _ rfl))
  have v2 : (zs5 s.heap a b).get? (zipTH1 s.heap a).objs.size = some _ := Heap.get?_push_of_some _ (Heap.get?_push_of_some _ (Heap.get?_push_of_some _ (Heap.get?_push_size _ rfl)))
  have v1 : (zs5 s.heap a b).get? s.heap.objs.size = some _ := Heap.get?_push_of_some _ (Heap.get?_push_of_some _ (Heap.get?_push_of_some _ (Heap.get?_push_of_some _ (Heap.get?_push_size _ rfl))))
  rw [w2, w3, w4] at v5
  rw [w1, w2] at v3
  rw [w3] at v4
  rw [w1] at v2
  show _ ∧ _
  rw [w4]
  rw [← en] at v1 v3 k
  exact ⟨⟨_, v5, rfl⟩, k _ ⟨v5, v3, ⟨_, _, v4⟩, ⟨_, v1, rfl, rfl⟩, ⟨_, v2, rfl, rfl⟩⟩ fun c o x => Heap.get?_push_of_some _ (Heap.get?_push_of_some _ (Heap.get?_push_of_some _ (Heap.get?_push_of_some _ (Heap.get?_push_of_some _ x))))⟩
theorem cw_type {M : Model} {A : Around} {E : Value → Shared → Prop} {s : Shared} {pos : Pos} {T : String} {args : List (Bool × Sem Value)} {kws : List (Option Str × Sem Value)} {Q : Value → Shared → Prop} (h1 : args.any (·.1) = false) (h2 : kws.any (·.1.isNone) = false)
    (h : wpAny M A (evalArgs (.type T) true args kws) (fun a s₁ => wpAny M A (PySem.call (.type T) a.pos a.kw) Q E s₁) E s) : wpAny M A (callWith pos (.type T) [] args kws) Q E s := by
  unfold callWith
  refine wpAny_bind (wpAny_holding (wpAny_mono h (fun a s₁ ha => wpAny_bind (wpAny_standAt ?_)) fun _ _ x => x))
  rw [h1, h2]
  refine wpAny_bind (wpAny_pure ?_)
  refine wpAny_bind (wpAny_mono ha (fun r s₂ hr => ?_) fun _ _ x => x)
  exact wpAny_bind (wpAny_holding (wpAny_point (wpAny_pure hr)))
def iZipS (K : PySem.W.Frag) (ta : TA) : TI := fun σ H R => ta σ H fun vs H1 => ∃ a b xs ys, vs = [.ref a, .ref b] ∧ SqT K H1 a xs ∧ SqT K H1 b ys ∧ R (ItzS K a b) H1
theorem pi_zipS {X : Cx} {e e2 : Expr} {ta : TA} {p pos tpos cpos kpos : Pos} {elts : List Expr} {kk ck : Nat} (hg : Gl X "zip") (hm : X.mg "zip" = none) (hc : X.calm = true) (ha : PA X [e, e2] ta)
    (hs : starEach [e, e2] X.env = (false, eval e X.env) :: starEach [e2] X.env) (hpl : (backTo pos (starEach [e2] X.env)).any (·.1) = false) :
    PI X (.Tuple elts kk tpos) (.Call (.Name "zip" p) [e, e2] [⟨some "strict", .Constant (.bool true) ck cpos, kpos⟩] pos) (iZipS X.K ta) := by
  refine ⟨fun pins s σ H R I h => ?_⟩
  show wpAny _ _ (eval (.Name "zip" p) X.env >>= fun f => callWith pos f [] (backTo pos (starEach [e, e2] X.env)) (backToKw pos (keywordEach [⟨some "strict", .Constant (.bool true) ck cpos, kpos⟩] X.env))) _ _ _
  refine wpAny_bind (ld_blt I hg hm PyProof.Rows.boot_zip ?_)
  have run := ha.run pos pins s σ H _ I h
  have any : (backTo pos (starEach [e, e2] X.env)).any (·.1) = false := by
    rw [hs]
    show (false || (backTo pos (starEach [e2] X.env)).any (·.1)) = false
    rw [hpl]
    rfl
  refine cw_type any rfl ?_
  rw [hs] at run ⊢
  refine evalArgs_kwB rfl (thn run fun us s1 ⟨vs, H1, I1, r1, a, b, xs, ys, ex, qx, qy, q1⟩ => ?_)
  subst ex
  refine kws_cons (thn (pe_bl.run pins s1 σ H1 (fun v H' => v = .bl true ∧ H' = H1) I1 ⟨rfl, rfl⟩) fun u s2 ⟨x, H2, I2, r2, e1, e2⟩ => kws_nil ?_)
  subst e1 e2
  cases r1 with
  | cons ra rr =>
    cases rr with
    | cons rb rr =>
      cases rr
      cases ra
      cases rb
      cases r2
      obtain ⟨its, rv, tx, _⟩ := I2.tuple qx
      obtain ⟨its2, rv2, ty, _⟩ := I2.tuple qy
      obtain ⟨o1, ho1, _⟩ := id tx
      obtain ⟨o2, ho2, _⟩ := id ty
      show wpAny _ _ (PySem.call (.type "zip") [.ref a, .ref b] [(Str.ofString "strict", .bool true)]) _ _ _
      refine call_zs (show s2.heap.IsTuple a its.toArray from tx) (show s2.heap.IsTuple b its2.toArray from ty) fun h' zst up => it_zs zst.1 ?_
      have I3 : Inv X pins σ H2 { s2 with heap := h' } := I2.kept (t' := s2.toks) up
      refine ⟨_, [s2.heap.objs.size + 4, s2.heap.objs.size + 2, s2.heap.objs.size + 3, s2.heap.objs.size, s2.heap.objs.size + 1], _, _, H2, rfl, I3, turn_zs (PySem.W.ktu_apart s2.heap.objs.size a b (Heap.lt_size ho1) (Heap.lt_size ho2)), zst, fun c hm => ?_, q1⟩
      have hle : s2.heap.objs.size ≤ c := by rcases mem5 hm with rfl | rfl | rfl | rfl | rfl <;> omega
      exact I2.fpOk hle (I2.hok.fresh hle)
end PV
set_option Elab.async false
set_option linter.all false
set_option autoImplicit false
set_option maxRecDepth 100000
set_option maxHeartbeats 1000000
namespace PV
open PySem PySem.Spec PyProof.Rows L2
section
variable {P : Ev} {C : Cn} {cur : Cur} {W : WX} {X : Cx} {c : CE} {cs : List CE} {tg it : Expr} {es : List Expr} {pos : Pos}
theorem evL_one {b : List MO} {en : Env} {s : HS b} {F : List D → HS b → R b Src} : bnd (evL P cur [c] en s) F = bnd (evE P cur c en s) fun x s1 => F [x] s1 := by
  simp only [evL]
  cases evE P cur c en s with
  | none => rfl
  | some o => cases o <;> rfl
theorem sndI_val (hc : PE X it (tE X.K C P cur W c)) : PI X tg it (tI X.K C P cur W .val [c]) := by
  refine ⟨fun pins s0 σ H R0 I ⟨bb, s, rr, en, u, R, E, ev, post⟩ => ?_⟩
  rw [show (fun {b_1 : List MO} e (s : HS b_1) => bnd (evL P cur [c] e s) fun xs s1 => srcR .val xs s1) en s = _ from evL_one] at ev
  cases h : evE P cur c en s with
  | none => rw [h] at ev; cases ev
  | some o =>
    cases o with
    | ex c1 fs s1 =>
      rw [h] at ev
      cases ev
      exact (pi_list hc).run pins s0 σ H R0 I ⟨bb, s, rr, en, _, R, E, h, post⟩
    | ok d s1 =>
      rw [h] at ev
      cases d <;> simp only [bnd, srcR, src, ret] at ev <;> try (cases ev; done)
      case tup ys =>
        cases ev
        refine (pi_tup hc).run pins s0 σ H R0 I ⟨bb, s, rr, en, _, R, E, h, fun r1 H1 v fx R1 q => ?_⟩
        obtain ⟨a, vs, rfl, q1, t1⟩ := q
        exact ⟨a, rfl, ⟨vs, q1⟩, post r1 H1 _ fx R1 (jok_tup q1 t1)⟩
      case ref p =>
        split at ev
        · cases ev
        · rename_i sr hsr
          split at hsr
          · rename_i w xs hm
            cases hsr
            cases ev
            refine (pi_list hc).run pins s0 σ H R0 I ⟨bb, s, rr, en, _, R, E, h, fun r1 H1 v fx R1 q => ?_⟩
            obtain ⟨a, wa, ha, rfl⟩ := q
            obtain ⟨vs, q1, _⟩ := (R1.ob hm ha).sq
            exact ⟨a, rfl, ⟨vs, q1⟩, post r1 H1 _ fx R1 (jok_live ha)⟩
          · cases hsr
theorem sndI_rng1 {e : Expr} {p : Pos} (hg : Gl X "range") (hm : X.mg "range" = none) (ha : PA X [e] (tL X.K C P cur W cs)) (hs : starEach [e] X.env = [(false, eval e X.env)]) : PI X tg (.Call (.Name "range" p) [e] [] pos) (tI X.K C P cur W .range cs) :=
  PI.imp (pi_range1 hg hm ha hs) fun σ H Q ⟨bb, s, rr, en, u, R, E, ev, post⟩ => by
    refine tN.seq (ev := fun e s => evL P cur cs e s) (RP := RDL X.K) R E ev post fun xs s1 r1 H1 vs fx1 ev1 R1 E1 q1 post1 => ?_
    simp only [srcR, src] at ev1
    split at ev1
    · cases ev1
    · rename_i sr hsr
      cases ev1
      split at hsr
      · rename_i n
        split at hsr
        · rename_i z
          cases hsr
          simp only [Bool.and_eq_true, decide_eq_true_eq] at z
          obtain ⟨v, rfl, h1⟩ := one_rep q1
          exact ⟨n, by rw [show v = .int n from h1], z.1, z.2, post1.self R1 jok_rng⟩
        · cases hsr
      · cases hsr
theorem sndI_rng2 {e e2 : Expr} {p : Pos} (hg : Gl X "range") (hm : X.mg "range" = none) (ha : PA X [e, e2] (tL X.K C P cur W cs)) (hs : starEach [e, e2] X.env = [(false, eval e X.env), (false, eval e2 X.env)]) (hs2 : starEach [e2] X.env = [(false, eval e2 X.env)]) : PI X tg (.Call (.Name "range" p) [e, e2] [] pos) (tI X.K C P cur W .range2 cs) :=
  PI.imp (pi_range2 hg hm ha hs hs2) fun σ H Q ⟨bb, s, rr, en, u, R, E, ev, post⟩ => by
    refine tN.seq (ev := fun e s => evL P cur cs e s) (RP := RDL X.K) R E ev post fun xs s1 r1 H1 vs fx1 ev1 R1 E1 q1 post1 => ?_
    simp only [srcR, src] at ev1
    split at ev1
    · cases ev1
    · rename_i sr hsr
      cases ev1
      split at hsr
      · rename_i n m
        split at hsr
        · rename_i z
          cases hsr
          simp only [Bool.and_eq_true, decide_eq_true_eq] at z
          obtain ⟨v, w, rfl, h1, h2⟩ := two_rep q1
          exact ⟨n, m, by rw [show v = .int n from h1, show w = .int m from h2], ⟨z.1.1.1, z.1.1.2, z.1.2, z.2⟩, post1.self R1 jok_rng⟩
        · cases hsr
      · cases hsr
theorem sndI_zip {e e2 : Expr} {p tpos : Pos} {elts : List Expr} {kk : Nat} (hg : Gl X "zip") (hm : X.mg "zip" = none) (ha : PA X [e, e2] (tL X.K C P cur W cs)) (hs : starEach [e, e2] X.env = (false, eval e X.env) :: starEach [e2] X.env) (hpl : (backTo pos (starEach [e2] X.env)).any (·.1) = false) :
    PI X (.Tuple elts kk tpos) (.Call (.Name "zip" p) [e, e2] [] pos) (tI X.K C P cur W .zip cs) :=
  PI.imp (RZ.pi_zipA hg hm ha hs hpl) fun σ H Q ⟨bb, s, rr, en, u, R, E, ev, post⟩ => by
    refine tN.seq (ev := fun e s => evL P cur cs e s) (RP := RDL X.K) R E ev post fun xs s1 r1 H1 vs fx1 ev1 R1 E1 q1 post1 => ?_
    simp only [srcR, src] at ev1
    split at ev1
    · cases ev1
    · rename_i sr hsr
      cases ev1
      split at hsr
      · rename_i x y
        cases hsr
        obtain ⟨v, w, rfl, h1, h2⟩ := two_rep q1
        obtain ⟨a, vs, rfl, k1, t1⟩ := h1
        obtain ⟨c, ws, rfl, k2, t2⟩ := h2
        exact ⟨a, c, vs, ws, rfl, .inr ⟨k1, k2, post1.self R1 (jok_zip k1 t1 k2 t2)⟩⟩
      · cases hsr
theorem jok_zipS {K : PySem.W.Frag} {r : RA} {H : Hp} {a c : Addr} {xs ys : List D} {vs ws : List V} (q : SqT K H a vs) (t : RepL K r H xs vs) (q2 : SqT K H c ws) (t2 : RepL K r H ys ws) (hl : xs.length = ys.length) : JOk K (ItzS K a c) (.its (List.zipWith (fun x y => .tup [x, y]) xs ys)) r H := by
  intro b s r' H' i fx R
  obtain ⟨h1, h2⟩ := jok_zip q t q2 t2 b s r' H' i fx R
  refine ⟨fun e => ?_, fun d e => ?_⟩
  · simp only [Src.at, Option.some.injEq, List.getElem?_eq_none_iff, List.length_zipWith] at e
    refine ⟨vs, ws, fx.ext.sqT q, fx.ext.sqT q2, ?_, ?_⟩
    · rw [t.length]; omega
    · rw [t2.length]; omega
  · obtain ⟨k1, k2⟩ := h2 d e
    exact ⟨k1, k2⟩
theorem sndI_zipS {e e2 : Expr} {p tpos cpos kpos : Pos} {elts : List Expr} {kk ck : Nat} (hg : Gl X "zip") (hm : X.mg "zip" = none) (hc : X.calm = true) (ha : PA X [e, e2] (tL X.K C P cur W cs)) (hs : starEach [e, e2] X.env = (false, eval e X.env) :: starEach [e2] X.env) (hpl : (backTo pos (starEach [e2] X.env)).any (·.1) = false) :
    PI X (.Tuple elts kk tpos) (.Call (.Name "zip" p) [e, e2] [⟨some "strict", .Constant (.bool true) ck cpos, kpos⟩] pos) (tI X.K C P cur W .zipS cs) :=
  PI.imp (pi_zipS hg hm hc ha hs hpl) fun σ H Q ⟨bb, s, rr, en, u, R, E, ev, post⟩ => by
    refine tN.seq (ev := fun e s => evL P cur cs e s) (RP := RDL X.K) R E ev post fun xs s1 r1 H1 vs fx1 ev1 R1 E1 q1 post1 => ?_
    simp only [srcR, src] at ev1
    split at ev1
    · cases ev1
    · rename_i sr hsr
      cases ev1
      split at hsr
      · rename_i x y
        split at hsr
        · rename_i z
          cases hsr
          obtain ⟨v, w, rfl, h1, h2⟩ := two_rep q1
          obtain ⟨a, vs, rfl, k1, t1⟩ := h1
          obtain ⟨c, ws, rfl, k2, t2⟩ := h2
          exact ⟨a, c, vs, ws, rfl, k1, k2, post1.self R1 (jok_zipS k1 t1 k2 t2 z)⟩
        · cases hsr
      · cases hsr
end
end PV
set_option Elab.async false
set_option linter.all false
set_option autoImplicit false
set_option maxRecDepth 100000
set_option maxHeartbeats 4000000
namespace PV
open PySem PySem.Spec PyProof.Rows L2
def chkI (T : Tb) (hot : Bool) (N : List Str) (sc : Scope) (k : ITk) (src : List CE) (t it : Expr) : Bool := match k with
  | .val => (match src with
    | [c] => chkE T hot N sc c it && (match it with | .Set _ _ _ => false | _ => true)
    | _ => false)
  | .range => (match it with
    | .Call (.Name x _) args [] _ => decide (x = ("range" : Str)) && glB sc x && T.fr.contains x && chkL T hot N sc src args && args.length == 1
    | _ => false)
  | .range2 => (match it with
    | .Call (.Name x _) args [] _ => decide (x = ("range" : Str)) && glB sc x && T.fr.contains x && chkL T hot N sc src args && args.length == 2
    | _ => false)
  | .zip => (match t with
    | .Tuple _ _ _ => (match it with
      | .Call (.Name x _) [a1, a2] [] _ => decide (x = ("zip" : Str)) && glB sc x && T.fr.contains x && chkL T hot N sc src [a1, a2]
      | _ => false)
    | _ => false)
  | .zipS => (match t with
    | .Tuple _ _ _ => (match it with
      | .Call (.Name x _) [a1, a2] [⟨some kn, .Constant (.bool true) _ _, _⟩] _ => decide (x = ("zip" : Str)) && decide (kn = ("strict" : Str)) && glB sc x && T.fr.contains x && chkL T hot N sc src [a1, a2]
      | _ => false)
    | _ => false)
theorem chkL_cons {T : Tb} {hot : Bool} {N : List Str} {sc : Scope} {c : CE} {cs : List CE} {es : List Expr} (h : chkL T hot N sc (c :: cs) es = true) : ∃ e r, es = e :: r ∧ chkE T hot N sc c e = true ∧ chkL T hot N sc cs r = true := by
  cases es with
  | nil => simp [chkL] at h
  | cons e r =>
    simp only [chkL, Bool.and_eq_true] at h
    exact ⟨e, r, rfl, h.1, h.2⟩
theorem chkL_nil {T : Tb} {hot : Bool} {N : List Str} {sc : Scope} {es : List Expr} (h : chkL T hot N sc [] es = true) : es = [] := by
  simpa [chkL] using h
theorem chkL_to {T : Tb} {hot : Bool} {N : List Str} {sc : Scope} : ∀ {cs : List CE} {e : Expr} {es : List Expr}, chkL T hot N sc cs (e :: es) = true → ∃ c cr, cs = c :: cr ∧ chkE T hot N sc c e = true ∧ chkL T hot N sc cr es = true
  | [], e, es, h => by simp [chkL] at h
  | c :: cr, e, es, h => by
    simp only [chkL, Bool.and_eq_true] at h
    exact ⟨c, cr, rfl, h.1, h.2⟩
theorem set_fold {it : Expr} (h : (match it with | .Set _ _ _ => false | _ => true) = true) (env : PySem.Env) (x : Value) : foldedSetIterable it env x = pure x := by
  cases it <;> first | rfl | cases h
section
variable {T : Tb} {P : Ev} {C : Cn} {hot : Bool} {cur : Cur} {W : WX} {k : Nat} {X : Cx}
theorem no_excf {i : Nat} {f : Str} {e : Expr} : PE X e (tE X.K C P none W (.excf i f)) := ⟨fun _ _ _ _ _ _ ⟨_, _, _, _, _, _, _, ev, _⟩ => by cases ev⟩
theorem no_exci {i : Nat} {y : Str} {e : Expr} : PE X e (tE X.K C P none W (.exci i y)) := ⟨fun _ _ _ _ _ _ ⟨_, _, _, _, _, _, _, ev, _⟩ => by cases ev⟩
theorem Gd.blk (G : Gd T P C false cur W k X) (s : Shared) (H : Hp) (scope : Scope) (cenv : PySem.Env) (fp : List Addr) : Gd T P C false none W0 k (X.blk s H scope cenv fp) :=
  ⟨G.nd, G.un, G.gd, G.fu, G.gl, G.fr, G.calm, G.room, fun _ => rfl, G.xg0, takes0, G.fn, fun _ _ _ _ _ _ _ _ => no_excf, fun _ _ _ _ _ _ _ _ _ _ _ _ _ _ => no_exci⟩
theorem blk_scope {scope : Scope} {cl : List (Str × Addr)} {c : Addr} : (compEnvC scope cl c X.env).scope = relS scope X.env.scope := rfl
theorem fr_of (G : Gd T P C hot cur W k X) {x : Str} (h : T.fr.contains x = true) : X.mg x = none := G.fr x (by simpa using h)
theorem sndI (G : Gd T P C false cur W k X) {kk : ITk} {src : List CE} {t it : Expr} (h : chkI T false X.N X.env.scope kk src t it = true)
    (hL : ∀ es, chkL T false X.N X.env.scope src es = true → PA X es (tL X.K C P cur W src)) (h1 : ∀ c e, src = [c] → chkE T false X.N X.env.scope c e = true → PE X e (tE X.K C P cur W c)) : PI X t it (tI X.K C P cur W kk src) ∧ ∀ env x, foldedSetIterable it env x = pure x := by
  cases kk with
  | val =>
    simp only [chkI] at h
    split at h
    · rename_i c
      simp only [Bool.and_eq_true] at h
      exact ⟨sndI_val (h1 c it rfl h.1), set_fold h.2⟩
    · cases h
  | range =>
    simp only [chkI] at h
    split at h
    · rename_i x p args pos
      simp only [Bool.and_eq_true, decide_eq_true_eq] at h
      obtain ⟨⟨⟨⟨rfl, h2⟩, h3⟩, h4⟩, h5⟩ := h
      match args, h4, h5 with
      | [e], h4, _ =>
        obtain ⟨c, cr, rfl, hc, _⟩ := chkL_to h4
        exact ⟨sndI_rng1 (gl_of h2) (fr_of G h3) (hL _ h4) (star_of (chk_ns hc) [] X.env), fun _ _ => rfl⟩
    · cases h
  | range2 =>
    simp only [chkI] at h
    split at h
    · rename_i x p args pos
      simp only [Bool.and_eq_true, decide_eq_true_eq] at h
      obtain ⟨⟨⟨⟨rfl, h2⟩, h3⟩, h4⟩, h5⟩ := h
      match args, h4, h5 with
      | [e, e2], h4, _ =>
        obtain ⟨c, cr, rfl, hc, hr⟩ := chkL_to h4
        obtain ⟨c2, cr2, rfl, hc2, _⟩ := chkL_to hr
        have s2 : starEach [e2] X.env = [(false, eval e2 X.env)] := star_of (chk_ns hc2) [] X.env
        exact ⟨sndI_rng2 (gl_of h2) (fr_of G h3) (hL _ h4) (by rw [star_of (chk_ns hc) [e2] X.env, s2]) s2, fun _ _ => rfl⟩
    · cases h
  | zip =>
    simp only [chkI] at h
    split at h
    · split at h
      · rename_i x p a1 a2 pos
        simp only [Bool.and_eq_true, decide_eq_true_eq] at h
        obtain ⟨⟨⟨rfl, h2⟩, h3⟩, h4⟩ := h
        obtain ⟨c, cr, rfl, hc, hr⟩ := chkL_to h4
        exact ⟨sndI_zip (gl_of h2) (fr_of G h3) (hL _ h4) (star_of (chk_ns hc) [a2] X.env) (any_ns hr), fun _ _ => rfl⟩
      · cases h
    · cases h
  | zipS =>
    simp only [chkI] at h
    split at h
    · split at h
      · rename_i x p a1 a2 kn ck cpos kpos pos
        simp only [Bool.and_eq_true, decide_eq_true_eq] at h
        obtain ⟨⟨⟨⟨rfl, rfl⟩, h2⟩, h3⟩, h4⟩ := h
        obtain ⟨c, cr, rfl, hc, hr⟩ := chkL_to h4
        exact ⟨sndI_zipS (gl_of h2) (fr_of G h3) (G.calm rfl) (hL _ h4) (star_of (chk_ns hc) [a2] X.env) (any_ns hr), fun _ _ => rfl⟩
      · cases h
    · cases h
end
end PV
set_option Elab.async false
set_option linter.all false
set_option autoImplicit false
set_option maxRecDepth 100000
set_option maxHeartbeats 4000000
namespace PV
open PySem PySem.Spec PyProof.Rows L2
theorem boot_bi (g : BI) : bootBuiltins g.nm = some g.val := by
  cases g with
  | isi t => exact (by decide +kernel : bootBuiltins ("isinstance" : Str) = some (.builtin "isinstance"))
  | _ => decide +kernel
theorem bi_nm (g : BI) : g.nm ≠ "__name__" ∧ (g.nm == ("__debug__" : Str)) = false := by
  cases g with
  | isi t => exact (by decide +kernel : ("isinstance" : Str) ≠ "__name__" ∧ (("isinstance" : Str) == ("__debug__" : Str)) = false)
  | _ => exact ⟨by decide +kernel, by decide +kernel⟩
def chkB (T : Tb) (hot : Bool) (N : List Str) (sc : Scope) (g : BI) (es : List CE) (args : List Expr) : Bool := match g with
  | .isi t => (match args with
    | [a, .Name y _] => decide (y = (t.nm : Str)) && glB sc y && T.fr.contains y && chkL T hot N sc es [a]
    | _ => false)
  | _ => !args.isEmpty && chkL T hot N sc es args
theorem chk_bi {T : Tb} {hot : Bool} {N : List Str} {sc : Scope} {g : BI} {es : List CE} {args : List Expr} {x : Str} {p p1 : Pos} :
    chkE T hot N sc (.bi g es) (.Call (.Name x p1) args [] p) = ((!hot || g.hot) && decide (x = g.nm) && glB sc x && T.fr.contains x && chkB T hot N sc g es args) := by
  cases g <;> first
    | rfl
    | (rcases args with _ | ⟨a, _ | ⟨y, _ | ⟨z, r⟩⟩⟩ <;> first | rfl | (cases y <;> rfl))
theorem chk_lc {T : Tb} {hot : Bool} {N : List Str} {sc : Scope} {tg : Tg} {k : ITk} {src ifs : List CE} {elt : CE} {own : List Nat} {t it el : Expr} {fs : List Expr} {scope : Scope} {p : Pos} :
    chkE T hot N sc (.lc tg k src ifs elt own) (.ListComp el [⟨t, it, fs, 0⟩] scope p) = (!hot && blkC N sc scope (ownP N own) && decide ((ownP N own).map (·.2) = own) && tg.slots.all (own.contains ·) && chkTg false N (relS scope sc) tg t && decide (fs.length ≤ 1) && chkL T hot N (relS scope sc) ifs fs && chkE T hot N (relS scope sc) elt el && chkI T hot N sc k src t it) := by
  cases k <;> first
    | rfl
    | (rcases src with _ | ⟨c, _ | ⟨d, r⟩⟩ <;> rfl)
theorem boot_ty (t : TyC) : bootBuiltins (t.nm : Str) = some (.type t.nm) := by cases t <;> decide +kernel
theorem ty_nm (t : TyC) : (t.nm : Str) ≠ "__name__" ∧ ((t.nm : Str) == ("__debug__" : Str)) = false := by cases t <;> exact ⟨by decide +kernel, by decide +kernel⟩
theorem plain_ix {e : Expr} (h : notSl e = true) : PlainIx e := fun o i => by
  cases e with
  | Slice a b c p =>
    cases c with
    | none => cases h
    | some c => rfl
  | _ => rfl
theorem all_ns {T : Tb} {hot : Bool} {N : List Str} {sc : Scope} {pos : Pos} {env : PySem.Env} {cs : List CE} {es : List Expr} (h : chkL T hot N sc cs es = true) : (backTo pos (starEach es env)).all (fun x => !x.1) = true := by
  have q := any_ns (pos := pos) (env := env) h
  rw [List.all_eq_not_any_not]
  simp only [Bool.not_not]
  rw [q]
  rfl
def plainT : Expr → Bool
  | .BoolOp _ _ _ => false
  | .UnaryOp .Not _ _ => false
  | .IfExp _ _ _ _ => false
  | .Compare _ _ _ _ => false
  | _ => true
theorem plain_t {e : Expr} (h : plainT e = true) (env : PySem.Env) : ∀ whole, isTrue e env whole = (do let v ← whole; standAt e.pos; holding [v] (truthy v)) := fun whole => by
  cases e with
  | BoolOp _ _ _ => cases h
  | UnaryOp o _ _ => cases o <;> first | rfl | cases h
  | IfExp _ _ _ _ => cases h
  | Compare _ _ _ _ => cases h
  | _ => rfl
section
variable {T : Tb} {P : Ev} {C : Cn} {hot : Bool} {cur : Cur} {W : WX} {k : Nat} {X : Cx}
theorem both {c : CE} {e : Expr} (h : PE X e (tE X.K C P cur W c)) (hp : plainT e = true) : PE X e (tE X.K C P cur W c) ∧ PT X e (tT X.K C P cur W c) := ⟨h, pt_of h (plain_t hp X.env)⟩
end
mutual
theorem snd {T : Tb} {P : Ev} {C : Cn} : ∀ (c : CE) {hot : Bool} {cur : Cur} {W : WX} {k : Nat} {X : Cx}, Gd T P C hot cur W k X → ∀ e, chkE T hot X.N X.env.scope c e = true → PE X e (tE X.K C P cur W c) ∧ PT X e (tT X.K C P cur W c)
  | .cst d, hot, cur, W, k, X, G, e, h => by
    cases e <;> try (cases h; done)
    rename_i v kk p
    refine both ?_ rfl
    cases v <;> cases d <;> try (cases h; done)
    all_goals first
      | exact st_cst pe_non fun _ _ _ => rfl
      | (have h' := of_decide_eq_true h; subst h'; first | exact st_cst pe_int fun _ _ _ => rfl | exact st_cst pe_bl fun _ _ _ => rfl | exact st_cst pe_str fun _ _ _ => rfl)
  | .var i, hot, cur, W, k, X, G, e, h => by
    cases e <;> try (cases h; done)
    rename_i x p
    have h' : (decide (X.N[i]? = some x) && visB X.env.scope x && okN x) = true := h
    simp only [Bool.and_eq_true, decide_eq_true_eq] at h'
    obtain ⟨o1, o2, o3⟩ := okN_of h'.2
    exact both (st_var (pe_var h'.1.1 (vis_of h'.1.2) o1 o2)) rfl
  | .glb y i, hot, cur, W, k, X, G, e, h => by
    cases e <;> try (cases h; done)
    rename_i x p
    have h' : (decide (x = y) && glB X.env.scope x && okN x && decide (T.gl.lookup x = some i)) = true := h
    simp only [Bool.and_eq_true, decide_eq_true_eq] at h'
    obtain ⟨o1, o2, o3⟩ := okN_of h'.1.2
    obtain ⟨t, ht⟩ := G.gl x i h'.2
    exact both (st_glb (pe_glob (gl_of h'.1.1.2) ht ⟨t, rfl⟩ o1)) rfl
  | .bin o a b, hot, cur, W, k, X, G, e, h => by
    cases e <;> try (cases h; done)
    rename_i l op r p
    have h' : (decide (op = o.op) && chkE T hot X.N X.env.scope a l && chkE T hot X.N X.env.scope b r) = true := h
    simp only [Bool.and_eq_true, decide_eq_true_eq] at h'
    obtain ⟨⟨rfl, h1⟩, h2⟩ := h'
    exact both (st_bin (snd a G l h1).1 (snd b G r h2).1) rfl
  | .neg a, hot, cur, W, k, X, G, e, h => by
    cases e <;> try (cases h; done)
    rename_i op l p
    cases op <;> try (cases h; done)
    exact both (st_neg (snd a G l h).1) rfl
  | .cmp o a b, hot, cur, W, k, X, G, e, h => by
    cases e <;> try (cases h; done)
    rename_i l ops rs p
    match ops, rs, h with
    | [op], [r], h =>
      have h' : (decide (op = o.op) && chkE T hot X.N X.env.scope a l && chkE T hot X.N X.env.scope b r) = true := h
      simp only [Bool.and_eq_true, decide_eq_true_eq] at h'
      obtain ⟨⟨rfl, h1⟩, h2⟩ := h'
      have hu : X.A.units + 64 < cLine := by have := G.un; omega
      exact ⟨st_cmp hu (snd a G l h1).1 (snd b G r h2).1, tt_cmp hu (snd a G l h1).1 (snd b G r h2).1⟩
  | .chn o o2 a b c, hot, cur, W, k, X, G, e, h => by
    cases e <;> try (cases h; done)
    rename_i l ops rs p
    match ops, rs, h with
    | [op, op2], [m, r], h =>
      have h' : (decide (op = o.op) && decide (op2 = o2.op) && chkE T hot X.N X.env.scope a l && chkE T hot X.N X.env.scope b m && chkE T hot X.N X.env.scope c r) = true := h
      simp only [Bool.and_eq_true, decide_eq_true_eq] at h'
      obtain ⟨⟨⟨⟨rfl, rfl⟩, h1⟩, h2⟩, h3⟩ := h'
      have hu : X.A.units + 64 < cLine := by have := G.un; omega
      exact ⟨st_chn hu (snd a G l h1).1 (snd b G m h2).1 (snd c G r h3).1, tt_chn hu (snd a G l h1).1 (snd b G m h2).1 (snd c G r h3).1⟩
  | .ands es, hot, cur, W, k, X, G, e, h => by
    cases e <;> try (cases h; done)
    rename_i op vs p
    cases op <;> try (cases h; done)
    exact sndAnd es G vs p h
  | .ors es, hot, cur, W, k, X, G, e, h => by
    cases e <;> try (cases h; done)
    rename_i op vs p
    cases op <;> try (cases h; done)
    exact sndOr es G vs p h
  | .nt a, hot, cur, W, k, X, G, e, h => by
    cases e <;> try (cases h; done)
    rename_i op l p
    cases op <;> try (cases h; done)
    exact ⟨st_nt (snd a G l h).1, tt_nt (snd a G l h).2⟩
  | .ite c a b, hot, cur, W, k, X, G, e, h => by
    cases e <;> try (cases h; done)
    rename_i m l r p
    have h' : (chkE T hot X.N X.env.scope c m && chkE T hot X.N X.env.scope a l && chkE T hot X.N X.env.scope b r) = true := h
    simp only [Bool.and_eq_true] at h'
    exact ⟨st_ite (snd c G m h'.1.1).2 (snd a G l h'.1.2).1 (snd b G r h'.2).1, tt_ite (snd c G m h'.1.1).2 (snd a G l h'.1.2).2 (snd b G r h'.2).2⟩
  | .tup es, hot, cur, W, k, X, G, e, h => by
    cases e <;> try (cases h; done)
    rename_i vs kk p
    exact both (st_tup (sndL es G vs h)) rfl
  | .lst es, hot, cur, W, k, X, G, e, h => by
    cases e <;> try (cases h; done)
    rename_i vs p
    exact both (st_lst (sndL es G vs h)) rfl
  | .dct0, hot, cur, W, k, X, G, e, h => by
    cases e <;> try (cases h; done)
    rename_i ks vs p
    match ks, vs, h with
    | [], [], _ => exact both st_dct0 rfl
  | .call f es, hot, cur, W, k, X, G, e, h => by
    cases e <;> try (cases h; done)
    rename_i fn args kws p
    cases fn <;> try (cases h; done)
    rename_i x p1
    match kws, h with
    | [], h =>
      have h' : (!hot && decide (T.nm f = some x) && glB X.env.scope x && okN x && T.pl f && chkL T hot X.N X.env.scope es args) = true := h
      simp only [Bool.and_eq_true, decide_eq_true_eq, Bool.not_eq_true'] at h'
      obtain ⟨⟨⟨⟨⟨rfl, h1⟩, h2⟩, h3⟩, h0⟩, h4⟩ := h'
      obtain ⟨o1, o2, o3⟩ := okN_of h3
      obtain ⟨j, fa, fd, ps, hj, hm, hk, hb, _, F⟩ := G.fn f x h1
      refine both (st_call (k := 0) F ((G.room rfl).mono hj) G.gd (gl_of h2) hm hk (hb h0) G.tk (sndL es G args h4) o1 (fun e0 es0 z => ?_) (fun e0 es0 z => ?_) (fun z => ?_)) rfl
      · subst z
        obtain ⟨c, cr, rfl, hc, _⟩ := chkL_to h4
        exact star_of (chk_ns hc) es0 X.env
      · subst z
        obtain ⟨c, cr, rfl, _, hr⟩ := chkL_to h4
        exact any_ns hr
      · subst z
        cases es with
        | nil => rfl
        | cons c cr => cases h4
  | .callk f es ks kes, hot, cur, W, k, X, G, e, h => by
    cases e <;> try (cases h; done)
    rename_i fn args kws p
    cases fn <;> try (cases h; done)
    rename_i x p1
    have h' : (!hot && decide (T.nm f = some x) && glB X.env.scope x && okN x && decide (kws.map (·.arg) = ks.map some) && chkL T hot X.N X.env.scope es args && chkL T hot X.N X.env.scope kes (kws.map (·.value))) = true := h
    simp only [Bool.and_eq_true, decide_eq_true_eq, Bool.not_eq_true'] at h'
    obtain ⟨⟨⟨⟨⟨⟨rfl, h1⟩, h2⟩, h3⟩, h4⟩, h5⟩, h6⟩ := h'
    obtain ⟨o1, o2, o3⟩ := okN_of h3
    obtain ⟨j, fa, fd, ps, hj, hm, hk, _, hb, F⟩ := G.fn f x h1
    refine both (st_callk (k := 0) F ((G.room rfl).mono hj) G.gd (gl_of h2) hm hk hb G.tk (sndL es G args h5) (sndK kes G kws h6) h4 o1 (fun e0 es0 z => ?_) (fun e0 es0 z => ?_) (fun z => ?_)) rfl
    · subst z
      obtain ⟨c, cr, rfl, hc, _⟩ := chkL_to h5
      exact star_of (chk_ns hc) es0 X.env
    · subst z
      exact any_ns h5
    · subst z
      cases es with
      | nil => rfl
      | cons c cr => cases h5
  | .bi g es, hot, cur, W, k, X, G, e, h => by
    cases e <;> try (cases h; done)
    rename_i fn args kws p
    cases fn <;> try (cases h; done)
    rename_i x p1
    match kws, h with
    | [], h =>
      have h' := chk_bi.symm.trans h
      simp only [Bool.and_eq_true, decide_eq_true_eq] at h'
      obtain ⟨⟨⟨⟨h0, rfl⟩, h2⟩, h3⟩, h4⟩ := h'
      have hc' : g.hot = false → X.calm = true := fun z => G.calm (by
        rw [z] at h0
        cases hot
        · rfl
        · cases h0)
      by_cases hi : ∃ t, g = .isi t
      · obtain ⟨t, rfl⟩ := hi
        simp only [chkB] at h4
        split at h4
        · rename_i a y p2
          simp only [Bool.and_eq_true, decide_eq_true_eq] at h4
          obtain ⟨⟨⟨rfl, k2⟩, k3⟩, k4⟩ := h4
          cases es with
          | nil => cases k4
          | cons c cr =>
            obtain ⟨e0, r0, ez, kc, kr⟩ := chkL_cons k4
            injection ez with ez1 ez2
            subst ez1 ez2
            have cz : cr = [] := by
              cases cr with
              | nil => rfl
              | cons _ _ => cases kr
            subst cz
            exact both (st_isi (gl_of h2) (fr_of G h3) (gl_of k2) (fr_of G k3) (boot_ty t) (ty_nm t).1 (ty_nm t).2 (snd c G _ kc).1 (star_of (chk_ns kc) _ X.env)) rfl
        · cases h4
      · have hn : ∀ t, g ≠ .isi t := fun t z => hi ⟨t, z⟩
        have h5 : (!args.isEmpty && chkL T hot X.N X.env.scope es args) = true := by
          cases g <;> first | exact absurd rfl (hn _) | exact h4
        simp only [Bool.and_eq_true] at h5
        match args, h5 with
        | a :: rest, h5 =>
          obtain ⟨c, cr, e1, hc, hr⟩ := chkL_to h5.2
          exact both (st_bi (cr_bi hc' G.un G.gd hn) (gl_of h2) (fr_of G h3) (boot_bi g) (sndL es G (a :: rest) h5.2) (bi_nm g).1 (bi_nm g).2 (star_of (chk_ns hc) rest X.env) (any_ns hr)) rfl
  | .mt m o es, hot, cur, W, k, X, G, e, h => by
    cases e <;> try (cases h; done)
    rename_i fn args kws p
    cases fn <;> try (cases h; done)
    rename_i x n p1
    match kws, h with
    | [], h =>
      have h' : (!hot && decide (n = m.nm) && baseB x && (p1.endLine == p.line) && decide (args.length < 29) && !args.isEmpty && chkE T hot X.N X.env.scope o x && chkL T hot X.N X.env.scope es args) = true := h
      simp only [Bool.and_eq_true, decide_eq_true_eq, Bool.not_eq_true'] at h'
      obtain ⟨⟨⟨⟨⟨⟨⟨rfl, rfl⟩, h1⟩, h2⟩, h3⟩, h4⟩, h5⟩, h6⟩ := h'
      match args, h3, h4, h6 with
      | a :: rest, h3, _, h6 =>
        obtain ⟨c, cr, e1, hc, hr⟩ := chkL_to h6
        have hst := star_of (chk_ns hc) rest X.env
        exact both (st_mt (snd o G x h5).1 (sndL es G (a :: rest) h6) h1 h2 h3 (all_ns h6) hst (any_ns hr)) rfl
  | .idx a b, hot, cur, W, k, X, G, e, h => by
    cases e <;> try (cases h; done)
    rename_i l r p
    have h' : (notSl r && chkE T hot X.N X.env.scope a l && chkE T hot X.N X.env.scope b r) = true := h
    simp only [Bool.and_eq_true] at h'
    exact both (st_idx (snd a G l h'.1.2).1 (snd b G r h'.2).1 (plain_ix h'.1.1)) rfl
  | .slc a lo hi, hot, cur, W, k, X, G, e, h => by
    cases e <;> try (cases h; done)
    rename_i l r p
    cases r <;> try (cases h; done)
    rename_i el eh est p2
    cases est <;> try (cases h; done)
    have h' : (chkE T hot X.N X.env.scope a l && chkO T hot X.N X.env.scope lo el && chkO T hot X.N X.env.scope hi eh) = true := h
    simp only [Bool.and_eq_true] at h'
    exact both (st_slc (snd a G l h'.1.1).1 (sndO lo G el h'.1.2) (sndO hi G eh h'.2)) rfl
  | .lc tg kk src ifs elt own, hot, cur, W, k, X, G, e, h => by
    cases e <;> try (cases h; done)
    rename_i el gens scope p
    match gens, h with
    | [⟨t, it, fs, 0⟩], h =>
      have h' := chk_lc.symm.trans h
      simp only [Bool.and_eq_true, decide_eq_true_eq, Bool.not_eq_true'] at h'
      obtain ⟨⟨⟨⟨⟨⟨⟨⟨rfl, h1⟩, h2⟩, h3⟩, h4⟩, h5⟩, h6⟩, h7⟩, h8⟩ := h'
      obtain ⟨hi, hs⟩ := sndI G h8 (fun es hes => sndL src G es hes) (fun c e hc he => snd1 src G c e hc he)
      refine both (st_lc (G.xg0 rfl) (G.calm rfl) G.nd G.fu hi (blkOk_by h1) h2 (fun i hi => ?_) (fun s H c cl fp => ?_) (fun s H c cl fp => ?_) (fun s H c cl fp => ?_) (hs X.env)) rfl
      · have q := List.all_eq_true.mp h3 i hi
        simpa using q
      · exact pg_tg (cel := false) (X := X.blk s H scope (compEnvC scope cl c X.env) fp) (fun z => by cases z) (G.calm rfl) G.nd h4
      · match fs, h5, h6 with
        | [], _, h6 => exact sndIf0 ifs h6
        | [f], _, h6 => exact sndIf1 ifs (G.blk s H scope (compEnvC scope cl c X.env) fp) f h6
        | _ :: _ :: _, h5, _ => simp at h5
      · exact (snd elt (G.blk s H scope (compEnvC scope cl c X.env) fp) el h7).1
  | .excf i f, hot, cur, W, k, X, G, e, h => by
    cases e <;> try (cases h; done)
    rename_i o g p
    cases o <;> try (cases h; done)
    rename_i x p1
    have h' : (decide (g = f) && decide (X.N[i]? = some x) && visB X.env.scope x && okN x) = true := h
    simp only [Bool.and_eq_true, decide_eq_true_eq] at h'
    obtain ⟨⟨⟨rfl, h1⟩, h2⟩, h3⟩ := h'
    exact both (G.xf i g x p1 p h1 (vis_of h2) h3) rfl
  | .exci i y, hot, cur, W, k, X, G, e, h => by
    cases e <;> try (cases h; done)
    rename_i fn args kws p
    cases fn <;> try (cases h; done)
    rename_i g p0
    match args, kws, h with
    | [.Name x p1, .Name z p2], [], h =>
      have h' : (decide (g = ("isinstance" : Str)) && decide (z = y) && decide (X.N[i]? = some x) && visB X.env.scope x && okN x && glB X.env.scope g && glB X.env.scope z && T.fr.contains g && T.fr.contains z) = true := h
      simp only [Bool.and_eq_true, decide_eq_true_eq] at h'
      obtain ⟨⟨⟨⟨⟨⟨⟨⟨rfl, rfl⟩, h1⟩, h2⟩, h3⟩, h4⟩, h5⟩, h6⟩, h7⟩ := h'
      exact both (G.xi i z x p0 p1 p2 p h1 (vis_of h2) h3 (gl_of h4) (gl_of h5) (fr_of G h6) (fr_of G h7)) rfl
theorem sndL {T : Tb} {P : Ev} {C : Cn} : ∀ (cs : List CE) {hot : Bool} {cur : Cur} {W : WX} {k : Nat} {X : Cx}, Gd T P C hot cur W k X → ∀ es, chkL T hot X.N X.env.scope cs es = true → PA X es (tL X.K C P cur W cs)
  | [], hot, cur, W, k, X, G, es, h => by
    have e := chkL_nil h
    subst e
    exact st_nil
  | c :: cs, hot, cur, W, k, X, G, es, h => by
    obtain ⟨e, r, rfl, h1, h2⟩ := chkL_cons h
    exact st_cons (snd c G e h1).1 (sndL cs G r h2) (star_of (chk_ns h1) r X.env)
theorem sndK {T : Tb} {P : Ev} {C : Cn} : ∀ (cs : List CE) {hot : Bool} {cur : Cur} {W : WX} {k : Nat} {X : Cx}, Gd T P C hot cur W k X → ∀ kws : List Keyword, chkL T hot X.N X.env.scope cs (kws.map (·.value)) = true → PK X kws (tL X.K C P cur W cs)
  | [], hot, cur, W, k, X, G, kws, h => by
    have e := chkL_nil h
    cases kws with
    | cons _ _ => cases e
    | nil => exact ⟨fun pos pins s σ H Q I ⟨bb, s0, rr, en, u, R, E, ev, post⟩ => pk_nil.run pos pins s σ H Q I (by
        simp only [evL, ret] at ev
        cases ev
        exact post.self R rfl)⟩
  | c :: cs, hot, cur, W, k, X, G, kws, h => by
    cases kws with
    | nil => cases h
    | cons kw kws =>
      obtain ⟨nm, v, kp⟩ := kw
      obtain ⟨e, r, ez, h1, h2⟩ := chkL_cons h
      cases ez
      refine ⟨fun pos pins s σ H Q I ⟨bb, s0, rr, en, u, R, E, ev, post⟩ => (pk_cons (snd c G v h1).1 (sndK cs G kws h2)).run pos pins s σ H Q I ?_⟩
      simp only [evL] at ev
      refine tN.seq R E ev post fun x s1 r1 H1 v1 fx1 ev1 R1 E1 q1 post1 => ?_
      refine tN.seq (ev := fun e s => evL P cur cs e s) (RP := RDL X.K) R1 E1 ev1 post1 fun xs s2 r2 H2 vs fx2 ev2 R2 E2 q2 post2 => ?_
      cases ev2
      exact post2.self R2 ⟨v1, vs, rfl, Rep.mono fx2.pre fx2.ext _ _ q1, q2⟩
theorem snd1 {T : Tb} {P : Ev} {C : Cn} : ∀ (cs : List CE) {hot : Bool} {cur : Cur} {W : WX} {k : Nat} {X : Cx}, Gd T P C hot cur W k X → ∀ c e, cs = [c] → chkE T hot X.N X.env.scope c e = true → PE X e (tE X.K C P cur W c)
  | [], hot, cur, W, k, X, G, c, e, z, h => by cases z
  | c0 :: cs, hot, cur, W, k, X, G, c, e, z, h => by
    cases z
    exact (snd c0 G e h).1
theorem sndO {T : Tb} {P : Ev} {C : Cn} : ∀ (c : Option CE) {hot : Bool} {cur : Cur} {W : WX} {k : Nat} {X : Cx}, Gd T P C hot cur W k X → ∀ e, chkO T hot X.N X.env.scope c e = true → PO X e (tOp' X.K C P cur W c)
  | none, hot, cur, W, k, X, G, e, h => by
    cases e with
    | none => exact st_none
    | some e => cases h
  | some c, hot, cur, W, k, X, G, e, h => by
    cases e with
    | none => cases h
    | some e => exact st_some (snd c G e h).1
theorem sndAnd {T : Tb} {P : Ev} {C : Cn} : ∀ (cs : List CE) {hot : Bool} {cur : Cur} {W : WX} {k : Nat} {X : Cx}, Gd T P C hot cur W k X → ∀ vs p, chkL T hot X.N X.env.scope cs vs = true → PE X (.BoolOp .And vs p) (tE X.K C P cur W (.ands cs)) ∧ PT X (.BoolOp .And vs p) (tT X.K C P cur W (.ands cs))
  | [], hot, cur, W, k, X, G, vs, p, h => ⟨⟨fun _ _ _ _ _ _ ⟨_, _, _, _, _, _, _, ev, _⟩ => by cases ev⟩, ⟨fun _ _ _ _ _ _ ⟨_, _, _, _, _, _, _, ev, _⟩ => by cases ev⟩⟩
  | [c], hot, cur, W, k, X, G, vs, p, h => by
    obtain ⟨e, r, rfl, h1, h2⟩ := chkL_cons h
    have e2 := chkL_nil h2
    subst e2
    exact ⟨an_one (snd c G e h1).1, (anT_one (snd c G e h1).2).pt⟩
  | c :: c2 :: cs, hot, cur, W, k, X, G, vs, p, h => by
    obtain ⟨e, r, rfl, h1, h2⟩ := chkL_cons h
    obtain ⟨e2, r2, rfl, _, _⟩ := chkL_cons h2
    have ih := sndAnd (c2 :: cs) G (e2 :: r2) p h2
    exact ⟨an_cons (snd c G e h1).1 ih.1, (anT_cons (snd c G e h1).2 (sndAndW (c2 :: cs) G e2 r2 p h2)).pt⟩
theorem sndAndW {T : Tb} {P : Ev} {C : Cn} : ∀ (cs : List CE) {hot : Bool} {cur : Cur} {W : WX} {k : Nat} {X : Cx}, Gd T P C hot cur W k X → ∀ v vs p, chkL T hot X.N X.env.scope cs (v :: vs) = true → PW X (.BoolOp .And (v :: vs) p) (tAnT X.K C P cur W cs)
  | [], hot, cur, W, k, X, G, v, vs, p, h => by cases h
  | [c], hot, cur, W, k, X, G, v, vs, p, h => by
    obtain ⟨e, r, e1, h1, h2⟩ := chkL_cons h
    cases e1
    have e2 := chkL_nil h2
    subst e2
    exact anT_one (snd c G v h1).2
  | c :: c2 :: cs, hot, cur, W, k, X, G, v, vs, p, h => by
    obtain ⟨e, r, e1, h1, h2⟩ := chkL_cons h
    cases e1
    obtain ⟨e2, r2, rfl, _, _⟩ := chkL_cons h2
    exact anT_cons (snd c G v h1).2 (sndAndW (c2 :: cs) G e2 r2 p h2)
theorem sndOr {T : Tb} {P : Ev} {C : Cn} : ∀ (cs : List CE) {hot : Bool} {cur : Cur} {W : WX} {k : Nat} {X : Cx}, Gd T P C hot cur W k X → ∀ vs p, chkL T hot X.N X.env.scope cs vs = true → PE X (.BoolOp .Or vs p) (tE X.K C P cur W (.ors cs)) ∧ PT X (.BoolOp .Or vs p) (tT X.K C P cur W (.ors cs))
  | [], hot, cur, W, k, X, G, vs, p, h => ⟨⟨fun _ _ _ _ _ _ ⟨_, _, _, _, _, _, _, ev, _⟩ => by cases ev⟩, ⟨fun _ _ _ _ _ _ ⟨_, _, _, _, _, _, _, ev, _⟩ => by cases ev⟩⟩
  | [c], hot, cur, W, k, X, G, vs, p, h => by
    obtain ⟨e, r, rfl, h1, h2⟩ := chkL_cons h
    have e2 := chkL_nil h2
    subst e2
    exact ⟨on_one (snd c G e h1).1, (onT_one (snd c G e h1).2).pt⟩
  | c :: c2 :: cs, hot, cur, W, k, X, G, vs, p, h => by
    obtain ⟨e, r, rfl, h1, h2⟩ := chkL_cons h
    obtain ⟨e2, r2, rfl, _, _⟩ := chkL_cons h2
    have ih := sndOr (c2 :: cs) G (e2 :: r2) p h2
    exact ⟨on_cons (snd c G e h1).1 ih.1, (onT_cons (snd c G e h1).2 (sndOrW (c2 :: cs) G e2 r2 p h2)).pt⟩
theorem sndOrW {T : Tb} {P : Ev} {C : Cn} : ∀ (cs : List CE) {hot : Bool} {cur : Cur} {W : WX} {k : Nat} {X : Cx}, Gd T P C hot cur W k X → ∀ v vs p, chkL T hot X.N X.env.scope cs (v :: vs) = true → PW X (.BoolOp .Or (v :: vs) p) (tOnT X.K C P cur W cs)
  | [], hot, cur, W, k, X, G, v, vs, p, h => by cases h
  | [c], hot, cur, W, k, X, G, v, vs, p, h => by
    obtain ⟨e, r, e1, h1, h2⟩ := chkL_cons h
    cases e1
    have e2 := chkL_nil h2
    subst e2
    exact onT_one (snd c G v h1).2
  | c :: c2 :: cs, hot, cur, W, k, X, G, v, vs, p, h => by
    obtain ⟨e, r, e1, h1, h2⟩ := chkL_cons h
    cases e1
    obtain ⟨e2, r2, rfl, _, _⟩ := chkL_cons h2
    exact onT_cons (snd c G v h1).2 (sndOrW (c2 :: cs) G e2 r2 p h2)
theorem sndIf0 {T : Tb} {P : Ev} {C : Cn} {hot : Bool} {N : List Str} {sc : Scope} {X : Cx} : ∀ (cs : List CE), chkL T hot N sc cs [] = true → PTs X [] (tIf X.K C P cs)
  | [], h => ⟨fun pins s σ H Q I ⟨bb, hs, rr, en, u, R, E, ev, post⟩ => pts_nil.run pins s σ H Q I (by
      cases ev
      exact post.self R rfl)⟩
  | c :: cs, h => by cases h
theorem sndIf1 {T : Tb} {P : Ev} {C : Cn} : ∀ (cs : List CE) {k : Nat} {X : Cx}, Gd T P C false none W0 k X → ∀ f, chkL T false X.N X.env.scope cs [f] = true → PTs X [f] (tIf X.K C P cs)
  | [], k, X, G, f, h => by cases h
  | [c], k, X, G, f, h => by
    obtain ⟨e, r, e1, h1, h2⟩ := chkL_cons h
    cases e1
    exact ⟨fun pins s σ H Q I q => (pts_one (snd c G f h1).2).run pins s σ H Q I q⟩
  | c :: c2 :: cs, k, X, G, f, h => by
    obtain ⟨e, r, e1, h1, h2⟩ := chkL_cons h
    cases e1
    cases h2
end
end PV
set_option Elab.async false
set_option linter.all false
set_option autoImplicit false
set_option maxRecDepth 100000
set_option maxHeartbeats 4000000
namespace PV
open PySem PySem.Spec PyProof.Rows L2
def PostS {b : List MO} (K : PySem.W.Frag) (C : Cn) (W : WX) (r : RA) (H : Hp) (o : SR b) (D : Ends) : Prop := match o with
  | .nx e s => ∀ r' H' σ', Fx r H r' H' → Rel K r' s.M H' → EnvR C K r' H' e σ' → D.nx σ' H'
  | .rt d s => ∀ r' H' v, Fx r H r' H' → Rel K r' s.M H' → Rep K r' H' d v → D.rt v H'
  | .ex c fs e s => ∀ r' H' dd σ', Fx r H r' H' → Rel K r' s.M H' → EnvR C K r' H' e σ' → XdR K r' H' fs dd → W (.ref (C.ad c)) dd σ' H'
def tX (K : PySem.W.Frag) (C : Cn) (W : WX) (ex : {b : List MO} → Env → HS b → Option (SR b)) : TS := fun D σ H =>
  ∃ (b : List MO) (s : HS b) (r : RA) (e : Env) (o : SR b), Rel K r s.M H ∧ EnvR C K r H e σ ∧ ex e s = some o ∧ PostS K C W r H o D
def tSt (K : PySem.W.Frag) (C : Cn) (P : Ev) (cur : Cur) (W : WX) (c : CS) : TS := tX K C W fun e s => exS P cur c e s
def tBk (K : PySem.W.Frag) (C : Cn) (P : Ev) (cur : Cur) (W : WX) (cs : List CS) : TS := tX K C W fun e s => exB P cur cs e s
theorem PS.imp {X : Cx} {st : Stmt} {t t' : TS} (h : PS X st t) (i : ∀ D σ H, t' D σ H → t D σ H) : PS X st t' := ⟨fun pins s σ H D I q => h.run pins s σ H D I (i D σ H q)⟩
theorem PSs.imp {X : Cx} {st : List Stmt} {t t' : TS} (h : PSs X st t) (i : ∀ D σ H, t' D σ H → t D σ H) : PSs X st t' := ⟨fun pins s σ H D I q => h.run pins s σ H D I (i D σ H q)⟩
section
variable {b : List MO} {K : PySem.W.Frag} {C : Cn} {W : WX} {σ : Sl} {r r' : RA} {H H' : Hp} {D : Ends}
theorem PostS.mono {o : SR b} (h : PostS K C W r H o D) (fx : Fx r H r' H') : PostS K C W r' H' o D := by
  cases o with
  | nx e s => exact fun r2 H2 v x => h r2 H2 v (fx.trans x)
  | rt d s => exact fun r2 H2 v x => h r2 H2 v (fx.trans x)
  | ex c fs e s => exact fun r2 H2 v w x => h r2 H2 v w (fx.trans x)
theorem lft_seq {α β : Type} {RP : RA → Hp → α → β → Prop} {s : HS b} {e : Env} {ev : {b : List MO} → Env → HS b → R b α} {F : α → HS b → Option (SR b)} {o : SR b} {Q : β → Hp → Prop} (R : Rel K r s.M H) (E : EnvR C K r H e σ) (h : lft e (ev e s) F = some o) (post : PostS K C W r H o D)
    (next : ∀ a s1 r' H' v, Fx r H r' H' → F a s1 = some o → Rel K r' s1.M H' → EnvR C K r' H' e σ → RP r' H' a v → PostS K C W r' H' o D → Q v H') : tN RP K C W ev σ H Q := by
  cases q : ev e s with
  | none => rw [q] at h; cases h
  | some o1 =>
    rw [q] at h
    refine ⟨b, s, r, e, o1, R, E, q, ?_⟩
    cases o1 with
    | ok a s1 => exact fun r' H' v x R1 rp => next a s1 r' H' v x h R1 (E.mono x.pre x.ext) rp (post.mono x)
    | ex c fs s1 =>
      cases h
      exact fun r' H' dd x R1 xd => post r' H' dd σ x R1 (E.mono x.pre x.ext) xd
theorem sq_seq {s : HS b} {e : Env} {ex : {b : List MO} → Env → HS b → Option (SR b)} {F : Env → HS b → Option (SR b)} {o : SR b} {u : TS} (R : Rel K r s.M H) (E : EnvR C K r H e σ) (h : sq (ex e s) F = some o) (post : PostS K C W r H o D)
    (next : ∀ e1 s1 r' H' σ', Fx r H r' H' → F e1 s1 = some o → Rel K r' s1.M H' → EnvR C K r' H' e1 σ' → PostS K C W r' H' o D → u D σ' H') : tX K C W ex { D with nx := u D } σ H := by
  cases q : ex e s with
  | none => rw [q] at h; cases h
  | some o1 =>
    rw [q] at h
    refine ⟨b, s, r, e, o1, R, E, q, ?_⟩
    cases o1 with
    | nx e1 s1 => exact fun r' H' σ' x R1 E1 => next e1 s1 r' H' σ' x h R1 E1 (post.mono x)
    | rt d s1 =>
      cases h
      exact post
    | ex c fs e1 s1 =>
      cases h
      exact post
end
section
variable {P : Ev} {C : Cn} {cur : Cur} {W : WX} {X : Cx} {a b c : CE} {as bs : List CS} {x y : CS} {e : Expr} {st : Stmt} {sts stt : List Stmt} {pos : Pos}
theorem b_nil : PSs X [] (tBk X.K C P cur W []) := PSs.imp pss_nil fun D σ H ⟨bb, s, rr, en, u, R, E, ev, post⟩ => by
  simp only [exB] at ev
  cases ev
  exact post rr H σ (Fx.refl _ _) R E
theorem b_cons (h1 : PS X st (tSt X.K C P cur W x)) (h2 : PSs X sts (tBk X.K C P cur W as)) : PSs X (st :: sts) (tBk X.K C P cur W (x :: as)) :=
  PSs.imp (pss_cons h1 h2) fun D σ H ⟨bb, s, rr, en, u, R, E, ev, post⟩ => by
    simp only [exB] at ev
    exact sq_seq (ex := fun e s => exS P cur x e s) R E ev post fun e1 s1 r1 H1 σ1 fx ev1 R1 E1 post1 => ⟨bb, s1, r1, e1, u, R1, E1, ev1, post1⟩
theorem s_exp (h : PE X e (tE X.K C P cur W a)) (hs : swapsWith e none pos.line X.env = pure false) : PS X (.Expr e pos) (tSt X.K C P cur W (.exp a)) :=
  PS.imp (ps_expr h hs) fun D σ H ⟨bb, s, rr, en, u, R, E, ev, post⟩ => by
    simp only [exS] at ev
    refine lft_seq (ev := fun e s => evE P cur a e s) (RP := RD X.K) R E ev post fun d s1 r1 H1 v fx ev1 R1 E1 q1 post1 => ?_
    cases ev1
    exact post1 r1 H1 σ (Fx.refl _ _) R1 E1
theorem s_ret (h : PE X e (tE X.K C P cur W a)) : PS X (.Return (some e) pos) (tSt X.K C P cur W (.ret a)) :=
  PS.imp (ps_ret h) fun D σ H ⟨bb, s, rr, en, u, R, E, ev, post⟩ => by
    simp only [exS] at ev
    refine lft_seq (ev := fun e s => evE P cur a e s) (RP := RD X.K) R E ev post fun d s1 r1 H1 v fx ev1 R1 E1 q1 post1 => ?_
    cases ev1
    exact post1 r1 H1 v (Fx.refl _ _) R1 q1
theorem set_read {K : PySem.W.Frag} {t : Tg} {D : Ends} {σ : Sl} {H : Hp} (h : tSt K C P cur W (.set t a) D σ H) : tE K C P cur W a σ H fun v H1 => gTgM K t v σ H1 D.nx := by
  obtain ⟨bb, s, rr, en, u, R, E, ev, post⟩ := h
  simp only [exS] at ev
  refine lft_seq (ev := fun e s => evE P cur a e s) (RP := RD K) R E ev post fun d s1 r1 H1 v fx ev1 R1 E1 q1 post1 => ?_
  split at ev1
  · rename_i e1 hb
    cases ev1
    exact bindM_ok hb R1 q1 E1 fun vs E2 => post1 r1 H1 _ (Fx.refl _ _) R1 E2
  · cases ev1
theorem s_set {i : Nat} {n : Str} {py : Pos} (hN : X.N.Nodup) (hi : X.N[i]? = some n) (hx : Loc X.env.scope n) (h : PE X e (tE X.K C P cur W a)) (hs : swapsWith e (some (.Name n py)) pos.line X.env = pure false) (hf : X.fn n = true ∨ X.env.scope.names.lookup n = some .local) :
    PS X (.Assign [.Name n py] e pos) (tSt X.K C P cur W (.set (.nm i) a)) :=
  PS.imp (ps_set hN hi hx h hs hf) fun D σ H q => set_read q
theorem s_tup {t : Tg} {tg : Expr} (h : PE X e (tE X.K C P cur W a)) (hg : PG X tg (gTgM X.K t)) (hs : swapsWithSole [tg] e pos.line X.env = pure false) (hw : swappedStores [tg] e X.env = pure none) (h1 : (assignEach [tg] X.env).map (·.2) = [assign tg X.env]) :
    PS X (.Assign [tg] e pos) (tSt X.K C P cur W (.set t a)) :=
  PS.imp (ps_asg h hg hs hw h1) fun D σ H q => set_read q
theorem par_read {K : PySem.W.Frag} {is : List Nat} {es : List CE} {D : Ends} {σ : Sl} {H : Hp} (h : tSt K C P cur W (.par is es) D σ H) : tL K C P cur W es σ H fun vs H1 => vs.length = is.length ∧ D.nx (setV is vs σ) H1 := by
  obtain ⟨bb, s, rr, en, u, R, E, ev, post⟩ := h
  simp only [exS] at ev
  refine lft_seq (ev := fun e s => evL P cur es e s) (RP := RDL K) R E ev post fun ds s1 r1 H1 vs fx ev1 R1 E1 q1 post1 => ?_
  split at ev1
  · rename_i e1 hb
    cases ev1
    obtain ⟨E2, hl⟩ := setAll_ok hb q1 E1
    exact ⟨hl, post1 r1 H1 _ (Fx.refl _ _) R1 E2⟩
  · cases ev1
theorem s_par2 {i j : Nat} {es : List CE} {n m : Str} {v1 v2 : Expr} {px py pt pt2 : Pos} {kt k2 : Nat} (hc : X.calm = true) (hN : X.N.Nodup) (hi : X.N[i]? = some n) (hj : X.N[j]? = some m) (hij : i ≠ j) (hx : X.env.scope.names.lookup n = some .local) (hy : X.env.scope.names.lookup m = some .local)
    (ha : PA X [v1, v2] (tL X.K C P cur W es)) (hw : swappedStores [.Tuple [.Name n px, .Name m py] kt pt] (.Tuple [v1, v2] k2 pt2) X.env = pure (some [n, m])) (hs : swapsWithSole [.Tuple [.Name n px, .Name m py] kt pt] (.Tuple [v1, v2] k2 pt2) pos.line X.env = pure false) :
    PS X (.Assign [.Tuple [.Name n px, .Name m py] kt pt] (.Tuple [v1, v2] k2 pt2) pos) (tSt X.K C P cur W (.par [i, j] es)) :=
  PS.imp (ps_par hc hN hi hj hij hx hy ha hw hs) fun D σ H q => by
    obtain ⟨bb, s, rr, en, u, R, E, ev, post⟩ := par_read q
    refine ⟨bb, s, rr, en, u, R, E, ev, ?_⟩
    cases u with
    | ex c fs s1 => exact post
    | ok ds s1 =>
      intro r1 H1 vs fx R1 q1
      obtain ⟨hl, k⟩ := post r1 H1 vs fx R1 q1
      match vs, hl with
      | [v, w], _ => exact ⟨v, w, rfl, k⟩
theorem s_parT {is : List Nat} {es : List CE} {ts vs : List Expr} {pt pt2 : Pos} {kt k2 : Nat} (ha : PA X vs (tL X.K C P cur W es)) (hg : PG X (.Tuple ts kt pt) (gTg X.K (.tp is))) (hw : swappedStores [.Tuple ts kt pt] (.Tuple vs k2 pt2) X.env = pure none) (hz : is.length ≤ sizeLine) :
    PS X (.Assign [.Tuple ts kt pt] (.Tuple vs k2 pt2) pos) (tSt X.K C P cur W (.par is es)) :=
  PS.imp (ps_asg (pe_tup ha) hg rfl hw rfl) fun D σ H q => by
    obtain ⟨bb, s, rr, en, u, R, E, ev, post⟩ := q
    simp only [exS] at ev
    refine lft_seq (ev := fun e s => evL P cur es e s) (RP := RDL X.K) R E ev post fun ds s1 r1 H1 xs fx ev1 R1 E1 q1 post1 => ?_
    split at ev1
    · rename_i e1 hb
      cases ev1
      obtain ⟨E2, hl⟩ := setAll_ok hb q1 E1
      refine ⟨by omega, fun p hp => ⟨p, xs, rfl, .inl (.inl upd_same), hl, ?_⟩⟩
      exact post1 r1 _ _ (Fx.new hp) (R1.new hp) (E2.mono List.prefix_rfl (Ext.new hp))
    · cases ev1
theorem s_setLc {i : Nat} {y : Str} {py spos : Pos} {tg : Tg} {k : ITk} {src ifs : List CE} {elt : CE} {own : List Nat} {ownp : List (Str × Nat)} {et it el : Expr} {eifs : List Expr} {scope : Scope} (xg : C.xg = none) (hc : X.calm = true) (hN : X.N.Nodup) (fu : P.fu ≤ sizeLine) (hy : X.N[i]? = some y) (hyl : X.env.scope.names.lookup y = some .local)
    (hsw : swapsWith (.ListComp el [⟨et, it, eifs, 0⟩] scope pos) (some (.Name y py)) spos.line X.env = pure true) (hi : PI X et it (tI X.K C P cur W k src)) (ok : BlkOk X.N X.env.scope scope ownp) (ho : ownp.map (·.2) = own) (hsub : ∀ i ∈ tg.slots, i ∈ own)
    (hg : ∀ (s : Shared) (H : Hp) (c : Addr) (cl : List (Str × Addr)) (fp : List Addr), PG (X.blk s H scope (compEnvC scope cl c X.env) fp) et (gTg X.K tg))
    (ht : ∀ (s : Shared) (H : Hp) (c : Addr) (cl : List (Str × Addr)) (fp : List Addr), PTs (X.blk s H scope (compEnvC scope cl c X.env) fp) eifs (tIf X.K C P ifs))
    (he : ∀ (s : Shared) (H : Hp) (c : Addr) (cl : List (Str × Addr)) (fp : List Addr), PE (X.blk s H scope (compEnvC scope cl c X.env) fp) el (tE X.K C P none W0 elt)) (hs : ∀ x, foldedSetIterable it X.env x = pure x) :
    PS X (.Assign [.Name y py] (.ListComp el [⟨et, it, eifs, 0⟩] scope pos) spos) (tSt X.K C P cur W (.set (.nm i) (.lc tg k src ifs elt own))) :=
  PS.imp (ps_setLc hc hN hy hyl hsw hi ok hg ht he hs) fun D σ H q => by
    rw [ho]
    exact lc_read xg fu hsub (set_read q)
def ipB (o : B2) (X : Cx) : Prop := PIp X o.op (fun x y H Q => ∃ (bb : List MO) (s s1 : HS bb) (i j : Int) (d : D), x = .int i ∧ y = .int j ∧ bin o (.int i) (.int j) s = some (.ok d s1) ∧ ∀ v, (∀ (K : PySem.W.Frag) r H, Rep K r H d v) → Q v H)
theorem ip_add' : ipB .add X := fun pins s σ H x y v u Q I r1 r2 ⟨bb, s0, s1, i, j, d, e1, e2, e3, q⟩ => ip_add pins s σ H x y v u Q I r1 r2 ⟨i, j, e1, e2, by
  cases e3
  exact q _ fun _ _ _ => rfl⟩
theorem ip_sub' : ipB .sub X := fun pins s σ H x y v u Q I r1 r2 ⟨bb, s0, s1, i, j, d, e1, e2, e3, q⟩ => ip_sub pins s σ H x y v u Q I r1 r2 ⟨i, j, e1, e2, by
  cases e3
  exact q _ fun _ _ _ => rfl⟩
theorem s_aug {i : Nat} {n : Str} {o : B2} {py : Pos} (hN : X.N.Nodup) (hi : X.N[i]? = some n) (hx : Loc X.env.scope n) (h : PE X e (tE X.K C P cur W a)) (ho : ipB o X) (hf : X.fn n = true ∨ X.env.scope.names.lookup n = some .local) :
    PS X (.AugAssign (.Name n py) o.op e pos) (tSt X.K C P cur W (.aug i o a)) :=
  PS.imp (ps_aug hN hi hx h ho hf) fun D σ H ⟨bb, s, rr, en, u, R, E, ev, post⟩ => by
    simp only [exS] at ev
    split at ev
    · rename_i x hx0
      obtain ⟨v, e1, e2⟩ := E.2.1 i x hx0
      refine ⟨v, e1, ?_⟩
      refine lft_seq (ev := fun e s => evE P cur a e s) (RP := RD X.K) R E ev post fun y s1 r1 H1 w fx ev1 R1 E1 q1 post1 => ?_
      split at ev1
      · rename_i i1 j1
        cases hb : bin o (.int i1) (.int j1) s1 with
        | none => rw [hb] at ev1; cases ev1
        | some o1 =>
          obtain ⟨d, s2, rfl⟩ : ∃ d s2, o1 = .ok d s2 := by
            cases o1 with
            | ok d s2 => exact ⟨d, s2, rfl⟩
            | ex c fs s2 => exact (bin_noex hb).elim
          rw [hb] at ev1
          cases ev1
          have es : s2 = s1 := by
            have := hb
            cases o <;> simp only [bin] at this <;> first
              | (split at this <;> first | (cases this; rfl) | cases this)
              | (cases this; rfl)
          subst es
          refine ⟨bb, s2, s2, i1, j1, d, e2, q1, hb, fun v2 hv => ?_⟩
          exact post1 r1 H1 _ (Fx.refl _ _) R1 (E1.set i (hv _ _ _))
      · cases ev1
    · cases ev
theorem s_sub {eo ei : Expr} {tp : Pos} (ho : PE X eo (tE X.K C P cur W a)) (hi : PE X ei (tE X.K C P cur W b)) (he : PE X e (tE X.K C P cur W c)) (hs : swapsWithSole [.Subscript eo ei tp] e pos.line X.env = pure false) (hn : notSl ei = true) :
    PS X (.Assign [.Subscript eo ei tp] e pos) (tSt X.K C P cur W (.sub a b c)) := by
  have hg : PG X (.Subscript eo ei tp) (gSub (tE X.K C P cur W a) (tE X.K C P cur W b) rSetL) := pg_sub ho hi set_list fun v => by
    cases ei with
    | Slice x y z p =>
      cases z with
      | none => cases hn
      | some z => rfl
    | _ => rfl
  refine PS.imp (ps_asg he hg hs rfl rfl) fun D σ H ⟨bb, s, rr, en, u, R, E, ev, post⟩ => ?_
  simp only [exS] at ev
  refine lft_seq (ev := fun e s => evE P cur c e s) (RP := RD X.K) R E ev post fun v s1 r1 H1 vv fx1 ev1 R1 E1 q1 post1 => ?_
  refine lft_seq (ev := fun e s => evE P cur a e s) (RP := RD X.K) R1 E1 ev1 post1 fun x s2 r2 H2 vx fx2 ev2 R2 E2 q2 post2 => ?_
  refine lft_seq (ev := fun e s => evE P cur b e s) (RP := RD X.K) R2 E2 ev2 post2 fun y s3 r3 H3 vy fx3 ev3 R3 E3 q3 post3 => ?_
  split at ev3
  · rename_i s4 hset
    cases ev3
    have fx13 := fx2.trans fx3
    have qv := Rep.mono fx13.pre fx13.ext _ _ q1
    have qx := Rep.mono fx3.pre fx3.ext _ _ q2
    simp only [PV.setItem] at hset
    split at hset
    · rename_i p k
      split at hset
      · rename_i xs hm
        split at hset
        · rename_i j hj
          cases hset
          obtain ⟨aa, w, ha, rfl⟩ := qx
          cases q3
          obtain ⟨hw, vs, hH, ht⟩ := R3.obj p _ aa w hm ha
          have hw' : w = true := hw
          subst hw'
          refine ⟨aa, vs, k, j, rfl, rfl, hH, by rw [RepL.length ht]; exact hj, ?_⟩
          have hx := Ext.upd (u := .lst (vs.set j vv)) hH rfl
          refine post3 r3 _ σ (Fx.upd hH rfl (List.mem_of_getElem? ha)) (R3.set rfl ha ⟨_, upd_same, ?_⟩) (E3.mono List.prefix_rfl hx)
          exact RepL.set j (RepL.mono List.prefix_rfl hx _ _ ht) (Rep.mono List.prefix_rfl hx _ _ qv)
        · cases hset
      · cases hset
    · cases hset
  · cases ev3
theorem s_ite (hc : PT X e (tT X.K C P cur W c)) (ha : PSs X sts (tBk X.K C P cur W as)) (hb : PSs X stt (tBk X.K C P cur W bs)) : PS X (.If e sts stt pos) (tSt X.K C P cur W (.ite c as bs)) :=
  PS.imp (ps_if hc ha hb) fun D σ H ⟨bb, s, rr, en, u, R, E, ev, post⟩ => by
    simp only [exS] at ev
    refine lft_seq (ev := fun e s => tst (evE P cur c e s)) (RP := RBl) R E ev post fun t s1 r1 H1 v fx1 ev1 R1 E1 q1 post1 => ?_
    subst q1
    cases v with
    | true => exact iteT ⟨bb, s1, r1, en, u, R1, E1, ev1, post1⟩
    | false => exact iteF ⟨bb, s1, r1, en, u, R1, E1, ev1, post1⟩
theorem s_pass : PS X (.Pass pos) (tSt X.K C P cur W .pass) := PS.imp ps_pass fun D σ H ⟨bb, s, rr, en, u, R, E, ev, post⟩ => by
  simp only [exS] at ev
  cases ev
  exact post rr H σ (Fx.refl _ _) R E
theorem s_while (hp : PassesOwn (model X.prog X.w) X.A X.env X.xe) (hc : PT X e (tT X.K C P cur W c)) (hb : PSs X sts (tBk X.K C P cur W as)) : PS X (.While e sts [] pos) (tSt X.K C P cur W (.while_ c as)) :=
  PS.imp (ps_while hp hc hb) fun D σ H ⟨bb, s, rr, en, u, R, E, ev, post⟩ => by
    simp only [exS] at ev
    refine ⟨fun m σ' H' => ∃ (s' : HS bb) (r' : RA) (e' : Env), Rel X.K r' s'.M H' ∧ EnvR C X.K r' H' e' σ' ∧ whL (fun e1 s1 => tst (evE P cur c e1 s1)) (fun e1 s1 => exB P cur as e1 s1) m e' s' = some u ∧ PostS X.K C W r' H' u D, ⟨P.fu, s, rr, en, R, E, ev, post⟩, ?_⟩
    rintro m σ1 H1 ⟨s1, r1, e1, R1, E1, ev1, post1⟩
    cases m with
    | zero => cases ev1
    | succ m =>
      simp only [whL] at ev1
      refine lft_seq (ev := fun e s => tst (evE P cur c e s)) (RP := RBl) R1 E1 ev1 post1 fun t s2 r2 H2 v fx2 ev2 R2 E2 q2 post2 => ?_
      subst q2
      cases v with
      | true =>
        refine iteT ⟨fun σ' H' => ∃ (s' : HS bb) (r' : RA) (e' : Env), Rel X.K r' s'.M H' ∧ EnvR C X.K r' H' e' σ' ∧ whL (fun e1 s1 => tst (evE P cur c e1 s1)) (fun e1 s1 => exB P cur as e1 s1) m e' s' = some u ∧ PostS X.K C W r' H' u D,
          fun σ' H' h => ⟨m, Nat.lt_succ_self _, h⟩, ?_⟩
        obtain ⟨b2, s3, r3, e3, u3, R3, E3, ev3, post3⟩ := sq_seq (ex := fun e s => exB P cur as e s) (D := D) (u := fun D σ' H' => ∃ (s' : HS bb) (r' : RA) (e' : Env), Rel X.K r' s'.M H' ∧ EnvR C X.K r' H' e' σ' ∧ whL (fun e1 s1 => tst (evE P cur c e1 s1)) (fun e1 s1 => exB P cur as e1 s1) m e' s' = some u ∧ PostS X.K C W r' H' u D) R2 E2 ev2 post2
          fun e3 s3 r3 H3 σ3 fx3 ev3 R3 E3 post3 => ⟨s3, r3, e3, R3, E3, ev3, post3⟩
        refine ⟨b2, s3, r3, e3, u3, R3, E3, ev3, ?_⟩
        cases u3 <;> exact post3
      | false =>
        refine iteF ?_
        cases ev2
        exact post2 r2 H2 σ1 (Fx.refl _ _) R2 E2
theorem s_for {t : Tg} {k : ITk} {src : List CE} {tg it : Expr} (hp : PassesOwn (model X.prog X.w) X.A X.env X.xe) (hc : X.calm = true) (hi : PI X tg it (tI X.K C P cur W k src)) (hg : PG X tg (gTg X.K t)) (hb : PSs X sts (tBk X.K C P cur W as)) (hs : ∀ x, foldedSetIterable it X.env x = pure x) :
    PS X (.For tg it sts [] pos) (tSt X.K C P cur W (.for_ t k src as)) :=
  PS.imp (ps_for hp hc hi hg hb hs) fun D σ H ⟨bb, s, rr, en, u, R, E, ev, post⟩ => by
    simp only [exS] at ev
    refine lft_seq (ev := fun e s => bnd (evL P cur src e s) fun xs s1 => srcR k xs s1) (RP := fun r H sr J => JOk X.K J sr r H) R E ev post fun sr s1 r1 H1 J fx1 ev1 R1 E1 jok post1 => ?_
    refine ⟨fun i m σ' H' => ∃ (s' : HS bb) (r' : RA) (e' : Env), Fx r1 H1 r' H' ∧ Rel X.K r' s'.M H' ∧ EnvR C X.K r' H' e' σ' ∧ forL sr.at (fun d e1 s2 => (match t.bind d e1 with
        | none => none
        | some e2 => exB P cur as e2 s2)) m i e' s' = some u ∧ PostS X.K C W r' H' u D, ⟨P.fu, s1, r1, en, Fx.refl _ _, R1, E1, ev1, post1⟩, ?_⟩
    rintro i m σ2 H2 ⟨s2, r2, e2, fx2, R2, E2, ev2, post2⟩
    cases m with
    | zero => cases ev2
    | succ m =>
      simp only [forL] at ev2
      split at ev2
      · cases ev2
      · rename_i hat
        cases ev2
        exact .inl ⟨(jok bb s2 r2 H2 i fx2 R2).1 hat, post2 r2 H2 σ2 (Fx.refl _ _) R2 E2⟩
      · rename_i d hat
        obtain ⟨go, yld⟩ := (jok bb s2 r2 H2 i fx2 R2).2 d hat
        refine .inr ⟨go, fun σ' H' => ∃ (s' : HS bb) (r' : RA) (e' : Env), Fx r1 H1 r' H' ∧ Rel X.K r' s'.M H' ∧ EnvR C X.K r' H' e' σ' ∧ forL sr.at (fun d e1 s2 => (match t.bind d e1 with
          | none => none
          | some e2 => exB P cur as e2 s2)) m (i + 1) e' s' = some u ∧ PostS X.K C W r' H' u D, fun σ' H' h => ⟨m, Nat.lt_succ_self _, h⟩, fun x H3 hy => ?_⟩
        obtain ⟨same, qx⟩ := yld x H3 hy
        have fx3 : Fx r2 H2 r2 H3 := Fx.same same
        have R3 : Rel X.K r2 s2.M H3 := R2.same same
        have E3 := E2.mono fx3.pre fx3.ext
        have post3 := post2.mono fx3
        cases hbd : t.bind d e2 with
        | none => simp only [hbd] at ev2; cases ev2
        | some e3 =>
          simp only [hbd] at ev2
          refine bind_ok hbd qx E3 fun vs E4 => ?_
          obtain ⟨b5, s5, r5, e5, u5, R5, E5, ev5, post5⟩ := sq_seq (ex := fun e s => exB P cur as e s) (D := D) (u := fun D σ' H' => ∃ (s' : HS bb) (r' : RA) (e' : Env), Fx r1 H1 r' H' ∧ Rel X.K r' s'.M H' ∧ EnvR C X.K r' H' e' σ' ∧ forL sr.at (fun d e1 s2 => (match t.bind d e1 with
            | none => none
            | some e2 => exB P cur as e2 s2)) m (i + 1) e' s' = some u ∧ PostS X.K C W r' H' u D) R3 E4 ev2 post3
            fun e6 s6 r6 H6 σ6 fx6 ev6 R6 E6 post6 => ⟨s6, r6, e6, (fx2.trans fx3).trans fx6, R6, E6, ev6, post6⟩
          refine ⟨b5, s5, r5, e5, u5, R5, E5, ev5, ?_⟩
          cases u5 <;> exact post5
end
end PV
set_option Elab.async false
set_option linter.all false
set_option autoImplicit false
set_option maxRecDepth 100000
set_option maxHeartbeats 4000000
namespace PV
open PySem PySem.Spec PyProof.Rows L2
def tMkF (C : Addr) (fl : List Str) (ta : TA) : L2.St → Hp → XK → Prop := fun σ H Q => ta σ H fun vs H1 => vs.length = fl.length ∧ ∀ d fv, H1 d = none → (∀ f, fv.lookup f = (fl.zip vs).lookup f) → Q (.ref C) (some d) (upd H1 d (.xd fv))
def MkC (X : Cx) (C : Addr) (x : Str) (fl : List Str) : Prop := Gl X x → ∀ (pn : List (Addr × Obj)) (xe : Value → Shared → Prop) (e : Expr) (es : List Expr) (ta : TA) (p pos : Pos), PA (X.tr pn xe) (e :: es) ta → starEach (e :: es) X.env = (false, eval e X.env) :: starEach es X.env →
  (backTo pos (starEach es X.env)).any (·.1) = false → PMk (X.tr pn xe) (.Call (.Name x p) (e :: es) [] pos) (tMkF C fl ta)
theorem zip_lookup {K : PySem.W.Frag} {r : RA} {H : Hp} {f : Str} {x : D} : ∀ {fl : List Str} {ds : List D} {vs : List V}, RepL K r H ds vs → (fl.zip ds).lookup f = some x → ∃ v, (fl.zip vs).lookup f = some v ∧ Rep K r H x v
  | [], ds, vs, _, h => by cases h
  | g :: fl, [], vs, _, h => by cases h
  | g :: fl, d :: ds, vs, t, h => by
    obtain ⟨v, vr, rfl, h1, h2⟩ := t
    simp only [List.zip_cons_cons, List.lookup_cons] at h ⊢
    split at h
    · cases h
      exact ⟨v, rfl, h1⟩
    · exact zip_lookup h2 h
section
variable {P : Ev} {C : Cn} {cur : Cur} {W : WX} {X : Cx} {as bs : List CS} {e : Expr} {sts stt : List Stmt} {pos : Pos}
theorem s_raise {cc : Nat} {es : List CE} (hc : X.calm = true) (tk : Takes X W) (he : PMk X e (tMkF (C.ad cc) (P.flds cc) (tL X.K C P cur W es))) : PS X (.Raise (some e) none pos) (tSt X.K C P cur W (.raise cc es)) :=
  PS.imp (L2.ps_raise hc tk he) fun D σ H ⟨bb, s, rr, en, u, R, E, ev, post⟩ => by
    simp only [exS] at ev
    refine lft_seq (ev := fun e s => evL P cur es e s) (RP := RDL X.K) R E ev post fun ds s1 r1 H1 vs fx1 ev1 R1 E1 q1 post1 => ?_
    split at ev1
    · rename_i hl
      cases ev1
      refine ⟨by rw [RepL.length q1]; exact of_decide_eq_true hl, fun d fv hd hf => ?_⟩
      refine post1 r1 _ (some d) σ (Fx.new hd) (R1.new hd) (E1.mono List.prefix_rfl (Ext.new hd)) ⟨d, fv, rfl, upd_same, fun f x hx => ?_⟩
      obtain ⟨v, e1, e2⟩ := zip_lookup q1 hx
      exact ⟨v, by rw [hf]; exact e1, Rep.mono List.prefix_rfl (Ext.new hd) _ _ e2⟩
    · cases ev1
structure XcC (K : PySem.W.Frag) (P : Ev) (c : Nat) (A : Addr) : Prop where
  xf : XfC K A
  no : ∀ f ∈ P.flds c, PySem.W.findIn K (.ref A) f = some none
  is : ∀ y : Str, P.isx c y = true → ∃ t : String, y = (t : Str) ∧ bootBuiltins y = some (.type t) ∧ typeOf (.type t) = pure (.type "type") ∧ PySem.W.subIn K (.ref A) (.type t) = some true ∧ y ≠ "__name__" ∧ (y == ("__debug__" : Str)) = false
theorem x_f {a : Addr} {oe : Obj} {pn : List (Addr × Obj)} {i c : Nat} {dd : Option Addr} {fs : List (Str × D)} (T : XcC X.K P c (C.ad c)) (hz : Zc (.ref (C.ad c)) dd oe) (hf : ∃ vs, oe.data = .fields vs) {j : Nat} {f n : Str} {p p' : Pos} (hj : X.N[j]? = some n) (hv : Vis X.env.scope n) (ho : okN n = true) :
    PE (X.suite a ((a, oe) :: pn)) (.Attribute (.Name n p) f p') (tE X.K ⟨C.ad, some (i, a, dd, fs)⟩ P (some (i, c, fs)) W (.excf j f)) := by
  refine ⟨fun pins s σ H Q I h => ?_⟩
  obtain ⟨bb, s0, rr, en, u, R, E, ev, post⟩ := h
  simp only [evE] at ev
  split at ev
  · rename_i hh
    obtain ⟨rfl, hfl⟩ := hh
    obtain ⟨o1, o2, o3⟩ := okN_of ho
    split at ev
    · rename_i hen
      split at ev
      · rename_i d hl
        cases ev
        obtain ⟨hs, dx, fv, e1, e2, e3⟩ := E.2.2 _ _ _ _ rfl
        obtain ⟨v, e4, e5⟩ := e3 f d hl
        refine (pe_xf (X := X) (C := C.ad c) (pn := pn) (pos := p') T.xf (T.no f hfl) hz hf (pe_var (X := X.suite a ((a, oe) :: pn)) (pos := p) hj hv o1 o2) rfl).run pins s σ H Q I ?_
        exact ⟨.ref a, hs hen, rfl, rfl, dx, fv, v, e1, e2, e4, post rr H v (Fx.refl _ _) R e5⟩
      · cases ev
    · cases ev
  · cases ev
theorem cr_isx {a A : Addr} {oe : Obj} {pn : List (Addr × Obj)} {t : String} (hz : oe.cls = .ref A) (hty : typeOf (.type t) = pure (.type "type")) (hs : PySem.W.subIn X.K (.ref A) (.type t) = some true) :
    CallR (X.suite a ((a, oe) :: pn)) (.builtin "isinstance") (fun xs H Q => xs = [.ref a, .ty t] ∧ Q (.bl true) H) := by
  intro pins s σ H xs us Q I rs h
  obtain ⟨rfl, q⟩ := h
  cases rs with
  | cons rx rr =>
    cases rr with
    | cons rt rr =>
      cases rr
      cases rx
      cases rt
      obtain ⟨hget, _⟩ := I.pin (a, oe) (List.mem_append.mpr (.inl List.mem_cons_self))
      have L0 : PySem.W.Looks (model X.prog X.w) s.heap (typeOf (.ref a)) (.ref A) := fun A' Q' E' s' k q' => wpAny_typeOf_ref (k _ _ hget) (by rw [hz]; exact q')
      have L1 : PySem.W.Looks (model X.prog X.w) s.heap (isInstance (.ref a) (.type t)) true := L0.andThen (PySem.W.looks_subIn I.kIn hs)
      refine call_isinstance_of ?_ (fun z => nomatch z)
      unfold Builtin.«isinstance.nested»
      refine wpAny_bind (m := typeOf (.ref a)) (L0.here ?_)
      show wpAny _ _ (if (Value.ref A == Value.type t) = true then _ else _) _ _ s
      rw [if_neg (show ¬ ((Value.ref A == Value.type t) = true) from fun z => nomatch (beq_iff_eq.mp z))]
      refine wpAny_bind (m := typeOf (.type t)) (wpAny_of_eq hty ?_)
      show wpAny _ _ (if (Value.type "type" == Value.type "type") = true then _ else _) _ _ s
      rw [if_pos (by decide)]
      refine wpAny_bind (wpAny_bind (m := isType (.type t)) (wpAny_pure (a := true) ?_))
      refine wpAny_bind (m := isInstance (.ref a) (.type t)) (L1.here ?_)
      exact wpAny_pure (a := true) (wpAny_pure ⟨.bl true, H, I, rfl, q⟩)
theorem x_i {a : Addr} {oe : Obj} {pn : List (Addr × Obj)} {i c : Nat} {dd : Option Addr} {fs : List (Str × D)} (T : XcC X.K P c (C.ad c)) (hz : Zc (.ref (C.ad c)) dd oe) {j : Nat} {y n : Str} {p p1 p2 p' : Pos} (hj : X.N[j]? = some n) (hv : Vis X.env.scope n) (ho : okN n = true)
    (hg : Gl X "isinstance") (hg2 : Gl X y) (hm : X.mg "isinstance" = none) (hm2 : X.mg y = none) :
    PE (X.suite a ((a, oe) :: pn)) (.Call (.Name "isinstance" p) [.Name n p1, .Name y p2] [] p') (tE X.K ⟨C.ad, some (i, a, dd, fs)⟩ P (some (i, c, fs)) W (.exci j y)) := by
  refine ⟨fun pins s σ H Q I h => ?_⟩
  obtain ⟨bb, s0, rr, en, u, R, E, ev, post⟩ := h
  simp only [evE] at ev
  split at ev
  · rename_i hh
    subst hh
    obtain ⟨o1, o2, o3⟩ := okN_of ho
    split at ev
    · rename_i hen
      split at ev
      · rename_i hx
        cases ev
        obtain ⟨hs, _⟩ := E.2.2 _ _ _ _ rfl
        obtain ⟨t, rfl, hv2, hty, hsub, hn2, hd2⟩ := T.is y hx
        have hb : PE (X.suite a ((a, oe) :: pn)) (.Name (t : Str) p2) (tC (.ty t)) := pe_bltn hg2 hm2 hv2 rfl hn2 hd2
        refine (pe_callB (X := X.suite a ((a, oe) :: pn)) (cr_isx hz.1 hty hsub) hg hm (by decide +kernel) (pa_cons (pe_var (X := X.suite a ((a, oe) :: pn)) (pos := p1) hj hv o1 o2) (pa_cons hb pa_nil) rfl) (by decide) (by decide) rfl rfl).run pins s σ H Q I ?_
        exact ⟨.ref a, hs hen, rfl, post rr H _ (Fx.refl _ _) R rfl⟩
      · cases ev
    · cases ev
  · cases ev
end
end PV
set_option Elab.async false
set_option linter.all false
set_option autoImplicit false
set_option maxRecDepth 100000
set_option maxHeartbeats 4000000
namespace PV
open PySem PySem.Spec PyProof.Rows L2
abbrev Cl3 := Value × Option Nat × (Addr → Value → Option Addr → TS)
def inS (i : Option Nat) (a : Addr) (σ : Sl) : Sl := match i with
  | some j => σ.set j (some (.ref a))
  | none => σ
def outS (i : Option Nat) (σ : Sl) : Sl := match i with
  | some j => σ.set j none
  | none => σ
def outD (i : Option Nat) (D : Ends) : Ends := { nx := fun t G => D.nx (outS i t) G, rt := D.rt, bk := fun t G => D.bk (outS i t) G, ct := fun t G => D.ct (outS i t) G }
def wCl (K : PySem.W.Frag) (Wo : WX) (D : Ends) : List Cl3 → WX
  | [] => Wo
  | (c, i, ts) :: more => fun cls d σ H => ∃ y, PySem.W.exmOne K cls c = some y ∧ (y = true → ∀ a, H a = none → ts a cls d (outD i D) (inS i a σ) H) ∧ (y = false → wCl K Wo D more cls d σ H)
inductive Cls3 (X : Cx) : List ExceptHandler → List Cl3 → Prop
  | nil : Cls3 X [] []
  | as {x n : Str} {c : Value} {i : Nat} {ts : Addr → Value → Option Addr → TS} {s0 : Stmt} {ss : List Stmt} {np hp : Pos} {hs : List ExceptHandler} {l : List Cl3} (hc : Names X x c) (hi : X.N[i]? = some n) (hl : X.env.kindOf n = some .local)
      (su : ∀ (a : Addr) (oe : Obj) (cls : Value) (d : Option Addr) (pn : List (Addr × Obj)), Zc cls d oe → (∃ vs, oe.data = .fields vs) → PSs (X.suite a ((a, oe) :: pn)) (s0 :: ss) (ts a cls d)) (more : Cls3 X hs l) :
      Cls3 X (.ExceptHandler (some (.Name x np)) (some n) (s0 :: ss) hp :: hs) ((c, some i, ts) :: l)
  | bare {x : Str} {c : Value} {ts : Addr → Value → Option Addr → TS} {s0 : Stmt} {ss : List Stmt} {np hp : Pos} {hs : List ExceptHandler} {l : List Cl3} (hc : Names X x c)
      (su : ∀ (a : Addr) (oe : Obj) (cls : Value) (d : Option Addr) (pn : List (Addr × Obj)), Zc cls d oe → (∃ vs, oe.data = .fields vs) → PSs (X.suite a ((a, oe) :: pn)) (s0 :: ss) (ts a cls d)) (more : Cls3 X hs l) :
      Cls3 X (.ExceptHandler (some (.Name x np)) none (s0 :: ss) hp :: hs) ((c, none, ts) :: l)
section
variable {X : Cx} {body : List Stmt} {h0 : ExceptHandler} {hs : List ExceptHandler} {l : List Cl3} {pos : Pos} {tb : WX → TS} {Wo : WX}
theorem frame_no {B : Heap} {a : Addr} {es : List PySem.Env} {g : Heap} {o : Obj} {vs : Array Value} (ff : g.FunFrames B es) (e : g.get? a = some o) (dd : o.data = .fields vs) : a ∉ frs es := fun hm => by
  obtain ⟨_, u, eu, nf⟩ := ff.mem hm
  rw [e] at eu
  cases eu
  exact nf _ dd
theorem ps_tryC (hst : X.stack = X.env :: X.outer) (hfm : X.env.frame = some X.env.locals) (hN : X.N.Nodup) (tk : Takes X Wo)
    (hb : ∀ (W : WX) (pn : List (Addr × Obj)) (xe : Value → Shared → Prop), Takes (X.tr pn xe) W → PassesOwn (model X.prog X.w) X.A X.env xe → PSs (X.tr pn xe) body (tb W)) (hh : Cls3 X (h0 :: hs) l) :
    PS X (.Try body (h0 :: hs) [] [] pos) (fun D σ H => tb (wCl X.K Wo D l) D σ H) := by
  refine ⟨fun pins s σ H D I hq => ?_⟩
  have K0 := I.ok
  have frm : X.A.frames = some (X.env :: X.outer) := by rw [K0.frames, hst]
  refine wpAny_Try_except ?_
  have hrun := fun xe ht hpo => (hb (wCl X.K Wo D l) (X.pn ++ pins) xe ht hpo).run [] s σ H D (I.toTry _) hq
  refine wpAny_mono (hrun (fun e s1 => wpAny (model X.prog X.w) X.A (noteFrame e X.env) (fun _ s2 => wpAny (model X.prog X.w) X.A (setFlight e none) (fun _ s3 => wpAny (model X.prog X.w) X.A (handleBy e X.env (h0 :: hs)) (SP X pins D) X.xe s3) X.xe s2) X.xe s1) (fun u t xx => ?_) PassesOwn.looking) (fun f s1 hsp => ?_) (fun _ _ z => z)
  · obtain ⟨a, B, sI, pins2, τ, G, cls, d, rfl, J0, nb, up, sky, na, os, ag, wish⟩ := xx
    have J : Inv X pins τ G sI := J0.ofTry K0
    have sk : Sky B (X.env :: X.outer) a (Zc cls d) X.env.locals t.heap := hst ▸ sky
    show wpAny (model X.prog X.w) X.A (noteFrame (.ref a) X.env) _ _ _
    refine Sky.land Zc.steady frm hfm sk fun g fl ug => ?_
    have Jg : Inv X pins τ G { t with heap := g } := J.landed nb fl.1 (up.trans ug) os ag
    obtain ⟨oe, vs, eo, zo, eod⟩ := fl.there
    have nfr := frame_no fl.2.2.1 eo eod
    have nL : a ≠ X.env.locals := fun z => nfr (List.mem_filterMap.mpr ⟨X.env, List.mem_cons_self, by rw [hfm, z]⟩)
    have nF : a ∉ X.fs := fun hm => by
      obtain ⟨e1, he1, q1⟩ := List.mem_filterMap.mp hm
      exact nfr (List.mem_filterMap.mpr ⟨e1, List.mem_cons_of_mem _ he1, q1⟩)
    have Sg := Jg.suite eo eod na nL nF
    have LT : PySem.W.Looks (model X.prog X.w) g (typeOf (.ref a)) cls := fun A Q E s2 k q => wpAny_typeOf_ref (k _ _ eo) (by rw [zo.1]; exact q)
    have test : ∀ {x : Str} {c : Value} {np : Pos} {Q : Value → Shared → Prop} {E : Value → Shared → Prop}, Names X x c → Q c { t with heap := g } → wpAny (model X.prog X.w) (X.A.mark (some (.ref a))) (eval (.Name x np) X.env) Q E { t with heap := g } := fun {x c np Q E} hc q => by
      obtain ⟨g1, g2, g3 | ⟨g3, g4, g5⟩⟩ := hc
      · exact ld_glob (X := X.suite a ((a, oe) :: (X.pn ++ pins))) Sg g1 g3 q g2
      · exact ld_blt (X := X.suite a ((a, oe) :: (X.pn ++ pins))) Sg g1 g3 g4 q g5 g2
    have walk : ∀ {hs2 : List ExceptHandler} {l2 : List Cl3}, Cls3 X hs2 l2 → wCl X.K Wo D l2 cls d τ G → wpAny (model X.prog X.w) X.A (handleBy (.ref a) X.env hs2) (SP X pins D) X.xe { t with heap := g } := by
      intro hs2 l2 hk
      induction hk with
      | nil =>
        intro w
        refine wpAny_handleBy_nil ?_
        obtain ⟨_, _, _, ob, _, T, _, _, e1, _, e2, e3, _⟩ := id fl
        unfold PySem.passOn
        refine wpAny_bind (wpAny_field e1 e2 e3 ?_)
        rw [if_neg (show ¬ ((Value.ref T == Value.none) = true) from by simp)]
        have out : wpAny (model X.prog X.w) X.A (setFlight (.ref a) X.env.frame) (fun _ s4 => wpAny (model X.prog X.w) X.A (throw (.ref a) : Sem Flow) (SP X pins D) X.xe s4) X.xe { t with heap := g } := by
          rw [hfm]
          refine HandSPX.setFlight_upZ fl fun g4 q4 u4 => wpAny_throw (tk _ _ ?_)
          exact ⟨a, B, sI, pins, τ, G, cls, d, rfl, J, nb, (up.trans ug).trans u4, .inr (.inr (by rw [hst]; exact q4)), na, os, ag, w⟩
        first
          | exact wpAny_bind (wpAny_pure (wpAny_bind out))
          | exact wpAny_bind out
      | @as x n c i ts s0 ss np hp hs3 l3 hc hi hl su more ih =>
        rintro ⟨y, hy, yes, no⟩
        refine wpAny_handleBy_cons (codeAny_handlers_test ?_) (by intro q; cases q)
        refine test hc ((PySem.W.exm_one (M := model X.prog X.w) Jg.kIn LT hy).here ?_)
        cases y with
        | false =>
          show wpAny _ X.A (handleBy (.ref a) X.env hs3) _ _ _
          exact ih (no rfl)
        | true =>
          refine codeAny_handlers_suite_as ?_
          refine HandSPX.lands_againZ fl fun g4 fl4 u4 => ?_
          have J4 : Inv X pins τ G { t with heap := g4 } := J.landed nb fl4.1 ((up.trans ug).trans u4) os ag
          obtain ⟨o4, _, e4, z4, d4⟩ := fl4.there
          have S4 := J4.suite e4 d4 na nL nF
          refine store_ok (X := X.suite a ((a, o4) :: (X.pn ++ pins))) (v := .ref a) S4 hN hi (.inl hl) rfl (fun s5 S5 => ?_) (.inr hl)
          refine wpAny_mono ((su a o4 cls d (X.pn ++ pins) z4 ⟨_, d4⟩).run [] s5 _ G _ S5 (yes rfl a na)) (fun f s6 hsp => ?_) (fun _ _ z => False.elim z)
          have gone : ∀ {τ6 : L2.St} {G6 : Hp} {Q : Shared → Prop}, Inv (X.suite a ((a, o4) :: (X.pn ++ pins))) [] τ6 G6 s6 → (∀ s7, Inv X pins (τ6.set i none) G6 s7 → Q s7) → wpAny (model X.prog X.w) X.A (do bindName X.env n .none; unbindBehindTheSuite X.env n hp) (fun _ s7 => Q s7) X.xe s6 :=
            fun {τ6 G6 Q} S6 k => gone_ok (S6.unsuite K0) hN hi hl k
          cases f with
          | next =>
            obtain ⟨τ6, G6, S6, q6⟩ := hsp
            exact gone S6 fun s7 J7 => ⟨_, _, J7, q6⟩
          | brk =>
            obtain ⟨τ6, G6, S6, q6⟩ := hsp
            exact gone S6 fun s7 J7 => ⟨_, _, J7, q6⟩
          | cont =>
            obtain ⟨τ6, G6, S6, q6⟩ := hsp
            exact gone S6 fun s7 J7 => ⟨_, _, J7, q6⟩
          | ret u =>
            obtain ⟨v6, τ6, G6, S6, r6, q6⟩ := hsp
            exact gone S6 fun s7 J7 => ⟨_, _, _, J7, r6, q6⟩
      | @bare x c ts s0 ss np hp hs3 l3 hc su more ih =>
        rintro ⟨y, hy, yes, no⟩
        refine wpAny_handleBy_cons (codeAny_handlers_test ?_) (by intro q; cases q)
        refine test hc ((PySem.W.exm_one (M := model X.prog X.w) Jg.kIn LT hy).here ?_)
        cases y with
        | false =>
          show wpAny _ X.A (handleBy (.ref a) X.env hs3) _ _ _
          exact ih (no rfl)
        | true =>
          refine codeAny_handlers_suite ?_
          refine HandSPX.lands_againZ fl fun g4 fl4 u4 => ?_
          have J4 : Inv X pins τ G { t with heap := g4 } := J.landed nb fl4.1 ((up.trans ug).trans u4) os ag
          obtain ⟨o4, _, e4, z4, d4⟩ := fl4.there
          have S4 := J4.suite e4 d4 na nL nF
          refine wpAny_mono ((su a o4 cls d (X.pn ++ pins) z4 ⟨_, d4⟩).run [] _ _ G _ S4 (yes rfl a na)) (fun f s6 hsp => ?_) (fun _ _ z => False.elim z)
          cases f with
          | next =>
            obtain ⟨τ6, G6, S6, q6⟩ := hsp
            exact ⟨_, _, S6.unsuite K0, q6⟩
          | brk =>
            obtain ⟨τ6, G6, S6, q6⟩ := hsp
            exact ⟨_, _, S6.unsuite K0, q6⟩
          | cont =>
            obtain ⟨τ6, G6, S6, q6⟩ := hsp
            exact ⟨_, _, S6.unsuite K0, q6⟩
          | ret u =>
            obtain ⟨v6, τ6, G6, S6, r6, q6⟩ := hsp
            exact ⟨_, _, _, S6.unsuite K0, r6, q6⟩
    exact walk hh wish
  · cases f with
    | next =>
      obtain ⟨τ, G, J, q⟩ := hsp
      exact wpAny_execs_nil ⟨τ, G, J.ofTry K0, q⟩
    | brk =>
      obtain ⟨τ, G, J, q⟩ := hsp
      exact ⟨τ, G, J.ofTry K0, q⟩
    | cont =>
      obtain ⟨τ, G, J, q⟩ := hsp
      exact ⟨τ, G, J.ofTry K0, q⟩
    | ret u =>
      obtain ⟨v, τ, G, J, r, q⟩ := hsp
      exact ⟨v, τ, G, J.ofTry K0, r, q⟩
end
end PV
set_option Elab.async false
set_option linter.all false
set_option autoImplicit false
set_option maxRecDepth 100000
set_option maxHeartbeats 4000000
namespace PV
open PySem PySem.Spec PyProof.Rows L2
structure Gs (T : Tb) (P : Ev) (C : Cn) (hot : Bool) (cur : Cur) (W : WX) (k : Nat) (X : Cx) : Prop where
  gd : Gd T P C hot cur W k X
  kind : X.env.scope.kind = .function
  fnx : ∀ y, X.fn y = true
  own : hot = false → PassesOwn (model X.prog X.w) X.A X.env X.xe
  stk : X.stack = X.env :: X.outer
  frm : X.env.frame = some X.env.locals
  mkx : hot = false → ∀ c x, T.cn c = some x → MkC X (C.ad c) x (P.flds c)
  mt : ∀ x, x ∈ T.xs → ∃ v, ((x == ("__debug__" : Str)) = false ∧ (X.mg x = some v ∨ (X.mg x = none ∧ bootBuiltins x = some v ∧ x ≠ "__name__"))) ∧ ∀ c b, P.mt c x = some b → PySem.W.exmOne X.K (.ref (C.ad c)) v = some b
  xc : ∀ c x b, P.mt c x = some b → XcC X.K P c (C.ad c)
section
variable {T : Tb} {P : Ev} {C : Cn} {hot : Bool} {cur : Cur} {W : WX} {k : Nat} {X : Cx} {pos : Pos}
theorem Gs.tr (G : Gs T P C false cur W k X) {W' : WX} {pn : List (Addr × Obj)} {xe : Value → Shared → Prop} (tk : Takes (X.tr pn xe) W') (hp : PassesOwn (model X.prog X.w) X.A X.env xe) : Gs T P C false cur W' k (X.tr pn xe) := by
  have hc := G.gd.cur0 rfl
  subst hc
  exact ⟨⟨G.gd.nd, G.gd.un, G.gd.gd, G.gd.fu, G.gd.gl, G.gd.fr, G.gd.calm, G.gd.room, G.gd.cur0, G.gd.xg0, tk, G.gd.fn, fun _ _ _ _ _ _ _ _ => no_excf, fun _ _ _ _ _ _ _ _ _ _ _ _ _ _ => no_exci⟩, G.kind, G.fnx, fun _ => hp, G.stk, G.frm, fun _ => G.mkx rfl, G.mt, G.xc⟩
theorem Gs.suite (G : Gs T P C false cur W k X) {a : Addr} {oe : Obj} {pn : List (Addr × Obj)} {i c : Nat} {dd : Option Addr} {fs : List (Str × D)} (xc : XcC X.K P c (C.ad c)) (hz : Zc (.ref (C.ad c)) dd oe) (hf : ∃ vs, oe.data = .fields vs) :
    Gs T P ⟨C.ad, some (i, a, dd, fs)⟩ true (some (i, c, fs)) W0 k (X.suite a ((a, oe) :: pn)) :=
  ⟨⟨G.gd.nd, G.gd.un, G.gd.gd, G.gd.fu, G.gd.gl, G.gd.fr, (fun z => by cases z), (fun z => by cases z), (fun z => by cases z), (fun z => by cases z), takes0, G.gd.fn,
    fun j f n p p' h1 h2 h3 => x_f (X := X) xc hz hf h1 h2 h3, fun j y n p p1 p2 p' h1 h2 h3 h4 h5 h6 h7 => x_i (X := X) xc hz h1 h2 h3 h4 h5 h6 h7⟩,
    G.kind, G.fnx, (fun z => by cases z), G.stk, G.frm, (fun z => by cases z), G.mt, G.xc⟩
theorem Gs.bare (G : Gs T P C false cur W k X) {a : Addr} {oe : Obj} {pn : List (Addr × Obj)} : Gs T P C true none W0 k (X.suite a ((a, oe) :: pn)) :=
  ⟨⟨G.gd.nd, G.gd.un, G.gd.gd, G.gd.fu, G.gd.gl, G.gd.fr, (fun z => by cases z), (fun z => by cases z), (fun z => by cases z), (fun z => by cases z), takes0, G.gd.fn,
    fun _ _ _ _ _ _ _ _ => no_excf, fun _ _ _ _ _ _ _ _ _ _ _ _ _ _ => no_exci⟩,
    G.kind, G.fnx, (fun z => by cases z), G.stk, G.frm, (fun z => by cases z), G.mt, G.xc⟩
def ClsOk (T : Tb) (P : Ev) (C : Cn) (W : WX) (X : Cx) (hs : List CH) (hds : List ExceptHandler) : Prop := ∃ l, Cls3 X hds l ∧ ∀ (D : Ends) (bb : List MO) (c1 : Nat) (fs : List (Str × PV.D)) (e1 : Env) (s1 : HS bb) (o : SR bb) (r : RA) (H : Hp) (dd : Option Addr) (σ : Sl),
  exH P c1 fs hs e1 s1 = some o → PostS X.K C W r H o D → Rel X.K r s1.M H → EnvR C X.K r H e1 σ → XdR X.K r H fs dd → wCl X.K W D l (.ref (C.ad c1)) dd σ H
theorem cls_nil : ClsOk T P C W X [] [] := ⟨[], .nil, fun D bb c1 fs e1 s1 o r H dd σ ev post R E xd => by
  simp only [exH] at ev
  cases ev
  exact post r H dd σ (Fx.refl _ _) R E xd⟩
theorem cls_as {x n : Str} {i : Nat} {su : List CS} {hs : List CH} {hds : List ExceptHandler} {b₀ : Stmt} {ss : List Stmt} {np hp : Pos} (G : Gs T P C false cur W k X) (hi : X.N[i]? = some n) (hln : X.env.scope.names.lookup n = some .local) (hg : Gl X x) (hx : x ∈ T.xs)
    (hsu : ∀ (a : Addr) (oe : Obj) (pn : List (Addr × Obj)) (c : Nat) (dd : Option Addr) (fs : List (Str × D)), Gs T P ⟨C.ad, some (i, a, dd, fs)⟩ true (some (i, c, fs)) W0 k (X.suite a ((a, oe) :: pn)) → PSs (X.suite a ((a, oe) :: pn)) (b₀ :: ss) (tBk X.K ⟨C.ad, some (i, a, dd, fs)⟩ P (some (i, c, fs)) W0 su))
    (more : ClsOk T P C W X hs hds) : ClsOk T P C W X (.mk x (some i) su :: hs) (.ExceptHandler (some (.Name x np)) (some n) (b₀ :: ss) hp :: hds) := by
  obtain ⟨v, ⟨hdb, hv⟩, hmt⟩ := G.mt x hx
  obtain ⟨l, hl, hw⟩ := more
  have xg := G.gd.xg0 rfl
  refine ⟨(v, some i, fun a cls d D σ H => ∃ c fs, cls = .ref (C.ad c) ∧ P.mt c x = some true ∧ tBk X.K ⟨C.ad, some (i, a, d, fs)⟩ P (some (i, c, fs)) W0 su D σ H) :: l, .as ⟨hg, hdb, hv⟩ hi hln (fun a oe cls d pn hz hf => ⟨fun pins s σ H D I ⟨c, fs, e1, e2, q⟩ => ?_⟩) hl, fun D bb c1 fs e1 s1 o r H dd σ ev post R E xd => ?_⟩
  · subst e1
    exact (hsu a oe pn c d fs (G.suite (G.xc c x true e2) hz hf)).run pins s σ H D I q
  · simp only [exH] at ev
    cases hm : P.mt c1 x with
    | none => rw [hm] at ev; cases ev
    | some y =>
      rw [hm] at ev
      refine ⟨y, hmt c1 y hm, fun hy a ha => ?_, fun hy => ?_⟩
      · subst hy
        simp only at ev
        refine ⟨c1, fs, rfl, hm, ?_⟩
        cases hq2 : exB P (some (i, c1, fs)) su (e1.set i none) s1 with
        | none => rw [hq2] at ev; cases ev
        | some o2 =>
          rw [hq2] at ev
          refine ⟨bb, s1, r, e1.set i none, o2, R, E.suite xg i a xd, hq2, ?_⟩
          have eC : C = ⟨C.ad, none⟩ := by
            obtain ⟨ad, x0⟩ := C
            cases xg
            rfl
          cases o2 with
          | nx e2 s2 =>
            cases ev
            intro r2 H2 σ2 fx2 R2 E2
            refine post r2 H2 _ fx2 R2 ?_
            rw [eC]
            exact EnvR.unsuite E2 i
          | rt d s2 =>
            cases ev
            exact fun r2 H2 v2 fx2 => post r2 H2 v2 fx2
          | ex c2 fs2 e2 s2 => cases ev
      · subst hy
        exact hw D bb c1 fs e1 s1 o r H dd σ ev post R E xd
theorem cls_bare {x : Str} {su : List CS} {hs : List CH} {hds : List ExceptHandler} {b₀ : Stmt} {ss : List Stmt} {np hp : Pos} (G : Gs T P C false cur W k X) (hg : Gl X x) (hx : x ∈ T.xs)
    (hsu : ∀ (a : Addr) (oe : Obj) (pn : List (Addr × Obj)), Gs T P C true none W0 k (X.suite a ((a, oe) :: pn)) → PSs (X.suite a ((a, oe) :: pn)) (b₀ :: ss) (tBk X.K C P none W0 su))
    (more : ClsOk T P C W X hs hds) : ClsOk T P C W X (.mk x none su :: hs) (.ExceptHandler (some (.Name x np)) none (b₀ :: ss) hp :: hds) := by
  obtain ⟨v, ⟨hdb, hv⟩, hmt⟩ := G.mt x hx
  obtain ⟨l, hl, hw⟩ := more
  refine ⟨(v, none, fun a cls d D σ H => tBk X.K C P none W0 su D σ H) :: l, .bare ⟨hg, hdb, hv⟩ (fun a oe cls d pn hz hf => hsu a oe pn G.bare) hl, fun D bb c1 fs e1 s1 o r H dd σ ev post R E xd => ?_⟩
  simp only [exH] at ev
  cases hm : P.mt c1 x with
  | none => rw [hm] at ev; cases ev
  | some y =>
    rw [hm] at ev
    refine ⟨y, hmt c1 y hm, fun hy a ha => ?_, fun hy => ?_⟩
    · subst hy
      simp only at ev
      cases hq2 : exB P none su e1 s1 with
      | none => rw [hq2] at ev; cases ev
      | some o2 =>
        rw [hq2] at ev
        refine ⟨bb, s1, r, e1, o2, R, E, hq2, ?_⟩
        cases o2 with
        | nx e2 s2 =>
          cases ev
          exact fun r2 H2 σ2 fx2 R2 E2 => post r2 H2 _ fx2 R2 E2
        | rt d s2 =>
          cases ev
          exact fun r2 H2 v2 fx2 => post r2 H2 v2 fx2
        | ex c2 fs2 e2 s2 => cases ev
    · subst hy
      exact hw D bb c1 fs e1 s1 o r H dd σ ev post R E xd
theorem s_try {body : List CS} {hs : List CH} {st : List Stmt} {h₀ : ExceptHandler} {hds : List ExceptHandler} (G : Gs T P C false cur W k X)
    (hb : ∀ (W' : WX) (pn : List (Addr × Obj)) (xe : Value → Shared → Prop), Gs T P C false cur W' k (X.tr pn xe) → PSs (X.tr pn xe) st (tBk X.K C P cur W' body)) (hc : ClsOk T P C W X hs (h₀ :: hds)) :
    PS X (.Try st (h₀ :: hds) [] [] pos) (tSt X.K C P cur W (.try_ body hs)) := by
  obtain ⟨l, hl, hw⟩ := hc
  refine PS.imp (ps_tryC (tb := fun W' => tBk X.K C P cur W' body) G.stk G.frm G.gd.nd G.gd.tk (fun W' pn xe tk hp => hb W' pn xe (G.tr tk hp)) hl) fun D σ H ⟨bb, s, rr, en, u, R, E, ev, post⟩ => ?_
  simp only [exS] at ev
  cases hq : exB P cur body en s with
  | none => rw [hq] at ev; cases ev
  | some o1 =>
    rw [hq] at ev
    refine ⟨bb, s, rr, en, o1, R, E, hq, ?_⟩
    cases o1 with
    | nx e1 s1 =>
      cases ev
      exact post
    | rt d s1 =>
      cases ev
      exact post
    | ex c1 fs e1 s1 =>
      intro r' H' dd σ' fx R1 E1 xd
      exact hw D bb c1 fs e1 s1 u r' H' dd σ' ev (post.mono fx) R1 E1 xd
end
def swNames (sc : Scope) (ts : List Expr) : List Str := ts.filterMap fun
  | .Name id pos => if sc.names.lookup id == some .local && pos.line == (ts.head?.map (·.pos.line)).getD 0 then some id else none
  | _ => none
def swN (sc : Scope) (ts vs : List Expr) : Option (Option (List Str)) :=
  if !(ts.length == 2 || ts.length == 3) || vs.length != ts.length then some none
  else if vs.any (fun | .Starred .. => true | _ => false) then some none
  else if (swNames sc ts).length != ts.length || (swNames sc ts).eraseDups.length != (swNames sc ts).length then some none
  else if vs.all (foldedForSure 8) then some none
  else if vs.all (constantsAlone 8) then none
  else some (some (swNames sc ts))
theorem sw_ok {env : PySem.Env} {ts vs : List Expr} {r : Option (List Str)} {kt k2 : Nat} {pt pt2 : Pos} (hk : env.scope.kind = .function) (h : swN env.scope ts vs = some r) : swappedStores [.Tuple ts kt pt] (.Tuple vs k2 pt2) env = pure r := by
  have hb : env.blockKind = .function := by unfold Env.blockKind; rw [hk]; rfl
  unfold swN at h
  unfold swappedStores
  simp only [hb]
  by_cases h1 : (!(ts.length == 2 || ts.length == 3) || vs.length != ts.length) = true
  · rw [if_pos h1] at h
    cases h
    simp only [h1, Bool.true_or, if_true]
  · rw [if_neg h1] at h
    have h1' : (!(ts.length == 2 || ts.length == 3) || vs.length != ts.length || (PySem.ScopeKind.function != .function)) = false := by
      rw [Bool.eq_false_iff.mpr h1]
      rfl
    rw [if_neg (by rw [h1']; exact Bool.false_ne_true)]
    by_cases h2 : (vs.any (fun | .Starred .. => true | _ => false)) = true
    · rw [if_pos h2] at h
      cases h
      exact if_pos h2
    · rw [if_neg h2] at h
      refine (if_neg h2).trans ?_
      by_cases h3 : ((swNames env.scope ts).length != ts.length || (swNames env.scope ts).eraseDups.length != (swNames env.scope ts).length) = true
      · rw [if_pos h3] at h
        cases h
        exact if_pos h3
      · rw [if_neg h3] at h
        refine (if_neg h3).trans ?_
        by_cases h4 : vs.all (foldedForSure 8) = true
        · rw [if_pos h4] at h
          cases h
          rw [if_pos h4]
        · rw [if_neg h4] at h
          rw [if_neg h4]
          by_cases h5 : vs.all (constantsAlone 8) = true
          · rw [if_pos h5] at h
            cases h
          · rw [if_neg h5] at h
            cases h
            rw [if_neg h5]
            rfl
def isLc : Expr → Bool
  | .ListComp _ _ _ _ => true
  | .SetComp _ _ _ _ => true
  | .DictComp _ _ _ _ _ => true
  | _ => false
def lcSw (sc : Scope) (x : Str) (px : Pos) : Expr → Bool
  | .ListComp _ _ s p => decide (sc.names.lookup x = some .local) && px.line == p.line && !(s.names.any fun (n, k) => n == x && (k == .local || k == .cell))
  | _ => false
def isTuple : Expr → Bool
  | .Tuple _ _ _ => true
  | _ => false
def augB : B2 → Bool
  | .add => true
  | .sub => true
  | _ => false
def chkSet (hot : Bool) (sc : Scope) (e : Expr) : Expr → Bool
  | .Name x px => !isLc e || (!hot && lcSw sc x px e)
  | _ => !hot && !isLc e && !isTuple e
def chkPar (N : List Str) (sc : Scope) (is : List Nat) (ts vs : List Expr) : Bool := match swN sc ts vs with
  | some none => chkTg.go true N sc is ts && decide (is.length ≤ 1000)
  | some (some _) => (match is, ts with
    | [i, j], [.Name x _, .Name y _] => decide (i ≠ j) && decide (N[i]? = some x) && decide (N[j]? = some y) && decide (sc.names.lookup x = some .local) && decide (sc.names.lookup y = some .local) && decide (swNames sc ts = [x, y])
    | _, _ => false)
  | none => false
mutual
def chkS (T : Tb) (hot : Bool) (N : List Str) (sc : Scope) : CS → Stmt → Bool
  | .exp a, st => (match st with
    | .Expr e _ => chkE T hot N sc a e && !isLc e
    | _ => false)
  | .ret a, st => (match st with
    | .Return (some e) _ => chkE T hot N sc a e
    | _ => false)
  | .set t a, st => (match st with
    | .Assign [tg] e _ => chkE T hot N sc a e && chkTg true N sc t tg && chkSet hot sc e tg
    | _ => false)
  | .par is es, st => (match st with
    | .Assign [.Tuple ts _ _] (.Tuple vs _ _) _ => !hot && chkL T hot N sc es vs && chkPar N sc is ts vs
    | _ => false)
  | .aug i o a, st => (match st with
    | .AugAssign (.Name x _) op e _ => augB o && decide (op = o.op) && decide (N[i]? = some x) && locB true sc x && chkE T hot N sc a e
    | _ => false)
  | .sub o i a, st => (match st with
    | .Assign [.Subscript eo ei _] e _ => notSl ei && !isLc e && chkE T hot N sc a e && chkE T hot N sc o eo && chkE T hot N sc i ei
    | _ => false)
  | .ite c a b, st => (match st with
    | .If e s1 s2 _ => chkE T hot N sc c e && chkBk T hot N sc a s1 && chkBk T hot N sc b s2
    | _ => false)
  | .for_ t k src body, st => (match st with
    | .For tg it sts [] _ => !hot && chkI T hot N sc k src tg it && chkTg true N sc t tg && chkBk T hot N sc body sts
    | _ => false)
  | .while_ c body, st => (match st with
    | .While e sts [] _ => !hot && chkE T hot N sc c e && chkBk T hot N sc body sts
    | _ => false)
  | .raise c es, st => (match st with
    | .Raise (some (.Call (.Name x _) args [] _)) none _ => !hot && decide (T.cn c = some x) && glB sc x && !args.isEmpty && chkL T hot N sc es args
    | _ => false)
  | .try_ body hs, st => (match st with
    | .Try sts hds [] [] _ => !hot && !hds.isEmpty && chkBk T hot N sc body sts && chkHd T N sc hs hds
    | _ => false)
  | .pass, st => (match st with
    | .Pass _ => true
    | _ => false)
def chkBk (T : Tb) (hot : Bool) (N : List Str) (sc : Scope) : List CS → List Stmt → Bool
  | [], sts => sts.isEmpty
  | c :: cs, sts => (match sts with
    | st :: r => chkS T hot N sc c st && chkBk T hot N sc cs r
    | [] => false)
def chkHd (T : Tb) (N : List Str) (sc : Scope) : List CH → List ExceptHandler → Bool
  | [], hds => hds.isEmpty
  | .mk x i su :: hs, hds => (match hds with
    | .ExceptHandler (some (.Name y _)) nm (b₀ :: ss) _ :: r => decide (y = x) && glB sc y && T.xs.contains y && (match i, nm with
      | some j, some n => decide (N[j]? = some n) && decide (sc.names.lookup n = some .local)
      | none, none => true
      | _, _ => false) && chkBk T true N sc su (b₀ :: ss) && chkHd T N sc hs r
    | _ => false)
end
theorem not_lc {e : Expr} (h : isLc e = false) (t : Option Expr) (l : Nat) (env : PySem.Env) : swapsWith e t l env = pure false := by
  cases e <;> first | rfl | cases h
theorem ip_of {o : B2} {X : Cx} (h : augB o = true) : ipB o X := by
  cases o <;> first | exact ip_add' | exact ip_sub' | cases h
theorem sw_none {tg e : Expr} {env : PySem.Env} (h : isTuple e = false) : swappedStores [tg] e env = pure none := by
  cases tg <;> cases e <;> first | rfl | cases h
theorem sndLc {T : Tb} {P : Ev} {C : Cn} {cur : Cur} {W : WX} {k : Nat} {X : Cx} (a : CE) (G : Gs T P C false cur W k X) (i : Nat) (y : Str) (py : Pos) (e : Expr) (spos : Pos) (hy : X.N[i]? = some y) (h : chkE T false X.N X.env.scope a e = true) (hsw : lcSw X.env.scope y py e = true) :
    PS X (.Assign [.Name y py] e spos) (tSt X.K C P cur W (.set (.nm i) a)) := by
  cases e <;> try (cases hsw; done)
  rename_i el gens scope p
  simp only [lcSw, Bool.and_eq_true, decide_eq_true_eq, Bool.not_eq_true'] at hsw
  obtain ⟨⟨s1, s2⟩, s3⟩ := hsw
  cases a <;> try (cases h; done)
  rename_i tg kk src ifs elt own
  match gens, h with
  | [⟨t, it, fs, 0⟩], h =>
    have h' := chk_lc.symm.trans h
    simp only [Bool.and_eq_true, decide_eq_true_eq, Bool.not_eq_true'] at h'
    obtain ⟨⟨⟨⟨⟨⟨⟨⟨_, h1⟩, h2⟩, h3⟩, h4⟩, h5⟩, h6⟩, h7⟩, h8⟩ := h'
    obtain ⟨hi, hs⟩ := sndI G.gd h8 (fun es hes => sndL src G.gd es hes) (fun c e hc he => snd1 src G.gd c e hc he)
    refine s_setLc (G.gd.xg0 rfl) (G.gd.calm rfl) G.gd.nd G.gd.fu hy s1 (sw_true G.kind s1 s2 s3) hi (blkOk_by h1) h2 (fun i hi => ?_) (fun s H c cl fp => ?_) (fun s H c cl fp => ?_) (fun s H c cl fp => ?_) (hs X.env)
    · have q := List.all_eq_true.mp h3 i hi
      simpa using q
    · exact pg_tg (cel := false) (X := X.blk s H scope (compEnvC scope cl c X.env) fp) (fun z => by cases z) (G.gd.calm rfl) G.gd.nd h4
    · match fs, h5, h6 with
      | [], _, h6 => exact sndIf0 ifs h6
      | [f], _, h6 => exact sndIf1 ifs (G.gd.blk s H scope (compEnvC scope cl c X.env) fp) f h6
      | _ :: _ :: _, h5, _ => simp at h5
    · exact (snd elt (G.gd.blk s H scope (compEnvC scope cl c X.env) fp) el h7).1
mutual
theorem sndS {T : Tb} {P : Ev} : ∀ (c : CS) {C : Cn} {hot : Bool} {cur : Cur} {W : WX} {k : Nat} {X : Cx}, Gs T P C hot cur W k X → ∀ st, chkS T hot X.N X.env.scope c st = true → PS X st (tSt X.K C P cur W c)
  | .exp a, C, hot, cur, W, k, X, G, st, h => by
    cases st <;> try (cases h; done)
    rename_i e pos
    have h' : (chkE T hot X.N X.env.scope a e && !isLc e) = true := h
    simp only [Bool.and_eq_true, Bool.not_eq_true'] at h'
    exact s_exp (snd a G.gd e h'.1).1 (not_lc h'.2 _ _ _)
  | .ret a, C, hot, cur, W, k, X, G, st, h => by
    cases st <;> try (cases h; done)
    rename_i e pos
    cases e <;> try (cases h; done)
    exact s_ret (snd a G.gd _ h).1
  | .set t a, C, hot, cur, W, k, X, G, st, h => by
    cases st <;> try (cases h; done)
    rename_i tgs e pos
    match tgs, h with
    | [tg], h =>
      have h' : (chkE T hot X.N X.env.scope a e && chkTg true X.N X.env.scope t tg && chkSet hot X.env.scope e tg) = true := h
      simp only [Bool.and_eq_true] at h'
      obtain ⟨⟨h1, h2⟩, h3⟩ := h'
      by_cases hn : ∃ x px, tg = .Name x px
      · obtain ⟨x, px, rfl⟩ := hn
        cases t with
        | tp is => cases h2
        | nm i =>
          simp only [chkTg, Bool.and_eq_true, decide_eq_true_eq] at h2
          obtain ⟨l1, l2⟩ := loc_of (cel := true) (fun _ => G.fnx) h2.2
          by_cases hl : isLc e = false
          · exact s_set G.gd.nd h2.1 l1 (snd a G.gd e h1).1 (not_lc hl _ _ _) l2
          · have hl' : isLc e = true := by simpa using hl
            have h4 : (!isLc e || (!hot && lcSw X.env.scope x px e)) = true := h3
            rw [hl'] at h4
            simp only [Bool.not_true, Bool.false_or, Bool.and_eq_true, Bool.not_eq_true'] at h4
            obtain ⟨rfl, h5⟩ := h4
            exact sndLc a G i x px e pos h2.1 h1 h5
      · have h4 : (!hot && !isLc e && !isTuple e) = true := by
          cases tg <;> first | exact absurd ⟨_, _, rfl⟩ hn | exact h3
        simp only [Bool.and_eq_true, Bool.not_eq_true'] at h4
        obtain ⟨⟨rfl, h5⟩, h6⟩ := h4
        refine s_tup (snd a G.gd e h1).1 (pg_tgM (cel := true) (fun _ => G.fnx) (G.gd.calm rfl) G.gd.nd h2) (not_lc h5 _ _ _) (sw_none h6) ?_
        cases tg <;> first | rfl | (cases t <;> cases h2)
  | .par is es, C, hot, cur, W, k, X, G, st, h => by
    cases st <;> try (cases h; done)
    rename_i tgs e pos
    match tgs, e, h with
    | [.Tuple ts kt pt], .Tuple vs k2 pt2, h =>
      have h' : (!hot && chkL T hot X.N X.env.scope es vs && chkPar X.N X.env.scope is ts vs) = true := h
      simp only [Bool.and_eq_true, Bool.not_eq_true'] at h'
      obtain ⟨⟨rfl, h1⟩, h2⟩ := h'
      have ha := sndL es G.gd vs h1
      unfold chkPar at h2
      split at h2
      · rename_i hsw
        simp only [Bool.and_eq_true, decide_eq_true_eq] at h2
        have hg : PG X (.Tuple ts kt pt) (gTg X.K (.tp is)) := pg_tg (cel := true) (fun _ => G.fnx) (G.gd.calm rfl) G.gd.nd (show chkTg true X.N X.env.scope (.tp is) (.Tuple ts kt pt) = true from h2.1)
        exact s_parT ha hg (sw_ok G.kind hsw) (by have := h2.2; rw [sizeLine_eq]; omega)
      · rename_i ns hsw
        split at h2
        · rename_i i j x px y py _
          simp only [Bool.and_eq_true, decide_eq_true_eq] at h2
          obtain ⟨⟨⟨⟨⟨k1, k2'⟩, k3⟩, k4⟩, k5⟩, k6⟩ := h2
          have hns : ns = [x, y] := by
            rw [← k6]
            unfold swN at hsw
            split at hsw
            · cases hsw
            · split at hsw
              · cases hsw
              · split at hsw
                · cases hsw
                · split at hsw
                  · cases hsw
                  · split at hsw
                    · cases hsw
                    · cases hsw
                      rfl
          subst hns
          have hlen : ∃ v1 v2, vs = [v1, v2] := by
            unfold swN at hsw
            split at hsw
            · cases hsw
            · rename_i hh
              have hl : vs.length = 2 := by simpa using hh
              match vs, hl with
              | [v1, v2], _ => exact ⟨v1, v2, rfl⟩
          obtain ⟨v1, v2, rfl⟩ := hlen
          exact s_par2 (G.gd.calm rfl) G.gd.nd k2' k3 k1 k4 k5 ha (sw_ok G.kind hsw) rfl
        · cases h2
      · cases h2
  | .aug i o a, C, hot, cur, W, k, X, G, st, h => by
    cases st <;> try (cases h; done)
    rename_i tg op e pos
    cases tg <;> try (cases h; done)
    rename_i x px
    have h' : (augB o && decide (op = o.op) && decide (X.N[i]? = some x) && locB true X.env.scope x && chkE T hot X.N X.env.scope a e) = true := h
    simp only [Bool.and_eq_true, decide_eq_true_eq] at h'
    obtain ⟨⟨⟨⟨h1, rfl⟩, h2⟩, h3⟩, h4⟩ := h'
    obtain ⟨l1, l2⟩ := loc_of (cel := true) (fun _ => G.fnx) h3
    exact s_aug G.gd.nd h2 l1 (snd a G.gd e h4).1 (ip_of h1) l2
  | .sub o i a, C, hot, cur, W, k, X, G, st, h => by
    cases st <;> try (cases h; done)
    rename_i tgs e pos
    match tgs, h with
    | [.Subscript eo ei tp], h =>
      have h' : (notSl ei && !isLc e && chkE T hot X.N X.env.scope a e && chkE T hot X.N X.env.scope o eo && chkE T hot X.N X.env.scope i ei) = true := h
      simp only [Bool.and_eq_true, Bool.not_eq_true'] at h'
      obtain ⟨⟨⟨⟨h1, h2⟩, h3⟩, h4⟩, h5⟩ := h'
      exact s_sub (snd o G.gd eo h4).1 (snd i G.gd ei h5).1 (snd a G.gd e h3).1 (show swapsWith e (some (.Subscript eo ei tp)) pos.line X.env = pure false from not_lc h2 _ _ _) h1
  | .ite c a b, C, hot, cur, W, k, X, G, st, h => by
    cases st <;> try (cases h; done)
    rename_i e s1 s2 pos
    have h' : (chkE T hot X.N X.env.scope c e && chkBk T hot X.N X.env.scope a s1 && chkBk T hot X.N X.env.scope b s2) = true := h
    simp only [Bool.and_eq_true] at h'
    exact s_ite (snd c G.gd e h'.1.1).2 (sndBk a G s1 h'.1.2) (sndBk b G s2 h'.2)
  | .for_ t kk src body, C, hot, cur, W, k, X, G, st, h => by
    cases st <;> try (cases h; done)
    rename_i tg it sts el pos
    cases el with
    | cons _ _ => cases h
    | nil =>
      have h' : (!hot && chkI T hot X.N X.env.scope kk src tg it && chkTg true X.N X.env.scope t tg && chkBk T hot X.N X.env.scope body sts) = true := h
      simp only [Bool.and_eq_true, Bool.not_eq_true'] at h'
      obtain ⟨⟨⟨rfl, h1⟩, h2⟩, h3⟩ := h'
      obtain ⟨hi, hs⟩ := sndI G.gd h1 (fun es hes => sndL src G.gd es hes) (fun c e hc he => snd1 src G.gd c e hc he)
      exact s_for (G.own rfl) (G.gd.calm rfl) hi (pg_tg (cel := true) (fun _ => G.fnx) (G.gd.calm rfl) G.gd.nd h2) (sndBk body G sts h3) (hs X.env)
  | .while_ c body, C, hot, cur, W, k, X, G, st, h => by
    cases st <;> try (cases h; done)
    rename_i e sts el pos
    cases el with
    | cons _ _ => cases h
    | nil =>
      have h' : (!hot && chkE T hot X.N X.env.scope c e && chkBk T hot X.N X.env.scope body sts) = true := h
      simp only [Bool.and_eq_true, Bool.not_eq_true'] at h'
      obtain ⟨⟨rfl, h1⟩, h3⟩ := h'
      exact s_while (G.own rfl) (snd c G.gd e h1).2 (sndBk body G sts h3)
  | .raise c es, C, hot, cur, W, k, X, G, st, h => by
    cases st <;> try (cases h; done)
    rename_i e fr pos
    match e, fr, h with
    | some (.Call (.Name x p) args [] p2), none, h =>
      have h' : (!hot && decide (T.cn c = some x) && glB X.env.scope x && !args.isEmpty && chkL T hot X.N X.env.scope es args) = true := h
      simp only [Bool.and_eq_true, Bool.not_eq_true', decide_eq_true_eq] at h'
      obtain ⟨⟨⟨⟨rfl, h1⟩, h2⟩, h3⟩, h4⟩ := h'
      match args, h3, h4 with
      | e0 :: er, _, h4 =>
        obtain ⟨c0, cr, rfl, hc0, hcr⟩ := chkL_to h4
        exact s_raise (G.gd.calm rfl) G.gd.tk (G.mkx rfl c x h1 (gl_of h2) X.pn X.xe e0 er _ p p2 (sndL (c0 :: cr) G.gd (e0 :: er) h4) (star_of (chk_ns hc0) er X.env) (any_ns hcr))
  | .try_ body hs, C, hot, cur, W, k, X, G, st, h => by
    cases st <;> try (cases h; done)
    rename_i sts hds el fi pos
    match hds, el, fi, h with
    | [], [], [], h =>
      have h' : (!hot && !(([] : List ExceptHandler).isEmpty) && chkBk T hot X.N X.env.scope body sts && chkHd T X.N X.env.scope hs []) = true := h
      simp at h'
    | h₀ :: hds, [], [], h =>
      have h' : (!hot && !(h₀ :: hds).isEmpty && chkBk T hot X.N X.env.scope body sts && chkHd T X.N X.env.scope hs (h₀ :: hds)) = true := h
      simp only [Bool.and_eq_true, Bool.not_eq_true'] at h'
      obtain ⟨⟨⟨rfl, _⟩, h5⟩, h6⟩ := h'
      exact s_try G (fun W' pn xe G' => sndBk body G' sts h5) (sndH hs G (h₀ :: hds) h6)
  | .pass, C, hot, cur, W, k, X, G, st, h => by
    cases st <;> try (cases h; done)
    exact s_pass
theorem sndBk {T : Tb} {P : Ev} : ∀ (cs : List CS) {C : Cn} {hot : Bool} {cur : Cur} {W : WX} {k : Nat} {X : Cx}, Gs T P C hot cur W k X → ∀ sts, chkBk T hot X.N X.env.scope cs sts = true → PSs X sts (tBk X.K C P cur W cs)
  | [], C, hot, cur, W, k, X, G, sts, h => by
    have e : sts = [] := by simpa [chkBk] using h
    subst e
    exact b_nil
  | c :: cs, C, hot, cur, W, k, X, G, sts, h => by
    cases sts with
    | nil => cases h
    | cons st r =>
      simp only [chkBk, Bool.and_eq_true] at h
      exact b_cons (sndS c G st h.1) (sndBk cs G r h.2)
theorem sndH {T : Tb} {P : Ev} : ∀ (hs : List CH) {C : Cn} {cur : Cur} {W : WX} {k : Nat} {X : Cx}, Gs T P C false cur W k X → ∀ hds, chkHd T X.N X.env.scope hs hds = true → ClsOk T P C W X hs hds
  | [], C, cur, W, k, X, G, hds, h => by
    have e : hds = [] := by simpa [chkHd] using h
    subst e
    exact cls_nil
  | .mk x i su :: hs, C, cur, W, k, X, G, hds, h => by
    match hds, h with
    | .ExceptHandler (some (.Name y py)) nm (b₀ :: ss) hp :: r, h =>
      simp only [chkHd, Bool.and_eq_true, decide_eq_true_eq] at h
      obtain ⟨⟨⟨⟨⟨rfl, h1⟩, h2⟩, h3⟩, h4⟩, h5⟩ := h
      match i, nm, h3 with
      | some j, some n, h3 =>
        simp only [Bool.and_eq_true, decide_eq_true_eq] at h3
        exact cls_as G h3.1 h3.2 (gl_of h1) (by simpa using h2) (fun a oe pn c dd fs G' => sndBk su G' (b₀ :: ss) h4) (sndH hs G r h5)
      | none, none, _ => exact cls_bare G (gl_of h1) (by simpa using h2) (fun a oe pn G' => sndBk su G' (b₀ :: ss) h4) (sndH hs G r h5)
end
end PV
set_option Elab.async false
set_option linter.all false
set_option autoImplicit false
set_option maxRecDepth 100000
set_option maxHeartbeats 4000000
namespace PV
open PySem PySem.Spec PyProof.Rows L2
theorem PA.clo {X : Cx} {es : List Expr} {t : TA} (h : PA X es t) : PA X es (fun σ H Q => ∃ Q0 : List V → Hp → Prop, t σ H Q0 ∧ ∀ vs H1, Q0 vs H1 → Q vs H1) :=
  ⟨fun pos pins s σ H Q I ⟨Q0, q, k⟩ => thn (h.run pos pins s σ H Q0 I q) fun us s1 ⟨vs, H1, I1, r, z⟩ => ⟨vs, H1, I1, r, k _ _ z⟩⟩
def putF (σ : Sl) : List (Str × Nat) → List (Str × V) → List (Str × V)
  | [], fv => fv
  | (f, j) :: l, fv => putF σ l (match σ[j]? with
    | some (some v) => (f, v) :: fv
    | _ => fv)
def chkIni (N : List Str) (sc : Scope) : List (Str × Nat) → List Stmt → Bool
  | [], sts => sts.isEmpty
  | (f, j) :: l, sts => (match sts with
    | .Assign [.Attribute (.Name x _) g _] (.Name y _) _ :: r => decide (N[0]? = some x) && decide (N[j]? = some y) && visB sc x && visB sc y && okN x && okN y && decide (g = f) && chkIni N sc l r
    | _ => false)
def iniSp (A : Addr) (fl : List Str) : Sp := fun vs H Q _ => ∃ a ws, vs = .ref a :: ws ∧ ws.length = fl.length ∧ H a = some (exo a A none) ∧
  ∀ d fv H2, H d = none → d ≠ a → H2 a = some (exo a A (some d)) → H2 d = some (exd d fv) → (∀ b, b ≠ a → b ≠ d → H2 b = H b) → (∀ f, fv.lookup f = (fl.zip ws).lookup f) → Q .non H2
section
variable {X : Cx} {A : Addr}
theorem ini_tail (T : OexC X.K A) : ∀ (l : List (Str × Nat)) (sts : List Stmt), chkIni X.N X.env.scope l sts = true → (∀ p ∈ l, PySem.W.findIn X.K (.ref A) p.1 = some none) →
    PSs X sts (fun D σ H => ∃ a d fv, a ≠ d ∧ σ[0]? = some (some (.ref a)) ∧ H a = some (exo a A (some d)) ∧ H d = some (exd d fv) ∧ fv.length + l.length ≤ 900 ∧ (∀ p ∈ l, ∃ v, σ[p.2]? = some (some v)) ∧
      ∀ H2, H2 d = some (exd d (putF σ l fv)) → (∀ b, b ≠ d → H2 b = H b) → D.nx σ H2)
  | [], sts, h, _ => by
    have e : sts = [] := by simpa [chkIni] using h
    subst e
    exact PSs.imp pss_nil fun D σ H ⟨a, d, fv, _, h1, h2, h3, h4, h5, k⟩ => k H h3 fun _ _ => rfl
  | (f, j) :: l, sts, h, hn => by
    simp only [chkIni] at h
    split at h
    · rename_i x p1 g p2 y p3 pos r
      simp only [Bool.and_eq_true, decide_eq_true_eq] at h
      obtain ⟨⟨⟨⟨⟨⟨⟨h1, h2⟩, h3⟩, h4⟩, h5⟩, h6⟩, rfl⟩, h8⟩ := h
      obtain ⟨o1, o2, _⟩ := okN_of h5
      obtain ⟨o3, o4, _⟩ := okN_of h6
      refine PSs.imp (pss_cons (ps_ost (X := X) (f := g) (p' := p2) (pos := pos) (pe_var (pos := p1) h1 (vis_of h3) o1 o2) (pe_var (pos := p3) h2 (vis_of h4) o3 o4) rfl) (ini_tail T l r h8 fun p hp => hn p (List.mem_cons_of_mem _ hp))) fun D σ H ⟨a, d, fv, da, k1, k2, k3, k4, k5, k⟩ => ?_
      obtain ⟨v, hv⟩ := k5 _ (List.mem_cons_self)
      refine ⟨v, hv, .ref a, k1, a, A, rfl, T, hn _ (List.mem_cons_self), .inr ⟨d, fv, k2, k3, by simp at k4; omega, ?_⟩⟩
      refine ⟨a, d, (g, v) :: fv, da, k1, by rw [upd_ne da]; exact k2, upd_same, by simp at k4 ⊢; omega, fun p hp => k5 p (List.mem_cons_of_mem _ hp), fun H2 e1 e2 => k H2 ?_ fun b hb => by rw [e2 b hb, upd_ne hb]⟩
      simp only [putF, hv]
      exact e1
    · cases h
theorem ini_body (T : OexC X.K A) (f : Str) (j : Nat) (l : List (Str × Nat)) (sts : List Stmt) (h : chkIni X.N X.env.scope ((f, j) :: l) sts = true) (hn : ∀ p ∈ (f, j) :: l, PySem.W.findIn X.K (.ref A) p.1 = some none) :
    PSs X sts (fun D σ H => ∃ a, σ[0]? = some (some (.ref a)) ∧ H a = some (exo a A none) ∧ l.length ≤ 800 ∧ (∀ p ∈ (f, j) :: l, ∃ v, σ[p.2]? = some (some v)) ∧
      ∀ d H2, H d = none → d ≠ a → H2 a = some (exo a A (some d)) → H2 d = some (exd d (putF σ ((f, j) :: l) [])) → (∀ b, b ≠ a → b ≠ d → H2 b = H b) → D.nx σ H2) := by
  simp only [chkIni] at h
  split at h
  · rename_i x p1 g p2 y p3 pos r
    simp only [Bool.and_eq_true, decide_eq_true_eq] at h
    obtain ⟨⟨⟨⟨⟨⟨⟨h1, h2⟩, h3⟩, h4⟩, h5⟩, h6⟩, rfl⟩, h8⟩ := h
    obtain ⟨o1, o2, _⟩ := okN_of h5
    obtain ⟨o3, o4, _⟩ := okN_of h6
    refine PSs.imp (pss_cons (ps_ost (X := X) (f := g) (p' := p2) (pos := pos) (pe_var (pos := p1) h1 (vis_of h3) o1 o2) (pe_var (pos := p3) h2 (vis_of h4) o3 o4) rfl) (ini_tail T l r h8 fun p hp => hn p (List.mem_cons_of_mem _ hp))) fun D σ H ⟨a, k1, k2, k4, k5, k⟩ => ?_
    obtain ⟨v, hv⟩ := k5 _ (List.mem_cons_self)
    refine ⟨v, hv, .ref a, k1, a, A, rfl, T, hn _ (List.mem_cons_self), .inl ⟨k2, fun d hd da => ?_⟩⟩
    refine ⟨a, d, [(g, v)], Ne.symm da, k1, upd_same, by rw [upd_ne da]; exact upd_same, by simp; omega, fun p hp => k5 p (List.mem_cons_of_mem _ hp), fun H2 e1 e2 => k d H2 hd da ?_ ?_ fun b h1 h2 => ?_⟩
    · rw [e2 a (Ne.symm da)]
      exact upd_same
    · simp only [putF, hv]
      exact e1
    · rw [e2 b h2, upd_ne h1, upd_ne h2]
  · cases h
end
theorem lookup_rev {α : Type} {f : Str} : ∀ {l : List (Str × α)}, (l.map (·.1)).Nodup → l.reverse.lookup f = l.lookup f
  | [], _ => rfl
  | (g, v) :: l, h => by
    rw [List.map_cons, List.nodup_cons] at h
    rw [List.reverse_cons, List.lookup_append, lookup_rev h.2]
    by_cases e : f = g
    · subst e
      have hn : l.lookup f = none := by
        cases q : l.lookup f with
        | none => rfl
        | some u =>
          exact absurd (List.mem_map.mpr ⟨(f, u), PySem.mem_of_lookup q, rfl⟩) h.1
      rw [hn]
      simp [List.lookup]
    · have e' : (f == g) = false := by simpa using e
      simp only [List.lookup, e']
      cases l.lookup f <;> rfl
def flIx (fl : List Str) (k : Nat) : List (Str × Nat) := match fl with
  | [] => []
  | f :: r => (f, k) :: flIx r (k + 1)
theorem putF_rev {σ : Sl} : ∀ {fl : List Str} {ws : List V} {k : Nat} {fv : List (Str × V)}, ws.length = fl.length → (∀ i v, ws[i]? = some v → σ[k + i]? = some (some v)) → putF σ (flIx fl k) fv = (fl.zip ws).reverse ++ fv
  | [], ws, k, fv, hl, h => by cases ws <;> first | rfl | cases hl
  | f :: fl, [], k, fv, hl, h => by cases hl
  | f :: fl, w :: ws, k, fv, hl, h => by
    simp only [flIx, putF]
    have h0 := h 0 w rfl
    rw [show k + 0 = k from rfl] at h0
    rw [h0]
    simp only
    rw [putF_rev (by simpa using hl) fun i v e => by
      have := h (i + 1) v (by simpa using e)
      rw [show k + 1 + i = k + (i + 1) by omega]
      exact this]
    simp
theorem flIx_mem {fl : List Str} {k : Nat} {p : Str × Nat} (h : p ∈ flIx fl k) : p.1 ∈ fl ∧ k ≤ p.2 ∧ p.2 < k + fl.length := by
  induction fl generalizing k with
  | nil => cases h
  | cons f r ih =>
    rcases List.mem_cons.mp h with rfl | h
    · exact ⟨List.mem_cons_self, Nat.le_refl _, by simp⟩
    · obtain ⟨h1, h2, h3⟩ := ih h
      exact ⟨List.mem_cons_of_mem _ h1, by omega, by simp; omega⟩
structure IniC (K : PySem.W.Frag) (A : Addr) (fl : List Str) : Prop where
  T : OexC K A
  nd : fl.Nodup
  le : fl ≠ [] ∧ fl.length ≤ 800
  no : ∀ f ∈ fl, PySem.W.findIn K (.ref A) f = some none
  ini : ∃ (fI : Addr) (name qual : Str) (params : Arguments) (body : List Stmt) (scope : Scope) (dV kV doc pm cdv ct oc : Value) (an od : Option Addr) (osl : Array (Option Value)) (N ps : List Str),
    PySem.W.findIn K (.ref A) "__init__" = some (some (.ref fI)) ∧ PySem.W.typeIn K (.ref fI) = some (.type "function") ∧ K.lookup fI = some ⟨oc, od, .func (PySem.W.fnOf name qual params body scope dV kV doc pm an cdv ct), osl⟩ ∧ PySem.W.codeIn K cdv qual = true ∧
      FnScope N ps scope ∧ ps.length = fl.length + 1 ∧ Binds K (PySem.W.fnOf name qual params body scope dV kV doc pm an cdv ct) ps [] ∧ chkIni N scope (flIx fl 1) body = true
theorem mk_of_ini {X : Cx} {A : Addr} {x : Str} {fl : List Str} (T : IniC X.K A fl) (hr : Room 2 X.A) (hm : X.mg x = some (.ref A)) (hdb : (x == ("__debug__" : Str)) = false) : MkC X A x fl := by
  intro hg pn xe e es ta p pos ha hst hpl
  obtain ⟨fI, name, qual, params, body, scope, dV, kV, doc, pm, cdv, ct, oc, an, od, osl, N, ps, k1, k2, k3, k4, S, k5, k6, k7⟩ := T.ini
  have F : FnOk X.prog X.w X.K X.mg X.base (L2.CX X.prog X.w) 1 fI (PySem.W.fnOf name qual params body scope dV kV doc pm an cdv ct) ps (iniSp A fl) := by
    refine fn_of (N := N) k3 k4 S (fun vs H Q E ⟨a, ws, e, h, _⟩ => by rw [e, k5, List.length_cons, h]) fun A' outer s H vs Q E hr' hsp => ?_
    obtain ⟨a, ws, rfl, h1, h2, k⟩ := hsp
    match fl, T, k7, h1, k, k5 with
    | [], T, _, _, _, _ => exact absurd rfl T.le.1
    | f :: fr, T, k7, h1, k, k5 =>
      have hσ : ∀ i v, (V.ref a :: ws)[i]? = some v → (L2.start N (V.ref a :: ws))[i]? = some (some v) := fun i v e => by
        unfold L2.start
        have hi : i < (V.ref a :: ws).length := (List.getElem?_eq_some_iff.mp e).1
        rw [List.getElem?_append_left (by rw [List.length_map]; exact hi), List.getElem?_map, e]
        rfl
      refine ⟨_, ini_body (X := cxOf (L2.CX X.prog X.w) X.prog X.w X.K X.mg X.base N qual scope fI cdv A' outer s H E) T.T f 1 (flIx fr 2) body k7 (fun p hp => T.no _ (flIx_mem (fl := f :: fr) (k := 1) hp).1), a, hσ 0 _ rfl, h2, ?_, fun p hp => ?_, fun d H2 e1 e2 e3 e4 e5 => ?_⟩
      · have := T.le.2
        have hl : ∀ (l : List Str) (k : Nat), (flIx l k).length = l.length := fun l => by
          induction l with
          | nil => intro k; rfl
          | cons f r ih => intro k; simp [flIx, ih]
        rw [hl]
        simp at this
        omega
      · obtain ⟨_, q1, q2⟩ := flIx_mem (fl := f :: fr) (k := 1) hp
        have hlt : p.2 < (V.ref a :: ws).length := by
          rw [List.length_cons, h1]
          omega
        obtain ⟨v, hv⟩ : ∃ v, (V.ref a :: ws)[p.2]? = some v := ⟨_, List.getElem?_eq_getElem hlt⟩
        exact ⟨v, hσ _ _ hv⟩
      · refine k d _ H2 e1 e2 e3 e4 e5 fun g => ?_
        rw [show ((f, 1) :: flIx fr 2) = flIx (f :: fr) 1 from rfl, putF_rev h1 fun i v e => hσ (1 + i) v (by rw [Nat.add_comm]; simpa using e)]
        rw [List.append_nil]
        refine lookup_rev ?_
        rw [List.map_fst_zip (by omega)]
        exact T.nd
  have hx : Passes (L2.CX X.prog X.w) (X.tr pn xe) (fun _ _ _ => False) := fun pins σ H s e s' I h => by
    obtain ⟨_, _, _, _, _, _, _, _, _, _, _, _, z⟩ := h
    exact z.elim
  intro pins s σ H Q I h
  refine pmk_oex (X := X.tr pn xe) (e := e) (es := es) (dvs := []) T.T k1 k2 F hr k6 .nil hx hg hm (PA.clo ha) hdb hst hpl pins s σ H Q I ⟨_, h, fun vs H1 ⟨q1, q2⟩ => ?_⟩
  refine ⟨by have := T.le.2; omega, fun a ha => ⟨a, vs, by rw [List.append_nil], q1, upd_same, fun d fv H2 e1 e2 e3 e4 e5 e6 => ⟨rfl, d, fv, e3, e4, ?_, ?_⟩⟩⟩
  · rw [upd_ne e2] at e1
    exact e1
  · have e1' : H1 d = none := by
      rw [upd_ne e2] at e1
      exact e1
    have hH : upd (del H2 a) d (.xd fv) = upd H1 d (.xd fv) := by
      funext b
      by_cases hb : b = d
      · subst hb
        rw [upd_same, upd_same]
      · rw [upd_ne hb, upd_ne hb]
        by_cases hba : b = a
        · subst hba
          rw [del_same, ha]
        · rw [del_ne hba, e5 b hba hb, upd_ne hba]
    rw [hH]
    exact q2 d fv e1' e6
end PV
set_option Elab.async false
set_option linter.all false
set_option autoImplicit false
set_option maxRecDepth 100000
set_option maxHeartbeats 4000000
namespace PV
open PySem PySem.Spec PyProof.Rows L2
section
variable {K : PySem.W.Frag} {r r' : RA} {H H0 H' : Hp}
mutual
theorem Rep.down (hp : r <+: r') : ∀ (d : D) (v0 v : V), Rep K r H0 d v0 → Rep K r' H' d v → Rep K r H' d v
  | .non, _, _, _, h => h
  | .bl _, _, _, _, h => h
  | .int _, _, _, _, h => h
  | .str _, _, _, _, h => h
  | .tup ds, v0, v, h0, h => by
    obtain ⟨a0, vs0, _, _, t0⟩ := h0
    obtain ⟨a, vs, e, q, t⟩ := h
    exact ⟨a, vs, e, q, RepL.down hp ds vs0 vs t0 t⟩
  | .ref i, v0, v, h0, h => by
    obtain ⟨a0, w0, e0, _⟩ := h0
    obtain ⟨a, w, e, z⟩ := h
    have hi : i < r.length := (List.getElem?_eq_some_iff.mp e0).1
    refine ⟨a, w, ?_, z⟩
    obtain ⟨t, rfl⟩ := hp
    rw [List.getElem?_append_left hi] at e
    exact e
theorem RepL.down (hp : r <+: r') : ∀ (ds : List D) (vs0 vs : List V), RepL K r H0 ds vs0 → RepL K r' H' ds vs → RepL K r H' ds vs
  | [], _, _, _, h => h
  | d :: ds, vs0, vs, h0, h => by
    obtain ⟨v0, vr0, _, k1, k2⟩ := h0
    obtain ⟨v, vr, e, h1, h2⟩ := h
    exact ⟨v, vr, e, Rep.down hp d v0 v k1 h1, RepL.down hp ds vr0 vr k2 h2⟩
end
theorem RO.down (hp : r <+: r') {a : Addr} {o : MO} (h0 : RO K r H0 a o) (h : RO K r' H' a o) : RO K r H' a o := by
  cases o with
  | lst w xs =>
    cases w with
    | true =>
      obtain ⟨vs0, _, t0⟩ := h0
      obtain ⟨vs, e, t⟩ := h
      exact ⟨vs, e, RepL.down hp xs vs0 vs t0 t⟩
    | false =>
      obtain ⟨vs0, _, t0⟩ := h0
      obtain ⟨vs, e, t⟩ := h
      exact ⟨vs, e, RepL.down hp xs vs0 vs t0 t⟩
  | dct kvs => exact h
  | ins c fs => exact h
theorem pre_at {α : Type} {l l' : List α} (h : l <+: l') {i : Nat} {x : α} (e : l[i]? = some x) : l'[i]? = some x := by
  obtain ⟨t, rfl⟩ := h
  rw [List.getElem?_append_left (List.getElem?_eq_some_iff.mp e).1]
  exact e
theorem Rel.down {M M' : List MO} (hp : r <+: r') (hM : M <+: M') (R0 : Rel K r M H0) (R : Rel K r' M' H') : Rel K r M H' :=
  ⟨R0.len, R0.nd, fun i o a w e q => ⟨(R0.obj i o a w e q).1, RO.down hp (R0.obj i o a w e q).2 (R.obj i o a w (pre_at hM e) (pre_at hp q)).2⟩⟩
theorem Fx.down (f : Fx r H r' H') : Fx r H r H' := ⟨List.prefix_rfl, f.ext, fun a u e n => ⟨(f.frm a u e n).1, n⟩⟩
theorem Rel.downL {M M' : List MO} {p : Nat} {a : Addr} {xs : List D} (hp : r <+: r') (hM : M <+: M') (R0 : Rel K r M H0) (R : Rel K r' M' H') (hn : M.length ≤ p) (e : M'[p]? = some (.lst true xs)) (q : r'[p]? = some (a, true)) (hi : D.immL xs = true) :
    Rel K (r ++ [(a, true)]) (M ++ [.lst true xs]) H' := by
  have fresh : ∀ {i : Nat} {b : Addr}, i < r.length → r[i]? = some (b, true) → b ≠ a := fun {i b} hi z1 z2 => by
    subst z2
    have := R.nd i p b (pre_at hp z1) q
    rw [R0.len] at hi
    omega
  refine ⟨by simp [R0.len], fun i j b q1 q2 => ?_, fun i o b w e1 q1 => ?_⟩
  · rcases snoc_at q1 with ⟨h1, z1⟩ | ⟨h1, z1⟩
    · rcases snoc_at q2 with ⟨h2, z2⟩ | ⟨h2, z2⟩
      · exact R0.nd i j b z1 z2
      · cases z2
        exact absurd rfl (fresh h1 z1)
    · rcases snoc_at q2 with ⟨h2, z2⟩ | ⟨h2, z2⟩
      · cases z1
        exact absurd rfl (fresh h2 z2)
      · omega
  · rcases snoc_at e1 with ⟨h1, z1⟩ | ⟨h1, z1⟩
    · rcases snoc_at q1 with ⟨h2, z2⟩ | ⟨h2, z2⟩
      · obtain ⟨k1, k2⟩ := (Rel.down hp hM R0 R).obj i o b w z1 z2
        exact ⟨k1, k2.mono (List.prefix_append _ _) (Ext.refl _) fun _ => rfl⟩
      · rw [R0.len] at h2
        omega
    · rcases snoc_at q1 with ⟨h2, z2⟩ | ⟨h2, z2⟩
      · rw [R0.len] at h2
        omega
      · cases z2
        subst z1
        obtain ⟨_, vs, e2, t⟩ := R.obj p _ _ _ e q
        exact ⟨rfl, vs, e2, RepL.imm (Ext.refl _) xs vs hi t⟩
theorem Fx.downL {p : Nat} {a : Addr} (f : Fx r H r' H') (q : r'[p]? = some (a, true)) : Fx r H (r ++ [(a, true)]) H' :=
  ⟨List.prefix_append _ _, f.ext, fun b u e n => ⟨(f.frm b u e n).1, fun z => by
    rcases List.mem_append.mp z with z | z
    · exact n z
    · have z' := List.mem_singleton.mp z
      cases z'
      exact (f.frm _ u e n).2 (List.mem_of_getElem? q)⟩⟩
end
theorem fin_ok {K : PySem.W.Frag} {C : Cn} {W : WX} {b : List MO} {s : HS b} {r : RA} {H : Hp} {d : D} {s1 : HS s.M} {o : Out b D} {Q : VK} (R : Rel K r s.M H) (h : fin s d s1 = some o) (post : PostG (RD K) K C W [] r H o Q) :
    ∀ r' H' v, Fx r H r' H' → Rel K r' s1.M H' → Rep K r' H' d v → Q v H' := by
  intro r' H' v fx R1 q
  unfold fin at h
  split at h
  · rename_i hlo
    have hM : s.M <+: s1.M := by
      have := s1.ok
      rw [hlo, List.take_length] at this
      exact this
    split at h
    · rename_i d' x hpl
      cases h
      unfold pull at hpl
      split at hpl
      · rename_i p
        split at hpl
        · cases hpl
        · rename_i hlt
          split at hpl
          · rename_i xs hm
            split at hpl
            · rename_i him
              cases hpl
              obtain ⟨a, w, ha, rfl⟩ := q
              have hw := (R1.obj p _ a w hm ha).1
              have hw' : w = true := hw
              subst hw'
              exact post _ _ _ (fx.downL ha) (R.downL fx.pre hM R1 (by omega) hm ha him) ⟨a, true, by rw [← R.len]; simp, rfl⟩
            · cases hpl
          · cases hpl
      · rename_i d0 hd0
        split at hpl
        · rename_i him
          cases hpl
          refine post r H' v fx.down ?_ (Rep.imm (Ext.refl _) d v him q)
          have e : (s.grow []).M = s.M := List.append_nil _
          rw [e]
          exact Rel.down fx.pre hM R R1
        · cases hpl
    · cases h
      exact post r' H' v fx R1 q
  · cases h
    exact post r' H' v fx R1 q
theorem start_env {K : PySem.W.Frag} {r : RA} {H : Hp} {C : Cn} (hx : C.xg = none) {N : List Str} {ds : List D} {vs : List V} (t : RepL K r H ds vs) : EnvR C K r H (ds.map some ++ List.replicate (N.length - ds.length) none) (L2.start N vs) := by
  have hl := RepL.length t
  refine ⟨by simp [L2.start, hl], fun i d e => ?_, fun _ _ _ _ z => by rw [hx] at z; cases z⟩
  have hi : i < ds.length := by
    by_cases hi : i < ds.length
    · exact hi
    · rw [List.getElem?_append_right (by simpa using hi), List.getElem?_replicate] at e
      split at e <;> cases e
  rw [List.getElem?_append_left (by simpa using hi), List.getElem?_map] at e
  have e' : ds[i]? = some d := by
    cases q : ds[i]? with
    | none => rw [q] at e; cases e
    | some x => rw [q] at e; cases e; rfl
  obtain ⟨v, e1, e2⟩ := t.get e'
  refine ⟨v, ?_, e2⟩
  unfold L2.start
  rw [List.getElem?_append_left (by rw [List.length_map, hl]; exact hi), List.getElem?_map, e1]
  rfl
def Pg.ev (p : Pg) (k : Nat) : Ev := ⟨fun {_} => callF p k, p.fu, p.flds, p.isx, p.mt, p.ar⟩
theorem callF_some {p : Pg} {k : Nat} {b : List MO} {f : Nat} {ds : List D} {s : HS b} {o : Out b D} (h : callF p (k + 1) f ds s = some o) :
    ∃ d, p.tb f = some d ∧ ds.length = d.ps ∧ finish s (exB (p.ev k) none d.body (ds.map some ++ List.replicate (d.n - ds.length) none) (HS.start s.M)) = some o := by
  simp only [callF] at h
  split at h
  · cases h
  · rename_i d hd
    split at h
    · rename_i hl
      exact ⟨d, hd, hl, h⟩
    · cases h
structure NmOk (T : Tb) (pg : Pg) (K : PySem.W.Frag) (mg : Str → Option Value) (f : Nat) (x : Str) (fa : Addr) (fd : FuncData) (ps : List Str) : Prop where
  mq : mg x = some (.ref fa)
  kp : PySem.W.keepIn K (.ref fa) = true
  bd : T.pl f = true → Binds K fd ps []
  ka : ∀ a, pg.ar f = some a → KaOk K fd ps a
  pl : ∀ d, pg.tb f = some d → d.ps = ps.length
  ex : ∃ (oc : Value) (od : Option Addr) (osl : Array (Option Value)) (name qual : Str) (params : Arguments) (body : List Stmt) (scope : Scope) (dV kV doc pm cdv ct : Value) (an : Option Addr) (N : List Str),
    fd = PySem.W.fnOf name qual params body scope dV kV doc pm an cdv ct ∧ K.lookup fa = some ⟨oc, od, .func fd, osl⟩ ∧ PySem.W.codeIn K cdv qual = true ∧ FnScope N ps scope ∧ ∀ d, pg.tb f = some d → d.n = N.length ∧ chkBk T false N scope d.body body = true
structure Dfs (T : Tb) (pg : Pg) (C : Cn) (K : PySem.W.Frag) (mg : Str → Option Value) : Prop where
  xg : C.xg = none
  fu : pg.fu ≤ sizeLine
  gl : ∀ x i, T.gl.lookup x = some i → ∃ t, mg x = some (.int i t)
  fr : ∀ x, x ∈ T.fr → mg x = none
  nm : ∀ f x, T.nm f = some x → ∃ (fa : Addr) (fd : FuncData) (ps : List Str), NmOk T pg K mg f x fa fd ps
  mkx : ∀ c x, T.cn c = some x → mg x = some (.ref (C.ad c)) ∧ (x == ("__debug__" : Str)) = false ∧ IniC K (C.ad c) (pg.flds c)
  mt : ∀ x, x ∈ T.xs → ∃ v, ((x == ("__debug__" : Str)) = false ∧ (mg x = some v ∨ (mg x = none ∧ bootBuiltins x = some v ∧ x ≠ "__name__"))) ∧ ∀ c b, pg.mt c x = some b → PySem.W.exmOne K (.ref (C.ad c)) v = some b
  xc : ∀ c x b, pg.mt c x = some b → XcC K (pg.ev 0) c (C.ad c)
theorem all_g {T : Tb} {pg : Pg} {C : Cn} {K : PySem.W.Frag} {mg : Str → Option Value} (S : Dfs T pg C K mg) {P : Program} {w : World} {base : Heap} : ∀ (k f : Nat) (x : Str) (fa : Addr) (fd : FuncData) (ps : List Str), NmOk T pg K mg f x fa fd ps →
    FnG P w K mg base (k + 2) fa fd ps (spOf K C (fun {_} => callF pg k) f)
  | 0, f, x, fa, fd, ps, hx => by
    have no : ∀ {vs : List V} {H : Hp} {Q : VK} {E : XK}, spOf K C (fun {_} => callF pg 0) f vs H Q E → False := fun ⟨b, s, r, ds, o, R, t, e, q⟩ => by cases e
    exact ⟨fun vs H Q E h => (no h).elim, fun A outer s H args us vs Q E _ _ _ _ _ h => (no h).elim⟩
  | k + 1, f, x, fa, fd, ps, hx => by
    obtain ⟨h1, h2, h3, h3a, h4, oc, od, osl, name, qual, params, body, scope, dV, kV, doc, pm, cdv, ct, an, N, rfl, lk, hcd, sc, hck⟩ := hx
    refine fn_g (k := k + 2) (N := N) lk hcd sc (fun vs H Q E ⟨b, s, r, ds, o, R, t, e, q⟩ => ?_) fun A outer s H vs Q E hr hgd hsp => ?_
    · obtain ⟨d, hd, hl, _⟩ := callF_some e
      rw [RepL.length t, hl, h4 d hd]
    · obtain ⟨b, s0, r, ds, o, R, t, e, q⟩ := hsp
      obtain ⟨d, hd, hl, hf⟩ := callF_some e
      obtain ⟨hn, hc⟩ := hck d hd
      have tk : Takes (cxOf (L2.CX P w) P w K mg base N qual scope fa cdv A outer s H E) (fun cls dd _ H' => E cls dd H') := L2.takes_of rfl rfl rfl rfl
      have G : Gs T (pg.ev k) C false none (fun cls dd _ H' => E cls dd H') (k + 2) (cxOf (L2.CX P w) P w K mg base N qual scope fa cdv A outer s H E) := by
        refine ⟨⟨sc.nd, by have := hr.un; show (A.deeper (envOfC qual scope s.heap.objs.size fa cdv)).units + 200 < _; omega, hgd, S.fu, S.gl, S.fr, fun _ => rfl, fun _ => hr, fun _ => rfl, fun _ => S.xg, tk, fun g y hy => ?_, fun _ _ _ _ _ _ _ _ => no_excf, fun _ _ _ _ _ _ _ _ _ _ _ _ _ _ => no_exci⟩, sc.kind, fun _ => rfl, fun _ => L2.passes_of rfl, rfl, rfl, fun _ c y hy => ?_, S.mt, fun c x b h => ⟨(S.xc c x b h).xf, (S.xc c x b h).no, (S.xc c x b h).is⟩⟩
        · obtain ⟨fa', fd', ps', n⟩ := S.nm g y hy
          exact ⟨k + 2, fa', fd', ps', Nat.le_refl _, n.mq, n.kp, n.bd, n.ka, all_g S (P := P) (w := w) (base := base) k g y fa' fd' ps' n⟩
        · obtain ⟨k1, k2, k3⟩ := S.mkx c y hy
          exact mk_of_ini k3 (hr.mono (by omega)) k1 k2
      refine ⟨_, sndBk d.body G body hc, ?_⟩
      cases hu : exB (pg.ev k) none d.body (ds.map some ++ List.replicate (d.n - ds.length) none) (HS.start s0.M) with
      | none => rw [hu] at hf; cases hf
      | some u =>
        rw [hu] at hf
        refine ⟨s0.M, HS.start s0.M, r, _, u, R, by rw [hn]; exact start_env S.xg t, hu, ?_⟩
        cases u with
        | nx e1 s1 => exact fun r' H' σ' fx R1 _ => fin_ok R hf q r' H' .non fx R1 rfl
        | rt d1 s1 => exact fun r' H' v fx R1 rp => fin_ok R hf q r' H' v fx R1 rp
        | ex c fs e1 s1 =>
          cases hf
          exact fun r' H' dd σ' fx R1 _ xd => q r' H' dd fx R1 xd
end PV
set_option Elab.async false
set_option linter.all false
set_option autoImplicit false
set_option maxRecDepth 100000
set_option maxHeartbeats 4000000
namespace PV
open PySem PySem.Spec PyProof.Rows L2
theorem fm_congr {α β : Type} {f g : α → Option β} : ∀ {l : List α}, (∀ x ∈ l, f x = g x) → l.filterMap f = l.filterMap g
  | [], _ => rfl
  | x :: l, h => by
    rw [List.filterMap_cons, List.filterMap_cons, h x List.mem_cons_self, fm_congr fun y hy => h y (List.mem_cons_of_mem _ hy)]
theorem zip_find {α : Type} : ∀ {ps : List Str} {us : List α}, ps.Nodup → us.length = ps.length → ps.filterMap (fun n => ((ps.zip us).lookup n).map (n, ·)) = ps.zip us
  | [], us, _, _ => by simp
  | p :: ps, [], _, h => by cases h
  | p :: ps, u :: us, nd, h => by
    rw [List.nodup_cons] at nd
    have ih := zip_find (ps := ps) (us := us) nd.2 (by simpa using h)
    rw [List.zip_cons_cons, List.filterMap_cons]
    simp only [List.lookup, beq_self_eq_true, Option.map_some]
    congr 1
    refine (fm_congr fun n hn => ?_).trans ih
    have e : (n == p) = false := by
      simp only [beq_eq_false_iff_ne]
      intro z
      subst z
      exact nd.1 hn
    simp only [e]
theorem zip_miss {α : Type} : ∀ {ps : List Str} {us : List α}, ps.Nodup → us.length = ps.length → ∀ n ∈ ps, (((ps.zip us).lookup n).isNone) = false
  | [], us, _, _, n, hn => by cases hn
  | p :: ps, [], _, h, n, hn => by cases h
  | p :: ps, u :: us, nd, h, n, hn => by
    rw [List.nodup_cons] at nd
    rw [List.zip_cons_cons]
    simp only [List.lookup]
    rcases List.mem_cons.mp hn with rfl | hn
    · simp
    · cases e : (n == p) with
      | true => rfl
      | false => exact zip_miss nd.2 (by simpa using h) n hn
theorem bind_plain {fd : FuncData} {ps : List Str} {us : List Value} (h1 : fd.params.posonlyargs = []) (h2 : fd.params.args.map (·.arg) = ps) (h3 : fd.params.vararg = none) (h4 : fd.params.kwonlyargs = []) (h5 : fd.params.kwarg = none) (h6 : fd.defaults = .none) (nd : ps.Nodup) (hl : us.length = ps.length) :
    bindArgs fd ⟨us, []⟩ = pure (ps.zip us) := by
  have hm : (ps.filter fun n => ((ps.zip us).lookup n).isNone) = [] := by
    rw [List.filter_eq_nil_iff]
    intro n hn
    rw [zip_miss nd hl n hn]
    decide
  unfold bindArgs
  simp only [h1, h2, h3, h4, h5, h6, List.map_nil, List.nil_append, List.append_nil]
  have e1 : seqItems? Value.none = pure none := rfl
  simp [e1, hm, hl, zip_find nd hl]
def oexB (K : PySem.W.Frag) (C : Addr) : Bool := match K.lookup C with
  | some ⟨.type "type", _, .cls cd, sl⟩ => (match cd.mro, sl.toList with
    | .ref C' :: bm, [_, _, _, _, some (.builtin n), _] => C' == C && n == "ValueError.__new__" && !cd.hasDel && cd.hasDict && PySem.HandSPX.refsVE bm
    | _, _ => false)
  | _ => false
theorem oexB_ok {K : PySem.W.Frag} {C : Addr} (q : oexB K C = true) (h1 : PySem.W.findIn K (.ref C) "__setattr__" = some (some (.builtin "object.__setattr__"))) (h2 : PySem.W.subIn K (.ref C) (.type "BaseException") = some true) (h3 : PySem.W.typeIn K (.ref C) = some (.type "type")) (h4 : PySem.W.keepIn K (.ref C) = true) : OexC K C := by
  refine ⟨?_, h1, h2, h3, h4⟩
  unfold oexB at q
  split at q
  · rename_i dd cd sl ho
    split at q
    · rename_i C' bm k0 k1 k2 k3 n k5 hm hs
      simp only [Bool.and_eq_true, beq_iff_eq, Bool.not_eq_true'] at q
      obtain ⟨⟨⟨⟨rfl, rfl⟩, hdel⟩, hdct⟩, ht⟩ := q
      obtain ⟨nm, bs, mro, ns, qn, hd, sn, sub, ab, col, del⟩ := cd
      dsimp only at hm hdel hdct
      subst hm hdel hdct
      have hsl : sl = #[k0, k1, k2, k3, some (.builtin "ValueError.__new__"), k5] := by
        obtain ⟨l⟩ := sl
        simp only at hs
        rw [hs]
      subst hsl
      exact ⟨nm, qn, ns, bs, bm, sn, sub, ab, col, dd, k0, k1, k2, k3, k5, ho, ht⟩
    · cases q
  · cases q
def clsB (K : PySem.W.Frag) (x : Str) (fl : List Str) : Bool := oexB K (He.ga K x) && He.eqO (PySem.W.findIn K (.ref (He.ga K x)) "__setattr__") (some (some (.builtin "object.__setattr__"))) && decide (PySem.W.subIn K (.ref (He.ga K x)) (.type "BaseException") = some true) &&
  decide (PySem.W.typeIn K (.ref (He.ga K x)) = some (.type "type")) && PySem.W.keepIn K (.ref (He.ga K x)) && xfB K (He.ga K x) && (fl.all fun f => He.eqO (PySem.W.findIn K (.ref (He.ga K x)) f) (some none)) &&
  He.eqO (PySem.W.findIn K (.ref (He.ga K x)) "__init__") (some (some (.ref (He.ma K (He.ga K x) "__init__")))) && decide (PySem.W.typeIn K (.ref (He.ma K (He.ga K x) "__init__")) = some (.type "function"))
structure DDef where
  d : He.DefD
  ps : List Str
  N : List Str
structure Lw where
  defs : List (DDef × List CS)
  excs : List (Str × List Str × DDef)
  gls : List (Str × Int)
  frs : List Str
  isx : List (Nat × Str × String)
  mts : List (Nat × Str × Bool)
  xns : List Str
  fu : Nat
def dvD : He.Dv → D
  | .non => .non
  | .bl b => .bl b
  | .int i => .int i
  | .str x => .str x
  | _ => .non
def dvB : He.Dv → Bool
  | .non => true
  | .bl _ => true
  | .int _ => true
  | .str _ => true
  | _ => false
def DDef.arI (d : DDef) : ArI := ⟨d.ps, d.d.params.args.length, ((d.d.params.args.map (·.arg)).drop (d.d.params.args.length - d.d.dfl.length)).zip (d.d.dfl.map dvD) ++ d.d.kwd.map fun q => (q.1, dvD q.2)⟩
def Lw.T (L : Lw) : Tb := ⟨fun f => (L.defs[f]?).map (·.1.d.name), L.gls, L.frs, fun c => (L.excs[c]?).map (·.1), L.xns, fun f => match L.defs[f]? with
  | some p => p.1.d.kwd.isEmpty
  | none => false⟩
def Lw.pg (L : Lw) : Pg := ⟨fun f => (L.defs[f]?).map fun p => ⟨p.1.ps.length, p.1.N.length, p.2⟩, L.fu, fun c => match L.excs[c]? with
  | some e => e.2.1
  | none => [], fun c y => L.isx.any fun p => decide (p.1 = c) && decide (p.2.1 = y), fun c x => (L.mts.find? fun p => decide (p.1 = c) && decide (p.2.1 = x)).map (·.2.2), fun f => (L.defs[f]?).map (·.1.arI)⟩
def Lw.ad (L : Lw) (K : PySem.W.Frag) (c : Nat) : Addr := match L.excs[c]? with
  | some e => He.ga K e.1
  | none => 0
def Lw.own (L : Lw) (x : Str) : Bool := L.excs.any fun e => decide (e.1 = x)
def Lw.xval (L : Lw) (K : PySem.W.Frag) (x : Str) : Value := if L.own x then .ref (He.ga K x) else (bootBuiltins x).getD .none
def Lw.facts (L : Lw) (K : PySem.W.Frag) : Bool :=
  (L.defs.all fun p => (He.Fa.glo p.1.d.name).ok K) && (L.gls.all fun p => (He.Fa.int p.1 p.2).ok K) && (L.frs.all fun x => (He.Fa.free x).ok K) && (L.excs.all fun e => (He.Fa.glo e.1).ok K && clsB K e.1 e.2.1) &&
  (L.isx.all fun p => match L.excs[p.1]? with
    | some e => decide (PySem.W.subIn K (.ref (He.ga K e.1)) (.type p.2.2) = some true)
    | none => false) &&
  (L.mts.all fun p => match L.excs[p.1]? with
    | some e => decide (PySem.W.exmOne K (.ref (He.ga K e.1)) (L.xval K p.2.1) = some p.2.2)
    | none => false)
def scopeB (sc : Scope) (N ps : List Str) : Bool := decide (sc.kind = .function) && !sc.isCoroutine && !sc.isGenerator && decide N.Nodup && decide (N.take ps.length = ps) && (ps.all fun x => decide (sc.names.lookup x = some .local) || decide (sc.names.lookup x = some .cell)) && sc.names.all fun y => decide (y.2 ≠ .free)
theorem scopeB_ok {sc : Scope} {N ps : List Str} (h : scopeB sc N ps = true) : FnScope N ps sc := by
  simp only [scopeB, Bool.and_eq_true, decide_eq_true_eq, Bool.not_eq_true', List.all_eq_true, Bool.or_eq_true] at h
  obtain ⟨⟨⟨⟨⟨⟨h1, h2⟩, h3⟩, h4⟩, h5⟩, h6⟩, h7⟩ := h
  exact ⟨h1, h2, h3, h4, h5, h6, h7⟩
def parB (p : Arguments) (ps : List Str) (dfl : List He.Dv) (kwd : List (Str × He.Dv)) : Bool := p.posonlyargs.isEmpty && decide (p.args.map (·.arg) ++ kwd.map (·.1) = ps) && p.vararg.isNone && decide (p.kwonlyargs.map (·.arg) = kwd.map (·.1)) && p.kwarg.isNone && decide ps.Nodup && decide (dfl.length ≤ p.args.length) && dfl.all dvB && kwd.all fun q => dvB q.2
def DDef.chk (d : DDef) : Bool := parB d.d.params d.ps d.d.dfl d.d.kwd && scopeB d.d.scope d.N d.ps
def Lw.chk (L : Lw) : Bool :=
  (L.defs.all fun p => decide (p.1.d.at_ = (p.1.d.name, none)) && p.1.chk && chkBk L.T false p.1.N p.1.d.scope p.2 p.1.d.body) &&
  (L.excs.all fun e => decide (e.2.2.d.at_ = (e.1, some ("__init__" : Str))) && (e.2.2.chk && e.2.2.d.kwd.isEmpty) && decide (e.2.2.ps.length = e.2.1.length + 1) && chkIni e.2.2.N e.2.2.d.scope (flIx e.2.1 1) e.2.2.d.body && decide e.2.1.Nodup && !e.2.1.isEmpty && decide (e.2.1.length ≤ 800) && !(e.1 == ("__debug__" : Str))) &&
  (L.isx.all fun p => decide (p.2.1 = (p.2.2 : Str)) && decide (bootBuiltins p.2.1 = some (.type p.2.2)) && decide (p.2.1 ≠ ("__name__" : Str)) && !(p.2.1 == ("__debug__" : Str))) &&
  (L.xns.all fun x => !(x == ("__debug__" : Str)) && (L.own x || (L.frs.contains x && (bootBuiltins x).isSome && decide (x ≠ ("__name__" : Str))))) && decide (L.fu ≤ sizeLine)
theorem dv_ok {K : PySem.W.Frag} {d : He.Dv} (h : dvB d = true) : DfV K (dvD d) (d.v K) := by
  cases d <;> first | exact fun _ _ => rfl | cases h
theorem dvs_ok {K : PySem.W.Frag} : ∀ {ds : List He.Dv}, ds.all dvB = true → Paired (DfV K) (ds.map dvD) (ds.map (He.Dv.v K))
  | [], _ => .nil
  | d :: ds, h => by
    rw [List.all_cons, Bool.and_eq_true] at h
    exact .cons (dv_ok h.1) (dvs_ok h.2)
theorem kvs_ok {K : PySem.W.Frag} : ∀ {ds : List (Str × He.Dv)}, (ds.all fun q => dvB q.2) = true → KvR (DfV K) (ds.map fun q => (q.1, dvD q.2)) (ds.map fun q => (q.1, q.2.v K))
  | [], _ => .nil
  | d :: ds, h => by
    rw [List.all_cons, Bool.and_eq_true] at h
    exact .cons ⟨rfl, dv_ok h.1⟩ (kvs_ok h.2)
theorem ka_ok {K : PySem.W.Frag} {d : DDef} {f : Addr} {fd : FuncData} (h : d.chk = true) (F : FunD K d.d.name d.d.qual d.d.params d.d.body d.d.scope (d.d.dvs K) (d.d.kws K) f fd) : KaOk K fd d.ps d.arI := by
  simp only [DDef.chk, parB, Bool.and_eq_true, decide_eq_true_eq, List.isEmpty_iff, Option.isNone_iff_eq_none] at h
  obtain ⟨⟨⟨⟨⟨⟨⟨⟨⟨k1, k2⟩, k3⟩, k4⟩, k5⟩, k6⟩, k7⟩, k8⟩, k9⟩, h4⟩ := h
  obtain ⟨oc, od, dV, kV, doc, pm, an, cdv, ct, osl, rfl, lk, hcd, hD, hK⟩ := F.ex
  have e1 : (d.d.kwd.map fun q => (q.1, dvD q.2)).map (·.1) = d.d.kwd.map (·.1) := by
    rw [List.map_map]
    rfl
  have q := ka_of (K := K) (fd := PySem.W.fnOf d.d.name d.d.qual d.d.params d.d.body d.d.scope dV kV doc pm an cdv ct) (ps := d.d.params.args.map (·.arg)) (dflD := d.d.dfl.map dvD) (kwD := d.d.kwd.map fun q => (q.1, dvD q.2)) k1 rfl k3 (k4.trans e1.symm) k5 hD hK (dvs_ok k8) (kvs_ok k9) (by rw [List.length_map, List.length_map]; exact k7) (by rw [e1, k2]; exact k6)
  rw [e1, k2, List.length_map, List.length_map] at q
  exact q
theorem arrV_self {α : Type} {pn : List Str} {more : List (Str × α)} : ∀ {ns : List Str} {us : List α} {kv : List (Str × α)}, ns.Nodup → us.length = ns.length → (∀ n ∈ ns, kv.lookup n = (ns.zip us ++ more).lookup n) → arrV pn kv ns = some us
  | [], [], _, _, _, _ => rfl
  | [], _ :: _, _, _, h, _ => by cases h
  | n :: ns, [], _, _, h, _ => by cases h
  | n :: ns, u :: us, kv, nd, hl, hk => by
    rw [List.nodup_cons] at nd
    have h0 := hk n List.mem_cons_self
    rw [List.zip_cons_cons, List.cons_append, List.lookup_cons, beq_self_eq_true] at h0
    rw [arrV, h0, arrV_self (more := more) nd.2 (by simpa using hl) fun m hm => ?_]
    have hm' := hk m (List.mem_cons_of_mem _ hm)
    rw [List.zip_cons_cons, List.cons_append, List.lookup_cons] at hm'
    have : (m == n) = false := by
      rw [beq_eq_false_iff_ne]
      intro z
      subst z
      exact nd.1 hm
    rw [this] at hm'
    exact hm'
theorem plain_binds {K : PySem.W.Frag} {d : DDef} {f : Addr} {fd : FuncData} (h : d.chk = true) (hp : d.d.kwd.isEmpty = true) (F : FunD K d.d.name d.d.qual d.d.params d.d.body d.d.scope (d.d.dvs K) (d.d.kws K) f fd) : Binds K fd d.ps [] := by
  obtain ⟨e1, dU, hd, hb⟩ := ka_ok h F
  simp only [DDef.chk, parB, Bool.and_eq_true, decide_eq_true_eq, List.isEmpty_iff, Option.isNone_iff_eq_none] at h hp
  obtain ⟨⟨⟨⟨⟨⟨⟨⟨⟨k1, k2⟩, k3⟩, k4⟩, k5⟩, k6⟩, k7⟩, k8⟩, k9⟩, h4⟩ := h
  rw [hp, List.map_nil, List.append_nil] at k2
  intro s us X hl
  rw [List.append_nil] at hl ⊢
  have q := hb s us [] us [] X (by
    simp only [arrB, DDef.arI]
    have : us.length ≤ d.d.params.args.length := by rw [hl, ← k2, List.length_map]; exact Nat.le_refl _
    simp [this]) rfl (arrV_self (more := dU) (by rw [e1]; exact k6) (by rw [e1]; exact hl) fun n _ => by simp)
  exact q
theorem plain_binds0 {K : PySem.W.Frag} {d : DDef} {f : Addr} {fd : FuncData} (h : d.chk = true) (h1 : d.d.dfl = []) (h2 : d.d.kwd = []) (F : FunD K d.d.name d.d.qual d.d.params d.d.body d.d.scope (d.d.dvs K) (d.d.kws K) f fd) : ∀ (s : Shared) (us : List Value), us.length = d.ps.length → BindsTo s fd ⟨us, []⟩ (d.ps.zip us) := by
  simp only [DDef.chk, parB, Bool.and_eq_true, decide_eq_true_eq, List.isEmpty_iff, Option.isNone_iff_eq_none] at h
  obtain ⟨⟨⟨⟨⟨⟨⟨⟨⟨k1, k2⟩, k3⟩, k4⟩, k5⟩, k6⟩, k7⟩, k8⟩, k9⟩, h4⟩ := h
  rw [h2, List.map_nil, List.append_nil] at k2
  rw [h2, List.map_nil] at k4
  have k4' : d.d.params.kwonlyargs = [] := List.map_eq_nil_iff.mp k4
  obtain ⟨oc, od, dV, kV, doc, pm, an, cdv, ct, osl, rfl, lk, hcd, hD, hK⟩ := F.ex
  intro s us hl
  rcases hD with ⟨_, rfl⟩ | ⟨e, _⟩
  · exact .of_eq (bind_plain k1 k2 k3 k4' k5 rfl k6 hl)
  · exact absurd (show d.d.dvs K = [] by unfold He.DefD.dvs; rw [h1]; rfl) e
theorem Lw.nmOk {L : Lw} {K : PySem.W.Frag} {h : Heap} {mg : Str → Option Value} {f : Nat} {p : DDef × List CS} {fd : FuncData} (X : K.In h) (G : h.Ns mainGlobals mg) (hd : L.defs[f]? = some p) (e2 : p.1.chk = true) (e3 : chkBk L.T false p.1.N p.1.d.scope p.2 p.1.d.body = true) (q1 : (He.Fa.glo p.1.d.name).ok K = true)
    (F : FunD K p.1.d.name p.1.d.qual p.1.d.params p.1.d.body p.1.d.scope (p.1.d.dvs K) (p.1.d.kws K) (He.ga K p.1.d.name) fd) : NmOk L.T L.pg K mg f p.1.d.name (He.ga K p.1.d.name) fd p.1.ps := by
  have F0 := F
  obtain ⟨oc, od, dV, kV, doc, pm, an, cdv, ct, osl, rfl, lk, hcd, hD, hK⟩ := F.ex
  have e4 : scopeB p.1.d.scope p.1.N p.1.ps = true := by
    simp only [DDef.chk, Bool.and_eq_true] at e2
    exact e2.2
  have htb : L.pg.tb f = some ⟨p.1.ps.length, p.1.N.length, p.2⟩ := by
    show (L.defs[f]?).map _ = _
    rw [hd]
    rfl
  refine ⟨He.glo_ok X G q1, F0.kp, fun hpl => ?_, fun a ha => ?_, fun d hd' => ?_, oc, od, osl, _, _, _, _, _, dV, kV, doc, pm, cdv, ct, an, p.1.N, rfl, lk, hcd, scopeB_ok e4, fun d hd' => ?_⟩
  · have hpl' : (match L.defs[f]? with | some p => p.1.d.kwd.isEmpty | none => false) = true := hpl
    rw [hd] at hpl'
    exact plain_binds e2 hpl' F0
  · have ha' : (L.defs[f]?).map (·.1.arI) = some a := ha
    rw [hd] at ha'
    cases ha'
    exact ka_ok e2 F0
  · rw [htb] at hd'
    cases hd'
    rfl
  · rw [htb] at hd'
    cases hd'
    exact ⟨rfl, e3⟩
theorem Lw.dfs {L : Lw} (hc : L.chk = true) (hty : ∀ p ∈ L.isx, typeOf (.type p.2.2) = pure (.type "type")) {K : PySem.W.Frag} {h : Heap} {mg : Str → Option Value} (X : K.In h) (G : h.Ns mainGlobals mg) (hq : L.facts K = true)
    (hF : ∀ p ∈ L.defs, ∃ fd, FunD K p.1.d.name p.1.d.qual p.1.d.params p.1.d.body p.1.d.scope (p.1.d.dvs K) (p.1.d.kws K) (He.fAd K p.1.d.at_) fd)
    (hE : ∀ e ∈ L.excs, ∃ fd, FunD K e.2.2.d.name e.2.2.d.qual e.2.2.d.params e.2.2.d.body e.2.2.d.scope (e.2.2.d.dvs K) (e.2.2.d.kws K) (He.fAd K e.2.2.d.at_) fd) : Dfs L.T L.pg ⟨L.ad K, none⟩ K mg := by
  simp only [Lw.chk, Bool.and_eq_true, decide_eq_true_eq, List.all_eq_true, Bool.not_eq_true'] at hc
  obtain ⟨⟨⟨⟨c1, c2⟩, c3⟩, c4⟩, c5⟩ := hc
  simp only [Lw.facts, Bool.and_eq_true, List.all_eq_true] at hq
  obtain ⟨⟨⟨⟨⟨q1, q2⟩, q3⟩, q4⟩, q5⟩, q6⟩ := hq
  have cls : ∀ e ∈ L.excs, OexC K (He.ga K e.1) ∧ XfC K (He.ga K e.1) ∧ (∀ f ∈ e.2.1, PySem.W.findIn K (.ref (He.ga K e.1)) f = some none) ∧ PySem.W.findIn K (.ref (He.ga K e.1)) "__init__" = some (some (.ref (He.ma K (He.ga K e.1) "__init__"))) ∧ PySem.W.typeIn K (.ref (He.ma K (He.ga K e.1) "__init__")) = some (.type "function") := fun e he => by
    have := (q4 e he).2
    simp only [clsB, Bool.and_eq_true, decide_eq_true_eq, List.all_eq_true] at this
    obtain ⟨⟨⟨⟨⟨⟨⟨⟨a1, a2⟩, a3⟩, a4⟩, a5⟩, a6⟩, a7⟩, a8⟩, a9⟩ := this
    exact ⟨oexB_ok a1 (He.eqO_ok a2) a3 a4 a5, xfB_ok a6, fun f hf => He.eqO_ok (a7 f hf), He.eqO_ok a8, a9⟩
  refine ⟨rfl, c5, fun x i hx => ?_, fun x hx => He.free_ok X G (q3 x hx), fun f x hx => ?_, fun c x hx => ?_, fun x hx => ?_, fun c x b hm => ?_⟩
  · exact He.int_ok X G (q2 (x, i) (PySem.mem_of_lookup hx))
  · have hx' : (L.defs[f]?).map (·.1.d.name) = some x := hx
    cases hd : L.defs[f]? with
    | none => rw [hd] at hx'; cases hx'
    | some p =>
      rw [hd] at hx'
      cases hx'
      have hp := List.mem_of_getElem? hd
      obtain ⟨⟨e1, e2⟩, e3⟩ := c1 p hp
      obtain ⟨fd, F⟩ := hF p hp
      have hfa : He.fAd K p.1.d.at_ = He.ga K p.1.d.name := by rw [e1]; rfl
      rw [hfa] at F
      exact ⟨_, fd, p.1.ps, Lw.nmOk X G hd e2 e3 (q1 p hp) F⟩
  · have hx' : (L.excs[c]?).map (·.1) = some x := hx
    cases hd : L.excs[c]? with
    | none => rw [hd] at hx'; cases hx'
    | some e =>
      rw [hd] at hx'
      cases hx'
      have he := List.mem_of_getElem? hd
      obtain ⟨⟨⟨⟨⟨⟨⟨e1, e2, e2k⟩, e3⟩, e4⟩, e5⟩, e6⟩, e7⟩, e8⟩ := c2 e he
      obtain ⟨a1, a2, a3, a4, a5⟩ := cls e he
      have had : L.ad K c = He.ga K e.1 := by unfold Lw.ad; rw [hd]
      have hfl : L.pg.flds c = e.2.1 := by
        show (match L.excs[c]? with | some e => e.2.1 | none => []) = _
        rw [hd]
      obtain ⟨fd, F⟩ := hE e he
      have F0 := F
      obtain ⟨oc, od, dV, kV, doc, pm, an, cdv, ct, osl, rfl, lk, hcd, hD, hK⟩ := F.ex
      have e9 : scopeB e.2.2.d.scope e.2.2.N e.2.2.ps = true := by
        simp only [DDef.chk, Bool.and_eq_true] at e2
        exact e2.2
      have hfa : He.fAd K e.2.2.d.at_ = He.ma K (He.ga K e.1) "__init__" := by rw [e1]; rfl
      rw [hfa] at lk F0
      show mg e.1 = some (.ref (L.ad K c)) ∧ _ ∧ IniC K (L.ad K c) (L.pg.flds c)
      rw [had, hfl]
      refine ⟨He.glo_ok X G (q4 e he).1, e8, a1, e5, ⟨fun z => ?_, e7⟩, a3, He.ma K (He.ga K e.1) "__init__", _, _, _, _, _, dV, kV, doc, pm, cdv, ct, oc, an, od, osl, e.2.2.N, e.2.2.ps, a4, a5, lk, hcd, scopeB_ok e9, e3, fun s us _ hl => ?_, e4⟩
      · rw [z] at e6
        cases e6
      · exact plain_binds e2 e2k F0 s us ‹_› hl
  · obtain ⟨e1, e2⟩ := c4 x hx
    refine ⟨L.xval K x, ⟨e1, ?_⟩, fun c b hm => ?_⟩
    · unfold Lw.xval
      by_cases ho : L.own x = true
      · rw [if_pos ho]
        obtain ⟨e, he, hn⟩ := List.any_eq_true.mp ho
        have hn' := of_decide_eq_true hn
        subst hn'
        exact .inl (He.glo_ok X G (q4 e he).1)
      · rw [if_neg ho]
        rcases Bool.or_eq_true_iff.mp e2 with z | z
        · exact absurd z ho
        · simp only [Bool.and_eq_true, decide_eq_true_eq] at z
          obtain ⟨⟨z1, z2⟩, z3⟩ := z
          refine .inr ⟨He.free_ok X G (q3 x (by simpa using z1)), ?_, z3⟩
          obtain ⟨v, hv⟩ := Option.isSome_iff_exists.mp z2
          rw [hv]
          rfl
    · have hm' : (L.mts.find? fun p => decide (p.1 = c) && decide (p.2.1 = x)).map (·.2.2) = some b := hm
      cases hf : L.mts.find? fun p => decide (p.1 = c) && decide (p.2.1 = x) with
      | none => rw [hf] at hm'; cases hm'
      | some p =>
        rw [hf] at hm'
        cases hm'
        have h1 := List.find?_some hf
        simp only [Bool.and_eq_true, decide_eq_true_eq] at h1
        obtain ⟨rfl, rfl⟩ := h1
        have h2 := q6 p (List.mem_of_find?_eq_some hf)
        show PySem.W.exmOne K (.ref (L.ad K p.1)) _ = _
        unfold Lw.ad
        split at h2
        · rename_i e he
          exact of_decide_eq_true h2
        · cases h2
  · have hm' : (L.mts.find? fun p => decide (p.1 = c) && decide (p.2.1 = x)).map (·.2.2) = some b := hm
    cases hf : L.mts.find? fun p => decide (p.1 = c) && decide (p.2.1 = x) with
    | none => rw [hf] at hm'; cases hm'
    | some p =>
      have h1 := List.find?_some hf
      simp only [Bool.and_eq_true, decide_eq_true_eq] at h1
      obtain ⟨rfl, rfl⟩ := h1
      have h2 := q6 p (List.mem_of_find?_eq_some hf)
      split at h2
      · rename_i e he
        obtain ⟨a1, a2, a3, a4, a5⟩ := cls e (List.mem_of_getElem? he)
        have had : L.ad K p.1 = He.ga K e.1 := by unfold Lw.ad; rw [he]
        show XcC K (L.pg.ev 0) p.1 (L.ad K p.1)
        rw [had]
        refine ⟨a2, fun f hf => a3 f ?_, fun y hy => ?_⟩
        · have hf' : f ∈ (match L.excs[p.1]? with | some e => e.2.1 | none => []) := hf
          rw [he] at hf'
          exact hf'
        · have hy' : (L.isx.any fun q => decide (q.1 = p.1) && decide (q.2.1 = y)) = true := hy
          obtain ⟨q, hq, hqq⟩ := List.any_eq_true.mp hy'
          simp only [Bool.and_eq_true, decide_eq_true_eq] at hqq
          obtain ⟨z1, rfl⟩ := hqq
          obtain ⟨⟨⟨b1, b2⟩, b3⟩, b4⟩ := c3 q hq
          have h5 := q5 q hq
          rw [z1, he] at h5
          exact ⟨q.2.2, b1, b2, hty q hq, of_decide_eq_true h5, b3, b4⟩
      · cases h2
def Lw.fn (L : Lw) : List He.DefD := L.defs.map (·.1.d) ++ L.excs.map (·.2.2.d)
def Lw.obs (L : Lw) (K : PySem.W.Frag) : He.AlD := (L.facts K && L.fn.all fun d => d.ok K, L.fn.map fun d => He.fnW K d.at_)
def Lw.val (L : Lw) : He.AlD := (true, L.fn.map He.DefD.val)
def Lw.obsG (L : Lw) (n : Nat) (g : Addr → Option Obj) : He.AlD := L.obs (He.frG g (He.asD g n))
def Lw.hook (L : Lw) (n : Nat) : PySem.W.Hook where
  α := He.AlD
  obs := fun s => L.obsG n s.heap.get?
  val := fun _ => L.val
  says := fun _ h => ∃ K : PySem.W.Frag, K.In h ∧ L.obs K = L.val
  of := fun _ _ e => ⟨_, He.frG_in, e⟩
  keeps := fun _ _ _ ⟨K, hK, c⟩ k => ⟨K, PySem.W.Frag.In.keeps hK k, c⟩
def Lw.ob (L : Lw) (n : Nat) (s : PySem.W.SharedT) : He.AlD := L.obsG n (HandSHeadRun.getT s)
theorem Lw.ob_eq (L : Lw) (n : Nat) (s : PySem.W.SharedT) : L.ob n s = (L.hook n).obs s.abs := by
  have e : HandSHeadRun.getT s = s.abs.heap.get? := funext (HandSHeadRun.getT_eq s)
  show L.obsG n _ = L.obsG n _
  rw [e]
theorem Lw.funs {L : Lw} {K : PySem.W.Frag} (c : L.obs K = L.val) : L.facts K = true ∧ ∀ d ∈ L.fn, ∃ fd, FunD K d.name d.qual d.params d.body d.scope (d.dvs K) (d.kws K) (He.fAd K d.at_) fd := by
  have c1 := He.ba (show (L.facts K && L.fn.all fun d => d.ok K) = true from congrArg (fun z : He.AlD => z.1) c)
  have e : L.fn.map (fun d => He.fnW K d.at_) = L.fn.map He.DefD.val := congrArg (fun z : He.AlD => z.2) c
  refine ⟨c1.1, fun d hd => ?_⟩
  have e2 : He.fnW K d.at_ = d.val := List.map_inj_left.mp e d hd
  exact He.DefD.funD e2 (List.all_eq_true.mp c1.2 d hd)
theorem Lw.walk {L : Lw} {l : PySem.W.OpenLaw} {n m f k : Nat} {q : Program} {loose : List Str} {XP : (Str → Option Value) → Heap → Prop} {d : DefRec} {p : DDef × List CS} {x : Str} (hc : L.chk = true) (hty : ∀ p ∈ L.isx, typeOf (.type p.2.2) = pure (.type "type"))
    (hn : l.most = some n) (hn2 : n ≤ sizeLine) (hdf : d.params.defaults = []) (hr : Room (k + 2) callerA) (hf : L.defs[f]? = some p) (hp : p.1.ps = [x]) (hp1 : p.1.d.dfl = []) (hp2 : p.1.d.kwd = []) (hd : d.name = p.1.d.name)
    (ev : ∀ ns : List Int, ns.length ≤ n → (∀ k ∈ ns, Builtin.Int.intBits k ≤ 1048576) → ∃ s, callF L.pg k f [.ref 0] (HS.start [.lst false (ns.map D.int)]) = some (.ok (.bl true) s)) :
    PySem.W.WalkO q loose XP (L.hook m).says l.row.toRowW d [] (fun f vs => PySem.call f vs) := by
  refine Att.attach_callB hn hdf fun w s₀ s₁ mg mb fa o pm cd doc a vs ns G Y ho hdd hcd hmg hobj hints hlen hbits hg => ?_
  obtain ⟨K, KX, c⟩ := Y
  obtain ⟨hq, hfun⟩ := Lw.funs c
  have hm := List.mem_of_getElem? hf
  have S : Dfs L.T L.pg ⟨L.ad K, none⟩ K mg := Lw.dfs hc hty KX G.T.g hq (fun p hp => hfun _ (List.mem_append_left _ (List.mem_map.mpr ⟨p, hp, rfl⟩))) (fun e he => hfun _ (List.mem_append_right _ (List.mem_map.mpr ⟨e, he, rfl⟩)))
  have hck : p.1.chk = true ∧ p.1.d.at_ = (p.1.d.name, none) ∧ chkBk L.T false p.1.N p.1.d.scope p.2 p.1.d.body = true := by
    have hc' := hc
    simp only [Lw.chk, Bool.and_eq_true, decide_eq_true_eq, List.all_eq_true] at hc'
    exact ⟨(hc'.1.1.1.1 p hm).1.2, (hc'.1.1.1.1 p hm).1.1, (hc'.1.1.1.1 p hm).2⟩
  obtain ⟨fd0, F0⟩ := hfun p.1.d (List.mem_append_left _ (List.mem_map.mpr ⟨p, hm, rfl⟩))
  have glo0 : (He.Fa.glo p.1.d.name).ok K = true := by
    have hq' := hq
    simp only [Lw.facts, Bool.and_eq_true, List.all_eq_true] at hq'
    exact hq'.1.1.1.1.1 p hm
  have glo : mg p.1.d.name = some (.ref (He.ga K p.1.d.name)) := He.glo_ok KX G.T.g glo0
  have efa : fa = He.ga K p.1.d.name := by
    rw [hd, glo] at hmg
    cases hmg
    rfl
  have hat : He.fAd K p.1.d.at_ = fa := by
    rw [hck.2.1, efa]
    rfl
  rw [hat] at F0
  have hbind := plain_binds0 hck.1 hp1 hp2 F0
  refine law_g (K := K) (x := x) (fd := fd0) (sp := spOf K ⟨L.ad K, none⟩ (fun {_} => callF L.pg k) f) KX G.T.g G.T.b G.T.builtins G.T.nolimit hg hobj hints (Nat.le_trans hlen hn2) hr (fun base hb hgb => ?_) (fun s u => ?_) fun H hS => ?_
  · have n := Lw.nmOk (mg := mg) KX G.T.g hf hck.1 hck.2.2 glo0 (efa ▸ F0)
    have q := all_g S (P := l.prog) (w := w) (base := base) k f p.1.d.name _ _ _ n
    rw [hp, ← efa] at q
    exact q
  · have := hbind s [u] (by rw [hp]; rfl)
    rw [hp] at this
    exact this
  · obtain ⟨s, e⟩ := ev ns hlen hbits
    refine ⟨_, HS.start [.lst false (ns.map D.int)], [(a, false)], [.ref 0], _, ⟨rfl, fun i j b q1 => ?_, fun i o b w' e1 e2 => ?_⟩, ⟨.ref a, [], rfl, ⟨a, false, rfl, rfl⟩, rfl⟩, e, fun r' H' v _ _ rp => rp⟩
    · match i, q1 with
      | 0, q1 => cases q1
      | i + 1, q1 => cases q1
    · match i, e1, e2 with
      | 0, e1, e2 =>
        cases e1
        cases e2
        refine ⟨rfl, _, hS, ?_⟩
        have : ∀ l : List Int, RepL K [(a, false)] H (l.map D.int) (l.map V.int) := fun l => by
          induction l with
          | nil => rfl
          | cons y l ih => exact ⟨.int y, _, rfl, rfl, ih⟩
        exact this ns
      | i + 1, e1, e2 => cases e1
end PV
set_option Elab.async false
set_option linter.all false
set_option autoImplicit false
set_option maxRecDepth 100000
set_option maxHeartbeats 1000000
namespace PV
open PySem
variable {b : List MO}
theorem HS.ext' {s t : HS b} (h1 : s.M = t.M) (h2 : s.lo = t.lo) : s = t := by
  obtain ⟨M, lo, ok⟩ := s
  obtain ⟨M', lo', ok'⟩ := t
  cases h1
  cases h2
  rfl
@[simp] theorem grow_nil (s : HS b) : s.grow [] = s := HS.ext' (List.append_nil _) rfl
theorem grow_one (s : HS b) (o : MO) : s.grow [o] = s.alloc o := rfl
@[simp] theorem bnd_ok {α β : Type} (a : α) (s : HS b) (f : α → HS b → R b β) : bnd (ret a s) f = f a s := rfl
@[simp] theorem noX_ok {α : Type} (a : α) (s : HS b) : noX (ret a s) = ret a s := rfl
@[simp] theorem lft_ret {α : Type} (e : Env) (a : α) (s : HS b) (f : α → HS b → Option (SR b)) : lft e (ret a s) f = f a s := rfl
@[simp] theorem sq_nx (e : Env) (s : HS b) (f : Env → HS b → Option (SR b)) : sq (some (.nx e s)) f = f e s := rfl
@[simp] theorem sq_rt (d : D) (s : HS b) (f : Env → HS b → Option (SR b)) : sq (some (.rt d s)) f = some (.rt d s) := rfl
@[simp] theorem sq_ex (c : Nat) (fs : List (Str × D)) (e : Env) (s : HS b) (f : Env → HS b → Option (SR b)) : sq (some (.ex c fs e s)) f = some (.ex c fs e s) := rfl
@[simp] theorem alloc_M (s : HS b) (o : MO) : (s.alloc o).M = s.M ++ [o] := rfl
@[simp] theorem alloc_lo (s : HS b) (o : MO) : (s.alloc o).lo = s.lo := rfl
@[simp] theorem set_M (s : HS b) (i : Nat) (o : MO) : (s.set i o).M = s.M.set i o := rfl
@[simp] theorem set_lo (s : HS b) (i : Nat) (o : MO) : (s.set i o).lo = min s.lo i := rfl
@[simp] theorem start_M (M : List MO) : (HS.start M).M = M := rfl
@[simp] theorem start_lo (M : List MO) : (HS.start M).lo = M.length := rfl
@[simp] theorem back_M (s : HS b) (s1 : HS s.M) : (s.back s1).M = s1.M := rfl
@[simp] theorem back_lo (s : HS b) (s1 : HS s.M) : (s.back s1).lo = min s.lo s1.lo := rfl
theorem call_rt {p : Pg} {k f : Nat} {xs : List D} {s : HS b} {d : Fd} {r : D} {s1 : HS s.M} (h1 : p.tb f = some d) (h2 : xs.length = d.ps) (h3 : exB (p.ev k) none d.body (xs.map some ++ List.replicate (d.n - xs.length) none) (HS.start s.M) = some (.rt r s1)) : callF p (k + 1) f xs s = fin s r s1 := by
  simp only [callF, h1, h2, if_true]
  show finish s (exB (p.ev k) none d.body _ _) = _
  rw [← h2, h3]
  rfl
theorem call_nx {p : Pg} {k f : Nat} {xs : List D} {s : HS b} {d : Fd} {e : Env} {s1 : HS s.M} (h1 : p.tb f = some d) (h2 : xs.length = d.ps) (h3 : exB (p.ev k) none d.body (xs.map some ++ List.replicate (d.n - xs.length) none) (HS.start s.M) = some (.nx e s1)) : callF p (k + 1) f xs s = fin s .non s1 := by
  simp only [callF, h1, h2, if_true]
  show finish s (exB (p.ev k) none d.body _ _) = _
  rw [← h2, h3]
  rfl
theorem call_ex {p : Pg} {k f : Nat} {xs : List D} {s : HS b} {d : Fd} {c : Nat} {fs : List (Str × D)} {e : Env} {s1 : HS s.M} (h1 : p.tb f = some d) (h2 : xs.length = d.ps) (h3 : exB (p.ev k) none d.body (xs.map some ++ List.replicate (d.n - xs.length) none) (HS.start s.M) = some (.ex c fs e s1)) : callF p (k + 1) f xs s = some (.ex c fs (s.back s1)) := by
  simp only [callF, h1, h2, if_true]
  show finish s (exB (p.ev k) none d.body _ _) = _
  rw [← h2, h3]
  rfl
theorem fin_imm {s : HS b} {d : D} {s1 : HS s.M} (h1 : s1.lo = s.M.length) (h2 : d.imm = true) : fin s d s1 = ret d s := by
  unfold fin
  rw [if_pos h1]
  have : pull s.M.length s1.M d = some (d, []) := by
    cases d <;> simp_all [pull, D.imm]
  rw [this]
  simp
theorem fin_lst {s : HS b} {i : Nat} {xs : List D} {s1 : HS s.M} (h1 : s1.lo = s.M.length) (h2 : s.M.length ≤ i) (h3 : s1.M[i]? = some (.lst true xs)) (h4 : D.immL xs = true) : fin s (.ref i) s1 = ret (.ref s.M.length) (s.alloc (.lst true xs)) := by
  unfold fin
  rw [if_pos h1]
  have : pull s.M.length s1.M (.ref i) = some (.ref s.M.length, [.lst true xs]) := by
    simp only [pull]
    rw [if_neg (by omega)]
    simp [h3, h4]
  rw [this]
  rfl
theorem fin_keep {s : HS b} {d : D} {s1 : HS s.M} (h1 : s1.lo ≠ s.M.length) : fin s d s1 = ret d (s.back s1) := by
  unfold fin
  rw [if_neg h1]
theorem lcL_pure {at_ : Nat → HS b → Option (Option D)} {turn : D → HS b → R b (Option D)} {s : HS b} {g : D → Option D} {xs : List D} (h1 : ∀ i, at_ i s = some xs[i]?) (h2 : ∀ d ∈ xs, turn d s = ret (g d) s) :
    ∀ (n i : Nat) (acc : List D), xs.length < n + i → i ≤ xs.length → lcL at_ turn n i acc s = ret (acc ++ (xs.drop i).filterMap g) s
  | 0, i, acc, h, hle => by omega
  | n + 1, i, acc, h, hle => by
    simp only [lcL, h1]
    cases e : xs[i]? with
    | none =>
      have hd : xs.drop i = [] := List.drop_eq_nil_of_le (by simpa using e)
      simp [hd]
    | some d =>
      have hi := (List.getElem?_eq_some_iff.mp e).1
      have hd : xs.drop i = d :: xs.drop (i + 1) := by
        rw [List.drop_eq_getElem_cons hi]
        congr 1
        exact (List.getElem?_eq_some_iff.mp e).2
      simp only
      rw [h2 d (List.mem_of_getElem? e), bnd_ok]
      cases hg : g d with
      | none =>
        simp only
        rw [lcL_pure h1 h2 n (i + 1) acc (by omega) hi, hd]
        simp [hg]
      | some y =>
        simp only
        rw [lcL_pure h1 h2 n (i + 1) (acc ++ [y]) (by omega) hi, hd]
        simp [hg]
section
variable {P : Ev} {X : Cur} {e : Env} {s : HS b}
theorem ev_cst (d : D) : evE P X (.cst d) e s = ret d s := rfl
theorem ev_var (i : Nat) : evE P X (.var i) e s = (match e[i]? with | some (some d) => ret d s | _ => none) := rfl
theorem ev_glb (x : Str) (i : Int) : evE P X (.glb x i) e s = ret (.int i) s := rfl
theorem ev_bin (o : B2) (a c : CE) : evE P X (.bin o a c) e s = bnd (evE P X a e s) fun x s1 => bnd (evE P X c e s1) fun y s2 => bin o x y s2 := rfl
theorem ev_neg (a : CE) : evE P X (.neg a) e s = bnd (evE P X a e s) fun x s1 => (match x with | .int i => ret (.int (-i)) s1 | _ => none) := rfl
theorem ev_cmp (o : C2) (a c : CE) : evE P X (.cmp o a c) e s = bnd (evE P X a e s) fun x s1 => bnd (evE P X c e s1) fun y s2 => cmp o x y s2 := rfl
theorem ev_chn (o o2 : C2) (a c d : CE) : evE P X (.chn o o2 a c d) e s = bnd (evE P X a e s) fun x s1 => bnd (evE P X c e s1) fun y s2 => bnd (cmp o x y s2) fun z s3 => (match z with
    | .bl true => bnd (evE P X d e s3) fun w s4 => cmp o2 y w s4
    | .bl false => ret (.bl false) s3
    | _ => none) := rfl
theorem ev_ands (es : List CE) : evE P X (.ands es) e s = evAnd P X es e s := rfl
theorem ev_ors (es : List CE) : evE P X (.ors es) e s = evOr P X es e s := rfl
theorem ev_nt (a : CE) : evE P X (.nt a) e s = bnd (evE P X a e s) fun x s1 => (match truth s1.M x with | some b => ret (.bl (!b)) s1 | none => none) := rfl
theorem ev_ite (c a d : CE) : evE P X (.ite c a d) e s = bnd (evE P X c e s) fun x s1 => (match truth s1.M x with
    | some true => evE P X a e s1
    | some false => evE P X d e s1
    | none => none) := rfl
theorem ev_tup (es : List CE) : evE P X (.tup es) e s = bnd (evL P X es e s) fun xs s1 => if sizeOk xs.length then ret (.tup xs) s1 else none := rfl
theorem ev_lst (es : List CE) : evE P X (.lst es) e s = bnd (evL P X es e s) fun xs s1 => if sizeOk xs.length then ret (.ref s1.M.length) (s1.alloc (.lst true xs)) else none := rfl
theorem ev_dct0 : evE P X .dct0 e s = ret (.ref s.M.length) (s.alloc (.dct [])) := rfl
theorem ev_call (f : Nat) (es : List CE) : evE P X (.call f es) e s = bnd (evL P X es e s) fun xs s1 => P.cf f xs s1 := rfl
theorem ev_callk (f : Nat) (es : List CE) (ks : List Str) (kes : List CE) : evE P X (.callk f es ks kes) e s = (match P.ar f with
    | some a => bnd (evL P X es e s) fun xs s1 => bnd (evL P X kes e s1) fun ys s2 => (match arr a xs ks ys with
      | some zs => P.cf f zs s2
      | none => none)
    | none => none) := rfl
theorem ev_mt (m : MT) (o : CE) (es : List CE) : evE P X (.mt m o es) e s = bnd (evE P X o e s) fun x s1 => if mtOk m s1.M x then bnd (evL P X es e s1) fun xs s2 => meth m x xs s2 else none := rfl
theorem ev_bi (g : BI) (es : List CE) : evE P X (.bi g es) e s = bnd (evL P X es e s) fun xs s1 => PV.call g xs s1 := rfl
theorem ev_idx (a c : CE) : evE P X (.idx a c) e s = bnd (evE P X a e s) fun x s1 => bnd (evE P X c e s1) fun y s2 => index x y s2 := rfl
theorem ev_slc (a : CE) (lo hi : Option CE) : evE P X (.slc a lo hi) e s = bnd (evE P X a e s) fun x s1 => bnd (evO P X lo e s1) fun l s2 => bnd (evO P X hi e s2) fun h s3 => slice x l h s3 := rfl
theorem ev_nil : evL P X [] e s = ret [] s := rfl
theorem ev_cons (a : CE) (r : List CE) : evL P X (a :: r) e s = bnd (evE P X a e s) fun x s1 => bnd (evL P X r e s1) fun xs s2 => ret (x :: xs) s2 := rfl
theorem ev_and1 (a : CE) : evAnd P X [a] e s = bnd (evE P X a e s) fun x s1 => ret x s1 := rfl
theorem ev_and2 (a c : CE) (r : List CE) : evAnd P X (a :: c :: r) e s = bnd (evE P X a e s) fun x s1 => (match truth s1.M x with
      | some true => evAnd P X (c :: r) e s1
      | some false => ret x s1
      | none => none) := rfl
theorem ev_or1 (a : CE) : evOr P X [a] e s = bnd (evE P X a e s) fun x s1 => ret x s1 := rfl
theorem ev_or2 (a c : CE) (r : List CE) : evOr P X (a :: c :: r) e s = bnd (evE P X a e s) fun x s1 => (match truth s1.M x with
      | some true => ret x s1
      | some false => evOr P X (c :: r) e s1
      | none => none) := rfl
theorem ev_if0 : evIf P X [] e s = ret true s := rfl
theorem ev_if1 (c : CE) : evIf P X [c] e s = bnd (evE P X c e s) fun x s1 => (match truth s1.M x with | some b => ret b s1 | none => none) := rfl
theorem lc_pure {tg : Tg} {k : ITk} {src ifs : List CE} {elt : CE} {own : List Nat} {s0 : HS b} {r : Src} {xs : List D} {g : D → Option D} (h1 : (bnd (evL P X src e s) fun xs s1 => srcR k xs s1) = ret r s0) (h2 : ∀ i, r.at i s0 = some xs[i]?)
    (h3 : ∀ d ∈ xs, turnC P tg ifs elt (wipeE e own) d s0 = ret (g d) s0) (h4 : xs.length < P.fu) : evE P X (.lc tg k src ifs elt own) e s = ret (.ref s0.M.length) (s0.alloc (.lst true (xs.filterMap g))) := by
  rw [evE_lc, h1, bnd_ok, lcL_pure h2 h3 P.fu 0 [] (by omega) (Nat.zero_le _), bnd_ok]
  simp
end
def HS.wf (s : HS b) : Prop := s.lo ≤ s.M.length
theorem back_start {s : HS b} (h : s.wf) : s.back (HS.start s.M) = s := HS.ext' rfl (by
  show min s.lo s.M.length = s.lo
  exact Nat.min_eq_left h)
theorem start_wf (M : List MO) : (HS.start M).wf := Nat.le_refl _
theorem alloc_wf {s : HS b} (h : s.wf) (o : MO) : (s.alloc o).wf := by
  show s.lo ≤ (s.M ++ [o]).length
  rw [List.length_append]
  exact Nat.le_trans h (Nat.le_add_right _ _)
section
variable {s : HS b} {i j : Int}
theorem cmp_lt : cmp .lt (.int i) (.int j) s = ret (.bl (decide (i < j))) s := rfl
theorem cmp_le : cmp .le (.int i) (.int j) s = ret (.bl (decide (i ≤ j))) s := rfl
theorem cmp_gt : cmp .gt (.int i) (.int j) s = ret (.bl (decide (j < i))) s := rfl
theorem cmp_ge : cmp .ge (.int i) (.int j) s = ret (.bl (decide (j ≤ i))) s := rfl
theorem cmp_eqi : cmp .eq (.int i) (.int j) s = ret (.bl (i == j)) s := rfl
theorem cmp_nei : cmp .ne (.int i) (.int j) s = ret (.bl (!(i == j))) s := rfl
theorem cmp_isn {x y : Bool} : cmp .isn (.bl x) (.bl y) s = ret (.bl (!decide (x = y))) s := rfl
theorem bin_add : bin .add (.int i) (.int j) s = ret (.int (i + j)) s := rfl
theorem bin_sub : bin .sub (.int i) (.int j) s = ret (.int (i - j)) s := rfl
theorem bin_mul (h : mulOk i j = true) : bin .mul (.int i) (.int j) s = ret (.int (i * j)) s := by simp [bin, h]
theorem bin_mod (h : j ≠ 0) : bin .mod (.int i) (.int j) s = ret (.int (i.fmod j)) s := by simp [bin, h]
theorem bin_fdiv (h : divOk j = true) : bin .fdiv (.int i) (.int j) s = ret (.int (i.fdiv j)) s := by simp [bin, h]
theorem mulOk_right (h : j.natAbs < 2 ^ 64) : mulOk i j = true := by simp [mulOk, h]
theorem mulOk_left (h : i.natAbs < 2 ^ 64) : mulOk i j = true := by simp [mulOk, h]
theorem index_ref {p : Nat} {w : Bool} {xs : List D} {d : D} (h1 : s.M[p]? = some (.lst w xs)) (h2 : L2.atI xs i = some d) : index (.ref p) (.int i) s = ret d s := by simp [index, h1, h2]
theorem index_tup {xs : List D} {d : D} (h2 : L2.atI xs i = some d) : index (.tup xs) (.int i) s = ret d s := by simp [index, h2]
theorem setItem_ref {p k : Nat} {xs : List D} {v : D} (h1 : s.M[p]? = some (.lst true xs)) (h2 : L2.ixN xs.length i = some k) : setItem (.ref p) (.int i) v s = some (s.set p (.lst true (xs.set k v))) := by simp [setItem, h1, h2]
end
end PV
set_option Elab.async false
set_option linter.all false
set_option autoImplicit false
set_option maxRecDepth 100000
set_option maxHeartbeats 1000000
namespace PV
open PySem
variable {b : List MO} {α β : Type}
abbrev XW (b : List MO) := Nat → List (Str × D) → HS b → Prop
def W (x : R b α) (Q : α → HS b → Prop) (E : XW b) : Prop := match x with
  | none => False
  | some (.ok a s) => Q a s
  | some (.ex c fs s) => E c fs s
def X0 : XW b := fun _ _ _ => False
section
variable {x : R b α} {Q Q' : α → HS b → Prop} {E E' : XW b}
theorem W_ret (a : α) (s : HS b) : W (ret a s) Q E = Q a s := rfl
theorem W_ok (a : α) (s : HS b) : W (some (.ok a s)) Q E = Q a s := rfl
theorem W_ex (c : Nat) (fs : List (Str × D)) (s : HS b) : W (some (.ex c fs s)) Q E = E c fs s := rfl
theorem W_bnd {Q : β → HS b → Prop} (f : α → HS b → R b β) : W (bnd x f) Q E = W x (fun a s => W (f a s) Q E) E := by
  cases x with
  | none => rfl
  | some o => cases o <;> rfl
theorem W.mono (h : W x Q E) (hq : ∀ a s, Q a s → Q' a s) (he : ∀ c fs s, E c fs s → E' c fs s) : W x Q' E' := by
  cases x with
  | none => exact h
  | some o =>
    cases o with
    | ok a s => exact hq a s h
    | ex c fs s => exact he c fs s h
theorem W.imp (h : W x Q X0) (hq : ∀ a s, Q a s → Q' a s) : W x Q' E := h.mono hq fun _ _ _ z => z.elim
theorem W.get (h : W x Q X0) : ∃ a s, x = ret a s ∧ Q a s := by
  cases x with
  | none => exact h.elim
  | some o =>
    cases o with
    | ok a s => exact ⟨a, s, rfl, h⟩
    | ex c fs s => exact h.elim
theorem W_noX (h : W x Q X0) : W (noX x) Q E := by
  obtain ⟨a, s, rfl, q⟩ := h.get
  exact q
end
def WS (x : Option (SR b)) (N : Env → HS b → Prop) (T : D → HS b → Prop) (E : Nat → List (Str × D) → Env → HS b → Prop) : Prop := match x with
  | none => False
  | some (.nx e s) => N e s
  | some (.rt d s) => T d s
  | some (.ex c fs e s) => E c fs e s
section
variable {x : Option (SR b)} {N N' : Env → HS b → Prop} {T T' : D → HS b → Prop} {E E' : Nat → List (Str × D) → Env → HS b → Prop}
theorem WS_nx (e : Env) (s : HS b) : WS (some (.nx e s)) N T E = N e s := rfl
theorem WS_rt (d : D) (s : HS b) : WS (some (.rt d s)) N T E = T d s := rfl
theorem WS_ex (c : Nat) (fs : List (Str × D)) (e : Env) (s : HS b) : WS (some (.ex c fs e s)) N T E = E c fs e s := rfl
theorem WS_lft (e : Env) (y : R b α) (f : α → HS b → Option (SR b)) : WS (lft e y f) N T E = W y (fun a s => WS (f a s) N T E) (fun c fs s => E c fs e s) := by
  cases y with
  | none => rfl
  | some o => cases o <;> rfl
theorem WS_sq (f : Env → HS b → Option (SR b)) : WS (sq x f) N T E = WS x (fun e s => WS (f e s) N T E) T E := by
  cases x with
  | none => rfl
  | some o => cases o <;> rfl
theorem WS.mono (h : WS x N T E) (hn : ∀ e s, N e s → N' e s) (ht : ∀ d s, T d s → T' d s) (he : ∀ c fs e s, E c fs e s → E' c fs e s) : WS x N' T' E' := by
  cases x with
  | none => exact h
  | some o =>
    cases o with
    | nx e s => exact hn e s h
    | rt d s => exact ht d s h
    | ex c fs e s => exact he c fs e s h
end
theorem W_call {p : Pg} {k f : Nat} {xs : List D} {s : HS b} {d : Fd} {Q : D → HS b → Prop} {E : XW b} (h1 : p.tb f = some d) (h2 : xs.length = d.ps)
    (h3 : WS (exB (p.ev k) none d.body (xs.map some ++ List.replicate (d.n - xs.length) none) (HS.start s.M)) (fun _ s1 => W (fin s .non s1) Q E) (fun r s1 => W (fin s r s1) Q E) (fun c fs _ s1 => E c fs (s.back s1))) : W (callF p (k + 1) f xs s) Q E := by
  have e : callF p (k + 1) f xs s = finish s (exB (p.ev k) none d.body (xs.map some ++ List.replicate (d.n - xs.length) none) (HS.start s.M)) := by
    simp only [callF, h1, if_pos h2]
    rfl
  rw [e]
  cases h : exB (p.ev k) none d.body (xs.map some ++ List.replicate (d.n - xs.length) none) (HS.start s.M) with
  | none => rw [h] at h3; exact h3
  | some o =>
    rw [h] at h3
    cases o <;> exact h3
theorem forL_W {at_ : Nat → HS b → Option (Option D)} {turn : D → Env → HS b → Option (SR b)} {N : Env → HS b → Prop} {T : D → HS b → Prop} {E : Nat → List (Str × D) → Env → HS b → Prop} (m : Nat) (I : Nat → Env → HS b → Prop)
    (h : ∀ i e s, I i e s → i ≤ m ∧ ((at_ i s = some none ∧ N e s) ∨ (i < m ∧ ∃ d, at_ i s = some (some d) ∧ WS (turn d e s) (I (i + 1)) T E))) : ∀ (n i : Nat) (e : Env) (s : HS b), m < n + i → I i e s → WS (forL at_ turn n i e s) N T E
  | 0, i, e, s, hn, hI => by
    have := (h i e s hI).1
    omega
  | n + 1, i, e, s, hn, hI => by
    obtain ⟨_, ⟨e1, q⟩ | ⟨hm, d, e1, q⟩⟩ := h i e s hI
    · simp only [forL, e1]
      exact q
    · simp only [forL, e1, WS_sq]
      exact q.mono (fun e' s' hI' => forL_W m I h n (i + 1) e' s' (by omega) hI') (fun _ _ z => z) fun _ _ _ _ z => z
theorem whL_W {c : Env → HS b → R b Bool} {body : Env → HS b → Option (SR b)} {N : Env → HS b → Prop} {T : D → HS b → Prop} {E : Nat → List (Str × D) → Env → HS b → Prop} (I : Env → HS b → Prop) (μ : Env → HS b → Nat)
    (h : ∀ e s, I e s → W (c e s) (fun t s1 => (t = true ∧ WS (body e s1) (fun e' s' => I e' s' ∧ μ e' s' < μ e s) T E) ∨ (t = false ∧ N e s1)) (fun cc fs s1 => E cc fs e s1)) : ∀ (n : Nat) (e : Env) (s : HS b), μ e s < n → I e s → WS (whL c body n e s) N T E
  | 0, e, s, hn, hI => by omega
  | n + 1, e, s, hn, hI => by
    simp only [whL, WS_lft]
    refine (h e s hI).mono (fun t s1 q => ?_) fun _ _ _ z => z
    rcases q with ⟨rfl, q⟩ | ⟨rfl, q⟩
    · simp only [if_true, WS_sq]
      exact q.mono (fun e' s' z => whL_W I μ h n e' s' (by omega) z.1) (fun _ _ z => z) fun _ _ _ _ z => z
    · exact q
theorem lcL_W {at_ : Nat → HS b → Option (Option D)} {turn : D → HS b → R b (Option D)} {Q : List D → HS b → Prop} {E : XW b} (m : Nat) (I : Nat → List D → HS b → Prop)
    (h : ∀ i acc s, I i acc s → i ≤ m ∧ ((at_ i s = some none ∧ Q acc s) ∨ (i < m ∧ ∃ d, at_ i s = some (some d) ∧ W (turn d s) (fun r s1 => match r with | some y => I (i + 1) (acc ++ [y]) s1 | none => I (i + 1) acc s1) E))) : ∀ (n i : Nat) (acc : List D) (s : HS b), m < n + i → I i acc s → W (lcL at_ turn n i acc s) Q E
  | 0, i, acc, s, hn, hI => by
    have := (h i acc s hI).1
    omega
  | n + 1, i, acc, s, hn, hI => by
    obtain ⟨_, ⟨e1, q⟩ | ⟨hm, d, e1, q⟩⟩ := h i acc s hI
    · simp only [lcL, e1]
      exact q
    · simp only [lcL, e1, W_bnd]
      refine q.mono (fun r s1 z => ?_) fun _ _ _ z => z
      cases r with
      | some y => exact lcL_W m I h n (i + 1) _ s1 (by omega) z
      | none => exact lcL_W m I h n (i + 1) _ s1 (by omega) z
theorem rngs {n : Int} (h1 : -1000000 ≤ n) (h2 : n ≤ 1000000) (S : HS b) : srcR .range [.int n] S = ret (.rng 0 n.toNat) S := by
  have : src .range S.M [.int n] = some (.rng 0 n.toNat) := by
    unfold src
    dsimp only
    rw [if_pos]
    rw [Bool.and_eq_true, decide_eq_true_eq, decide_eq_true_eq]
    exact ⟨by omega, by omega⟩
  simp only [srcR, this]
theorem rngs2 {n m : Int} (h1 : -1000000 ≤ n) (h2 : n ≤ 1000000) (h3 : -1000000 ≤ m) (h4 : m ≤ 1000000) (S : HS b) : srcR .range2 [.int n, .int m] S = ret (.rng n (m - n).toNat) S := by
  have : src .range2 S.M [.int n, .int m] = some (.rng n (m - n).toNat) := by
    unfold src
    dsimp only
    rw [if_pos]
    rw [Bool.and_eq_true, Bool.and_eq_true, Bool.and_eq_true, decide_eq_true_eq, decide_eq_true_eq, decide_eq_true_eq, decide_eq_true_eq]
    exact ⟨⟨⟨by omega, by omega⟩, by omega⟩, by omega⟩
  simp only [srcR, this]
theorem so_le {n : Nat} (h : n ≤ 100000) : PV.sizeOk n = true := by
  unfold PV.sizeOk
  rw [sizeLine_eq]
  exact decide_eq_true (by omega)
section
variable {P : Ev} {X : Cur} {e : Env} {s : HS b}
theorem ex_nil : exB P X [] e s = some (.nx e s) := rfl
theorem ex_cons (a : CS) (r : List CS) : exB P X (a :: r) e s = sq (exS P X a e s) fun e1 s1 => exB P X r e1 s1 := rfl
theorem ex_exp (a : CE) : exS P X (.exp a) e s = lft e (evE P X a e s) fun _ s1 => some (.nx e s1) := rfl
theorem ex_ret (a : CE) : exS P X (.ret a) e s = lft e (evE P X a e s) fun d s1 => some (.rt d s1) := rfl
theorem ex_set (i : Nat) (a : CE) : exS P X (.set (.nm i) a) e s = lft e (evE P X a e s) fun d s1 => some (.nx (e.set i (some d)) s1) := rfl
theorem ex_setT (is : List Nat) (a : CE) : exS P X (.set (.tp is) a) e s = lft e (evE P X a e s) fun d s1 => (match (Tg.tp is).bindM s1.M d e with | some e1 => some (.nx e1 s1) | none => none) := rfl
theorem ex_par (is : List Nat) (es : List CE) : exS P X (.par is es) e s = lft e (evL P X es e s) fun ds s1 => (match setAll is ds e with | some e1 => some (.nx e1 s1) | none => none) := rfl
theorem ex_aug (i : Nat) (o : B2) (a : CE) : exS P X (.aug i o a) e s = (match e[i]? with
    | some (some x) => lft e (evE P X a e s) fun y s1 => (match x, y with
      | .int _, .int _ => lft e (bin o x y s1) fun z s2 => some (.nx (e.set i (some z)) s2)
      | _, _ => none)
    | _ => none) := rfl
theorem ex_sub (o i a : CE) : exS P X (.sub o i a) e s = lft e (evE P X a e s) fun v s1 => lft e (evE P X o e s1) fun x s2 => lft e (evE P X i e s2) fun y s3 => (match setItem x y v s3 with
    | some s4 => some (.nx e s4)
    | none => none) := rfl
theorem ex_ite (c : CE) (a d : List CS) : exS P X (.ite c a d) e s = lft e (tst (evE P X c e s)) fun t s1 => if t then exB P X a e s1 else exB P X d e s1 := rfl
theorem ex_for (tg : Tg) (k : ITk) (sr : List CE) (body : List CS) : exS P X (.for_ tg k sr body) e s = lft e (bnd (evL P X sr e s) fun xs s1 => srcR k xs s1) fun r s1 => forL r.at (fun d e1 s2 => (match tg.bind d e1 with
        | none => none
        | some e2 => exB P X body e2 s2)) P.fu 0 e s1 := rfl
theorem ex_while (c : CE) (body : List CS) : exS P X (.while_ c body) e s = whL (fun e1 s1 => tst (evE P X c e1 s1)) (fun e1 s1 => exB P X body e1 s1) P.fu e s := rfl
theorem ex_raise (c : Nat) (es : List CE) : exS P X (.raise c es) e s = lft e (evL P X es e s) fun ds s1 => if decide (ds.length = (P.flds c).length) then some (.ex c ((P.flds c).zip ds) e s1) else none := rfl
theorem ex_pass : exS P X .pass e s = some (.nx e s) := rfl
def WH (P : Ev) (c1 : Nat) (fs : List (Str × D)) (e1 : Env) (s1 : HS b) (N : Env → HS b → Prop) (T : D → HS b → Prop) (E : Nat → List (Str × D) → Env → HS b → Prop) : List CH → Prop
  | [] => E c1 fs e1 s1
  | .mk x (some i) suite :: r => (P.mt c1 x = some true ∧ WS (exB P (some (i, c1, fs)) suite (e1.set i none) s1) (fun e2 s2 => N (e2.set i none) s2) T (fun _ _ _ _ => False)) ∨ (P.mt c1 x = some false ∧ WH P c1 fs e1 s1 N T E r)
  | .mk x none suite :: r => (P.mt c1 x = some true ∧ WS (exB P none suite e1 s1) N T (fun _ _ _ _ => False)) ∨ (P.mt c1 x = some false ∧ WH P c1 fs e1 s1 N T E r)
theorem WS_exH {c1 : Nat} {fs : List (Str × D)} {e1 : Env} {s1 : HS b} {N : Env → HS b → Prop} {T : D → HS b → Prop} {E : Nat → List (Str × D) → Env → HS b → Prop} : ∀ {hs : List CH}, WH P c1 fs e1 s1 N T E hs → WS (exH P c1 fs hs e1 s1) N T E
  | [], h => h
  | .mk x (some i) suite :: r, h => by
    rcases h with ⟨h1, h2⟩ | ⟨h1, h2⟩
    · simp only [exH, h1]
      cases hs : exB P (some (i, c1, fs)) suite (e1.set i none) s1 with
      | none => rw [hs] at h2; exact h2
      | some o =>
        rw [hs] at h2
        cases o with
        | nx e2 s2 => exact h2
        | rt d s2 => exact h2
        | ex c2 fs2 e2 s2 => exact h2.elim
    · simp only [exH, h1]
      exact WS_exH h2
  | .mk x none suite :: r, h => by
    rcases h with ⟨h1, h2⟩ | ⟨h1, h2⟩
    · simp only [exH, h1]
      cases hs : exB P none suite e1 s1 with
      | none => rw [hs] at h2; exact h2
      | some o =>
        rw [hs] at h2
        cases o with
        | nx e2 s2 => exact h2
        | rt d s2 => exact h2
        | ex c2 fs2 e2 s2 => exact h2.elim
    · simp only [exH, h1]
      exact WS_exH h2
theorem WS_try {body : List CS} {hs : List CH} {N : Env → HS b → Prop} {T : D → HS b → Prop} {E : Nat → List (Str × D) → Env → HS b → Prop}
    (h : WS (exB P X body e s) N T (fun c1 fs e1 s1 => WH P c1 fs e1 s1 N T E hs)) : WS (exS P X (.try_ body hs) e s) N T E := by
  have q : exS P X (.try_ body hs) e s = (match exB P X body e s with
    | some (.ex c1 fs e1 s1) => exH P c1 fs hs e1 s1
    | y => y) := rfl
  rw [q]
  cases hb : exB P X body e s with
  | none => rw [hb] at h; exact h
  | some o =>
    rw [hb] at h
    cases o with
    | nx e1 s1 => exact h
    | rt d s1 => exact h
    | ex c1 fs e1 s1 => exact WS_exH h
theorem ev_excf (i : Nat) (f : Str) : evE P X (.excf i f) e s = (match X with
    | some (j, c, fs) => if i = j ∧ f ∈ P.flds c then (match e[i]? with
      | some none => (match fs.lookup f with | some d => ret d s | none => none)
      | _ => none) else none
    | none => none) := rfl
theorem ev_exci (i : Nat) (x : Str) : evE P X (.exci i x) e s = (match X with
    | some (j, c, _) => if i = j then (match e[i]? with
      | some none => if P.isx c x then ret (.bl true) s else none
      | _ => none) else none
    | none => none) := rfl
theorem ev_lc (tg : Tg) (k : ITk) (sr ifs : List CE) (elt : CE) (own : List Nat) : evE P X (.lc tg k sr ifs elt own) e s =
    bnd (bnd (evL P X sr e s) fun xs s1 => srcR k xs s1) fun r s1 => bnd (lcL r.at (turnC P tg ifs elt (wipeE e own)) P.fu 0 [] s1) fun ys s2 => ret (.ref s2.M.length) (s2.alloc (.lst true ys)) := rfl
theorem W_tst {x : R b D} {Q : Bool → HS b → Prop} {E : XW b} : W (tst x) Q E = W x (fun d s => W (match truth s.M d with | some k => ret k s | none => none) Q E) E := W_bnd _
end
theorem cf_ev (p : Pg) (k f : Nat) (xs : List D) (s : HS b) : (p.ev k).cf f xs s = callF p k f xs s := rfl
theorem fu_ev (p : Pg) (k : Nat) : (p.ev k).fu = p.fu := rfl
theorem flds_ev (p : Pg) (k : Nat) : (p.ev k).flds = p.flds := rfl
theorem isx_ev (p : Pg) (k : Nat) : (p.ev k).isx = p.isx := rfl
theorem mt_ev (p : Pg) (k : Nat) : (p.ev k).mt = p.mt := rfl
theorem ar_ev (p : Pg) (k : Nat) : (p.ev k).ar = p.ar := rfl
end PV
set_option Elab.async false
set_option linter.all false
set_option autoImplicit false
set_option maxRecDepth 100000
set_option maxHeartbeats 1000000
namespace PV
open PySem
variable {b : List MO}
mutual
def pdD : D → PyData
  | .non => .none
  | .bl b => .bool b
  | .int i => .int i
  | .str x => .str x
  | .tup xs => .tuple (pdL xs)
  | .ref _ => .none
def pdL : List D → List PyData
  | [] => []
  | x :: r => pdD x :: pdL r
end
mutual
theorem deepW_imm (f : Nat → Option PyData) : ∀ d : D, d.imm = true → deepW f d = some (pdD d)
  | .non, _ => rfl
  | .bl _, _ => rfl
  | .int _, _ => rfl
  | .str _, _ => rfl
  | .tup xs, h => by
    have h' : D.immL xs = true := h
    simp only [deepW, deepWL_imm f xs h', Option.map_some, pdD]
  | .ref _, h => by cases h
theorem deepWL_imm (f : Nat → Option PyData) : ∀ ds : List D, D.immL ds = true → deepWL f ds = some (pdL ds)
  | [], _ => rfl
  | d :: ds, h => by
    have h' : d.imm = true ∧ D.immL ds = true := by simpa [D.immL] using h
    simp only [deepWL, deepW_imm f d h'.1, deepWL_imm f ds h'.2, pdL]
end
theorem deep_imm (M : List MO) {d : D} (h : d.imm = true) : deep M d = some (pdD d) := deepW_imm _ d h
theorem deep_lst {M : List MO} {p : Nat} {w : Bool} {xs : List D} (h : M[p]? = some (.lst w xs)) (hi : D.immL xs = true) : deep M (.ref p) = some (.list (pdL xs)) := by
  show deepR M 8 p = _
  simp only [deepR, h, deepWL_imm _ xs hi, Option.map_some]
theorem pdL_map (xs : List D) : pdL xs = xs.map pdD := by
  induction xs with
  | nil => rfl
  | cons x xs ih => simp [pdL, ih]
theorem immL_iff {xs : List D} : D.immL xs = true ↔ ∀ x ∈ xs, x.imm = true := by
  induction xs with
  | nil => simp [D.immL]
  | cons x xs ih => simp [D.immL, ih]
def Str.ok (x : Str) : Prop := ∀ c ∈ x.cps.toList, c < 0x110000
theorem ok_strOk {x : Str} : PyData.strOk x = true ↔ Str.ok x := by
  unfold PyData.strOk Str.ok
  rw [← Array.all_toList, List.all_eq_true]
  simp
theorem ok_app {x y : Str} (hx : Str.ok x) (hy : Str.ok y) : Str.ok (x ++ y) := by
  intro c hc
  have : (x ++ y).cps = x.cps ++ y.cps := rfl
  rw [this, Array.toList_append] at hc
  rcases List.mem_append.mp hc with h | h
  · exact hx c h
  · exact hy c h
theorem ok_of (s : String) : Str.ok (s : Str) := by
  intro c hc
  rw [show ((s : Str)) = PySem.Str.ofString s from rfl, PySem.Str.ofString_eq_toList] at hc
  have hc' : c ∈ s.toList.map Char.toNat := hc
  obtain ⟨ch, _, rfl⟩ := List.mem_map.mp hc'
  have := ch.valid
  rcases this with h | h
  · show ch.val.toNat < _
    have : ch.val.toNat < 0xd800 := h
    omega
  · have : ch.val.toNat < 0x110000 := h.2
    exact this
theorem ok_join {sep : Str} (hs : Str.ok sep) : ∀ {ts : List Str}, (∀ t ∈ ts, Str.ok t) → Str.ok (PySem.Str.join sep ts)
  | [], _ => by
    intro c hc
    cases hc
  | [x], h => h x List.mem_cons_self
  | x :: y :: r, h => ok_app (ok_app (h x List.mem_cons_self) hs) (ok_join hs fun t ht => h t (List.mem_cons_of_mem _ ht))
theorem ok_textFrom : ∀ {ts : List Str} {k : Nat} {acc : Str}, Str.ok acc → (∀ t ∈ ts, Str.ok t) → Str.ok (textFrom k acc ts)
  | [], _, _, ha, _ => ha
  | t :: ts, k, acc, ha, h => by
    show Str.ok (textFrom (k + 1) _ ts)
    exact ok_textFrom (ok_app (ok_app ha (ok_of _)) (h t List.mem_cons_self)) fun t ht => h t (List.mem_cons_of_mem _ ht)
theorem dig16 : ∀ {c n : Nat}, c ∈ (Nat.toDigits 16 n).map Char.toNat → c < 0x110000 := by
  intro c n h
  obtain ⟨ch, _, rfl⟩ := List.mem_map.mp h
  rcases ch.valid with h | h
  · have : ch.val.toNat < 0xd800 := h
    show ch.val.toNat < _
    omega
  · exact h.2
theorem ok_reprChar {q c : Nat} (hc : c < 0x110000) : ∀ x ∈ PySem.Builtin.Str.reprChar q c, x < 0x110000 := by
  have hh : ∀ (w x : Nat), x ∈ (List.replicate (w - ((Nat.toDigits 16 c).map Char.toNat).length) 48 ++ (Nat.toDigits 16 c).map Char.toNat) → x < 0x110000 := fun w x h => by
    rcases List.mem_append.mp h with h | h
    · have := (List.mem_replicate.mp h).2
      omega
    · exact dig16 h
  have h2 : ∀ (a d x : Nat), a < 0x110000 → d < 0x110000 → x ∈ [a, d] → x < 0x110000 := fun a d x ha hd h => by
    rcases List.mem_cons.mp h with rfl | h
    · exact ha
    · have := List.mem_singleton.mp h
      omega
  intro x hx
  unfold PySem.Builtin.Str.reprChar at hx
  dsimp only at hx
  repeat' split at hx
  · exact h2 _ _ _ (by decide) hc hx
  · exact h2 _ _ _ (by decide) (by decide) hx
  · exact h2 _ _ _ (by decide) (by decide) hx
  · exact h2 _ _ _ (by decide) (by decide) hx
  · have := List.mem_singleton.mp hx
    omega
  · rcases List.mem_append.mp hx with h | h
    · exact h2 _ _ _ (by decide) (by decide) h
    · exact hh 2 x h
  · rcases List.mem_append.mp hx with h | h
    · exact h2 _ _ _ (by decide) (by decide) h
    · exact hh 4 x h
  · rcases List.mem_append.mp hx with h | h
    · exact h2 _ _ _ (by decide) (by decide) h
    · exact hh 8 x h
theorem ok_fold (q : Nat) : ∀ {l : List Nat} {acc : Array Nat}, (∀ c ∈ l, c < 0x110000) → (∀ c ∈ acc.toList, c < 0x110000) → ∀ c ∈ (l.foldl (fun out c => out ++ (PySem.Builtin.Str.reprChar q c).toArray) acc).toList, c < 0x110000
  | [], acc, _, ha => ha
  | x :: l, acc, h, ha => by
    rw [List.foldl_cons]
    refine ok_fold q (fun c hc => h c (List.mem_cons_of_mem _ hc)) fun c hc => ?_
    rw [Array.toList_append] at hc
    rcases List.mem_append.mp hc with z | z
    · exact ha c z
    · exact ok_reprChar (h x List.mem_cons_self) c (by simpa using z)
theorem q_lt (x : Str) : reprQuote x < 0x110000 := by
  unfold reprQuote
  split <;> decide
theorem ok_repr {x : Str} (h : Str.ok x) : Str.ok (reprText x) := by
  intro c hc
  unfold reprText at hc
  have hc' : c ∈ ((x.cps.foldl (fun out c => out ++ (PySem.Builtin.Str.reprChar (reprQuote x) c).toArray) #[reprQuote x]).push (reprQuote x)).toList := hc
  rw [Array.toList_push, ← Array.foldl_toList] at hc'
  rcases List.mem_append.mp hc' with z | z
  · refine ok_fold _ h (fun c hc => ?_) c z
    have : c = reprQuote x := by simpa using hc
    rw [this]
    exact q_lt x
  · have := List.mem_singleton.mp z
    rw [this]
    exact q_lt x
mutual
theorem shown_ok : ∀ d : PyData, d.canLay0 = true → Str.ok d.shown
  | .none, _ => by rw [PyData.shown]; exact ok_of _
  | .bool b, _ => by
    rw [PyData.shown]
    split <;> exact ok_of _
  | .int i, _ => by rw [PyData.shown]; exact ok_of _
  | .str x, h => by
    rw [PyData.shown]
    exact ok_repr (ok_strOk.mp (by simpa [PyData.canLay0] using h))
  | .list xs, h => by
    rw [PyData.shown]
    exact ok_app (ok_textFrom (ok_of _) (shownAll_ok xs (by simpa [PyData.canLay0] using h))) (ok_of _)
  | .tuple xs, h => by
    rw [PyData.shown]
    exact ok_app (ok_app (ok_of _) (ok_join (ok_of _) (shownAll_ok xs (by simpa [PyData.canLay0] using h)))) (ok_of _)
  | .dict _, h => by simp [PyData.canLay0] at h
theorem shownAll_ok : ∀ ds : List PyData, PyData.canLayAll0 ds = true → ∀ t ∈ PyData.shownAll ds, Str.ok t
  | [], _, t, ht => by simp [PyData.shownAll] at ht
  | d :: ds, h, t, ht => by
    have h' : d.canLay0 = true ∧ PyData.canLayAll0 ds = true := by simpa [PyData.canLayAll0] using h
    rw [PyData.shownAll] at ht
    rcases List.mem_cons.mp ht with rfl | ht
    · exact shown_ok d h'.1
    · exact shownAll_ok ds h'.2 t ht
end
structure Pl (n : Nat) (d : PyData) : Prop where
  lay : d.canLay0 = true
  dep : d.depth ≤ n
theorem Pl.shaped {n : Nat} {d : PyData} (h : Pl n d) (hn : n ≤ 64) : SeqAt.shaped d = true := by
  simp [SeqAt.shaped, h.lay]
  exact Nat.le_trans h.dep hn
theorem eqD_of {M : List MO} {x y : D} {a c : PyData} {n m : Nat} (h1 : deep M x = some a) (h2 : deep M y = some c) (p1 : Pl n a) (p2 : Pl m c) (hn : n ≤ 64) (hm : m ≤ 64) : eqD M x y = some (PyData.eqv a c) := by
  simp only [eqD, h1, h2, p1.shaped hn, p2.shaped hm, Bool.and_self, if_true]
theorem eqD_self {M : List MO} {x y : D} {a : PyData} {n : Nat} (h1 : deep M x = some a) (h2 : deep M y = some a) (p1 : Pl n a) (hn : n ≤ 64) : eqD M x y = some true := by
  rw [eqD_of h1 h2 p1 p1 hn hn, SeqAt.eqv_refl a p1.lay]
theorem repr_of {x : D} {s : HS b} {d : PyData} (h1 : deep s.M x = some d) (h2 : d.showable = true) (h3 : d.shown.length ≤ 100000) (h4 : d.depth ≤ 64) : PV.call .repr [x] s = ret (.str d.shown) s := by
  simp only [PV.call, h1, h2, so_le h3, h4, decide_true, Bool.and_self, if_true]
structure Sm (d : PyData) : Prop where
  lay : d.canLay0 = true
  sh : d.showable = true
  lv : d.leavesShort 64 = true
  wt : d.weight ≤ 1000
  dep : d.depth ≤ 8
theorem Sm.len {d : PyData} (h : Sm d) : d.shown.length ≤ 100000 := by
  have := PyData.shown_le 64 (by decide) d h.lv
  have := h.wt
  omega
theorem Sm.repr {x : D} {s : HS b} {d : PyData} (h : Sm d) (h1 : deep s.M x = some d) : PV.call .repr [x] s = ret (.str d.shown) s := repr_of h1 h.sh h.len (Nat.le_trans h.dep (by decide))
theorem Sm.pl {d : PyData} (h : Sm d) : Pl 8 d := ⟨h.lay, h.dep⟩
theorem Sm.str {d : PyData} (h : Sm d) : Pl 1 (.str d.shown) := ⟨by simpa [PyData.canLay0] using ok_strOk.mpr (shown_ok d h.lay), by simp [PyData.depth]⟩
end PV
set_option Elab.async false
set_option linter.all false
set_option autoImplicit false
set_option maxRecDepth 100000
set_option maxHeartbeats 1000000
namespace PV
open PySem
variable {b : List MO} {α β : Type} {P : Ev} {X : Cur} {e : Env} {s : HS b} {E : XW b}
def TT (M : List MO) (x : D) (K : Bool → Prop) : Prop := ∃ t, truth M x = some t ∧ K t
section
variable {Q : D → HS b → Prop} {K : Bool → Prop} {M : List MO}
theorem tt_bl {t : Bool} (h : K t) : TT M (.bl t) K := ⟨t, rfl, h⟩
theorem tt_int {i : Int} (h : K (i != 0)) : TT M (.int i) K := ⟨_, rfl, h⟩
theorem tt_tup {xs : List D} (h : K (!xs.isEmpty)) : TT M (.tup xs) K := ⟨_, rfl, h⟩
theorem tt_non (h : K false) : TT M .non K := ⟨_, rfl, h⟩
theorem tt_ref {p : Nat} {w : Bool} {xs : List D} (hm : M[p]? = some (.lst w xs)) (h : K (!xs.isEmpty)) : TT M (.ref p) K := ⟨_, by simp [truth, hm], h⟩
theorem w_ret {a : α} {Q : α → HS b → Prop} (h : Q a s) : W (ret a s) Q E := h
theorem w_cst {d : D} (h : Q d s) : W (evE P X (.cst d) e s) Q E := h
theorem w_var {i : Nat} {d : D} (hi : e[i]? = some (some d)) (h : Q d s) : W (evE P X (.var i) e s) Q E := by
  rw [ev_var, hi]
  exact h
theorem w_glb {x : Str} {i : Int} (h : Q (.int i) s) : W (evE P X (.glb x i) e s) Q E := h
theorem w_bin {o : B2} {a c : CE} (h : W (evE P X a e s) (fun x s1 => W (evE P X c e s1) (fun y s2 => W (bin o x y s2) Q E) E) E) : W (evE P X (.bin o a c) e s) Q E := by
  rw [ev_bin, W_bnd]
  simpa only [W_bnd] using h
theorem w_neg {a : CE} (h : W (evE P X a e s) (fun x s1 => ∃ i, x = .int i ∧ Q (.int (-i)) s1) E) : W (evE P X (.neg a) e s) Q E := by
  rw [ev_neg, W_bnd]
  exact h.mono (fun x s1 ⟨i, z, q⟩ => by subst z; exact q) fun _ _ _ z => z
theorem w_cmp {o : C2} {a c : CE} (h : W (evE P X a e s) (fun x s1 => W (evE P X c e s1) (fun y s2 => W (cmp o x y s2) Q E) E) E) : W (evE P X (.cmp o a c) e s) Q E := by
  rw [ev_cmp, W_bnd]
  simpa only [W_bnd] using h
theorem w_chn {o o2 : C2} {a c d : CE} (h : W (evE P X a e s) (fun x s1 => W (evE P X c e s1) (fun y s2 => W (cmp o x y s2) (fun z s3 => ∃ t, z = .bl t ∧ ((t = true → W (evE P X d e s3) (fun w s4 => W (cmp o2 y w s4) Q E) E) ∧ (t = false → Q (.bl false) s3))) E) E) E) : W (evE P X (.chn o o2 a c d) e s) Q E := by
  rw [ev_chn, W_bnd]
  refine h.mono (fun x s1 h => ?_) fun _ _ _ z => z
  rw [W_bnd]
  refine h.mono (fun y s2 h => ?_) fun _ _ _ z => z
  rw [W_bnd]
  refine h.mono (fun z s3 h => ?_) fun _ _ _ z => z
  obtain ⟨t, rfl, h1, h2⟩ := h
  cases t with
  | true =>
    simp only [W_bnd]
    exact h1 rfl
  | false => exact h2 rfl
theorem w_ands {es : List CE} (h : W (evAnd P X es e s) Q E) : W (evE P X (.ands es) e s) Q E := h
theorem w_ors {es : List CE} (h : W (evOr P X es e s) Q E) : W (evE P X (.ors es) e s) Q E := h
theorem w_and1 {a : CE} (h : W (evE P X a e s) Q E) : W (evAnd P X [a] e s) Q E := by
  rw [ev_and1, W_bnd]
  exact h
theorem w_or1 {a : CE} (h : W (evE P X a e s) Q E) : W (evOr P X [a] e s) Q E := by
  rw [ev_or1, W_bnd]
  exact h
theorem w_and2 {a c : CE} {r : List CE} (h : W (evE P X a e s) (fun x s1 => TT s1.M x fun t => (t = true → W (evAnd P X (c :: r) e s1) Q E) ∧ (t = false → Q x s1)) E) : W (evAnd P X (a :: c :: r) e s) Q E := by
  rw [ev_and2, W_bnd]
  refine h.mono (fun x s1 ⟨t, ht, h1, h2⟩ => ?_) fun _ _ _ z => z
  rw [ht]
  cases t with
  | true => exact h1 rfl
  | false => exact h2 rfl
theorem w_or2 {a c : CE} {r : List CE} (h : W (evE P X a e s) (fun x s1 => TT s1.M x fun t => (t = true → Q x s1) ∧ (t = false → W (evOr P X (c :: r) e s1) Q E)) E) : W (evOr P X (a :: c :: r) e s) Q E := by
  rw [ev_or2, W_bnd]
  refine h.mono (fun x s1 ⟨t, ht, h1, h2⟩ => ?_) fun _ _ _ z => z
  rw [ht]
  cases t with
  | true => exact h1 rfl
  | false => exact h2 rfl
theorem w_nt {a : CE} (h : W (evE P X a e s) (fun x s1 => TT s1.M x fun t => Q (.bl (!t)) s1) E) : W (evE P X (.nt a) e s) Q E := by
  rw [ev_nt, W_bnd]
  refine h.mono (fun x s1 ⟨t, ht, q⟩ => ?_) fun _ _ _ z => z
  rw [ht]
  exact q
theorem w_ite {c a d : CE} (h : W (evE P X c e s) (fun x s1 => TT s1.M x fun t => (t = true → W (evE P X a e s1) Q E) ∧ (t = false → W (evE P X d e s1) Q E)) E) : W (evE P X (.ite c a d) e s) Q E := by
  rw [ev_ite, W_bnd]
  refine h.mono (fun x s1 ⟨t, ht, h1, h2⟩ => ?_) fun _ _ _ z => z
  rw [ht]
  cases t with
  | true => exact h1 rfl
  | false => exact h2 rfl
theorem w_tup {es : List CE} (h : W (evL P X es e s) (fun xs s1 => sizeOk xs.length = true ∧ Q (.tup xs) s1) E) : W (evE P X (.tup es) e s) Q E := by
  rw [ev_tup, W_bnd]
  refine h.mono (fun xs s1 ⟨h1, q⟩ => ?_) fun _ _ _ z => z
  rw [if_pos h1]
  exact q
theorem w_lst {es : List CE} (h : W (evL P X es e s) (fun xs s1 => sizeOk xs.length = true ∧ Q (.ref s1.M.length) (s1.alloc (.lst true xs))) E) : W (evE P X (.lst es) e s) Q E := by
  rw [ev_lst, W_bnd]
  refine h.mono (fun xs s1 ⟨h1, q⟩ => ?_) fun _ _ _ z => z
  rw [if_pos h1]
  exact q
theorem w_dct0 (h : Q (.ref s.M.length) (s.alloc (.dct []))) : W (evE P X .dct0 e s) Q E := h
theorem w_call {f : Nat} {es : List CE} (h : W (evL P X es e s) (fun xs s1 => W (P.cf f xs s1) Q E) E) : W (evE P X (.call f es) e s) Q E := by
  rw [ev_call, W_bnd]
  exact h
theorem w_bi {g : BI} {es : List CE} (h : W (evL P X es e s) (fun xs s1 => W (PV.call g xs s1) Q E) E) : W (evE P X (.bi g es) e s) Q E := by
  rw [ev_bi, W_bnd]
  exact h
theorem w_callk {f : Nat} {es kes : List CE} {ks : List Str} {a : ArI} (ha : P.ar f = some a) (h : W (evL P X es e s) (fun xs s1 => W (evL P X kes e s1) (fun ys s2 => ∃ zs, arr a xs ks ys = some zs ∧ W (P.cf f zs s2) Q E) E) E) : W (evE P X (.callk f es ks kes) e s) Q E := by
  rw [ev_callk, ha]
  dsimp only
  rw [W_bnd]
  refine h.mono (fun xs s1 h => ?_) fun _ _ _ z => z
  rw [W_bnd]
  refine h.mono (fun ys s2 ⟨zs, hz, h⟩ => ?_) fun _ _ _ z => z
  rw [hz]
  exact h
theorem w_mt {m : MT} {o : CE} {es : List CE} (h : W (evE P X o e s) (fun x s1 => mtOk m s1.M x = true ∧ W (evL P X es e s1) (fun xs s2 => W (meth m x xs s2) Q E) E) E) : W (evE P X (.mt m o es) e s) Q E := by
  rw [ev_mt, W_bnd]
  refine h.mono (fun x s1 ⟨h1, h2⟩ => ?_) fun _ _ _ z => z
  rw [if_pos h1, W_bnd]
  exact h2
theorem w_app {p : Nat} {ys : List D} {v : D} (hp : s.M[p]? = some (.lst true ys)) (hz : sizeOk (ys.length + 1) = true) (h : Q .non (s.set p (.lst true (ys ++ [v])))) : W (meth .append (.ref p) [v] s) Q E := by
  simp only [meth, hp, hz, if_true]
  exact h
theorem mt_app {M : List MO} {p : Nat} {ys : List D} (hp : M[p]? = some (.lst true ys)) : mtOk .append M (.ref p) = true := by
  simp only [mtOk, hp]
theorem w_idx {a c : CE} (h : W (evE P X a e s) (fun x s1 => W (evE P X c e s1) (fun y s2 => W (index x y s2) Q E) E) E) : W (evE P X (.idx a c) e s) Q E := by
  rw [ev_idx, W_bnd]
  simpa only [W_bnd] using h
theorem w_slc {a : CE} {lo hi : Option CE} (h : W (evE P X a e s) (fun x s1 => W (evO P X lo e s1) (fun l s2 => W (evO P X hi e s2) (fun h s3 => W (slice x l h s3) Q E) E) E) E) : W (evE P X (.slc a lo hi) e s) Q E := by
  rw [ev_slc, W_bnd]
  simpa only [W_bnd] using h
theorem w_o0 {Q : Option Int → HS b → Prop} (h : Q none s) : W (evO P X none e s) Q E := h
theorem w_o1 {a : CE} {Q : Option Int → HS b → Prop} (h : W (evE P X a e s) (fun x s1 => ∃ i, x = .int i ∧ Q (some i) s1) E) : W (evO P X (some a) e s) Q E := by
  rw [show evO P X (some a) e s = bnd (evE P X a e s) fun x s1 => (match x with
    | .int i => ret (some i) s1
    | _ => none) from rfl, W_bnd]
  exact h.mono (fun x s1 ⟨i, z, q⟩ => by subst z; exact q) fun _ _ _ z => z
theorem w_nil {Q : List D → HS b → Prop} (h : Q [] s) : W (evL P X [] e s) Q E := h
theorem w_cons {a : CE} {r : List CE} {Q : List D → HS b → Prop} (h : W (evE P X a e s) (fun x s1 => W (evL P X r e s1) (fun xs s2 => Q (x :: xs) s2) E) E) : W (evL P X (a :: r) e s) Q E := by
  rw [ev_cons, W_bnd]
  simpa only [W_bnd, W_ret] using h
theorem w_if0 {Q : Bool → HS b → Prop} (h : Q true s) : W (evIf P X [] e s) Q E := h
theorem w_if1 {c : CE} {Q : Bool → HS b → Prop} (h : W (evE P X c e s) (fun x s1 => TT s1.M x fun t => Q t s1) E) : W (evIf P X [c] e s) Q E := by
  rw [ev_if1, W_bnd]
  refine h.mono (fun x s1 ⟨t, ht, q⟩ => ?_) fun _ _ _ z => z
  rw [ht]
  exact q
theorem w_lc {tg : Tg} {k : ITk} {sr ifs : List CE} {elt : CE} {own : List Nat} (h : W (evL P X sr e s) (fun xs s1 => W (srcR k xs s1) (fun r s2 => W (lcL r.at (turnC P tg ifs elt (wipeE e own)) P.fu 0 [] s2) (fun ys s3 => Q (.ref s3.M.length) (s3.alloc (.lst true ys))) E) E) E) : W (evE P X (.lc tg k sr ifs elt own) e s) Q E := by
  rw [ev_lc, W_bnd, W_bnd]
  simpa only [W_bnd, W_ret] using h
theorem w_turn {tg : Tg} {ifs : List CE} {elt : CE} {d : D} {e1 : Env} {Q : Option D → HS b → Prop} (hb : tg.bind d e = some e1) (h : W (evIf P none ifs e1 s) (fun t s1 => (t = true → W (evE P none elt e1 s1) (fun y s2 => Q (some y) s2) X0) ∧ (t = false → Q none s1)) X0) : W (turnC P tg ifs elt e d s) Q E := by
  unfold turnC
  refine W_noX ?_
  simp only [hb]
  rw [W_bnd]
  refine h.mono (fun t s1 ⟨h1, h2⟩ => ?_) fun _ _ _ z => z
  cases t with
  | true =>
    simp only [if_true, W_bnd, W_ret]
    exact h1 rfl
  | false => exact h2 rfl
theorem w_excf {i c : Nat} {fs : List (Str × D)} {f : Str} {d : D} (h1 : f ∈ P.flds c) (h2 : e[i]? = some none) (h3 : fs.lookup f = some d) (h : Q d s) : W (evE P (some (i, c, fs)) (.excf i f) e s) Q E := by
  simp only [ev_excf, h1, h2, h3, and_self, if_true]
  exact h
theorem w_exci {i c : Nat} {fs : List (Str × D)} {x : Str} (h1 : P.isx c x = true) (h2 : e[i]? = some none) (h : Q (.bl true) s) : W (evE P (some (i, c, fs)) (.exci i x) e s) Q E := by
  simp only [ev_exci, h1, h2, if_true]
  exact h
section
variable {i j : Int}
theorem w_lt (h : Q (.bl (decide (i < j))) s) : W (cmp .lt (.int i) (.int j) s) Q E := h
theorem w_le (h : Q (.bl (decide (i ≤ j))) s) : W (cmp .le (.int i) (.int j) s) Q E := h
theorem w_gt (h : Q (.bl (decide (j < i))) s) : W (cmp .gt (.int i) (.int j) s) Q E := h
theorem w_ge (h : Q (.bl (decide (j ≤ i))) s) : W (cmp .ge (.int i) (.int j) s) Q E := h
theorem w_eqi (h : Q (.bl (i == j)) s) : W (cmp .eq (.int i) (.int j) s) Q E := h
theorem w_nei (h : Q (.bl (!(i == j))) s) : W (cmp .ne (.int i) (.int j) s) Q E := h
theorem w_eqD {x y : D} {t : Bool} (hq : eqD s.M x y = some t) (h : Q (.bl t) s) : W (cmp .eq x y s) Q E := by
  simp only [cmp, hq]
  exact h
theorem w_neD {x y : D} {t : Bool} (hq : eqD s.M x y = some t) (h : Q (.bl (!t)) s) : W (cmp .ne x y s) Q E := by
  simp only [cmp, hq]
  exact h
theorem w_isb {x y : Bool} (h : Q (.bl (decide (x = y))) s) : W (cmp .is (.bl x) (.bl y) s) Q E := h
theorem w_isnb {x y : Bool} (h : Q (.bl (!decide (x = y))) s) : W (cmp .isn (.bl x) (.bl y) s) Q E := h
theorem w_add (h : Q (.int (i + j)) s) : W (bin .add (.int i) (.int j) s) Q E := h
theorem w_sub (h : Q (.int (i - j)) s) : W (bin .sub (.int i) (.int j) s) Q E := h
theorem w_mul (hm : mulOk i j = true) (h : Q (.int (i * j)) s) : W (bin .mul (.int i) (.int j) s) Q E := by
  rw [bin_mul hm]
  exact h
theorem w_mod (hm : j ≠ 0) (h : Q (.int (i.fmod j)) s) : W (bin .mod (.int i) (.int j) s) Q E := by
  rw [bin_mod hm]
  exact h
theorem w_fdiv (hm : divOk j = true) (h : Q (.int (i.fdiv j)) s) : W (bin .fdiv (.int i) (.int j) s) Q E := by
  rw [bin_fdiv hm]
  exact h
theorem w_addT {xs ys : List D} (hz : sizeOk (xs.length + ys.length) = true) (h : Q (.tup (xs ++ ys)) s) : W (bin .add (.tup xs) (.tup ys) s) Q E := by
  simp only [bin, hz, if_true]
  exact h
theorem w_addL {p q : Nat} {xs ys : List D} (hp : s.M[p]? = some (.lst true xs)) (hq : s.M[q]? = some (.lst true ys)) (hz : sizeOk (xs.length + ys.length) = true) (h : Q (.ref s.M.length) (s.alloc (.lst true (xs ++ ys)))) : W (bin .add (.ref p) (.ref q) s) Q E := by
  simp only [bin, hp, hq, hz, if_true]
  exact h
theorem w_ixr {p : Nat} {w : Bool} {xs : List D} {d : D} (h1 : s.M[p]? = some (.lst w xs)) (h2 : L2.atI xs i = some d) (h : Q d s) : W (index (.ref p) (.int i) s) Q E := by
  rw [index_ref h1 h2]
  exact h
theorem w_ixt {xs : List D} {d : D} (h2 : L2.atI xs i = some d) (h : Q d s) : W (index (.tup xs) (.int i) s) Q E := by
  rw [index_tup h2]
  exact h
theorem w_slT {xs : List D} {lo hi : Option Int} (h : Q (.tup (cutD xs lo hi)) s) : W (slice (.tup xs) lo hi s) Q E := h
theorem w_slL {p : Nat} {w : Bool} {xs : List D} {lo hi : Option Int} (hp : s.M[p]? = some (.lst w xs)) (h : Q (.ref s.M.length) (s.alloc (.lst true (cutD xs lo hi)))) : W (slice (.ref p) lo hi s) Q E := by
  simp only [slice, hp]
  exact h
end
theorem w_len {x : D} {ys : List D} (hi : items s.M x = some ys) (h : Q (.int ys.length) s) : W (PV.call .len [x] s) Q E := by
  simp only [PV.call, hi]
  exact h
theorem w_sum {x : D} {ys : List D} {ns : List Int} (hi : items s.M x = some ys) (hn : asInts ys = some ns) (h : Q (.int ns.sum) s) : W (PV.call .sum [x] s) Q E := by
  simp only [PV.call, hi, hn]
  exact h
theorem w_tuple {x : D} {ys : List D} (hi : items s.M x = some ys) (h : Q (.tup ys) s) : W (PV.call .tuple [x] s) Q E := by
  simp only [PV.call, hi]
  exact h
theorem w_list {x : D} {ys : List D} (hi : items s.M x = some ys) (h : Q (.ref s.M.length) (s.alloc (.lst true ys))) : W (PV.call .list [x] s) Q E := by
  simp only [PV.call, hi]
  exact h
theorem w_all {p : Nat} {w : Bool} {ys : List D} {bs : List Bool} (hp : s.M[p]? = some (.lst w ys)) (hn : asBools ys = some bs) (h : Q (.bl (bs.all id)) s) : W (PV.call .all [.ref p] s) Q E := by
  simp only [PV.call, hp, hn]
  exact h
theorem w_any {p : Nat} {w : Bool} {ys : List D} {bs : List Bool} (hp : s.M[p]? = some (.lst w ys)) (hn : asBools ys = some bs) (h : Q (.bl (bs.any id)) s) : W (PV.call .any [.ref p] s) Q E := by
  simp only [PV.call, hp, hn]
  exact h
theorem w_isi {t : TyC} {x : D} {k : Bool} (hi : isTy s.M t x = some k) (h : Q (.bl k) s) : W (PV.call (.isi t) [x] s) Q E := by
  simp only [PV.call, hi]
  exact h
theorem w_max {i j : Int} (h : Q (.int (if j > i then j else i)) s) : W (PV.call .max2 [.int i, .int j] s) Q E := h
theorem w_min {i j : Int} (h : Q (.int (if j < i then j else i)) s) : W (PV.call .min2 [.int i, .int j] s) Q E := h
theorem w_intb {t : Bool} (h : Q (.int (if t then 1 else 0)) s) : W (PV.call .int [.bl t] s) Q E := h
theorem w_inti {i : Int} (h : Q (.int i) s) : W (PV.call .int [.int i] s) Q E := h
theorem w_abs {i : Int} (h : Q (.int (if i < 0 then -i else i)) s) : W (PV.call .abs [.int i] s) Q E := h
theorem w_repr {x : D} {d : PyData} (hd : deep s.M x = some d) (hm : Sm d) (h : Q (.str d.shown) s) : W (PV.call .repr [x] s) Q E := by
  rw [hm.repr hd]
  exact h
theorem w_reprB {t : Bool} (h : Q (.str (if t then "True" else "False")) s) : W (PV.call .repr [.bl t] s) Q E := by
  have e : PV.call .repr [.bl t] s = ret (.str (PyData.bool t).shown) s := repr_of (d := .bool t) rfl rfl (by cases t <;> decide) (by cases t <;> decide)
  rw [e]
  rw [PyData.shown]
  exact h
end
section
variable {N : Env → HS b → Prop} {T : D → HS b → Prop} {EE : Nat → List (Str × D) → Env → HS b → Prop}
theorem z_nil (h : N e s) : WS (exB P X [] e s) N T EE := h
theorem z_cons {a : CS} {r : List CS} (h : WS (exS P X a e s) (fun e1 s1 => WS (exB P X r e1 s1) N T EE) T EE) : WS (exB P X (a :: r) e s) N T EE := by
  rw [ex_cons, WS_sq]
  exact h
theorem z_exp {a : CE} (h : W (evE P X a e s) (fun _ s1 => N e s1) (fun c fs s1 => EE c fs e s1)) : WS (exS P X (.exp a) e s) N T EE := by
  rw [ex_exp, WS_lft]
  exact h
theorem z_ret {a : CE} (h : W (evE P X a e s) T (fun c fs s1 => EE c fs e s1)) : WS (exS P X (.ret a) e s) N T EE := by
  rw [ex_ret, WS_lft]
  exact h
theorem z_set {i : Nat} {a : CE} (h : W (evE P X a e s) (fun d s1 => N (e.set i (some d)) s1) (fun c fs s1 => EE c fs e s1)) : WS (exS P X (.set (.nm i) a) e s) N T EE := by
  rw [ex_set, WS_lft]
  exact h
theorem z_setT {is : List Nat} {a : CE} (h : W (evE P X a e s) (fun d s1 => ∃ e1, (Tg.tp is).bindM s1.M d e = some e1 ∧ N e1 s1) (fun c fs s1 => EE c fs e s1)) : WS (exS P X (.set (.tp is) a) e s) N T EE := by
  rw [ex_setT, WS_lft]
  exact h.mono (fun d s1 ⟨e1, z, q⟩ => by rw [z]; exact q) fun _ _ _ z => z
theorem z_par {is : List Nat} {es : List CE} (h : W (evL P X es e s) (fun ds s1 => ∃ e1, setAll is ds e = some e1 ∧ N e1 s1) (fun c fs s1 => EE c fs e s1)) : WS (exS P X (.par is es) e s) N T EE := by
  rw [ex_par, WS_lft]
  exact h.mono (fun d s1 ⟨e1, z, q⟩ => by rw [z]; exact q) fun _ _ _ z => z
theorem z_aug {i : Nat} {o : B2} {a : CE} {x : Int} (hx : e[i]? = some (some (.int x))) (h : W (evE P X a e s) (fun y s1 => ∃ j, y = .int j ∧ W (bin o (.int x) (.int j) s1) (fun z s2 => N (e.set i (some z)) s2) (fun c fs s1 => EE c fs e s1)) (fun c fs s1 => EE c fs e s1)) : WS (exS P X (.aug i o a) e s) N T EE := by
  rw [ex_aug, hx]
  dsimp only
  rw [WS_lft]
  refine h.mono (fun y s1 ⟨j, z, q⟩ => ?_) fun _ _ _ z => z
  subst z
  dsimp only
  rw [WS_lft]
  exact q
theorem z_sub {o i a : CE} (h : W (evE P X a e s) (fun v s1 => W (evE P X o e s1) (fun x s2 => W (evE P X i e s2) (fun y s3 => ∃ s4, setItem x y v s3 = some s4 ∧ N e s4) (fun c fs s1 => EE c fs e s1)) (fun c fs s1 => EE c fs e s1)) (fun c fs s1 => EE c fs e s1)) : WS (exS P X (.sub o i a) e s) N T EE := by
  rw [ex_sub, WS_lft]
  refine h.mono (fun v s1 h => ?_) fun _ _ _ z => z
  rw [WS_lft]
  refine h.mono (fun x s2 h => ?_) fun _ _ _ z => z
  rw [WS_lft]
  refine h.mono (fun y s3 ⟨s4, z, q⟩ => ?_) fun _ _ _ z => z
  rw [z]
  exact q
theorem z_ite {c : CE} {a d : List CS} (h : W (evE P X c e s) (fun x s1 => TT s1.M x fun t => (t = true → WS (exB P X a e s1) N T EE) ∧ (t = false → WS (exB P X d e s1) N T EE)) (fun c fs s1 => EE c fs e s1)) : WS (exS P X (.ite c a d) e s) N T EE := by
  rw [ex_ite, WS_lft, W_tst]
  refine h.mono (fun x s1 ⟨t, ht, h1, h2⟩ => ?_) fun _ _ _ z => z
  rw [ht]
  cases t with
  | true => exact h1 rfl
  | false => exact h2 rfl
theorem z_for {tg : Tg} {k : ITk} {sr : List CE} {body : List CS} (h : W (evL P X sr e s) (fun xs s1 => W (srcR k xs s1) (fun r s2 => WS (forL r.at (fun d e1 s2 => (match tg.bind d e1 with
        | none => none
        | some e2 => exB P X body e2 s2)) P.fu 0 e s2) N T EE) (fun c fs s1 => EE c fs e s1)) (fun c fs s1 => EE c fs e s1)) : WS (exS P X (.for_ tg k sr body) e s) N T EE := by
  rw [ex_for, WS_lft, W_bnd]
  exact h
theorem z_turn {tg : Tg} {body : List CS} {d : D} {e1 : Env} (hb : tg.bind d e = some e1) (h : WS (exB P X body e1 s) N T EE) : WS (match tg.bind d e with
        | none => none
        | some e2 => exB P X body e2 s) N T EE := by
  rw [hb]
  exact h
theorem z_raise {c : Nat} {es : List CE} (h : W (evL P X es e s) (fun ds s1 => ds.length = (P.flds c).length ∧ EE c ((P.flds c).zip ds) e s1) (fun c fs s1 => EE c fs e s1)) : WS (exS P X (.raise c es) e s) N T EE := by
  rw [ex_raise, WS_lft]
  refine h.mono (fun ds s1 ⟨h1, q⟩ => ?_) fun _ _ _ z => z
  rw [if_pos (decide_eq_true h1)]
  exact q
theorem z_pass (h : N e s) : WS (exS P X .pass e s) N T EE := h
theorem z_its {xs : List D} {turn : D → Env → HS b → Option (SR b)} {fu : Nat} (I : Nat → Env → HS b → Prop) (h0 : I 0 e s) (hf : xs.length < fu) (hs : ∀ i d e1 s1, xs[i]? = some d → I i e1 s1 → WS (turn d e1 s1) (I (i + 1)) T EE) (hn : ∀ e1 s1, I xs.length e1 s1 → N e1 s1) : WS (forL (Src.its xs).at turn fu 0 e s) N T EE := by
  refine forL_W xs.length (fun i e s => i ≤ xs.length ∧ I i e s) (fun i e1 s1 ⟨hi, h⟩ => ⟨hi, ?_⟩) fu 0 e s hf ⟨Nat.zero_le _, h0⟩
  by_cases hl : i < xs.length
  · refine .inr ⟨hl, xs[i], by simp [Src.at, hl], (hs i _ e1 s1 (by simp [hl]) h).mono (fun e2 s2 z => ⟨hl, z⟩) (fun _ _ z => z) fun _ _ _ _ z => z⟩
  · have : i = xs.length := by omega
    subst this
    exact .inl ⟨by simp [Src.at], hn e1 s1 h⟩
theorem z_rng {lo : Int} {m : Nat} {turn : D → Env → HS b → Option (SR b)} {fu : Nat} (I : Nat → Env → HS b → Prop) (h0 : I 0 e s) (hf : m < fu) (hs : ∀ i e1 s1, i < m → I i e1 s1 → WS (turn (.int (lo + i)) e1 s1) (I (i + 1)) T EE) (hn : ∀ e1 s1, I m e1 s1 → N e1 s1) : WS (forL (Src.rng lo m).at turn fu 0 e s) N T EE := by
  refine forL_W m (fun i e s => i ≤ m ∧ I i e s) (fun i e1 s1 ⟨hi, h⟩ => ⟨hi, ?_⟩) fu 0 e s hf ⟨Nat.zero_le _, h0⟩
  by_cases hl : i < m
  · exact .inr ⟨hl, .int (lo + i), by simp [Src.at, hl], (hs i e1 s1 hl h).mono (fun e2 s2 z => ⟨hl, z⟩) (fun _ _ z => z) fun _ _ _ _ z => z⟩
  · have : i = m := by omega
    subst this
    exact .inl ⟨by simp [Src.at], hn e1 s1 h⟩
theorem z_live {p : Nat} {xs : List D} {turn : D → Env → HS b → Option (SR b)} {fu : Nat} (I : Nat → Env → HS b → Prop) (h0 : I 0 e s) (hf : xs.length < fu) (hl : ∀ i e1 s1, I i e1 s1 → ∃ w, s1.M[p]? = some (.lst w xs)) (hs : ∀ i d e1 s1, xs[i]? = some d → I i e1 s1 → WS (turn d e1 s1) (I (i + 1)) T EE) (hn : ∀ e1 s1, I xs.length e1 s1 → N e1 s1) : WS (forL (Src.live p).at turn fu 0 e s) N T EE := by
  refine forL_W xs.length (fun i e s => i ≤ xs.length ∧ I i e s) (fun i e1 s1 ⟨hi, h⟩ => ⟨hi, ?_⟩) fu 0 e s hf ⟨Nat.zero_le _, h0⟩
  obtain ⟨w, hm⟩ := hl i e1 s1 h
  by_cases hl : i < xs.length
  · refine .inr ⟨hl, xs[i], by simp [Src.at, hm, hl], (hs i _ e1 s1 (by simp [hl]) h).mono (fun e2 s2 z => ⟨hl, z⟩) (fun _ _ z => z) fun _ _ _ _ z => z⟩
  · have : i = xs.length := by omega
    subst this
    exact .inl ⟨by simp [Src.at, hm], hn e1 s1 h⟩
end
section
variable {p : Pg} {k f : Nat} {xs : List D} {Q : D → HS b → Prop}
theorem w_cf (h : W (callF p k f xs s) Q E) : W ((p.ev k).cf f xs s) Q E := h
theorem w_eq {x y : R b α} {Q : α → HS b → Prop} (h : x = y) (q : W y Q E) : W x Q E := h ▸ q
theorem w_is {x : R b α} {a : α} {s' : HS b} {Q : α → HS b → Prop} (h : x = ret a s') (q : Q a s') : W x Q E := by rw [h]; exact q
theorem w_raises {x : R b α} {c : Nat} {fs : List (Str × D)} {s' : HS b} {Q : α → HS b → Prop} (h : x = some (.ex c fs s')) (q : E c fs s') : W x Q E := by rw [h]; exact q
theorem f_imm {s1 : HS s.M} {d : D} (h1 : s1.lo = s.M.length) (h2 : d.imm = true) (h : Q d s) : W (fin s d s1) Q E := by
  rw [fin_imm h1 h2]
  exact h
theorem f_lst {s1 : HS s.M} {i : Nat} {ys : List D} (h1 : s1.lo = s.M.length) (h2 : s.M.length ≤ i) (h3 : s1.M[i]? = some (.lst true ys)) (h4 : D.immL ys = true) (h : Q (.ref s.M.length) (s.alloc (.lst true ys))) : W (fin s (.ref i) s1) Q E := by
  rw [fin_lst h1 h2 h3 h4]
  exact h
theorem f_keep {s1 : HS s.M} {d : D} (h1 : s1.lo ≠ s.M.length) (h : Q d (s.back s1)) : W (fin s d s1) Q E := by
  rw [fin_keep h1]
  exact h
end
section
variable {Q : D → HS b → Prop}
theorem w_lenT {ys : List D} (h : Q (.int ys.length) s) : W (PV.call .len [.tup ys] s) Q E := h
theorem w_listT {ys : List D} (h : Q (.ref s.M.length) (s.alloc (.lst true ys))) : W (PV.call .list [.tup ys] s) Q E := h
theorem w_tupleT {ys : List D} (h : Q (.tup ys) s) : W (PV.call .tuple [.tup ys] s) Q E := h
end
theorem w_lcp {xs : List D} {turn : D → HS b → R b (Option D)} {n : Nat} {Q : List D → HS b → Prop} (g : D → Option D) (hf : xs.length < n) (h : ∀ d ∈ xs, W (turn d s) (fun r s1 => r = g d ∧ s1 = s) X0) (q : Q (xs.filterMap g) s) : W (lcL (Src.its xs).at turn n 0 [] s) Q E := by
  refine w_is (lcL_pure (g := g) (xs := xs) (fun i => rfl) (fun d hd => ?_) n 0 [] (by omega) (Nat.zero_le _)) ?_
  · obtain ⟨a, s1, e, rfl, rfl⟩ := (h d hd).get
    exact e
  · simpa using q
theorem w_lcpl {p : Nat} {w : Bool} {xs : List D} {turn : D → HS b → R b (Option D)} {n : Nat} {Q : List D → HS b → Prop} (g : D → Option D) (hp : s.M[p]? = some (.lst w xs)) (hf : xs.length < n) (h : ∀ d ∈ xs, W (turn d s) (fun r s1 => r = g d ∧ s1 = s) X0) (q : Q (xs.filterMap g) s) : W (lcL (Src.live p).at turn n 0 [] s) Q E := by
  refine w_is (lcL_pure (g := g) (xs := xs) (fun i => by simp [Src.at, hp]) (fun d hd => ?_) n 0 [] (by omega) (Nat.zero_le _)) ?_
  · obtain ⟨a, s1, e, rfl, rfl⟩ := (h d hd).get
    exact e
  · simpa using q
theorem w_srcL {q : Nat} {w : Bool} {xs : List D} {Q : Src → HS b → Prop} (hq : s.M[q]? = some (.lst w xs)) (h : Q (.live q) s) : W (srcR .val [.ref q] s) Q E := by
  have e : srcR .val [.ref q] s = ret (.live q) s := by simp only [srcR, src, hq]
  exact w_is e h
theorem w_srcT {xs : List D} {Q : Src → HS b → Prop} (h : Q (.its xs) s) : W (srcR .val [.tup xs] s) Q E := h
theorem w_srcZ {xs ys : List D} {Q : Src → HS b → Prop} (h : Q (.its (List.zipWith (fun x y => .tup [x, y]) xs ys)) s) : W (srcR .zip [.tup xs, .tup ys] s) Q E := h
theorem w_srcZS {xs ys : List D} {Q : Src → HS b → Prop} (hl : xs.length = ys.length) (h : Q (.its (List.zipWith (fun x y => .tup [x, y]) xs ys)) s) : W (srcR .zipS [.tup xs, .tup ys] s) Q E := by
  have e : srcR .zipS [.tup xs, .tup ys] s = ret (.its (List.zipWith (fun x y => .tup [x, y]) xs ys)) s := by simp only [srcR, src, hl, if_true]
  exact w_is e h
theorem w_srcR {n : Int} {Q : Src → HS b → Prop} (h1 : -1000000 ≤ n) (h2 : n ≤ 1000000) (h : Q (.rng 0 n.toNat) s) : W (srcR .range [.int n] s) Q E := w_is (rngs h1 h2 s) h
theorem w_srcR2 {n m : Int} {Q : Src → HS b → Prop} (h1 : -1000000 ≤ n) (h2 : n ≤ 1000000) (h3 : -1000000 ≤ m) (h4 : m ≤ 1000000) (h : Q (.rng n (m - n).toNat) s) : W (srcR .range2 [.int n, .int m] s) Q E := w_is (rngs2 h1 h2 h3 h4 s) h
theorem x_int {i : Int} {K : Int → Prop} (h : K i) : ∃ j, D.int i = .int j ∧ K j := ⟨i, rfl, h⟩
theorem x_bl {i : Bool} {K : Bool → Prop} (h : K i) : ∃ j, D.bl i = .bl j ∧ K j := ⟨i, rfl, h⟩
theorem x_set {is : List Nat} {ds : List D} {e e1 : Env} {K : Env → Prop} (h : setAll is ds e = some e1) (q : K e1) : ∃ e1, setAll is ds e = some e1 ∧ K e1 := ⟨e1, h, q⟩
theorem x_bind {t : Tg} {d : D} {e e1 : Env} {K : Env → Prop} (h : t.bind d e = some e1) (q : K e1) : ∃ e1, t.bind d e = some e1 ∧ K e1 := ⟨e1, h, q⟩
theorem x_bindT {is : List Nat} {ds : List D} {M : List MO} {e e1 : Env} {K : Env → Prop} (h : setAll is ds e = some e1) (q : K e1) : ∃ e1, (Tg.tp is).bindM M (.tup ds) e = some e1 ∧ K e1 := ⟨e1, h, q⟩
theorem x_bindL {is : List Nat} {p : Nat} {w : Bool} {ds : List D} {M : List MO} {e e1 : Env} {K : Env → Prop} (hp : M[p]? = some (.lst w ds)) (h : setAll is ds e = some e1) (q : K e1) : ∃ e1, (Tg.tp is).bindM M (.ref p) e = some e1 ∧ K e1 := ⟨e1, by simp only [Tg.bindM, hp]; exact h, q⟩
theorem x_so {n : Nat} {K : Prop} (h : n ≤ 100000) (q : K) : sizeOk n = true ∧ K := ⟨so_le h, q⟩
theorem c_t {A B : Prop} (h : A) : (true = true → A) ∧ (true = false → B) := ⟨fun _ => h, fun z => (nomatch z)⟩
theorem c_f {A B : Prop} (h : B) : (false = true → A) ∧ (false = false → B) := ⟨fun z => (nomatch z), fun _ => h⟩
theorem c_d {p : Prop} [Decidable p] {A B : Prop} (h1 : p → A) (h2 : ¬ p → B) : (decide p = true → A) ∧ (decide p = false → B) := ⟨fun z => h1 (of_decide_eq_true z), fun z => h2 (of_decide_eq_false z)⟩
theorem c_n {t : Bool} {A B : Prop} (h : (t = true → B) ∧ (t = false → A)) : ((!t) = true → A) ∧ ((!t) = false → B) := by
  cases t
  · exact ⟨fun _ => h.2 rfl, fun z => (nomatch z)⟩
  · exact ⟨fun z => (nomatch z), fun _ => h.1 rfl⟩
theorem c_b {i j : Int} {A B : Prop} (h1 : i = j → A) (h2 : i ≠ j → B) : ((i == j) = true → A) ∧ ((i == j) = false → B) := ⟨fun z => h1 (by simpa using z), fun z => h2 (by simpa using z)⟩
end PV
local macro_rules | `(tactic| walk_at "w1") => `(tactic| first | (with_reducible refine PV.w_cst ?_) | ((with_reducible refine PV.w_var (d := ?wd) ?wv ?_); (case wv => rfl)) | (with_reducible refine PV.w_glb ?_) | (with_reducible refine PV.w_bin ?_) | (with_reducible refine PV.w_neg ?_) | (with_reducible refine PV.w_cmp ?_) | (with_reducible refine PV.w_chn ?_) | (with_reducible refine PV.w_ands ?_) | (with_reducible refine PV.w_ors ?_) | (with_reducible refine PV.w_and1 ?_) | (with_reducible refine PV.w_or1 ?_) | (with_reducible refine PV.w_and2 ?_) | (with_reducible refine PV.w_or2 ?_) | (with_reducible refine PV.w_nt ?_) | (with_reducible refine PV.w_ite ?_) | (with_reducible refine PV.w_tup ?_) | (with_reducible refine PV.w_lst ?_) | (with_reducible refine PV.w_dct0 ?_) | (with_reducible refine PV.w_call ?_) | (with_reducible refine PV.w_bi ?_) | (with_reducible refine PV.w_mt ?_) | (with_reducible refine PV.w_idx ?_) | (with_reducible refine PV.w_slc ?_) | (with_reducible refine PV.w_o0 ?_) | (with_reducible refine PV.w_o1 ?_) | (with_reducible refine PV.w_nil ?_) | (with_reducible refine PV.w_cons ?_) | (with_reducible refine PV.w_if0 ?_) | (with_reducible refine PV.w_if1 ?_) | (with_reducible refine PV.w_lc ?_) | (with_reducible refine PV.w_lt ?_) | (with_reducible refine PV.w_le ?_) | (with_reducible refine PV.w_gt ?_) | (with_reducible refine PV.w_ge ?_) | (with_reducible refine PV.w_eqi ?_) | (with_reducible refine PV.w_nei ?_) | (with_reducible refine PV.w_isb ?_) | (with_reducible refine PV.w_isnb ?_) | (with_reducible refine PV.w_add ?_) | (with_reducible refine PV.w_sub ?_) | (with_reducible refine PV.w_slT ?_) | (with_reducible refine PV.w_max ?_) | (with_reducible refine PV.w_min ?_) | (with_reducible refine PV.w_intb ?_) | (with_reducible refine PV.w_inti ?_) | (with_reducible refine PV.w_abs ?_) | (with_reducible refine PV.w_reprB ?_) | (with_reducible refine PV.tt_bl ?_) | (with_reducible refine PV.tt_int ?_) | (with_reducible refine PV.tt_tup ?_) | (with_reducible refine PV.tt_non ?_) | (with_reducible refine PV.z_nil ?_) | (with_reducible refine PV.z_cons ?_) | (with_reducible refine PV.z_exp ?_) | (with_reducible refine PV.z_ret ?_) | (with_reducible refine PV.z_set ?_) | (with_reducible refine PV.z_setT ?_) | (with_reducible refine PV.z_par ?_) | (with_reducible refine PV.z_sub ?_) | (with_reducible refine PV.z_ite ?_) | (with_reducible refine PV.z_for ?_) | (with_reducible refine PV.z_raise ?_) | (with_reducible refine PV.z_pass ?_) | (with_reducible refine PV.w_cf ?_) | (with_reducible refine PV.w_srcT ?_) | (with_reducible refine PV.w_srcZ ?_) | (with_reducible refine PV.w_lenT ?_) | (with_reducible refine PV.w_listT ?_) | (with_reducible refine PV.w_tupleT ?_) | (with_reducible refine PV.x_int ?_) | (with_reducible refine PV.x_bl ?_) | ((with_reducible refine PV.x_so ?wz ?_); (case wz => first | decide | (simp only [List.length_cons, List.length_nil, List.length_map]; omega))) | ((with_reducible refine PV.x_set (e1 := ?wd) ?wv ?_); (case wv => rfl)) | ((with_reducible refine PV.x_bindT (e1 := ?wd) ?wv ?_); (case wv => rfl)) | (with_reducible refine PV.c_t ?_) | (with_reducible refine PV.c_f ?_) | (with_reducible refine PV.c_n ?_))
local macro_rules | `(tactic| walk_at "w0") => `(tactic| simp only [List.map_cons, List.map_nil, List.length_cons, List.length_nil, List.cons_append, List.nil_append, List.replicate, Nat.reduceAdd, Nat.reduceSub])
local macro_rules | `(tactic| walk_at "ww") => `(tactic| repeat walk_at "w1")
set_option Elab.async false
set_option linter.all false
set_option autoImplicit false
set_option maxRecDepth 100000
set_option maxHeartbeats 1000000
namespace PV
open PySem
variable {b : List MO}
theorem at_lt {M : List MO} {q : Nat} {o : MO} (h : M[q]? = some o) : q < M.length := (List.getElem?_eq_some_iff.mp h).1
theorem at_alloc {s : HS b} {q : Nat} {o o' : MO} (h : s.M[q]? = some o) : (s.alloc o').M[q]? = some o := by
  rw [alloc_M, List.getElem?_append_left (at_lt h)]
  exact h
theorem at_new (s : HS b) (o : MO) : (s.alloc o).M[s.M.length]? = some o := by simp
theorem at_set {s : HS b} {q i : Nat} {o o' : MO} (hq : q ≠ i) (h : s.M[q]? = some o) : (s.set i o').M[q]? = some o := by
  rw [set_M, List.getElem?_set_ne (Ne.symm hq)]
  exact h
theorem at_set_self {s : HS b} {i : Nat} {o o' : MO} (h : s.M[i]? = some o) : (s.set i o').M[i]? = some o' := by
  rw [set_M, List.getElem?_set_self (at_lt h)]
theorem ixN_lt {n : Nat} {v : Int} (h0 : 0 ≤ v) (h1 : v < n) : L2.ixN n v = some v.toNat := by
  unfold L2.ixN
  rw [if_pos h0, if_pos h1]
theorem atI_lt {xs : List D} {v : Int} (h0 : 0 ≤ v) (h1 : v < xs.length) : ∃ z, L2.atI xs v = some z ∧ xs[v.toNat]? = some z := by
  have hv : v.toNat < xs.length := by omega
  refine ⟨xs[v.toNat], ?_, by simp [hv]⟩
  unfold L2.atI
  rw [ixN_lt h0 h1]
  simp [hv]
def Pool (s : HS b) (p : Nat) : Prop := ∃ x y : Int, s.M[p]? = some (.lst true [.int x, .int y])
theorem Pool.lt {p : Nat} {s : HS b} (h : Pool s p) : p < s.M.length := by
  obtain ⟨x, y, e⟩ := h
  exact at_lt e
structure Drw (p : Nat) (s s' : HS b) : Prop where
  pool : Pool s' p
  len : s.M.length ≤ s'.M.length
  same : ∀ i, i ≠ p → i < s.M.length → s'.M[i]? = s.M[i]?
  wf : s'.wf
theorem Drw.refl {p : Nat} {s : HS b} (h : Pool s p) (w : s.wf) : Drw p s s := ⟨h, Nat.le_refl _, fun _ _ _ => rfl, w⟩
theorem Drw.trans {p : Nat} {s s1 s2 : HS b} (h : Drw p s s1) (k : Drw p s1 s2) : Drw p s s2 :=
  ⟨k.pool, Nat.le_trans h.len k.len, fun i hi hl => (k.same i hi (Nat.lt_of_lt_of_le hl h.len)).trans (h.same i hi hl), k.wf⟩
theorem at_drw {p q : Nat} {s s' : HS b} {o : MO} (d : Drw p s s') (hq : q ≠ p) (h : s.M[q]? = some o) : s'.M[q]? = some o := (d.same q hq (at_lt h)).trans h
theorem Drw.alloc {p : Nat} {s s1 : HS b} (h : Drw p s s1) (o : MO) : Drw p s (s1.alloc o) := by
  refine ⟨?_, by simp; have := h.len; omega, fun i hi hl => ?_, alloc_wf h.wf o⟩
  · obtain ⟨x, y, e⟩ := h.pool
    exact ⟨x, y, at_alloc e⟩
  · rw [alloc_M, List.getElem?_append_left (Nat.lt_of_lt_of_le hl h.len)]
    exact h.same i hi hl
theorem Drw.set {p i : Nat} {s s1 : HS b} (h : Drw p s s1) (hi : s.M.length ≤ i) (hp : p < s.M.length) (hl : i < s1.M.length) (o : MO) : Drw p s (s1.set i o) := by
  refine ⟨?_, by simp; exact h.len, fun j hj hl => ?_, ?_⟩
  · obtain ⟨x, y, e⟩ := h.pool
    exact ⟨x, y, at_set (by omega) e⟩
  · rw [set_M, List.getElem?_set_ne (by omega)]
    exact h.same j hj hl
  · show min s1.lo i ≤ (s1.M.set i o).length
    rw [List.length_set]
    omega
theorem Drw.back {p : Nat} {s : HS b} {s1 : HS s.M} (hw : s.wf) (h : Drw p (HS.start s.M) s1) : Drw p s (s.back s1) :=
  ⟨h.pool, h.len, h.same, by
    show min s.lo s1.lo ≤ s1.M.length
    have := h.len
    have : s.lo ≤ s.M.length := hw
    simp at *
    omega⟩
theorem fin_drw {p : Nat} {s : HS b} {d : D} {s1 : HS s.M} {Q : D → HS b → Prop} {E : XW b} (hd : d.imm = true) (hw : s.wf) (hp : Pool s p) (h : Drw p (HS.start s.M) s1) (q : ∀ s', Drw p s s' → Q d s') : W (fin s d s1) Q E := by
  by_cases hl : s1.lo = s.M.length
  · exact f_imm hl hd (q s (Drw.refl hp hw))
  · exact f_keep hl (q _ (h.back hw))
def bDraw : List CS := [(.ite (.cmp .gt (.idx (.var 0) (.cst (.int 0))) (.cst (.int 0))) [(.set (.nm 2) (.bin .mod (.idx (.var 0) (.cst (.int 0))) (.var 1))), (.sub (.var 0) (.cst (.int 0)) (.bin .fdiv (.idx (.var 0) (.cst (.int 0))) (.var 1))), (.ret (.var 2))] []), (.sub (.var 0) (.cst (.int 1)) (.bin .mod (.bin .add (.bin .mul (.idx (.var 0) (.cst (.int 1))) (.cst (.int 48271))) (.cst (.int 11))) (.cst (.int 2147483647)))), (.ret (.bin .mod (.bin .fdiv (.bin .mod (.bin .mul (.idx (.var 0) (.cst (.int 1))) (.idx (.var 0) (.cst (.int 1)))) (.cst (.int 2147483629))) (.cst (.int 64))) (.var 1)))]
def bHand : List CS := [(.set (.nm 2) (.idx (.bin .add (.slc (.var 0) (some (.var 1)) (some (.bin .add (.var 1) (.cst (.int 1))))) (.lst [.cst (.int 0)])) (.cst (.int 0)))), (.set (.nm 3) (.bin .mod (.bin .mul (.bin .add (.bin .add (.bin .mod (.var 2) (.cst (.int 2147483647))) (.bin .mul (.cst (.int 7919)) (.var 1))) (.cst (.int 1))) (.cst (.int 48271))) (.cst (.int 2147483629)))), (.ret (.lst [.bin .mul (.bi .int [.cmp .ge (.var 2) (.bin .pow (.cst (.int 10)) (.cst (.int 18)))]) (.var 2), .var 3]))]
theorem divOk_of {n : Int} (h0 : 0 < n) (h : n ≤ 10 ^ 40) : divOk n = true := by
  have hlog : n.natAbs.log2 < 9000 := by
    rw [Nat.log2_lt (by omega)]
    have h1 : n.natAbs ≤ 10 ^ 40 := by omega
    exact Nat.lt_of_le_of_lt h1 (by decide +kernel)
  have : n ≠ 0 := by omega
  simp [divOk, this, hlog]
theorem w_draw {pg : Pg} {k f p : Nat} {n : Int} {s : HS b} {Q : D → HS b → Prop} {E : XW b} (hf : pg.tb f = some ⟨2, 3, bDraw⟩) (hw : s.wf) (hp : Pool s p) (hn : 0 < n) (hz : n ≤ 10 ^ 40)
    (h : ∀ (v : Int) (s' : HS b), 0 ≤ v → v < n → s'.M.length = s.M.length → Drw p s s' → Q (.int v) s') : W (callF pg (k + 1) f [.ref p, .int n] s) Q E := by
  obtain ⟨x, y, hm⟩ := hp
  have hlt := at_lt hm
  have hn0 : n ≠ 0 := by omega
  have key : ∀ (o : MO) (v : Int), (∃ x y : Int, o = .lst true [.int x, .int y]) → 0 ≤ v → v < n → W (fin s (.int v) ((HS.start s.M).set p o)) Q E := by
    rintro o v ⟨x', y', rfl⟩ h0 h1
    have hlo : ((HS.start s.M).set p (.lst true [.int x', .int y'])).lo ≠ s.M.length := by
      simp
      omega
    refine f_keep hlo (h v _ h0 h1 (by simp) ⟨⟨x', y', by simp [hlt]⟩, by simp, fun i hi _ => by simp [List.getElem?_set_ne (Ne.symm hi)], ?_⟩)
    show min s.lo (min s.M.length p) ≤ _
    simp
    omega
  refine W_call (d := ⟨2, 3, bDraw⟩) hf rfl ?_
  walk_at "w0"
  unfold bDraw
  walk_at "ww"
  refine w_ixr (xs := [.int x, .int y]) hm rfl ?_
  walk_at "ww"
  refine c_d (fun hx => ?_) (fun hx => ?_)
  · walk_at "ww"
    refine w_ixr (xs := [.int x, .int y]) hm rfl ?_
    walk_at "ww"
    refine w_mod hn0 ?_
    walk_at "ww"
    refine w_ixr (xs := [.int x, .int y]) hm rfl ?_
    walk_at "ww"
    refine w_fdiv (divOk_of hn hz) ?_
    walk_at "ww"
    refine ⟨_, setItem_ref (s := HS.start s.M) (k := 0) hm rfl, ?_⟩
    walk_at "ww"
    exact key _ _ ⟨_, _, rfl⟩ (Int.fmod_nonneg_of_pos x hn) (Int.fmod_lt_of_pos x hn)
  · walk_at "ww"
    refine w_ixr (xs := [.int x, .int y]) hm rfl ?_
    walk_at "ww"
    refine w_mul (mulOk_right (by decide)) ?_
    walk_at "ww"
    refine w_mod (by decide) ?_
    have hy0 : 0 ≤ (y * 48271 + 11).fmod 2147483647 := Int.fmod_nonneg_of_pos _ (by decide)
    have hy1 : (y * 48271 + 11).fmod 2147483647 < 2147483647 := Int.fmod_lt_of_pos _ (by decide)
    generalize (y * 48271 + 11).fmod 2147483647 = y' at hy0 hy1 ⊢
    walk_at "ww"
    refine ⟨_, setItem_ref (s := HS.start s.M) (k := 1) hm rfl, ?_⟩
    have hm2 : ((HS.start s.M).set p (.lst true [.int x, .int y'])).M[p]? = some (.lst true [.int x, .int y']) := at_set_self (s := HS.start s.M) hm
    walk_at "ww"
    refine w_ixr (xs := [.int x, .int y']) hm2 rfl ?_
    walk_at "ww"
    refine w_ixr (xs := [.int x, .int y']) hm2 rfl ?_
    walk_at "ww"
    refine w_mul (mulOk_right (by omega)) ?_
    walk_at "ww"
    refine w_mod (by decide) ?_
    walk_at "ww"
    refine w_fdiv (by decide +kernel) ?_
    walk_at "ww"
    refine w_mod hn0 ?_
    exact key _ _ ⟨_, _, rfl⟩ (Int.fmod_nonneg_of_pos _ hn) (Int.fmod_lt_of_pos _ hn)
theorem cut_ints (ns : List Int) (lo hi : Option Int) : ∃ ms : List Int, cutD (ns.map D.int) lo hi = ms.map D.int ∧ ms.length ≤ ns.length := by
  refine ⟨(ns.drop (HT.sIx (ns.map D.int).length 0 lo)).take (HT.sIx (ns.map D.int).length (ns.map D.int).length hi - HT.sIx (ns.map D.int).length 0 lo), ?_, ?_⟩
  · unfold cutD
    rw [List.map_take, List.map_drop]
  · rw [List.length_take, List.length_drop]
    omega
theorem w_hand {pg : Pg} {k f q : Nat} {n : Int} {ns : List Int} {w : Bool} {s : HS b} {Q : D → HS b → Prop} {E : XW b} (hf : pg.tb f = some ⟨2, 4, bHand⟩) (hq : s.M[q]? = some (.lst w (ns.map D.int))) (hl : ns.length ≤ 1000)
    (h : ∀ a c : Int, Q (.ref s.M.length) (s.alloc (.lst true [.int a, .int c]))) : W (callF pg (k + 1) f [.ref q, .int n] s) Q E := by
  obtain ⟨ms, e1, e2⟩ := cut_ints ns (some n) (some (n + 1))
  obtain ⟨c, r, e3⟩ : ∃ (c : Int) (r : List D), ms.map D.int ++ [D.int 0] = .int c :: r := by
    cases ms with
    | nil => exact ⟨0, [], rfl⟩
    | cons m ms => exact ⟨m, _, rfl⟩
  refine W_call (d := ⟨2, 4, bHand⟩) hf rfl ?_
  walk_at "w0"
  unfold bHand
  walk_at "ww"
  refine w_slL hq ?_
  rw [e1]
  walk_at "ww"
  refine w_addL (at_alloc (at_new (HS.start s.M) _)) (at_new _ _) (so_le (by simp; omega)) ?_
  rw [e3]
  walk_at "ww"
  refine w_ixr (at_new _ _) (show L2.atI (D.int c :: r) 0 = some (.int c) by unfold L2.atI L2.ixN; simp) ?_
  walk_at "ww"
  refine w_mod (by decide) ?_
  walk_at "ww"
  refine w_mul (mulOk_left (by decide)) ?_
  walk_at "ww"
  refine w_mul (mulOk_right (by decide)) ?_
  walk_at "ww"
  refine w_mod (by decide) ?_
  walk_at "ww"
  refine w_is (a := .int 1000000000000000000) (by simp only [bin]; rfl) ?_
  walk_at "ww"
  refine w_mul (mulOk_left (by split <;> decide)) ?_
  walk_at "ww"
  refine f_lst (by simp) ?_ (at_new _ _) (by simp [D.immL, D.imm]) (h _ _)
  simp
structure SmI (x : D) : Prop where
  imm : x.imm = true
  lay : (pdD x).canLay0 = true
  sh : (pdD x).showable = true
  lv : (pdD x).leavesShort 64 = true
  wt : (pdD x).weight ≤ 160
  dep : (pdD x).depth ≤ 3
theorem smi_int {i : Int} (h : i.natAbs < 10 ^ 40) : SmI (.int i) := by
  have hl : i.natAbs.log2 < 134 := by
    by_cases z : i.natAbs = 0
    · rw [z]; decide
    · rw [Nat.log2_lt z]
      exact Nat.lt_of_lt_of_le h (by decide +kernel)
  refine ⟨rfl, rfl, ?_, ?_, ?_, by simp [pdD, PyData.depth]⟩
  · simp only [pdD, PyData.showable, decide_eq_true_eq]
    omega
  · have e : (pdD (.int i)).shown.length = (toString i).length := by
      simp only [pdD, PyData.shown]
      exact ofString_length _
    simp only [pdD] at e
    simp only [pdD, PyData.leavesShort, decide_eq_true_eq]
    rw [e]
    exact Nat.le_trans (int_text_length_le10 (k := 40) (by decide) h) (by decide)
  · simp only [pdD, PyData.weight]
    split <;> omega
theorem smi_all : ∀ {xs : List D}, (∀ x ∈ xs, SmI x) → D.immL xs = true ∧ PyData.canLayAll0 (pdL xs) = true ∧ PyData.showableAll (pdL xs) = true ∧ PyData.leavesShortAll 64 (pdL xs) = true ∧ PyData.weightAll (pdL xs) ≤ 161 * xs.length ∧ PyData.depthAll (pdL xs) ≤ 3
  | [], _ => ⟨rfl, rfl, rfl, rfl, by simp [pdL, PyData.weightAll], by simp [pdL, PyData.depthAll]⟩
  | x :: xs, h => by
    have h0 := h x List.mem_cons_self
    obtain ⟨h1, h2, h3, h4, h5, h6⟩ := smi_all (xs := xs) fun y hy => h y (List.mem_cons_of_mem _ hy)
    refine ⟨by simp [D.immL, h0.imm, h1], by simp [pdL, PyData.canLayAll0, h0.lay, h2], by simp [pdL, PyData.showableAll, h0.sh, h3], by simp [pdL, PyData.leavesShortAll, h0.lv, h4], ?_, ?_⟩
    · simp only [pdL, PyData.weightAll, List.length_cons]
      have := h0.wt
      omega
    · simp only [pdL, PyData.depthAll]
      have := h0.dep
      omega
theorem sm_tup {xs : List D} (h : ∀ x ∈ xs, SmI x) (hl : xs.length ≤ 6) : (D.tup xs).imm = true ∧ Sm (pdD (.tup xs)) := by
  obtain ⟨h1, h2, h3, h4, h5, h6⟩ := smi_all h
  refine ⟨h1, ?_, ?_, ?_, ?_, ?_⟩
  · simpa [pdD, PyData.canLay0] using h2
  · simpa [pdD, PyData.showable] using h3
  · simpa [pdD, PyData.leavesShort] using h4
  · simp only [pdD, PyData.weight]; omega
  · simp only [pdD, PyData.depth]; omega
theorem sm_lst {xs : List D} (h : ∀ x ∈ xs, SmI x) (hl : xs.length ≤ 6) : Sm (.list (pdL xs)) := by
  obtain ⟨h1, h2, h3, h4, h5, h6⟩ := smi_all h
  refine ⟨?_, ?_, ?_, ?_, ?_⟩
  · simpa [PyData.canLay0] using h2
  · simpa [PyData.showable] using h3
  · simpa [PyData.leavesShort] using h4
  · simp only [PyData.weight]; omega
  · simp only [PyData.depth]; omega
def Rp (M : List MO) (z : D) (r : Str) : Prop := (∃ d, deep M z = some d ∧ Sm d ∧ r = d.shown) ∨ ∃ q, z = .ref q ∧ M[q]? = some (.dct []) ∧ r = "{}"
theorem w_rp {s : HS b} {z : D} {r : Str} {Q : D → HS b → Prop} {E : XW b} (h : Rp s.M z r) (q : Q (.str r) s) : W (PV.call .repr [z] s) Q E := by
  rcases h with ⟨d, h1, h2, rfl⟩ | ⟨p, rfl, h1, rfl⟩
  · exact w_repr h1 h2 q
  · have e : PV.call .repr [.ref p] s = ret (.str "{}") s := by
      have hd : deep s.M (.ref p) = none := by
        show deepR s.M 8 p = none
        simp [deepR, h1]
      simp only [PV.call, hd, h1]
    exact w_is e q
theorem Rp.pl {M : List MO} {z : D} {r : Str} (h : Rp M z r) : Pl 1 (.str r) := by
  rcases h with ⟨d, h1, h2, rfl⟩ | ⟨p, rfl, h1, rfl⟩
  · exact h2.str
  · exact ⟨by decide +kernel, by decide +kernel⟩
theorem pl_tup {xs : List D} {n : Nat} (h : ∀ x ∈ xs, Pl n (pdD x)) : PyData.canLayAll0 (pdL xs) = true ∧ PyData.depthAll (pdL xs) ≤ n := by
  induction xs with
  | nil => exact ⟨rfl, by simp [pdL, PyData.depthAll]⟩
  | cons x xs ih =>
    obtain ⟨h1, h2⟩ := ih fun y hy => h y (List.mem_cons_of_mem _ hy)
    have h0 := h x List.mem_cons_self
    refine ⟨by simp [pdL, PyData.canLayAll0, h0.lay, h1], ?_⟩
    simp only [pdL, PyData.depthAll]
    have := h0.dep
    omega
theorem pl_list {xs : List D} {n : Nat} (h : ∀ x ∈ xs, Pl n (pdD x)) : Pl (n + 1) (.list (pdL xs)) := by
  obtain ⟨h1, h2⟩ := pl_tup h
  exact ⟨by simpa [PyData.canLay0] using h1, by simp only [PyData.depth]; omega⟩
theorem pl_tupl {xs : List D} {n : Nat} (h : ∀ x ∈ xs, Pl n (pdD x)) : Pl (n + 1) (pdD (.tup xs)) := by
  obtain ⟨h1, h2⟩ := pl_tup h
  exact ⟨by simpa [pdD, PyData.canLay0] using h1, by simp only [pdD, PyData.depth]; omega⟩
theorem Pl.up {n m : Nat} {d : PyData} (h : Pl n d) (hn : n ≤ m) : Pl m d := ⟨h.lay, Nat.le_trans h.dep hn⟩
theorem pl_int (i : Int) : Pl 1 (pdD (.int i)) := ⟨rfl, by simp [pdD, PyData.depth]⟩
theorem pl_bl (i : Bool) : Pl 1 (pdD (.bl i)) := ⟨rfl, by simp [pdD, PyData.depth]⟩
theorem same_lst {M : List MO} {p q n : Nat} {w v : Bool} {xs : List D} (hp : M[p]? = some (.lst w xs)) (hq : M[q]? = some (.lst v xs)) (hi : D.immL xs = true) (h : ∀ x ∈ xs, Pl n (pdD x)) (hn : n < 64) : eqD M (.ref p) (.ref q) = some true :=
  eqD_self (deep_lst hp hi) (deep_lst hq hi) (pl_list h) hn
def Tyd (M : List MO) (x : D) : Prop := ∀ t, ∃ k, isTy M t x = some k
theorem tyd_imm {M : List MO} {x : D} (h : x.imm = true) : Tyd M x := fun t => by
  cases x <;> first | exact ⟨_, rfl⟩ | cases h
theorem asInts_map : ∀ l : List Int, asInts (l.map D.int) = some l
  | [] => rfl
  | x :: l => by simp [asInts, asInts_map l]
theorem asBools_map {α : Type} (g : α → Bool) : ∀ l : List α, asBools (l.map fun x => D.bl (g x)) = some (l.map g)
  | [] => rfl
  | x :: l => by simp [asBools, asBools_map g l]
theorem imm_ints : ∀ is : List Int, D.immL (is.map D.int) = true
  | [] => rfl
  | i :: is => by simp [D.immL, D.imm, imm_ints is]
end PV
set_option Elab.async false
set_option linter.all false
set_option maxRecDepth 100000
set_option maxHeartbeats 0
namespace K51
open PySem PySem.Spec PyProof.Rows L2 PV
def clsFn (s : Stmt) : Stmt := match s with
  | .ClassDef _ _ _ b _ _ _ _ _ _ _ => b.getD 0 (.Pass ⟨0, 0, 0, 0⟩)
  | s => s
abbrev Pm : PySem.Program := PySem.Challenge.pw_partingfees_k51_fractions
def top (i : Nat) : Stmt := Pm.main.body.getD i (.Pass ⟨0, 0, 0, 0⟩)
def d0 : DDef := ⟨⟨("is_integer", none), "is_integer", "is_integer", defArgs (top 4), defBody (top 4), defScope (top 4), [], []⟩, ["value"], ["value"]⟩
def b0 : List CS := [(.ret (.ands [.bi (.isi .int) [.var 0], .nt (.bi (.isi .bool) [.var 0])]))]
def d1 : DDef := ⟨⟨("greatest_divisor", none), "greatest_divisor", "greatest_divisor", defArgs (top 6), defBody (top 6), defScope (top 6), [], []⟩, ["one", "other"], ["one", "other", "first", "second"]⟩
def b1 : List CS := [(.par [2, 3] [.bi .abs [.var 0], .bi .abs [.var 1]]), (.while_ (.cmp .gt (.var 3) (.cst (.int 0))) [(.par [2, 3] [.var 3, .bin .mod (.var 2) (.var 3)])]), (.ret (.var 2))]
def d2 : DDef := ⟨⟨("reduced", none), "reduced", "reduced", defArgs (top 7), defBody (top 7), defScope (top 7), [], []⟩, ["numerator", "denominator"], ["numerator", "denominator", "divisor"]⟩
def b2 : List CS := [(.set (.nm 2) (.call 1 [.var 0, .var 1])), (.ite (.cmp .lt (.var 1) (.cst (.int 0))) [(.set (.nm 2) (.neg (.var 2)))] []), (.ret (.tup [.bin .fdiv (.var 0) (.var 2), .bin .fdiv (.var 1) (.var 2)]))]
def d3 : DDef := ⟨⟨("is_fraction", none), "is_fraction", "is_fraction", defArgs (top 8), defBody (top 8), defScope (top 8), [], []⟩, ["value"], ["value", "part"]⟩
def b3 : List CS := [(.ite (.ors [.nt (.bi (.isi .tuple) [.var 0]), .cmp .ne (.bi .len [.var 0]) (.cst (.int 2)), .nt (.bi .all [.lc (.nm 1) .val [.var 0] [] (.call 0 [.var 1]) [1]])]) [(.ret (.cst (.bl false)))] []), (.ret (.ands [.cmp .ge (.idx (.var 0) (.cst (.int 1))) (.cst (.int 1)), .cmp .eq (.call 1 [.idx (.var 0) (.cst (.int 0)), .idx (.var 0) (.cst (.int 1))]) (.cst (.int 1))]))]
def d4 : DDef := ⟨⟨("check_fraction", none), "check_fraction", "check_fraction", defArgs (top 9), defBody (top 9), defScope (top 9), [], []⟩, ["value"], ["value"]⟩
def b4 : List CS := [(.ite (.nt (.call 3 [.var 0])) [(.raise 1 [.var 0])] [])]
def d5 : DDef := ⟨⟨("make_fraction", none), "make_fraction", "make_fraction", defArgs (top 10), defBody (top 10), defScope (top 10), [.int (1)], []⟩, ["numerator", "denominator"], ["numerator", "denominator"]⟩
def b5 : List CS := [(.ite (.nt (.call 0 [.var 0])) [(.raise 0 [.var 0])] []), (.ite (.ors [.nt (.call 0 [.var 1]), .cmp .eq (.var 1) (.cst (.int 0))]) [(.raise 0 [.var 1])] []), (.ret (.call 2 [.var 0, .var 1]))]
def d6 : DDef := ⟨⟨("fraction_sum", none), "fraction_sum", "fraction_sum", defArgs (top 11), defBody (top 11), defScope (top 11), [], []⟩, ["one", "other"], ["one", "other"]⟩
def b6 : List CS := [(.ret (.call 2 [.bin .add (.bin .mul (.idx (.var 0) (.cst (.int 0))) (.idx (.var 1) (.cst (.int 1)))) (.bin .mul (.idx (.var 1) (.cst (.int 0))) (.idx (.var 0) (.cst (.int 1)))), .bin .mul (.idx (.var 0) (.cst (.int 1))) (.idx (.var 1) (.cst (.int 1)))]))]
def d7 : DDef := ⟨⟨("fraction_product", none), "fraction_product", "fraction_product", defArgs (top 12), defBody (top 12), defScope (top 12), [], []⟩, ["one", "other"], ["one", "other"]⟩
def b7 : List CS := [(.ret (.call 2 [.bin .mul (.idx (.var 0) (.cst (.int 0))) (.idx (.var 1) (.cst (.int 0))), .bin .mul (.idx (.var 0) (.cst (.int 1))) (.idx (.var 1) (.cst (.int 1)))]))]
def d8 : DDef := ⟨⟨("add_fractions", none), "add_fractions", "add_fractions", defArgs (top 13), defBody (top 13), defScope (top 13), [], []⟩, ["one", "other"], ["one", "other"]⟩
def b8 : List CS := [(.exp (.call 4 [.var 0])), (.exp (.call 4 [.var 1])), (.ret (.call 6 [.var 0, .var 1]))]
def d9 : DDef := ⟨⟨("multiply_fractions", none), "multiply_fractions", "multiply_fractions", defArgs (top 14), defBody (top 14), defScope (top 14), [], []⟩, ["one", "other"], ["one", "other"]⟩
def b9 : List CS := [(.exp (.call 4 [.var 0])), (.exp (.call 4 [.var 1])), (.ret (.call 7 [.var 0, .var 1]))]
def d10 : DDef := ⟨⟨("_law_hand", none), "_law_hand", "_law_hand", defArgs (top 16), defBody (top 16), defScope (top 16), [], []⟩, ["_law_script", "_law_k"], ["_law_script", "_law_k", "_law_cell", "_law_seed"]⟩
def b10 : List CS := [(.set (.nm 2) (.idx (.bin .add (.slc (.var 0) (some (.var 1)) (some (.bin .add (.var 1) (.cst (.int 1))))) (.lst [.cst (.int 0)])) (.cst (.int 0)))), (.set (.nm 3) (.bin .mod (.bin .mul (.bin .add (.bin .add (.bin .mod (.var 2) (.cst (.int 2147483647))) (.bin .mul (.cst (.int 7919)) (.var 1))) (.cst (.int 1))) (.cst (.int 48271))) (.cst (.int 2147483629)))), (.ret (.lst [.bin .mul (.bi .int [.cmp .ge (.var 2) (.bin .pow (.cst (.int 10)) (.cst (.int 18)))]) (.var 2), .var 3]))]
def d11 : DDef := ⟨⟨("_law_draw", none), "_law_draw", "_law_draw", defArgs (top 17), defBody (top 17), defScope (top 17), [], []⟩, ["_law_pool", "_law_size"], ["_law_pool", "_law_size", "_law_found"]⟩
def b11 : List CS := [(.ite (.cmp .gt (.idx (.var 0) (.cst (.int 0))) (.cst (.int 0))) [(.set (.nm 2) (.bin .mod (.idx (.var 0) (.cst (.int 0))) (.var 1))), (.sub (.var 0) (.cst (.int 0)) (.bin .fdiv (.idx (.var 0) (.cst (.int 0))) (.var 1))), (.ret (.var 2))] []), (.sub (.var 0) (.cst (.int 1)) (.bin .mod (.bin .add (.bin .mul (.idx (.var 0) (.cst (.int 1))) (.cst (.int 48271))) (.cst (.int 11))) (.cst (.int 2147483647)))), (.ret (.bin .mod (.bin .fdiv (.bin .mod (.bin .mul (.idx (.var 0) (.cst (.int 1))) (.idx (.var 0) (.cst (.int 1)))) (.cst (.int 2147483629))) (.cst (.int 64))) (.var 1)))]
def d12 : DDef := ⟨⟨("_law_great", none), "_law_great", "_law_great", defArgs (top 18), defBody (top 18), defScope (top 18), [], []⟩, ["_law_pool"], ["_law_pool", "_law_found", "_law_turn"]⟩
def b12 : List CS := [(.set (.nm 1) (.cst (.int 0))), (.for_ (.nm 2) .range [.idx (.lst [.cst (.int 1), .cst (.int 2), .cst (.int 5)]) (.call 11 [.var 0, .cst (.int 3)])] [(.set (.nm 1) (.bin .add (.bin .mul (.var 1) (.bin .pow (.cst (.int 10)) (.cst (.int 6)))) (.call 11 [.var 0, .bin .pow (.cst (.int 10)) (.cst (.int 6))])))]), (.ret (.var 1))]
def d13 : DDef := ⟨⟨("_law_whole", none), "_law_whole", "_law_whole", defArgs (top 19), defBody (top 19), defScope (top 19), [], []⟩, ["_law_thing"], ["_law_thing"]⟩
def b13 : List CS := [(.ret (.ands [.bi (.isi .int) [.var 0], .nt (.bi (.isi .bool) [.var 0])]))]
def d14 : DDef := ⟨⟨("_law_is", none), "_law_is", "_law_is", defArgs (top 20), defBody (top 20), defScope (top 20), [], []⟩, ["_law_thing"], ["_law_thing", "_law_first", "_law_second"]⟩
def b14 : List CS := [(.ite (.ors [.nt (.bi (.isi .tuple) [.var 0]), .cmp .ne (.bi .len [.var 0]) (.cst (.int 2)), .nt (.call 13 [.idx (.var 0) (.cst (.int 0))]), .nt (.call 13 [.idx (.var 0) (.cst (.int 1))])]) [(.ret (.cst (.bl false)))] []), (.ite (.cmp .lt (.idx (.var 0) (.cst (.int 1))) (.cst (.int 1))) [(.ret (.cst (.bl false)))] []), (.par [1, 2] [.bi .abs [.idx (.var 0) (.cst (.int 0))], .idx (.var 0) (.cst (.int 1))]), (.while_ (.cmp .gt (.var 2) (.cst (.int 0))) [(.par [1, 2] [.var 2, .bin .mod (.var 1) (.var 2)])]), (.ret (.cmp .eq (.var 1) (.cst (.int 1))))]
def d15 : DDef := ⟨⟨("_law_told", none), "_law_told", "_law_told", defArgs (top 21), defBody (top 21), defScope (top 21), [], []⟩, ["_law_door", "_law_one", "_law_other"], ["_law_door", "_law_one", "_law_other", "e"]⟩
def b15 : List CS := [(.try_ [(.ite (.cmp .eq (.var 0) (.cst (.int 0))) [(.ret (.lst [.cst (.str "told"), .call 5 [.var 1, .var 2]]))] []), (.ite (.cmp .eq (.var 0) (.cst (.int 1))) [(.ret (.lst [.cst (.str "told"), .call 8 [.var 1, .var 2]]))] []), (.ret (.lst [.cst (.str "told"), .call 9 [.var 1, .var 2]]))] [.mk "InvalidNumber" (some 3) [(.ret (.lst [.cst (.str "number"), .exci 3 "ValueError", .bi .repr [.excf 3 "value"]]))], .mk "InvalidFraction" (some 3) [(.ret (.lst [.cst (.str "share"), .exci 3 "ValueError", .bi .repr [.excf 3 "value"]]))]])]
def d16 : DDef := ⟨⟨("_law_odd", none), "_law_odd", "_law_odd", defArgs (top 22), defBody (top 22), defScope (top 22), [], []⟩, ["_law_pool", "_law_one"], ["_law_pool", "_law_one", "_law_some"]⟩
def b16 : List CS := [(.set (.nm 2) (.lst [.cst .non, .cst (.int 5), .lst [.idx (.var 1) (.cst (.int 0)), .idx (.var 1) (.cst (.int 1))], .tup [.idx (.var 1) (.cst (.int 0))], .bin .add (.var 1) (.tup [.cst (.int 1)]), .tup [.bin .mul (.idx (.var 1) (.cst (.int 0))) (.cst (.int 2)), .bin .mul (.idx (.var 1) (.cst (.int 1))) (.cst (.int 2))], .tup [.idx (.var 1) (.cst (.int 0)), .cst (.int 0)], .tup [.cst (.int 0), .cst (.int 2)], .tup [.cst (.bl true), .cst (.int 1)]])), (.set (.nm 2) (.bin .add (.var 2) (.lst [.tup [.neg (.idx (.var 1) (.cst (.int 0))), .neg (.idx (.var 1) (.cst (.int 1)))], .tup [.idx (.var 1) (.cst (.int 0)), .cst (.bl true)], .tup [.cst (.int 0), .cst (.int 1)], .tup [.cst (.int 1), .cst (.int 1)], .tup [.idx (.var 1) (.cst (.int 0)), .cst (.str "1")], .cst (.str "1"), .tup [], .tup [.cst .non, .cst (.int 1)], .dct0]))), (.ret (.idx (.var 2) (.call 11 [.var 0, .cst (.int 18)])))]
def d17 : DDef := ⟨⟨("_law_refused", none), "_law_refused", "_law_refused", defArgs (top 23), defBody (top 23), defScope (top 23), [], []⟩, ["_law_odd_here", "_law_one"], ["_law_odd_here", "_law_one", "_law_bad", "_law_door"]⟩
def b17 : List CS := [(.ite (.ors [.cmp .ne (.call 3 [.var 0]) (.call 14 [.var 0]), .nt (.bi (.isi .bool) [.call 3 [.var 0]])]) [(.ret (.cst (.bl false)))] []), (.ite (.nt (.call 14 [.var 0])) [(.set (.nm 2) (.lst [.cst (.str "share"), .cst (.bl true), .bi .repr [.var 0]])), (.for_ (.nm 3) .val [.tup [.cst (.int 1), .cst (.int 2)]] [(.ite (.ors [.cmp .ne (.call 15 [.var 3, .var 0, .cst .non]) (.var 2), .cmp .ne (.call 15 [.var 3, .var 1, .var 0]) (.var 2)]) [(.ret (.cst (.bl false)))] [])])] []), (.ret (.cst (.bl true)))]
def d18 : DDef := ⟨⟨("law", none), "law", "law", defArgs (top 24), defBody (top 24), defScope (top 24), [], []⟩, ["_law_script"], ["_law_script", "_law_k", "_law_pool", "_law_found", "_law_turn", "_law_by", "_law_count", "_law_part", "_law_told_here", "_law_one", "_law_other", "_law_both", "_law_times", "_law_due", "_law_odd_here", "_law_bad"]⟩
def b18 : List CS := [(.for_ (.nm 1) .range [.bi .max2 [.cst (.int 2), .bi .min2 [.bi .len [.var 0], .cst (.int 20)]]] [(.set (.nm 2) (.call 10 [.var 0, .var 1])), (.set (.nm 3) (.lst [])), (.for_ (.nm 4) .range [.cst (.int 2)] [(.set (.nm 5) (.bin .add (.cst (.int 1)) (.call 11 [.var 2, .cst (.int 12)]))), (.set (.nm 6) (.bin .mul (.bin .mul (.call 12 [.var 2]) (.var 5)) (.bin .sub (.cst (.int 1)) (.bin .mul (.cst (.int 2)) (.call 11 [.var 2, .cst (.int 2)]))))), (.set (.nm 7) (.bin .mul (.bin .mul (.bin .add (.cst (.int 1)) (.call 12 [.var 2])) (.var 5)) (.bin .sub (.cst (.int 1)) (.bin .mul (.cst (.int 2)) (.call 11 [.var 2, .cst (.int 2)]))))), (.set (.nm 8) (.callk 5 [.var 6] ["denominator"] [.var 7])), (.ite (.ors [.nt (.call 14 [.var 8]), .cmp .ne (.bin .mul (.idx (.var 8) (.cst (.int 0))) (.var 7)) (.bin .mul (.var 6) (.idx (.var 8) (.cst (.int 1))))]) [(.ret (.cst (.bl false)))] []), (.ite (.cmp .ne (.callk 5 [] ["numerator"] [.var 6]) (.tup [.var 6, .cst (.int 1)])) [(.ret (.cst (.bl false)))] []), (.exp (.mt .append (.var 3) [.var 8]))]), (.set (.tp [9, 10]) (.var 3)), (.par [11, 12] [.call 8 [.var 9, .var 10], .call 9 [.var 9, .var 10]]), (.set (.nm 13) (.bin .add (.bin .mul (.idx (.var 9) (.cst (.int 0))) (.idx (.var 10) (.cst (.int 1)))) (.bin .mul (.idx (.var 10) (.cst (.int 0))) (.idx (.var 9) (.cst (.int 1)))))), (.ite (.ors [.nt (.call 14 [.var 11]), .cmp .ne (.bin .mul (.bin .mul (.idx (.var 11) (.cst (.int 0))) (.idx (.var 9) (.cst (.int 1)))) (.idx (.var 10) (.cst (.int 1)))) (.bin .mul (.var 13) (.idx (.var 11) (.cst (.int 1))))]) [(.ret (.cst (.bl false)))] []), (.ite (.ors [.nt (.call 14 [.var 12]), .cmp .ne (.bin .mul (.bin .mul (.idx (.var 12) (.cst (.int 0))) (.idx (.var 9) (.cst (.int 1)))) (.idx (.var 10) (.cst (.int 1)))) (.bin .mul (.bin .mul (.idx (.var 9) (.cst (.int 0))) (.idx (.var 10) (.cst (.int 0)))) (.idx (.var 12) (.cst (.int 1))))]) [(.ret (.cst (.bl false)))] []), (.ite (.ors [.cmp .isn (.call 3 [.var 9]) (.cst (.bl true)), .nt (.call 17 [.call 16 [.var 2, .var 9], .var 9])]) [(.ret (.cst (.bl false)))] []), (.set (.nm 14) (.idx (.lst [.cst .non, .cst (.bl true), .cst (.bl false), .cst (.str "5"), .tup [.cst (.int 5)], .lst [.cst (.int 5)], .tup [.cst (.int 5), .cst (.int 1)]]) (.call 11 [.var 2, .cst (.int 7)]))), (.set (.nm 15) (.lst [.cst (.str "number"), .cst (.bl true), .bi .repr [.var 14]])), (.ite (.ors [.cmp .ne (.call 15 [.cst (.int 0), .var 14, .cst (.int 0)]) (.var 15), .cmp .ne (.call 15 [.cst (.int 0), .cst (.int 5), .var 14]) (.var 15)]) [(.ret (.cst (.bl false)))] []), (.ite (.cmp .ne (.call 15 [.cst (.int 0), .var 6, .cst (.int 0)]) (.lst [.cst (.str "number"), .cst (.bl true), .cst (.str "0")])) [(.ret (.cst (.bl false)))] [])]), (.ret (.cst (.bl true)))]
def x0 : DDef := ⟨⟨("InvalidNumber", some "__init__"), "__init__", "InvalidNumber.__init__", defArgs (clsFn (top 1)), defBody (clsFn (top 1)), defScope (clsFn (top 1)), [], []⟩, ["self", "value"], ["self", "value"]⟩
def x1 : DDef := ⟨⟨("InvalidFraction", some "__init__"), "__init__", "InvalidFraction.__init__", defArgs (clsFn (top 2)), defBody (clsFn (top 2)), defScope (clsFn (top 2)), [], []⟩, ["self", "value"], ["self", "value"]⟩
def Lx : Lw where
  defs := [(d0, b0), (d1, b1), (d2, b2), (d3, b3), (d4, b4), (d5, b5), (d6, b6), (d7, b7), (d8, b8), (d9, b9), (d10, b10), (d11, b11), (d12, b12), (d13, b13), (d14, b14), (d15, b15), (d16, b16), (d17, b17), (d18, b18)]
  excs := [("InvalidNumber", ["value"], x0), ("InvalidFraction", ["value"], x1)]
  gls := []
  frs := ["ValueError", "abs", "all", "bool", "int", "isinstance", "len", "max", "min", "range", "repr", "tuple"]
  isx := [(0, "ValueError", "ValueError"), (1, "ValueError", "ValueError")]
  mts := [(0, "InvalidFraction", false), (1, "InvalidFraction", true), (0, "InvalidNumber", true), (1, "InvalidNumber", false)]
  xns := ["InvalidFraction", "InvalidNumber"]
  fu := 1000000
end K51
set_option Elab.async false
set_option linter.all false
set_option maxRecDepth 100000
set_option maxHeartbeats 1000000
set_option exponentiation.threshold 10000
namespace K51
open PySem PV
variable {b : List MO}
def isInt : PV.D → Bool
  | .int _ => true
  | _ => false
def bInt : List CS := b0
theorem w_isint {k f : Nat} {x : PV.D} {s : HS b} {Q : PV.D → HS b → Prop} {E : XW b} (hf : Lx.pg.tb f = some ⟨1, 1, b0⟩) (hx : Tyd s.M x) (h : Q (.bl (isInt x)) s) : W (callF Lx.pg (k + 1) f [x] s) Q E := by
  obtain ⟨k1, e1⟩ := hx .int
  obtain ⟨k2, e2⟩ := hx .bool
  have hv : (if k1 then !k2 else k1) = isInt x := by
    cases x <;> simp_all [isTy, isInt]
  refine W_call (d := ⟨1, 1, b0⟩) hf rfl ?_
  walk_at "w0"
  unfold b0
  walk_at "ww"
  refine w_isi e1 ?_
  walk_at "ww"
  cases k1 with
  | false =>
    walk_at "ww"
    refine f_imm rfl rfl ?_
    rw [← hv] at h
    exact h
  | true =>
    walk_at "ww"
    refine w_isi e2 ?_
    walk_at "ww"
    refine f_imm rfl rfl ?_
    rw [← hv] at h
    exact h
theorem tb0 : Lx.pg.tb 0 = some ⟨1, 1, b0⟩ := rfl
theorem tb13 : Lx.pg.tb 13 = some ⟨1, 1, b0⟩ := rfl
def mu (f s : Nat) : Nat := if s = 0 then 0 else (f * s).log2 + 2 + (if f < s then 1 else 0)
theorem log2_le {x y : Nat} (h : x ≤ y) : x.log2 ≤ y.log2 := by
  by_cases hx : x = 0
  · subst hx; simp
  · have hy : y ≠ 0 := by omega
    rw [Nat.le_log2 hy]
    exact Nat.le_trans (Nat.log2_self_le hx) h
theorem mu_step {f s : Nat} (hs : 0 < s) : mu s (f % s) < mu f s := by
  have hr := Nat.mod_lt f hs
  unfold mu
  rw [if_neg (show ¬ s = 0 by omega)]
  by_cases h0 : f % s = 0
  · rw [if_pos h0]
    split <;> omega
  · rw [if_neg h0, if_neg (show ¬ s < f % s by omega)]
    by_cases hf : f < s
    · rw [if_pos hf, Nat.mod_eq_of_lt hf, Nat.mul_comm s f]
      omega
    · rw [if_neg hf]
      have h2 : 2 * (f % s) ≤ f := by
        have := Nat.div_add_mod f s
        have hq : 1 ≤ f / s := (Nat.one_le_div_iff hs).mpr (by omega)
        have : s * 1 ≤ s * (f / s) := Nat.mul_le_mul_left _ hq
        omega
      have h3 : 2 * (s * (f % s)) ≤ f * s := by
        have := Nat.mul_le_mul_left s h2
        rw [Nat.mul_comm f s]
        have e : s * (2 * (f % s)) = 2 * (s * (f % s)) := by rw [Nat.mul_left_comm]
        omega
      have hne : s * (f % s) ≠ 0 := Nat.mul_ne_zero (by omega) h0
      have h4 : (s * (f % s)).log2 + 1 ≤ (f * s).log2 := by
        have := log2_le h3
        rw [Nat.log2_two_mul hne] at this
        exact this
      omega
theorem mu_lt {f s : Nat} (hf : f < 2 ^ 1000) (hs : s < 2 ^ 1000) : mu f s < 1000000 := by
  unfold mu
  have h1 : (f * s).log2 < 2000 := by
    by_cases h : f * s = 0
    · rw [h]; decide
    · rw [Nat.log2_lt h]
      have : f * s < 2 ^ 1000 * 2 ^ 1000 := Nat.mul_lt_mul'' hf hs
      rw [← Nat.pow_add] at this
      exact this
  split
  · decide
  · split <;> omega
theorem w_euclid {P : Ev} {X : Cur} {i j : Nat} {e : PV.Env} {f s : Nat} {S : HS b} {N : PV.Env → HS b → Prop} {T : PV.D → HS b → Prop} {EE : Nat → List (Str × PV.D) → PV.Env → HS b → Prop} (hfu : mu f s < P.fu) (hij : i ≠ j) (hi : i < e.length) (hj : j < e.length)
    (hn : N ((e.set i (some (.int (Nat.gcd f s)))).set j (some (.int 0))) S) : WS (exS P X (.while_ (.cmp .gt (.var j) (.cst (.int 0))) [(.par [i, j] [.var j, .bin .mod (.var i) (.var j)])]) ((e.set i (some (.int f))).set j (some (.int s))) S) N T EE := by
  rw [ex_while]
  have gi : ∀ (x y : PV.D), ((e.set i (some x)).set j (some y))[i]? = some (some x) := fun x y => by
    rw [List.getElem?_set_ne (Ne.symm hij), List.getElem?_set_self hi]
  have gj : ∀ (x y : PV.D), ((e.set i (some x)).set j (some y))[j]? = some (some y) := fun x y => by
    rw [List.getElem?_set_self (by rw [List.length_set]; exact hj)]
  have ss : ∀ (x y u v : PV.D), (((e.set i (some x)).set j (some y)).set i (some u)).set j (some v) = (e.set i (some u)).set j (some v) := fun x y u v => by
    rw [List.set_comm _ _ hij, List.set_set, List.set_comm _ _ (Ne.symm hij), List.set_set]
  refine whL_W (fun e1 s1 => s1 = S ∧ ∃ f1 s2 : Nat, e1 = (e.set i (some (.int f1))).set j (some (.int s2)) ∧ Nat.gcd f1 s2 = Nat.gcd f s) (fun e1 _ => match e1[i]?, e1[j]? with
    | some (some (.int a)), some (some (.int c)) => mu a.toNat c.toNat
    | _, _ => 0) (fun e1 s1 h => ?_) _ _ _ ?_ ⟨rfl, f, s, rfl, rfl⟩
  · obtain ⟨rfl, f1, s2, rfl, hg⟩ := h
    rw [W_tst]
    refine w_cmp (w_var (gj _ _) ?_)
    walk_at "ww"
    simp only [truth]
    by_cases h0 : (0 : Int) < s2
    · refine .inl ⟨decide_eq_true h0, ?_⟩
      have h0' : 0 < s2 := by omega
      refine z_cons (z_par (w_cons (w_var (gj _ _) (w_cons (w_bin (w_var (gi _ _) (w_var (gj _ _) (w_mod (by omega) (w_nil ?_)))))))))
      refine x_set rfl ?_
      refine z_nil ?_
      have hm : ((f1 : Int).fmod s2) = ((f1 % s2 : Nat) : Int) := by
        rw [Int.fmod_eq_emod_of_nonneg _ (by omega)]
        exact (Int.natCast_emod f1 s2).symm
      rw [ss, hm]
      refine ⟨⟨rfl, s2, f1 % s2, rfl, ?_⟩, ?_⟩
      · rw [← hg, Nat.gcd_comm f1 s2, Nat.gcd_comm s2 (f1 % s2), ← Nat.gcd_rec]
      · simp only [gi, gj, Int.toNat_natCast]
        exact mu_step h0'
    · refine .inr ⟨decide_eq_false h0, ?_⟩
      have : s2 = 0 := by omega
      subst this
      rw [Nat.gcd_zero_right] at hg
      rw [hg]
      exact hn
  · simp only [gi, gj]
    exact hfu
theorem abs_nat (i : Int) : (if i < 0 then -i else i) = (i.natAbs : Int) := by
  split <;> omega
def Bd (i : Int) : Prop := i.natAbs < 2 ^ 1000
theorem fu0 (k : Nat) : (Lx.pg.ev k).fu = 1000000 := rfl
theorem w_gcd {k : Nat} {x y : Int} {s : HS b} {Q : PV.D → HS b → Prop} {E : XW b} (hx : Bd x) (hy : Bd y) (h : Q (.int (Int.gcd x y)) s) : W (callF Lx.pg (k + 1) 1 [.int x, .int y] s) Q E := by
  refine W_call (d := ⟨2, 4, b1⟩) rfl rfl ?_
  walk_at "w0"
  unfold b1
  walk_at "ww"
  rw [abs_nat, abs_nat]
  refine w_euclid (i := 2) (j := 3) (e := [some (.int x), some (.int y), none, none]) (f := x.natAbs) (s := y.natAbs) (by rw [fu0]; exact mu_lt hx hy) (by decide) (show 2 < 4 by decide) (show 3 < 4 by decide) ?_
  walk_at "ww"
  exact f_imm rfl rfl h
def sgn (n d : Int) : Int := if d < 0 then -(Int.gcd n d : Int) else (Int.gcd n d : Int)
structure Red (n d p q : Int) : Prop where
  pos : 1 ≤ q
  one : Int.gcd p q = 1
  eq : p * d = n * q
  pl : p.natAbs ≤ n.natAbs
  ql : q.natAbs ≤ d.natAbs
theorem sgn_ne {n d : Int} (hd : d ≠ 0) : sgn n d ≠ 0 ∧ (sgn n d).natAbs = Int.gcd n d := by
  have h0 : 0 < Int.gcd n d := Int.gcd_pos_of_ne_zero_right n hd
  unfold sgn
  split <;> omega
theorem red_ok {n d : Int} (hd : d ≠ 0) : Red n d (n.fdiv (sgn n d)) (d.fdiv (sgn n d)) := by
  obtain ⟨h0, ha⟩ := sgn_ne (n := n) hd
  have hs : sgn n d = -(Int.gcd n d : Int) ∨ sgn n d = (Int.gcd n d : Int) := by
    unfold sgn
    split
    · exact .inl rfl
    · exact .inr rfl
  have d1 : sgn n d ∣ n := by
    rcases hs with e | e
    · rw [e, Int.neg_dvd]; exact Int.gcd_dvd_left ..
    · rw [e]; exact Int.gcd_dvd_left ..
  have d2 : sgn n d ∣ d := by
    rcases hs with e | e
    · rw [e, Int.neg_dvd]; exact Int.gcd_dvd_right ..
    · rw [e]; exact Int.gcd_dvd_right ..
  rw [Int.fdiv_eq_ediv_of_dvd d1, Int.fdiv_eq_ediv_of_dvd d2]
  obtain ⟨p, hp⟩ := d1
  obtain ⟨q, hq⟩ := d2
  have ep : n / sgn n d = p := by
    conv => lhs; lhs; rw [hp]
    exact Int.mul_ediv_cancel_left _ h0
  have eq : d / sgn n d = q := by
    conv => lhs; lhs; rw [hq]
    exact Int.mul_ediv_cancel_left _ h0
  rw [ep, eq]
  have hpos : 0 < Int.gcd n d := Int.gcd_pos_of_ne_zero_right n hd
  have hg : Int.gcd p q = 1 := by
    have e : Int.gcd n d = (sgn n d).natAbs * Int.gcd p q := by
      have := Int.gcd_mul_left (sgn n d) p q
      rw [← hp, ← hq] at this
      exact this
    rw [ha] at e
    have : Int.gcd n d * 1 = Int.gcd n d * Int.gcd p q := by rw [Nat.mul_one]; exact e
    exact (Nat.eq_of_mul_eq_mul_left hpos this).symm
  have hs1 : 1 ≤ (sgn n d).natAbs := by omega
  refine ⟨?_, hg, ?_, ?_, ?_⟩
  · by_cases hl : d < 0
    · have hneg : sgn n d < 0 := by
        unfold sgn
        rw [if_pos hl]
        omega
      by_cases hq1 : 1 ≤ q
      · exact hq1
      · have : 0 ≤ sgn n d * q := Int.mul_nonneg_of_nonpos_of_nonpos (by omega) (by omega)
        omega
    · have hp1 : 0 < sgn n d := by
        unfold sgn
        rw [if_neg hl]
        omega
      by_cases hq1 : 1 ≤ q
      · exact hq1
      · have : sgn n d * q ≤ 0 := Int.mul_nonpos_of_nonneg_of_nonpos (by omega) (by omega)
        omega
  · calc p * d = p * (sgn n d * q) := by rw [← hq]
      _ = (sgn n d * p) * q := by rw [Int.mul_left_comm, Int.mul_assoc]
      _ = n * q := by rw [← hp]
  · have : n.natAbs = (sgn n d).natAbs * p.natAbs := by
      conv => lhs; rw [hp]
      exact Int.natAbs_mul ..
    rw [this]
    exact Nat.le_mul_of_pos_left _ hs1
  · have : d.natAbs = (sgn n d).natAbs * q.natAbs := by
      conv => lhs; rw [hq]
      exact Int.natAbs_mul ..
    rw [this]
    exact Nat.le_mul_of_pos_left _ hs1
theorem Bd.log {i : Int} (h : Bd i) : i.natAbs.log2 < 9000 := by
  by_cases z : i.natAbs = 0
  · rw [z]; decide
  · rw [Nat.log2_lt z]
    exact Nat.lt_of_lt_of_le h (Nat.pow_le_pow_right (by decide) (by decide))
theorem gcd_bd {n d : Int} (hd : d ≠ 0) (h : Bd d) : Int.gcd n d < 2 ^ 1000 := Nat.lt_of_le_of_lt (Nat.le_of_dvd (by omega) (Int.gcd_dvd_natAbs_right ..)) h
theorem div_sgn {n d : Int} (hd : d ≠ 0) (h : Bd d) : divOk (sgn n d) = true := by
  obtain ⟨h0, ha⟩ := sgn_ne (n := n) hd
  have hb : Bd (sgn n d) := by
    unfold Bd
    rw [ha]
    exact gcd_bd hd h
  simp only [divOk, Bool.and_eq_true, decide_eq_true_eq]
  exact ⟨h0, hb.log⟩
theorem w_reduced {k : Nat} {n d : Int} {s : HS b} {Q : PV.D → HS b → Prop} {E : XW b} (hn : Bd n) (hd : Bd d) (h0 : d ≠ 0) (h : ∀ p q, Red n d p q → Q (.tup [.int p, .int q]) s) : W (callF Lx.pg (k + 2) 2 [.int n, .int d] s) Q E := by
  have key : ∀ g, g = sgn n d → W (fin s (.tup [.int (n.fdiv g), .int (d.fdiv g)]) (HS.start s.M)) Q E := fun g hg => by
    subst hg
    exact f_imm rfl rfl (h _ _ (red_ok h0))
  refine W_call (d := ⟨2, 3, b2⟩) rfl rfl ?_
  walk_at "w0"
  unfold b2
  walk_at "ww"
  refine w_gcd hn hd ?_
  walk_at "ww"
  refine c_d (fun hl => ?_) (fun hl => ?_)
  · have e : -(Int.gcd n d : Int) = sgn n d := by
      unfold sgn
      rw [if_pos hl]
    walk_at "ww"
    refine w_fdiv (by rw [e]; exact div_sgn h0 hd) ?_
    walk_at "ww"
    refine w_fdiv (by rw [e]; exact div_sgn h0 hd) ?_
    walk_at "ww"
    exact key _ e
  · have e : (Int.gcd n d : Int) = sgn n d := by
      unfold sgn
      rw [if_neg hl]
    walk_at "ww"
    refine w_fdiv (by rw [e]; exact div_sgn h0 hd) ?_
    walk_at "ww"
    refine w_fdiv (by rw [e]; exact div_sgn h0 hd) ?_
    walk_at "ww"
    exact key _ e
end K51
set_option Elab.async false
set_option linter.all false
set_option maxRecDepth 100000
set_option maxHeartbeats 1000000
set_option exponentiation.threshold 10000
namespace K51
open PySem PV
variable {b : List MO}
def frB : PV.D → Bool
  | .tup [.int p, .int q] => decide (1 ≤ q) && decide (Int.gcd p q = 1)
  | _ => false
structure Ask (M : List MO) (x : PV.D) : Prop where
  ty : Tyd M x
  it : ∀ xs, x = .tup xs → ∀ d ∈ xs, Tyd M d
  bd : ∀ p q, x = .tup [.int p, .int q] → Bd p ∧ Bd q
theorem ty_tup {M : List MO} {x : PV.D} (h : Tyd M x) : (∃ xs, x = .tup xs) ∨ (isTy M .tuple x = some false ∧ frB x = false) := by
  obtain ⟨k, e⟩ := h .tuple
  cases x with
  | tup xs => exact .inl ⟨xs, rfl⟩
  | ref i =>
    refine .inr ⟨?_, rfl⟩
    simp only [isTy] at e ⊢
    split at e <;> first | rfl | cases e
  | _ => exact .inr ⟨rfl, rfl⟩
theorem frB_len {xs : List PV.D} (h : xs.length ≠ 2) : frB (.tup xs) = false := by
  match xs, h with
  | [], _ => rfl
  | [a], _ => simp [frB]
  | [a, c], h => simp at h
  | a :: c :: d :: r, _ => simp [frB]
theorem frB_int {u v : PV.D} (h : (isInt u && isInt v) = false) : frB (.tup [u, v]) = false := by
  cases u <;> cases v <;> first | rfl | cases h
theorem gcd1 (p q : Int) : ((Int.gcd p q : Int) == 1) = decide (Int.gcd p q = 1) := by
  by_cases h : Int.gcd p q = 1
  · simp [h]
  · have : ¬ ((Int.gcd p q : Int) = 1) := by omega
    simp [h, this]
theorem w_isfr {k : Nat} {x : PV.D} {s : HS b} {Q : PV.D → HS b → Prop} {E : XW b} (hx : Ask s.M x) (h : Q (.bl (frB x)) s) : W (callF Lx.pg (k + 2) 3 [x] s) Q E := by
  refine W_call (d := ⟨1, 2, b3⟩) rfl rfl ?_
  walk_at "w0"
  unfold b3
  walk_at "ww"
  rcases ty_tup hx.ty with ⟨xs, rfl⟩ | ⟨et, ef⟩
  · refine w_isi rfl ?_
    walk_at "ww"
    by_cases hl : xs.length = 2
    · obtain ⟨u, v, rfl⟩ : ∃ u v, xs = [u, v] := by
        match xs, hl with
        | [u, v], _ => exact ⟨u, v, rfl⟩
      refine c_b (fun _ => ?_) (fun z => absurd rfl z)
      walk_at "ww"
      refine w_lcp (fun d => some (.bl (isInt d))) (by show 2 < 1000000; decide) (fun d hd => ?_) ?_
      · refine w_turn rfl ?_
        walk_at "ww"
        refine w_isint tb0 (hx.it _ rfl d hd) ?_
        exact ⟨rfl, rfl⟩
      walk_at "ww"
      refine w_all (at_new _ _) (bs := [isInt u, isInt v]) rfl ?_
      walk_at "ww"
      cases hi : (isInt u && isInt v) with
      | false =>
        have : ([isInt u, isInt v].all id) = false := by simpa using hi
        rw [this]
        walk_at "ww"
        refine f_imm rfl rfl ?_
        rw [frB_int hi] at h
        exact h
      | true =>
        have : ([isInt u, isInt v].all id) = true := by simpa using hi
        rw [this]
        rw [Bool.and_eq_true] at hi
        obtain ⟨p, rfl⟩ : ∃ p, u = .int p := by
          cases u <;> first | exact ⟨_, rfl⟩ | cases hi.1
        obtain ⟨q, rfl⟩ : ∃ q, v = .int q := by
          cases v <;> first | exact ⟨_, rfl⟩ | cases hi.2
        obtain ⟨hp, hq⟩ := hx.bd p q rfl
        walk_at "ww"
        refine w_ixt rfl ?_
        walk_at "ww"
        refine c_d (fun hq1 => ?_) (fun hq1 => ?_)
        · walk_at "ww"
          refine w_ixt rfl ?_
          walk_at "ww"
          refine w_ixt rfl ?_
          walk_at "ww"
          refine w_gcd hp hq ?_
          walk_at "ww"
          refine f_imm rfl rfl ?_
          have e : frB (.tup [.int p, .int q]) = ((Int.gcd p q : Int) == 1) := by
            simp only [frB, hq1, decide_true, Bool.true_and, gcd1]
          rw [e] at h
          exact h
        · refine f_imm rfl rfl ?_
          have e : frB (.tup [.int p, .int q]) = false := by simp only [frB, hq1, decide_false, Bool.false_and]
          rw [e] at h
          have : decide (1 ≤ q) = false := decide_eq_false hq1
          rw [this]
          exact h
    · refine c_b (fun z => absurd (by omega) hl) (fun _ => ?_)
      walk_at "ww"
      refine c_b (fun z => absurd (by omega) hl) (fun _ => ?_)
      walk_at "ww"
      refine f_imm rfl rfl ?_
      rw [frB_len hl] at h
      exact h
  · refine w_isi et ?_
    walk_at "ww"
    refine f_imm rfl rfl ?_
    rw [ef] at h
    exact h
theorem w_lawis {k : Nat} {x : PV.D} {s : HS b} {Q : PV.D → HS b → Prop} {E : XW b} (hx : Ask s.M x) (h : Q (.bl (frB x)) s) : W (callF Lx.pg (k + 2) 14 [x] s) Q E := by
  refine W_call (d := ⟨1, 3, b14⟩) rfl rfl ?_
  walk_at "w0"
  unfold b14
  walk_at "ww"
  rcases ty_tup hx.ty with ⟨xs, rfl⟩ | ⟨et, ef⟩
  · refine w_isi rfl ?_
    walk_at "ww"
    by_cases hl : xs.length = 2
    · obtain ⟨u, v, rfl⟩ : ∃ u v, xs = [u, v] := by
        match xs, hl with
        | [u, v], _ => exact ⟨u, v, rfl⟩
      refine c_b (fun _ => ?_) (fun z => absurd rfl z)
      walk_at "ww"
      refine w_ixt rfl ?_
      walk_at "ww"
      refine w_isint tb13 (hx.it _ rfl u (by simp)) ?_
      walk_at "ww"
      cases hu : isInt u with
      | false =>
        walk_at "ww"
        refine f_imm rfl rfl ?_
        rw [frB_int (by rw [hu]; rfl)] at h
        exact h
      | true =>
        walk_at "ww"
        refine w_ixt rfl ?_
        walk_at "ww"
        refine w_isint tb13 (hx.it _ rfl v (by simp)) ?_
        walk_at "ww"
        cases hv : isInt v with
        | false =>
          walk_at "ww"
          refine f_imm rfl rfl ?_
          rw [frB_int (by rw [hu, hv]; rfl)] at h
          exact h
        | true =>
          obtain ⟨p, rfl⟩ : ∃ p, u = .int p := by
            cases u <;> first | exact ⟨_, rfl⟩ | cases hu
          obtain ⟨q, rfl⟩ : ∃ q, v = .int q := by
            cases v <;> first | exact ⟨_, rfl⟩ | cases hv
          obtain ⟨hp, hq⟩ := hx.bd p q rfl
          walk_at "ww"
          refine w_ixt rfl ?_
          walk_at "ww"
          refine c_d (fun hq1 => ?_) (fun hq1 => ?_)
          · walk_at "ww"
            refine f_imm rfl rfl ?_
            have e : frB (.tup [.int p, .int q]) = false := by
              have : ¬ 1 ≤ q := by omega
              simp only [frB, this, decide_false, Bool.false_and]
            rw [e] at h
            exact h
          · walk_at "ww"
            refine w_ixt rfl ?_
            walk_at "ww"
            refine w_ixt rfl ?_
            walk_at "ww"
            have hq0 : (q.natAbs : Int) = q := by omega
            rw [abs_nat]
            have hN := w_euclid (P := Lx.pg.ev (k + 1)) (X := none) (i := 1) (j := 2) (e := [some (.tup [.int p, .int q]), none, none]) (f := p.natAbs) (s := q.natAbs) (S := HS.start s.M)
              (N := fun e1 s1 => WS (exB (Lx.pg.ev (k + 1)) none [(.ret (.cmp .eq (.var 1) (.cst (.int 1))))] e1 s1) (fun _ s1 => W (fin s .non s1) Q E) (fun r s1 => W (fin s r s1) Q E) (fun c fs _ s1 => E c fs (s.back s1))) (T := fun r s1 => W (fin s r s1) Q E) (EE := fun c fs _ s1 => E c fs (s.back s1)) (by rw [fu0]; exact mu_lt hp hq) (by decide) (show 1 < 3 by decide) (show 2 < 3 by decide) (by
                walk_at "ww"
                refine f_imm rfl rfl ?_
                have e : frB (.tup [.int p, .int q]) = ((Int.gcd p q : Int) == 1) := by
                  have : 1 ≤ q := by omega
                  simp only [frB, this, decide_true, Bool.true_and, gcd1]
                rw [e] at h
                exact h)
            rw [hq0] at hN
            exact hN
    · refine c_b (fun z => absurd (by omega) hl) (fun _ => ?_)
      walk_at "ww"
      refine c_b (fun z => absurd (by omega) hl) (fun _ => ?_)
      walk_at "ww"
      refine f_imm rfl rfl ?_
      rw [frB_len hl] at h
      exact h
  · refine w_isi et ?_
    walk_at "ww"
    refine f_imm rfl rfl ?_
    rw [ef] at h
    exact h
end K51
set_option Elab.async false
set_option linter.all false
set_option maxRecDepth 100000
set_option maxHeartbeats 1000000
set_option exponentiation.threshold 10000
namespace K51
open PySem PV
variable {b : List MO}
def Bn (k : Nat) (i : Int) : Prop := i.natAbs < 2 ^ k
theorem Bn.mono {k m : Nat} {i : Int} (h : Bn k i) (hk : k ≤ m) : Bn m i := Nat.lt_of_lt_of_le h (Nat.pow_le_pow_right (by decide) hk)
theorem Bn.mul {k m : Nat} {i j : Int} (h : Bn k i) (h2 : Bn m j) : Bn (k + m) (i * j) := by
  unfold Bn
  rw [Int.natAbs_mul, Nat.pow_add]
  exact Nat.mul_lt_mul'' h h2
theorem Bn.add {k : Nat} {i j : Int} (h : Bn k i) (h2 : Bn k j) : Bn (k + 1) (i + j) := by
  unfold Bn at *
  rw [Nat.pow_succ]
  omega
theorem Bn.bd {k : Nat} {i : Int} (h : Bn k i) (hk : k ≤ 1000) : Bd i := h.mono hk
theorem mul_ok {i j : Int} (h : Bd i) (h2 : Bd j) : mulOk i j = true := by
  have := h.log
  have := h2.log
  have : i.natAbs.log2 + j.natAbs.log2 < 1000000 := by omega
  simp [mulOk, this]
structure FrP (k : Nat) (p q : Int) : Prop where
  pos : 1 ≤ q
  one : Int.gcd p q = 1
  bp : Bn k p
  bq : Bn k q
theorem FrP.frB {k : Nat} {p q : Int} (h : FrP k p q) : frB (.tup [.int p, .int q]) = true := by
  simp [K51.frB, h.pos, h.one]
theorem FrP.ask {k : Nat} {p q : Int} (h : FrP k p q) (hk : k ≤ 1000) (M : List MO) : Ask M (.tup [.int p, .int q]) :=
  ⟨fun t => ⟨_, rfl⟩, fun xs e d hd => by
    cases e
    simp only [List.mem_cons, List.not_mem_nil, or_false] at hd
    rcases hd with rfl | rfl <;> exact fun t => ⟨_, rfl⟩, fun p' q' e => by
    cases e
    exact ⟨h.bp.bd hk, h.bq.bd hk⟩⟩
theorem Red.fr {n d p q : Int} {k : Nat} (h : Red n d p q) (hn : Bn k n) (hd : Bn k d) : FrP k p q := ⟨h.pos, h.one, Nat.lt_of_le_of_lt h.pl hn, Nat.lt_of_le_of_lt h.ql hd⟩
theorem w_make {k : Nat} {n d : Int} {s : HS b} {Q : PV.D → HS b → Prop} {E : XW b} (hn : Bd n) (hd : Bd d) (h0 : d ≠ 0) (h : ∀ p q, Red n d p q → Q (.tup [.int p, .int q]) s) : W (callF Lx.pg (k + 3) 5 [.int n, .int d] s) Q E := by
  refine W_call (d := ⟨2, 2, b5⟩) rfl rfl ?_
  walk_at "w0"
  unfold b5
  walk_at "ww"
  refine w_isint tb0 (fun t => ⟨_, rfl⟩) ?_
  rw [show isInt (.int n) = true from rfl]
  walk_at "ww"
  refine w_isint tb0 (fun t => ⟨_, rfl⟩) ?_
  rw [show isInt (.int d) = true from rfl]
  walk_at "ww"
  refine c_b (fun z => absurd z h0) (fun _ => ?_)
  walk_at "ww"
  refine w_reduced hn hd h0 fun p q hr => ?_
  exact f_imm rfl rfl (h p q hr)
theorem x_make1 {k : Nat} {x y : PV.D} {s : HS b} {Q : PV.D → HS b → Prop} {E : XW b} (hw : s.wf) (hx : Tyd s.M x) (hi : isInt x = false) (h : E 0 [("value", x)] s) : W (callF Lx.pg (k + 3) 5 [x, y] s) Q E := by
  refine W_call (d := ⟨2, 2, b5⟩) rfl rfl ?_
  walk_at "w0"
  unfold b5
  walk_at "ww"
  refine w_isint tb0 hx ?_
  rw [hi]
  walk_at "ww"
  exact ⟨rfl, by rw [back_start hw]; exact h⟩
theorem x_make2 {k : Nat} {n : Int} {y : PV.D} {s : HS b} {Q : PV.D → HS b → Prop} {E : XW b} (hw : s.wf) (hy : Tyd s.M y) (hi : isInt y = false ∨ y = .int 0) (h : E 0 [("value", y)] s) : W (callF Lx.pg (k + 3) 5 [.int n, y] s) Q E := by
  refine W_call (d := ⟨2, 2, b5⟩) rfl rfl ?_
  walk_at "w0"
  unfold b5
  walk_at "ww"
  refine w_isint tb0 (fun t => ⟨_, rfl⟩) ?_
  rw [show isInt (.int n) = true from rfl]
  walk_at "ww"
  refine w_isint tb0 hy ?_
  rcases hi with hi | rfl
  · rw [hi]
    walk_at "ww"
    exact ⟨rfl, by rw [back_start hw]; exact h⟩
  · rw [show isInt (.int 0) = true from rfl]
    walk_at "ww"
    refine c_b (fun _ => ?_) (fun z => absurd rfl z)
    walk_at "ww"
    exact ⟨rfl, by rw [back_start hw]; exact h⟩
theorem w_check {k : Nat} {x : PV.D} {s : HS b} {Q : PV.D → HS b → Prop} {E : XW b} (hx : Ask s.M x) (hf : frB x = true) (h : Q .non s) : W (callF Lx.pg (k + 3) 4 [x] s) Q E := by
  refine W_call (d := ⟨1, 1, b4⟩) rfl rfl ?_
  walk_at "w0"
  unfold b4
  walk_at "ww"
  refine w_isfr hx ?_
  rw [hf]
  walk_at "ww"
  exact f_imm rfl rfl h
theorem x_check {k : Nat} {x : PV.D} {s : HS b} {Q : PV.D → HS b → Prop} {E : XW b} (hw : s.wf) (hx : Ask s.M x) (hf : frB x = false) (h : E 1 [("value", x)] s) : W (callF Lx.pg (k + 3) 4 [x] s) Q E := by
  refine W_call (d := ⟨1, 1, b4⟩) rfl rfl ?_
  walk_at "w0"
  unfold b4
  walk_at "ww"
  refine w_isfr hx ?_
  rw [hf]
  walk_at "ww"
  exact ⟨rfl, by rw [back_start hw]; exact h⟩
theorem w_sum {k : Nat} {p q p2 q2 : Int} {s : HS b} {Q : PV.D → HS b → Prop} {E : XW b} (h1 : FrP 110 p q) (h2 : FrP 110 p2 q2) (h : ∀ u v, Red (p * q2 + p2 * q) (q * q2) u v → Q (.tup [.int u, .int v]) s) : W (callF Lx.pg (k + 3) 6 [.tup [.int p, .int q], .tup [.int p2, .int q2]] s) Q E := by
  have a1 := h1.bp.bd (k := 110) (by decide)
  have a2 := h1.bq.bd (k := 110) (by decide)
  have a3 := h2.bp.bd (k := 110) (by decide)
  have a4 := h2.bq.bd (k := 110) (by decide)
  have hne : q * q2 ≠ 0 := Int.mul_ne_zero (by have := h1.pos; omega) (by have := h2.pos; omega)
  refine W_call (d := ⟨2, 2, b6⟩) rfl rfl ?_
  walk_at "w0"
  unfold b6
  walk_at "ww"
  refine w_ixt rfl ?_
  walk_at "ww"
  refine w_ixt rfl ?_
  refine w_mul (mul_ok a1 a4) ?_
  walk_at "ww"
  refine w_ixt rfl ?_
  walk_at "ww"
  refine w_ixt rfl ?_
  refine w_mul (mul_ok a3 a2) ?_
  walk_at "ww"
  refine w_ixt rfl ?_
  walk_at "ww"
  refine w_ixt rfl ?_
  refine w_mul (mul_ok a2 a4) ?_
  walk_at "ww"
  refine w_reduced ((h1.bp.mul h2.bq).add (h2.bp.mul h1.bq) |>.bd (by decide)) ((h1.bq.mul h2.bq).bd (by decide)) hne fun u v hr => ?_
  exact f_imm rfl rfl (h u v hr)
theorem w_prod {k : Nat} {p q p2 q2 : Int} {s : HS b} {Q : PV.D → HS b → Prop} {E : XW b} (h1 : FrP 110 p q) (h2 : FrP 110 p2 q2) (h : ∀ u v, Red (p * p2) (q * q2) u v → Q (.tup [.int u, .int v]) s) : W (callF Lx.pg (k + 3) 7 [.tup [.int p, .int q], .tup [.int p2, .int q2]] s) Q E := by
  have a1 := h1.bp.bd (k := 110) (by decide)
  have a2 := h1.bq.bd (k := 110) (by decide)
  have a3 := h2.bp.bd (k := 110) (by decide)
  have a4 := h2.bq.bd (k := 110) (by decide)
  have hne : q * q2 ≠ 0 := Int.mul_ne_zero (by have := h1.pos; omega) (by have := h2.pos; omega)
  refine W_call (d := ⟨2, 2, b7⟩) rfl rfl ?_
  walk_at "w0"
  unfold b7
  walk_at "ww"
  refine w_ixt rfl ?_
  walk_at "ww"
  refine w_ixt rfl ?_
  refine w_mul (mul_ok a1 a3) ?_
  walk_at "ww"
  refine w_ixt rfl ?_
  walk_at "ww"
  refine w_ixt rfl ?_
  refine w_mul (mul_ok a2 a4) ?_
  walk_at "ww"
  refine w_reduced ((h1.bp.mul h2.bp).bd (by decide)) ((h1.bq.mul h2.bq).bd (by decide)) hne fun u v hr => ?_
  exact f_imm rfl rfl (h u v hr)
theorem w_addf {k : Nat} {p q p2 q2 : Int} {s : HS b} {Q : PV.D → HS b → Prop} {E : XW b} (h1 : FrP 110 p q) (h2 : FrP 110 p2 q2) (h : ∀ u v, Red (p * q2 + p2 * q) (q * q2) u v → Q (.tup [.int u, .int v]) s) : W (callF Lx.pg (k + 4) 8 [.tup [.int p, .int q], .tup [.int p2, .int q2]] s) Q E := by
  refine W_call (d := ⟨2, 2, b8⟩) rfl rfl ?_
  walk_at "w0"
  unfold b8
  walk_at "ww"
  refine w_check (h1.ask (by decide) _) h1.frB ?_
  walk_at "ww"
  refine w_check (h2.ask (by decide) _) h2.frB ?_
  walk_at "ww"
  refine w_sum h1 h2 fun u v hr => ?_
  exact f_imm rfl rfl (h u v hr)
theorem w_mulf {k : Nat} {p q p2 q2 : Int} {s : HS b} {Q : PV.D → HS b → Prop} {E : XW b} (h1 : FrP 110 p q) (h2 : FrP 110 p2 q2) (h : ∀ u v, Red (p * p2) (q * q2) u v → Q (.tup [.int u, .int v]) s) : W (callF Lx.pg (k + 4) 9 [.tup [.int p, .int q], .tup [.int p2, .int q2]] s) Q E := by
  refine W_call (d := ⟨2, 2, b9⟩) rfl rfl ?_
  walk_at "w0"
  unfold b9
  walk_at "ww"
  refine w_check (h1.ask (by decide) _) h1.frB ?_
  walk_at "ww"
  refine w_check (h2.ask (by decide) _) h2.frB ?_
  walk_at "ww"
  refine w_prod h1 h2 fun u v hr => ?_
  exact f_imm rfl rfl (h u v hr)
theorem x_op1 {k f : Nat} {x y : PV.D} {s : HS b} {Q : PV.D → HS b → Prop} {E : XW b} (hf : f = 8 ∨ f = 9) (hw : s.wf) (hx : Ask s.M x) (hn : frB x = false) (h : E 1 [("value", x)] s) : W (callF Lx.pg (k + 4) f [x, y] s) Q E := by
  rcases hf with rfl | rfl
  · refine W_call (d := ⟨2, 2, b8⟩) rfl rfl ?_
    walk_at "w0"
    unfold b8
    walk_at "ww"
    refine x_check (start_wf _) hx hn ?_
    rw [back_start hw]
    exact h
  · refine W_call (d := ⟨2, 2, b9⟩) rfl rfl ?_
    walk_at "w0"
    unfold b9
    walk_at "ww"
    refine x_check (start_wf _) hx hn ?_
    rw [back_start hw]
    exact h
theorem x_op2 {k f : Nat} {x y : PV.D} {s : HS b} {Q : PV.D → HS b → Prop} {E : XW b} (hf : f = 8 ∨ f = 9) (hw : s.wf) (hx : Ask s.M x) (hn : frB x = true) (hy : Ask s.M y) (hn2 : frB y = false) (h : E 1 [("value", y)] s) : W (callF Lx.pg (k + 4) f [x, y] s) Q E := by
  rcases hf with rfl | rfl
  · refine W_call (d := ⟨2, 2, b8⟩) rfl rfl ?_
    walk_at "w0"
    unfold b8
    walk_at "ww"
    refine w_check hx hn ?_
    walk_at "ww"
    refine x_check (start_wf _) hy hn2 ?_
    rw [back_start hw]
    exact h
  · refine W_call (d := ⟨2, 2, b9⟩) rfl rfl ?_
    walk_at "w0"
    unfold b9
    walk_at "ww"
    refine w_check hx hn ?_
    walk_at "ww"
    refine x_check (start_wf _) hy hn2 ?_
    rw [back_start hw]
    exact h
end K51
set_option Elab.async false
set_option linter.all false
set_option maxRecDepth 100000
set_option maxHeartbeats 1000000
set_option exponentiation.threshold 10000
namespace K51
open PySem PV
variable {b : List MO}
theorem tb11 : Lx.pg.tb 11 = some ⟨2, 3, bDraw⟩ := rfl
theorem tb10 : Lx.pg.tb 10 = some ⟨2, 4, bHand⟩ := rfl
theorem w_great {k p : Nat} {s : HS b} {Q : PV.D → HS b → Prop} {E : XW b} (hw : s.wf) (hp : Pool s p) (h : ∀ (v : Int) (s' : HS b), 0 ≤ v → v < 10 ^ 30 → Drw p s s' → Q (.int v) s') : W (callF Lx.pg (k + 2) 12 [.ref p] s) Q E := by
  have hp0 : Pool (HS.start s.M) p := hp
  refine W_call (d := ⟨1, 3, b12⟩) rfl rfl ?_
  walk_at "w0"
  unfold b12
  walk_at "ww"
  have d0 := (Drw.refl hp0 (start_wf _)).alloc (.lst true [.int 1, .int 2, .int 5])
  refine w_draw tb11 d0.wf d0.pool (by decide) (by decide) fun v S v0 v1 l1 d1 => ?_
  obtain ⟨m, hm, m0, m1⟩ : ∃ m : Int, L2.atI [PV.D.int 1, .int 2, .int 5] v = some (.int m) ∧ 0 ≤ m ∧ m ≤ 5 := by
    have : v = 0 ∨ v = 1 ∨ v = 2 := by omega
    rcases this with rfl | rfl | rfl
    · exact ⟨1, rfl, by decide, by decide⟩
    · exact ⟨2, rfl, by decide, by decide⟩
    · exact ⟨5, rfl, by decide, by decide⟩
  refine w_ixr (at_drw d1 (by have := Pool.lt hp0; omega) (at_new (HS.start s.M) _)) hm ?_
  have d2 := d0.trans d1
  clear d1 l1 v0 v1 hm d0
  walk_at "ww"
  refine w_srcR (by omega) (by omega) ?_
  refine z_rng (fun i e1 s1 => Drw p (HS.start s.M) s1 ∧ ∃ (g : Int) (y : Option PV.D), e1 = [some (.ref p), some (.int g), y] ∧ 0 ≤ g ∧ g < 10 ^ (6 * i)) ⟨d2, 0, none, rfl, by decide, by decide⟩ (by
      have : m.toNat ≤ 5 := by omega
      exact Nat.lt_of_le_of_lt this (by show 5 < 1000000; decide)) (fun i e1 s1 hi hI => ?_) (fun e1 s1 hI => ?_)
  · obtain ⟨dd, g, y, rfl, g0, g1⟩ := hI
    dsimp only [Tg.bind]
    walk_at "ww"
    refine w_is (a := .int 1000000) (s' := s1) (by simp only [bin]; rfl) ?_
    walk_at "ww"
    refine w_mul (mulOk_right (by decide)) ?_
    walk_at "ww"
    refine w_is (a := .int 1000000) (s' := s1) (by simp only [bin]; rfl) ?_
    walk_at "ww"
    refine w_draw tb11 dd.wf dd.pool (by decide) (by decide) fun v S v0 v1 l1 d1 => ?_
    walk_at "ww"
    refine ⟨dd.trans d1, _, _, rfl, by omega, ?_⟩
    have e : (10 : Int) ^ (6 * (i + 1)) = 10 ^ (6 * i) * 1000000 := by
      rw [Nat.mul_add, Int.pow_add]
      rfl
    rw [e]
    omega
  · obtain ⟨dd, g, y, rfl, g0, g1⟩ := hI
    walk_at "ww"
    refine fin_drw rfl hw hp dd fun s' ds => h g s' g0 ?_ ds
    have : m.toNat ≤ 5 := by omega
    have e : (10 : Int) ^ (6 * m.toNat) ≤ 10 ^ 30 := by
      have : m.toNat = 0 ∨ m.toNat = 1 ∨ m.toNat = 2 ∨ m.toNat = 3 ∨ m.toNat = 4 ∨ m.toNat = 5 := by omega
      rcases this with h | h | h | h | h | h <;> rw [h] <;> decide
    omega
theorem w_told {k : Nat} {dr : Int} {x y v : PV.D} {s : HS b} {Q : PV.D → HS b → Prop} {E : XW b} (hv : v.imm = true)
    (hd : (dr = 0 ∧ callF Lx.pg (k + 4) 5 [x, y] (HS.start s.M) = ret v (HS.start s.M)) ∨ (dr = 1 ∧ callF Lx.pg (k + 4) 8 [x, y] (HS.start s.M) = ret v (HS.start s.M)) ∨ (dr = 2 ∧ callF Lx.pg (k + 4) 9 [x, y] (HS.start s.M) = ret v (HS.start s.M)))
    (h : Q (.ref s.M.length) (s.alloc (.lst true [.str "told", v]))) : W (callF Lx.pg (k + 5) 15 [.int dr, x, y] s) Q E := by
  refine W_call (d := ⟨3, 4, b15⟩) rfl rfl ?_
  walk_at "w0"
  unfold b15
  have fin : W (fin s (.ref s.M.length) ((HS.start s.M).alloc (.lst true [.str "told", v]))) Q E := f_lst rfl (Nat.le_refl _) (at_new (HS.start s.M) _) (by simp [D.immL, D.imm, hv]) h
  refine z_cons (WS_try ?_)
  walk_at "ww"
  rcases hd with ⟨rfl, e⟩ | ⟨rfl, e⟩ | ⟨rfl, e⟩
  · refine c_b (fun _ => ?_) (fun z => absurd rfl z)
    walk_at "ww"
    refine w_is e ?_
    walk_at "ww"
    exact fin
  · refine c_b (fun z => absurd z (by decide)) (fun _ => ?_)
    walk_at "ww"
    refine c_b (fun _ => ?_) (fun z => absurd rfl z)
    walk_at "ww"
    refine w_is e ?_
    walk_at "ww"
    exact fin
  · refine c_b (fun z => absurd z (by decide)) (fun _ => ?_)
    walk_at "ww"
    refine c_b (fun z => absurd z (by decide)) (fun _ => ?_)
    walk_at "ww"
    refine w_is e ?_
    walk_at "ww"
    exact fin
theorem x_told {k c : Nat} {dr : Int} {x y z : PV.D} {r : Str} {s : HS b} {Q : PV.D → HS b → Prop} {E : XW b} (hz : Rp s.M z r) (hc : c = 0 ∨ c = 1)
    (hd : ∃ f, ((dr = 0 ∧ f = 5) ∨ (dr = 1 ∧ f = 8) ∨ (dr = 2 ∧ f = 9)) ∧ ∀ {Q : PV.D → HS s.M → Prop} {E : XW s.M}, E c [("value", z)] (HS.start s.M) → W (callF Lx.pg (k + 4) f [x, y] (HS.start s.M)) Q E)
    (h : Q (.ref s.M.length) (s.alloc (.lst true [.str (if c = 0 then "number" else "share"), .bl true, .str r]))) : W (callF Lx.pg (k + 5) 15 [.int dr, x, y] s) Q E := by
  refine W_call (d := ⟨3, 4, b15⟩) rfl rfl ?_
  walk_at "w0"
  unfold b15
  have fin : W (fin s (.ref s.M.length) ((HS.start s.M).alloc (.lst true [.str (if c = 0 then "number" else "share"), .bl true, .str r]))) Q E := f_lst rfl (Nat.le_refl _) (at_new (HS.start s.M) _) (by simp [D.immL, D.imm]) h
  obtain ⟨f, hf, hx⟩ := hd
  refine z_cons (WS_try ?_)
  have tail : WH (Lx.pg.ev (k + 4)) c [("value", z)] [some (.int dr), some x, some y, none] (HS.start s.M) (fun e1 s1 => WS (exB (Lx.pg.ev (k + 4)) none [] e1 s1) (fun _ s1 => W (PV.fin s .non s1) Q E) (fun r s1 => W (PV.fin s r s1) Q E) fun c fs _ s1 => E c fs (s.back s1)) (fun r s1 => W (PV.fin s r s1) Q E) (fun c fs _ s1 => E c fs (s.back s1)) [.mk "InvalidNumber" (some 3) [(.ret (.lst [.cst (.str "number"), .exci 3 "ValueError", .bi .repr [.excf 3 "value"]]))], .mk "InvalidFraction" (some 3) [(.ret (.lst [.cst (.str "share"), .exci 3 "ValueError", .bi .repr [.excf 3 "value"]]))]] := by
    rcases hc with rfl | rfl
    · refine .inl ⟨rfl, ?_⟩
      walk_at "ww"
      refine w_exci rfl rfl ?_
      walk_at "ww"
      refine w_excf (show ("value" : Str) ∈ [("value" : Str)] from List.mem_cons_self) rfl rfl ?_
      walk_at "ww"
      refine w_rp hz ?_
      walk_at "ww"
      exact fin
    · refine .inr ⟨rfl, .inl ⟨rfl, ?_⟩⟩
      walk_at "ww"
      refine w_exci rfl rfl ?_
      walk_at "ww"
      refine w_excf (show ("value" : Str) ∈ [("value" : Str)] from List.mem_cons_self) rfl rfl ?_
      walk_at "ww"
      refine w_rp hz ?_
      walk_at "ww"
      exact fin
  walk_at "ww"
  rcases hf with ⟨rfl, rfl⟩ | ⟨rfl, rfl⟩ | ⟨rfl, rfl⟩
  · refine c_b (fun _ => ?_) (fun z => absurd rfl z)
    walk_at "ww"
    exact hx tail
  · refine c_b (fun z => absurd z (by decide)) (fun _ => ?_)
    walk_at "ww"
    refine c_b (fun _ => ?_) (fun z => absurd rfl z)
    walk_at "ww"
    exact hx tail
  · refine c_b (fun z => absurd z (by decide)) (fun _ => ?_)
    walk_at "ww"
    refine c_b (fun z => absurd z (by decide)) (fun _ => ?_)
    walk_at "ww"
    exact hx tail
end K51
set_option Elab.async false
set_option linter.all false
set_option maxRecDepth 100000
set_option maxHeartbeats 1000000
set_option exponentiation.threshold 10000
namespace K51
open PySem PV
variable {b : List MO}
def OddV (M : List MO) (x : PV.D) : Prop := (x.imm = true ∧ Sm (pdD x) ∧ ∀ p q, x = .tup [.int p, .int q] → Bd p ∧ Bd q) ∨ ∃ q, x = .ref q ∧ (M[q]? = some (.dct []) ∨ ∃ xs, M[q]? = some (.lst true xs) ∧ D.immL xs = true ∧ Sm (.list (pdL xs)))
theorem OddV.alloc {S : HS b} {x : PV.D} (h : OddV S.M x) (o : MO) : OddV (S.alloc o).M x := by
  obtain h2 | ⟨q, rfl, h2 | ⟨xs, h2, h3, h4⟩⟩ := h
  · exact .inl h2
  · exact .inr ⟨q, rfl, .inl (at_alloc h2)⟩
  · exact .inr ⟨q, rfl, .inr ⟨xs, at_alloc h2, h3, h4⟩⟩
theorem OddV.ask {M : List MO} {x : PV.D} (h : OddV M x) : Ask M x := by
  obtain h2 | ⟨q, rfl, h2 | ⟨xs, h2, h3, h4⟩⟩ := h
  · refine ⟨tyd_imm h2.1, fun xs e d hd => ?_, h2.2.2⟩
    subst e
    exact tyd_imm (immL_iff.mp h2.1 d hd)
  · exact ⟨fun t => ⟨_, by simp only [isTy, h2]; rfl⟩, (fun xs e => nomatch e), fun p q e => nomatch e⟩
  · exact ⟨fun t => ⟨_, by simp only [isTy, h2]; rfl⟩, (fun xs e => nomatch e), fun p q e => nomatch e⟩
theorem OddV.rp {M : List MO} {x : PV.D} (h : OddV M x) : ∃ r, Rp M x r := by
  obtain h2 | ⟨q, rfl, h2 | ⟨xs, h2, h3, h4⟩⟩ := h
  · exact ⟨_, .inl ⟨_, deep_imm M h2.1, h2.2.1, rfl⟩⟩
  · exact ⟨_, .inr ⟨q, rfl, h2, rfl⟩⟩
  · exact ⟨_, .inl ⟨_, deep_lst h2 h3, h4, rfl⟩⟩
theorem rp_alloc {S : HS b} {x : PV.D} {r : Str} {o : MO} (h : OddV S.M x) (h2 : Rp S.M x r) : Rp (S.alloc o).M x r := by
  obtain h3 | ⟨q, rfl, h3 | ⟨xs, h3, h4, h5⟩⟩ := h
  · rcases h2 with ⟨d, h1, h2, rfl⟩ | ⟨p, rfl, _⟩
    · rw [deep_imm _ h3.1] at h1
      exact .inl ⟨d, by rw [deep_imm _ h3.1]; exact h1, h2, rfl⟩
    · cases h3.1
  · rcases h2 with ⟨d, h1, h2, rfl⟩ | ⟨p, e, h1, rfl⟩
    · have : deep S.M (.ref q) = none := by
        show deepR S.M 8 q = none
        simp [deepR, h3]
      rw [this] at h1
      cases h1
    · cases e
      exact .inr ⟨q, rfl, at_alloc h1, rfl⟩
  · rcases h2 with ⟨d, h1, h2, rfl⟩ | ⟨p, e, h1, rfl⟩
    · rw [deep_lst h3 h4] at h1
      exact .inl ⟨d, by rw [deep_lst (at_alloc h3) h4]; exact h1, h2, rfl⟩
    · cases e
      rw [h3] at h1
      cases h1
theorem fin_odd {p : Nat} {s : HS b} {d : PV.D} {s1 : HS s.M} {Q : PV.D → HS b → Prop} {E : XW b} (hw : s.wf) (hp : Pool s p) (ho : OddV s1.M d) (hr : ∀ q, d = .ref q → s.M.length ≤ q) (dd : Drw p (HS.start s.M) s1) (k : ∀ x s', OddV s'.M x → Drw p s s' → Q x s') : W (fin s d s1) Q E := by
  by_cases hlo : s1.lo = s.M.length
  · obtain h | ⟨q, rfl, h⟩ := ho
    · exact f_imm hlo h.1 (k _ _ (.inl h) (Drw.refl hp hw))
    · rcases h with h | ⟨xs, h, hi, hs⟩
      · have e : fin s (.ref q) s1 = ret (.ref q) (s.back s1) := by
          unfold fin
          rw [if_pos hlo]
          have : pull s.M.length s1.M (.ref q) = none := by
            have := hr q rfl
            simp only [pull]
            rw [if_neg (by omega), h]
          rw [this]
        exact w_is e (k _ _ (.inr ⟨q, rfl, .inl h⟩) (dd.back hw))
      · exact f_lst hlo (hr q rfl) h hi (k _ _ (.inr ⟨_, rfl, .inr ⟨xs, at_new s _, hi, hs⟩⟩) ((Drw.refl hp hw).alloc _))
  · exact f_keep hlo (k _ _ ho (dd.back hw))
theorem smi_bn {i : Int} (h : Bn 120 i) : SmI (.int i) := smi_int (Nat.lt_of_lt_of_le h (by decide +kernel))
theorem smi_bl (t : Bool) : SmI (.bl t) := by cases t <;> exact ⟨rfl, by decide +kernel, by decide +kernel, by decide +kernel, by decide +kernel, by decide +kernel⟩
theorem smi_non : SmI .non := ⟨rfl, by decide +kernel, by decide +kernel, by decide +kernel, by decide +kernel, by decide +kernel⟩
theorem smi_1 : SmI (.str "1") := ⟨rfl, by decide +kernel, by decide +kernel, by decide +kernel, by decide +kernel, by decide +kernel⟩
theorem odd_i {M : List MO} {x : PV.D} (h : SmI x) (hn : ∀ xs, x ≠ .tup xs) : OddV M x := .inl ⟨h.imm, ⟨h.lay, h.sh, h.lv, Nat.le_trans h.wt (by decide), Nat.le_trans h.dep (by decide)⟩, fun p q e => absurd e (hn _)⟩
theorem odd_t {M : List MO} {xs : List PV.D} (h : ∀ x ∈ xs, SmI x) (hl : xs.length ≤ 6) (hb : ∀ p q, xs = [.int p, .int q] → Bd p ∧ Bd q) : OddV M (.tup xs) := by
  obtain ⟨h1, h2⟩ := sm_tup h hl
  exact .inl ⟨h1, h2, fun p q e => hb p q (by cases e; rfl)⟩
theorem two {u v : PV.D} (hu : SmI u) (hv : SmI v) : ∀ x ∈ [u, v], SmI x := fun x hx => by
  simp only [List.mem_cons, List.not_mem_nil, or_false] at hx
  rcases hx with rfl | rfl
  · exact hu
  · exact hv
theorem bn_1 : Bn 120 0 ∧ Bn 120 1 ∧ Bn 120 2 ∧ Bn 120 5 := ⟨by unfold Bn; decide +kernel, by unfold Bn; decide +kernel, by unfold Bn; decide +kernel, by unfold Bn; decide +kernel⟩
theorem odd_2 {M : List MO} {p q : Int} (hp : Bn 120 p) (hq : Bn 120 q) : OddV M (.tup [.int p, .int q]) := odd_t (two (smi_bn hp) (smi_bn hq)) (by simp) fun p' q' e => by
  cases e
  exact ⟨hp.bd (by decide), hq.bd (by decide)⟩
theorem w_odd {k pl : Nat} {p q : Int} {s : HS b} {Q : PV.D → HS b → Prop} {E : XW b} (hw : s.wf) (hp : Pool s pl) (hh : FrP 110 p q) (h : ∀ x s', OddV s'.M x → Drw pl s s' → Q x s') : W (callF Lx.pg (k + 2) 16 [.ref pl, .tup [.int p, .int q]] s) Q E := by
  have hp0 : Pool (HS.start s.M) pl := hp
  have hpl := Pool.lt hp
  have bp : Bn 120 p := hh.bp.mono (by decide)
  have bq : Bn 120 q := hh.bq.mono (by decide)
  have bn : ∀ {i : Int}, Bn 110 i → Bn 120 (-i) := fun {i} h => by
    have : Bn 120 i := h.mono (by decide)
    unfold Bn at *
    rw [Int.natAbs_neg]
    exact this
  have b2 : ∀ {i : Int}, Bn 110 i → Bn 120 (i * 2) := fun {i} h => by
    have h2 : Bn 2 2 := by unfold Bn; decide
    exact (h.mul h2).mono (by decide)
  refine W_call (d := ⟨2, 3, b16⟩) rfl rfl ?_
  walk_at "w0"
  unfold b16
  walk_at "ww"
  refine w_ixt rfl ?_
  walk_at "ww"
  refine w_ixt rfl ?_
  walk_at "ww"
  refine w_ixt rfl ?_
  walk_at "ww"
  refine w_addT (so_le (by simp)) ?_
  walk_at "ww"
  refine w_ixt rfl ?_
  walk_at "ww"
  refine w_mul (mulOk_right (by decide)) ?_
  walk_at "ww"
  refine w_ixt rfl ?_
  walk_at "ww"
  refine w_mul (mulOk_right (by decide)) ?_
  walk_at "ww"
  refine w_ixt rfl ?_
  walk_at "ww"
  refine w_ixt rfl ?_
  walk_at "ww"
  refine w_ixt rfl ?_
  walk_at "ww"
  refine w_ixt rfl ?_
  walk_at "ww"
  refine w_ixt rfl ?_
  walk_at "ww"
  have q1 := at_new (HS.start s.M) (.lst true [.int p, .int q])
  have d1 := (Drw.refl hp0 (start_wf _)).alloc (.lst true [.int p, .int q])
  have lq : (HS.start s.M).M.length = s.M.length := rfl
  generalize hS1 : (HS.start s.M).alloc (.lst true [.int p, .int q]) = S1 at q1 d1 ⊢
  have l1 : S1.M.length = s.M.length + 1 := by rw [← hS1]; simp
  rw [lq] at q1 ⊢
  obtain ⟨Z1, hZ1⟩ : ∃ Z : List PV.D, Z = [.non, .int 5, .ref s.M.length, .tup [.int p], .tup ([.int p, .int q] ++ [.int 1]), .tup [.int (p * 2), .int (q * 2)], .tup [.int p, .int 0], .tup [.int 0, .int 2], .tup [.bl true, .int 1]] := ⟨_, rfl⟩
  rw [← hZ1]
  have d2 := d1.alloc (.lst true Z1)
  have q2 := at_alloc (o' := .lst true Z1) q1
  have z1 := at_new S1 (.lst true Z1)
  generalize hS2 : S1.alloc (.lst true Z1) = S2 at d2 q2 z1 ⊢
  have l2 : S2.M.length = s.M.length + 2 := by rw [← hS2]; simp [l1]
  have d3 := d2.alloc (.dct [])
  have q3 := at_alloc (o' := .dct []) q2
  have z3 := at_alloc (o' := .dct []) z1
  have c3 := at_new S2 (.dct [])
  generalize hS3 : S2.alloc (.dct []) = S3 at d3 q3 z3 c3 ⊢
  have l3 : S3.M.length = s.M.length + 3 := by rw [← hS3]; simp [l2]
  rw [l2] at c3 ⊢
  rw [l1] at z3 ⊢
  obtain ⟨Z2, hZ2⟩ : ∃ Z : List PV.D, Z = [.tup [.int (-p), .int (-q)], .tup [.int p, .bl true], .tup [.int 0, .int 1], .tup [.int 1, .int 1], .tup [.int p, .str "1"], .str "1", .tup [], .tup [.non, .int 1], .ref (s.M.length + 2)] := ⟨_, rfl⟩
  rw [← hZ2]
  have d4 := d3.alloc (.lst true Z2)
  have q4 := at_alloc (o' := .lst true Z2) q3
  have z4 := at_alloc (o' := .lst true Z2) z3
  have c4 := at_alloc (o' := .lst true Z2) c3
  have y4 := at_new S3 (.lst true Z2)
  generalize hS4 : S3.alloc (.lst true Z2) = S4 at d4 q4 z4 c4 y4 ⊢
  have l4 : S4.M.length = s.M.length + 4 := by rw [← hS4]; simp [l3]
  have n1 : Z1.length = 9 := by rw [hZ1]; rfl
  have n2 : Z2.length = 9 := by rw [hZ2]; rfl
  rw [l3] at y4 ⊢
  refine w_addL z4 y4 (so_le (by omega)) ?_
  have d5 := d4.alloc (.lst true (Z1 ++ Z2))
  have q5 := at_alloc (o' := .lst true (Z1 ++ Z2)) q4
  have c5 := at_alloc (o' := .lst true (Z1 ++ Z2)) c4
  have y5 := at_new S4 (.lst true (Z1 ++ Z2))
  generalize hS5 : S4.alloc (.lst true (Z1 ++ Z2)) = S5 at d5 q5 c5 y5 ⊢
  rw [l4] at y5 ⊢
  walk_at "ww"
  refine w_draw tb11 d5.wf d5.pool (by decide) (by decide) fun v S v0 v1 ll dd => ?_
  obtain ⟨x, hx, hx2⟩ := atI_lt (xs := Z1 ++ Z2) v0 (by rw [List.length_append, n1, n2]; omega)
  refine w_ixr (at_drw dd (by omega) y5) hx ?_
  have qS := at_drw dd (by omega) q5
  have cS := at_drw dd (by omega) c5
  have hx3 : x ∈ Z1 ++ Z2 := List.mem_iff_getElem?.mpr ⟨_, hx2⟩
  rw [hZ1, hZ2] at hx3
  simp only [List.cons_append, List.nil_append, List.mem_cons, List.not_mem_nil, or_false] at hx3
  have key : OddV S.M x ∧ ∀ q, x = .ref q → s.M.length ≤ q := by
    have nr : ∀ {y : PV.D}, OddV S.M y → (∀ q, y ≠ .ref q) → OddV S.M y ∧ ∀ q, y = .ref q → s.M.length ≤ q := fun h1 h2 => ⟨h1, fun q e => absurd e (h2 q)⟩
    rcases hx3 with rfl | rfl | rfl | rfl | rfl | rfl | rfl | rfl | rfl | rfl | rfl | rfl | rfl | rfl | rfl | rfl | rfl | rfl
    · exact nr (odd_i smi_non (by simp)) (by simp)
    · exact nr (odd_i (smi_bn bn_1.2.2.2) (by simp)) (by simp)
    · exact ⟨.inr ⟨_, rfl, .inr ⟨_, qS, rfl, sm_lst (two (smi_bn bp) (smi_bn bq)) (by simp)⟩⟩, fun q e => by cases e; exact Nat.le_refl _⟩
    · exact nr (odd_t (fun x hx => by rw [List.mem_singleton.mp hx]; exact smi_bn bp) (by simp) (fun p q e => by simp at e)) (by simp)
    · refine nr (odd_t (fun x hx => ?_) (by simp) (fun p q e => by simp at e)) (by simp)
      simp only [List.mem_cons, List.not_mem_nil, or_false] at hx
      rcases hx with rfl | rfl | rfl
      · exact smi_bn bp
      · exact smi_bn bq
      · exact smi_bn bn_1.2.1
    · exact nr (odd_2 (b2 hh.bp) (b2 hh.bq)) (by simp)
    · exact nr (odd_2 bp bn_1.1) (by simp)
    · exact nr (odd_2 bn_1.1 bn_1.2.2.1) (by simp)
    · exact nr (odd_t (two (smi_bl true) (smi_bn bn_1.2.1)) (by simp) (fun p q e => by simp at e)) (by simp)
    · exact nr (odd_2 (bn hh.bp) (bn hh.bq)) (by simp)
    · exact nr (odd_t (two (smi_bn bp) (smi_bl true)) (by simp) (fun p q e => by simp at e)) (by simp)
    · exact nr (odd_2 bn_1.1 bn_1.2.1) (by simp)
    · exact nr (odd_2 bn_1.2.1 bn_1.2.1) (by simp)
    · exact nr (odd_t (two (smi_bn bp) smi_1) (by simp) (fun p q e => by simp at e)) (by simp)
    · exact nr (odd_i smi_1 (by simp)) (by simp)
    · exact nr (odd_t (by simp) (by simp) (fun p q e => by simp at e)) (by simp)
    · exact nr (odd_t (two smi_non (smi_bn bn_1.2.1)) (by simp) (fun p q e => by simp at e)) (by simp)
    · exact ⟨.inr ⟨_, rfl, .inl cS⟩, fun q e => by cases e; omega⟩
  exact fin_odd hw hp key.1 key.2 (d5.trans dd) h
end K51
set_option Elab.async false
set_option linter.all false
set_option maxRecDepth 100000
set_option maxHeartbeats 1000000
set_option exponentiation.threshold 10000
namespace K51
open PySem PV
variable {b : List MO}
theorem pl_s (x : Str) (h : PyData.strOk x = true) : Pl 1 (pdD (.str x)) := ⟨by simpa [pdD, PyData.canLay0] using h, by simp [pdD, PyData.depth]⟩
theorem pl_share : Pl 1 (pdD (.str "share")) := pl_s _ (by decide +kernel)
theorem pl_number : Pl 1 (pdD (.str "number")) := pl_s _ (by decide +kernel)
theorem pl_bad {w : PV.D} {r : Str} (hw : Pl 1 (pdD w)) (h : Pl 1 (.str r)) : ∀ y ∈ [w, .bl true, .str r], Pl 2 (pdD y) := fun y hy => by
  simp only [List.mem_cons, List.not_mem_nil, or_false] at hy
  rcases hy with rfl | rfl | rfl
  · exact hw.up (by decide)
  · exact (pl_bl _).up (by decide)
  · exact h.up (by decide)
theorem eq_bl (M : List MO) (t : Bool) : eqD M (.bl t) (.bl t) = some true := eqD_self rfl rfl (pl_bl t) (by decide)
theorem w_refused {k : Nat} {x : PV.D} {p q : Int} {s : HS b} {Q : PV.D → HS b → Prop} {E : XW b} (ho : OddV s.M x) (hh : FrP 110 p q) (h : Q (.bl true) s) : W (callF Lx.pg (k + 6) 17 [x, .tup [.int p, .int q]] s) Q E := by
  have ho0 : OddV (HS.start s.M).M x := ho
  refine W_call (d := ⟨2, 4, b17⟩) rfl rfl ?_
  walk_at "w0"
  unfold b17
  walk_at "ww"
  refine w_isfr ho0.ask ?_
  walk_at "ww"
  refine w_lawis ho0.ask ?_
  refine w_neD (eq_bl _ _) ?_
  walk_at "ww"
  refine w_isfr ho0.ask ?_
  walk_at "ww"
  refine w_isi rfl ?_
  walk_at "ww"
  refine w_lawis ho0.ask ?_
  walk_at "ww"
  cases hf : frB x with
  | true =>
    walk_at "ww"
    exact f_imm rfl rfl h
  | false =>
    walk_at "ww"
    obtain ⟨r, hr⟩ := ho0.rp
    refine w_rp hr ?_
    walk_at "ww"
    have o1 := ho0.alloc (.lst true [.str "share", .bl true, .str r])
    have r1 := rp_alloc (o := .lst true [.str "share", .bl true, .str r]) ho0 hr
    have b1 := at_new (HS.start s.M) (.lst true [.str "share", .bl true, .str r])
    have w1 : ((HS.start s.M).alloc (.lst true [.str "share", .bl true, .str r])).wf := alloc_wf (start_wf _) _
    have lo1 : ((HS.start s.M).alloc (.lst true [.str "share", .bl true, .str r])).lo = s.M.length := rfl
    generalize (HS.start s.M).alloc (.lst true [.str "share", .bl true, .str r]) = S1 at o1 r1 b1 w1 lo1 ⊢
    generalize (HS.start s.M).M.length = qb at b1 ⊢
    refine z_its (fun _ e1 s1 => OddV s1.M x ∧ Rp s1.M x r ∧ s1.M[qb]? = some (.lst true [.str "share", .bl true, .str r]) ∧ s1.wf ∧ s1.lo = s.M.length ∧ ∃ y, e1 = [some x, some (.tup [.int p, .int q]), some (.ref qb), y]) ⟨o1, r1, b1, w1, lo1, _, rfl⟩ (by show 2 < 1000000; decide) (fun i d e1 s1 hd hI => ?_) (fun e1 s1 hI => ?_)
    · obtain ⟨o2, r2, b2, w2, lo2, y, rfl⟩ := hI
      obtain ⟨m, f, rfl, hm⟩ : ∃ (m : Int) (f : Nat), d = .int m ∧ ((m = 1 ∧ f = 8) ∨ (m = 2 ∧ f = 9)) := by
        have := List.mem_iff_getElem?.mpr ⟨_, hd⟩
        simp only [List.mem_cons, List.not_mem_nil, or_false] at this
        rcases this with rfl | rfl
        · exact ⟨1, 8, rfl, .inl ⟨rfl, rfl⟩⟩
        · exact ⟨2, 9, rfl, .inr ⟨rfl, rfl⟩⟩
      have hf2 : f = 8 ∨ f = 9 := by rcases hm with ⟨_, h⟩ | ⟨_, h⟩ <;> simp [h]
      dsimp only [Tg.bind]
      walk_at "ww"
      refine x_told (c := 1) (z := x) (r := r) r2 (.inr rfl) ⟨f, .inr hm, fun hE => x_op1 hf2 (start_wf _) o2.ask hf hE⟩ ?_
      rw [if_neg (by decide)]
      walk_at "ww"
      refine w_neD (same_lst (at_new s1 _) (at_alloc b2) rfl (pl_bad pl_share hr.pl) (by decide)) ?_
      have o3 := o2.alloc (.lst true [.str "share", .bl true, .str r])
      have r3 := rp_alloc (o := .lst true [.str "share", .bl true, .str r]) o2 r2
      have b3 := at_alloc (o' := .lst true [.str "share", .bl true, .str r]) b2
      have w3 := alloc_wf w2 (.lst true [.str "share", .bl true, .str r])
      have lo3 : (s1.alloc (.lst true [.str "share", .bl true, .str r])).lo = s.M.length := lo2
      generalize s1.alloc (.lst true [.str "share", .bl true, .str r]) = S3 at o3 r3 b3 w3 lo3 ⊢
      walk_at "ww"
      refine x_told (c := 1) (z := x) (r := r) r3 (.inr rfl) ⟨f, .inr hm, fun hE => x_op2 hf2 (start_wf _) (hh.ask (by decide) _) hh.frB o3.ask hf hE⟩ ?_
      rw [if_neg (by decide)]
      walk_at "ww"
      refine w_neD (same_lst (at_new S3 _) (at_alloc b3) rfl (pl_bad pl_share hr.pl) (by decide)) ?_
      walk_at "ww"
      exact ⟨o3.alloc _, rp_alloc o3 r3, at_alloc b3, alloc_wf w3 _, lo3, _, rfl⟩
    · obtain ⟨o2, r2, b2, w2, lo2, y, rfl⟩ := hI
      walk_at "ww"
      exact f_imm lo2 rfl h
end K51
set_option Elab.async false
set_option linter.all false
set_option maxRecDepth 100000
set_option maxHeartbeats 2000000
set_option exponentiation.threshold 10000
namespace K51
open PySem PV
variable {b : List MO}
def turnB : List CS := match b18 with
  | [.for_ _ _ _ body, _] => body
  | _ => []
def innerB : List CS := match turnB with
  | _ :: _ :: .for_ _ _ _ body :: _ => body
  | _ => []
structure St (p : Nat) (ns : List Int) (S : HS b) : Prop where
  wf : S.wf
  scr : S.M[0]? = some (.lst false (ns.map PV.D.int))
  pool : Pool S p
  p0 : p ≠ 0
theorem St.lt {p : Nat} {ns : List Int} {S : HS b} (h : St p ns S) : p < S.M.length := Pool.lt h.pool
theorem St.alloc {p : Nat} {ns : List Int} {S : HS b} (h : St p ns S) (o : MO) : St p ns (S.alloc o) :=
  ⟨alloc_wf h.wf o, at_alloc h.scr, by obtain ⟨x, y, e⟩ := h.pool; exact ⟨x, y, at_alloc e⟩, h.p0⟩
theorem St.drw {p : Nat} {ns : List Int} {S S' : HS b} (h : St p ns S) (d : Drw p S S') : St p ns S' :=
  ⟨d.wf, at_drw d (Ne.symm h.p0) h.scr, d.pool, h.p0⟩
theorem St.set {p q : Nat} {ns : List Int} {S : HS b} (h : St p ns S) (hq : q ≠ p) (hq0 : q ≠ 0) (hl : q < S.M.length) (o : MO) : St p ns (S.set q o) :=
  ⟨by
    show min S.lo q ≤ (S.M.set q o).length
    rw [List.length_set]
    omega, at_set (Ne.symm hq0) h.scr, by obtain ⟨x, y, e⟩ := h.pool; exact ⟨x, y, at_set (Ne.symm hq) e⟩, h.p0⟩
def IEnv (e : PV.Env) : Prop := e.length = 16 ∧ e[0]? = some (some (.ref 0))
theorem len16 {e : PV.Env} (h : e.length = 16) (h0 : e[0]? = some (some (.ref 0))) : ∃ x1 x2 x3 x4 x5 x6 x7 x8 x9 x10 x11 x12 x13 x14 x15, e = [some (.ref 0), x1, x2, x3, x4, x5, x6, x7, x8, x9, x10, x11, x12, x13, x14, x15] := by
  match e, h, h0 with
  | [x0, x1, x2, x3, x4, x5, x6, x7, x8, x9, x10, x11, x12, x13, x14, x15], _, h0 =>
    have : x0 = some (.ref 0) := by simpa using h0
    subst this
    exact ⟨x1, x2, x3, x4, x5, x6, x7, x8, x9, x10, x11, x12, x13, x14, x15, rfl⟩
theorem ar5 : Lx.pg.ar 5 = some ⟨["numerator", "denominator"], 2, [("denominator", .int 1)]⟩ := rfl
theorem arrB5a : arrB ⟨["numerator", "denominator"], 2, [("denominator", .int 1)]⟩ 1 ["denominator"] = true := by decide +kernel
theorem arrB5b : arrB ⟨["numerator", "denominator"], 2, [("denominator", .int 1)]⟩ 0 ["numerator"] = true := by decide +kernel
theorem arr5a (c d : Int) : arr ⟨["numerator", "denominator"], 2, [("denominator", .int 1)]⟩ [.int c] ["denominator"] [.int d] = some [.int c, .int d] := by
  unfold arr
  rw [if_pos (by
    rw [Bool.and_eq_true]
    exact ⟨arrB5a, rfl⟩)]
  rfl
theorem arr5b (c : Int) : arr ⟨["numerator", "denominator"], 2, [("denominator", .int 1)]⟩ [] ["numerator"] [.int c] = some [.int c, .int 1] := by
  unfold arr
  rw [if_pos (by
    rw [Bool.and_eq_true]
    exact ⟨arrB5b, rfl⟩)]
  rfl
theorem sgn2 {v : Int} (h0 : 0 ≤ v) (h1 : v < 2) : (1 - 2 * v = 1 ∨ 1 - 2 * v = -1) ∧ Bn 1 (1 - 2 * v) := by
  have : v = 0 ∨ v = 1 := by omega
  rcases this with rfl | rfl
  · exact ⟨.inl rfl, by unfold Bn; decide⟩
  · exact ⟨.inr rfl, by unfold Bn; decide⟩
theorem red1 {c u v : Int} (h : Red c 1 u v) : u = c ∧ v = 1 := by
  have h1 := h.pos
  have h2 := h.ql
  have hv : v = 1 := by
    have : (1 : Int).natAbs = 1 := rfl
    omega
  have := h.eq
  rw [hv, Int.mul_one, Int.mul_one] at this
  exact ⟨this, hv⟩
theorem pl_2 (p q : Int) : Pl 2 (pdD (.tup [.int p, .int q])) := pl_tupl fun x hx => by
  simp only [List.mem_cons, List.not_mem_nil, or_false] at hx
  rcases hx with rfl | rfl <;> exact pl_int _
theorem inner_ok {ns : List Int} {pp fl : Nat} {ys : List PV.D} {s : HS b} {N : PV.Env → HS b → Prop} {T : PV.D → HS b → Prop} {EE : Nat → List (Str × PV.D) → PV.Env → HS b → Prop} {x1 x4 x5 x6 x7 x8 x9 x10 x11 x12 x13 x14 x15 : Option PV.D} (st : St pp ns s) (hf : s.M[fl]? = some (.lst true ys)) (hfp : fl ≠ pp) (hf0 : fl ≠ 0) (hy : ys.length ≤ 10)
    (h : ∀ (s' : HS b) (y5 y7 y8 : Option PV.D) (c p q : Int), St pp ns s' → s'.M[fl]? = some (.lst true (ys ++ [.tup [.int p, .int q]])) → FrP 110 p q → N [some (.ref 0), x1, some (.ref pp), some (.ref fl), x4, y5, some (.int c), y7, y8, x9, x10, x11, x12, x13, x14, x15] s') :
    WS (exB (Lx.pg.ev 19) none innerB [some (.ref 0), x1, some (.ref pp), some (.ref fl), x4, x5, x6, x7, x8, x9, x10, x11, x12, x13, x14, x15] s) N T EE := by
  show WS (exB _ _ [_, _, _, _, _, _, _] _ _) _ _ _
  walk_at "ww"
  refine w_draw (k := 18) tb11 st.wf st.pool (by decide) (by decide) fun v S v0 v1 l1 d1 => ?_
  have st1 := st.drw d1
  have hf1 := at_drw d1 hfp hf
  obtain ⟨by_, hby, by0, by1⟩ : ∃ m : Int, m = 1 + v ∧ 1 ≤ m ∧ m ≤ 12 := ⟨_, rfl, by omega, by omega⟩
  walk_at "ww"
  rw [← hby]
  have bby : Bn 4 by_ := by unfold Bn; omega
  clear d1 l1 v0 v1 hby st hf
  try simp only [List.set_cons_succ, List.set_cons_zero]
  refine w_great (k := 17) st1.wf st1.pool fun g S1 g0 g1 d1 => ?_
  have st2 := st1.drw d1
  have hf2 := at_drw d1 hfp hf1
  clear d1 st1 hf1
  have bg : Bn 100 g := by
    unfold Bn
    have : g.natAbs < 10 ^ 30 := by omega
    exact Nat.lt_trans this (by decide +kernel)
  walk_at "ww"
  refine w_mul (mul_ok (bg.bd (by decide)) (bby.bd (by decide))) ?_
  walk_at "ww"
  refine w_draw (k := 18) tb11 st2.wf st2.pool (by decide) (by decide) fun v S2 v0 v1 l1 d1 => ?_
  have st3 := st2.drw d1
  have hf3 := at_drw d1 hfp hf2
  clear d1 l1 st2 hf2
  obtain ⟨sg, bsg⟩ := sgn2 v0 v1
  refine w_mul (mulOk_left (by decide)) ?_
  walk_at "ww"
  have bc0 := bg.mul bby
  refine w_mul (mul_ok (bc0.bd (by decide)) (bsg.bd (by decide))) ?_
  have bc : Bn 105 (g * by_ * (1 - 2 * v)) := (bc0.mul bsg).mono (by decide)
  generalize g * by_ * (1 - 2 * v) = c at bc ⊢
  try simp only [List.set_cons_succ, List.set_cons_zero]
  clear bc0 bsg sg v0 v1 bg g0 g1
  walk_at "ww"
  refine w_great (k := 17) st3.wf st3.pool fun g S3 g0 g1 d1 => ?_
  have st4 := st3.drw d1
  have hf4 := at_drw d1 hfp hf3
  clear d1 st3 hf3
  have bg : Bn 100 (1 + g) := by
    unfold Bn
    have : (1 + g).natAbs < 10 ^ 30 + 1 := by omega
    exact Nat.lt_trans this (by decide +kernel)
  walk_at "ww"
  refine w_mul (mul_ok (bg.bd (by decide)) (bby.bd (by decide))) ?_
  walk_at "ww"
  refine w_draw (k := 18) tb11 st4.wf st4.pool (by decide) (by decide) fun v S4 v0 v1 l1 d1 => ?_
  have st5 := st4.drw d1
  have hf5 := at_drw d1 hfp hf4
  clear d1 l1 st4 hf4
  obtain ⟨sg, bsg⟩ := sgn2 v0 v1
  refine w_mul (mulOk_left (by decide)) ?_
  walk_at "ww"
  have bd0 := bg.mul bby
  refine w_mul (mul_ok (bd0.bd (by decide)) (bsg.bd (by decide))) ?_
  have bd : Bn 105 ((1 + g) * by_ * (1 - 2 * v)) := (bd0.mul bsg).mono (by decide)
  have dne : (1 + g) * by_ * (1 - 2 * v) ≠ 0 := Int.mul_ne_zero (Int.mul_ne_zero (by omega) (by omega)) (by omega)
  generalize (1 + g) * by_ * (1 - 2 * v) = d at bd dne ⊢
  try simp only [List.set_cons_succ, List.set_cons_zero]
  clear bd0 bsg sg v0 v1 bg g0 g1
  walk_at "ww"
  refine w_callk ar5 ?_
  walk_at "ww"
  refine ⟨_, arr5a c d, ?_⟩
  walk_at "ww"
  refine w_make (k := 16) (bc.bd (by decide)) (bd.bd (by decide)) dne fun p q hr => ?_
  have fr := hr.fr (bc.mono (m := 110) (by decide)) (bd.mono (m := 110) (by decide))
  try simp only [List.set_cons_succ, List.set_cons_zero]
  walk_at "ww"
  refine w_lawis (k := 17) (fr.ask (by decide) _) ?_
  rw [fr.frB]
  walk_at "ww"
  refine w_ixt rfl ?_
  walk_at "ww"
  refine w_mul (mul_ok (fr.bp.bd (by decide)) (bd.bd (by decide))) ?_
  walk_at "ww"
  refine w_ixt rfl ?_
  walk_at "ww"
  refine w_mul (mul_ok (bc.bd (by decide)) (fr.bq.bd (by decide))) ?_
  walk_at "ww"
  refine c_b (fun _ => ?_) (fun z => absurd hr.eq z)
  walk_at "ww"
  refine w_callk ar5 ?_
  walk_at "ww"
  refine ⟨_, arr5b c, ?_⟩
  walk_at "ww"
  refine w_make (k := 16) (bc.bd (by decide)) (d := 1) (by unfold Bd; decide +kernel) (by decide) fun u v hr1 => ?_
  obtain ⟨rfl, rfl⟩ := red1 hr1
  walk_at "ww"
  refine w_neD (eqD_self rfl rfl (pl_2 _ _) (by decide)) ?_
  walk_at "ww"
  refine ⟨mt_app hf5, ?_⟩
  walk_at "ww"
  refine w_app hf5 (so_le (by omega)) ?_
  walk_at "ww"
  exact h _ _ _ _ _ p q (st5.set hfp hf0 (at_lt hf5) _) (at_set_self hf5) fr
end K51
set_option Elab.async false
set_option linter.all false
set_option maxRecDepth 100000
set_option maxHeartbeats 2000000
set_option exponentiation.threshold 10000
namespace K51
open PySem PV
variable {b : List MO}
theorem rp0 (M : List MO) : Rp M (.int 0) "0" := .inl ⟨.int 0, rfl, ⟨rfl, by decide +kernel, by decide +kernel, by decide +kernel, by decide +kernel⟩, by decide +kernel⟩
theorem turn_ok (ns : List Int) (hns : ns.length ≤ 63) (i : Nat) (e : PV.Env) (s : HS b) (he : IEnv e) (hw : s.wf) (h0 : s.M[0]? = some (.lst false (ns.map PV.D.int))) {T : PV.D → HS b → Prop} {EE : Nat → List (Str × PV.D) → PV.Env → HS b → Prop} :
    WS (exB (Lx.pg.ev 19) none turnB (e.set 1 (some (.int (0 + i)))) s) (fun e' s' => IEnv e' ∧ s'.wf ∧ s'.M[0]? = some (.lst false (ns.map PV.D.int))) T EE := by
  obtain ⟨x1, x2, x3, x4, x5, x6, x7, x8, x9, x10, x11, x12, x13, x14, x15, rfl⟩ := len16 he.1 he.2
  show WS (exB _ _ [_, _, .for_ _ _ _ innerB, _, _, _, _, _, _, _, _, _, _] _ _) _ _ _
  simp only [List.set_cons_succ, List.set_cons_zero]
  walk_at "ww"
  refine w_hand (k := 18) tb10 h0 (by omega) fun a c => ?_
  have st : St s.M.length ns (s.alloc (.lst true [.int a, .int c])) := ⟨alloc_wf hw _, at_alloc h0, ⟨a, c, at_new s _⟩, by have := at_lt h0; omega⟩
  generalize s.alloc (.lst true [.int a, .int c]) = S at st ⊢
  generalize s.M.length = pp at st ⊢
  try simp only [List.set_cons_succ, List.set_cons_zero]
  clear h0 hw s
  walk_at "ww"
  have st1 := st.alloc (.lst true [])
  have hf := at_new S (.lst true [])
  have hfp : S.M.length ≠ pp := by have := st.lt; omega
  have hf0 : S.M.length ≠ 0 := by have := st.lt; omega
  generalize S.alloc (.lst true []) = S1 at st1 hf ⊢
  generalize S.M.length = fl at hf hfp hf0 ⊢
  try simp only [List.set_cons_succ, List.set_cons_zero]
  clear st S
  refine w_srcR (by decide) (by decide) ?_
  refine z_rng (m := 2) (fun i1 e1 s1 => St pp ns s1 ∧ ∃ (ys : List PV.D) (y4 y5 y6 y7 y8 : Option PV.D), s1.M[fl]? = some (.lst true ys) ∧ ys.length = i1 ∧ (∀ y ∈ ys, ∃ p q, y = .tup [.int p, .int q] ∧ FrP 110 p q) ∧ (0 < i1 → ∃ c : Int, y6 = some (.int c)) ∧
    e1 = [some (.ref 0), some (.int (0 + i)), some (.ref pp), some (.ref fl), y4, y5, y6, y7, y8, x9, x10, x11, x12, x13, x14, x15]) ⟨st1, [], x4, x5, x6, x7, x8, hf, rfl, (fun _ h => nomatch h), (fun z => absurd z (by decide)), rfl⟩ (by show 2 < 1000000; decide) (fun i1 e1 s1 hi hI => ?_) (fun e1 s1 hI => ?_)
  · obtain ⟨st2, ys, y4, y5, y6, y7, y8, hf2, yl, yf, yc, rfl⟩ := hI
    dsimp only [Tg.bind]
    simp only [List.set_cons_succ, List.set_cons_zero]
    refine inner_ok st2 hf2 hfp hf0 (by omega) fun s' z5 z7 z8 c p q st3 hf3 fr => ?_
    refine ⟨st3, _, _, _, _, _, _, hf3, by simp [yl], fun y hy => ?_, fun _ => ⟨c, rfl⟩, rfl⟩
    rcases List.mem_append.mp hy with h | h
    · exact yf y h
    · rw [List.mem_singleton.mp h]
      exact ⟨p, q, rfl, fr⟩
  obtain ⟨st2, ys, y4, y5, y6, y7, y8, hf2, yl, yf, yc, rfl⟩ := hI
  obtain ⟨cn, rfl⟩ := yc (by decide)
  obtain ⟨u1, u2, rfl⟩ : ∃ u v, ys = [u, v] := by
    match ys, yl with
    | [u, v], _ => exact ⟨u, v, rfl⟩
  obtain ⟨p, q, rfl, h1⟩ := yf u1 (by simp)
  obtain ⟨p2, q2, rfl, h2⟩ := yf u2 (by simp)
  clear yf yl yc st1 hf S1
  have a1 := h1.bp.bd (k := 110) (by decide)
  have a2 := h1.bq.bd (k := 110) (by decide)
  have a3 := h2.bp.bd (k := 110) (by decide)
  have a4 := h2.bq.bd (k := 110) (by decide)
  walk_at "ww"
  refine x_bindL hf2 rfl ?_
  try simp only [List.set_cons_succ, List.set_cons_zero]
  walk_at "ww"
  refine w_addf (k := 15) h1 h2 fun u v hr => ?_
  walk_at "ww"
  refine w_mulf (k := 15) h1 h2 fun u2 v2 hr2 => ?_
  have bn1 : Bn 221 (p * q2 + p2 * q) := (h1.bp.mul h2.bq).add (h2.bp.mul h1.bq)
  have bn2 : Bn 221 (q * q2) := (h1.bq.mul h2.bq).mono (by decide)
  have bn3 : Bn 221 (p * p2) := (h1.bp.mul h2.bp).mono (by decide)
  have f1 := hr.fr bn1 bn2
  have f2 := hr2.fr bn3 bn2
  have hfr := f1.frB
  have hfr2 := f2.frB
  walk_at "ww"
  try simp only [List.set_cons_succ, List.set_cons_zero]
  walk_at "ww"
  refine w_ixt rfl ?_
  walk_at "ww"
  refine w_ixt rfl ?_
  refine w_mul (mul_ok a1 a4) ?_
  walk_at "ww"
  refine w_ixt rfl ?_
  walk_at "ww"
  refine w_ixt rfl ?_
  refine w_mul (mul_ok a3 a2) ?_
  walk_at "ww"
  try simp only [List.set_cons_succ, List.set_cons_zero]
  refine w_lawis (k := 17) (f1.ask (by decide) _) ?_
  rw [hfr]
  walk_at "ww"
  refine w_ixt rfl ?_
  walk_at "ww"
  refine w_ixt rfl ?_
  refine w_mul (mul_ok (f1.bp.bd (by decide)) a2) ?_
  walk_at "ww"
  refine w_ixt rfl ?_
  refine w_mul (mul_ok ((f1.bp.mul h1.bq).bd (by decide)) a4) ?_
  walk_at "ww"
  refine w_ixt rfl ?_
  refine w_mul (mul_ok (bn1.bd (by decide)) (f1.bq.bd (by decide))) ?_
  walk_at "ww"
  refine c_b (fun _ => ?_) (fun z => absurd (by rw [Int.mul_assoc]; exact hr.eq) z)
  walk_at "ww"
  refine w_lawis (k := 17) (f2.ask (by decide) _) ?_
  rw [hfr2]
  walk_at "ww"
  refine w_ixt rfl ?_
  walk_at "ww"
  refine w_ixt rfl ?_
  refine w_mul (mul_ok (f2.bp.bd (by decide)) a2) ?_
  walk_at "ww"
  refine w_ixt rfl ?_
  refine w_mul (mul_ok ((f2.bp.mul h1.bq).bd (by decide)) a4) ?_
  walk_at "ww"
  refine w_ixt rfl ?_
  walk_at "ww"
  refine w_ixt rfl ?_
  refine w_mul (mul_ok a1 a3) ?_
  walk_at "ww"
  refine w_ixt rfl ?_
  refine w_mul (mul_ok (bn3.bd (by decide)) (f2.bq.bd (by decide))) ?_
  walk_at "ww"
  refine c_b (fun _ => ?_) (fun z => absurd (by rw [Int.mul_assoc]; exact hr2.eq) z)
  walk_at "ww"
  refine w_isfr (k := 17) (h1.ask (by decide) _) ?_
  rw [h1.frB]
  walk_at "ww"
  rw [show decide (true = true) = true from rfl]
  walk_at "ww"
  refine w_odd (k := 17) st2.wf st2.pool h1 fun x S ho dd => ?_
  have st := st2.drw dd
  clear dd st2 hf2
  walk_at "ww"
  refine w_refused (k := 13) ho h1 ?_
  walk_at "ww"
  have q1 := at_new S (.lst true [.int 5])
  have st3 := st.alloc (.lst true [.int 5])
  have lq : S.M.length ≠ pp := by have := st.lt; omega
  generalize S.alloc (.lst true [.int 5]) = S1 at q1 st3 ⊢
  generalize S.M.length = qa at q1 lq ⊢
  obtain ⟨Z, hZ⟩ : ∃ Z : List PV.D, Z = [.non, .bl true, .bl false, .str "5", .tup [.int 5], .ref qa, .tup [.int 5, .int 1]] := ⟨_, rfl⟩
  rw [← hZ]
  have zl : Z.length = 7 := by rw [hZ]; rfl
  have q2 := at_alloc (o' := .lst true Z) q1
  have z2 := at_new S1 (.lst true Z)
  have st4 := st3.alloc (.lst true Z)
  have lz : S1.M.length ≠ pp := by have := st3.lt; omega
  generalize S1.alloc (.lst true Z) = S2 at q2 z2 st4 ⊢
  generalize S1.M.length = qz at z2 lz ⊢
  refine w_draw (k := 18) tb11 st4.wf st4.pool (by decide) (by decide) fun v S3 v0 v1 ll dd => ?_
  obtain ⟨y, hy, hy2⟩ := atI_lt (xs := Z) v0 (by omega)
  refine w_ixr (at_drw dd lz z2) hy ?_
  have q3 := at_drw dd lq q2
  have st5 := st4.drw dd
  have hy3 : y ∈ Z := List.mem_iff_getElem?.mpr ⟨_, hy2⟩
  rw [hZ] at hy3
  simp only [List.mem_cons, List.not_mem_nil, or_false] at hy3
  have sm5 : SmI (.str "5") := ⟨rfl, by decide +kernel, by decide +kernel, by decide +kernel, by decide +kernel, by decide +kernel⟩
  have key : OddV S3.M y ∧ isInt y = false := by
    rcases hy3 with rfl | rfl | rfl | rfl | rfl | rfl | rfl
    · exact ⟨odd_i smi_non (by simp), rfl⟩
    · exact ⟨odd_i (smi_bl true) (by simp), rfl⟩
    · exact ⟨odd_i (smi_bl false) (by simp), rfl⟩
    · exact ⟨odd_i sm5 (by simp), rfl⟩
    · exact ⟨odd_t (fun x hx => by rw [List.mem_singleton.mp hx]; exact smi_bn bn_1.2.2.2) (by simp) (fun p q e => by simp at e), rfl⟩
    · exact ⟨.inr ⟨_, rfl, .inr ⟨_, q3, rfl, sm_lst (fun x hx => by rw [List.mem_singleton.mp hx]; exact smi_bn bn_1.2.2.2) (by simp)⟩⟩, rfl⟩
    · exact ⟨odd_2 bn_1.2.2.2 bn_1.2.1, rfl⟩
  obtain ⟨oy, iy⟩ := key
  clear hy3 hy2 hy q3 q2 z2 zl hZ dd ll st4 st3 st ho
  try simp only [List.set_cons_succ, List.set_cons_zero]
  walk_at "ww"
  obtain ⟨r, hr3⟩ := oy.rp
  refine w_rp hr3 ?_
  walk_at "ww"
  have o4 := oy.alloc (.lst true [.str "number", .bl true, .str r])
  have r4 := rp_alloc (o := .lst true [.str "number", .bl true, .str r]) oy hr3
  have b4 := at_new S3 (.lst true [.str "number", .bl true, .str r])
  have st6 := st5.alloc (.lst true [.str "number", .bl true, .str r])
  generalize S3.alloc (.lst true [.str "number", .bl true, .str r]) = S4 at o4 r4 b4 st6 ⊢
  generalize S3.M.length = qb at b4 ⊢
  try simp only [List.set_cons_succ, List.set_cons_zero]
  walk_at "ww"
  refine x_told (k := 14) (c := 0) (z := y) (r := r) r4 (.inl rfl) ⟨5, .inl ⟨rfl, rfl⟩, fun hE => x_make1 (start_wf _) o4.ask.ty iy hE⟩ ?_
  rw [if_pos rfl]
  walk_at "ww"
  refine w_neD (same_lst (at_new S4 _) (at_alloc b4) rfl (pl_bad pl_number hr3.pl) (by decide)) ?_
  have o5 := o4.alloc (.lst true [.str "number", .bl true, .str r])
  have r5 := rp_alloc (o := .lst true [.str "number", .bl true, .str r]) o4 r4
  have b5 := at_alloc (o' := .lst true [.str "number", .bl true, .str r]) b4
  have st7 := st6.alloc (.lst true [.str "number", .bl true, .str r])
  generalize S4.alloc (.lst true [.str "number", .bl true, .str r]) = S5 at o5 r5 b5 st7 ⊢
  walk_at "ww"
  refine x_told (k := 14) (c := 0) (z := y) (r := r) r5 (.inl rfl) ⟨5, .inl ⟨rfl, rfl⟩, fun hE => x_make2 (start_wf _) o5.ask.ty (.inl iy) hE⟩ ?_
  rw [if_pos rfl]
  walk_at "ww"
  refine w_neD (same_lst (at_new S5 _) (at_alloc b5) rfl (pl_bad pl_number hr3.pl) (by decide)) ?_
  have st8 := st7.alloc (.lst true [.str "number", .bl true, .str r])
  generalize S5.alloc (.lst true [.str "number", .bl true, .str r]) = S6 at st8 ⊢
  walk_at "ww"
  refine x_told (k := 14) (c := 0) (z := .int 0) (r := "0") (rp0 _) (.inl rfl) ⟨5, .inl ⟨rfl, rfl⟩, fun hE => x_make2 (start_wf _) (fun t => ⟨_, rfl⟩) (.inr rfl) hE⟩ ?_
  rw [if_pos rfl]
  walk_at "ww"
  refine w_neD (same_lst (at_alloc (at_new S6 _)) (at_new _ _) rfl (pl_bad pl_number (rp0 []).pl) (by decide)) ?_
  walk_at "ww"
  have st9 := (st8.alloc (.lst true [.str "number", .bl true, .str "0"])).alloc (.lst true [.str "number", .bl true, .str "0"])
  exact ⟨⟨rfl, rfl⟩, st9.wf, st9.scr⟩
end K51
set_option Elab.async false
set_option linter.all false
set_option maxRecDepth 100000
set_option maxHeartbeats 2000000
namespace K51
open PySem PV
theorem ev (ns : List Int) (hns : ns.length ≤ 63) : ∃ s, callF Lx.pg 20 18 [.ref 0] (HS.start [.lst false (ns.map PV.D.int)]) = some (.ok (.bl true) s) := by
  have main : W (callF Lx.pg 20 18 [.ref 0] (HS.start [.lst false (ns.map PV.D.int)])) (fun d _ => d = .bl true) X0 := by
    refine W_call (d := ⟨1, 16, b18⟩) rfl rfl ?_
    walk_at "w0"
    show WS (exB _ _ [.for_ _ _ _ turnB, _] _ _) _ _ _
    walk_at "ww"
    refine w_len (ys := ns.map PV.D.int) rfl ?_
    walk_at "ww"
    obtain ⟨m, hm, hm0, hm1⟩ : ∃ m : Int, m = (if (if (20 : Int) < ((ns.map PV.D.int).length : Int) then (20 : Int) else ((ns.map PV.D.int).length : Int)) > 2 then (if (20 : Int) < ((ns.map PV.D.int).length : Int) then (20 : Int) else ((ns.map PV.D.int).length : Int)) else 2) ∧ 0 ≤ m ∧ m ≤ 1000 := by
      refine ⟨_, rfl, ?_, ?_⟩ <;> (repeat' split) <;> omega
    rw [← hm]
    refine w_srcR (by omega) (by omega) ?_
    refine z_rng (fun _ e' s' => IEnv e' ∧ s'.wf ∧ s'.M[0]? = some (.lst false (ns.map PV.D.int))) ⟨⟨rfl, rfl⟩, start_wf _, rfl⟩ (by
      have : m.toNat ≤ 1000 := by omega
      exact Nat.lt_of_le_of_lt this (by show 1000 < 1000000; decide)) (fun i e1 s1 hi h => ?_) (fun e1 s1 h => ?_)
    · exact turn_ok ns hns i e1 s1 h.1 h.2.1 h.2.2
    · walk_at "ww"
      by_cases hl : s1.lo = (HS.start [MO.lst false (ns.map PV.D.int)]).M.length
      · exact f_imm hl rfl rfl
      · exact f_keep hl rfl
  obtain ⟨d, s, e, rfl⟩ := main.get
  exact ⟨s, e⟩
end K51
set_option Elab.async false
set_option linter.all false
set_option maxRecDepth 100000
set_option maxHeartbeats 0
namespace K51
open PySem PV
theorem chk_ok : Lx.chk = true := by kernel_rfl
end K51
set_option Elab.async false
set_option linter.all false
set_option maxRecDepth 100000
set_option maxHeartbeats 0
namespace K51
open PySem PySem.Spec PyProof.Rows L2 PV
abbrev R : PySem.W.OpenRow := PySem.W.OpenLaw.row PySem.Challenge.rw_partingfees_k51_fractions
def loose : List Str := ["InvalidNumber", "InvalidFraction", "is_integer", "greatest_divisor", "reduced", "is_fraction", "check_fraction", "make_fraction", "fraction_sum", "fraction_product", "add_fractions", "multiply_fractions", "_law_hand", "_law_draw", "_law_great", "_law_whole", "_law_is", "_law_told", "_law_odd", "_law_refused"]
theorem run (w : World) : HandSHeadRun.RunEq R (PySem.W.view R.prog [24]) (Lx.hook 6) (Lx.ob 6) 4000 loose w := by
  intro os
  kernel_rfl
end K51
set_option Elab.async false
set_option linter.all false
set_option maxRecDepth 100000
set_option maxHeartbeats 0
namespace K51
open PySem PySem.Spec PyProof.Rows L2 PV
theorem hty : ∀ p ∈ Lx.isx, typeOf (.type p.2.2) = pure (.type "type") := by
  intro p hp
  rcases List.mem_cons.mp hp with rfl | hp
  · exact PySem.OEX.typ_VE
  rcases List.mem_cons.mp hp with rfl | hp
  · exact PySem.OEX.typ_VE
  cases hp
end K51
open PySem PySem.W PySem.Calls PyProof.Rows
theorem PySem.Challenge.cw_partingfees_k51_fractions_holds : PySem.Challenge.rw_partingfees_k51_fractions.Holds := by
  w_on; o_law
  refine HandSHeadRun.head_any (r := OpenLaw.row PySem.Challenge.rw_partingfees_k51_fractions) (q := view (OpenLaw.row PySem.Challenge.rw_partingfees_k51_fractions).prog [24]) (H := K51.Lx.hook 6) (ob := K51.Lx.ob 6) (M := 4000) (loose := K51.loose) (d := HandSHeadRun.topDef (OpenLaw.row PySem.Challenge.rw_partingfees_k51_fractions).prog 24) (kwd := []) (K51.Lx.ob_eq 6)
    (by kernel_rfl) (fun s => by kernel_rfl) K51.run (by kernel_rfl) (by kernel_rfl) (by kernel_rfl) (by rfl) (by first | assumption | decide +kernel) (by decide +kernel) ⟨rfl, rfl, rfl, rfl, rfl, by decide +kernel⟩ ?hw ?hc
  case hw => w_witness2
  case hc => exact PV.Lw.walk (L := K51.Lx) (n := 63) (f := 18) (k := 20) (x := "_law_script") (p := (K51.d18, K51.b18)) K51.chk_ok K51.hty rfl (by decide) (by kernel_rfl) ⟨rfl, by decide, by decide⟩ rfl rfl rfl rfl (by kernel_rfl) fun ns h _ => K51.ev ns h
