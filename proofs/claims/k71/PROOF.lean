import PyProof.Rows.All
import PySem.Str
import HandS.ForMost
import HandS.Wide
import HandS.Flow
import HandS.Style
import HandS.Iter
import HandS.Zip
import HandS.TupAny
import HandS.Deep
import HandS.IsInst
import HandS.SortRule
import HandS.Walk
import HandS.Dict
import HandS.Exc
import HandS.WordsExc
import HandS.TryOnly
import KE.GoesEnum
import HandS.ExcIs
import HandS.ExcOwn
import HandS.HeadHook1
import HandS.HeadHook2
import HandS.Defaults
import HandS.Head0
import HandS.Head1
import HandS.Head2
import HandS.HeadEnd
import PySem.Challenge.RW_shapelots_k71_main_counts_kinds_and_grea
import KE.KStateDown
set_option linter.all false
set_option maxRecDepth 100000
/-! IRx: plain data, a small language over it, and what must hold so that a program of it ends as wished (no heap of the model in sight). -/
namespace IR
open PySem (Str)

/-- plain data: tuples and frozen lists by value; a list that may still change by its address; the script -/
inductive D where
  | non | bl (b : Bool) | int (i : Int) | str (x : Str)
  | tup (ds : List D) | lv (ds : List D) | ref (a : Nat) | scr (ns : List Int)
inductive Ob where
  | lst (ds : List D)
/-- the lists that may still change -/
abbrev S := Nat → Option Ob
def put (s : S) (a : Nat) (o : Ob) : S := fun b => if b = a then some o else s b
def rm (s : S) (a : Nat) : S := fun b => if b = a then none else s b
def le (s t : S) : Prop := ∀ a o, s a = some o → t a = some o
abbrev SL : Nat := 16777216

inductive Bop where | add | sub | mul | fdiv | mod | pow deriving DecidableEq
inductive Cop where | eq | ne | lt | le | gt | ge | isin | notin deriving DecidableEq
inductive Bi where | len | abs | int | all | any | sum | tuple | list | max2 | min2 | sorted deriving DecidableEq
inductive Ty where | int | bool | str | list | tuple deriving DecidableEq
/-- a target: a name, a tuple of targets -/
inductive T where | nm (i : Nat) | tp (ts : List T)

mutual
inductive E where
  | var (i : Nat) | int (i : Int) | bl (b : Bool) | non | str (x : Str) | glob (i : Nat)
  | bin (m : Bool) (o : Bop) (a b : E) | neg (a : E)
  | cmp (o : Cop) (a b : E) | chain (o p : Cop) (a b c : E) | isN (a : E) | notN (a : E)
  | and (a b : E) | or (a b : E) | not (a : E) | ite (c a b : E)
  | tup (es : List E) | lst (m : Bool) (es : List E)
  | sub (a i : E) | dsel (es : List E) (i : E) | slc (m : Bool) (a : E) (lo hi : Option E)
  | call (m : Bool) (f : Nat) (es : List E) | callk (m : Bool) (f : Nat) (es ks : List E) (perm : List Nat)
  | bi (b : Bi) (m : Bool) (es : List E) | isi (a : E) (ts : List Ty) (many : Bool)
  | app (o e : E) | ext (o e : E)
  | lc (m : Bool) (own : List Nat) (elt : E) (t : T) (it : It) (c : Option E)
inductive It where
  | seq (e : E) | rng1 (e : E) | rng2 (a b : E) | enum (e : E) (c : Option Nat) | zip (a b : E)
end
inductive St where
  | asg (t : T) (e : E) | par (ts : List Nat) (es : List E) | sto (o i e : E) | aug (i : Nat) (o : Bop) (e : E)
  | exp (e : E) | ret (e : E) | ife (c : E) (a b : List St)
  | fr (t : T) (it : It) (body : List St) (drops : List Nat) | whl (c : E) (body : List St) (drops : List Nat)
  | rse (c : Nat) | tr (body : List St) (hs : List (Nat × Nat × Str)) | pass | brk | cnt

/-! ### plain operations -/
def view (s : S) : D → Option (List D)
  | .lv ds => some ds
  | .ref a => match s a with | some (.lst ds) => some ds | _ => none
  | _ => none
/-- a new list: kept changeable, or frozen -/
def newL (m : Bool) (ds : List D) (s : S) (Q : D → S → Prop) : Prop := match m with
  | true => ∀ a, s a = none → Q (.ref a) (put s a (.lst ds))
  | false => Q (.lv ds) s
/-- what a call hands back, frozen -/
def frz (m : Bool) (d : D) (s : S) (Q : D → S → Prop) : Prop := match m, d with
  | false, .ref a => match s a with | some (.lst ds) => Q (.lv ds) (rm s a) | _ => False
  | _, _ => Q d s

mutual
def okD : D → Bool
  | .non | .bl _ | .int _ => true
  | .str x => x.cps.all (· < 0x110000)
  | .tup ds | .lv ds => okDs ds
  | .ref _ | .scr _ => false
def okDs : List D → Bool
  | [] => true
  | d :: ds => okD d && okDs ds
end
mutual
def dep : D → Nat
  | .tup ds | .lv ds => deps ds + 1
  | _ => 0
def deps : List D → Nat
  | [] => 0
  | d :: ds => max (dep d) (deps ds)
end
mutual
def eqD : D → D → Bool
  | .non, .non => true
  | .bl a, .bl b => a == b
  | .bl a, .int j => (if a then 1 else 0) == j
  | .int i, .bl b => i == (if b then 1 else 0)
  | .int i, .int j => i == j
  | .str x, .str y => x == y
  | .lv xs, .lv ys => eqDs xs ys
  | .tup xs, .tup ys => eqDs xs ys
  | _, _ => false
def eqDs : List D → List D → Bool
  | [], [] => true
  | x :: xs, y :: ys => eqD x y && eqDs xs ys
  | _, _ => false
end
/-- data of any kind that == may be asked of -/
def fine (d : D) : Prop := okD d = true ∧ dep d ≤ 64

def MulOk (i j : Int) : Prop := (-(2 ^ 64) < i ∧ i < 2 ^ 64) ∨ (-(2 ^ 64) < j ∧ j < 2 ^ 64) ∨ i.natAbs.log2 + j.natAbs.log2 < 1000000
def DivOk (j : Int) : Prop := j ≠ 0 ∧ (j.natAbs < 1073741824 ∨ (0 < j ∧ j.natAbs.log2 < 9000))
def PowOk (i j : Int) : Prop := 0 ≤ j ∧ j ≤ 1000000 ∧ i.natAbs < 2 ^ 64

def addW (m : Bool) (x y : D) (s : S) (Q : D → S → Prop) : Prop := match x, y with
  | .int i, .int j => Q (.int (i + j)) s
  | .int i, .bl k => Q (.int (i + if k then 1 else 0)) s
  | .tup xs, .tup ys => xs.length + ys.length ≤ SL ∧ Q (.tup (xs ++ ys)) s
  | x, y => match view s x, view s y with
    | some xs, some ys => xs.length + ys.length ≤ SL ∧ newL m (xs ++ ys) s Q
    | _, _ => False
def mulW (m : Bool) (x y : D) (s : S) (Q : D → S → Prop) : Prop := match x, y with
  | .int i, .int j => MulOk i j ∧ Q (.int (i * j)) s
  | x, .int k => match view s x with
    | some xs => -(2 ^ 63) ≤ k ∧ k < 2 ^ 63 ∧ xs.length * k.toNat ≤ SL ∧ newL m (List.replicate k.toNat xs).flatten s Q
    | _ => False
  | _, _ => False
def binW (m : Bool) (o : Bop) (x y : D) (s : S) (Q : D → S → Prop) : Prop := match o with
  | .add => addW m x y s Q
  | .mul => mulW m x y s Q
  | .sub => match x, y with
    | .int i, .int j => Q (.int (i - j)) s
    | _, _ => False
  | .fdiv => match x, y with
    | .int i, .int j => DivOk j ∧ Q (.int (i.fdiv j)) s
    | _, _ => False
  | .mod => match x, y with
    | .int i, .int j => 0 < j ∧ Q (.int (i % j)) s
    | _, _ => False
  | .pow => match x, y with
    | .int i, .int j => PowOk i j ∧ Q (.int (i ^ j.toNat)) s
    | _, _ => False
def items (s : S) : D → Option (List D)
  | .tup ds => some ds
  | d => view s d
def flatD : D → Bool
  | .non | .bl _ | .int _ | .str _ => true
  | _ => false
def inW (x y : D) (s : S) (P : Bool → Prop) : Prop := match y with
  | .tup ds => flatD x = true ∧ ds.all flatD = true ∧ P (ds.any fun d => eqD d x)
  | y => match view s y with
    | some ds => fine x ∧ fine (.lv ds) ∧ P (ds.any fun d => eqD d x)
    | _ => False
def cmpW (o : Cop) (x y : D) (s : S) (Q : D → S → Prop) : Prop := match o with
  | .eq => match x, y with
    | .int i, .int j => Q (.bl (decide (i = j))) s
    | x, y => fine x ∧ fine y ∧ Q (.bl (eqD x y)) s
  | .ne => match x, y with
    | .int i, .int j => Q (.bl (!decide (i = j))) s
    | .bl i, .bl j => Q (.bl (!decide (i = j))) s
    | x, y => fine x ∧ fine y ∧ Q (.bl (!eqD x y)) s
  | .lt => match x, y with
    | .int i, .int j => Q (.bl (decide (i < j))) s
    | _, _ => False
  | .le => match x, y with
    | .int i, .int j => Q (.bl (decide (i ≤ j))) s
    | _, _ => False
  | .gt => match x, y with
    | .int i, .int j => Q (.bl (decide (j < i))) s
    | _, _ => False
  | .ge => match x, y with
    | .int i, .int j => Q (.bl (decide (j ≤ i))) s
    | _, _ => False
  | .isin => inW x y s fun b => Q (.bl b) s
  | .notin => inW x y s fun b => Q (.bl (!b)) s
def truW (d : D) (s : S) (Q : Bool → S → Prop) : Prop := match d with
  | .non => Q false s
  | .bl b => Q b s
  | .int i => Q (i != 0) s
  | .tup ds => Q (!ds.isEmpty) s
  | d => match view s d with
    | some ds => Q (!ds.isEmpty) s
    | _ => False
def boolW (d : D) (s : S) (Q : Bool → S → Prop) : Prop := match d with
  | .bl b => Q b s
  | _ => False
def ixN (n : Nat) (i : Int) : Option Nat := if 0 ≤ i then (if i < n then some i.toNat else none) else if -(n : Int) ≤ i then some (i + n).toNat else none
def atI {α : Type} (xs : List α) (i : Int) : Option α := (ixN xs.length i).bind fun j => xs[j]?
def subW (x y : D) (s : S) (Q : D → S → Prop) : Prop := match y with
  | .int k => match x with
    | .scr ns => match atI ns k with
      | some n => Q (.int n) s
      | none => False
    | x => match items s x with
      | some ds => match atI ds k with
        | some d => Q d s
        | none => False
      | _ => False
  | _ => False
def sIx (n d : Nat) : Option Int → Nat
  | none => d
  | some v => if v < 0 then (v + (n : Int)).toNat else min v.toNat n
def cut {α : Type} (xs : List α) (lo hi : Option Int) : List α := (xs.drop (sIx xs.length 0 lo)).take (sIx xs.length xs.length hi - sIx xs.length 0 lo)
def slcW (m : Bool) (x : D) (lo hi : Option Int) (s : S) (Q : D → S → Prop) : Prop := match x with
  | .tup ds => Q (.tup (cut ds lo hi)) s
  | .scr ns => newL m ((cut ns lo hi).map D.int) s Q
  | x => match view s x with
    | some ds => newL m (cut ds lo hi) s Q
    | _ => False
def asBools : List D → Option (List Bool)
  | [] => some []
  | .bl b :: ds => (asBools ds).map (b :: ·)
  | _ => none
def asInts : List D → Option (List Int)
  | [] => some []
  | .int b :: ds => (asInts ds).map (b :: ·)
  | _ => none
/-- pairs of ints -/
def asPairs : List D → Option (List (Int × Int))
  | [] => some []
  | .tup [.int i, .int j] :: ds => (asPairs ds).map ((i, j) :: ·)
  | _ => none
abbrev pairD (p : Int × Int) : D := .tup [.int p.1, .int p.2]
abbrev leP (p q : Int × Int) : Prop := p.1 < q.1 ∨ (p.1 = q.1 ∧ p.2 ≤ q.2)
/-- {k: v, ..}[i] with ints as keys -/
def pairUp : List D → List (D × D)
  | k :: v :: ds => (k, v) :: pairUp ds
  | _ => []
def intKeys : List (D × D) → Option (List (Int × D))
  | [] => some []
  | (.int k, v) :: ds => (intKeys ds).map ((k, v) :: ·)
  | _ => none
def dispW (xs : List D) (K : List (Int × D) → Prop) : Prop := match intKeys (pairUp xs) with
  | some kvs => (kvs.map (·.1)).Nodup ∧ K kvs
  | none => False
def pickW (kvs : List (Int × D)) (y : D) (s : S) (Q : D → S → Prop) : Prop := match y with
  | .int i => match kvs.lookup i with
    | some d => Q d s
    | none => False
  | _ => False
def biW (b : Bi) (m : Bool) (xs : List D) (s : S) (Q : D → S → Prop) : Prop := match b, xs with
  | .len, [.scr ns] => Q (.int ns.length) s
  | .len, [x] => match items s x with
    | some ds => Q (.int ds.length) s
    | _ => False
  | .abs, [.int i] => Q (.int (if i < 0 then -i else i)) s
  | .int, [.int i] => Q (.int i) s
  | .int, [.bl k] => Q (.int (if k then 1 else 0)) s
  | .all, [x] => match (view s x).bind asBools with
    | some bs => Q (.bl (bs.all id)) s
    | _ => False
  | .any, [x] => match (view s x).bind asBools with
    | some bs => Q (.bl (bs.any id)) s
    | _ => False
  | .sum, [x] => match (view s x).bind asInts with
    | some ns => Q (.int ns.sum) s
    | _ => False
  | .tuple, [x] => match items s x with
    | some ds => Q (.tup ds) s
    | _ => False
  | .list, [x] => match items s x with
    | some ds => newL m ds s Q
    | _ => False
  | .sorted, [x] => match (view s x).bind asPairs with
    | some ps => ∀ qs : List (Int × Int), qs.Perm ps → qs.Pairwise leP → newL m (qs.map pairD) s Q
    | none => False
  | .max2, [.int i, .int j] => Q (.int (if j > i then j else i)) s
  | .min2, [.int i, .int j] => Q (.int (if j < i then j else i)) s
  | _, _ => False
def kind (s : S) : D → Option Ty
  | .bl _ => some .bool
  | .int _ => some .int
  | .str _ => some .str
  | .tup _ => some .tuple
  | .lv _ => some .list
  | .ref a => match s a with | some (.lst _) => some .list | _ => none
  | _ => none
def isTy (k t : Ty) : Bool := match k, t with
  | .bool, .int => true
  | k, t => decide (k = t)
def isiW (x : D) (ts : List Ty) (s : S) (Q : D → S → Prop) : Prop := match x with
  | .non => Q (.bl false) s
  | x => match kind s x with
    | some k => Q (.bl (ts.any (isTy k))) s
    | none => False
def isLst (x : D) (s : S) : Prop := match x with
  | .ref a => match s a with | some (.lst _) => True | _ => False
  | _ => False
def appW (o x : D) (s : S) (Q : D → S → Prop) : Prop := match o with
  | .ref a => match s a with
    | some (.lst ds) => ds.length < SL ∧ Q .non (put s a (.lst (ds ++ [x])))
    | _ => False
  | _ => False
def extW (o x : D) (s : S) (Q : D → S → Prop) : Prop := match o with
  | .ref a => match s a, items s x with
    | some (.lst ds), some es => ds.length + es.length ≤ SL ∧ Q .non (put s a (.lst (ds ++ es)))
    | _, _ => False
  | _ => False
def stoW (o i x : D) (s : S) (P : S → Prop) : Prop := match o, i with
  | .ref a, .int k => match s a with
    | some (.lst ds) => match ixN ds.length k with
      | some j => P (put s a (.lst (ds.set j x)))
      | none => False
    | _ => False
  | _, _ => False
def augW (o : Bop) (x y : D) (s : S) (Q : D → S → Prop) : Prop := match x, y with
  | .int i, .int j => match o with
    | .add => Q (.int (i + j)) s
    | .sub => Q (.int (i - j)) s
    | .mul => MulOk i j ∧ Q (.int (i * j)) s
    | .fdiv => (0 < j ∧ j < 1073741824) ∧ Q (.int (i / j)) s
    | _ => False
  | _, _ => False

abbrev Rho := List (Option D)
def getV (r : Rho) (i : Nat) (s : S) (Q : D → S → Prop) : Prop := match r[i]? with
  | some (some d) => Q d s
  | _ => False
def wipe (r : Rho) : List Nat → Rho
  | [] => r
  | v :: vs => (wipe r vs).set v none
mutual
def asgW : T → D → Rho → (Rho → Prop) → Prop
  | .nm i, d, r, K => K (r.set i (some d))
  | .tp ts, .tup ds, r, K => asgsW ts ds r K
  | .tp ts, .lv ds, r, K => asgsW ts ds r K
  | .tp _, _, _, _ => False
def asgsW : List T → List D → Rho → (Rho → Prop) → Prop
  | [], [], r, K => K r
  | t :: ts, d :: ds, r, K => asgW t d r fun r' => asgsW ts ds r' K
  | _, _, _, _ => False
end
/-- ints lo, lo + 1, .. -/
def rngD (lo : Int) : Nat → List D
  | 0 => []
  | n + 1 => .int lo :: rngD (lo + 1) n
def enumD (i : Nat) : List D → List D
  | [] => []
  | d :: ds => .tup [.int i, d] :: enumD (i + 1) ds
def zipD : List D → List D → List D
  | x :: xs, y :: ys => .tup [x, y] :: zipD xs ys
  | _, _ => []
/-- what is walked: its items, and what must stand meanwhile -/
def seqW (x : D) (s : S) (R : List D → (S → Prop) → S → Prop) : Prop := match x with
  | .tup ds => R ds (fun _ => True) s
  | .lv ds => R ds (fun _ => True) s
  | .ref a => match s a with
    | some (.lst ds) => R ds (fun s' => s' a = some (.lst ds)) s
    | _ => False
  | _ => False
abbrev RunT := Nat → List D → S → (D → S → Prop) → Prop
/-- what is wished of what is raised -/
abbrev XT := Nat → S → Prop
abbrev no : XT := fun _ _ => False

section
variable (R : RunT) (G : List D)
/-- one turn of a comprehension -/
def lcW (turn : D → S → (Option D → S → Prop) → Prop) (chk : S → Prop) : List D → List D → S → (List D → S → Prop) → Prop
  | [], acc, s, Q => chk s ∧ Q acc s
  | d :: ds, acc, s, Q => chk s ∧ turn d s fun o s' => match o with
    | some x => acc.length < SL ∧ lcW turn chk ds (acc ++ [x]) s' Q
    | none => lcW turn chk ds acc s' Q
mutual
def wE : E → Rho → S → (D → S → Prop) → Prop
  | .var i, r, s, Q => getV r i s Q
  | .int i, _, s, Q => Q (.int i) s
  | .bl i, _, s, Q => Q (.bl i) s
  | .non, _, s, Q => Q .non s
  | .str x, _, s, Q => Q (.str x) s
  | .glob i, _, s, Q => match G[i]? with | some d => Q d s | none => False
  | .bin m o a b, r, s, Q => wE a r s fun x s1 => wE b r s1 fun y s2 => binW m o x y s2 Q
  | .neg a, r, s, Q => wE a r s fun x s1 => match x with | .int i => Q (.int (-i)) s1 | _ => False
  | .cmp o a b, r, s, Q => wE a r s fun x s1 => wE b r s1 fun y s2 => cmpW o x y s2 Q
  | .chain o p a b c, r, s, Q => wE a r s fun x s1 => wE b r s1 fun y s2 => cmpW o x y s2 fun z s3 => match z with
    | .bl k => (k = true → wE c r s3 fun w s4 => cmpW p y w s4 Q) ∧ (k = false → Q (.bl false) s3)
    | _ => False
  | .isN a, r, s, Q => wE a r s fun x s1 => match x with | .non => Q (.bl true) s1 | _ => Q (.bl false) s1
  | .notN a, r, s, Q => wE a r s fun x s1 => match x with | .non => Q (.bl false) s1 | _ => Q (.bl true) s1
  | .and a b, r, s, Q => wE a r s fun x s1 => truW x s1 fun k s2 => (k = true → wE b r s2 Q) ∧ (k = false → Q x s2)
  | .or a b, r, s, Q => wE a r s fun x s1 => truW x s1 fun k s2 => (k = true → Q x s2) ∧ (k = false → wE b r s2 Q)
  | .not a, r, s, Q => wE a r s fun x s1 => truW x s1 fun k s2 => Q (.bl (!k)) s2
  | .ite c a b, r, s, Q => wB c r s fun k s1 => (k = true → wE a r s1 Q) ∧ (k = false → wE b r s1 Q)
  | .tup es, r, s, Q => wEs es r s fun xs s1 => xs.length ≤ SL ∧ Q (.tup xs) s1
  | .lst m es, r, s, Q => wEs es r s fun xs s1 => xs.length ≤ SL ∧ newL m xs s1 Q
  | .sub a i, r, s, Q => wE a r s fun x s1 => wE i r s1 fun y s2 => subW x y s2 Q
  | .dsel es i, r, s, Q => wEs es r s fun xs s1 => dispW xs fun kvs => wE i r s1 fun y s2 => pickW kvs y s2 Q
  | .slc m a lo hi, r, s, Q => wE a r s fun x s1 => wO lo r s1 fun l s2 => wO hi r s2 fun h s3 => slcW m x l h s3 Q
  | .call m f es, r, s, Q => wEs es r s fun xs s1 => R f xs s1 fun d s2 => frz m d s2 Q
  | .callk m f es ks perm, r, s, Q => wEs es r s fun xs s1 => wEs ks r s1 fun zs s2 => R f (perm.filterMap fun i => (xs ++ zs)[i]?) s2 fun d s3 => frz m d s3 Q
  | .bi b m es, r, s, Q => wEs es r s fun xs s1 => biW b m xs s1 Q
  | .isi a ts _, r, s, Q => wE a r s fun x s1 => isiW x ts s1 Q
  | .app o e, r, s, Q => wE o r s fun x s1 => isLst x s1 ∧ wE e r s1 fun y s2 => appW x y s2 Q
  | .ext o e, r, s, Q => wE o r s fun x s1 => isLst x s1 ∧ wE e r s1 fun y s2 => extW x y s2 Q
  | .lc m own elt t it c, r, s, Q => wI it r s fun ds chk s1 =>
      lcW (fun d s2 P => asgW t d (wipe r own) fun r1 => wOB c r1 s2 fun k s3 => (k = true → wE elt r1 s3 fun x s4 => P (some x) s4) ∧ (k = false → P none s3)) chk ds [] s1 fun acc s2 => newL m acc s2 Q
def wB : E → Rho → S → (Bool → S → Prop) → Prop
  | .and a b, r, s, Q => wB a r s fun k s1 => (k = true → wB b r s1 Q) ∧ (k = false → Q false s1)
  | .or a b, r, s, Q => wB a r s fun k s1 => (k = true → Q true s1) ∧ (k = false → wB b r s1 Q)
  | .not a, r, s, Q => wB a r s fun k s1 => Q (!k) s1
  | .cmp o a b, r, s, Q => wE a r s fun x s1 => wE b r s1 fun y s2 => cmpW o x y s2 fun d s3 => boolW d s3 Q
  | .chain o p a b c, r, s, Q => wE a r s fun x s1 => wE b r s1 fun y s2 => cmpW o x y s2 fun z s3 => match z with
    | .bl k => (k = true → wE c r s3 fun w s4 => cmpW p y w s4 fun d s5 => boolW d s5 Q) ∧ (k = false → Q false s3)
    | _ => False
  | .isN a, r, s, Q => wE a r s fun x s1 => match x with | .non => Q true s1 | _ => Q false s1
  | .notN a, r, s, Q => wE a r s fun x s1 => match x with | .non => Q false s1 | _ => Q true s1
  | e, r, s, Q => wE e r s fun d s1 => truW d s1 Q
def wEs : List E → Rho → S → (List D → S → Prop) → Prop
  | [], _, s, Q => Q [] s
  | e :: es, r, s, Q => wE e r s fun x s1 => wEs es r s1 fun xs s2 => Q (x :: xs) s2
def wO : Option E → Rho → S → (Option Int → S → Prop) → Prop
  | none, _, s, Q => Q none s
  | some e, r, s, Q => wE e r s fun x s1 => match x with | .int i => Q (some i) s1 | _ => False
def wOB : Option E → Rho → S → (Bool → S → Prop) → Prop
  | none, _, s, Q => Q true s
  | some e, r, s, Q => wB e r s Q
def wI : It → Rho → S → (List D → (S → Prop) → S → Prop) → Prop
  | .seq e, r, s, K => wE e r s fun x s1 => seqW x s1 K
  | .rng1 a, r, s, K => wE a r s fun x s1 => match x with
    | .int n => -(2 ^ 62) ≤ n ∧ n < 2 ^ 62 ∧ K (rngD 0 n.toNat) (fun _ => True) s1
    | _ => False
  | .rng2 a b, r, s, K => wE a r s fun x s1 => wE b r s1 fun y s2 => match x, y with
    | .int i, .int j => (-(2 ^ 62) ≤ i ∧ i < 2 ^ 62 ∧ -(2 ^ 62) ≤ j ∧ j < 2 ^ 62) ∧ K (rngD i (j - i).toNat) (fun _ => True) s2
    | _, _ => False
  | .enum a c, r, s, K => wE a r s fun x s1 => seqW x s1 fun ds chk s2 => K (enumD (c.getD 0) ds) chk s2
  | .zip a b, r, s, K => wE a r s fun x s1 => wE b r s1 fun y s2 => match x, y with
    | .tup xs, .tup ys => K (zipD xs ys) (fun _ => True) s2
    | .tup _, _ => False
    | _, .tup _ => False
    | x, y => seqW x s2 fun xs chk s3 => seqW y s3 fun ys chk' s4 => K (zipD xs ys) (fun s' => chk s' ∧ chk' s') s4
end

structure Kt where
  nx : Rho → S → Prop
  rt : D → S → Prop
  bk : Rho → S → Prop := fun _ _ => False
  ct : Rho → S → Prop := fun _ _ => False
  /-- what is raised: its class by number -/
  ex : XT

/-- a for's turns -/
def frW (t : T) (body : Rho → S → Kt → Prop) (drops : List Nat) (chk : S → Prop) (K : Kt) : List D → Rho → S → Prop
  | [], r, s => chk s ∧ K.nx (wipe r drops) s
  | d :: ds, r, s => chk s ∧ asgW t d r fun r1 => body r1 s
      { nx := fun r2 s2 => frW t body drops chk K ds (wipe r2 drops) s2, ct := fun r2 s2 => frW t body drops chk K ds (wipe r2 drops) s2, bk := fun r2 s2 => K.nx (wipe r2 drops) s2, rt := K.rt, ex := K.ex }
/-- a while's turns -/
def whW (test : Rho → S → (Bool → S → Prop) → Prop) (body : Rho → S → Kt → Prop) (drops : List Nat) (K : Kt) : Nat → Rho → S → Prop
  | 0, _, _ => False
  | n + 1, r, s => test r s fun k s1 => (k = true → body r s1
      { nx := fun r2 s2 => whW test body drops K n (wipe r2 drops) s2, ct := fun r2 s2 => whW test body drops K n (wipe r2 drops) s2, bk := fun r2 s2 => K.nx (wipe r2 drops) s2, rt := K.rt, ex := K.ex }) ∧
      (k = false → K.nx (wipe r drops) s1)
def setAll : List Nat → List D → Rho → Rho
  | i :: is, d :: ds, r => setAll is ds (r.set i (some d))
  | _, _, r => r
end
section
variable (Rf : XT → RunT) (G : List D)
mutual
def wS : St → Rho → S → Kt → Prop
  | .asg t e, r, s, K => wE (Rf K.ex) G e r s fun d s1 => asgW t d r fun r1 => K.nx r1 s1
  | .par ts es, r, s, K => wEs (Rf K.ex) G es r s fun ds s1 => ds.length = ts.length ∧ K.nx (setAll ts ds r) s1
  | .sto o i e, r, s, K => wE (Rf K.ex) G e r s fun x s1 => wE (Rf K.ex) G o r s1 fun p s2 => wE (Rf K.ex) G i r s2 fun k s3 => stoW p k x s3 fun s4 => K.nx r s4
  | .aug i o e, r, s, K => getV r i s fun x _ => wE (Rf K.ex) G e r s fun y s1 => augW o x y s1 fun z s2 => K.nx (r.set i (some z)) s2
  | .exp e, r, s, K => wE (Rf K.ex) G e r s fun _ s1 => K.nx r s1
  | .ret e, r, s, K => wE (Rf K.ex) G e r s fun d s1 => K.rt d s1
  | .ife c a b, r, s, K => wB (Rf K.ex) G c r s fun k s1 => (k = true → wSs a r s1 K) ∧ (k = false → wSs b r s1 K)
  | .fr t it body drops, r, s, K => wI (Rf K.ex) G it r s fun ds chk s1 => frW t (fun r s K => wSs body r s K) drops chk K ds r s1
  | .whl c body drops, r, s, K => ∃ n, whW (fun r s Q => wB (Rf K.ex) G c r s Q) (fun r s K => wSs body r s K) drops K n r s
  | .rse c, _, s, K => K.ex c s
  | .tr body hs, r, s, K => wSs body r s { K with ex := fun c s' => match hs.lookup c with
    | some (v, w) => K.nx ((List.replicate r.length none).set v (some (.lv [.str w, .bl true]))) s'
    | none => K.ex c s' }
  | .pass, r, s, K => K.nx r s
  | .brk, r, s, K => K.bk r s
  | .cnt, r, s, K => K.ct r s
def wSs : List St → Rho → S → Kt → Prop
  | [], r, s, K => K.nx r s
  | c :: cs, r, s, K => wS c r s { K with nx := fun r1 s1 => wSs cs r1 s1 K }
end
end

structure Def where
  np : Nat
  slots : Nat
  body : List St
/-- calls: within a comprehension (numbers from 1000 on) nothing is raised -/
def RQ (R : XT → RunT) : XT → RunT := fun X f args s Q => if 1000 ≤ f then R no (f - 1000) args s Q else R X f args s Q
/-- what must hold so that f of args ends as wished, or raises as wished, by at most so many calls within one another -/
def run (P : List Def) (G : List D) : Nat → XT → RunT
  | 0, _, _, _, _, _ => False
  | k + 1, X, f, args, s, Q => match P[f]? with
    | none => False
    | some d => args.length = d.np ∧ wSs (RQ (run P G k)) G d.body (args.map some ++ List.replicate (d.slots - d.np) none) s
        { nx := fun _ s1 => ∃ s0, le s0 s1 ∧ Q .non s0, rt := fun v s1 => ∃ s0, le s0 s1 ∧ Q v s0, ex := fun c s1 => ∃ s0, le s0 s1 ∧ X c s0 }
end IR

set_option Elab.async false
set_option linter.all false
set_option maxRecDepth 100000
/-! So1: plain data stand for values over an abstract heap; each operation on data is sound. -/
namespace IR
open PySem PySem.Spec PyProof.Rows L2

/-- a tuple of the written part -/
def KT (K : PySem.W.Frag) (a : Addr) (xs : List V) : Prop :=
  ∃ (o : Obj) (its : Array Value) (n : Nat), K.lookup a = some o ∧ o.cls = .type "tuple" ∧ o.data = .seq its n ∧ its.size ≤ sizeLine ∧ Vals xs its.toList
/-- a list of the written part -/
def KL (K : PySem.W.Frag) (a : Addr) (xs : List V) : Prop :=
  ∃ (o : Obj) (its : Array Value) (n : Nat), K.lookup a = some o ∧ o.cls = .type "list" ∧ o.dict = none ∧ o.data = .seq its n ∧ its.size ≤ sizeLine ∧ Vals xs its.toList
section
variable (K : PySem.W.Frag) (F : Hp)
mutual
inductive Rep : V → D → Prop
  | non : Rep .non .non
  | bl (b : Bool) : Rep (.bl b) (.bl b)
  | int (i : Int) : Rep (.int i) (.int i)
  | str (x : Str) : Rep (.str x) (.str x)
  | tup {a : Addr} {vs : List V} {ds : List D} : F a = some (.tup vs) → Reps vs ds → Rep (.ref a) (.tup ds)
  | ktup {a : Addr} {vs : List V} {ds : List D} : KT K a vs → Reps vs ds → Rep (.ref a) (.tup ds)
  | lv {a : Addr} {vs : List V} {ds : List D} : F a = some (.lst vs) → Reps vs ds → Rep (.ref a) (.lv ds)
  | ref (a : Addr) : Rep (.ref a) (.ref a)
  | scr {a : Addr} {o : Obj} {ns : List Int} : F a = some (.frz o (.lst (ns.map V.int))) → Rep (.ref a) (.scr ns)
  | kscr {a : Addr} {ns : List Int} : KL K a (ns.map V.int) → Rep (.ref a) (.scr ns)
inductive Reps : List V → List D → Prop
  | nil : Reps [] []
  | cons {v : V} {d : D} {vs : List V} {ds : List D} : Rep v d → Reps vs ds → Reps (v :: vs) (d :: ds)
end
end
abbrev FLe (F F' : Hp) : Prop := ∀ a o, F a = some o → F' a = some o
theorem FLe.refl (F : Hp) : FLe F F := fun _ _ h => h
theorem FLe.trans {F G H : Hp} (a : FLe F G) (b : FLe G H) : FLe F H := fun x o h => b x o (a x o h)
theorem FLe.upd {F : Hp} {p : Addr} {o : HO} (h : F p = none) : FLe F (L2.upd F p o) := fun a u e => by
  rw [upd_ne (ne_of_none e h)]; exact e
section
variable {K : PySem.W.Frag} {F F' : Hp}
mutual
theorem Rep.mono (le : FLe F F') : ∀ {v : V} {d : D}, Rep K F v d → Rep K F' v d
  | _, _, .non => .non
  | _, _, .bl b => .bl b
  | _, _, .int b => .int b
  | _, _, .str b => .str b
  | _, _, .tup e r => .tup (le _ _ e) (Reps.mono le r)
  | _, _, .ktup e r => .ktup e (Reps.mono le r)
  | _, _, .lv e r => .lv (le _ _ e) (Reps.mono le r)
  | _, _, .ref a => .ref a
  | _, _, .scr e => .scr (le _ _ e)
  | _, _, .kscr e => .kscr e
theorem Reps.mono (le : FLe F F') : ∀ {v : List V} {d : List D}, Reps K F v d → Reps K F' v d
  | _, _, .nil => .nil
  | _, _, .cons r t => .cons (Rep.mono le r) (Reps.mono le t)
end
theorem Reps.length : ∀ {vs : List V} {ds : List D}, Reps K F vs ds → vs.length = ds.length
  | _, _, .nil => rfl
  | _, _, .cons _ t => by rw [List.length_cons, List.length_cons, Reps.length t]
theorem Reps.append : ∀ {vs us : List V} {ds es : List D}, Reps K F vs ds → Reps K F us es → Reps K F (vs ++ us) (ds ++ es)
  | _, _, _, _, .nil, s => s
  | _, _, _, _, .cons r t, s => .cons r (Reps.append t s)
theorem Reps.take : ∀ (n : Nat) {vs : List V} {ds : List D}, Reps K F vs ds → Reps K F (vs.take n) (ds.take n)
  | 0, _, _, _ => .nil
  | _ + 1, _, _, .nil => .nil
  | n + 1, _, _, .cons r t => .cons r (Reps.take n t)
theorem Reps.drop : ∀ (n : Nat) {vs : List V} {ds : List D}, Reps K F vs ds → Reps K F (vs.drop n) (ds.drop n)
  | 0, _, _, h => h
  | _ + 1, _, _, .nil => .nil
  | n + 1, _, _, .cons _ t => Reps.drop n t
theorem Reps.rep {vs : List V} {ds : List D} (h : Reps K F vs ds) : ∀ k : Nat, Reps K F (List.replicate k vs).flatten (List.replicate k ds).flatten
  | 0 => .nil
  | k + 1 => by
    rw [List.replicate_succ, List.replicate_succ, List.flatten_cons, List.flatten_cons]
    exact Reps.append h (Reps.rep h k)
theorem Reps.get : ∀ {vs : List V} {ds : List D} {i : Nat} {d : D}, Reps K F vs ds → ds[i]? = some d → ∃ v, vs[i]? = some v ∧ Rep K F v d
  | _, _, _, _, .nil, e => by simp at e
  | _, _, 0, d, .cons r _, e => by simp at e; subst e; exact ⟨_, rfl, r⟩
  | _, _, i + 1, d, .cons _ t, e => by
    obtain ⟨v, h1, h2⟩ := Reps.get (i := i) (d := d) t (by simpa using e)
    exact ⟨v, by simpa using h1, h2⟩
theorem Reps.get' : ∀ {vs : List V} {ds : List D} {i : Nat} {v : V}, Reps K F vs ds → vs[i]? = some v → ∃ d, ds[i]? = some d ∧ Rep K F v d
  | _, _, _, _, .nil, e => by simp at e
  | _, _, 0, d, .cons r _, e => by simp at e; subst e; exact ⟨_, rfl, r⟩
  | _, _, i + 1, d, .cons _ t, e => by
    obtain ⟨v, h1, h2⟩ := Reps.get' (i := i) (v := d) t (by simpa using e)
    exact ⟨v, by simpa using h1, h2⟩
theorem Reps.set {v : V} {d : D} (r : Rep K F v d) : ∀ {vs : List V} {ds : List D} (i : Nat), Reps K F vs ds → Reps K F (vs.set i v) (ds.set i d)
  | _, _, _, .nil => .nil
  | _, _, 0, .cons _ t => .cons r t
  | _, _, i + 1, .cons q t => .cons q (Reps.set r i t)
theorem Reps.ints : ∀ ns : List Int, Reps K F (ns.map V.int) (ns.map D.int)
  | [] => .nil
  | n :: ns => .cons (.int n) (Reps.ints ns)
theorem Reps.asInts : ∀ {vs : List V} {ds : List D} {ns : List Int}, Reps K F vs ds → asInts ds = some ns → vs = ns.map V.int
  | _, _, ns, .nil, e => by cases e; rfl
  | _, _, ns, .cons (.int i) t, e => by
    simp only [IR.asInts, Option.map_eq_some_iff] at e
    obtain ⟨ms, e, rfl⟩ := e
    rw [List.map_cons, Reps.asInts t e]
  | _, _, ns, .cons .non t, e => by cases e
  | _, _, ns, .cons (.bl _) t, e => by cases e
  | _, _, ns, .cons (.str _) t, e => by cases e
  | _, _, ns, .cons (.tup _ _) t, e => by cases e
  | _, _, ns, .cons (.ktup _ _) t, e => by cases e
  | _, _, ns, .cons (.lv _ _) t, e => by cases e
  | _, _, ns, .cons (.ref _) t, e => by cases e
  | _, _, ns, .cons (.scr _) t, e => by cases e
  | _, _, ns, .cons (.kscr _) t, e => by cases e
theorem Reps.asBools : ∀ {vs : List V} {ds : List D} {ns : List Bool}, Reps K F vs ds → asBools ds = some ns → vs = ns.map V.bl
  | _, _, ns, .nil, e => by cases e; rfl
  | _, _, ns, .cons (.bl i) t, e => by
    simp only [IR.asBools, Option.map_eq_some_iff] at e
    obtain ⟨ms, e, rfl⟩ := e
    rw [List.map_cons, Reps.asBools t e]
  | _, _, ns, .cons .non t, e => by cases e
  | _, _, ns, .cons (.int _) t, e => by cases e
  | _, _, ns, .cons (.str _) t, e => by cases e
  | _, _, ns, .cons (.tup _ _) t, e => by cases e
  | _, _, ns, .cons (.ktup _ _) t, e => by cases e
  | _, _, ns, .cons (.lv _ _) t, e => by cases e
  | _, _, ns, .cons (.ref _) t, e => by cases e
  | _, _, ns, .cons (.scr _) t, e => by cases e
  | _, _, ns, .cons (.kscr _) t, e => by cases e
end

/-- what stood when the last try began -/
class Anchor where
  F : Hp
  B : Hp
variable [A : Anchor]
/-- the frozen part and the changeable lists stand in the heap -/
structure Sim (K : PySem.W.Frag) (F B : Hp) (s : S) (H : Hp) : Prop where
  an : FLe A.F F ∧ FLe A.B B
  fr : FLe F H
  ba : FLe B H
  di : ∀ a o, F a = some o → B a = none
  mu : ∀ a ds, s a = some (.lst ds) → F a = none ∧ B a = none ∧ ∃ vs, H a = some (.lst vs) ∧ Reps K F vs ds
theorem le_none {F H : Hp} {p : Addr} (l : FLe F H) (h : H p = none) : F p = none := by
  cases q : F p with
  | none => rfl
  | some o => rw [l p o q] at h; cases h
section
variable {K : PySem.W.Frag} {F B : Hp} {s : S} {H H' : Hp} {p : Addr}
theorem Sim.fnone (m : Sim K F B s H) (h : H p = none) : F p = none := le_none m.fr h
theorem Sim.bnone (m : Sim K F B s H) (h : H p = none) : B p = none := le_none m.ba h
theorem Sim.snone (m : Sim K F B s H) (h : H p = none) : s p = none := by
  cases q : s p with
  | none => rfl
  | some o =>
    cases o with
    | lst ds =>
      obtain ⟨_, _, vs, e, _⟩ := m.mu p ds q
      rw [e] at h; cases h
theorem Sim.same (m : Sim K F B s H) (h : FLe H H') : Sim K F B s H' :=
  ⟨m.an, m.fr.trans h, m.ba.trans h, m.di, fun a ds e => let ⟨f, b, vs, q, r⟩ := m.mu a ds e; ⟨f, b, vs, h _ _ q, r⟩⟩
theorem Sim.mono {s0 : S} (m : Sim K F B s H) (h : le s0 s) : Sim K F B s0 H := ⟨m.an, m.fr, m.ba, m.di, fun a ds e => m.mu a ds (h a _ e)⟩
/-- a new thing, not looked at -/
theorem Sim.laid {o : HO} (m : Sim K F B s H) (h : H p = none) : Sim K F B s (L2.upd H p o) := m.same (FLe.upd h)
/-- a new frozen thing -/
theorem Sim.ice {o : HO} (m : Sim K F B s H) (h : H p = none) : Sim K (L2.upd F p o) B s (L2.upd H p o) where
  an := ⟨m.an.1.trans (FLe.upd (m.fnone h)), m.an.2⟩
  fr := fun a u e => by
    by_cases q : a = p
    · subst q; rw [upd_same] at e ⊢; exact e
    · rw [upd_ne q] at e ⊢; exact m.fr a u e
  ba := m.ba.trans (FLe.upd h)
  di := fun a u e => by
    by_cases q : a = p
    · subst q; exact m.bnone h
    · rw [upd_ne q] at e; exact m.di a u e
  mu := fun a ds e => by
    obtain ⟨f, b, vs, q, r⟩ := m.mu a ds e
    have ne : a ≠ p := ne_of_none q h
    exact ⟨by rw [upd_ne ne]; exact f, b, vs, by rw [upd_ne ne]; exact q, r.mono (FLe.upd (m.fnone h))⟩
/-- a new changeable list -/
theorem Sim.born {vs : List V} {ds : List D} (m : Sim K F B s H) (h : H p = none) (r : Reps K F vs ds) : Sim K F B (put s p (.lst ds)) (L2.upd H p (.lst vs)) where
  an := m.an
  fr := m.fr.trans (FLe.upd h)
  ba := m.ba.trans (FLe.upd h)
  di := m.di
  mu := fun a es e => by
    by_cases q : a = p
    · subst q
      unfold put at e
      rw [if_pos rfl] at e
      cases e
      exact ⟨m.fnone h, m.bnone h, vs, upd_same, r⟩
    · unfold put at e
      rw [if_neg q] at e
      obtain ⟨f, b, us, q2, r2⟩ := m.mu a es e
      exact ⟨f, b, us, by rw [upd_ne q]; exact q2, r2⟩
/-- a changeable list changes -/
theorem Sim.turn {vs : List V} {ds ds0 : List D} (m : Sim K F B s H) (h : s p = some (.lst ds0)) (r : Reps K F vs ds) : Sim K F B (put s p (.lst ds)) (L2.upd H p (.lst vs)) where
  an := m.an
  fr := fun a u e => by
    have ne : a ≠ p := fun z => by subst z; rw [(m.mu a ds0 h).1] at e; cases e
    rw [upd_ne ne]; exact m.fr a u e
  ba := fun a u e => by
    have ne : a ≠ p := fun z => by subst z; rw [(m.mu a ds0 h).2.1] at e; cases e
    rw [upd_ne ne]; exact m.ba a u e
  di := m.di
  mu := fun a es e => by
    by_cases q : a = p
    · subst q
      unfold put at e
      rw [if_pos rfl] at e
      cases e
      exact ⟨(m.mu a ds0 h).1, (m.mu a ds0 h).2.1, vs, upd_same, r⟩
    · unfold put at e
      rw [if_neg q] at e
      obtain ⟨f, b, us, q2, r2⟩ := m.mu a es e
      exact ⟨f, b, us, by rw [upd_ne q]; exact q2, r2⟩
/-- a changeable list is frozen -/
theorem Sim.freeze {vs : List V} {ds : List D} (m : Sim K F B s H) (h : s p = some (.lst ds)) (e : H p = some (.lst vs)) : Sim K (L2.upd F p (.lst vs)) B (rm s p) H where
  an := ⟨m.an.1.trans (FLe.upd (m.mu p ds h).1), m.an.2⟩
  fr := fun a u q => by
    by_cases z : a = p
    · subst z; rw [upd_same] at q; rw [← q]; exact e
    · rw [upd_ne z] at q; exact m.fr a u q
  ba := m.ba
  di := fun a u q => by
    by_cases z : a = p
    · subst z; exact (m.mu a ds h).2.1
    · rw [upd_ne z] at q; exact m.di a u q
  mu := fun a es q => by
    unfold rm at q
    by_cases z : a = p
    · rw [if_pos z] at q; cases q
    · rw [if_neg z] at q
      obtain ⟨f, b, us, q2, r2⟩ := m.mu a es q
      exact ⟨by rw [upd_ne z]; exact f, b, us, q2, r2.mono (FLe.upd (m.mu p ds h).1)⟩
/-- a thing of ours that nothing speaks of -/
theorem Sim.bar {o : HO} (m : Sim K F B s H) (h : H p = none) : Sim K F (L2.upd B p o) s (L2.upd H p o) where
  an := ⟨m.an.1, m.an.2.trans (FLe.upd (m.bnone h))⟩
  fr := m.fr.trans (FLe.upd h)
  ba := fun a u e => by
    by_cases q : a = p
    · subst q; rw [upd_same] at e ⊢; exact e
    · rw [upd_ne q] at e ⊢; exact m.ba a u e
  di := fun a u e => by
    by_cases q : a = p
    · subst q; rw [m.fnone h] at e; cases e
    · rw [upd_ne q]; exact m.di a u e
  mu := fun a ds e => by
    obtain ⟨f, b, vs, q, r⟩ := m.mu a ds e
    have ne : a ≠ p := ne_of_none q h
    exact ⟨f, by rw [upd_ne ne]; exact b, vs, by rw [upd_ne ne]; exact q, r⟩
/-- .. changes -/
theorem Sim.barTurn {o u : HO} (m : Sim K F (L2.upd B p o) s H) (hb : B p = none) (ab : FLe A.B B) : Sim K F (L2.upd B p u) s (L2.upd H p u) where
  an := ⟨m.an.1, ab.trans (FLe.upd hb)⟩
  fr := fun a v e => by
    have ne : a ≠ p := fun z => by subst z; have := m.di a v e; rw [upd_same] at this; cases this
    rw [upd_ne ne]; exact m.fr a v e
  ba := fun a v e => by
    by_cases q : a = p
    · subst q; rw [upd_same] at e ⊢; exact e
    · rw [upd_ne q] at e ⊢; exact m.ba a v (by rw [upd_ne q]; exact e)
  di := fun a v e => by
    have ne : a ≠ p := fun z => by subst z; have := m.di a v e; rw [upd_same] at this; cases this
    have := m.di a v e
    rw [upd_ne ne] at this ⊢; exact this
  mu := fun a ds e => by
    obtain ⟨f, b, vs, q, r⟩ := m.mu a ds e
    have ne : a ≠ p := fun z => by subst z; rw [upd_same] at b; cases b
    rw [upd_ne ne] at b
    exact ⟨f, by rw [upd_ne ne]; exact b, vs, by rw [upd_ne ne]; exact q, r⟩
theorem Sim.unbar {o : HO} (m : Sim K F (L2.upd B p o) s H) (hb : B p = none) (ab : FLe A.B B) : Sim K F B s H where
  an := ⟨m.an.1, ab⟩
  fr := m.fr
  ba := fun a v e => m.ba a v (by rw [upd_ne (ne_of_none e hb)]; exact e)
  di := fun a v e => by
    have ne : a ≠ p := fun z => by subst z; have := m.di a v e; rw [upd_same] at this; cases this
    have := m.di a v e
    rw [upd_ne ne] at this; exact this
  mu := fun a ds e => by
    obtain ⟨f, b, vs, q, r⟩ := m.mu a ds e
    have ne : a ≠ p := fun z => by subst z; rw [upd_same] at b; cases b
    rw [upd_ne ne] at b
    exact ⟨f, b, vs, q, r⟩
end

/-- fewer things of ours spoken of -/
theorem Sim.less {K : PySem.W.Frag} {F B B0 : Hp} {s : S} {H : Hp} (m : Sim K F B s H) (l : FLe B0 B) (ab : FLe A.B B0) : Sim K F B0 s H :=
  ⟨⟨m.an.1, ab⟩, m.fr, l.trans m.ba, fun a o e => le_none l (m.di a o e), fun a ds e => let ⟨f, b, r⟩ := m.mu a ds e; ⟨f, le_none l b, r⟩⟩
/-- what stands now as the ground of a try -/
abbrev anchor (F B : Hp) : Anchor := ⟨F, B⟩
theorem Sim.drop {K : PySem.W.Frag} {F B : Hp} {s : S} {H : Hp} (m : Sim K F B s H) : @Sim (anchor F B) K F B s H :=
  @Sim.mk (anchor F B) K F B s H ⟨FLe.refl F, FLe.refl B⟩ m.fr m.ba m.di m.mu
theorem Sim.lift {K : PySem.W.Frag} {F B F' B' : Hp} {s s' : S} {H H' : Hp} (m : Sim K F B s H) (m' : @Sim (anchor F B) K F' B' s' H') : FLe F F' ∧ Sim K F' B s' H' := by
  obtain ⟨⟨a, b⟩, fr, ba, di, mu⟩ := m'
  have a : FLe F F' := a
  have b : FLe B B' := b
  exact ⟨a, ⟨m.an.1.trans a, m.an.2⟩, fr, b.trans ba, fun c o e => le_none b (di c o e), fun c ds e => let ⟨f, g, r⟩ := mu c ds e; ⟨f, le_none b g, r⟩⟩
/-- what is wanted of data, as what is wanted of a value -/
def Lift (K : PySem.W.Frag) (F B : Hp) (P : D → S → Prop) (Q : VK) : Prop :=
  ∀ d s' F' H' v, FLe F F' → Sim K F' B s' H' → Rep K F' v d → P d s' → Q v H'
theorem Lift.mono {K : PySem.W.Frag} {F F' B : Hp} {P : D → S → Prop} {Q : VK} (h : Lift K F B P Q) (le : FLe F F') : Lift K F' B P Q :=
  fun d s' G H' v l => h d s' G H' v (le.trans l)
section
variable {K : PySem.W.Frag} {F B : Hp} {s : S} {H : Hp} {P : D → S → Prop} {Q : VK}
/-- data that need no heap -/
theorem Lift.at (h : Lift K F B P Q) (m : Sim K F B s H) {d : D} {v : V} (r : Rep K F v d) (q : P d s) : Q v H := h d s F H v (FLe.refl F) m r q
theorem Lift.newTup (h : Lift K F B P Q) (m : Sim K F B s H) {vs : List V} {ds : List D} (r : Reps K F vs ds) (q : P (.tup ds) s) : ∀ p, H p = none → Q (.ref p) (L2.upd H p (.tup vs)) := fun p hp =>
  h _ s (L2.upd F p (.tup vs)) _ _ (FLe.upd (m.fnone hp)) (m.ice hp) (.tup upd_same (r.mono (FLe.upd (m.fnone hp)))) q
theorem Lift.newLst (h : Lift K F B P Q) (m : Sim K F B s H) {b : Bool} {vs : List V} {ds : List D} (r : Reps K F vs ds) (q : newL b ds s P) : ∀ p, H p = none → Q (.ref p) (L2.upd H p (.lst vs)) := fun p hp => by
  cases b with
  | true => exact h _ (put s p (.lst ds)) F _ _ (FLe.refl F) (m.born hp r) (.ref p) (q p (m.snone hp))
  | false => exact h _ s (L2.upd F p (.lst vs)) _ _ (FLe.upd (m.fnone hp)) (m.ice hp) (.lv upd_same (r.mono (FLe.upd (m.fnone hp)))) q
/-- a list that can be read -/
theorem view_at (m : Sim K F B s H) {v : V} {d : D} {ds : List D} (r : Rep K F v d) (e : view s d = some ds) : ∃ a vs, v = .ref a ∧ H a = some (.lst vs) ∧ Reps K F vs ds := by
  cases r with
  | non => cases e
  | bl b => cases e
  | int b => cases e
  | str b => cases e
  | tup _ _ => cases e
  | ktup _ _ => cases e
  | scr _ => cases e
  | kscr _ => cases e
  | lv e1 r1 =>
    simp only [view, Option.some.injEq] at e
    subst e
    exact ⟨_, _, rfl, m.fr _ _ e1, r1⟩
  | ref a =>
    simp only [view] at e
    cases q : s a with
    | none => rw [q] at e; cases e
    | some o =>
      cases o with
      | lst es =>
        rw [q] at e
        simp only [Option.some.injEq] at e
        subst e
        obtain ⟨_, _, vs, e2, r2⟩ := m.mu a es q
        exact ⟨_, _, rfl, e2, r2⟩
theorem scr_at (m : Sim K F B s H) {v : V} {ns : List Int} (r : Rep K F v (.scr ns)) : ∃ a, v = .ref a ∧ SqL K H a (ns.map V.int) := by
  cases r with
  | scr e => exact ⟨_, rfl, .inl (.inr ⟨_, m.fr _ _ e⟩)⟩
  | kscr e => exact ⟨_, rfl, .inr e⟩
theorem tup_at (m : Sim K F B s H) {v : V} {ds : List D} (r : Rep K F v (.tup ds)) : ∃ a vs, v = .ref a ∧ SqT K H a vs ∧ Reps K F vs ds := by
  cases r with
  | tup e r => exact ⟨_, _, rfl, .inl (.inl (m.fr _ _ e)), r⟩
  | ktup e r => exact ⟨_, _, rfl, .inr e, r⟩
theorem items_at (m : Sim K F B s H) {v : V} {d : D} {ds : List D} (r : Rep K F v d) (e : items s d = some ds) : ∃ a vs, v = .ref a ∧ (SqL K H a vs ∨ SqT K H a vs) ∧ Reps K F vs ds := by
  cases d with
  | tup es =>
    simp only [items, Option.some.injEq] at e
    subst e
    obtain ⟨a, vs, q, t, r⟩ := tup_at m r
    exact ⟨a, vs, q, .inr t, r⟩
  | non => cases e
  | bl b => cases e
  | int b => cases e
  | str b => cases e
  | scr b => cases e
  | lv es =>
    obtain ⟨a, vs, q, t, r⟩ := view_at m r (ds := ds) e
    exact ⟨a, vs, q, .inl (.inl (.inl t)), r⟩
  | ref es =>
    obtain ⟨a, vs, q, t, r⟩ := view_at m r (ds := ds) e
    exact ⟨a, vs, q, .inl (.inl (.inl t)), r⟩
end

/-! ### data as the model's own data -/
mutual
def toP : D → PyData
  | .non => .none
  | .bl b => .bool b
  | .int i => .int i
  | .str x => .str x
  | .tup ds => .tuple (toPs ds)
  | .lv ds => .list (toPs ds)
  | .ref _ => .none
  | .scr _ => .none
def toPs : List D → List PyData
  | [] => []
  | d :: ds => toP d :: toPs ds
end
mutual
theorem toP_lay : ∀ d : D, okD d = true → (toP d).canLay0 = true
  | .non, _ => rfl
  | .bl _, _ => rfl
  | .int _, _ => rfl
  | .str x, h => by simpa only [toP, PyData.canLay0, PyData.strOk, okD] using h
  | .tup ds, h => by simp only [toP, PyData.canLay0]; exact toPs_lay ds (by simpa only [okD] using h)
  | .lv ds, h => by simp only [toP, PyData.canLay0]; exact toPs_lay ds (by simpa only [okD] using h)
  | .ref _, h => by simp [okD] at h
  | .scr _, h => by simp [okD] at h
theorem toPs_lay : ∀ ds : List D, okDs ds = true → PyData.canLayAll0 (toPs ds) = true
  | [], _ => rfl
  | d :: ds, h => by
    simp only [okDs, Bool.and_eq_true] at h
    simp only [toPs, PyData.canLayAll0, Bool.and_eq_true]
    exact ⟨toP_lay d h.1, toPs_lay ds h.2⟩
end
mutual
theorem toP_dep : ∀ d : D, (toP d).depth = dep d
  | .non => rfl
  | .bl _ => rfl
  | .int _ => rfl
  | .str x => rfl
  | .tup ds => by simp only [toP, PyData.depth, dep, toPs_dep ds]
  | .lv ds => by simp only [toP, PyData.depth, dep, toPs_dep ds]
  | .ref _ => rfl
  | .scr _ => rfl
theorem toPs_dep : ∀ ds : List D, PyData.depthAll (toPs ds) = deps ds
  | [] => rfl
  | d :: ds => by simp only [toPs, PyData.depthAll, deps, toP_dep d, toPs_dep ds]
end
theorem toP_shaped {d : D} (h : fine d) : SeqAt.shaped (toP d) = true := by
  show ((toP d).canLay0 && decide ((toP d).depth ≤ 64)) = true
  rw [Bool.and_eq_true, toP_dep]
  exact ⟨toP_lay d h.1, decide_eq_true h.2⟩
mutual
theorem toP_eqv : ∀ (x y : D), okD x = true → okD y = true → PyData.eqv (toP x) (toP y) = eqD x y
  | .non, y, _, hy => by cases y <;> first | rfl | (simp [okD] at hy; done) | simp only [toP, PyData.eqv, eqD]
  | .bl _, y, _, hy => by cases y <;> first | (simp [okD] at hy; done) | simp only [toP, PyData.eqv, eqD]
  | .int _, y, _, hy => by cases y <;> first | (simp [okD] at hy; done) | simp only [toP, PyData.eqv, eqD]
  | .str _, y, _, hy => by cases y <;> first | (simp [okD] at hy; done) | simp only [toP, PyData.eqv, eqD]
  | .tup xs, y, hx, hy => by
    cases y with
    | tup ys =>
      simp only [toP, PyData.eqv, eqD]
      exact toPs_eqv xs ys (by simpa only [okD] using hx) (by simpa only [okD] using hy)
    | ref _ => simp [okD] at hy
    | scr _ => simp [okD] at hy
    | _ => simp only [toP, PyData.eqv, eqD]
  | .lv xs, y, hx, hy => by
    cases y with
    | lv ys =>
      simp only [toP, PyData.eqv, eqD]
      exact toPs_eqv xs ys (by simpa only [okD] using hx) (by simpa only [okD] using hy)
    | ref _ => simp [okD] at hy
    | scr _ => simp [okD] at hy
    | _ => simp only [toP, PyData.eqv, eqD]
  | .ref _, _, h, _ => by simp [okD] at h
  | .scr _, _, h, _ => by simp [okD] at h
theorem toPs_eqv : ∀ (x y : List D), okDs x = true → okDs y = true → PyData.eqvAll (toPs x) (toPs y) = eqDs x y
  | [], [], _, _ => by simp only [toPs, PyData.eqvAll, eqDs]
  | [], _ :: _, _, _ => by simp only [toPs, PyData.eqvAll, eqDs]
  | _ :: _, [], _, _ => by simp only [toPs, PyData.eqvAll, eqDs]
  | x :: xs, y :: ys, hx, hy => by
    simp only [okDs, Bool.and_eq_true] at hx hy
    simp only [toPs, PyData.eqvAll, eqDs, toP_eqv x y hx.1 hy.1, toPs_eqv xs ys hx.2 hy.2]
end
section
variable {K : PySem.W.Frag} {F B : Hp} {s : S} {H : Hp}
mutual
theorem dp_of (m : Sim K F B s H) : ∀ (d : D) {v : V}, okD d = true → Rep K F v d → Dp K H v (toP d)
  | .non, _, _, r => by cases r; exact .non
  | .bl _, _, _, r => by cases r; exact .bl _
  | .int _, _, _, r => by cases r; exact .int _
  | .str _, _, _, r => by cases r; exact .str _
  | .tup ds, _, h, r => by
    obtain ⟨a, vs, rfl, t, q⟩ := tup_at m r
    exact .tup t (dps_of m ds (by simpa only [okD] using h) q)
  | .lv ds, _, h, r => by
    obtain ⟨a, vs, rfl, t, q⟩ := view_at m r (ds := ds) rfl
    exact .lst (.inl (.inl t)) (dps_of m ds (by simpa only [okD] using h) q)
  | .ref _, _, h, _ => by simp [okD] at h
  | .scr _, _, h, _ => by simp [okD] at h
theorem dps_of (m : Sim K F B s H) : ∀ (ds : List D) {vs : List V}, okDs ds = true → Reps K F vs ds → DpAll K H vs (toPs ds)
  | [], _, _, r => by cases r; exact .nil
  | d :: ds, _, h, r => by
    cases r with
    | cons r t =>
      simp only [okDs, Bool.and_eq_true] at h
      exact .cons (dp_of m d h.1 r) (dps_of m ds h.2 t)
end
end
end IR

set_option Elab.async false
set_option linter.all false
set_option maxRecDepth 100000
/-! So2: the operations on data are the model's operations on values. -/
namespace IR
open PySem PySem.Spec PyProof.Rows L2
variable [A : Anchor]

abbrev W2 := D → D → S → (D → S → Prop) → Prop
def rD2 (K : PySem.W.Frag) (w : W2) : R2 := fun x y H Q => ∃ F B s dx dy P, Sim K F B s H ∧ Rep K F x dx ∧ Rep K F y dy ∧ w dx dy s P ∧ Lift K F B P Q
section
variable {X : Cx}
/-- a rule of ints, for data that are ints -/
theorem op_ints {f : Value → Value → Sem Value} {C : Int → Int → Prop} {g : Int → Int → V} {w : W2} {gd : Int → Int → D}
    (h : OpR X f (rI C g)) (rg : ∀ F i j, Rep X.K F (g i j) (gd i j)) (hw : ∀ dx dy s P, w dx dy s P → ∃ i j, dx = .int i ∧ dy = .int j ∧ C i j ∧ P (gd i j) s) : OpR X f (rD2 X.K w) := by
  intro pins s σ H x y v u Q I rx ry q
  obtain ⟨F, B, st, dx, dy, P, m, r1, r2, q, l⟩ := q
  obtain ⟨i, j, rfl, rfl, c, q⟩ := hw _ _ _ _ q
  cases r1; cases r2
  exact h pins s σ H _ _ v u Q I rx ry ⟨i, j, rfl, rfl, c, l.at m (rg F i j) q⟩
theorem OpR.i0 {f : Value → Value → Sem Value} {g : Int → Int → V} (h : OpR X f (rI0 g)) : OpR X f (rI (fun _ _ => True) g) := by
  intro pins s σ H x y v u Q I rx ry q
  obtain ⟨i, j, e1, e2, _, q⟩ := q
  exact h pins s σ H x y v u Q I rx ry ⟨i, j, e1, e2, q⟩

def opOf : Bop → Operator
  | .add => .Add
  | .sub => .Sub
  | .mul => .Mult
  | .fdiv => .FloorDiv
  | .mod => .Mod
  | .pow => .Pow
theorem dD_add {m : Bool} : OpR X (binaryOp .Add) (rD2 X.K (binW m .add)) := by
  intro pins s σ H x y v u Q I rx ry q
  obtain ⟨F, B, st, dx, dy, P, mm, r1, r2, q, l⟩ := q
  have lists : ∀ xs ys, view st dx = some xs → view st dy = some ys → (xs.length + ys.length ≤ SL ∧ newL m (xs ++ ys) st P) → wpAny (model X.prog X.w) X.A (binaryOp .Add v u) (EP X pins σ Q) X.xe s := by
    intro xs ys e1 e2 q
    obtain ⟨a, vs, rfl, h1, s1⟩ := view_at mm r1 e1
    obtain ⟨b, us, rfl, h2, s2⟩ := view_at mm r2 e2
    refine op_cat pins s σ H _ _ v u Q I rx ry ⟨a, b, vs, us, rfl, rfl, h1, h2, ?_, l.newLst mm (s1.append s2) q.2⟩
    rw [s1.length, s2.length]; exact q.1
  show wpAny _ _ _ _ _ _
  have q' : addW m dx dy st P := q
  unfold addW at q'
  split at q'
  · cases r1; cases r2
    exact op_add pins s σ H _ _ v u Q I rx ry ⟨_, _, rfl, rfl, l.at mm (.int _) q'⟩
  · cases r1; cases r2
    refine op_add_ib pins s σ H _ _ v u Q I rx ry ⟨_, _, rfl, rfl, l.at mm ?_ q'⟩
    rename_i k
    cases k <;> exact .int _
  · obtain ⟨a, vs, rfl, h1, s1⟩ := tup_at mm r1
    obtain ⟨b, us, rfl, h2, s2⟩ := tup_at mm r2
    refine op_catA pins s σ H _ _ v u Q I rx ry ⟨a, b, vs, us, rfl, rfl, h1, h2, ?_, fun e => ?_, fun _ e => ?_, fun _ _ => l.newTup mm (s1.append s2) q'.2⟩
    · rw [s1.length, s2.length]; exact q'.1
    · subst e
      cases s1
      exact l.at mm r2 q'.2
    · subst e
      cases s2
      rw [List.append_nil] at q'
      exact l.at mm r1 q'.2
  · split at q'
    · rename_i e1 e2
      exact lists _ _ e1 e2 q'
    · exact q'.elim
theorem MulOk.ok {i j : Int} (h : MulOk i j) : CMul i j ∨ CMulW i j := by
  rcases h with h | h | h
  · exact .inl (.inl h)
  · exact .inl (.inr h)
  · exact .inr h
theorem dD_mul {m : Bool} : OpR X (binaryOp .Mult) (rD2 X.K (binW m .mul)) := by
  intro pins s σ H x y v u Q I rx ry q
  obtain ⟨F, B, st, dx, dy, P, mm, r1, r2, q, l⟩ := q
  have q' : mulW m dx dy st P := q
  unfold mulW at q'
  split at q'
  · cases r1; cases r2
    rcases q'.1.ok with c | c
    · exact op_mul pins s σ H _ _ v u Q I rx ry ⟨_, _, rfl, rfl, c, l.at mm (.int _) q'.2⟩
    · exact op_mulW pins s σ H _ _ v u Q I rx ry ⟨_, _, rfl, rfl, c, l.at mm (.int _) q'.2⟩
  · split at q'
    · rename_i e1
      obtain ⟨a, vs, rfl, h1, s1⟩ := view_at mm r1 e1
      cases r2
      obtain ⟨z1, z2, z3, z4⟩ := q'
      refine op_rep pins s σ H _ _ v u Q I rx ry ⟨a, _, vs, rfl, rfl, h1, z1, z2, ?_, l.newLst mm (s1.rep _) z4⟩
      rw [s1.length]; exact z3
    · exact q'.elim
  · exact q'.elim
theorem dD_sub {m : Bool} : OpR X (binaryOp .Sub) (rD2 X.K (binW m .sub)) := by
  refine op_ints (gd := fun i j => .int (i - j)) (OpR.i0 op_sub) (fun F i j => .int _) fun dx dy s P q => ?_
  dsimp only [binW] at q
  split at q
  · exact ⟨_, _, rfl, rfl, trivial, q⟩
  · exact q.elim
theorem dD_mod {m : Bool} : OpR X (binaryOp .Mod) (rD2 X.K (binW m .mod)) := by
  refine op_ints (gd := fun i j => .int (i % j)) op_mod (fun F i j => .int _) fun dx dy s P q => ?_
  dsimp only [binW] at q
  split at q
  · exact ⟨_, _, rfl, rfl, q.1, q.2⟩
  · exact q.elim
theorem dD_pow {m : Bool} : OpR X (binaryOp .Pow) (rD2 X.K (binW m .pow)) := by
  refine op_ints (gd := fun i j => .int (i ^ j.toNat)) op_pow (fun F i j => .int _) fun dx dy s P q => ?_
  dsimp only [binW] at q
  split at q
  · exact ⟨_, _, rfl, rfl, q.1, q.2⟩
  · exact q.elim
theorem dD_fdiv {m : Bool} : OpR X (binaryOp .FloorDiv) (rD2 X.K (binW m .fdiv)) := by
  intro pins s σ H x y v u Q I rx ry q
  obtain ⟨F, B, st, dx, dy, P, mm, r1, r2, q, l⟩ := q
  dsimp only [binW] at q
  split at q
  · cases r1; cases r2
    obtain ⟨⟨c0, c⟩, q⟩ := q
    rcases c with c | c
    · exact op_fdivN pins s σ H _ _ v u Q I rx ry ⟨_, _, rfl, rfl, ⟨c0, c⟩, l.at mm (.int _) q⟩
    · refine op_fdivW pins s σ H _ _ v u Q I rx ry ⟨_, _, rfl, rfl, c, ?_⟩
      have c1 := c.1
      rw [Int.fdiv_eq_ediv_of_nonneg _ (by omega)] at q
      exact l.at mm (.int _) q
  · exact q.elim
theorem dD_bin {m : Bool} : ∀ o : Bop, OpR X (binaryOp (opOf o)) (rD2 X.K (binW m o))
  | .add => dD_add
  | .sub => dD_sub
  | .mul => dD_mul
  | .fdiv => dD_fdiv
  | .mod => dD_mod
  | .pow => dD_pow

def copOf : Cop → CmpOp
  | .eq => .Eq
  | .ne => .NotEq
  | .lt => .Lt
  | .le => .LtE
  | .gt => .Gt
  | .ge => .GtE
  | .isin => .In
  | .notin => .NotIn
theorem dD_eq (hu : X.A.units + 65 < cLine) : OpR X (compareOp .Eq) (rD2 X.K (cmpW .eq)) := by
  intro pins s σ H x y v u Q I rx ry q
  obtain ⟨F, B, st, dx, dy, P, mm, r1, r2, q, l⟩ := q
  dsimp only [cmpW] at q
  split at q
  · cases r1; cases r2
    refine L2.op_eq pins s σ H _ _ v u Q I rx ry ⟨rfl, ?_⟩
    have e : ∀ i j : Int, decide (V.int i = V.int j) = decide (i = j) := fun i j => by simp
    rw [e]
    exact l.at mm (.bl _) q
  · obtain ⟨f1, f2, q⟩ := q
    refine op_eqD (by omega) pins s σ H _ _ v u Q I rx ry ⟨_, _, dp_of mm _ f1.1 r1, dp_of mm _ f2.1 r2, toP_shaped f1, toP_shaped f2, ?_⟩
    rw [toP_eqv _ _ f1.1 f2.1]
    exact l.at mm (.bl _) q
theorem dD_ne (hu : X.A.units + 65 < cLine) : OpR X (compareOp .NotEq) (rD2 X.K (cmpW .ne)) := by
  intro pins s σ H x y v u Q I rx ry q
  obtain ⟨F, B, st, dx, dy, P, mm, r1, r2, q, l⟩ := q
  dsimp only [cmpW] at q
  split at q
  · cases r1; cases r2
    refine L2.op_ne pins s σ H _ _ v u Q I rx ry ⟨rfl, ?_⟩
    have e : ∀ i j : Int, decide (V.int i = V.int j) = decide (i = j) := fun i j => by simp
    rw [e]
    exact l.at mm (.bl _) q
  · cases r1; cases r2
    refine L2.op_ne pins s σ H _ _ v u Q I rx ry ⟨rfl, ?_⟩
    have e : ∀ i j : Bool, decide (V.bl i = V.bl j) = decide (i = j) := fun i j => by simp
    rw [e]
    exact l.at mm (.bl _) q
  · obtain ⟨f1, f2, q⟩ := q
    refine op_neD (by omega) pins s σ H _ _ v u Q I rx ry ⟨_, _, dp_of mm _ f1.1 r1, dp_of mm _ f2.1 r2, toP_shaped f1, toP_shaped f2, ?_⟩
    rw [toP_eqv _ _ f1.1 f2.1]
    exact l.at mm (.bl _) q
theorem dD_lt : OpR X (compareOp .Lt) (rD2 X.K (cmpW .lt)) := by
  refine op_ints (gd := fun i j => .bl (decide (i < j))) (OpR.i0 op_lt) (fun F i j => .bl _) fun dx dy s P q => ?_
  dsimp only [cmpW] at q
  split at q
  · exact ⟨_, _, rfl, rfl, trivial, q⟩
  · exact q.elim
theorem dD_le : OpR X (compareOp .LtE) (rD2 X.K (cmpW .le)) := by
  refine op_ints (gd := fun i j => .bl (decide (i ≤ j))) (OpR.i0 op_le) (fun F i j => .bl _) fun dx dy s P q => ?_
  dsimp only [cmpW] at q
  split at q
  · exact ⟨_, _, rfl, rfl, trivial, q⟩
  · exact q.elim
theorem dD_gt : OpR X (compareOp .Gt) (rD2 X.K (cmpW .gt)) := by
  refine op_ints (gd := fun i j => .bl (decide (j < i))) (OpR.i0 op_gt) (fun F i j => .bl _) fun dx dy s P q => ?_
  dsimp only [cmpW] at q
  split at q
  · exact ⟨_, _, rfl, rfl, trivial, q⟩
  · exact q.elim
theorem dD_ge : OpR X (compareOp .GtE) (rD2 X.K (cmpW .ge)) := by
  refine op_ints (gd := fun i j => .bl (decide (j ≤ i))) (OpR.i0 op_ge) (fun F i j => .bl _) fun dx dy s P q => ?_
  dsimp only [cmpW] at q
  split at q
  · exact ⟨_, _, rfl, rfl, trivial, q⟩
  · exact q.elim
theorem flat_rep {K : PySem.W.Frag} {F : Hp} {v : V} {d : D} (r : Rep K F v d) (h : flatD d = true) : flatV v = true := by
  cases r <;> first | rfl | (simp [flatD] at h; done)
theorem flats_rep {K : PySem.W.Frag} {F : Hp} : ∀ {vs : List V} {ds : List D}, Reps K F vs ds → ds.all flatD = true → vs.all flatV = true
  | _, _, .nil, _ => rfl
  | _, _, .cons r t, h => by
    rw [List.all_cons, Bool.and_eq_true] at h ⊢
    exact ⟨flat_rep r h.1, flats_rep t h.2⟩
theorem eqV_rep {K : PySem.W.Frag} {F : Hp} {v u : V} {d e : D} (r : Rep K F v d) (q : Rep K F u e) (h1 : flatD d = true) (h2 : flatD e = true) : eqV v u = eqD d e := by
  cases r <;> cases q <;> first | (simp [flatD] at h1; done) | (simp [flatD] at h2; done) | simp only [eqV, eqD]
theorem inV_rep {K : PySem.W.Frag} {F : Hp} {x : V} {d : D} (r : Rep K F x d) (h1 : flatD d = true) : ∀ {vs : List V} {ds : List D}, Reps K F vs ds → ds.all flatD = true → inV x vs = ds.any fun e => eqD e d
  | _, _, .nil, _ => rfl
  | _, _, .cons q t, h => by
    rw [List.all_cons, Bool.and_eq_true] at h
    have ih := inV_rep r h1 t h.2
    unfold inV at ih ⊢
    rw [List.any_cons, List.any_cons, ih, eqV_rep q r h.1 h1]
theorem any_toP {x : D} (hx : okD x = true) : ∀ {ds : List D}, okDs ds = true → ((toPs ds).any fun z => PyData.eqv z (toP x)) = ds.any fun d => eqD d x
  | [], _ => rfl
  | d :: ds, h => by
    simp only [okDs, Bool.and_eq_true] at h
    simp only [toPs, List.any_cons, any_toP hx h.2, toP_eqv d x h.1 hx]
theorem in_any {neg : Bool} (hu : X.A.units + 65 < cLine) {pins : List (Addr × Obj)} {s : Shared} {σ : L2.St} {H : Hp} {x y : V} {v u : Value} {Q : VK} {F B : Hp} {st : S} {dx dy : D} {P : D → S → Prop} (I : Inv X pins σ H s) (rx : RelV x v) (ry : RelV y u)
    (mm : Sim X.K F B st H) (r1 : Rep X.K F x dx) (r2 : Rep X.K F y dy) (q : inW dx dy st fun b => P (.bl (if neg then !b else b)) st) (l : Lift X.K F B P Q) :
    wpAny (model X.prog X.w) X.A (compareOp (if neg then .NotIn else .In) v u) (EP X pins σ Q) X.xe s := by
  unfold inW at q
  split at q
  · obtain ⟨f1, f2, q⟩ := q
    obtain ⟨b, us, rfl, h2, s2⟩ := tup_at mm r2
    have e := inV_rep r1 f1 s2 f2
    cases neg with
    | true =>
      refine op_notIn_seq pins s σ H _ _ v u Q I rx ry ⟨b, us, rfl, .inr h2, flat_rep r1 f1, flats_rep s2 f2, ?_⟩
      rw [if_pos rfl, e]
      exact l.at mm (.bl _) q
    | false =>
      refine op_in_seq pins s σ H _ _ v u Q I rx ry ⟨b, us, rfl, .inr h2, flat_rep r1 f1, flats_rep s2 f2, ?_⟩
      rw [if_neg Bool.false_ne_true, e]
      exact l.at mm (.bl _) q
  · split at q
    · rename_i ds e
      obtain ⟨f1, f2, q⟩ := q
      obtain ⟨b, us, rfl, h2, s2⟩ := view_at mm r2 e
      have f3 : okDs ds = true := by simpa only [okD] using f2.1
      have e2 := any_toP f1.1 f3
      have hsh : SeqAt.shaped (.list (toPs ds)) = true := toP_shaped (d := .lv ds) f2
      cases neg with
      | true =>
        refine op_notInD hu pins s σ H _ _ v u Q I rx ry ⟨_, _, dp_of mm _ f1.1 r1, .lst (.inl (.inl h2)) (dps_of mm ds f3 s2), toP_shaped f1, hsh, ?_⟩
        rw [e2]
        exact l.at mm (.bl _) q
      | false =>
        refine op_inD hu pins s σ H _ _ v u Q I rx ry ⟨_, _, dp_of mm _ f1.1 r1, .lst (.inl (.inl h2)) (dps_of mm ds f3 s2), toP_shaped f1, hsh, ?_⟩
        rw [e2]
        exact l.at mm (.bl _) q
    · exact q.elim
theorem dD_in (hu : X.A.units + 65 < cLine) : OpR X (compareOp .In) (rD2 X.K (cmpW .isin)) := by
  intro pins s σ H x y v u Q I rx ry q
  obtain ⟨F, B, st, dx, dy, P, mm, r1, r2, q, l⟩ := q
  exact in_any (neg := false) hu I rx ry mm r1 r2 q l
theorem dD_notin (hu : X.A.units + 65 < cLine) : OpR X (compareOp .NotIn) (rD2 X.K (cmpW .notin)) := by
  intro pins s σ H x y v u Q I rx ry q
  obtain ⟨F, B, st, dx, dy, P, mm, r1, r2, q, l⟩ := q
  exact in_any (neg := true) hu I rx ry mm r1 r2 q l
theorem dD_cmp (hu : X.A.units + 65 < cLine) : ∀ o : Cop, OpR X (compareOp (copOf o)) (rD2 X.K (cmpW o))
  | .eq => dD_eq hu
  | .ne => dD_ne hu
  | .lt => dD_lt
  | .le => dD_le
  | .gt => dD_gt
  | .ge => dD_ge
  | .isin => dD_in hu
  | .notin => dD_notin hu

/-! ### truth, subscripts, slices -/
theorem isEmpty_rep {K : PySem.W.Frag} {F : Hp} : ∀ {vs : List V} {ds : List D}, Reps K F vs ds → vs.isEmpty = ds.isEmpty
  | _, _, .nil => rfl
  | _, _, .cons _ _ => rfl
theorem tru_rep {K : PySem.W.Frag} {F B : Hp} {s : S} {H : Hp} {v : V} {d : D} {P : Bool → S → Prop} (m : Sim K F B s H) (r : Rep K F v d) (q : truW d s P) : ∃ k, TruV K v H k ∧ P k s := by
  unfold truW at q
  split at q
  · cases r; exact ⟨_, rfl, q⟩
  · cases r; exact ⟨_, rfl, q⟩
  · cases r; exact ⟨_, rfl, q⟩
  · obtain ⟨a, vs, rfl, h, t⟩ := tup_at m r
    refine ⟨_, .inr (.inl ⟨vs, h, ?_⟩), q⟩
    rw [isEmpty_rep t]
  · split at q
    · rename_i e
      obtain ⟨a, vs, rfl, h, t⟩ := view_at m r e
      refine ⟨_, .inl ⟨vs, .inl (.inl h), ?_⟩, q⟩
      rw [isEmpty_rep t]
    · exact q.elim
theorem ixN_eq (n : Nat) (i : Int) : IR.ixN n i = L2.ixN n i := rfl
theorem atI_rep {K : PySem.W.Frag} {F : Hp} {vs : List V} {ds : List D} {i : Int} {d : D} (r : Reps K F vs ds) (h : IR.atI ds i = some d) : ∃ v, L2.atI vs i = some v ∧ Rep K F v d := by
  unfold IR.atI at h
  cases q : IR.ixN ds.length i with
  | none => rw [q] at h; cases h
  | some j =>
    rw [q] at h
    obtain ⟨v, h1, h2⟩ := r.get (i := j) h
    refine ⟨v, ?_, h2⟩
    unfold L2.atI
    rw [r.length]
    have q' : L2.ixN ds.length i = some j := q
    rw [q']
    exact h1
theorem atI_map (ns : List Int) (k : Int) {n : Int} (h : IR.atI ns k = some n) : L2.atI (ns.map V.int) k = some (.int n) := by
  unfold IR.atI at h
  cases q : IR.ixN ns.length k with
  | none => rw [q] at h; cases h
  | some j =>
    rw [q] at h
    unfold L2.atI
    rw [List.length_map]
    have q' : L2.ixN ns.length k = some j := q
    rw [q']
    have h' : ns[j]? = some n := h
    show (ns.map V.int)[j]? = _
    rw [List.getElem?_map, h']
    rfl
theorem dD_sub_ : IxR X (rD2 X.K subW) := by
  intro value slice pins s σ H x y v u Q I rx ry q
  obtain ⟨F, B, st, dx, dy, P, mm, r1, r2, q, l⟩ := q
  unfold subW at q
  split at q
  · cases r2
    split at q
    · split at q
      · rename_i n e
        obtain ⟨a, rfl, hq⟩ := scr_at mm r1
        exact ix_list value slice pins s σ H _ _ v u Q I rx ry ⟨_, _, _, _, rfl, rfl, hq, atI_map _ _ e, l.at mm (.int n) q⟩
      · exact q.elim
    · split at q
      · rename_i ds e
        split at q
        · rename_i d ed
          obtain ⟨a, vs, rfl, h, t⟩ := items_at mm r1 e
          obtain ⟨w, ew, rw_⟩ := atI_rep t ed
          rcases h with h | h
          · exact ix_list value slice pins s σ H _ _ v u Q I rx ry ⟨a, vs, _, w, rfl, rfl, h, ew, l.at mm rw_ q⟩
          · exact ix_tup value slice pins s σ H _ _ v u Q I rx ry ⟨a, vs, _, w, rfl, rfl, h, ew, l.at mm rw_ q⟩
        · exact q.elim
      · exact q.elim
  · exact fun _ => q.elim
theorem sIx_eq (n d : Nat) (o : Option Int) : IR.sIx n d o = HT.sIx n d o := by cases o <;> rfl
theorem cut_rep {K : PySem.W.Frag} {F : Hp} {vs : List V} {ds : List D} (lo hi : Option Int) (r : Reps K F vs ds) : Reps K F (cutV vs lo hi) (cut ds lo hi) := by
  unfold cutV cut
  rw [r.length, sIx_eq, sIx_eq]
  exact Reps.take _ (Reps.drop _ r)
theorem cut_all {α : Type} {xs : List α} {lo hi : Option Int} (h : HT.sIx xs.length 0 lo = 0 ∧ HT.sIx xs.length xs.length hi = xs.length) : cut xs lo hi = xs := by
  unfold cut
  rw [sIx_eq, sIx_eq, h.1, h.2, List.drop_zero, Nat.sub_zero, List.take_length]
def rSlD (K : PySem.W.Frag) (b : Bool) : V → Option Int → Option Int → Hp → VK → Prop := fun x lo hi H Q => ∃ F B s dx P, Sim K F B s H ∧ Rep K F x dx ∧ slcW b dx lo hi s P ∧ Lift K F B P Q
theorem cutV_map (ns : List Int) (lo hi : Option Int) : cutV (ns.map V.int) lo hi = (cut ns lo hi).map V.int := by
  unfold cutV cut
  rw [List.length_map, sIx_eq, sIx_eq, List.map_take, List.map_drop]
theorem dD_slc {b : Bool} : SlR X (rSlD X.K b) := by
  intro pins s σ H x v vl vu lo hi sl Q I rx hs pl pu q
  obtain ⟨F, B, st, dx, P, mm, r1, q, l⟩ := q
  unfold slcW at q
  split at q
  · obtain ⟨a, vs, rfl, h, t⟩ := tup_at mm r1
    refine sl_tupA pins s σ H _ v vl vu lo hi sl Q I rx hs pl pu ⟨a, vs, rfl, h, fun e => ?_, fun _ => l.newTup mm (cut_rep lo hi t) q⟩
    rw [t.length] at e
    rw [cut_all e] at q
    exact l.at mm r1 q
  · obtain ⟨a, rfl, hq⟩ := scr_at mm r1
    refine sl_list pins s σ H _ v vl vu lo hi sl Q I rx hs pl pu ⟨_, _, rfl, hq, ?_⟩
    rw [cutV_map]
    exact l.newLst mm (Reps.ints _) q
  · split at q
    · rename_i e
      obtain ⟨a, vs, rfl, h, t⟩ := view_at mm r1 e
      exact sl_list pins s σ H _ v vl vu lo hi sl Q I rx hs pl pu ⟨a, vs, rfl, .inl (.inl h), l.newLst mm (cut_rep lo hi t) q⟩
    · exact q.elim

/-! ### built-ins -/
def rBiD (K : PySem.W.Frag) (w : List D → S → (D → S → Prop) → Prop) : List V → Hp → VK → Prop := fun xs H Q => ∃ F B s ds P, Sim K F B s H ∧ Reps K F xs ds ∧ w ds s P ∧ Lift K F B P Q
/-- where a built-in stands: a function or a class -/
def biV : Bi → Value
  | .len => .builtin "len"
  | .abs => .builtin "abs"
  | .int => .type "int"
  | .all => .builtin "all"
  | .any => .builtin "any"
  | .sum => .builtin "sum"
  | .tuple => .type "tuple"
  | .list => .type "list"
  | .max2 => .builtin "max"
  | .min2 => .builtin "min"
  | .sorted => .builtin "sorted"
theorem one_rep {K : PySem.W.Frag} {F : Hp} {vs : List V} {d : D} (r : Reps K F vs [d]) : ∃ v, vs = [v] ∧ Rep K F v d := by
  cases r with
  | cons r t => cases t; exact ⟨_, rfl, r⟩
theorem two_rep {K : PySem.W.Frag} {F : Hp} {vs : List V} {d e : D} (r : Reps K F vs [d, e]) : ∃ v u, vs = [v, u] ∧ Rep K F v d ∧ Rep K F u e := by
  cases r with
  | cons r t =>
    obtain ⟨u, rfl, q⟩ := one_rep t
    exact ⟨_, _, rfl, r, q⟩
theorem items_two {s : S} {d : D} {ds : List D} (e : items s d = some ds) : d = .tup ds ∨ view s d = some ds := by
  unfold items at e
  split at e
  · cases e; exact .inl rfl
  · exact .inr e
/-- sorted(xs), xs a list of pairs of ints, wherever they stand -/
def rSortedPQ (K : PySem.W.Frag) : List V → Hp → VK → Prop := fun vs H Q => ∃ (a : Addr) (xs : List V) (k : V → Int × Int), vs = [V.ref a] ∧ SqL K H a xs ∧ (∀ x ∈ xs, ∃ t, x = V.ref t ∧ SqT K H t [.int (k x).1, .int (k x).2]) ∧
  ∀ ys p, SrtO.Srtd (ltP k) ys → SrtO.Stb (ltP k) ys xs → H p = none → Q (.ref p) (L2.upd H p (.lst ys))
theorem cr_sortedPQ : CallR X (.builtin "sorted") (rSortedPQ X.K) := by
  intro pins s σ H vs us Q I r h
  obtain ⟨a, xs, k, rfl, hs, hx, q⟩ := h
  obtain ⟨its, rv, hl, hz⟩ := I.list hs
  obtain ⟨u, rfl, ru⟩ := vals1 r
  obtain rfl : u = Value.ref a := ru
  obtain ⟨e1, e2⟩ := refs_back rv fun x m => by
    obtain ⟨t, e, _⟩ := hx x m
    exact ⟨t, e⟩
  refine SrtO.sorted_pairsO (k := fun u => k (backV u)) hl.isList (by rw [← rv.length]; exact hz) (fun v hv => ?_) fun h' d out h1 h2 kp hd hn => ?_
  · obtain ⟨t, rfl⟩ := e2 v hv
    have hm : V.ref t ∈ xs := by rw [e1]; exact List.mem_map.mpr ⟨_, hv, rfl⟩
    obtain ⟨t', e, ht⟩ := hx _ hm
    cases e
    obtain ⟨its2, r2, ⟨o, ho, hc, n, hd⟩, _⟩ := I.tuple ht
    obtain ⟨u1, u2, rfl, ri, rj⟩ := vals2 r2
    obtain ⟨t1, rfl⟩ := ri
    obtain ⟨t2, rfl⟩ := rj
    exact ⟨t, o, t1, t2, n, rfl, ho, hc, hd⟩
  · have h3 : ∀ u ∈ out, ∃ a, u = Value.ref a := fun u hu => e2 u (h2.perm.mem_iff.mp hu)
    obtain ⟨n, hn⟩ := hn
    have hb : SrtO.Stb (ltP k) (out.map backV) xs := by
      rw [e1]
      exact SrtO.Stb.map (ltP_swo k) backV h2
    refine ⟨.ref d, L2.upd H d (.lst (out.map backV)), I.laid (t' := s.toks) kp hd ⟨?_, out, n, vals_back h3, hn⟩, rfl, q _ d (SrtO.srtd_map h1) hb (I.hok.fresh hd)⟩
    rw [hb.len]
    exact hz
theorem asPairs_map : ∀ {ds : List D} {ps : List (Int × Int)}, asPairs ds = some ps → ds = ps.map pairD := by
  intro ds
  induction ds with
  | nil => intro ps e; cases e; rfl
  | cons d ds ih =>
    intro ps e
    unfold asPairs at e
    split at e
    · rename_i h; cases h
    · rename_i h
      cases h
      obtain ⟨qs, e2, rfl⟩ := Option.map_eq_some_iff.mp e
      rw [List.map_cons, ← ih e2]
    · cases e
theorem Reps.mem {K : PySem.W.Frag} {F : Hp} : ∀ {vs : List V} {ds : List D}, Reps K F vs ds → ∀ v ∈ vs, ∃ d ∈ ds, Rep K F v d
  | _, _, .nil, v, h => nomatch h
  | _, _, .cons r t, v, h => by
    rcases List.mem_cons.mp h with rfl | h
    · exact ⟨_, List.mem_cons_self, r⟩
    · obtain ⟨d, hd, q⟩ := Reps.mem t v h
      exact ⟨d, List.mem_cons_of_mem _ hd, q⟩
theorem Reps.of_all {K : PySem.W.Frag} {F : Hp} {g : V → D} : ∀ {vs : List V}, (∀ v ∈ vs, Rep K F v (g v)) → Reps K F vs (vs.map g)
  | [], _ => .nil
  | v :: vs, h => .cons (h v List.mem_cons_self) (Reps.of_all fun u hu => h u (List.mem_cons_of_mem _ hu))
theorem Reps.map_eq {K : PySem.W.Frag} {F : Hp} {α : Type} {f : α → D} {g : V → α} : ∀ {vs : List V} {ps : List α}, Reps K F vs (ps.map f) → (∀ v ∈ vs, ∀ p, Rep K F v (f p) → g v = p) → ps = vs.map g
  | [], [], _, _ => rfl
  | [], _ :: _, r, _ => by cases r
  | _ :: _, [], r, _ => by cases r
  | v :: vs, p :: ps, .cons r t, h => by
    rw [List.map_cons, h v List.mem_cons_self p r, ← Reps.map_eq t fun u hu => h u (List.mem_cons_of_mem _ hu)]
theorem pair_at {K : PySem.W.Frag} {F B : Hp} {s : S} {H : Hp} {v : V} {p : Int × Int} (m : Sim K F B s H) (r : Rep K F v (pairD p)) : ∃ t, v = .ref t ∧ SqT K H t [.int p.1, .int p.2] := by
  obtain ⟨a, vs, rfl, h, t⟩ := tup_at m r
  cases t with
  | cons r1 t =>
    cases t with
    | cons r2 t =>
      cases t
      cases r1; cases r2
      exact ⟨a, rfl, h⟩
open Classical in
noncomputable def keyP (K : PySem.W.Frag) (H : Hp) (v : V) : Int × Int := if h : ∃ p : Int × Int, ∃ t, v = V.ref t ∧ SqT K H t [.int p.1, .int p.2] then h.choose else (0, 0)
theorem keyP_eq {pins : List (Addr × Obj)} {s : Shared} {σ : L2.St} {H : Hp} {v : V} {p : Int × Int} (I : Inv X pins σ H s) (h : ∃ t, v = V.ref t ∧ SqT X.K H t [.int p.1, .int p.2]) : keyP X.K H v = p := by
  have e : ∃ p : Int × Int, ∃ t, v = V.ref t ∧ SqT X.K H t [.int p.1, .int p.2] := ⟨p, h⟩
  unfold keyP
  rw [dif_pos e]
  obtain ⟨t1, e1, h1⟩ := e.choose_spec
  obtain ⟨t2, e2, h2⟩ := h
  rw [e1] at e2
  cases e2
  have z := I.tuple_inj h1 h2
  injection z with z1 z2
  injection z2 with z2 _
  injection z1 with z1
  injection z2 with z2
  exact Prod.ext z1 z2
theorem dD_bi {m : Bool} (hc : X.calm = true) : ∀ b : Bi, CallR X (biV b) (rBiD X.K (biW b m)) := by
  intro b pins s σ H xs us Q I r q
  obtain ⟨F, B, st, ds, P, mm, rr, q, l⟩ := q
  unfold biW at q
  split at q
  · obtain ⟨v, rfl, r1⟩ := one_rep rr
    obtain ⟨a, rfl, hq⟩ := scr_at mm r1
    refine call_len_seq pins s σ H _ us Q I r ⟨a, _, rfl, .inl hq, ?_⟩
    rw [List.length_map]
    exact l.at mm (.int _) q
  · obtain ⟨v, rfl, r1⟩ := one_rep rr
    split at q
    · rename_i e
      obtain ⟨a, vs, rfl, h, t⟩ := items_at mm r1 e
      refine call_len_seq pins s σ H _ us Q I r ⟨a, _, rfl, h, ?_⟩
      rw [t.length]
      exact l.at mm (.int _) q
    · exact q.elim
  · obtain ⟨v, rfl, r1⟩ := one_rep rr
    cases r1
    exact call_abs pins s σ H _ us Q I r ⟨_, rfl, l.at mm (.int _) q⟩
  · obtain ⟨v, rfl, r1⟩ := one_rep rr
    cases r1
    exact call_int1 pins s σ H _ us Q I r (.inl ⟨_, rfl, l.at mm (.int _) q⟩)
  · obtain ⟨v, rfl, r1⟩ := one_rep rr
    cases r1
    exact call_int1 pins s σ H _ us Q I r (.inr ⟨_, rfl, l.at mm (.int _) q⟩)
  · obtain ⟨v, rfl, r1⟩ := one_rep rr
    split at q
    · rename_i bs e
      obtain ⟨es, e1, e2⟩ := Option.bind_eq_some_iff.mp e
      obtain ⟨a, vs, rfl, h, t⟩ := view_at mm r1 e1
      have z := t.asBools e2
      subst z
      exact cr_all hc pins s σ H _ us Q I r ⟨a, bs, rfl, .inl (.inl h), l.at mm (.bl _) q⟩
    · exact q.elim
  · obtain ⟨v, rfl, r1⟩ := one_rep rr
    split at q
    · rename_i bs e
      obtain ⟨es, e1, e2⟩ := Option.bind_eq_some_iff.mp e
      obtain ⟨a, vs, rfl, h, t⟩ := view_at mm r1 e1
      have z := t.asBools e2
      subst z
      exact cr_any hc pins s σ H _ us Q I r ⟨a, bs, rfl, .inl (.inl h), l.at mm (.bl _) q⟩
    · exact q.elim
  · obtain ⟨v, rfl, r1⟩ := one_rep rr
    split at q
    · rename_i bs e
      obtain ⟨es, e1, e2⟩ := Option.bind_eq_some_iff.mp e
      obtain ⟨a, vs, rfl, h, t⟩ := view_at mm r1 e1
      have z := t.asInts e2
      subst z
      exact cr_sum hc pins s σ H _ us Q I r ⟨a, bs, rfl, .inl (.inl h), l.at mm (.int _) q⟩
    · exact q.elim
  · obtain ⟨v, rfl, r1⟩ := one_rep rr
    split at q
    · rename_i e
      obtain ⟨a, vs, rfl, h, t⟩ := items_at mm r1 e
      rcases items_two e with e2 | e2
      · subst e2
        obtain ⟨a', vs', e3, h', t'⟩ := tup_at mm r1
        cases e3
        exact call_tuple_of pins s σ H _ us Q I r ⟨a, _, rfl, .inr ⟨h', l.at mm r1 q⟩⟩
      · obtain ⟨a', vs', e3, h', t'⟩ := view_at mm r1 e2
        cases e3
        exact call_tuple_of pins s σ H _ us Q I r ⟨a, _, rfl, .inl ⟨.inl (.inl h'), l.newTup mm t' q⟩⟩
    · exact q.elim
  · obtain ⟨v, rfl, r1⟩ := one_rep rr
    split at q
    · rename_i e
      obtain ⟨a, vs, rfl, h, t⟩ := items_at mm r1 e
      exact call_list_of pins s σ H _ us Q I r ⟨a, _, rfl, h, l.newLst mm t q⟩
    · exact q.elim
  · obtain ⟨v, rfl, r1⟩ := one_rep rr
    split at q
    · rename_i ps e
      obtain ⟨es, e1, e2⟩ := Option.bind_eq_some_iff.mp e
      obtain ⟨a, vs, rfl, h, t⟩ := view_at mm r1 e1
      have z := asPairs_map e2
      subst z
      have hk : ∀ v ∈ vs, ∀ p, Rep X.K F v (pairD p) → keyP X.K H v = p := fun v _ p r => keyP_eq I (pair_at mm r)
      have hp := t.map_eq hk
      have all : ∀ v ∈ vs, Rep X.K F v (pairD (keyP X.K H v)) := fun v hv => by
        obtain ⟨d, hd, rd⟩ := t.mem v hv
        obtain ⟨p, _, rfl⟩ := List.mem_map.mp hd
        rw [hk v hv p rd]; exact rd
      refine cr_sortedPQ pins s σ H _ us Q I r ⟨a, vs, keyP X.K H, rfl, .inl (.inl h), fun x hx => pair_at mm (all x hx), fun ys p hs hb hn => ?_⟩
      have q' := q (ys.map (keyP X.K H)) (by rw [hp]; exact hb.perm.map _) ?_
      · rw [List.map_map] at q'
        exact l.newLst mm (Reps.of_all (g := pairD ∘ keyP X.K H) fun v hv => all v (hb.perm.mem_iff.mp hv)) q' p hn
      · rw [List.pairwise_map]
        refine hs.imp fun {x y} h => ?_
        have := SrtO.lexB_no.mp h
        show _ ∨ _
        omega
    · exact q.elim
  · obtain ⟨v, u, rfl, r1, r2⟩ := two_rep rr
    cases r1; cases r2
    exact call_max2 hc pins s σ H _ us Q I r ⟨_, _, rfl, l.at mm (.int _) q⟩
  · obtain ⟨v, u, rfl, r1, r2⟩ := two_rep rr
    cases r1; cases r2
    exact call_min2 hc pins s σ H _ us Q I r ⟨_, _, rfl, l.at mm (.int _) q⟩
  · exact q.elim

/-! ### isinstance -/
def tyN : Ty → String
  | .int => "int"
  | .bool => "bool"
  | .str => "str"
  | .list => "list"
  | .tuple => "tuple"
theorem kit_all : ∀ k t : Ty, kitB (tyN k) (tyN t) = some (isTy k t)
  | .int, .int => by decide +kernel
  | .int, .bool => by decide +kernel
  | .int, .str => by decide +kernel
  | .int, .list => by decide +kernel
  | .int, .tuple => by decide +kernel
  | .bool, .int => by decide +kernel
  | .bool, .bool => by decide +kernel
  | .bool, .str => by decide +kernel
  | .bool, .list => by decide +kernel
  | .bool, .tuple => by decide +kernel
  | .str, .int => by decide +kernel
  | .str, .bool => by decide +kernel
  | .str, .str => by decide +kernel
  | .str, .list => by decide +kernel
  | .str, .tuple => by decide +kernel
  | .list, .int => by decide +kernel
  | .list, .bool => by decide +kernel
  | .list, .str => by decide +kernel
  | .list, .list => by decide +kernel
  | .list, .tuple => by decide +kernel
  | .tuple, .int => by decide +kernel
  | .tuple, .bool => by decide +kernel
  | .tuple, .str => by decide +kernel
  | .tuple, .list => by decide +kernel
  | .tuple, .tuple => by decide +kernel
theorem kit_none : ∀ t : Ty, kitB "NoneType" (tyN t) = some false
  | .int => by decide +kernel
  | .bool => by decide +kernel
  | .str => by decide +kernel
  | .list => by decide +kernel
  | .tuple => by decide +kernel
theorem ty_rep {K : PySem.W.Frag} {F B : Hp} {s : S} {H : Hp} {v : V} {d : D} {k : Ty} (m : Sim K F B s H) (r : Rep K F v d) (e : kind s d = some k) : TyX K H v (.type (tyN k)) := by
  cases r with
  | non => cases e
  | bl b => cases e; exact .base (.bl _)
  | int b => cases e; exact .base (.int _)
  | str b => cases e; exact .base (.str _)
  | tup e1 _ => cases e; exact .base (.tup (m.fr _ _ e1))
  | ktup e1 _ =>
    cases e
    obtain ⟨o, its, n, e2, e3, _⟩ := e1
    exact .kTuple e2 e3
  | lv e1 _ => cases e; exact .base (.lst (m.fr _ _ e1))
  | scr _ => cases e
  | kscr _ => cases e
  | ref a =>
    simp only [kind] at e
    split at e
    · cases e
      rename_i ds q
      obtain ⟨_, _, vs, e2, _⟩ := m.mu _ _ q
      exact .base (.lst e2)
    · cases e
theorem isi_rep {K : PySem.W.Frag} {F B : Hp} {s : S} {H : Hp} {v : V} {d : D} {ts : List Ty} {P : D → S → Prop} (m : Sim K F B s H) (r : Rep K F v d) (q : isiW d ts s P) :
    ∃ (n : String) (g : Ty → Bool), TyX K H v (.type n) ∧ (∀ t, kitB n (tyN t) = some (g t)) ∧ P (.bl (ts.any g)) s := by
  unfold isiW at q
  split at q
  · cases r
    exact ⟨"NoneType", fun _ => false, .base .non, kit_none, by rw [List.any_eq_false.mpr (by simp)]; exact q⟩
  · split at q
    · rename_i k e
      exact ⟨tyN k, isTy k, ty_rep m r e, kit_all k, q⟩
    · exact q.elim
theorem kitAny_all {K : PySem.W.Frag} {n : String} {g : Ty → Bool} (h : ∀ t, kitB n (tyN t) = some (g t)) : ∀ ts : List Ty, PySem.W.kitAny K (.type n) (ts.map fun t => .type (tyN t)) = some (ts.any g)
  | [] => kitAny_nil
  | t :: ts => by
    rw [List.map_cons, List.any_cons]
    refine kitAny_cons (kit_ty (h t)) (fun e => ?_) (fun e => ?_)
    · rw [e, Bool.false_or]; exact kitAny_all h ts
    · rw [e, Bool.true_or]
/-! ### methods, stores -/
def rMtD (K : PySem.W.Frag) (w : W2) : V → List V → Hp → VK → Prop := fun x xs H Q => ∃ y, xs = [y] ∧ rD2 K w x y H Q
theorem ref_at {K : PySem.W.Frag} {F : Hp} {v : V} {a : Addr} (r : Rep K F v (.ref a)) : v = .ref a := by cases r; rfl
theorem dD_app : MtR X "list.append" (rMtD X.K appW) := by
  intro pins s σ H x xs v us Q I rx rxs q
  obtain ⟨y, rfl, F, B, st, dx, dy, P, mm, r1, r2, q, l⟩ := q
  unfold appW at q
  split at q
  · cases r1
    split at q
    · rename_i e
      obtain ⟨f, _, vs, e1, t⟩ := mm.mu _ _ e
      refine mt_append pins s σ H _ _ v us Q I rx rxs ⟨_, vs, y, rfl, rfl, e1, ?_, ?_⟩
      · rw [t.length]; exact q.1
      · exact l _ _ F _ _ (FLe.refl F) (mm.turn e (t.append (.cons r2 .nil))) .non q.2
    · exact q.elim
  · exact q.elim
theorem list_extend_tuple (l : Addr) (items : Array Value) (n : Nat) (b : Addr) (items2 : Array Value) (n2 : Nat) (dct : Option Addr) (sl : Array (Option Value)) (hs0 : ¬(!items.isEmpty && Builtin.List.listTooLong (items.size + items2.size)) = true) (hs1 : items.size ≤ sizeLine) (hs2 : items.size + items2.size ≤ sizeLine + 1) :
    Meets (Builtin.«list.extend» ⟨[.ref l, .ref b], []⟩) (fun _ R s => s.heap.get? l = some { cls := .type "list", dict := none, data := .seq items n, slots := #[] } ∧ s.heap.get? b = some { cls := .type "tuple", dict := dct, data := .seq items2 n2, slots := sl } ∧ R (.ok (.ret Value.none)) { s with heap := s.heap.update l (Obj.mapSeq fun x => x ++ items2), toks := s.toks }) :=
  .of_wp fun prog w A R s h => by
    obtain ⟨hp, g, d, tk, os⟩ := s; obtain ⟨hl, hb, h⟩ := h; have f1 := AutoSeq1.idx_int; have f2 := AutoSeq1.sub_tuple_tuple; have f3 := AutoSeq1.sub_list_list; have f4 := AutoSeq1.sub_tuple_list; have f5 := AutoSeq1.sub_list_tuple
    have hz' : (items ++ items2).size ≤ sizeLine + 1 := by rw [Array.size_append]; exact hs2
    wp_walk using (wpAny_updateSeq hl rfl (hz := hs1) (_hz' := hz')), AutoSeq1.wpAny_loadPart' hl, AutoSeq1.wpAny_loadPart' hb; exact ⟨_, rfl, h⟩
/-- xs.extend(a tuple) -/
def rExtendT (K : PySem.W.Frag) : V → List V → Hp → VK → Prop := fun x vs H Q => ∃ l b xs zs, x = .ref l ∧ vs = [.ref b] ∧ H l = some (.lst xs) ∧ SqT K H b zs ∧ xs.length + zs.length ≤ sizeLine ∧ Q .non (L2.upd H l (.lst (xs ++ zs)))
theorem mt_extendT : MtR X "list.extend" (rExtendT X.K) := by
  intro pins s σ H x vs v us Q I rx rv h
  obtain ⟨l, b, xs, zs, rfl, rfl, hH, hB, hz, q⟩ := h
  cases rx
  obtain ⟨u, rfl, ru⟩ := rv.one
  cases ru
  obtain ⟨z, its, n, r, hl, e⟩ := I.lstM hH
  obtain ⟨its2, r2, ⟨⟨oc, od, dt, sl⟩, ho, hc, n2, hd⟩, hl2⟩ := I.tuple hB
  replace hc : oc = .type "tuple" := hc
  replace hd : dt = .seq its2.toArray n2 := hd
  subst hc hd
  have e3 := r.length
  have e4 := r2.length
  have hsz : its.toArray.size + its2.toArray.size ≤ sizeLine := by rw [List.size_toArray, List.size_toArray]; omega
  have hlong : ¬ (!its.toArray.isEmpty && Builtin.List.listTooLong (its.toArray.size + its2.toArray.size)) = true := by
    rw [notLongL hsz, Bool.and_false]
    exact Bool.false_ne_true
  refine call_meets F.slot_list_extend ⟨_, e, rfl⟩ F.entry_list_extend (F.args_list_extend_2 _ _)
    (list_extend_tuple l its.toArray n b its2.toArray n2 od sl hlong (by rw [List.size_toArray]; omega) (by omega)) ⟨e, ho, ?_⟩
  refine ⟨.non, _, I.lset (its' := its ++ its2) hH e (by simp) (r.append r2) ?_, rfl, q⟩
  rw [List.length_append]
  omega
theorem dD_ext : MtR X "list.extend" (rMtD X.K extW) := by
  intro pins s σ H x xs v us Q I rx rxs q
  obtain ⟨y, rfl, F, B, st, dx, dy, P, mm, r1, r2, q, l⟩ := q
  unfold extW at q
  split at q
  · cases r1
    split at q
    · rename_i e e0
      obtain ⟨f, _, vs, e1, t⟩ := mm.mu _ _ e
      rcases items_two e0 with e0 | e0
      · subst e0
        obtain ⟨b, ws, rfl, e2, t2⟩ := tup_at mm r2
        refine mt_extendT pins s σ H _ _ v us Q I rx rxs ⟨_, b, vs, ws, rfl, rfl, e1, e2, ?_, ?_⟩
        · rw [t.length, t2.length]; exact q.1
        · exact l _ _ F _ _ (FLe.refl F) (mm.turn e (t.append t2)) .non q.2
      · obtain ⟨b, ws, rfl, e2, t2⟩ := view_at mm r2 e0
        refine mt_extend pins s σ H _ _ v us Q I rx rxs ⟨_, b, vs, ws, rfl, rfl, e1, e2, ?_, ?_⟩
        · rw [t.length, t2.length]; exact q.1
        · exact l _ _ F _ _ (FLe.refl F) (mm.turn e (t.append t2)) .non q.2
    · exact q.elim
  · exact q.elim
def rStD (K : PySem.W.Frag) : V → V → V → Hp → (Hp → Prop) → Prop := fun o i v H Q => ∃ F B s dO dI dV P, Sim K F B s H ∧ Rep K F o dO ∧ Rep K F i dI ∧ Rep K F v dV ∧ stoW dO dI dV s P ∧ ∀ s' H', Sim K F B s' H' → P s' → Q H'
theorem dD_sto : PSet X (rStD X.K) := by
  intro pins s σ H o i v ov iv u Q I ro ri rv q
  obtain ⟨F, B, st, dO, dI, dV, P, mm, r1, r2, r3, q, l⟩ := q
  unfold stoW at q
  split at q
  · cases r1; cases r2
    split at q
    · rename_i e
      split at q
      · rename_i j ej
        obtain ⟨f, _, vs, e1, t⟩ := mm.mu _ _ e
        refine set_list pins s σ H _ _ _ ov iv u Q I ro ri rv ⟨_, vs, _, j, rfl, rfl, e1, ?_, l _ _ (mm.turn e (t.set r3 j)) q⟩
        rw [t.length]; exact ej
      · exact q.elim
    · exact q.elim
  · exact q.elim
theorem iop_mulW : OpR X (inplaceOp .Mult) (rI CMulW fun i j => .int (i * j)) := opI fun _ _ _ _ _ _ _ hc q => imul_int q hc.ok
theorem pip_of {op : Operator} {r : R2} (ho : OpR X (inplaceOp op) r) : PIp X op r := ho
def aopOf : Bop → Operator
  | .add => .Add
  | .sub => .Sub
  | .mul => .Mult
  | .fdiv => .FloorDiv
  | .mod => .Mod
  | .pow => .Pow
theorem dD_aug (o : Bop) : PIp X (aopOf o) (rD2 X.K (augW o)) := by
  intro pins s σ H x y v u Q I rx ry q
  obtain ⟨F, B, st, dx, dy, P, mm, r1, r2, q, l⟩ := q
  unfold augW at q
  split at q
  · cases r1; cases r2
    split at q
    · exact iop_add pins s σ H _ _ v u Q I rx ry ⟨_, _, rfl, rfl, l.at mm (.int _) q⟩
    · exact iop_sub pins s σ H _ _ v u Q I rx ry ⟨_, _, rfl, rfl, l.at mm (.int _) q⟩
    · rcases q.1.ok with c | c
      · exact iop_mul pins s σ H _ _ v u Q I rx ry ⟨_, _, rfl, rfl, c, l.at mm (.int _) q.2⟩
      · exact iop_mulW pins s σ H _ _ v u Q I rx ry ⟨_, _, rfl, rfl, c, l.at mm (.int _) q.2⟩
    · exact iop_fdiv pins s σ H _ _ v u Q I rx ry ⟨_, _, rfl, rfl, q.1, l.at mm (.int _) q.2⟩
    · exact q.elim
  · exact q.elim
end
end IR

set_option Elab.async false
set_option linter.all false
set_option maxRecDepth 100000
/-! So3: expressions, targets, what is walked: each construct over data is a rule of the hand layer. -/
namespace IR
open PySem PySem.Spec PyProof.Rows L2
variable [A : Anchor]

structure EnvR (K : PySem.W.Frag) (F : Hp) (σ : L2.St) (r : Rho) : Prop where
  len : r.length = σ.length
  at_ : ∀ (i : Nat) (d : D), r[i]? = some (some d) → ∃ v, σ[i]? = some (some v) ∧ Rep K F v d
section
variable {K : PySem.W.Frag} {F F' : Hp} {σ : L2.St} {r : Rho}
theorem EnvR.mono (e : EnvR K F σ r) (l : FLe F F') : EnvR K F' σ r := ⟨e.len, fun i d h => let ⟨v, h1, h2⟩ := e.at_ i d h; ⟨v, h1, h2.mono l⟩⟩
theorem EnvR.set (e : EnvR K F σ r) {v : V} {d : D} (q : Rep K F v d) (i : Nat) : EnvR K F (σ.set i (some v)) (r.set i (some d)) := by
  refine ⟨by rw [List.length_set, List.length_set]; exact e.len, fun j d' h => ?_⟩
  by_cases hj : i = j
  · subst hj
    by_cases hl : i < r.length
    · rw [List.getElem?_set_self hl] at h
      cases h
      exact ⟨v, List.getElem?_set_self (by rw [← e.len]; exact hl), q⟩
    · rw [List.getElem?_eq_none (by rw [List.length_set]; omega)] at h
      cases h
  · rw [List.getElem?_set_ne hj] at h ⊢
    exact e.at_ j d' h
theorem EnvR.drop1 (e : EnvR K F σ r) (i : Nat) : EnvR K F (σ.set i none) (r.set i none) := by
  refine ⟨by rw [List.length_set, List.length_set]; exact e.len, fun j d' h => ?_⟩
  by_cases hj : i = j
  · subst hj
    by_cases hl : i < r.length
    · rw [List.getElem?_set_self hl] at h
      cases h
    · rw [List.getElem?_eq_none (by rw [List.length_set]; omega)] at h
      cases h
  · rw [List.getElem?_set_ne hj] at h ⊢
    exact e.at_ j d' h
theorem EnvR.lose1 (e : EnvR K F σ r) (i : Nat) : EnvR K F σ (r.set i none) := by
  refine ⟨by rw [List.length_set]; exact e.len, fun j d' h => ?_⟩
  by_cases hj : i = j
  · subst hj
    by_cases hl : i < r.length
    · rw [List.getElem?_set_self hl] at h
      cases h
    · rw [List.getElem?_eq_none (by rw [List.length_set]; omega)] at h
      cases h
  · rw [List.getElem?_set_ne hj] at h
    exact e.at_ j d' h
theorem EnvR.wipe (e : EnvR K F σ r) : ∀ vs : List Nat, EnvR K F (L2.wipe σ vs) (IR.wipe r vs)
  | [] => e
  | v :: vs => (EnvR.wipe e vs).drop1 v
theorem EnvR.lose (e : EnvR K F σ r) : ∀ vs : List Nat, EnvR K F σ (IR.wipe r vs)
  | [] => e
  | v :: vs => (EnvR.lose e vs).lose1 v
end
/-- σ' differs from σ at these slots alone -/
def Agree (is : List Nat) (σ σ' : L2.St) : Prop := σ'.length = σ.length ∧ ∀ i, i ∉ is → σ'[i]? = σ[i]?
theorem Agree.refl (σ : L2.St) : Agree [] σ σ := ⟨rfl, fun _ _ => rfl⟩
theorem wipe_at {σ : L2.St} : ∀ {vs : List Nat} {i : Nat}, i ∈ vs → i < σ.length → (L2.wipe σ vs)[i]? = some none
  | v :: vs, i, h, hl => by
    unfold L2.wipe
    by_cases e : v = i
    · subst e
      exact List.getElem?_set_self (by rw [wipe_length]; exact hl)
    · rw [List.getElem?_set_ne e]
      exact wipe_at ((List.mem_cons.mp h).resolve_left (fun z => e z.symm)) hl
theorem Agree.wipe {is vs : List Nat} {σ σ' : L2.St} (a : Agree is σ σ') (h : ∀ i ∈ is, i ∈ vs) : L2.wipe σ' vs = L2.wipe σ vs := by
  refine List.ext_getElem? fun i => ?_
  by_cases hi : i ∈ vs
  · by_cases hl : i < σ.length
    · rw [wipe_at hi hl, wipe_at hi (by rw [a.1]; exact hl)]
    · rw [List.getElem?_eq_none (by rw [wipe_length, a.1]; omega), List.getElem?_eq_none (by rw [wipe_length]; omega)]
  · rw [wipe_out hi, wipe_out hi]
    exact a.2 i fun z => hi (h i z)

abbrev WE := Rho → S → (D → S → Prop) → Prop
abbrev WB := Rho → S → (Bool → S → Prop) → Prop
abbrev WL := Rho → S → (List D → S → Prop) → Prop
abbrev WO := Rho → S → (Option Int → S → Prop) → Prop
def LiftB (K : PySem.W.Frag) (F B : Hp) (P : Bool → S → Prop) (Q : Bool → Hp → Prop) : Prop := ∀ b s' F' H', FLe F F' → Sim K F' B s' H' → P b s' → Q b H'
def LiftL (K : PySem.W.Frag) (F B : Hp) (P : List D → S → Prop) (Q : List V → Hp → Prop) : Prop := ∀ ds s' F' H' vs, FLe F F' → Sim K F' B s' H' → Reps K F' vs ds → P ds s' → Q vs H'
def LiftO (K : PySem.W.Frag) (F B : Hp) (P : Option Int → S → Prop) (Q : Option Int → Hp → Prop) : Prop := ∀ b s' F' H', FLe F F' → Sim K F' B s' H' → P b s' → Q b H'
def tD (K : PySem.W.Frag) (w : WE) : TE := fun σ H Q => ∃ F B s r P, Sim K F B s H ∧ EnvR K F σ r ∧ w r s P ∧ Lift K F B P Q
def tB (K : PySem.W.Frag) (w : WB) : TT := fun σ H Q => ∃ F B s r P, Sim K F B s H ∧ EnvR K F σ r ∧ w r s P ∧ LiftB K F B P Q
def tL (K : PySem.W.Frag) (n : Nat) (w : WL) : TA := fun σ H Q => ∃ F B s r P, Sim K F B s H ∧ EnvR K F σ r ∧ w r s P ∧ LiftL K F B P fun vs H' => vs.length = n → Q vs H'
def tO (K : PySem.W.Frag) (w : WO) : TO := fun σ H Q => ∃ F B s r P, Sim K F B s H ∧ EnvR K F σ r ∧ w r s P ∧ LiftO K F B P Q

section
variable {X : Cx} {e : Expr} {a b c : Expr} {pos : Pos} {wa wb wc : WE}
theorem PE.of {t t' : TE} (h : PE X e t) (i : ∀ σ H Q, t' σ H Q → t σ H Q) : PE X e t' := ⟨fun pins s σ H Q I q => h.run pins s σ H Q I (i σ H Q q)⟩
theorem PT.of {t t' : TT} (h : PT X e t) (i : ∀ σ H Q, t' σ H Q → t σ H Q) : PT X e t' := ⟨fun pins s σ H Q I q => h.run pins s σ H Q I (i σ H Q q)⟩
theorem PW.of {t t' : TT} (h : PW X e t) (i : ∀ σ H Q, t' σ H Q → t σ H Q) : PW X e t' := ⟨fun w pins s σ H Q I q => h.run w pins s σ H Q I (i σ H Q q)⟩
theorem PA.of {es : List Expr} {t t' : TA} (h : PA X es t) (i : ∀ σ H Q, t' σ H Q → t σ H Q) : PA X es t' := ⟨fun p pins s σ H Q I q => h.run p pins s σ H Q I (i σ H Q q)⟩
theorem PK.of {es : List Keyword} {t t' : TA} (h : PK X es t) (i : ∀ σ H Q, t' σ H Q → t σ H Q) : PK X es t' := ⟨fun p pins s σ H Q I q => h.run p pins s σ H Q I (i σ H Q q)⟩
theorem PS.of {st : Stmt} {t t' : TS} (h : PS X st t) (i : ∀ D σ H, t' D σ H → t D σ H) : PS X st t' := ⟨fun pins s σ H D I q => h.run pins s σ H D I (i D σ H q)⟩
theorem PSs.of {st : List Stmt} {t t' : TS} (h : PSs X st t) (i : ∀ D σ H, t' D σ H → t D σ H) : PSs X st t' := ⟨fun pins s σ H D I q => h.run pins s σ H D I (i D σ H q)⟩

/-! ### names, constants -/
theorem de_var {i : Nat} {x : Str} (hN : X.N[i]? = some x) (hv : Vis X.env.scope x) (hd : (x == ("__debug__" : Str)) = false) (hcd : (x == ("__classdict__" : Str)) = false) : PE X (.Name x pos) (tD X.K fun r s Q => getV r i s Q) := by
  refine PE.of (pe_var hN hv hd hcd) fun σ H Q q => ?_
  obtain ⟨F, B, s, r, P, m, er, h, l⟩ := q
  unfold getV at h
  split at h
  · rename_i d e
    obtain ⟨v, h1, h2⟩ := er.at_ i d e
    exact ⟨v, h1, l.at m h2 h⟩
  · exact h.elim
theorem de_const {e : Expr} {v : V} {d : D} (h : PE X e (tC v)) (hr : ∀ F, Rep X.K F v d) : PE X e (tD X.K fun _ s Q => Q d s) := by
  refine PE.of h fun σ H Q q => ?_
  obtain ⟨F, B, s, r, P, m, er, h, l⟩ := q
  exact l.at m (hr F) h
/-! ### operators -/
theorem tD_two {K : PySem.W.Frag} {w : W2} {σ : L2.St} {H : Hp} {Q : VK} (q : tD K (fun r s P => wa r s fun x s1 => wb r s1 fun y s2 => w x y s2 P) σ H Q) : tOp (rD2 K w) (tD K wa) (tD K wb) σ H Q := by
  obtain ⟨F, B, s, r, P, m, er, h, l⟩ := q
  exact ⟨F, B, s, r, _, m, er, h, fun d s1 F1 H1 v l1 m1 r1 h1 => ⟨F1, B, s1, r, _, m1, er.mono l1, h1, fun d2 s2 F2 H2 v2 l2 m2 r2 h2 => ⟨F2, B, s2, d, d2, P, m2, r1.mono l2, r2, h2, l.mono (l1.trans l2)⟩⟩⟩
theorem de_bin {m : Bool} (o : Bop) (ha : PE X a (tD X.K wa)) (hb : PE X b (tD X.K wb)) : PE X (.BinOp a (opOf o) b pos) (tD X.K fun r s P => wa r s fun x s1 => wb r s1 fun y s2 => binW m o x y s2 P) :=
  PE.of (pe_op (dD_bin o) ha hb) fun _ _ _ q => tD_two q
theorem de_neg (ha : PE X a (tD X.K wa)) : PE X (.UnaryOp .USub a pos) (tD X.K fun r s P => wa r s fun x s1 => match x with | .int i => P (.int (-i)) s1 | _ => False) := by
  refine PE.of (pe_un un_neg ha) fun σ H Q q => ?_
  obtain ⟨F, B, s, r, P, m, er, h, l⟩ := q
  refine ⟨F, B, s, r, _, m, er, h, fun d s1 F1 H1 v l1 m1 r1 h1 => ?_⟩
  split at h1
  · cases r1
    exact ⟨_, rfl, (l.mono l1).at m1 (.int _) h1⟩
  · exact h1.elim
def notSet : Expr → Bool
  | .Set .. => false
  | _ => true
theorem behind_ok (op : CmpOp) {b : Expr} (h : notSet b = true) : behindInMarks op b = false := by
  cases b <;> first | rfl | (simp [notSet] at h; done)
theorem de_cmp (hu : X.A.units + 65 < cLine) (o : Cop) (ha : PE X a (tD X.K wa)) (hb : PE X b (tD X.K wb)) (hs : notSet b = true) : PE X (.Compare a [copOf o] [b] pos) (tD X.K fun r s P => wa r s fun x s1 => wb r s1 fun y s2 => cmpW o x y s2 P) :=
  PE.of (pe_cmpR (dD_cmp hu o) ha hb (behind_ok _ hs)) fun _ _ _ q => tD_two q
theorem bool_lift {K : PySem.W.Frag} {F B : Hp} {P : Bool → S → Prop} {Q : Bool → Hp → Prop} (l : LiftB K F B P Q) : Lift K F B (fun d s => boolW d s P) (fun z H' => ∃ k, z = .bl k ∧ Q k H') := fun d s' F' H' v le m r h => by
  have h : boolW d s' P := h
  unfold boolW at h
  split at h
  · cases r
    exact ⟨_, rfl, l _ _ F' H' le m h⟩
  · exact h.elim
theorem tB_two {K : PySem.W.Frag} {w : W2} {σ : L2.St} {H : Hp} {Q : Bool → Hp → Prop} (q : tB K (fun r s P => wa r s fun x s1 => wb r s1 fun y s2 => w x y s2 fun d s3 => boolW d s3 P) σ H Q) : tTest (tOp (rD2 K w) (tD K wa) (tD K wb)) σ H Q := by
  obtain ⟨F, B, s, r, P, m, er, h, l⟩ := q
  exact tD_two ⟨F, B, s, r, _, m, er, h, bool_lift l⟩
theorem db_cmp (hu : X.A.units + 65 < cLine) (o : Cop) (ha : PE X a (tD X.K wa)) (hb : PE X b (tD X.K wb)) (hs : notSet b = true) : PT X (.Compare a [copOf o] [b] pos) (tB X.K fun r s P => wa r s fun x s1 => wb r s1 fun y s2 => cmpW o x y s2 fun d s3 => boolW d s3 P) :=
  PT.of (pt_cmpR (dD_cmp hu o) ha hb (behind_ok _ hs)) fun _ _ _ q => tB_two q
theorem last_ok (op op' : CmpOp) {b c : Expr} (h : notSet c = true) : lastMarks [op, op'] [b, c] = false := by
  show lastMarks [op'] [c] = false
  exact behind_ok op' h
theorem tD_chain {K : PySem.W.Frag} {w w' : W2} {σ : L2.St} {H : Hp} {Q : VK} (q : tD K (fun r s P => wa r s fun x s1 => wb r s1 fun y s2 => w x y s2 fun z s3 => match z with
    | .bl k => (k = true → wc r s3 fun u s4 => w' y u s4 P) ∧ (k = false → P (.bl false) s3)
    | _ => False) σ H Q) : tChain (rD2 K w) (rD2 K w') (tD K wa) (tD K wb) (tD K wc) σ H Q := by
  obtain ⟨F, B, s, r, P, m, er, h, l⟩ := q
  refine ⟨F, B, s, r, _, m, er, h, fun d s1 F1 H1 v l1 m1 r1 h1 => ⟨F1, B, s1, r, _, m1, er.mono l1, h1, fun d2 s2 F2 H2 v2 l2 m2 r2 h2 => ⟨F2, B, s2, d, d2, _, m2, r1.mono l2, r2, h2, fun z s3 F3 H3 v3 l3 m3 r3 h3 => ?_⟩⟩⟩
  split at h3
  · cases r3
    rename_i k
    refine ⟨k, rfl, ?_⟩
    cases k with
    | true => exact ⟨F3, B, s3, r, _, m3, er.mono (l1.trans (l2.trans l3)), h3.1 rfl, fun d4 s4 F4 H4 v4 l4 m4 r4 h4 => ⟨F4, B, s4, d2, d4, P, m4, r2.mono (l3.trans l4), r4, h4, l.mono (l1.trans (l2.trans (l3.trans l4)))⟩⟩
    | false => exact (l.mono (l1.trans (l2.trans l3))).at m3 (.bl _) (h3.2 rfl)
  · exact h3.elim
theorem de_chain (hu : X.A.units + 65 < cLine) (o p : Cop) (ha : PE X a (tD X.K wa)) (hb : PE X b (tD X.K wb)) (hc : PE X c (tD X.K wc)) (hs : notSet c = true) : PE X (.Compare a [copOf o, copOf p] [b, c] pos) (tD X.K fun r s P => wa r s fun x s1 => wb r s1 fun y s2 => cmpW o x y s2 fun z s3 => match z with
    | .bl k => (k = true → wc r s3 fun u s4 => cmpW p y u s4 P) ∧ (k = false → P (.bl false) s3)
    | _ => False) := PE.of (pe_chain (dD_cmp hu o) (dD_cmp hu p) ha hb hc (last_ok _ _ hs)) fun _ _ _ q => tD_chain q
theorem db_chain (hu : X.A.units + 65 < cLine) (o p : Cop) (ha : PE X a (tD X.K wa)) (hb : PE X b (tD X.K wb)) (hc : PE X c (tD X.K wc)) (hs : notSet c = true) : PT X (.Compare a [copOf o, copOf p] [b, c] pos) (tB X.K fun r s P => wa r s fun x s1 => wb r s1 fun y s2 => cmpW o x y s2 fun z s3 => match z with
    | .bl k => (k = true → wc r s3 fun u s4 => cmpW p y u s4 fun d s5 => boolW d s5 P) ∧ (k = false → P false s3)
    | _ => False) := by
  refine PT.of (pt_chain (dD_cmp hu o) (dD_cmp hu p) ha hb hc (last_ok _ _ hs)) fun σ H Q q => ?_
  obtain ⟨F, B, s, r, P, m, er, h, l⟩ := q
  exact tD_chain ⟨F, B, s, r, (fun d s => boolW d s P), m, er, h, bool_lift l⟩
def isNon : D → Bool
  | .non => true
  | _ => false
theorem isNon_not {d : D} (h : d = .non → False) : isNon d = false := by cases d <;> first | rfl | exact (h rfl).elim
theorem tD_isN {K : PySem.W.Frag} {F : Hp} {v : V} {d : D} (r : Rep K F v d) : decide (v = .non) = isNon d := by
  cases r <;> rfl
theorem de_isN {k : Nat} {p' : Pos} (ha : PE X a (tD X.K wa)) : PE X (.Compare a [.Is] [.Constant .none k p'] pos) (tD X.K fun r s P => wa r s fun x s1 => match x with | .non => P (.bl true) s1 | _ => P (.bl false) s1) := by
  refine PE.of (pe_cmp (pc_isN ha)) fun σ H Q q => ?_
  obtain ⟨F, B, s, r, P, m, er, h, l⟩ := q
  refine ⟨F, B, s, r, _, m, er, h, fun d s1 F1 H1 v l1 m1 r1 h1 => ?_⟩
  dsimp only
  rw [tD_isN r1]
  split at h1
  · exact (l.mono l1).at m1 (.bl _) h1
  · rename_i z
    rw [isNon_not z]
    exact (l.mono l1).at m1 (.bl _) h1
theorem de_notN {k : Nat} {p' : Pos} (ha : PE X a (tD X.K wa)) : PE X (.Compare a [.IsNot] [.Constant .none k p'] pos) (tD X.K fun r s P => wa r s fun x s1 => match x with | .non => P (.bl false) s1 | _ => P (.bl true) s1) := by
  refine PE.of (pe_cmp (pc_notN ha)) fun σ H Q q => ?_
  obtain ⟨F, B, s, r, P, m, er, h, l⟩ := q
  refine ⟨F, B, s, r, _, m, er, h, fun d s1 F1 H1 v l1 m1 r1 h1 => ?_⟩
  dsimp only
  rw [tD_isN r1]
  split at h1
  · exact (l.mono l1).at m1 (.bl _) h1
  · rename_i z
    rw [isNon_not z]
    exact (l.mono l1).at m1 (.bl _) h1
theorem db_isN {k : Nat} {p' : Pos} (ha : PE X a (tD X.K wa)) : PT X (.Compare a [.Is] [.Constant .none k p'] pos) (tB X.K fun r s P => wa r s fun x s1 => match x with | .non => P true s1 | _ => P false s1) := by
  refine PT.of (pt_cmp (pc_isN ha)) fun σ H Q q => ?_
  obtain ⟨F, B, s, r, P, m, er, h, l⟩ := q
  refine ⟨F, B, s, r, _, m, er, h, fun d s1 F1 H1 v l1 m1 r1 h1 => ?_⟩
  refine ⟨_, rfl, ?_⟩
  rw [tD_isN r1]
  split at h1
  · exact l _ _ F1 H1 l1 m1 h1
  · rename_i z
    rw [isNon_not z]
    exact l _ _ F1 H1 l1 m1 h1
theorem db_notN {k : Nat} {p' : Pos} (ha : PE X a (tD X.K wa)) : PT X (.Compare a [.IsNot] [.Constant .none k p'] pos) (tB X.K fun r s P => wa r s fun x s1 => match x with | .non => P false s1 | _ => P true s1) := by
  refine PT.of (pt_cmp (pc_notN ha)) fun σ H Q q => ?_
  obtain ⟨F, B, s, r, P, m, er, h, l⟩ := q
  refine ⟨F, B, s, r, _, m, er, h, fun d s1 F1 H1 v l1 m1 r1 h1 => ?_⟩
  refine ⟨_, rfl, ?_⟩
  rw [tD_isN r1]
  split at h1
  · exact l _ _ F1 H1 l1 m1 h1
  · rename_i z
    rw [isNon_not z]
    exact l _ _ F1 H1 l1 m1 h1

/-! ### and, or, not, if -/
variable {ba bb : WB} {rest : List Expr}
theorem LiftB.mono {K : PySem.W.Frag} {F F' B : Hp} {P : Bool → S → Prop} {Q : Bool → Hp → Prop} (h : LiftB K F B P Q) (le : FLe F F') : LiftB K F' B P Q := fun b s' G H' l => h b s' G H' (le.trans l)
theorem de_and (ha : PE X a (tD X.K wa)) (hb : PE X (.BoolOp .And (b :: rest) pos) (tD X.K wb)) : PE X (.BoolOp .And (a :: b :: rest) pos) (tD X.K fun r s P => wa r s fun x s1 => truW x s1 fun k s2 => (k = true → wb r s2 P) ∧ (k = false → P x s2)) := by
  refine PE.of (pe_andT ha hb) fun σ H Q q => ?_
  obtain ⟨F, B, s, r, P, m, er, h, l⟩ := q
  refine ⟨F, B, s, r, _, m, er, h, fun d s1 F1 H1 v l1 m1 r1 h1 => ?_⟩
  obtain ⟨k, t, h1⟩ := tru_rep m1 r1 h1
  refine ⟨k, t, ?_⟩
  cases k with
  | true => exact ⟨F1, B, s1, r, P, m1, er.mono l1, h1.1 rfl, l.mono l1⟩
  | false => exact (l.mono l1).at m1 r1 (h1.2 rfl)
theorem de_or (ha : PE X a (tD X.K wa)) (hb : PE X (.BoolOp .Or (b :: rest) pos) (tD X.K wb)) : PE X (.BoolOp .Or (a :: b :: rest) pos) (tD X.K fun r s P => wa r s fun x s1 => truW x s1 fun k s2 => (k = true → P x s2) ∧ (k = false → wb r s2 P)) := by
  refine PE.of (pe_orT ha hb) fun σ H Q q => ?_
  obtain ⟨F, B, s, r, P, m, er, h, l⟩ := q
  refine ⟨F, B, s, r, _, m, er, h, fun d s1 F1 H1 v l1 m1 r1 h1 => ?_⟩
  obtain ⟨k, t, h1⟩ := tru_rep m1 r1 h1
  refine ⟨k, t, ?_⟩
  cases k with
  | true => exact (l.mono l1).at m1 r1 (h1.1 rfl)
  | false => exact ⟨F1, B, s1, r, P, m1, er.mono l1, h1.2 rfl, l.mono l1⟩
theorem de_not (ha : PE X a (tD X.K wa)) : PE X (.UnaryOp .Not a pos) (tD X.K fun r s P => wa r s fun x s1 => truW x s1 fun k s2 => P (.bl (!k)) s2) := by
  refine PE.of (pe_notT ha) fun σ H Q q => ?_
  obtain ⟨F, B, s, r, P, m, er, h, l⟩ := q
  refine ⟨F, B, s, r, _, m, er, h, fun d s1 F1 H1 v l1 m1 r1 h1 => ?_⟩
  obtain ⟨k, t, h1⟩ := tru_rep m1 r1 h1
  exact ⟨k, t, (l.mono l1).at m1 (.bl _) h1⟩
theorem db_and (ha : PT X a (tB X.K ba)) (hb : PW X (.BoolOp .And (b :: rest) pos) (tB X.K bb)) : PW X (.BoolOp .And (a :: b :: rest) pos) (tB X.K fun r s P => ba r s fun k s1 => (k = true → bb r s1 P) ∧ (k = false → P false s1)) := by
  refine PW.of (pw_and ha hb) fun σ H Q q => ?_
  obtain ⟨F, B, s, r, P, m, er, h, l⟩ := q
  refine ⟨F, B, s, r, _, m, er, h, fun k s1 F1 H1 l1 m1 h1 => ?_⟩
  cases k with
  | true => exact ⟨F1, B, s1, r, P, m1, er.mono l1, h1.1 rfl, l.mono l1⟩
  | false => exact l _ _ F1 H1 l1 m1 (h1.2 rfl)
theorem db_or (ha : PT X a (tB X.K ba)) (hb : PW X (.BoolOp .Or (b :: rest) pos) (tB X.K bb)) : PW X (.BoolOp .Or (a :: b :: rest) pos) (tB X.K fun r s P => ba r s fun k s1 => (k = true → P true s1) ∧ (k = false → bb r s1 P)) := by
  refine PW.of (pw_or ha hb) fun σ H Q q => ?_
  obtain ⟨F, B, s, r, P, m, er, h, l⟩ := q
  refine ⟨F, B, s, r, _, m, er, h, fun k s1 F1 H1 l1 m1 h1 => ?_⟩
  cases k with
  | true => exact l _ _ F1 H1 l1 m1 (h1.1 rfl)
  | false => exact ⟨F1, B, s1, r, P, m1, er.mono l1, h1.2 rfl, l.mono l1⟩
theorem db_not (ha : PT X a (tB X.K ba)) : PT X (.UnaryOp .Not a pos) (tB X.K fun r s P => ba r s fun k s1 => P (!k) s1) := by
  refine PT.of (pt_not ha) fun σ H Q q => ?_
  obtain ⟨F, B, s, r, P, m, er, h, l⟩ := q
  exact ⟨F, B, s, r, _, m, er, h, fun k s1 F1 H1 l1 m1 h1 => l _ _ F1 H1 l1 m1 h1⟩
def plainTest : Expr → Bool
  | .UnaryOp .Not .. => false
  | .BoolOp .. => false
  | .IfExp .. => false
  | .Compare .. => false
  | _ => true
theorem plain_ok {e : Expr} {env : Env} (h : plainTest e = true) : ∀ whole, isTrue e env whole = (do let v ← whole; standAt e.pos; holding [v] (truthy v)) := by
  intro whole
  cases e with
  | UnaryOp op _ _ => cases op <;> first | rfl | (simp [plainTest] at h; done)
  | BoolOp _ _ _ => simp [plainTest] at h
  | IfExp _ _ _ _ => simp [plainTest] at h
  | Compare _ _ _ _ => simp [plainTest] at h
  | _ => rfl
theorem db_tru (ha : PE X a (tD X.K wa)) (hp : plainTest a = true) : PT X a (tB X.K fun r s P => wa r s fun x s1 => truW x s1 P) := by
  refine PT.of (pt_truth ha (plain_ok hp)) fun σ H Q q => ?_
  obtain ⟨F, B, s, r, P, m, er, h, l⟩ := q
  refine ⟨F, B, s, r, _, m, er, h, fun d s1 F1 H1 v l1 m1 r1 h1 => ?_⟩
  obtain ⟨k, t, h1⟩ := tru_rep m1 r1 h1
  exact ⟨k, t, l _ _ F1 H1 l1 m1 h1⟩
theorem de_ite (hc : PT X c (tB X.K ba)) (ha : PE X a (tD X.K wa)) (hb : PE X b (tD X.K wb)) : PE X (.IfExp c a b pos) (tD X.K fun r s P => ba r s fun k s1 => (k = true → wa r s1 P) ∧ (k = false → wb r s1 P)) := by
  refine PE.of (pe_ifExp hc ha hb) fun σ H Q q => ?_
  obtain ⟨F, B, s, r, P, m, er, h, l⟩ := q
  refine ⟨F, B, s, r, _, m, er, h, fun k s1 F1 H1 l1 m1 h1 => ?_⟩
  cases k with
  | true => exact ⟨F1, B, s1, r, P, m1, er.mono l1, h1.1 rfl, l.mono l1⟩
  | false => exact ⟨F1, B, s1, r, P, m1, er.mono l1, h1.2 rfl, l.mono l1⟩

/-! ### lists of expressions -/
variable {es : List Expr} {wl : WL} {n : Nat}
def notStar : Expr → Bool
  | .Starred .. => false
  | _ => true
theorem star_cons {e : Expr} {es : List Expr} {env : Env} (h : notStar e = true) : starEach (e :: es) env = (false, eval e env) :: starEach es env := by
  cases e <;> first | rfl | (simp [notStar] at h; done)
theorem star_any {env : Env} {pos : Pos} : ∀ {es : List Expr}, es.all notStar = true → (backTo pos (starEach es env)).any (·.1) = false
  | [], _ => rfl
  | e :: es, h => by
    rw [List.all_cons, Bool.and_eq_true] at h
    rw [star_cons h.1]
    show (false || (backTo pos (starEach es env)).any (·.1)) = false
    rw [star_any h.2]; rfl
theorem dl_nil : PA X [] (tL X.K 0 fun _ s P => P [] s) := by
  refine PA.of pa_nil fun σ H Q q => ?_
  obtain ⟨F, B, s, r, P, m, er, h, l⟩ := q
  exact l [] s F H [] (FLe.refl F) m .nil h rfl
theorem tL_cons {K : PySem.W.Frag} {σ : L2.St} {H : Hp} {Q : List V → Hp → Prop} (q : tL K (n + 1) (fun r s P => wa r s fun x s1 => wl r s1 fun xs s2 => P (x :: xs) s2) σ H Q) : tCons (tD K wa) (tL K n wl) σ H Q := by
  obtain ⟨F, B, s, r, P, m, er, h, l⟩ := q
  exact ⟨F, B, s, r, _, m, er, h, fun d s1 F1 H1 v l1 m1 r1 h1 => ⟨F1, B, s1, r, _, m1, er.mono l1, h1, fun ds s2 F2 H2 vs l2 m2 r2 h2 hn => l _ s2 F2 H2 _ (l1.trans l2) m2 (.cons (r1.mono l2) r2) h2 (by rw [List.length_cons, hn])⟩⟩
theorem dl_cons (ha : PE X e (tD X.K wa)) (hl : PA X es (tL X.K n wl)) (hs : notStar e = true) : PA X (e :: es) (tL X.K (n + 1) fun r s P => wa r s fun x s1 => wl r s1 fun xs s2 => P (x :: xs) s2) :=
  PA.of (pa_cons ha hl (star_cons hs)) fun _ _ _ q => tL_cons q
theorem dk_nil : PK X [] (tL X.K 0 fun _ s P => P [] s) := by
  refine PK.of pk_nil fun σ H Q q => ?_
  obtain ⟨F, B, s, r, P, m, er, h, l⟩ := q
  exact l [] s F H [] (FLe.refl F) m .nil h rfl
theorem dk_cons {nm : Option Str} {kpos : Pos} {kws : List Keyword} (ha : PE X e (tD X.K wa)) (hl : PK X kws (tL X.K n wl)) : PK X (⟨nm, e, kpos⟩ :: kws) (tL X.K (n + 1) fun r s P => wa r s fun x s1 => wl r s1 fun xs s2 => P (x :: xs) s2) :=
  PK.of (pk_cons ha hl) fun _ _ _ q => tL_cons q
theorem de_tup {k : Nat} (hl : PA X es (tL X.K n wl)) : PE X (.Tuple es k pos) (tD X.K fun r s P => wl r s fun xs s1 => xs.length ≤ SL ∧ P (.tup xs) s1) := by
  refine PE.of (pe_tup hl) fun σ H Q q => ?_
  obtain ⟨F, B, s, r, P, m, er, h, l⟩ := q
  exact ⟨F, B, s, r, _, m, er, h, fun ds s1 F1 H1 vs l1 m1 r1 h1 _ => ⟨by rw [r1.length]; exact h1.1, (l.mono l1).newTup m1 r1 h1.2⟩⟩
theorem de_lst {b : Bool} (hl : PA X es (tL X.K n wl)) : PE X (.List es pos) (tD X.K fun r s P => wl r s fun xs s1 => xs.length ≤ SL ∧ newL b xs s1 P) := by
  refine PE.of (pe_lst hl) fun σ H Q q => ?_
  obtain ⟨F, B, s, r, P, m, er, h, l⟩ := q
  exact ⟨F, B, s, r, _, m, er, h, fun ds s1 F1 H1 vs l1 m1 r1 h1 _ => ⟨by rw [r1.length]; exact h1.1, (l.mono l1).newLst m1 r1 h1.2⟩⟩
/-! ### subscripts, slices -/
def notSlice : Expr → Bool
  | .Slice .. => false
  | _ => true
theorem plainIx_ok {b : Expr} (h : notSlice b = true) : PlainIx b := fun o i => by
  cases b <;> first | rfl | (simp [notSlice] at h; done)
theorem de_sub (ha : PE X a (tD X.K wa)) (hb : PE X b (tD X.K wb)) (hs : notSlice b = true) : PE X (.Subscript a b pos) (tD X.K fun r s P => wa r s fun x s1 => wb r s1 fun y s2 => subW x y s2 P) :=
  PE.of (pe_ix dD_sub_ ha hb (plainIx_ok hs)) fun _ _ _ q => tD_two q
/-! ### {k: v, ..}[i] -/
theorem intKeys_at {K : PySem.W.Frag} {F : Hp} : ∀ {ps : List (V × V)} {es : List (D × D)} {kvs : List (Int × D)}, Reps K F (ps.map (·.1)) (es.map (·.1)) → Reps K F (ps.map (·.2)) (es.map (·.2)) → intKeys es = some kvs →
    ∃ us : List (Int × V), ps = us.map (fun u => (V.int u.1, u.2)) ∧ us.map (·.1) = kvs.map (·.1) ∧ Reps K F (us.map (·.2)) (kvs.map (·.2))
  | [], [], kvs, _, _, e => by cases e; exact ⟨[], rfl, rfl, .nil⟩
  | [], _ :: _, _, r, _, _ => by cases r
  | _ :: _, [], _, r, _, _ => by cases r
  | (x, y) :: ps, (k, v) :: es, kvs, .cons r1 t1, .cons r2 t2, e => by
    unfold intKeys at e
    split at e
    · rename_i h; cases h
    · rename_i h
      cases h
      obtain ⟨ks, e2, rfl⟩ := Option.map_eq_some_iff.mp e
      obtain ⟨us, h1, h2, h3⟩ := intKeys_at t1 t2 e2
      have r1 : Rep K F x (.int _) := r1
      cases r1
      exact ⟨(_, y) :: us, by rw [List.map_cons, h1], by rw [List.map_cons, List.map_cons, h2], .cons r2 h3⟩
    · cases e
theorem merge_nodup : ∀ (more kvs : List (Key × V)), (kvs.map (·.1) ++ more.map (·.1)).Nodup → mergeK kvs more = kvs ++ more
  | [], kvs, _ => by simp [mergeK]
  | m :: more, kvs, h => by
    have hn : m.1 ∉ kvs.map (·.1) := by
      intro hm
      rw [List.map_cons, List.nodup_append] at h
      exact h.2.2 _ hm _ List.mem_cons_self rfl
    have hv : valV kvs m.1 = none := by
      unfold valV
      rw [Option.map_eq_none_iff, List.find?_eq_none]
      intro x hx
      simp only [decide_eq_true_eq]
      exact fun e => hn (e ▸ List.mem_map.mpr ⟨x, hx, rfl⟩)
    show mergeK (putK kvs m.1 m.2) more = _
    rw [putK_new _ hv, merge_nodup more _ (by simpa [List.append_assoc] using h), List.append_assoc]
    rfl
theorem val_look {K : PySem.W.Frag} {F : Hp} {i : Int} {d : D} : ∀ {us : List (Int × V)} {kvs : List (Int × D)}, us.map (·.1) = kvs.map (·.1) → Reps K F (us.map (·.2)) (kvs.map (·.2)) → kvs.lookup i = some d →
    ∃ v, valV (us.map fun u => ((Sum.inl u.1 : Key), u.2)) (Sum.inl i) = some v ∧ Rep K F v d
  | [], [], _, _, e => by cases e
  | [], _ :: _, h, _, _ => by cases h
  | _ :: _, [], h, _, _ => by cases h
  | (k, v) :: us, (k', d') :: kvs, h, .cons r t, e => by
    have h1 : k = k' := (List.cons.inj h).1
    have h2 := (List.cons.inj h).2
    subst h1
    rw [List.lookup_cons] at e
    rw [List.map_cons]
    cases q : i == k with
    | true =>
      rw [q] at e
      cases e
      have e2 : i = k := by simpa using q
      subst e2
      exact ⟨v, valV_pos rfl, r⟩
    | false =>
      rw [q] at e
      have ne : ¬ (Sum.inl k : Key) = Sum.inl i := fun z => by
        cases z
        simp at q
      rw [valV_neg ne]
      exact val_look h2 t e
/-- a row of keys and values, one behind the other -/
def PairTs (K : PySem.W.Frag) (trs : List (TE × TE)) (w : WL) : Prop := ∀ (σ : L2.St) (H : Hp) (Q : List (V × V) → Hp → Prop),
  (∃ F B s r P, Sim K F B s H ∧ EnvR K F σ r ∧ w r s P ∧ ∀ (es : List (D × D)) (ds : List D) s' F' H' (ps : List (V × V)), pairUp ds = es → FLe F F' → Sim K F' B s' H' → Reps K F' (ps.map (·.1)) (es.map (·.1)) → Reps K F' (ps.map (·.2)) (es.map (·.2)) → ps.length = trs.length → P ds s' → Q ps H') → tPairs trs σ H Q
theorem pairTs_nil {K : PySem.W.Frag} : PairTs K [] fun _ s P => P [] s := fun σ H Q h => by
  obtain ⟨F, B, s, r, P, m, er, h, l⟩ := h
  exact l [] [] s F H [] rfl (FLe.refl F) m .nil .nil rfl h
theorem pairTs_cons {K : PySem.W.Frag} {wk wv : WE} {trs : List (TE × TE)} {w : WL} (h : PairTs K trs w) : PairTs K ((tD K wk, tD K wv) :: trs) fun r s P => wk r s fun x s1 => wv r s1 fun y s2 => w r s2 fun ds s3 => P (x :: y :: ds) s3 := fun σ H Q q => by
  obtain ⟨F, B, s, r, P, m, er, q, l⟩ := q
  show tD K wk σ H fun k H1 => tD K wv σ H1 fun v H2 => tPairs trs σ H2 fun ps H3 => Q ((k, v) :: ps) H3
  refine ⟨F, B, s, r, _, m, er, q, fun d s1 F1 H1 v l1 m1 r1 h1 => ⟨F1, B, s1, r, _, m1, er.mono l1, h1, fun d2 s2 F2 H2 v2 l2 m2 r2 h2 => h σ H2 _ ⟨F2, B, s2, r, _, m2, er.mono (l1.trans l2), h2, fun es ds s3 F3 H3 ps hp l3 m3 q1 q2 hl h3 => ?_⟩⟩⟩
  exact l ((d, d2) :: es) (d :: d2 :: ds) s3 F3 H3 _ (by simp only [pairUp, hp]) (l1.trans (l2.trans l3)) m3 (.cons (r1.mono (l2.trans l3)) q1) (.cons (r2.mono l3) q2) (by rw [List.length_cons, List.length_cons, hl]) h3
theorem de_dsel (hu : X.A.units + 1 < cLine) {keys : List (Option Expr)} {values : List Expr} {trs : List (TE × TE)} {w : WL} {p2 : Pos} (hp : PPs X p2 keys values trs) (hw : PairTs X.K trs w) (hall : keys.all (·.isSome) = true) (hl : keys.length = values.length) (h0 : keys ≠ []) (h15 : keys.length ≤ 15) (hlt : trs.length ≤ 15)
    (hb : PE X b (tD X.K wb)) (hs : notSlice b = true) : PE X (.Subscript (.Dict keys values p2) b pos) (tD X.K fun r s P => w r s fun xs s1 => dispW xs fun kvs => wb r s1 fun y s2 => pickW kvs y s2 P) := by
  refine PE.of (pe_dget hu (pe_disp hp hall hl h0 h15) hb (fun o i => by cases b <;> first | rfl | (simp [notSlice] at hs; done))) fun σ H Q q => ?_
  obtain ⟨F, B, s, r, P, m, er, h, l⟩ := q
  intro p hp
  have hB := m.bnone hp
  refine hw σ _ _ ⟨F, L2.upd B p (.dK []), s, r, _, m.bar hp, er, h, fun es ds s1 F1 H1 ps he l1 m1 q1 q2 hl2 h1 => ?_⟩
  have hp1 : H1 p = some (.dK []) := m1.ba _ _ upd_same
  refine ⟨hp1, ?_⟩
  have h1 : dispW ds fun kvs => wb r s1 fun y s2 => pickW kvs y s2 P := h1
  unfold dispW at h1
  split at h1
  · rename_i kvs ek
    obtain ⟨hnd, h1⟩ := h1
    rw [he] at ek
    obtain ⟨us, e1, e2, q3⟩ := intKeys_at q1 q2 ek
    have hlen : us.length ≤ 15 := by
      have := congrArg List.length e1
      rw [List.length_map] at this
      omega
    refine ⟨us.map fun u => ((Sum.inl u.1 : Key), u.2), by rw [e1, List.map_map]; rfl, by rw [List.length_map]; exact hlen, ?_⟩
    rw [merge_nodup _ _ (by
      rw [List.map_nil, List.nil_append, List.map_map]
      have : us.map ((·.1) ∘ fun u => ((Sum.inl u.1 : Key), u.2)) = (us.map (·.1)).map (Sum.inl : Int → Key) := by rw [List.map_map]; rfl
      rw [this, e2]
      refine List.pairwise_map.mpr (hnd.imp fun {x y} h z => h (Sum.inl.inj z))), List.nil_append]
    have m2 := m1.barTurn (u := .dK (us.map fun u => ((Sum.inl u.1 : Key), u.2))) hB m.an.2
    refine ⟨F1, _, s1, r, _, m2, er.mono l1, h1, fun d s2 F2 H2 v l2 m3 r3 h2 => ?_⟩
    have h2 : pickW kvs d s2 P := h2
    unfold pickW at h2
    split at h2
    · split at h2
      · rename_i i0 _ _ d' e
        cases r3
        obtain ⟨u, hu, ru⟩ := val_look e2 (q3.mono l2) e
        have hp2 : H2 p = some (.dK (us.map fun u => ((Sum.inl u.1 : Key), u.2))) := m3.ba _ _ upd_same
        refine ⟨p, u, rfl, ?_, (l.mono (l1.trans l2)).at (m3.unbar hB m.an.2) ru h2⟩
        have g := DGet.k (k := Sum.inl i0) hp2
        rw [hu] at g
        exact g
      · exact h2.elim
    · exact h2.elim
  · exact h1.elim
theorem do_none : PO X none (tO X.K fun _ s P => P none s) := by
  refine ⟨fun pins s σ H Q I q => po_none.run pins s σ H Q I ?_⟩
  obtain ⟨F, B, s, r, P, m, er, h, l⟩ := q
  exact l _ _ F H (FLe.refl F) m h
theorem do_some (ha : PE X a (tD X.K wa)) : PO X (some a) (tO X.K fun r s P => wa r s fun x s1 => match x with | .int i => P (some i) s1 | _ => False) := by
  refine ⟨fun pins s σ H Q I q => (po_some ha).run pins s σ H Q I ?_⟩
  obtain ⟨F, B, s, r, P, m, er, h, l⟩ := q
  refine ⟨F, B, s, r, _, m, er, h, fun d s1 F1 H1 v l1 m1 r1 h1 => ?_⟩
  split at h1
  · cases r1
    exact ⟨_, rfl, l _ _ F1 H1 l1 m1 h1⟩
  · exact h1.elim
theorem de_slc {b : Bool} {lo hi : Option Expr} {p2 : Pos} {wo wh : WO} (ha : PE X a (tD X.K wa)) (hl : PO X lo (tO X.K wo)) (hh : PO X hi (tO X.K wh)) : PE X (.Subscript a (.Slice lo hi none p2) pos) (tD X.K fun r s P => wa r s fun x s1 => wo r s1 fun l s2 => wh r s2 fun h s3 => slcW b x l h s3 P) := by
  refine PE.of (pe_slice (dD_slc (b := b)) ha hl hh) fun σ H Q q => ?_
  obtain ⟨F, B, s, r, P, m, er, h, l⟩ := q
  exact ⟨F, B, s, r, _, m, er, h, fun d s1 F1 H1 v l1 m1 r1 h1 => ⟨F1, B, s1, r, _, m1, er.mono l1, h1, fun i s2 F2 H2 l2 m2 h2 => ⟨F2, B, s2, r, _, m2, er.mono (l1.trans l2), h2, fun j s3 F3 H3 l3 m3 h3 => ⟨F3, B, s3, d, P, m3, r1.mono (l2.trans l3), h3, l.mono (l1.trans (l2.trans l3))⟩⟩⟩⟩
/-! ### calls of what is built in -/
variable {x : Str} {p : Pos}
theorem tL_bi {K : PySem.W.Frag} {σ : L2.St} {H : Hp} {Q : VK} {w : List D → S → (D → S → Prop) → Prop} (q : tD K (fun r s P => wl r s fun xs s1 => w xs s1 P) σ H Q) : tCB (rBiD K w) (tL K n wl) σ H Q := by
  obtain ⟨F, B, s, r, P, m, er, h, l⟩ := q
  exact ⟨F, B, s, r, _, m, er, h, fun ds s1 F1 H1 vs l1 m1 r1 h1 _ => ⟨F1, B, s1, ds, P, m1, r1, h1, l.mono l1⟩⟩
theorem de_biB {id : String} {w : List D → S → (D → S → Prop) → Prop} (hc : CallR X (.builtin id) (rBiD X.K w)) (hg : Gl X x) (hm : X.mg x = none) (hv : bootBuiltins x = some (.builtin id)) (hl : PA X (e :: es) (tL X.K n wl)) (h1 : notStar e = true) (h2 : es.all notStar = true)
    (hn : x ≠ "__name__") (hd : (x == ("__debug__" : Str)) = false) : PE X (.Call (.Name x p) (e :: es) [] pos) (tD X.K fun r s P => wl r s fun xs s1 => w xs s1 P) :=
  PE.of (pe_callB hc hg hm hv hl hn hd (star_cons h1) (star_any h2)) fun _ _ _ q => tL_bi q
theorem de_biT {id : String} {w : List D → S → (D → S → Prop) → Prop} (hc : CallR X (.type id) (rBiD X.K w)) (hg : Gl X x) (hm : X.mg x = none) (hv : bootBuiltins x = some (.type id)) (hl : PA X (e :: es) (tL X.K n wl)) (h1 : notStar e = true) (h2 : es.all notStar = true)
    (hn : x ≠ "__name__") (hd : (x == ("__debug__" : Str)) = false) : PE X (.Call (.Name x p) (e :: es) [] pos) (tD X.K fun r s P => wl r s fun xs s1 => w xs s1 P) :=
  PE.of (pe_callTy hc hg hm hv hl hn hd (star_cons h1) (star_any h2)) fun _ _ _ q => tL_bi q
end
end IR

set_option Elab.async false
set_option linter.all false
set_option maxRecDepth 100000
/-! So4: calls of the program's own defs, methods, targets, what is walked, comprehensions. -/
namespace IR
open PySem PySem.Spec PyProof.Rows L2
variable [A : Anchor]

/-! ### calls of defs -/
abbrev R1 := List D → S → (D → S → Prop) → Prop
/-- where the classes stand, which numbers stand for classes -/
structure CV where
  val : Nat → Value
  ok : Nat → Prop
/-- what is raised: as a wish of the heap -/
def WD (K : PySem.W.Frag) (cv : CV) (Y : XT) : XK := fun cls d H => ∃ (c : Nat) (F B : Hp) (s : S), cls = cv.val c ∧ d = none ∧ cv.ok c ∧ Sim K F B s H ∧ Y c s
def LiftX (K : PySem.W.Frag) (cv : CV) (Y : XT) (E : XK) : Prop := ∀ (c : Nat) (F B : Hp) (s : S) (H : Hp), cv.ok c → Sim K F B s H → Y c s → E (cv.val c) none H
theorem LiftX.wd {K : PySem.W.Frag} {cv : CV} {Y : XT} : LiftX K cv Y (WD K cv Y) := fun c F B s H o m y => ⟨c, F, B, s, rfl, rfl, o, m, y⟩
/-- a def's promise over data -/
def spD (K : PySem.W.Frag) (cv : CV) (n : Nat) (R : XT → R1) : Sp := fun vs H Q E => vs.length = n ∧ ∃ F B s ds P Y, Sim K F B s H ∧ Reps K F vs ds ∧ R Y ds s P ∧ Lift K F B P Q ∧ LiftX K cv Y E
abbrev PassY (X : Cx) (cv : CV) (Y : XT) : Prop := Passes (L2.CX X.prog X.w) X (WD X.K cv Y)
theorem passY_no {X : Cx} {cv : CV} : PassY X cv no := fun _ _ _ _ _ _ _ h => by
  obtain ⟨_, _, _, _, _, _, _, _, _, _, _, _, _, _, _, _, _, _, _, _, z⟩ := h
  exact z.elim
def pm {α : Type} (perm : List Nat) (xs : List α) : List α := perm.filterMap fun i => xs[i]?
theorem pm_vals {xs : List V} {us : List Value} (r : Vals xs us) : ∀ perm : List Nat, Vals (pm perm xs) (pm perm us)
  | [] => .nil
  | i :: perm => by
    unfold pm
    cases e : xs[i]? with
    | none =>
      rw [List.filterMap_cons_none e, List.filterMap_cons_none (r.none_of e)]
      exact pm_vals r perm
    | some x =>
      obtain ⟨u, e2, q⟩ := r.get e
      rw [List.filterMap_cons_some e, List.filterMap_cons_some e2]
      exact .cons q (pm_vals r perm)
theorem pm_reps {K : PySem.W.Frag} {F : Hp} {vs : List V} {ds : List D} (r : Reps K F vs ds) : ∀ perm : List Nat, Reps K F (pm perm vs) (pm perm ds)
  | [] => .nil
  | i :: perm => by
    unfold pm
    cases e : vs[i]? with
    | none =>
      have e2 : ds[i]? = none := List.getElem?_eq_none_iff.mpr (by rw [← r.length]; exact List.getElem?_eq_none_iff.mp e)
      rw [List.filterMap_cons_none e, List.filterMap_cons_none e2]
      exact pm_reps r perm
    | some x =>
      obtain ⟨u, e2, q⟩ := r.get' e
      rw [List.filterMap_cons_some e, List.filterMap_cons_some e2]
      exact .cons q (pm_reps r perm)
/-- what is known of a def: how it is called, positionally and by some keywords -/
def CallOk (X : Cx) (cv : CV) (nm : Str) (ps : List Str) (kws : List (Nat × List Str × List Nat)) (R : XT → R1) : Prop :=
  ∃ (k : Nat) (f : Addr) (fd : FuncData), Room k X.A ∧ X.mg nm = some (.ref f) ∧ PySem.W.keepIn X.K (.ref f) = true ∧ Binds X.K fd ps [] ∧
    (∀ n ks perm, (n, ks, perm) ∈ kws → ∀ (s : Shared) (us ws : List Value), us.length = n → ws.length = ks.length → BindsTo s fd ⟨us, ks.zip ws⟩ (ps.zip (pm perm (us ++ ws)))) ∧
    ∀ A : Anchor, FnOk X.prog X.w X.K X.mg X.base (L2.CX X.prog X.w) k f fd ps (spD X.K cv ps.length R)
theorem Lift.frz {K : PySem.W.Frag} {F B : Hp} {P : D → S → Prop} {Q : VK} {m : Bool} (l : Lift K F B P Q) : Lift K F B (fun d s => frz m d s P) Q := fun d s' F' H' v le sm r h => by
  have h : IR.frz m d s' P := h
  unfold IR.frz at h
  split at h
  · split at h
    · rename_i ds e
      obtain ⟨f, b, vs, e1, t⟩ := sm.mu _ _ e
      cases r
      exact l _ _ _ H' _ (le.trans (FLe.upd f)) (sm.freeze e e1) (.lv upd_same (t.mono (FLe.upd f))) h
    · exact h.elim
  · exact l _ _ F' H' v le sm r h
section
variable {X : Cx} {e : Expr} {es : List Expr} {x : Str} {p pos : Pos} {wl wk : WL} {n : Nat} {R : XT → R1} {cv : CV} {Y : XT} {ps : List Str} {kws : List (Nat × List Str × List Nat)}
theorem tL_call {K : PySem.W.Frag} {σ : L2.St} {H : Hp} {Q : VK} {m : Bool} (hn : n = ps.length) (q : tD K (fun r s P => wl r s fun xs s1 => R Y xs s1 fun d s2 => frz m d s2 P) σ H Q) : tCall (spD K cv ps.length R) [] (WD K cv Y) (tL K n wl) σ H Q := by
  obtain ⟨F, B, s, r, P, m, er, h, l⟩ := q
  exact ⟨F, B, s, r, _, m, er, h, fun ds s1 F1 H1 vs l1 m1 r1 h1 hv => ⟨by rw [List.append_nil, hv, hn], F1, B, s1, ds, _, Y, m1, by rw [List.append_nil]; exact r1, h1, (l.mono l1).frz, LiftX.wd⟩⟩
theorem de_call {m : Bool} (C : CallOk X cv x ps kws R) (hx : PassY X cv Y) (hg : Gl X x) (hl : PA X (e :: es) (tL X.K n wl)) (hn : n = ps.length) (hd : (x == ("__debug__" : Str)) = false) (h1 : notStar e = true) (h2 : es.all notStar = true) :
    PE X (.Call (.Name x p) (e :: es) [] pos) (tD X.K fun r s P => wl r s fun xs s1 => R Y xs s1 fun d s2 => frz m d s2 P) := by
  obtain ⟨k, f, fd, hr, hm, hk, hb, _, F⟩ := C
  exact PE.of (pe_call (F A) hr hg hm hk hb .nil hx hl hd (star_cons h1) (star_any h2)) fun _ _ _ q => tL_call hn q
/-- keywords, as the text has them -/
def kwNames (kws : List Keyword) : List Str := kws.filterMap (·.arg)
theorem kw_all {env : Env} {pos : Pos} : ∀ {ks : List Keyword}, (ks.all fun k => k.arg.isSome) = true → (backToKw pos (keywordEach ks env)).all (·.1.isSome) = true
  | [], _ => rfl
  | ⟨nm, v, q⟩ :: ks, h => by
    rw [List.all_cons, Bool.and_eq_true] at h
    show (nm.isSome && (backToKw pos (keywordEach ks env)).all (·.1.isSome)) = true
    rw [kw_all h.2, Bool.and_true]
    exact h.1
theorem kw_none {env : Env} {pos : Pos} : ∀ {ks : List Keyword}, (ks.all fun k => k.arg.isSome) = true → (backToKw pos (keywordEach ks env)).any (·.1.isNone) = false
  | [], _ => rfl
  | ⟨nm, v, q⟩ :: ks, h => by
    rw [List.all_cons, Bool.and_eq_true] at h
    show (nm.isNone || (backToKw pos (keywordEach ks env)).any (·.1.isNone)) = false
    rw [kw_none h.2, Bool.or_false]
    have := h.1
    cases nm <;> first | rfl | (simp at this; done)
theorem kw_names {env : Env} {pos : Pos} : ∀ {ks : List Keyword}, (backToKw pos (keywordEach ks env)).filterMap (·.1) = kwNames ks
  | [] => rfl
  | ⟨nm, v, q⟩ :: ks => by
    cases nm with
    | none => exact kw_names (ks := ks)
    | some x =>
      show x :: (backToKw pos (keywordEach ks env)).filterMap (·.1) = x :: kwNames ks
      rw [kw_names]
theorem run_fnk2 {X : Cx} {CX : CXT} {k : Nat} {f : Addr} {fd : FuncData} {ps ks : List Str} {sp : Sp} {E : XK} {pins : List (Addr × Obj)} {σ : L2.St} {H : Hp} {s : Shared} {Q : VK} {us ws zs : List Value} {vs : List V} (F : FnOk X.prog X.w X.K X.mg X.base CX k f fd ps sp) (hr : Room k X.A)
    (hb : BindsTo s fd ⟨us, ks.zip ws⟩ (ps.zip zs)) (hx : Passes CX X E) (I : Inv X pins σ H s) (r2 : Vals vs zs) (h : sp vs H Q E) : wpAny (model X.prog X.w) X.A (call (.ref f) us (ks.zip ws)) (EP X pins σ Q) X.xe s := by
  refine wpAny_call (codeAny_mono (F.run X.A X.stack s H ⟨us, ks.zip ws⟩ zs vs Q E hr I.env0 hb r2 h) fun r s' hq => ?_)
  cases r with
  | error e => exact hx pins σ H s e s' I hq
  | ok fl =>
    cases fl with
    | ret u => exact I.after hq
    | next => exact False.elim hq
    | brk => exact False.elim hq
    | cont => exact False.elim hq
variable {ks : List Keyword} {n2 : Nat} {perm : List Nat}
theorem callk_end {m : Bool} {pins : List (Addr × Obj)} {σ : L2.St} {H : Hp} {s : Shared} {Q : VK} {us ws : List Value} {vs zs : List V} {F B : Hp} {st : S} {ds es : List D} {P : D → S → Prop} {k : Nat} {f : Addr} {fd : FuncData}
    (hr : Room k X.A) (hkw : ∀ (s : Shared) (us ws : List Value), us.length = n → ws.length = (kwNames ks).length → BindsTo s fd ⟨us, (kwNames ks).zip ws⟩ (ps.zip (pm perm (us ++ ws))))
    (Fn : FnOk X.prog X.w X.K X.mg X.base (L2.CX X.prog X.w) k f fd ps (spD X.K cv ps.length R)) (hx : PassY X cv Y) (hp : perm.all (fun i => decide (i < n + n2)) = true) (hpl : perm.length = ps.length) (h2 : n2 = (kwNames ks).length)
    (I : Inv X pins σ H s) (r : Vals vs us) (rz : Vals zs ws) (hv : vs.length = n) (hz : zs.length = n2) (mm : Sim X.K F B st H) (q1 : Reps X.K F vs ds) (q2 : Reps X.K F zs es) (h : R Y (pm perm (ds ++ es)) st fun d s2 => frz m d s2 P) (l : Lift X.K F B P Q) :
    wpAny (model X.prog X.w) X.A (call (.ref f) us ((kwNames ks).zip ws)) (EP X pins σ Q) X.xe s := by
  refine run_fnk2 Fn hr (hkw s us ws (by rw [← r.length, hv]) (by rw [← rz.length, hz, h2])) (E := WD X.K cv Y) hx I (pm_vals (Vals.append r rz) perm) ⟨?_, F, B, st, _, _, Y, mm, pm_reps (q1.append q2) perm, h, l.frz, LiftX.wd⟩
  have : ∀ (pl : List Nat) (xs : List V), pl.all (fun i => decide (i < xs.length)) = true → (pm pl xs).length = pl.length := by
    intro pl xs
    induction pl with
    | nil => intro _; rfl
    | cons i pl ih =>
      intro h
      rw [List.all_cons, Bool.and_eq_true] at h
      unfold pm at ih ⊢
      rw [List.filterMap_cons_some (List.getElem?_eq_getElem (of_decide_eq_true h.1)), List.length_cons, List.length_cons, ih h.2]
  rw [this perm (vs ++ zs) (by rw [List.length_append, hv, hz]; exact hp), hpl]
theorem de_callk {m : Bool} (C : CallOk X cv x ps kws R) (hx : PassY X cv Y) (hg : Gl X x) (hl : PA X (e :: es) (tL X.K n wl)) (hkl : PK X ks (tL X.K n2 wk)) (hmem : (n, kwNames ks, perm) ∈ kws) (hp : perm.all (fun i => decide (i < n + n2)) = true) (hpl : perm.length = ps.length)
    (h2 : n2 = (kwNames ks).length) (hka : (ks.all fun k => k.arg.isSome) = true) (hd : (x == ("__debug__" : Str)) = false) (hs : (e :: es).all notStar = true) :
    PE X (.Call (.Name x p) (e :: es) ks pos) (tD X.K fun r s P => wl r s fun xs s1 => wk r s1 fun zs s2 => R Y (pm perm (xs ++ zs)) s2 fun d s3 => frz m d s3 P) := by
  obtain ⟨k, f, fd, hr, hm, hk, hb, hkw, Fn⟩ := C
  refine ⟨fun pins s σ H Q I q => ?_⟩
  obtain ⟨F, B, st, r, P, mm, er, h, l⟩ := q
  refine wpAny_Call_Name_kw (ld_glob I hg hm ?_ hd)
  rw [List.all_cons, Bool.and_eq_true] at hs
  refine PySem.W.callWith_KW (h₀ := X.base) I.ok.mod.kin hk (kw_all hka) (thn (hl.run pos pins s σ H (fun vs H1 => vs.length = n ∧ ∃ ds F1 s1, FLe F F1 ∧ Sim X.K F1 B s1 H1 ∧ Reps X.K F1 vs ds ∧ wk r s1 fun zs s2 => R Y (pm perm (ds ++ zs)) s2 fun d s3 => frz m d s3 P) I
    ⟨F, B, st, r, _, mm, er, h, fun ds s1 F1 H1 vs l1 m1 r1 h1 hv => ⟨hv, ds, F1, s1, l1, m1, r1, h1⟩⟩) fun us s1 ⟨vs, H1, I1, rv, hv, ds, F1, st1, l1, m1, q1, h1⟩ => ?_)
    (by rw [star_cons hs.1]; show ((false || (backTo pos (starEach es X.env)).any (·.1)) || _) = false; rw [star_any hs.2, kw_none hka]; rfl) (star_cons hs.1)
  refine thn (hkl.run pos pins s1 σ H1 (fun zs H2 => zs.length = n2 ∧ ∃ es2 F2 s2, FLe F1 F2 ∧ Sim X.K F2 B s2 H2 ∧ Reps X.K F2 zs es2 ∧ R Y (pm perm (ds ++ es2)) s2 fun d s3 => frz m d s3 P) I1
    ⟨F1, B, st1, r, _, m1, er.mono l1, h1, fun ds s1 F1 H1 vs l1 m1 r1 h1 hv => ⟨hv, ds, F1, s1, l1, m1, r1, h1⟩⟩) fun ws s2 ⟨zs, H2, I2, rz, hz, es2, F2, st2, l2, m2, q2, h2'⟩ => ⟨I2.kIn, ?_⟩
  rw [kw_names]
  exact callk_end hr (hkw _ _ _ hmem) (Fn A) hx hp hpl h2 I2 rv rz hv hz m2 (q1.mono l2) q2 h2' (l.mono (l1.trans l2))
theorem de_callk0 {m : Bool} (C : CallOk X cv x ps kws R) (hx : PassY X cv Y) (hg : Gl X x) (hkl : PK X ks (tL X.K n2 wk)) (hmem : (0, kwNames ks, perm) ∈ kws) (hp : perm.all (fun i => decide (i < n2)) = true) (hpl : perm.length = ps.length)
    (h2 : n2 = (kwNames ks).length) (hka : (ks.all fun k => k.arg.isSome) = true) (hd : (x == ("__debug__" : Str)) = false) :
    PE X (.Call (.Name x p) [] ks pos) (tD X.K fun r s P => wk r s fun zs s2 => R Y (pm perm ([] ++ zs)) s2 fun d s3 => frz m d s3 P) := by
  obtain ⟨k, f, fd, hr, hm, hk, hb, hkw, Fn⟩ := C
  refine ⟨fun pins s σ H Q I q => ?_⟩
  obtain ⟨F, B, st, r, P, mm, er, h, l⟩ := q
  refine wpAny_Call_Name_kw (ld_glob I hg hm ?_ hd)
  refine PySem.W.callWith_KW0 (h₀ := X.base) I.ok.mod.kin hk (kw_all hka) ?_ (by show (false || _) = false; rw [kw_none hka]; rfl)
  refine thn (hkl.run pos pins s σ H (fun zs H2 => zs.length = n2 ∧ ∃ es2 F2 s2, FLe F F2 ∧ Sim X.K F2 B s2 H2 ∧ Reps X.K F2 zs es2 ∧ R Y (pm perm ([] ++ es2)) s2 fun d s3 => frz m d s3 P) I
    ⟨F, B, st, r, _, mm, er, h, fun ds s1 F1 H1 vs l1 m1 r1 h1 hv => ⟨hv, ds, F1, s1, l1, m1, r1, h1⟩⟩) fun ws s2 ⟨zs, H2, I2, rz, hz, es2, F2, st2, l2, m2, q2, h2'⟩ => ⟨I2.kIn, ?_⟩
  rw [kw_names]
  exact callk_end (n := 0) (vs := []) (us := []) hr (hkw _ _ _ hmem) (Fn A) hx (by rw [Nat.zero_add]; exact hp) hpl h2 I2 .nil rz rfl hz m2 .nil q2 h2' (l.mono l2)
/-! ### methods -/
variable {o : Expr} {apos : Pos} {wo we : WE}
def isNm : Expr → Bool
  | .Name .. => true
  | _ => false
theorem base_ok {o : Expr} {nm : Str} {env : Env} (h : isNm o = true) : attributeBase o nm env (eval o env) = eval o env := by
  cases o <;> first | rfl | (simp [isNm] at h; done)
theorem list_ty {K : PySem.W.Frag} {F B : Hp} {s : S} {H : Hp} {a : Nat} {ds : List D} (m : Sim K F B s H) (h : s a = some (.lst ds)) : tyV K "list" (.ref a) H := by
  obtain ⟨_, _, vs, e, _⟩ := m.mu a ds h
  exact .inl ⟨rfl, vs, .inl (.inl e)⟩
theorem lst_at {x : D} {s : S} (h : isLst x s) : ∃ a ds, x = .ref a ∧ s a = some (.lst ds) := by
  unfold isLst at h
  split at h
  · split at h
    · rename_i e
      exact ⟨_, _, rfl, e⟩
    · exact h.elim
  · exact h.elim
theorem tL_meth {K : PySem.W.Frag} {σ : L2.St} {H : Hp} {Q : VK} {w : W2} 
    (q : tD K (fun r s P => wo r s fun x s1 => isLst x s1 ∧ we r s1 fun y s2 => w x y s2 P) σ H Q) : tBM K "list" (rMtD K w) (tD K wo) (tL K 1 fun r s P => we r s fun x s1 => P [x] s1) σ H Q := by
  obtain ⟨F, B, s, r, P, m, er, h, l⟩ := q
  refine ⟨F, B, s, r, _, m, er, h, fun d s1 F1 H1 v l1 m1 r1 h1 => ?_⟩
  obtain ⟨h0, h1⟩ := h1
  obtain ⟨a, ds, rfl, e⟩ := lst_at h0
  cases r1
  refine ⟨list_ty m1 e, F1, B, s1, r, (fun xs s2 => match xs with | [y] => w (.ref a) y s2 P | _ => False), m1, er.mono l1, h1, fun xs s2 F2 H2 vs l2 m2 r2 h2 _ => ?_⟩
  cases xs with
  | nil => exact h2.elim
  | cons y ys =>
    cases ys with
    | nil =>
      obtain ⟨v2, rfl, r3⟩ := one_rep r2
      exact ⟨v2, rfl, F2, B, s2, .ref a, y, P, m2, .ref a, r3, h2, l.mono (l1.trans l2)⟩
    | cons _ _ => exact h2.elim
theorem few_ok {env : Env} {pos : Pos} {e : Expr} (h1 : notStar e = true) : ((backTo pos (starEach [e] env)).all (fun x => !x.1) && (backToKw pos (keywordEach [] env)).all (fun x => x.1.isSome)
      && decide ([e].length + ([] : List Keyword).length + (if ([] : List Keyword).isEmpty then 0 else 1) < 30)) = true := by
  rw [star_cons h1]
  rfl
theorem de_app (ho : PE X o (tD X.K wo)) (he : PE X e (tD X.K we)) (h0 : isNm o = true) (h1 : notStar e = true) (hl : (apos.endLine == pos.line) = true) :
    PE X (.Call (.Attribute o "append" apos) [e] [] pos) (tD X.K fun r s P => wo r s fun x s1 => isLst x s1 ∧ we r s1 fun y s2 => appW x y s2 P) :=
  PE.of (pe_bm PySem.F.plainAttrs_list PySem.F.slot_list_append PySem.F.type_list_append dD_app ho (dl_cons he dl_nil h1) (base_ok h0) (few_ok h1) hl (star_cons h1) (star_any rfl)) fun _ _ _ q => tL_meth q
theorem de_ext (ho : PE X o (tD X.K wo)) (he : PE X e (tD X.K we)) (h0 : isNm o = true) (h1 : notStar e = true) (hl : (apos.endLine == pos.line) = true) :
    PE X (.Call (.Attribute o "extend" apos) [e] [] pos) (tD X.K fun r s P => wo r s fun x s1 => isLst x s1 ∧ we r s1 fun y s2 => extW x y s2 P) :=
  PE.of (pe_bm PySem.F.plainAttrs_list PySem.F.slot_list_extend PySem.F.type_list_extend dD_ext ho (dl_cons he dl_nil h1) (base_ok h0) (few_ok h1) hl (star_cons h1) (star_any rfl)) fun _ _ _ q => tL_meth q
/-! ### isinstance -/
def tyV1 (t : Ty) : V := .ty (tyN t)
def tIsi (K : PySem.W.Frag) (wa : WE) (ts : List Ty) : WE := fun r s P => wa r s fun x s1 => isiW x ts s1 P
theorem boot_ty : ∀ t : Ty, bootBuiltins (Str.ofString (tyN t)) = some (.type (tyN t))
  | .int => by decide +kernel
  | .bool => by decide +kernel
  | .str => by decide +kernel
  | .list => by decide +kernel
  | .tuple => by decide +kernel
theorem ty_name : ∀ t : Ty, (Str.ofString (tyN t) : Str) ≠ "__name__" ∧ ((Str.ofString (tyN t) : Str) == ("__debug__" : Str)) = false
  | .int => by decide +kernel
  | .bool => by decide +kernel
  | .str => by decide +kernel
  | .list => by decide +kernel
  | .tuple => by decide +kernel
theorem pe_ty {pos : Pos} (t : Ty) (hg : Gl X (Str.ofString (tyN t))) (hm : X.mg (Str.ofString (tyN t)) = none) : PE X (.Name (Str.ofString (tyN t)) pos) (tC (tyV1 t)) :=
  pe_bltn hg hm (boot_ty t) rfl (ty_name t).1 (ty_name t).2
/-- the names of classes, in a row -/
inductive TyEs : List Expr → List Ty → Prop
  | nil : TyEs [] []
  | cons {t : Ty} {pos : Pos} {es : List Expr} {ts : List Ty} : TyEs es ts → TyEs (.Name (Str.ofString (tyN t)) pos :: es) (t :: ts)
def GlT (X : Cx) (t : Ty) : Prop := Gl X (Str.ofString (tyN t)) ∧ X.mg (Str.ofString (tyN t)) = none
theorem pa_tys : ∀ {es : List Expr} {ts : List Ty}, TyEs es ts → (∀ t ∈ ts, GlT X t) → PA X es (fun σ H Q => Q (ts.map tyV1) H)
  | _, _, .nil, _ => PA.of pa_nil fun _ _ _ q => q
  | _, _, .cons (t := t) h, g => PA.of (pa_cons (pe_ty t (g t List.mem_cons_self).1 (g t List.mem_cons_self).2) (pa_tys h fun t ht => g t (List.mem_cons_of_mem _ ht)) rfl) fun _ _ _ q => q
theorem cls_all : ∀ ts : List Ty, Paired ClsV (ts.map tyV1) (ts.map fun t => Value.type (tyN t))
  | [] => .nil
  | t :: ts => .cons (.ty _) (cls_all ts)
variable {a : Expr} {wa : WE}
theorem boot_isi : bootBuiltins "isinstance" = some (.builtin "isinstance") := by decide +kernel
theorem de_isi1 {t : Ty} {p2 : Pos} (ha : PE X a (tD X.K wa)) (hs : notStar a = true) (hg : Gl X "isinstance") (hm : X.mg "isinstance" = none) (gt : GlT X t) : PE X (.Call (.Name "isinstance" p) [a, .Name (Str.ofString (tyN t)) p2] [] pos) (tD X.K fun r s P => wa r s fun x s1 => isiW x [t] s1 P) := by
  refine PE.of (pe_callB call_isi hg hm boot_isi (pa_cons ha (pa_cons (pe_ty t gt.1 gt.2) pa_nil rfl) (star_cons hs)) (by decide) (by decide) (star_cons hs) rfl) fun σ H Q q => ?_
  obtain ⟨F, B, s, r, P, m, er, h, l⟩ := q
  refine ⟨F, B, s, r, _, m, er, h, fun d s1 F1 H1 v l1 m1 r1 h1 => ?_⟩
  obtain ⟨n, g, ty, hk, h2⟩ := isi_rep m1 r1 h1
  refine ⟨v, tyV1 t, _, _, g t, rfl, .ty _, ty, kit_ty (hk t), ?_⟩
  have e : [t].any g = g t := by simp
  rw [e] at h2
  exact (l.mono l1).at m1 (.bl _) h2
theorem de_isiT {es : List Expr} {ts : List Ty} {k : Nat} {p2 : Pos} (ha : PE X a (tD X.K wa)) (hs : notStar a = true) (hg : Gl X "isinstance") (hm : X.mg "isinstance" = none) (te : TyEs es ts) (gt : ∀ t ∈ ts, GlT X t) (hl : ts.length ≤ SL) :
    PE X (.Call (.Name "isinstance" p) [a, .Tuple es k p2] [] pos) (tD X.K fun r s P => wa r s fun x s1 => isiW x ts s1 P) := by
  refine PE.of (pe_callB call_isiT hg hm boot_isi (pa_cons ha (pa_cons (pe_tup (pa_tys te gt)) pa_nil rfl) (star_cons hs)) (by decide) (by decide) (star_cons hs) rfl) fun σ H Q q => ?_
  obtain ⟨F, B, s, r, P, m, er, h, l⟩ := q
  refine ⟨F, B, s, r, _, m, er, h, fun d s1 F1 H1 v l1 m1 r1 h1 => ?_⟩
  refine ⟨by rw [List.length_map]; exact hl, fun p hp => ?_⟩
  obtain ⟨n, g, ty, hk, h2⟩ := isi_rep (m1.laid (o := .tup (ts.map tyV1)) hp) r1 h1
  exact ⟨v, p, ts.map tyV1, _, _, ts.any g, rfl, upd_same, cls_all ts, ty, kitAny_all hk ts, (l.mono l1).at (m1.laid hp) (.bl _) h2⟩
/-! ### targets -/
def gT (K : PySem.W.Frag) (is : List Nat) (w : D → Rho → (Rho → Prop) → Prop) : TG := fun v σ H Q => ∃ F B s d r P, Sim K F B s H ∧ EnvR K F σ r ∧ Rep K F v d ∧ w d r P ∧ ∀ r' σ', EnvR K F σ' r' → P r' → Agree is σ σ' → Q σ' H
def gTs (K : PySem.W.Frag) (is : List Nat) (w : List D → Rho → (Rho → Prop) → Prop) : TGs := fun v σ H Q => ∃ F B s d r P, Sim K F B s H ∧ EnvR K F σ r ∧ Reps K F v d ∧ w d r P ∧ ∀ r' σ', EnvR K F σ' r' → P r' → Agree is σ σ' → Q σ' H
mutual
def slT : T → List Nat
  | .nm i => [i]
  | .tp ts => slTs ts
def slTs : List T → List Nat
  | [] => []
  | t :: ts => slT t ++ slTs ts
end
theorem PG.of {t t' : TG} {e : Expr} (h : PG X e t) (i : ∀ v σ H Q, t' v σ H Q → t v σ H Q) : PG X e t' := ⟨fun pins s σ H v u Q I r q => h.run pins s σ H v u Q I r (i v σ H Q q)⟩
theorem PGs.of {t t' : TGs} {e : List Expr} (h : PGs X e t) (i : ∀ v σ H Q, t' v σ H Q → t v σ H Q) : PGs X e t' := ⟨fun pins s σ H v u Q I r q => h.run pins s σ H v u Q I r (i v σ H Q q)⟩
theorem dg_nm {i : Nat} (hN : X.N.Nodup) (hi : X.N[i]? = some x) (hx : Loc X.env.scope x) (hf : X.fn x = true ∨ X.env.scope.names.lookup x = some .local) : PG X (.Name x pos) (gT X.K [i] (asgW (.nm i))) := by
  refine PG.of (pg_name hN hi hx hf) fun v σ H Q q => ?_
  obtain ⟨F, B, s, d, r, P, m, er, rv, h, l⟩ := q
  simp only [asgW] at h
  refine l _ _ (er.set rv i) h ⟨by rw [List.length_set], fun j hj => ?_⟩
  rw [List.getElem?_set_ne]
  exact fun z => hj (by simp [z])
theorem dg_nil : PGs X [] (gTs X.K [] (asgsW [])) := by
  refine PGs.of pgs_nil fun v σ H Q q => ?_
  obtain ⟨F, B, s, d, r, P, m, er, rv, h, l⟩ := q
  cases rv with
  | nil => simp only [asgsW] at h; exact ⟨rfl, l r σ er h (Agree.refl σ)⟩
  | cons _ _ => simp only [asgsW] at h
theorem assign_cons {e : Expr} {es : List Expr} {env : Env} (h : notStar e = true) : assignEach (e :: es) env = (false, assign e env) :: assignEach es env := by
  cases e <;> first | rfl | (simp [notStar] at h; done)
theorem Agree.app {is js : List Nat} {σ σ' σ'' : L2.St} (a : Agree is σ σ') (b : Agree js σ' σ'') : Agree (is ++ js) σ σ'' :=
  ⟨b.1.trans a.1, fun i hi => (b.2 i fun z => hi (List.mem_append_right _ z)).trans (a.2 i fun z => hi (List.mem_append_left _ z))⟩
theorem dg_cons {t : T} {ts : List T} {is js : List Nat} (h1 : PG X e (gT X.K is (asgW t))) (h2 : PGs X es (gTs X.K js (asgsW ts))) (hs : notStar e = true) : PGs X (e :: es) (gTs X.K (is ++ js) (asgsW (t :: ts))) := by
  refine PGs.of (pgs_cons h1 h2 (by rw [assign_cons hs]; rfl)) fun v σ H Q q => ?_
  obtain ⟨F, B, s, d, r, P, m, er, rv, h, l⟩ := q
  cases rv with
  | nil => simp only [asgsW] at h
  | cons r1 rr =>
    simp only [asgsW] at h
    exact ⟨_, _, rfl, F, B, s, _, r, _, m, er, r1, h, fun r' σ' er' h' a => ⟨F, B, s, _, r', P, m, er', rr, h', fun r'' σ'' er'' h'' b => l r'' σ'' er'' h'' (a.app b)⟩⟩
mutual
theorem asgW_ex : ∀ (t : T) (d : D) (r : Rho) (P : Rho → Prop), asgW t d r P → ∃ r', P r'
  | .nm i, d, r, P, h => by simp only [asgW] at h; exact ⟨_, h⟩
  | .tp ts, d, r, P, h => by
    cases d <;> simp only [asgW] at h
    · exact (asgsW_ex ts _ r P h).2
    · exact (asgsW_ex ts _ r P h).2
theorem asgsW_ex : ∀ (ts : List T) (ds : List D) (r : Rho) (P : Rho → Prop), asgsW ts ds r P → ds.length = ts.length ∧ ∃ r', P r'
  | [], [], r, P, h => by simp only [asgsW] at h; exact ⟨rfl, _, h⟩
  | [], _ :: _, r, P, h => by simp only [asgsW] at h
  | _ :: _, [], r, P, h => by simp only [asgsW] at h
  | t :: ts, d :: ds, r, P, h => by
    simp only [asgsW] at h
    obtain ⟨r', h'⟩ := asgW_ex t d r _ h
    obtain ⟨e, q⟩ := asgsW_ex ts ds r' P h'
    exact ⟨by rw [List.length_cons, List.length_cons, e], q⟩
end
theorem assign_len {env : Env} : ∀ {es : List Expr}, es.all notStar = true → (assignEach es env).length = es.length ∧ (assignEach es env).findIdx? (·.1) = none
  | [], _ => ⟨rfl, rfl⟩
  | e :: es, h => by
    rw [List.all_cons, Bool.and_eq_true] at h
    obtain ⟨h1, h2⟩ := assign_len (env := env) h.2
    rw [assign_cons h.1]
    refine ⟨by rw [List.length_cons, List.length_cons, h1], ?_⟩
    rw [List.findIdx?_cons, h2]
    rfl
theorem dg_tup {ts : List T} {is : List Nat} {k : Nat} (hc : X.calm = true) (h' : PGs X es (gTs X.K is (asgsW ts))) (hs : es.all notStar = true) (hl : es.length = ts.length) : PG X (.Tuple es k pos) (gT X.K is (asgW (.tp ts))) := by
  refine ⟨fun pins s σ H v u Q I rr q => ?_⟩
  obtain ⟨F, B, st, d, r, P, m, er, rv, h, l⟩ := q
  cases d with
  | tup ds =>
    simp only [asgW] at h
    obtain ⟨a, vs, rfl, ht, rr'⟩ := tup_at m rv
    exact (pg_tup hc h' (assign_len hs).1 (assign_len hs).2).run pins s σ H _ u Q I rr ⟨a, vs, rfl, ht, by rw [rr'.length, hl]; exact (asgsW_ex ts ds r P h).1, F, B, st, ds, r, P, m, er, rr', h, l⟩
  | lv ds =>
    simp only [asgW] at h
    obtain ⟨a, vs, rfl, ht, rr'⟩ := view_at m rv (ds := ds) rfl
    exact (pg_lst hc h' (assign_len hs).1 (assign_len hs).2).run pins s σ H _ u Q I rr ⟨a, vs, rfl, .inl (.inl ht), by rw [rr'.length, hl]; exact (asgsW_ex ts ds r P h).1, F, B, st, ds, r, P, m, er, rr', h, l⟩
  | _ => simp only [asgW] at h
end
end IR

set_option Elab.async false
set_option linter.all false
set_option maxRecDepth 100000
/-! Soe: enumerate over lists and tuples, with a start. -/
namespace IR
open PySem PySem.Spec PyProof.Rows L2
/-- a list, a tuple (tp) -/
def SqQ (K : PySem.W.Frag) (tp : Bool) (H : Hp) (a : Addr) (xs : List V) : Prop := match tp with
  | true => SqT K H a xs
  | false => SqL K H a xs
def ItIs (tp : Bool) (h : Heap) (it a : Addr) (i : Nat) : Prop := match tp with
  | true => h.IsTupleIter it a i
  | false => h.IsListIter it a i
def IsQ (tp : Bool) (h : Heap) (a : Addr) (its : Array Value) : Prop := match tp with
  | true => h.IsTuple a its
  | false => h.IsList a its
section
variable {X : Cx} {pins : List (Addr × Obj)} {σ : L2.St} {H : Hp} {s : Shared} {tp : Bool} {a : Addr} {xs ys : List V}
theorem inv_q (I : L2.Inv X pins σ H s) (h : SqQ X.K tp H a xs) : ∃ its : List Value, Vals xs its ∧ IsQ tp s.heap a its.toArray := by
  cases tp with
  | true => obtain ⟨its, rv, p, hz⟩ := I.tuple h; exact ⟨its, rv, p⟩
  | false => obtain ⟨its, rv, p, hz⟩ := I.list h; exact ⟨its, rv, p.isList⟩
theorem inj_q (I : L2.Inv X pins σ H s) (h : SqQ X.K tp H a xs) (h' : SqQ X.K tp H a ys) : xs = ys := by
  cases tp with
  | true => exact I.tuple_inj h h'
  | false => exact I.list_inj h h'
end
theorem ItIs.at {tp : Bool} {h h' : Heap} {it a : Addr} {i : Nat} (x : ItIs tp h it a i) (k : ∀ o, h.get? it = some o → h'.get? it = some o) : ItIs tp h' it a i := by
  cases tp with
  | true => exact Heap.IsTupleIter.at x k
  | false => exact Heap.IsListIter.at x k
theorem IsQ.at {tp : Bool} {h h' : Heap} {a : Addr} {its : Array Value} (x : IsQ tp h a its) (k : ∀ o, h.get? a = some o → h'.get? a = some o) : IsQ tp h' a its := by
  cases tp with
  | true => exact Heap.IsTuple.at x k
  | false => exact Heap.IsList.at x k
theorem ItIs.obj {tp : Bool} {h : Heap} {it a : Addr} {i : Nat} (x : ItIs tp h it a i) : ∃ o, h.get? it = some o ∧ (∀ v, o.data ≠ .cell v) ∧ ∀ xs n, o.data ≠ .seq xs n := by
  cases tp with
  | true =>
    obtain ⟨o, ho, hc, hd⟩ := x
    exact ⟨o, ho, ⟨fun v q => (by rw [hd] at q; cases q), fun v n q => (by rw [hd] at q; cases q)⟩⟩
  | false =>
    obtain ⟨o, ho, hc, hd⟩ := x
    exact ⟨o, ho, ⟨fun v q => (by rw [hd] at q; cases q), fun v n q => (by rw [hd] at q; cases q)⟩⟩
theorem IsQ.obj {tp : Bool} {h : Heap} {a : Addr} {its : Array Value} (x : IsQ tp h a its) : ∃ o xs n, h.get? a = some o ∧ o.data = .seq xs n := by
  cases tp with
  | true =>
    obtain ⟨o, ho, hc, n, hd⟩ := x
    exact ⟨o, _, _, ho, hd⟩
  | false =>
    obtain ⟨o, ho, hc, n, hd⟩ := x
    exact ⟨o, _, _, ho, hd⟩
theorem draws_q {prog : Program} {w : World} {A : Around} (hh : A.handled = none) (tp : Bool) (it a : Addr) (hne : a ≠ it) (its : Array Value) :
    Draws prog w A it [it, a] its.size (fun i v => its[i]? = some v) (fun i h => ItIs tp h it a i ∧ IsQ tp h a its) := by
  cases tp with
  | true => exact Draws.tuple hh it a hne its
  | false => exact Draws.list hh it a hne its
/-- each item with its number, from c on, in a new pair -/
def IteQ (K : PySem.W.Frag) (tp : Bool) (a : Addr) (c : Int) : L2.It :=
  ⟨fun i H => ∃ (xs : List V) (x : V), SqQ K tp H a xs ∧ xs[i]? = some x, fun i H v H' => ∃ T x, v = .ref T ∧ H T = none ∧ H' = L2.upd H T (.tup [.int (c + (i : Nat)), x]) ∧ ∀ xs, SqQ K tp H a xs → xs[i]? = some x, fun i H => ∃ xs : List V, SqQ K tp H a xs ∧ xs.length = i⟩
theorem turn_enumQ {P : Program} {w : World} {K : PySem.W.Frag} {elts : List Expr} {kk : Nat} {tpos : Pos} (tp : Bool) (a e it : Addr) (c : Int) :
    Turn P w K (.Tuple elts kk tpos) (IteQ K tp a c) [e, it] e (fun i h => (∃ old, IsEnum h e it (c + ((i : Nat) : Int)) old) ∧ ItIs tp h it a i ∧ e ≠ it) where
  mem := by simp
  obj := fun i h st b hb => by
    obtain ⟨⟨old, he⟩, hi, _⟩ := st
    obtain ⟨o, ho, h1, h2⟩ := hi.obj
    have e' : b = e ∨ b = it := by simpa using hb
    rcases e' with z | z
    · rw [z]; exact ⟨_, he, fun v q => nomatch q⟩
    · rw [z]; exact ⟨o, ho, h1⟩
  keep := fun i h h' st k => let ⟨⟨old, he⟩, hi, hne⟩ := st; ⟨⟨old, k e (by simp) _ he⟩, hi.at fun o q => k it (by simp) o q, hne⟩
  item := by
    intro X hP hw hK hc i pins s σ H E I hf st hg
    subst hP hw hK
    obtain ⟨⟨old, he⟩, hit, hne⟩ := st
    obtain ⟨xs, x, hq, hx⟩ := hg
    obtain ⟨its, rv, p⟩ := inv_q I hq
    obtain ⟨u, hu, ru⟩ := rv.get hx
    obtain ⟨oi, hoi, _, ns⟩ := hit.obj
    obtain ⟨oa, xa, na, hoa, hda⟩ := p.obj
    have hai : a ≠ it := fun z => by rw [z, hoi] at hoa; cases hoa; exact ns _ _ hda
    have hae : e ≠ a := fun z => by
      rw [← z] at hoa
      have he' : s.heap.get? e = some _ := he
      rw [he'] at hoa
      cases hoa
      cases hda
    have hel : e < s.heap.objs.size := Heap.lt_size he
    have hil : it < s.heap.objs.size := Heap.lt_size hoi
    have hlt : i < its.toArray.size := by
      have := (List.getElem?_eq_some_iff.mp hu).1
      simpa using this
    refine wpAny_pyNext_enum_itemC (draws_q (A := X.A.in1) (I.ok.hd hc) tp it a hai its.toArray) he ⟨hit, p⟩ hlt hne (by simp [hne, hae]) fun x' h' tk hP ho hit' hT hsz hk => ?_
    have ex : x' = u := by
      have h1 : its.toArray[i]? = some x' := hP
      rw [List.getElem?_toArray, hu] at h1
      cases h1; rfl
    subst ex
    refine ⟨_, rfl, wpAny_letOwnedTupleGo_enum (s := { s with heap := h', toks := tk + 1 }) ho fun h'' he' sb => ?_⟩
    have hT2 : h''.get? s.heap.objs.size = some { cls := .type "tuple", data := .seq #[.int (c + i) tk, x'] } := (sb.2 _ (Nat.ne_of_gt hel)).trans hT
    have new : ObjOk X.prog X.w (L2.upd H s.heap.objs.size (.tup [.int (c + (i : Nat)), x])) h'' s.heap.objs.size (.tup [.int (c + (i : Nat)), x]) :=
      ⟨by show 2 ≤ sizeLine; decide, [.int (c + i) tk, x'], .cons ⟨_, rfl⟩ (.cons ru .nil), ⟨_, hT2, rfl, _, rfl⟩⟩
    have I1 : L2.Inv X pins σ (L2.upd H s.heap.objs.size (.tup [.int (c + (i : Nat)), x])) { s with heap := h'', toks := tk + 1 } :=
      I.turnedNew (ch := [e, it]) (fun b ob hb q => (sb.2 b (fun z => hb (by simp [z]))).trans (hk b ob (fun z => hb (by simp [z])) (fun z => hb (by simp [z])) q)) hf (Nat.le_refl _) new
    refine ⟨.ref s.heap.objs.size, _, I1, rfl, ⟨_, x, rfl, I.hok.fresh (Nat.le_refl _), rfl, fun ys hy => by rw [inj_q I hy hq]; exact hx⟩, ⟨⟨x', ?_⟩, hit'.1.at fun o q => (sb.2 it (Ne.symm hne)).trans q, hne⟩, fun b hb => ?_⟩
    · have e1 : c + ((i + 1 : Nat) : Int) = c + (i : Int) + 1 := by omega
      rw [e1]; exact he'
    · have hb' : b < s.heap.objs.size := by
        have e' : b = e ∨ b = it := by simpa using hb
        rcases e' with z | z
        · rw [z]; exact hel
        · rw [z]; exact hil
      rw [upd_ne (Nat.ne_of_lt hb')]
      exact (hf b hb).1
  done := by
    intro X hP hw hK hc i pins s σ H E I hf st hg
    subst hP hw hK
    obtain ⟨⟨old, he⟩, hit, hne⟩ := st
    obtain ⟨xs, hq, hx⟩ := hg
    obtain ⟨its, rv, p⟩ := inv_q I hq
    obtain ⟨oi, hoi, _, ns⟩ := hit.obj
    obtain ⟨oa, xa, na, hoa, hda⟩ := p.obj
    have hai : a ≠ it := fun z => by rw [z, hoi] at hoa; cases hoa; exact ns _ _ hda
    obtain ⟨f0, f1, f2, f3, f4, f5⟩ := hf it (by simp)
    have hl := rv.length
    have en : its.toArray.size = i := by simp; omega
    have D := draws_q (prog := X.prog) (w := X.w) (A := X.A.in1) (I.ok.hd hc) tp it a hai its.toArray
    rw [en] at D
    exact wpAny_pyNext_enum_endD D he ⟨hit, p⟩ fun h' eb => ⟨rfl, I.turned (t' := s.toks) (fun b o hb q => eb b o hb q) f0 f1 f3 f4 f5⟩
  self := fun A i s Q E st h => let ⟨⟨_, he⟩, _⟩ := st; wpAny_pyIter_enum he h
theorem walk_enumQ {K : PySem.W.Frag} {tp : Bool} {a : Addr} {c : Int} {xs : List V} (inj : ∀ H ys, SqQ K tp H a xs → SqQ K tp H a ys → ys = xs) : True := trivial
/-! ### the calls -/
theorem meets_enumerate_newB1 {v : Value} {o : Obj} {H : Heap → Prop} (B : Begins v o H) :
    Meets (Builtin.«enumerate.__new__» ⟨[.type "enumerate", v], []⟩) (fun _ R s => H s.heap ∧
      R (.ok (.ret (.ref (s.heap.push o).objs.size))) { s with heap := (s.heap.push o).push { cls := .type "enumerate", data := .fields #[.none, .bool false, .ref s.heap.objs.size, rawInt 0, .none, .none] } }) :=
  .of_wp fun prog w A R s h => by
    obtain ⟨hp, g, d, tk, os⟩ := s; obtain ⟨h1, h⟩ := h
    have hsub := sub_enumerate
    have q1 : ∀ {A' : Around} {E : Value → Shared → Prop} {Q : Value → Shared → Prop}, Q (.ref hp.objs.size) ⟨hp.push o, g, d, tk, os⟩ → wpAny (model prog w) A' (pyIter v) Q E ⟨hp, g, d, tk, os⟩ :=
      fun q => B.iter prog w _ _ ⟨hp, g, d, tk, os⟩ _ h1 q
    wp_walk using q1
    refine wpAny_stack_any fun st => wpAny_pure ?_
    split
    · rename_i c _ _ _ _ _
      cases (c == Value.type "enumerate")
      · wp_walk using q1
        exact ⟨_, rfl, h⟩
      · wp_walk using q1
        exact ⟨_, rfl, h⟩
    · wp_walk using q1
      exact ⟨_, rfl, h⟩
theorem enum_begins1 {prog : Program} {w : World} {A : Around} {E : Value → Shared → Prop} {s : Shared} {v : Value} {o : Obj} {H : Heap → Prop} {Q : Value → Shared → Prop} (B : Begins v o H) (h1 : H s.heap)
    (h : ∀ h', IsEnum h' (s.heap.objs.size + 1) s.heap.objs.size 0 .none → h'.get? s.heap.objs.size = some o → h'.objs.size = s.heap.objs.size + 2 →
      (∀ b o, s.heap.get? b = some o → h'.get? b = some o) → Q (.ref (s.heap.objs.size + 1)) { s with heap := h' }) :
    wpAny (model prog w) A (call (.type "enumerate") [v]) Q E s := by
  refine callType_new F.called_enumerate (by decide) (F.typeCall_enumerate_1 _) (F.newCall_enumerate_1 _) (fun obj => F.args_object_init_2 obj _) F.entry_enumerate_new
    (meets_enumerate_newB1 B) ⟨h1, ?_⟩
  have hz : (s.heap.push o).objs.size = s.heap.objs.size + 1 := Heap.size_push ..
  show _ ∧ _
  rw [hz]
  have he : IsEnum ((s.heap.push o).push { cls := .type "enumerate", data := .fields #[.none, .bool false, .ref s.heap.objs.size, rawInt 0, .none, .none] }) (s.heap.objs.size + 1) s.heap.objs.size 0 .none := by
    have := Heap.get?_push_size (s.heap.push o) (o := { cls := .type "enumerate", data := .fields #[.none, .bool false, .ref s.heap.objs.size, rawInt 0, .none, .none] }) rfl
    rw [hz] at this; exact this
  refine ⟨⟨_, he, rfl⟩, h _ he (Heap.get?_push_of_some _ (Heap.get?_push_size _ B.free)) (by rw [Heap.size_push, hz]) fun b o x => Heap.get?_push_of_some _ (Heap.get?_push_of_some _ x)⟩
/-- an enumerate object that has just been made -/
theorem enum_start {X : Cx} {elts : List Expr} {kk : Nat} {tpos : Pos} {pins : List (Addr × Obj)} {σ : L2.St} {H : Hp} {s : Shared} {R : L2.It → Hp → Prop} {tp : Bool} {a : Addr} {c : Int} {h' : Heap} (I : L2.Inv X pins σ H s) 
    (he : IsEnum h' (s.heap.objs.size + 1) s.heap.objs.size c .none) (hi : ItIs tp h' s.heap.objs.size a 0) (hk : ∀ b o, s.heap.get? b = some o → h'.get? b = some o) (q : R (IteQ X.K tp a c) H) :
    wpAny (model X.prog X.w) X.A (pyIter (.ref (s.heap.objs.size + 1))) (PIE X pins σ (.Tuple elts kk tpos) R) X.xe { s with heap := h' } := by
  refine wpAny_pyIter_enum he ?_
  have I2 : L2.Inv X pins σ H { s with heap := h' } := I.kept (t' := s.toks) hk
  refine ⟨s.heap.objs.size + 1, [s.heap.objs.size + 1, s.heap.objs.size], _, _, H, rfl, I2, turn_enumQ tp a (s.heap.objs.size + 1) s.heap.objs.size c, ⟨⟨.none, by rw [show c + ((0 : Nat) : Int) = c by omega]; exact he⟩, hi, Nat.succ_ne_self _⟩, fun b hb => ?_, q⟩
  have e' : b = s.heap.objs.size + 1 ∨ b = s.heap.objs.size := by simpa using hb
  have hle : s.heap.objs.size ≤ b := by
    rcases e' with z | z
    · rw [z]; exact Nat.le_add_right _ _
    · rw [z]; exact Nat.le_refl _
  exact I.fpOk hle (I.hok.fresh hle)
def iEnumQ (K : PySem.W.Frag) (ta : TA) : TI := fun σ H R => ta σ H fun vs H1 => ∃ a xs tp c, (vs = [.ref a] ∧ c = 0 ∨ vs = [.ref a, .int c] ∧ -(2 ^ 63) ≤ c ∧ c < 2 ^ 63) ∧ SqQ K tp H1 a xs ∧ R (IteQ K tp a c) H1
theorem pi_enumQ {X : Cx} {e : Expr} {es : List Expr} {ta : TA} {p pos tpos : Pos} {elts : List Expr} {kk : Nat} (hg : Gl X "enumerate") (hm : X.mg "enumerate" = none) (ha : PA X (e :: es) ta) (hs : starEach (e :: es) X.env = (false, eval e X.env) :: starEach es X.env)
    (hpl : (backTo pos (starEach es X.env)).any (·.1) = false) : PI X (.Tuple elts kk tpos) (.Call (.Name "enumerate" p) (e :: es) [] pos) (iEnumQ X.K ta) := by
  refine ⟨fun pins s σ H R I h => ?_⟩
  refine Call_ (ld_blt I hg hm boot_enumerate (PyProof.Rows.callWith_type1 (thn (ha.run pos pins s σ H _ I h) fun us s1 ⟨vs, H1, I1, r1, q1⟩ => ?_) hs hpl))
  obtain ⟨a, xs, tp, c, alt, hq, q⟩ := q1
  obtain ⟨its, rv, p'⟩ := inv_q I1 hq
  have iti : ∀ {h' : Heap} {ty : String}, ty = (if tp then "tuple_iterator" else "list_iterator") → h'.get? s1.heap.objs.size = some { cls := .type ty, data := .fields #[.ref a, .int 0 0] } → ItIs tp h' s1.heap.objs.size a 0 := by
    intro h' ty e1 e2
    subst e1
    cases tp with
    | true => exact ⟨_, e2, rfl, rfl⟩
    | false => exact ⟨_, e2, rfl, rfl⟩
  rcases alt with ⟨rfl, rfl⟩ | ⟨rfl, c1, c2⟩
  · cases r1 with
    | cons r rr =>
      cases rr
      cases r
      cases tp with
      | true => exact enum_begins1 (begins_tuple a its.toArray) p' fun h' he hit hsz hk => enum_start I1 he (iti rfl hit) hk q
      | false => exact enum_begins1 (begins_list a its.toArray) p' fun h' he hit hsz hk => enum_start I1 he (iti rfl hit) hk q
  · cases r1 with
    | cons r rr =>
      cases rr with
      | cons r2 rr =>
        cases rr
        cases r
        obtain ⟨t, rfl⟩ := r2
        cases tp with
        | true => exact enum_begins (begins_tuple a its.toArray) p' c1 c2 fun h' he hit hsz hk => enum_start I1 he (iti rfl hit) hk q
        | false => exact enum_begins (begins_list a its.toArray) p' c1 c2 fun h' he hit hsz hk => enum_start I1 he (iti rfl hit) hk q
end IR

set_option Elab.async false
set_option linter.all false
set_option maxRecDepth 100000
/-! So5: what is walked, comprehensions, statements. -/
namespace IR
open PySem PySem.Spec PyProof.Rows L2 RZ
variable [A : Anchor]

abbrev WI := Rho → S → (List D → (S → Prop) → S → Prop) → Prop
/-- J walks these data while chk holds -/
def ItOk (K : PySem.W.Frag) (F B : Hp) (J : L2.It) (ds : List D) (chk : S → Prop) : Prop := ∀ F' B' s' H', FLe F F' → FLe B B' → Sim K F' B' s' H' → chk s' →
  (∀ i, i < ds.length → J.go i H') ∧ J.stop ds.length H' ∧ ∀ i x H'', i < ds.length → J.yld i H' x H'' → ∃ F'' d, FLe F' F'' ∧ Sim K F'' B' s' H'' ∧ ds[i]? = some d ∧ Rep K F'' x d
theorem ItOk.mono {K : PySem.W.Frag} {F F' B B' : Hp} {J : L2.It} {ds : List D} {chk : S → Prop} (h : ItOk K F B J ds chk) (l : FLe F F') (lb : FLe B B') : ItOk K F' B' J ds chk := fun G C s' H' l' lb' => h G C s' H' (l.trans l') (lb.trans lb')
def tI (K : PySem.W.Frag) (w : WI) : TI := fun σ H R => ∃ F B s r P, Sim K F B s H ∧ EnvR K F σ r ∧ w r s P ∧ ∀ ds chk s' F' H' J, FLe F F' → Sim K F' B s' H' → ItOk K F' B J ds chk → chk s' → P ds chk s' → R J H'
theorem rng_len : ∀ (n : Nat) (lo : Int), (rngD lo n).length = n
  | 0, _ => rfl
  | n + 1, lo => by rw [rngD, List.length_cons, rng_len n]
theorem rng_get : ∀ (n : Nat) (lo : Int) (i : Nat), i < n → (rngD lo n)[i]? = some (.int (lo + i))
  | 0, _, _, h => by omega
  | n + 1, lo, 0, _ => by rw [rngD]; simp
  | n + 1, lo, i + 1, h => by
    rw [rngD, List.getElem?_cons_succ, rng_get n (lo + 1) i (by omega)]
    congr 2
    omega
theorem enum_len : ∀ (ds : List D) (i : Nat), (enumD i ds).length = ds.length
  | [], _ => rfl
  | d :: ds, i => by rw [enumD, List.length_cons, List.length_cons, enum_len ds]
theorem enum_get : ∀ (ds : List D) (i j : Nat) (d : D), ds[j]? = some d → (enumD i ds)[j]? = some (.tup [.int (i + j : Nat), d])
  | [], _, _, _, h => by simp at h
  | d :: ds, i, 0, e, h => by simp at h; subst h; simp [enumD]
  | d :: ds, i, j + 1, e, h => by
    rw [enumD, List.getElem?_cons_succ, enum_get ds (i + 1) j e (by simpa using h)]
    congr 3
    simp only [List.cons.injEq, D.int.injEq, and_true]
    omega
theorem zip_len : ∀ (xs ys : List D), (zipD xs ys).length = min xs.length ys.length
  | [], _ => by simp [zipD]
  | _ :: _, [] => by simp [zipD]
  | x :: xs, y :: ys => by
    rw [zipD, List.length_cons, zip_len xs ys, List.length_cons, List.length_cons]
    omega
theorem zip_get : ∀ (xs ys : List D) (i : Nat) (x y : D), xs[i]? = some x → ys[i]? = some y → (zipD xs ys)[i]? = some (.tup [x, y])
  | [], _, _, _, _, h, _ => by simp at h
  | _ :: _, [], _, _, _, _, h => by simp at h
  | x :: xs, y :: ys, 0, _, _, h1, h2 => by simp at h1 h2; subst h1 h2; simp [zipD]
  | x :: xs, y :: ys, i + 1, a, b, h1, h2 => by
    rw [zipD, List.getElem?_cons_succ]
    exact zip_get xs ys i a b (by simpa using h1) (by simpa using h2)
/-- a walk of what stands -/
theorem ItOk.of {K : PySem.W.Frag} {F B : Hp} {J : L2.It} {ds : List D} {chk : S → Prop} {G : Hp → Prop} {Y : Nat → Hp → V → Hp → Prop} (w : Walk J ds.length G Y)
    (hg : ∀ F' B' s' H', FLe F F' → FLe B B' → Sim K F' B' s' H' → chk s' → G H')
    (hy : ∀ F' B' s' H' i x H'', FLe F F' → FLe B B' → Sim K F' B' s' H' → chk s' → i < ds.length → Y i H' x H'' → ∃ F'' d, FLe F' F'' ∧ Sim K F'' B' s' H'' ∧ ds[i]? = some d ∧ Rep K F'' x d) : ItOk K F B J ds chk :=
  fun F' B' s' H' l lb m c => ⟨fun i hi => w.goes i H' hi (hg F' B' s' H' l lb m c), w.stops H' (hg F' B' s' H' l lb m c), fun i x H'' hi hy' => hy F' B' s' H' i x H'' l lb m c hi (w.yields i H' x H'' hi (hg F' B' s' H' l lb m c) hy')⟩
/-- the pair that a walk makes -/
theorem pair_ok {K : PySem.W.Frag} {F B : Hp} {s : S} {H H'' : Hp} {x : V} {xs ys : Nat → Option V} {i : Nat} {a b : V} {d e : D} (m : Sim K F B s H) (h : YPair xs ys i H x H'') (ha : xs i = some a) (hb : ys i = some b) (ra : Rep K F a d) (rb : Rep K F b e) :
    ∃ F'', FLe F F'' ∧ Sim K F'' B s H'' ∧ Rep K F'' x (.tup [d, e]) := by
  obtain ⟨T, u, v, rfl, hT, rfl, h1, h2⟩ := h
  rw [ha] at h1; cases h1
  rw [hb] at h2; cases h2
  exact ⟨L2.upd F T (.tup [a, b]), FLe.upd (m.fnone hT), m.ice hT, .tup upd_same ((Reps.cons ra (.cons rb .nil)).mono (FLe.upd (m.fnone hT)))⟩
/-- what seqW hands on: a list or a tuple that stands -/
theorem seq_at {K : PySem.W.Frag} {F B : Hp} {s : S} {H : Hp} {v : V} {d : D} {P : List D → (S → Prop) → S → Prop} (m : Sim K F B s H) (r : Rep K F v d) (h : seqW d s P) :
    ∃ (a : Addr) (vs : List V) (ds : List D) (chk : S → Prop), v = .ref a ∧ Reps K F vs ds ∧ chk s ∧ P ds chk s ∧
      (((∃ es, d = .tup es) ∧ SqT K H a vs ∧ ∀ F' B' s' H', FLe F F' → FLe B B' → Sim K F' B' s' H' → chk s' → SqT K H' a vs ∧ Reps K F' vs ds) ∨
       ((∀ es, d ≠ .tup es) ∧ SqL K H a vs ∧ ∀ F' B' s' H', FLe F F' → FLe B B' → Sim K F' B' s' H' → chk s' → ∃ us, SqL K H' a us ∧ Reps K F' us ds)) := by
  unfold seqW at h
  split at h
  · cases r with
    | tup e rr => exact ⟨_, _, _, fun _ => True, rfl, rr, trivial, h, .inl ⟨⟨_, rfl⟩, .inl (.inl (m.fr _ _ e)), fun F' B' s' H' l _ m' _ => ⟨.inl (.inl (m'.fr _ _ (l _ _ e))), rr.mono l⟩⟩⟩
    | ktup e rr => exact ⟨_, _, _, fun _ => True, rfl, rr, trivial, h, .inl ⟨⟨_, rfl⟩, .inr e, fun F' B' s' H' l _ m' _ => ⟨.inr e, rr.mono l⟩⟩⟩
  · cases r with
    | lv e rr => exact ⟨_, _, _, fun _ => True, rfl, rr, trivial, h, .inr ⟨(fun _ z => nomatch z), .inl (.inl (m.fr _ _ e)), fun F' B' s' H' l _ m' _ => ⟨_, .inl (.inl (m'.fr _ _ (l _ _ e))), rr.mono l⟩⟩⟩
  · split at h
    · rename_i a _ ds e
      cases r
      obtain ⟨_, _, vs, e1, rr⟩ := m.mu _ _ e
      refine ⟨_, _, _, fun s' => s' a = some (.lst ds), rfl, rr, e, h, .inr ⟨(fun _ z => nomatch z), .inl (.inl e1), fun F' B' s' H' l _ m' c => ?_⟩⟩
      obtain ⟨_, _, us, e2, rr2⟩ := m'.mu _ _ c
      exact ⟨us, .inl (.inl e2), rr2⟩
    · exact h.elim
  · exact h.elim
theorem tup_stay {K : PySem.W.Frag} {F B : Hp} {v : V} {ds : List D} (r : Rep K F v (.tup ds)) : ∃ a vs, v = .ref a ∧ Reps K F vs ds ∧ ∀ F' B' s' H', FLe F F' → FLe B B' → Sim K F' B' s' H' → SqT K H' a vs ∧ Reps K F' vs ds := by
  cases r with
  | tup e rr => exact ⟨_, _, rfl, rr, fun F' B' s' H' l _ m' => ⟨.inl (.inl (m'.fr _ _ (l _ _ e))), rr.mono l⟩⟩
  | ktup e rr => exact ⟨_, _, rfl, rr, fun F' B' s' H' l _ m' => ⟨.inr e, rr.mono l⟩⟩
/-- a walk whose list may be laid down anew with equal data: the items are read at each turn -/
theorem list_walk {K : PySem.W.Frag} {F B : Hp} {a : Addr} {ds : List D} {chk : S → Prop} (st : ∀ F' B' s' H', FLe F F' → FLe B B' → Sim K F' B' s' H' → chk s' → ∃ us, SqL K H' a us ∧ Reps K F' us ds) : ItOk K F B (Itl K a) ds chk := fun F' B' s' H' l lb m c => by
  obtain ⟨us, h, rr⟩ := st F' B' s' H' l lb m c
  have hl := rr.length
  have w := walk_list (K := K) (a := a) (xs := us)
  rw [hl] at w
  refine ⟨fun i hi => w.goes i H' hi h, w.stops H' h, fun i x H'' hi hy => ?_⟩
  obtain ⟨rfl, hx⟩ := w.yields i H' x H'' hi h hy
  obtain ⟨d, hd, rd⟩ := rr.get' hx
  exact ⟨F', d, FLe.refl F', m, hd, rd⟩
theorem tup_walk {K : PySem.W.Frag} {F B : Hp} {a : Addr} {vs : List V} {ds : List D} {chk : S → Prop} (hl : vs.length = ds.length) (st : ∀ F' B' s' H', FLe F F' → FLe B B' → Sim K F' B' s' H' → chk s' → SqT K H' a vs ∧ Reps K F' vs ds) : ItOk K F B (Itt K a) ds chk := fun F' B' s' H' l lb m c => by
  obtain ⟨h, rr⟩ := st F' B' s' H' l lb m c
  have w := walk_tup (K := K) (a := a) (xs := vs)
  rw [hl] at w
  refine ⟨fun i hi => w.goes i H' hi h, w.stops H' h, fun i x H'' hi hy => ?_⟩
  obtain ⟨rfl, hx⟩ := w.yields i H' x H'' hi h hy
  obtain ⟨d, hd, rd⟩ := rr.get' hx
  exact ⟨F', d, FLe.refl F', m, hd, rd⟩
section
variable {X : Cx} {tg e a b : Expr} {p pos : Pos} {wa wb : WE}
theorem di_seq (ha : PE X e (tD X.K wa)) : PI X tg e (tI X.K fun r s P => wa r s fun x s1 => seqW x s1 P) := by
  refine ⟨fun pins s σ H R I q => ?_⟩
  obtain ⟨F, B, st, r, P, m, er, h, l⟩ := q
  refine thn (ha.run pins s σ H (fun v H1 => ∃ d F1 s1, FLe F F1 ∧ Sim X.K F1 B s1 H1 ∧ Rep X.K F1 v d ∧ seqW d s1 P) I ⟨F, B, st, r, _, m, er, h, fun d s1 F1 H1 v l1 m1 r1 h1 => ⟨d, F1, s1, l1, m1, r1, h1⟩⟩) fun v s1 ⟨x, H1, I1, rx, d, F1, st1, l1, m1, r1, h1⟩ => ?_
  obtain ⟨ad, vs, ds, chk, rfl, rr, c, h2, alt⟩ := seq_at m1 r1 h1
  cases rx
  rcases alt with ⟨_, ht, st⟩ | ⟨_, ht, st⟩
  · obtain ⟨its, rv, pp, hz⟩ := I1.tuple ht
    refine wpAny_pyIter_tuple (show s1.heap.IsTuple ad its.toArray from pp) ?_
    refine ⟨s1.heap.objs.size, [s1.heap.objs.size], _, _, H1, rfl, I1.kept (t' := s1.toks) fun b o e => Heap.get?_push_of_some _ e, turn_tuple ad _, ⟨_, Heap.get?_push_size _ rfl, rfl, rfl⟩, fun b hb => ?_, l ds chk st1 F1 H1 _ l1 m1 (tup_walk rr.length st) c h2⟩
    have e : b = s1.heap.objs.size := by simpa using hb
    subst e
    exact I1.fpOk (Nat.le_refl _) (I1.hok.fresh (Nat.le_refl _))
  · obtain ⟨its, rv, pp, hz⟩ := I1.list ht
    refine wpAny_pyIter_list pp.isList ?_
    refine ⟨s1.heap.objs.size, [s1.heap.objs.size], _, _, H1, rfl, I1.kept (t' := s1.toks) fun b o e => Heap.get?_push_of_some _ e, turn_list ad _, ⟨_, Heap.get?_push_size _ rfl, rfl, rfl⟩, fun b hb => ?_, l ds chk st1 F1 H1 _ l1 m1 (list_walk st) c h2⟩
    have e : b = s1.heap.objs.size := by simpa using hb
    subst e
    exact I1.fpOk (Nat.le_refl _) (I1.hok.fresh (Nat.le_refl _))
theorem rng_ok {K : PySem.W.Frag} {F B : Hp} {lo : Int} {n : Nat} : ItOk K F B (Itr lo n) (rngD lo n) fun _ => True := by
  have w := walk_range (lo := lo) (n := n)
  intro F' B' s' H' l lb m c
  rw [rng_len]
  refine ⟨fun i hi => w.goes i H' hi trivial, w.stops H' trivial, fun i x H'' hi hy => ?_⟩
  obtain ⟨rfl, rfl⟩ := w.yields i H' x H'' hi trivial hy
  exact ⟨F', _, FLe.refl F', m, rng_get n lo i hi, .int _⟩
theorem PI.of {t t' : TI} {tg e : Expr} (h : PI X tg e t) (i : ∀ σ H Q, t' σ H Q → t σ H Q) : PI X tg e t' := ⟨fun pins s σ H R I q => h.run pins s σ H R I (i σ H R q)⟩
theorem di_rng1 (hg : Gl X "range") (hm : X.mg "range" = none) (ha : PE X a (tD X.K wa)) (hs : notStar a = true) : PI X tg (.Call (.Name "range" p) [a] [] pos) (tI X.K fun r s P => wa r s fun x s1 => match x with
    | .int n => -(2 ^ 62) ≤ n ∧ n < 2 ^ 62 ∧ P (rngD 0 n.toNat) (fun _ => True) s1
    | _ => False) := by
  refine PI.of (pi_range1 hg hm (pa_cons ha pa_nil (star_cons hs)) (by rw [star_cons hs]; rfl)) fun σ H Q q => ?_
  obtain ⟨F, B, s, r, P, m, er, h, l⟩ := q
  refine ⟨F, B, s, r, _, m, er, h, fun d s1 F1 H1 v l1 m1 r1 h1 => ?_⟩
  split at h1
  · cases r1
    exact ⟨_, rfl, h1.1, h1.2.1, l _ _ s1 F1 H1 _ l1 m1 rng_ok trivial h1.2.2⟩
  · exact h1.elim
theorem di_rng2 (hg : Gl X "range") (hm : X.mg "range" = none) (ha : PE X a (tD X.K wa)) (hb : PE X b (tD X.K wb)) (h1 : notStar a = true) (h2 : notStar b = true) : PI X tg (.Call (.Name "range" p) [a, b] [] pos) (tI X.K fun r s P => wa r s fun x s1 => wb r s1 fun y s2 => match x, y with
    | .int i, .int j => (-(2 ^ 62) ≤ i ∧ i < 2 ^ 62 ∧ -(2 ^ 62) ≤ j ∧ j < 2 ^ 62) ∧ P (rngD i (j - i).toNat) (fun _ => True) s2
    | _, _ => False) := by
  refine PI.of (pi_range2 hg hm (pa_cons ha (pa_cons hb pa_nil (star_cons h2)) (star_cons h1)) (by rw [star_cons h1, star_cons h2]; rfl) (by rw [star_cons h2]; rfl)) fun σ H Q q => ?_
  obtain ⟨F, B, s, r, P, m, er, h, l⟩ := q
  refine ⟨F, B, s, r, _, m, er, h, fun d s1 F1 H1 v l1 m1 r1 h1 => ⟨F1, B, s1, r, _, m1, er.mono l1, h1, fun d2 s2 F2 H2 v2 l2 m2 r2 h2 => ?_⟩⟩
  split at h2
  · cases r1; cases r2
    exact ⟨_, _, rfl, h2.1, l _ _ s2 F2 H2 _ (l1.trans l2) m2 rng_ok trivial h2.2⟩
  · exact h2.elim
theorem enum_walkQ {K : PySem.W.Frag} {F B : Hp} {tp : Bool} {a : Addr} {c : Nat} {ds : List D} {chk : S → Prop} (st : ∀ F' B' s' H', FLe F F' → FLe B B' → Sim K F' B' s' H' → chk s' → ∃ us, SqQ K tp H' a us ∧ Reps K F' us ds) : ItOk K F B (IteQ K tp a c) (enumD c ds) chk := fun F' B' s' H' l lb m ck => by
  obtain ⟨us, h, rr⟩ := st F' B' s' H' l lb m ck
  have hl := rr.length
  rw [enum_len]
  refine ⟨fun i hi => ⟨us, us[i], h, List.getElem?_eq_getElem (by omega)⟩, ⟨us, h, hl⟩, fun i x H'' hi hy => ?_⟩
  obtain ⟨T, x1, e1, e2, e3, e4⟩ := hy
  obtain ⟨d, hd⟩ : ∃ d, ds[i]? = some d := ⟨_, List.getElem?_eq_getElem hi⟩
  obtain ⟨u, hu, ru⟩ := rr.get hd
  have hx := e4 us h
  obtain ⟨F'', l2, m2, r2⟩ := pair_ok (xs := fun _ => some (.int ((c : Int) + (i : Nat)))) (ys := fun i => us[i]?) m ⟨T, .int ((c : Int) + (i : Nat)), x1, e1, e2, e3, rfl, hx⟩ rfl hu (.int _) ru
  have := enum_get ds c i d hd
  rw [show ((c + i : Nat) : Int) = (c : Int) + (i : Nat) by omega] at this
  exact ⟨F'', _, l2, m2, this, r2⟩
theorem enum_read {K : PySem.W.Frag} {ta : TA} {c : Nat} {vs : List V → Prop} {σ : L2.St} {H : Hp} {R : L2.It → Hp → Prop} (q : tI K (fun r s P => wa r s fun x s1 => seqW x s1 fun ds chk s2 => P (enumD c ds) chk s2) σ H R) 
    : tD K wa σ H fun v H1 => ∃ a xs tp, v = .ref a ∧ SqQ K tp H1 a xs ∧ R (IteQ K tp a c) H1 := by
  obtain ⟨F, B, s, r, P, m, er, h, l⟩ := q
  refine ⟨F, B, s, r, _, m, er, h, fun d s1 F1 H1 v l1 m1 r1 h1 => ?_⟩
  obtain ⟨ad, vs, ds, chk, rfl, rr, ck, h2, alt⟩ := seq_at m1 r1 h1
  rcases alt with ⟨_, ht, st⟩ | ⟨_, ht, st⟩
  · exact ⟨ad, vs, true, rfl, ht, l _ chk s1 F1 H1 _ l1 m1 (enum_walkQ (tp := true) fun F' B' s' H' a b c d => ⟨vs, st F' B' s' H' a b c d⟩) ck h2⟩
  · exact ⟨ad, vs, false, rfl, ht, l _ chk s1 F1 H1 _ l1 m1 (enum_walkQ (tp := false) st) ck h2⟩
theorem di_enum {elts : List Expr} {kk : Nat} {tpos : Pos} (hg : Gl X "enumerate") (hm : X.mg "enumerate" = none) (ha : PE X a (tD X.K wa)) (hs : notStar a = true) : PI X (.Tuple elts kk tpos) (.Call (.Name "enumerate" p) [a] [] pos) (tI X.K fun r s P => wa r s fun x s1 => seqW x s1 fun ds chk s2 => P (enumD 0 ds) chk s2) := by
  refine PI.of (pi_enumQ hg hm (pa_cons ha pa_nil (star_cons hs)) (star_cons hs) rfl) fun σ H Q q => ?_
  refine (show PE X a (tD X.K wa) from ha) |> fun _ => ?_
  have q2 := enum_read (ta := tNil) (vs := fun _ => True) q
  obtain ⟨F, B, s, r, P, m, er, h, l⟩ := q2
  exact ⟨F, B, s, r, P, m, er, h, fun d s1 F1 H1 v l1 m1 r1 h1 => by
    obtain ⟨a, xs, tp, rfl, h2, h3⟩ := l d s1 F1 H1 v l1 m1 r1 h1
    exact ⟨a, xs, tp, 0, .inl ⟨rfl, rfl⟩, h2, h3⟩⟩
theorem di_enum2 {elts : List Expr} {kk k2 : Nat} {c : Nat} {tpos p2 : Pos} (hg : Gl X "enumerate") (hm : X.mg "enumerate" = none) (ha : PE X a (tD X.K wa)) (hs : notStar a = true) (hc : c < 1000) : PI X (.Tuple elts kk tpos) (.Call (.Name "enumerate" p) [a, .Constant (.int c) k2 p2] [] pos) (tI X.K fun r s P => wa r s fun x s1 => seqW x s1 fun ds chk s2 => P (enumD c ds) chk s2) := by
  refine PI.of (pi_enumQ hg hm (pa_cons ha (pa_cons pe_int pa_nil) (star_cons hs)) (star_cons hs) rfl) fun σ H Q q => ?_
  have q2 := enum_read (ta := tNil) (vs := fun _ => True) q
  obtain ⟨F, B, s, r, P, m, er, h, l⟩ := q2
  exact ⟨F, B, s, r, P, m, er, h, fun d s1 F1 H1 v l1 m1 r1 h1 => by
    obtain ⟨a, xs, tp, rfl, h2, h3⟩ := l d s1 F1 H1 v l1 m1 r1 h1
    exact ⟨a, xs, tp, c, .inr ⟨rfl, by omega, by omega⟩, h2, h3⟩⟩
theorem zipL_walk {K : PySem.W.Frag} {F B : Hp} {a b : Addr} {ds es : List D} {chk chk' : S → Prop} (st : ∀ F' B' s' H', FLe F F' → FLe B B' → Sim K F' B' s' H' → chk s' → ∃ us, SqL K H' a us ∧ Reps K F' us ds)
    (st' : ∀ F' B' s' H', FLe F F' → FLe B B' → Sim K F' B' s' H' → chk' s' → ∃ us, SqL K H' b us ∧ Reps K F' us es) : ItOk K F B (Itz K a b) (zipD ds es) fun s => chk s ∧ chk' s := fun F' B' s' H' l lb m c => by
  obtain ⟨us, h, rr⟩ := st F' B' s' H' l lb m c.1
  obtain ⟨ws, h', rr'⟩ := st' F' B' s' H' l lb m c.2
  have w := walk_zip (K := K) (a := a) (b := b) (xs := us) (ys := ws) (n := (zipD ds es).length) (by rw [zip_len, rr.length, rr'.length])
  refine ⟨fun i hi => w.goes i H' hi ⟨h, h'⟩, w.stops H' ⟨h, h'⟩, fun i x H'' hi hy => ?_⟩
  have y := w.yields i H' x H'' hi ⟨h, h'⟩ hy
  rw [zip_len] at hi
  obtain ⟨d, hd⟩ : ∃ d, ds[i]? = some d := ⟨_, List.getElem?_eq_getElem (by omega)⟩
  obtain ⟨d', hd'⟩ : ∃ d, es[i]? = some d := ⟨_, List.getElem?_eq_getElem (by omega)⟩
  obtain ⟨u, hu, ru⟩ := rr.get hd
  obtain ⟨u', hu', ru'⟩ := rr'.get hd'
  obtain ⟨F'', l2, m2, r2⟩ := pair_ok m y hu hu' ru ru'
  exact ⟨F'', _, l2, m2, zip_get _ _ _ _ _ hd hd', r2⟩
theorem zipT_walk {K : PySem.W.Frag} {F B : Hp} {a b : Addr} {vs us : List V} {ds es : List D} {chk : S → Prop} (st : ∀ F' B' s' H', FLe F F' → FLe B B' → Sim K F' B' s' H' → SqT K H' a vs ∧ Reps K F' vs ds)
    (st' : ∀ F' B' s' H', FLe F F' → FLe B B' → Sim K F' B' s' H' → SqT K H' b us ∧ Reps K F' us es) (hl : vs.length = ds.length) (hl' : us.length = es.length) : ItOk K F B (ItzT K a b) (zipD ds es) chk := fun F' B' s' H' l lb m c => by
  obtain ⟨h, rr⟩ := st F' B' s' H' l lb m
  obtain ⟨h', rr'⟩ := st' F' B' s' H' l lb m
  rw [zip_len]
  refine ⟨fun i hi => ?_, ?_, fun i x H'' hi hy => ?_⟩
  · exact ⟨vs, us, vs[i], us[i], h, h', List.getElem?_eq_getElem (by omega), List.getElem?_eq_getElem (by omega)⟩
  · exact ⟨vs, us, h, h', by omega⟩
  · obtain ⟨d, hd⟩ : ∃ d, ds[i]? = some d := ⟨_, List.getElem?_eq_getElem (by omega)⟩
    obtain ⟨d', hd'⟩ : ∃ d, es[i]? = some d := ⟨_, List.getElem?_eq_getElem (by omega)⟩
    obtain ⟨u, hu, ru⟩ := rr.get hd
    obtain ⟨u', hu', ru'⟩ := rr'.get hd'
    obtain ⟨T, x1, y1, e1, e2, e3, e4, e5⟩ := hy
    obtain ⟨F'', l2, m2, r2⟩ := pair_ok (xs := fun i => vs[i]?) (ys := fun i => us[i]?) m ⟨T, x1, y1, e1, e2, e3, e4 _ h, e5 _ h'⟩ hu hu' ru ru'
    exact ⟨F'', _, l2, m2, zip_get _ _ _ _ _ hd hd', r2⟩
theorem di_zip {elts : List Expr} {kk : Nat} {tpos : Pos} (hg : Gl X "zip") (hm : X.mg "zip" = none) (ha : PE X a (tD X.K wa)) (hb : PE X b (tD X.K wb)) (h1 : notStar a = true) (h2 : notStar b = true) : PI X (.Tuple elts kk tpos) (.Call (.Name "zip" p) [a, b] [] pos) (tI X.K fun r s K => wa r s fun x s1 => wb r s1 fun y s2 => match x, y with
    | .tup xs, .tup ys => K (zipD xs ys) (fun _ => True) s2
    | .tup _, _ => False
    | _, .tup _ => False
    | x, y => seqW x s2 fun xs chk s3 => seqW y s3 fun ys chk' s4 => K (zipD xs ys) (fun s' => chk s' ∧ chk' s') s4) := by
  refine PI.of (pi_zipA hg hm (pa_cons ha (pa_cons hb pa_nil (star_cons h2)) (star_cons h1)) (star_cons h1) (star_any (by simp [h2]))) fun σ H Q q => ?_
  obtain ⟨F, B, s, r, P, m, er, h, l⟩ := q
  refine ⟨F, B, s, r, _, m, er, h, fun d s1 F1 H1 v l1 m1 r1 h1 => ⟨F1, B, s1, r, _, m1, er.mono l1, h1, fun d2 s2 F2 H2 v2 l2 m2 r2 h2 => ?_⟩⟩
  have r1 := r1.mono l2
  split at h2
  · obtain ⟨a1, vs, rfl, rr, st⟩ := tup_stay r1
    obtain ⟨a2, us, rfl, rr', st'⟩ := tup_stay r2
    exact ⟨a1, a2, vs, us, rfl, .inr ⟨(st _ _ _ _ (FLe.refl F2) (FLe.refl B) m2).1, (st' _ _ _ _ (FLe.refl F2) (FLe.refl B) m2).1, l _ _ s2 F2 H2 _ (l1.trans l2) m2 (zipT_walk st st' rr.length rr'.length) trivial h2⟩⟩
  · exact h2.elim
  · exact h2.elim
  · rename_i n1 n2 n3
    obtain ⟨a1, vs, ds, chk, rfl, rr, c, h3, alt⟩ := seq_at m2 r1 h2
    obtain ⟨a2, us, es, chk', rfl, rr', c', h4, alt'⟩ := seq_at m2 r2 h3
    rcases alt with ⟨⟨zs, z⟩, _⟩ | ⟨_, ht, st⟩
    · exact (n1 zs z).elim
    · rcases alt' with ⟨⟨zs, z⟩, _⟩ | ⟨_, ht', st'⟩
      · exact (n2 zs z).elim
      · exact ⟨a1, a2, vs, us, rfl, .inl ⟨ht, ht', l _ _ s2 F2 H2 _ (l1.trans l2) m2 (zipL_walk st st') ⟨c, c'⟩ h4⟩⟩
end
end IR

set_option Elab.async false
set_option linter.all false
set_option maxRecDepth 100000
/-! So6: comprehensions and statements. -/
namespace IR
open PySem PySem.Spec PyProof.Rows L2
variable [A : Anchor]

section
variable {K : PySem.W.Frag} {F B : Hp} {s : S} {H : Hp} {p : Addr} {vs : List V} {ds : List D}
theorem Sim.sbar {o : HO} (m : Sim K F (L2.upd B p o) s H) : s p = none := by
  cases q : s p with
  | none => rfl
  | some ob =>
    cases ob with
    | lst es =>
      have := (m.mu p es q).2.1
      rw [upd_same] at this; cases this
theorem Sim.release (m : Sim K F (L2.upd B p (.lst vs)) s H) (r : Reps K F vs ds) (hb : B p = none) (ab : FLe A.B B) : Sim K F B (put s p (.lst ds)) H := by
  have u := m.unbar hb ab
  refine ⟨u.an, u.fr, u.ba, u.di, fun a es e => ?_⟩
  by_cases q : a = p
  · subst q
    unfold put at e
    rw [if_pos rfl] at e
    cases e
    refine ⟨?_, hb, vs, m.ba _ _ upd_same, r⟩
    cases z : F a with
    | none => rfl
    | some o =>
      have := m.di a o z
      rw [upd_same] at this; cases this
  · unfold put at e
    rw [if_neg q] at e
    exact u.mu a es e
theorem Sim.iceBar (m : Sim K F (L2.upd B p (.lst vs)) s H) (r : Reps K F vs ds) (hb : B p = none) (ab : FLe A.B B) : FLe F (L2.upd F p (.lst vs)) ∧ Sim K (L2.upd F p (.lst vs)) B s H := by
  have hF : F p = none := by
    cases z : F p with
    | none => rfl
    | some o =>
      have := m.di p o z
      rw [upd_same] at this; cases this
  have u := m.unbar hb ab
  refine ⟨FLe.upd hF, ⟨u.an.1.trans (FLe.upd hF), u.an.2⟩, fun a o e => ?_, u.ba, fun a o e => ?_, fun a es e => ?_⟩
  · by_cases q : a = p
    · subst q; rw [upd_same] at e; rw [← e]; exact m.ba _ _ upd_same
    · rw [upd_ne q] at e; exact m.fr a o e
  · by_cases q : a = p
    · subst q; exact hb
    · rw [upd_ne q] at e; exact u.di a o e
  · obtain ⟨f, b, us, q2, r2⟩ := u.mu a es e
    have ne : a ≠ p := fun z => by subst z; rw [m.sbar] at e; cases e
    exact ⟨by rw [upd_ne ne]; exact f, b, us, q2, r2.mono (FLe.upd hF)⟩
end
theorem agree_wipe (σ : L2.St) (vs : List Nat) : Agree vs σ (L2.wipe σ vs) := ⟨wipe_length σ vs, fun i hi => wipe_out hi⟩
theorem wipe_wipe (σ : L2.St) (vs : List Nat) : L2.wipe (L2.wipe σ vs) vs = L2.wipe σ vs := (agree_wipe σ vs).wipe fun _ h => h
theorem drop_cons {α : Type} {ds : List α} {i : Nat} {d : α} {rest : List α} (h : ds.drop i = d :: rest) : i < ds.length ∧ ds[i]? = some d ∧ ds.drop (i + 1) = rest := by
  have hi : i < ds.length := by
    have := congrArg List.length h
    rw [List.length_drop, List.length_cons] at this
    omega
  rw [List.drop_eq_getElem_cons hi] at h
  injection h with h1 h2
  exact ⟨hi, by rw [List.getElem?_eq_getElem hi, h1], h2⟩
def turnW (t : T) (own : List Nat) (wc : WB) (we : WE) (r : Rho) : D → S → (Option D → S → Prop) → Prop := fun d s2 P => asgW t d (wipe r own) fun r1 => wc r1 s2 fun k s3 => (k = true → we r1 s3 fun x s4 => P (some x) s4) ∧ (k = false → P none s3)
theorem lc_read {K : PySem.W.Frag} {wi : WI} {t : T} {own is : List Nat} {wc : WB} {we : WE} {b : Bool} (his : ∀ i ∈ is, i ∈ own) {σ : L2.St} {H : Hp} {Q : VK}
    (q : tD K (fun r s P => wi r s fun ds chk s1 => lcW (turnW t own wc we r) chk ds [] s1 fun acc s2 => newL b acc s2 P) σ H Q) : tLc (tI K wi) (gT K is (asgW t)) (tB K wc) (tD K we) own σ H Q := by
  obtain ⟨F, B, s, r, P, m, er, h, l⟩ := q
  refine ⟨F, B, s, r, _, m, er, h, fun ds chk s1 F1 H1 J l1 m1 io c h1 Dd hD => ?_⟩
  have hB : B Dd = none := m1.bnone hD
  refine ⟨fun i n H => ∃ F' s' acc vs, FLe F1 F' ∧ Sim K F' (L2.upd B Dd (.lst vs)) s' H ∧ Reps K F' vs acc ∧ n = (ds.drop i).length ∧ i ≤ ds.length ∧ lcW (turnW t own wc we r) chk (ds.drop i) acc s' (fun acc s2 => newL b acc s2 P),
    ⟨_, F1, s1, [], [], FLe.refl F1, m1.bar hD, .nil, rfl, Nat.zero_le _, h1⟩, fun i n H2 hW => ?_⟩
  obtain ⟨F', s', acc, vs, l2, m2, rr, en, hi, hl⟩ := hW
  have io2 := io F' _ s' H2 l2 (FLe.upd hB) m2
  cases hd : ds.drop i with
  | nil =>
    rw [hd] at hl
    simp only [lcW] at hl
    have ei : i = ds.length := by
      have := congrArg List.length hd
      rw [List.length_drop, List.length_nil] at this
      omega
    subst ei
    refine .inl ⟨(io2 hl.1).2.1, ?_⟩
    have hn := hl.2
    cases b with
    | true => exact l _ _ F' H2 _ (l1.trans l2) (m2.release rr hB m1.an.2) (.ref Dd) (hn Dd m2.sbar)
    | false =>
      obtain ⟨l3, m3⟩ := m2.iceBar rr hB m1.an.2
      exact l _ _ _ H2 _ ((l1.trans l2).trans l3) m3 (.lv upd_same (rr.mono l3)) hn
  | cons d rest =>
    rw [hd] at hl
    simp only [lcW] at hl
    obtain ⟨hi', hdi, hrest⟩ := drop_cons hd
    have io3 := io2 hl.1
    refine .inr ⟨io3.1 i hi', fun H' => ∃ m', m' < n ∧ ∃ F' s' acc vs, FLe F1 F' ∧ Sim K F' (L2.upd B Dd (.lst vs)) s' H' ∧ Reps K F' vs acc ∧ m' = (ds.drop (i + 1)).length ∧ i + 1 ≤ ds.length ∧ lcW (turnW t own wc we r) chk (ds.drop (i + 1)) acc s' (fun acc s2 => newL b acc s2 P), fun _ z => z, fun x H' hy => ?_⟩
    obtain ⟨F3, d', l3, m3, hd', rd⟩ := io3.2.2 i x H' hi' hy
    rw [hdi] at hd'; cases hd'
    have en2 : (ds.drop (i + 1)).length < n := by
      rw [en, hd, hrest, List.length_cons]; omega
    have ht : asgW t d (wipe r own) fun r1 => wc r1 s' fun k s3 => (k = true → we r1 s3 fun x s4 => acc.length < SL ∧ lcW (turnW t own wc we r) chk rest (acc ++ [x]) s4 fun acc s2 => newL b acc s2 P) ∧ (k = false → lcW (turnW t own wc we r) chk rest acc s3 fun acc s2 => newL b acc s2 P) := hl.2
    refine ⟨F3, L2.upd B Dd (.lst vs), s', d, wipe r own, _, m3, ((er.mono (l1.trans (l2.trans l3))).wipe own), rd, ht, fun r1 σ2 er1 h2 ag => ⟨?_, F3, L2.upd B Dd (.lst vs), s', r1, _, m3, er1, h2, fun k s3 F4 H4 l4 m4 h3 => ?_⟩⟩
    · rw [ag.wipe his, wipe_wipe]
    · cases k with
      | true =>
        rw [if_pos rfl]
        refine ⟨F4, L2.upd B Dd (.lst vs), s3, r1, _, m4, er1.mono l4, h3.1 rfl, fun y s4 F5 H5 v l5 m5 r5 h4 => ?_⟩
        have lf := (l3.trans (l4.trans l5))
        refine ⟨vs, m5.ba _ _ upd_same, ?_, _, en2, F5, s4, acc ++ [y], vs ++ [v], l2.trans lf, m5.barTurn hB m1.an.2, (rr.mono lf).append (.cons r5 .nil), rfl, hi', ?_⟩
        · rw [rr.length]; exact h4.1
        · rw [hrest]; exact h4.2
      | false =>
        rw [if_neg Bool.false_ne_true]
        refine ⟨_, en2, F4, s3, acc, vs, l2.trans (l3.trans l4), m4, rr.mono (l3.trans l4), rfl, hi', ?_⟩
        rw [hrest]; exact h3.2 rfl
section
variable {X : Cx} {elt tg iter : Expr} {ifs : List Expr} {scope : Scope} {own : List (Str × Nat)} {pos : Pos} {wi : WI} {t : T} {is : List Nat} {wc : WB} {we : WE} {b : Bool}
theorem dts_nil : PTs X [] (tB X.K fun _ s P => P true s) := by
  refine ⟨fun pins s σ H Q I q => pts_nil.run pins s σ H Q I ?_⟩
  obtain ⟨F, B, s, r, P, m, er, h, l⟩ := q
  exact l _ _ F H (FLe.refl F) m h
/-- what a comprehension's parts must be -/
structure LcOk (X : Cx) (elt tg iter : Expr) (ifs : List Expr) (scope : Scope) (own : List (Str × Nat)) (wi : WI) (t : T) (is : List Nat) (wc : WB) (we : WE) : Prop where
  hi : PI X tg iter (tI X.K wi)
  ok : BlkOk X.N X.env.scope scope own
  hg : ∀ (s : Shared) (H : Hp) (C : Addr) (cl : List (Str × Addr)) (fp : List Addr), PG (X.blk s H scope (compEnvC scope cl C X.env) fp) tg (gT X.K is (asgW t))
  ht : ∀ (s : Shared) (H : Hp) (C : Addr) (cl : List (Str × Addr)) (fp : List Addr), PTs (X.blk s H scope (compEnvC scope cl C X.env) fp) ifs (tB X.K wc)
  he : ∀ (s : Shared) (H : Hp) (C : Addr) (cl : List (Str × Addr)) (fp : List Addr), PE (X.blk s H scope (compEnvC scope cl C X.env) fp) elt (tD X.K we)
  his : ∀ i ∈ is, i ∈ own.map (·.2)
  set_ : notSet iter = true
theorem fold_ok {e : Expr} {env : Env} (h : notSet e = true) : ∀ x, foldedSetIterable e env x = pure x := fun x => by
  cases e <;> first | rfl | (simp [notSet] at h; done)
theorem de_lc (hc : X.calm = true) (hN : X.N.Nodup) (L : LcOk X elt tg iter ifs scope own wi t is wc we) : PE X (.ListComp elt [⟨tg, iter, ifs, 0⟩] scope pos) (tD X.K fun r s P => wi r s fun ds chk s1 => lcW (turnW t (own.map (·.2)) wc we r) chk ds [] s1 fun acc s2 => newL b acc s2 P) :=
  PE.of (pe_lc hc hN L.hi L.ok L.hg L.ht L.he (fold_ok L.set_)) fun _ _ _ q => lc_read L.his q

/-! ### statements -/
structure LiftK (K : PySem.W.Frag) (Y : XT) (F B : Hp) (k : Kt) (D : Ends) : Prop where
  nx : ∀ r s F' σ' H', FLe F F' → Sim K F' B s H' → EnvR K F' σ' r → k.nx r s → D.nx σ' H'
  rt : Lift K F B k.rt D.rt
  bk : ∀ r s F' σ' H', FLe F F' → Sim K F' B s H' → EnvR K F' σ' r → k.bk r s → D.bk σ' H'
  ct : ∀ r s F' σ' H', FLe F F' → Sim K F' B s H' → EnvR K F' σ' r → k.ct r s → D.ct σ' H'
  ex : k.ex = Y
theorem LiftK.mono {K : PySem.W.Frag} {Y : XT} {F F' B : Hp} {k : Kt} {D : Ends} (h : LiftK K Y F B k D) (l : FLe F F') : LiftK K Y F' B k D :=
  ⟨fun r s G σ' H' l' => h.nx r s G σ' H' (l.trans l'), h.rt.mono l, fun r s G σ' H' l' => h.bk r s G σ' H' (l.trans l'), fun r s G σ' H' l' => h.ct r s G σ' H' (l.trans l'), h.ex⟩
abbrev WS := Rho → S → Kt → Prop
def tS (K : PySem.W.Frag) (Y : XT) (w : WS) : TS := fun D σ H => ∃ F B s r k, Sim K F B s H ∧ EnvR K F σ r ∧ w r s k ∧ LiftK K Y F B k D
variable {Y : XT}
variable {st : Stmt} {sts : List Stmt} {ws ws' : WS} {e e1 e2 e3 a c : Expr} {wa : WE} {x y z : Str}
theorem ds_nil : PSs X [] (tS X.K Y fun r s k => k.nx r s) := by
  refine PSs.of pss_nil fun D σ H q => ?_
  obtain ⟨F, B, s, r, k, m, er, h, l⟩ := q
  exact l.nx r s F σ H (FLe.refl F) m er h
theorem ds_cons (h1 : PS X st (tS X.K Y ws)) (h2 : PSs X sts (tS X.K Y ws')) : PSs X (st :: sts) (tS X.K Y fun r s k => ws r s { k with nx := fun r1 s1 => ws' r1 s1 k }) := by
  refine PSs.of (pss_cons h1 h2) fun D σ H q => ?_
  obtain ⟨F, B, s, r, k, m, er, h, l⟩ := q
  exact ⟨F, B, s, r, _, m, er, h, ⟨fun r1 s1 F1 σ1 H1 l1 m1 er1 h1 => ⟨F1, B, s1, r1, k, m1, er1, h1, l.mono l1⟩, l.rt, l.bk, l.ct, l.ex⟩⟩
theorem ds_never {st : Stmt} : PS X st (tS X.K Y fun _ _ _ => False) := by
  refine PS.of ps_never fun D σ H q => ?_
  obtain ⟨F, B, s, r, k, m, er, h, l⟩ := q
  exact h.elim
theorem ds_pass : PS X (.Pass pos) (tS X.K Y fun r s k => k.nx r s) := by
  refine PS.of ps_pass fun D σ H q => ?_
  obtain ⟨F, B, s, r, k, m, er, h, l⟩ := q
  exact l.nx r s F σ H (FLe.refl F) m er h
theorem ds_brk : PS X (.Break pos) (tS X.K Y fun r s k => k.bk r s) := by
  refine PS.of ps_break fun D σ H q => ?_
  obtain ⟨F, B, s, r, k, m, er, h, l⟩ := q
  exact l.bk r s F σ H (FLe.refl F) m er h
theorem ds_cnt : PS X (.Continue pos) (tS X.K Y fun r s k => k.ct r s) := by
  refine PS.of ps_continue fun D σ H q => ?_
  obtain ⟨F, B, s, r, k, m, er, h, l⟩ := q
  exact l.ct r s F σ H (FLe.refl F) m er h
theorem ds_ret (ha : PE X e (tD X.K wa)) : PS X (.Return (some e) pos) (tS X.K Y fun r s k => wa r s fun d s1 => k.rt d s1) := by
  refine PS.of (ps_ret ha) fun D σ H q => ?_
  obtain ⟨F, B, s, r, k, m, er, h, l⟩ := q
  exact ⟨F, B, s, r, _, m, er, h, fun d s1 F1 H1 v l1 m1 r1 h1 => l.rt d s1 F1 H1 v l1 m1 r1 h1⟩
def notComp : Expr → Bool
  | .ListComp .. => false
  | .SetComp .. => false
  | .DictComp .. => false
  | _ => true
theorem swaps_no {e : Expr} {t : Option Expr} {n : Nat} {env : Env} (h : notComp e = true) : swapsWith e t n env = pure false := by
  cases e <;> first | rfl | (simp [notComp] at h; done)
theorem ds_exp (ha : PE X e (tD X.K wa)) (h : notComp e = true) : PS X (.Expr e pos) (tS X.K Y fun r s k => wa r s fun _ s1 => k.nx r s1) := by
  refine PS.of (ps_expr ha (swaps_no h)) fun D σ H q => ?_
  obtain ⟨F, B, s, r, k, m, er, h, l⟩ := q
  exact ⟨F, B, s, r, _, m, er, h, fun d s1 F1 H1 v l1 m1 r1 h1 => l.nx r s1 F1 σ H1 l1 m1 (er.mono l1) h1⟩
theorem ds_ife {p q : List Stmt} (hc : PT X c (tB X.K wc)) (h1 : PSs X p (tS X.K Y ws)) (h2 : PSs X q (tS X.K Y ws')) : PS X (.If c p q pos) (tS X.K Y fun r s k => wc r s fun b s1 => (b = true → ws r s1 k) ∧ (b = false → ws' r s1 k)) := by
  refine PS.of (ps_if hc h1 h2) fun D σ H q => ?_
  obtain ⟨F, B, s, r, k, m, er, h, l⟩ := q
  refine ⟨F, B, s, r, _, m, er, h, fun b s1 F1 H1 l1 m1 h1 => ?_⟩
  cases b with
  | true => exact ⟨F1, B, s1, r, k, m1, er.mono l1, h1.1 rfl, l.mono l1⟩
  | false => exact ⟨F1, B, s1, r, k, m1, er.mono l1, h1.2 rfl, l.mono l1⟩
/-- one target -/
theorem tS_asg {K : PySem.W.Frag} {D : Ends} {σ : L2.St} {H : Hp} (q : tS K Y (fun r s k => wa r s fun d s1 => asgW t d r fun r1 => k.nx r1 s1) D σ H) : tAsg (tD K wa) (gT K is (asgW t)) D σ H := by
  obtain ⟨F, B, s, r, k, m, er, h, l⟩ := q
  exact ⟨F, B, s, r, _, m, er, h, fun d s1 F1 H1 v l1 m1 r1 h1 => ⟨F1, B, s1, d, r, _, m1, er.mono l1, r1, h1, fun r' σ' er' h' _ => l.nx r' s1 F1 σ' H1 l1 m1 er' h'⟩⟩
theorem sole_no {tg e : Expr} {n : Nat} {env : Env} (h : notComp e = true) : swapsWithSole [tg] e n env = pure false := swaps_no h
theorem ds_asg (ha : PE X e (tD X.K wa)) (hg : PG X tg (gT X.K is (asgW t))) (hs : swapsWithSole [tg] e pos.line X.env = pure false) (hw : swappedStores [tg] e X.env = pure none) (h0 : notStar tg = true) : PS X (.Assign [tg] e pos) (tS X.K Y fun r s k => wa r s fun d s1 => asgW t d r fun r1 => k.nx r1 s1) :=
  PS.of (ps_asg ha hg hs hw (h1 := by rw [assign_cons h0]; rfl)) fun _ _ _ q => tS_asg q
theorem ds_asgLc {i : Nat} {py spos : Pos} (hc : X.calm = true) (hN : X.N.Nodup) (hy : X.N[i]? = some y) (hyl : X.env.scope.names.lookup y = some .local) (hsw : swapsWith (.ListComp elt [⟨tg, iter, ifs, 0⟩] scope pos) (some (.Name y py)) spos.line X.env = pure true)
    (L : LcOk X elt tg iter ifs scope own wi t is wc we) : PS X (.Assign [.Name y py] (.ListComp elt [⟨tg, iter, ifs, 0⟩] scope pos) spos)
      (tS X.K Y fun r s k => (wi r s fun ds chk s1 => lcW (turnW t (own.map (·.2)) wc we r) chk ds [] s1 fun acc s2 => newL b acc s2 fun d s3 => asgW (.nm i) d r fun r1 => k.nx r1 s3)) := by
  refine PS.of (ps_setLc hc hN hy hyl hsw L.hi L.ok L.hg L.ht L.he (fold_ok L.set_)) fun D σ H q => ?_
  obtain ⟨F, B, s, r, k, m, er, h, l⟩ := q
  refine lc_read (b := b) L.his (Q := fun x H1 => gName i x σ H1 D.nx) ⟨F, B, s, r, _, m, er, h, fun d s1 F1 H1 v l1 m1 r1 h1 => ?_⟩
  have h1 : asgW (.nm i) d r fun r1 => k.nx r1 s1 := h1
  simp only [asgW] at h1
  exact l.nx _ s1 F1 _ H1 l1 m1 ((er.mono l1).set r1 i) h1
/-! ### a, b = e1, e2 -/
theorem dl2 {w1 w2 : WE} (h1 : PE X e1 (tD X.K w1)) (h2 : PE X e2 (tD X.K w2)) (s1 : notStar e1 = true) (s2 : notStar e2 = true) : PA X [e1, e2] (tL X.K 2 fun r s P => w1 r s fun x s1 => (fun r s P => w2 r s fun x s1 => (fun _ s P => P [] s) r s1 fun xs s2 => P (x :: xs) s2) r s1 fun xs s2 => P (x :: xs) s2) :=
  dl_cons h1 (dl_cons h2 dl_nil s2) s1
theorem ds_par {i j : Nat} {wl : WL} {px py pt : Pos} {kt k2 pt2} (hc : X.calm = true) (hN : X.N.Nodup) (hi : X.N[i]? = some x) (hj : X.N[j]? = some y) (hij : i ≠ j) (hx : X.env.scope.names.lookup x = some .local) (hy : X.env.scope.names.lookup y = some .local)
    (hl : PA X [e1, e2] (tL X.K 2 wl)) (hw : swappedStores [.Tuple [.Name x px, .Name y py] kt pt] (.Tuple [e1, e2] k2 pt2) X.env = pure (some [x, y])) : PS X (.Assign [.Tuple [.Name x px, .Name y py] kt pt] (.Tuple [e1, e2] k2 pt2) pos) (tS X.K Y fun r s k => wl r s fun ds s1 => ds.length = [i, j].length ∧ k.nx (setAll [i, j] ds r) s1) := by
  refine PS.of (ps_par hc hN hi hj hij hx hy hl hw rfl) fun D σ H q => ?_
  obtain ⟨F, B, s, r, k, m, er, h, l⟩ := q
  refine ⟨F, B, s, r, _, m, er, h, fun ds s1 F1 H1 vs l1 m1 r1 h1 hv => ?_⟩
  obtain ⟨hn, h1⟩ := h1
  match ds, r1, hn with
  | [d1, d2], r1, _ =>
    obtain ⟨v, u, rfl, q1, q2⟩ := two_rep r1
    exact ⟨v, u, rfl, l.nx _ s1 F1 _ H1 l1 m1 (((er.mono l1).set q1 i).set q2 j) h1⟩
theorem ds_par3 {i j n : Nat} {wl : WL} {px py pz pt : Pos} {kt k2 pt2} (hc : X.calm = true) (hN : X.N.Nodup) (hi : X.N[i]? = some x) (hj : X.N[j]? = some y) (hn : X.N[n]? = some z) (hij : i ≠ j) (hin : i ≠ n) (hjn : j ≠ n) (hx : X.env.scope.names.lookup x = some .local) (hy : X.env.scope.names.lookup y = some .local) (hz : X.env.scope.names.lookup z = some .local)
    (hl : PA X [e1, e2, e3] (tL X.K 3 wl)) (hw : swappedStores [.Tuple [.Name x px, .Name y py, .Name z pz] kt pt] (.Tuple [e1, e2, e3] k2 pt2) X.env = pure (some [x, y, z])) : PS X (.Assign [.Tuple [.Name x px, .Name y py, .Name z pz] kt pt] (.Tuple [e1, e2, e3] k2 pt2) pos) (tS X.K Y fun r s k => wl r s fun ds s1 => ds.length = [i, j, n].length ∧ k.nx (setAll [i, j, n] ds r) s1) := by
  refine PS.of (ps_par3 hc hN hi hj hn hij hin hjn hx hy hz hl hw rfl) fun D σ H q => ?_
  obtain ⟨F, B, s, r, k, m, er, h, l⟩ := q
  refine ⟨F, B, s, r, _, m, er, h, fun ds s1 F1 H1 vs l1 m1 r1 h1 hv => ?_⟩
  obtain ⟨hn', h1⟩ := h1
  match ds, r1, hn' with
  | [d1, d2, d3], .cons q1 r2, _ =>
    obtain ⟨v, u, rfl, q2, q3⟩ := two_rep r2
    exact ⟨_, v, u, rfl, l.nx _ s1 F1 _ H1 l1 m1 ((((er.mono l1).set q1 i).set q2 j).set q3 n) h1⟩
/-! ### stores, op= -/
variable {o i : Expr} {wo wj : WE}
theorem ds_sto {tpos : Pos} (he : PE X e (tD X.K wa)) (ho : PE X o (tD X.K wo)) (hi : PE X i (tD X.K wj)) (hs : notSlice i = true) (hc : notComp e = true) : PS X (.Assign [.Subscript o i tpos] e pos) (tS X.K Y fun r s k => wa r s fun x s1 => wo r s1 fun p s2 => wj r s2 fun n s3 => stoW p n x s3 fun s4 => k.nx r s4) := by
  refine PS.of (ps_asg he (pg_sub ho hi dD_sto (by intro v; cases i <;> first | rfl | (simp [notSlice] at hs; done))) (sole_no hc) (by rfl)) fun D σ H q => ?_
  obtain ⟨F, B, s, r, k, m, er, h, l⟩ := q
  exact ⟨F, B, s, r, _, m, er, h, fun d s1 F1 H1 v l1 m1 r1 h1 => ⟨F1, B, s1, r, _, m1, er.mono l1, h1, fun d2 s2 F2 H2 v2 l2 m2 r2 h2 => ⟨F2, B, s2, r, _, m2, er.mono (l1.trans l2), h2, fun d3 s3 F3 H3 v3 l3 m3 r3 h3 => ⟨F3, B, s3, d2, d3, d, _, m3, r2.mono l3, r3, r1.mono (l2.trans l3), h3, fun s' H' m' h' => l.nx r s' F3 σ H' (l1.trans (l2.trans l3)) m' (er.mono (l1.trans (l2.trans l3))) h'⟩⟩⟩⟩
theorem ds_aug {n : Nat} {p : Pos} (op : Bop) (hN : X.N.Nodup) (hi : X.N[n]? = some x) (hx : Loc X.env.scope x) (he : PE X e (tD X.K wa)) (hf : X.fn x = true ∨ X.env.scope.names.lookup x = some .local) : PS X (.AugAssign (.Name x p) (aopOf op) e pos) (tS X.K Y fun r s k => getV r n s fun d _ => wa r s fun y s1 => augW op d y s1 fun z s2 => k.nx (r.set n (some z)) s2) := by
  refine PS.of (ps_aug hN hi hx he (dD_aug op) hf) fun D σ H q => ?_
  obtain ⟨F, B, s, r, k, m, er, h, l⟩ := q
  unfold getV at h
  split at h
  · rename_i d ed
    obtain ⟨v, h1, h2⟩ := er.at_ n d ed
    exact ⟨v, h1, F, B, s, r, _, m, er, h, fun d2 s1 F1 H1 v1 l1 m1 r1 h3 => ⟨F1, B, s1, d, d2, _, m1, h2.mono l1, r1, h3, fun d4 s4 F4 H4 v4 l4 m4 r4 h4 => l.nx _ s4 F4 _ H4 (l1.trans l4) m4 ((er.mono (l1.trans l4)).set r4 n) h4⟩⟩
  · exact h.elim
/-! ### loops -/
theorem ds_fr {body : List Stmt} {drops : List Nat} (hp : PassesOwn (model X.prog X.w) X.A X.env X.xe) (hc : X.calm = true) (hi : PI X tg iter (tI X.K wi)) (hg : PG X tg (gT X.K is (asgW t))) (hb : PSs X body (tS X.K Y ws)) (hs : notSet iter = true) :
    PS X (.For tg iter body [] pos) (tS X.K Y fun r s k => wi r s fun ds chk s1 => frW t ws drops chk k ds r s1) := by
  refine PS.of (ps_for hp hc hi hg hb (fold_ok hs)) fun D σ H q => ?_
  obtain ⟨F, B, s, r, k, m, er, h, l⟩ := q
  refine ⟨F, B, s, r, _, m, er, h, fun ds chk s1 F1 H1 J l1 m1 io c h1 => ?_⟩
  refine ⟨fun i n σ H => ∃ F' s' r', FLe F1 F' ∧ Sim X.K F' B s' H ∧ EnvR X.K F' σ r' ∧ n = (ds.drop i).length ∧ i ≤ ds.length ∧ frW t ws drops chk k (ds.drop i) r' s',
    ⟨_, F1, s1, r, FLe.refl F1, m1, er.mono l1, rfl, Nat.zero_le _, h1⟩, fun i n σ2 H2 hW => ?_⟩
  obtain ⟨F', s', r', l2, m2, er2, en, hi, hl⟩ := hW
  have io2 := io F' B s' H2 l2 (FLe.refl B) m2
  cases hd : ds.drop i with
  | nil =>
    rw [hd] at hl
    simp only [frW] at hl
    have ei : i = ds.length := by
      have := congrArg List.length hd
      rw [List.length_drop, List.length_nil] at this
      omega
    subst ei
    exact .inl ⟨(io2 hl.1).2.1, l.nx _ s' F' σ2 H2 (l1.trans l2) m2 (er2.lose drops) hl.2⟩
  | cons d rest =>
    rw [hd] at hl
    simp only [frW] at hl
    obtain ⟨hi', hdi, hrest⟩ := drop_cons hd
    have io3 := io2 hl.1
    refine .inr ⟨io3.1 i hi', fun σ H => ∃ m', m' < n ∧ ∃ F' s' r', FLe F1 F' ∧ Sim X.K F' B s' H ∧ EnvR X.K F' σ r' ∧ m' = (ds.drop (i + 1)).length ∧ i + 1 ≤ ds.length ∧ frW t ws drops chk k (ds.drop (i + 1)) r' s', fun _ _ z => z, fun x H' hy => ?_⟩
    obtain ⟨F3, d', l3, m3, hd', rd⟩ := io3.2.2 i x H' hi' hy
    rw [hdi] at hd'; cases hd'
    have en2 : (ds.drop (i + 1)).length < n := by
      rw [en, hd, hrest, List.length_cons]; omega
    refine ⟨F3, B, s', d, r', _, m3, er2.mono l3, rd, hl.2, fun r4 σ4 er4 h4 _ => ⟨F3, B, s', r4, _, m3, er4, h4, ?_⟩⟩
    have nxt : ∀ r5 s5 F5 σ5 H5, FLe F3 F5 → Sim X.K F5 B s5 H5 → EnvR X.K F5 σ5 r5 → frW t ws drops chk k rest (wipe r5 drops) s5 → ∃ m', m' < n ∧ ∃ F' s' r', FLe F1 F' ∧ Sim X.K F' B s' H5 ∧ EnvR X.K F' σ5 r' ∧ m' = (ds.drop (i + 1)).length ∧ i + 1 ≤ ds.length ∧ frW t ws drops chk k (ds.drop (i + 1)) r' s' :=
      fun r5 s5 F5 σ5 H5 l5 m5 er5 h5 => ⟨_, en2, F5, s5, wipe r5 drops, l2.trans (l3.trans l5), m5, er5.lose drops, rfl, hi', by rw [hrest]; exact h5⟩
    exact ⟨nxt, l.rt.mono (l1.trans (l2.trans l3)), fun r5 s5 F5 σ5 H5 l5 m5 er5 h5 => l.nx _ s5 F5 σ5 H5 (l1.trans (l2.trans (l3.trans l5))) m5 (er5.lose drops) h5, nxt, l.ex⟩
theorem ds_whl {body : List Stmt} {drops : List Nat} (hp : PassesOwn (model X.prog X.w) X.A X.env X.xe) (hc : PT X c (tB X.K wc)) (hb : PSs X body (tS X.K Y ws)) :
    PS X (.While c body [] pos) (tS X.K Y fun r s k => ∃ n, whW wc ws drops k n r s) := by
  refine PS.of (ps_while hp hc hb) fun D σ H q => ?_
  obtain ⟨F, B, s, r, k, m, er, ⟨n0, h⟩, l⟩ := q
  refine ⟨fun n σ H => ∃ F' s' r', FLe F F' ∧ Sim X.K F' B s' H ∧ EnvR X.K F' σ r' ∧ whW wc ws drops k n r' s', ⟨n0, F, s, r, FLe.refl F, m, er, h⟩, fun n σ2 H2 hW => ?_⟩
  obtain ⟨F', s', r', l2, m2, er2, hl⟩ := hW
  cases n with
  | zero => exact hl.elim
  | succ n =>
    simp only [whW] at hl
    refine ⟨F', B, s', r', _, m2, er2, hl, fun b s3 F3 H3 l3 m3 h3 => ?_⟩
    cases b with
    | true =>
      rw [if_pos rfl]
      refine ⟨fun σ H => ∃ m', m' < n + 1 ∧ ∃ F' s' r', FLe F F' ∧ Sim X.K F' B s' H ∧ EnvR X.K F' σ r' ∧ whW wc ws drops k m' r' s', fun _ _ z => z, F3, B, s3, r', _, m3, er2.mono l3, h3.1 rfl, ?_⟩
      have nxt : ∀ r5 s5 F5 σ5 H5, FLe F3 F5 → Sim X.K F5 B s5 H5 → EnvR X.K F5 σ5 r5 → whW wc ws drops k n (wipe r5 drops) s5 → ∃ m', m' < n + 1 ∧ ∃ F' s' r', FLe F F' ∧ Sim X.K F' B s' H5 ∧ EnvR X.K F' σ5 r' ∧ whW wc ws drops k m' r' s' :=
        fun r5 s5 F5 σ5 H5 l5 m5 er5 h5 => ⟨n, Nat.lt_succ_self n, F5, s5, wipe r5 drops, l2.trans (l3.trans l5), m5, er5.lose drops, h5⟩
      exact ⟨nxt, l.rt.mono (l2.trans l3), fun r5 s5 F5 σ5 H5 l5 m5 er5 h5 => l.nx _ s5 F5 σ5 H5 (l2.trans (l3.trans l5)) m5 (er5.lose drops) h5, nxt, l.ex⟩
    | false =>
      rw [if_neg Bool.false_ne_true]
      exact l.nx _ s3 F3 σ2 H3 (l2.trans l3) m3 ((er2.mono l3).lose drops) (h3.2 rfl)
end
end IR

set_option Elab.async false
set_option linter.all false
set_option maxRecDepth 100000
/-! So7: a text of the small language is checked against the program's own syntax; what is checked is sound. -/
namespace IR
open PySem PySem.Spec PyProof.Rows L2
variable [A : Anchor]

structure Tab where
  fns : List (Str × Nat × List Str × List (Nat × List Str × List Nat))
  gls : List (Str × Nat)
  cls : List (Str × Nat)
/-- how a def is called: within a comprehension by a number from 1000 on -/
def idB (cal : Bool) (id f : Nat) : Bool := decide (id < 1000) && decide (f = if cal then id + 1000 else id)

def glB (sc : Scope) (x : Str) : Bool := decide (sc.names.lookup x = some .globalImplicit) && !(x == ("__debug__" : Str))
def visB (sc : Scope) (x : Str) : Bool := (match sc.names.lookup x with | some .local => true | some .cell => true | some .free => true | _ => false) && !(x == ("__debug__" : Str)) && !(x == ("__classdict__" : Str))
def locB (sc : Scope) (fb : Str → Bool) (x : Str) : Bool := match sc.names.lookup x with
  | some .local => true
  | some .cell => fb x
  | _ => false
def biN : Bi → Str
  | .len => "len"
  | .abs => "abs"
  | .int => "int"
  | .all => "all"
  | .any => "any"
  | .sum => "sum"
  | .tuple => "tuple"
  | .list => "list"
  | .max2 => "max"
  | .min2 => "min"
  | .sorted => "sorted"
def biIsT : Bi → Bool
  | .int => true
  | .tuple => true
  | .list => true
  | _ => false
def ckL (f : Expr → E → Bool) : List Expr → List E → Bool
  | [], [] => true
  | e :: es, c :: cs => notStar e && f e c && ckL f es cs
  | _, _ => false
/-- a dict display against its keys and values, one behind the other -/
def ckD (f : Expr → E → Bool) : List (Option Expr) → List Expr → List E → Bool
  | [], [], [] => true
  | some k :: ks, v :: vs, a :: b :: es => f k a && f v b && ckD f ks vs es
  | _, _, _ => false
def ckKw (f : Expr → E → Bool) : List Keyword → List E → Bool
  | [], [] => true
  | k :: ks, c :: cs => k.arg.isSome && f k.value c && ckKw f ks cs
  | _, _ => false
def ckO (f : Expr → E → Bool) : Option Expr → Option E → Bool
  | none, none => true
  | some e, some c => f e c
  | _, _ => false
def ckTys (sc : Scope) : List Expr → List Ty → Bool
  | [], [] => true
  | .Name x _ :: es, t :: ts => decide (x = Str.ofString (tyN t)) && glB sc x && ckTys sc es ts
  | _, _ => false
/-- and, or: a row against right-nested pairs -/
def ckAnd (f : Expr → E → Bool) : List Expr → E → Bool
  | [], _ => false
  | [e], c => f e c
  | e :: e2 :: es, .and a b => f e a && ckAnd f (e2 :: es) b
  | _ :: _ :: _, _ => false
def ckOr (f : Expr → E → Bool) : List Expr → E → Bool
  | [], _ => false
  | [e], c => f e c
  | e :: e2 :: es, .or a b => f e a && ckOr f (e2 :: es) b
  | _ :: _ :: _, _ => false
def ckT (N : List Str) (sc : Scope) (fb : Str → Bool) : Nat → Expr → T → Bool
  | 0, _, _ => false
  | n + 1, e, t => match e, t with
    | .Name x _, .nm i => decide (N[i]? = some x) && locB sc fb x
    | .Tuple es _ _, .tp ts => ckTs (ckT N sc fb n) es ts
    | _, _ => false
where
  ckTs (f : Expr → T → Bool) : List Expr → List T → Bool
  | [], [] => true
  | e :: es, c :: cs => notStar e && f e c && ckTs f es cs
  | _, _ => false
def ckIt (f : Expr → E → Bool) (sc : Scope) (tg : Expr) (e : Expr) (it : It) : Bool := match it, e with
  | .rng1 a, .Call (.Name x _) [y] [] _ => decide (x = "range") && glB sc x && notStar y && f y a
  | .rng2 a b, .Call (.Name x _) [y, z] [] _ => decide (x = "range") && glB sc x && notStar y && notStar z && f y a && f z b
  | .enum a none, .Call (.Name x _) [y] [] _ => decide (x = "enumerate") && glB sc x && notStar y && f y a && (match tg with | .Tuple .. => true | _ => false)
  | .enum a (some n), .Call (.Name x _) [y, .Constant (.int c) _ _] [] _ => decide (x = "enumerate") && glB sc x && notStar y && f y a && (match tg with | .Tuple .. => true | _ => false) && decide (c = n) && decide (n < 1000)
  | .zip a b, .Call (.Name x _) [y, z] [] _ => decide (x = "zip") && glB sc x && notStar y && notStar z && f y a && f z b && (match tg with | .Tuple .. => true | _ => false)
  | .seq a, e => f e a
  | _, _ => false
def plainC : E → Bool
  | .and _ _ | .or _ _ | .not _ | .cmp _ _ _ | .chain _ _ _ _ _ | .isN _ | .notN _ => false
  | _ => true
/-- tst: as a test -/
def ck (tab : Tab) (N : List Str) : Nat → Bool → Bool → Scope → (Str → Bool) → Expr → E → Bool
  | 0, _, _, _, _, _, _ => false
  | n + 1, true, cal, sc, fb, e, c => match e, c with
    | .UnaryOp .Not x _, .not a => ck tab N n true cal sc fb x a
    | .BoolOp .And es _, .and a b => ckAnd (ck tab N n true cal sc fb) es (.and a b)
    | .BoolOp .Or es _, .or a b => ckOr (ck tab N n true cal sc fb) es (.or a b)
    | .Compare x [.Is] [.Constant .none _ _] _, .isN a => ck tab N n false cal sc fb x a
    | .Compare x [.IsNot] [.Constant .none _ _] _, .notN a => ck tab N n false cal sc fb x a
    | .Compare x [op] [y] _, .cmp o a b => decide (op = copOf o) && notSet y && ck tab N n false cal sc fb x a && ck tab N n false cal sc fb y b
    | .Compare x [op, op'] [y, z] _, .chain o p a b c => decide (op = copOf o) && decide (op' = copOf p) && notSet z && ck tab N n false cal sc fb x a && ck tab N n false cal sc fb y b && ck tab N n false cal sc fb z c
    | e, c => plainTest e && plainC c && ck tab N n false cal sc fb e c
  | n + 1, false, cal, sc, fb, e, c => match e, c with
    | .Name x _, .var i => decide (N[i]? = some x) && visB sc x
    | .Name x _, .glob i => decide (tab.gls.lookup x = some i) && glB sc x
    | .Constant (.int i) _ _, .int j => decide (i = j)
    | .Constant (.bool i) _ _, .bl j => decide (i = j)
    | .Constant .none _ _, .non => true
    | .Constant (.str x) _ _, .str y => decide (x = y)
    | .BinOp x op y _, .bin _ o a b => decide (op = opOf o) && ck tab N n false cal sc fb x a && ck tab N n false cal sc fb y b
    | .UnaryOp .USub x _, .neg a => ck tab N n false cal sc fb x a
    | .UnaryOp .Not x _, .not a => ck tab N n false cal sc fb x a
    | .BoolOp .And es _, .and a b => ckAnd (ck tab N n false cal sc fb) es (.and a b)
    | .BoolOp .Or es _, .or a b => ckOr (ck tab N n false cal sc fb) es (.or a b)
    | .Compare x [.Is] [.Constant .none _ _] _, .isN a => ck tab N n false cal sc fb x a
    | .Compare x [.IsNot] [.Constant .none _ _] _, .notN a => ck tab N n false cal sc fb x a
    | .Compare x [op] [y] _, .cmp o a b => decide (op = copOf o) && notSet y && ck tab N n false cal sc fb x a && ck tab N n false cal sc fb y b
    | .Compare x [op, op'] [y, z] _, .chain o p a b c => decide (op = copOf o) && decide (op' = copOf p) && notSet z && ck tab N n false cal sc fb x a && ck tab N n false cal sc fb y b && ck tab N n false cal sc fb z c
    | .IfExp x y z _, .ite a b c => ck tab N n true cal sc fb x a && ck tab N n false cal sc fb y b && ck tab N n false cal sc fb z c
    | .Tuple es _ _, .tup cs => ckL (ck tab N n false cal sc fb) es cs
    | .List es _, .lst _ cs => ckL (ck tab N n false cal sc fb) es cs
    | .Subscript x (.Slice lo hi none _) _, .slc _ a l h => ck tab N n false cal sc fb x a && ckO (ck tab N n false cal sc fb) lo l && ckO (ck tab N n false cal sc fb) hi h
    | .Subscript (.Dict keys values _) y _, .dsel es b => notSlice y && ckD (ck tab N n false cal sc fb) keys values es && decide (keys ≠ []) && decide (keys.length ≤ 15) && ck tab N n false cal sc fb y b
    | .Subscript x y _, .sub a b => notSlice y && ck tab N n false cal sc fb x a && ck tab N n false cal sc fb y b
    | .Call (.Name x _) [y, .Name z _] [] _, .isi a [t] false => decide (x = "isinstance") && glB sc x && decide (z = Str.ofString (tyN t)) && glB sc z && notStar y && ck tab N n false cal sc fb y a
    | .Call (.Name x _) [y, .Tuple es _ _] [] _, .isi a ts true => decide (x = "isinstance") && glB sc x && ckTys sc es ts && decide (ts.length ≤ 100) && notStar y && ck tab N n false cal sc fb y a
    | .Call (.Name x _) (y :: es) [] _, .bi b _ cs => decide (x = biN b) && glB sc x && ckL (ck tab N n false cal sc fb) (y :: es) cs
    | .Call (.Name x _) (y :: es) [] _, .call _ f cs => glB sc x && ckL (ck tab N n false cal sc fb) (y :: es) cs && (match tab.fns.lookup x with
      | some (id, ps, _) => idB cal id f && decide (cs.length = ps.length)
      | none => false)
    | .Call (.Name x _) es (k :: ks) _, .callk _ f cs ds perm => glB sc x && ckL (ck tab N n false cal sc fb) es cs && ckKw (ck tab N n false cal sc fb) (k :: ks) ds && (match tab.fns.lookup x with
      | some (id, ps, kws) => idB cal id f && decide ((cs.length, kwNames (k :: ks), perm) ∈ kws) && perm.all (fun i => decide (i < cs.length + ds.length)) && decide (perm.length = ps.length)
      | none => false)
    | .Call (.Attribute o m apos) [y] [] pos, .app a b => decide (m = "append") && isNm o && notStar y && (apos.endLine == pos.line) && ck tab N n false cal sc fb o a && ck tab N n false cal sc fb y b
    | .Call (.Attribute o m apos) [y] [] pos, .ext a b => decide (m = "extend") && isNm o && notStar y && (apos.endLine == pos.line) && ck tab N n false cal sc fb o a && ck tab N n false cal sc fb y b
    | .ListComp elt [⟨tg, iter, ifs, isa⟩] scope _, .lc _ own el t it c =>
      decide (isa = 0) && decide ((own.filterMap fun i => N[i]?.map fun x => (x, i)).map (·.2) = own) && blkC N sc scope (own.filterMap fun i => N[i]?.map fun x => (x, i)) && notSet iter &&
      ckIt (ck tab N n false cal sc fb) sc tg iter it && ckT N (relS scope sc) (fun x => scope.names.lookup x == some .cell) n tg t && (slT t).all (fun i => decide (i ∈ own)) &&
      ck tab N n false true (relS scope sc) (fun x => scope.names.lookup x == some .cell) elt el && (match ifs, c with
      | [], none => true
      | [x], some a => ck tab N n true true (relS scope sc) (fun x => scope.names.lookup x == some .cell) x a
      | _, _ => false)
    | _, _ => false

/-! ### statements -/
def sameLine (sc : Scope) (line : Nat) : List Expr → List Str
  | [] => []
  | .Name id pos :: ts => if sc.names.lookup id == some .local && pos.line == line then id :: sameLine sc line ts else sameLine sc line ts
  | _ :: ts => sameLine sc line ts
/-- a, b = .. that makes a tuple all the same -/
def noSwap (sc : Scope) (ts vs : List Expr) : Bool := !(ts.length == 2 || ts.length == 3) || vs.length != ts.length || (sameLine sc ((ts.head?.map (·.pos.line)).getD 0) ts).length != ts.length || vs.all (foldedForSure 8)
def isTupE : Expr → Bool
  | .Tuple .. => true
  | _ => false
def asgOk (sc : Scope) (tg v : Expr) : Bool := match tg, v with
  | .Tuple ts _ _, .Tuple vs _ _ => noSwap sc ts vs
  | _, _ => true
def ckS (tab : Tab) (N : List Str) (sc : Scope) (fb : Str → Bool) : Nat → Stmt → St → Bool
  | 0, _, _ => false
  | n + 1, s, c => match s, c with
    | .Assign [.Name y py] (.ListComp elt gens scope cpos) _, .asg (.nm i) e =>
      decide (N[i]? = some y) && decide (sc.names.lookup y = some .local) && (py.line == cpos.line) && !(scope.names.any fun (n, k) => n == y && (k == .local || k == .cell)) && ck tab N 40 false false sc fb (.ListComp elt gens scope cpos) e && (match e with | .lc .. => true | _ => false)
    | .Assign [.Tuple [.Name x px, .Name y py] _ _] (.Tuple [e1, e2] _ _) _, .par [i, j] [c1, c2] =>
      decide (N[i]? = some x) && decide (N[j]? = some y) && decide (i ≠ j) && decide (x ≠ y) && decide (sc.names.lookup x = some .local) && decide (sc.names.lookup y = some .local) && (py.line == px.line) &&
      !([e1, e2].all (foldedForSure 8)) && !([e1, e2].all (constantsAlone 8)) && ckL (ck tab N 40 false false sc fb) [e1, e2] [c1, c2]
    | .Assign [.Tuple [.Name x px, .Name y py, .Name z pz] _ _] (.Tuple [e1, e2, e3] _ _) _, .par [i, j, k] [c1, c2, c3] =>
      decide (N[i]? = some x) && decide (N[j]? = some y) && decide (N[k]? = some z) && decide (i ≠ j) && decide (i ≠ k) && decide (j ≠ k) && decide (x ≠ y) && decide (x ≠ z) && decide (y ≠ z) && decide (sc.names.lookup x = some .local) && decide (sc.names.lookup y = some .local) && decide (sc.names.lookup z = some .local) && (py.line == px.line) && (pz.line == px.line) &&
      !([e1, e2, e3].all (foldedForSure 8)) && !([e1, e2, e3].all (constantsAlone 8)) && ckL (ck tab N 40 false false sc fb) [e1, e2, e3] [c1, c2, c3]
    | .Assign [.Subscript o i _] e _, .sto a b d => notSlice i && notComp e && ck tab N 40 false false sc fb o a && ck tab N 40 false false sc fb i b && ck tab N 40 false false sc fb e d
    | .Assign [tg] e _, .asg t d => (notComp e || isTupE tg) && notStar tg && asgOk sc tg e && ckT N sc fb 5 tg t && ck tab N 40 false false sc fb e d
    | .AugAssign (.Name x _) op e _, .aug i o d => decide (op = aopOf o) && decide (N[i]? = some x) && locB sc fb x && ck tab N 40 false false sc fb e d
    | .Expr e _, .exp d => notComp e && ck tab N 40 false false sc fb e d
    | .Return (some e) _, .ret d => ck tab N 40 false false sc fb e d
    | .If x p q _, .ife a b d => ck tab N 40 true false sc fb x a && ckSs (ckS tab N sc fb n) p b && ckSs (ckS tab N sc fb n) q d
    | .For tg iter body [] _, .fr t it b _ => notSet iter && ckIt (ck tab N 40 false false sc fb) sc tg iter it && ckT N sc fb 5 tg t && ckSs (ckS tab N sc fb n) body b
    | .While x body [] _, .whl a b _ => ck tab N 40 true false sc fb x a && ckSs (ckS tab N sc fb n) body b
    | .Raise (some (.Call (.Name x _) [] [] _)) none _, .rse c => decide (tab.cls.lookup x = some c) && glB sc x
    | .Try body [.ExceptHandler (some (.Name x _)) (some y) [.Assign [.Name z _] (.List [.Constant (.str w) _ _, .Call (.Name b1 _) [.Name y2 _, .Name b2 _] [] _] _) _] _] [] [] _, .tr cs [(c, v, w')] =>
      decide (tab.cls.lookup x = some c) && glB sc x && decide (sc.names.lookup y = some .local) && (visB sc y && decide (y ∈ N)) && decide (N[v]? = some z) && decide (sc.names.lookup z = some .local) && decide (w = w') && decide (b1 = "isinstance") && glB sc b1 && decide (b2 = "ValueError") && glB sc b2 && decide (y2 = y) && decide (z ≠ y) && ckSs (ckS tab N sc fb n) body cs
    | .Pass _, .pass => true
    | .Break _, .brk => true
    | .Continue _, .cnt => true
    | _, _ => false
where
  ckSs (f : Stmt → St → Bool) : List Stmt → List St → Bool
  | [], [] => true
  | e :: es, c :: cs => f e c && ckSs f es cs
  | _, _ => false

/-! ### soundness -/
def blts : List Str := ["range", "enumerate", "zip", "isinstance", "len", "abs", "int", "all", "any", "sum", "tuple", "list", "max", "min", "str", "bool", "ValueError", "sorted"]
/-- what is known of a class that is raised -/
structure ClsK (K : PySem.W.Frag) (v : Value) : Prop where
  ex : ∃ C, v = .ref C ∧ PySem.W.excIn K C He.veBase "ValueError.__new__" = true ∧ PySem.W.keepIn K (.ref C) = true ∧ PySem.W.subIn K (.ref C) (.type "BaseException") = some true ∧ PySem.W.typeIn K (.ref C) = some (.type "type") ∧ ExcC K C ∧ PySem.W.kitOne K (.ref C) (.type "ValueError") = some true
structure Cok (tab : Tab) (cv : CV) (Rf : XT → RunT) (G : List D) (N : List Str) (Y : XT) (cal : Bool) (X : Cx) (sc : Scope) (fb : Str → Bool) : Prop where
  hN : X.N = N
  nd : N.Nodup
  hs : X.env.scope = sc
  kd : sc.kind = .function
  calm : X.calm = true
  hu : X.A.units + 65 < cLine
  fb : ∀ x, fb x = true → X.fn x = true
  fn : ∀ nm id ps kws, tab.fns.lookup nm = some (id, ps, kws) → CallOk X cv nm ps kws (fun Y => Rf Y id)
  bl : ∀ nm ∈ blts, X.mg nm = none
  gl : ∀ nm i, tab.gls.lookup nm = some i → ∃ v u d, X.mg nm = some u ∧ RelV v u ∧ (∀ F, Rep X.K F v d) ∧ G[i]? = some d
  cl : ∀ nm c, tab.cls.lookup nm = some c → cv.ok c ∧ X.mg nm = some (cv.val c)
  ck : ∀ c, cv.ok c → ClsK X.K (cv.val c)
  cx : ∀ c c', cv.ok c → cv.ok c' → PySem.W.exmOne X.K (cv.val c) (cv.val c') = some (decide (c = c'))
  /-- outside of comprehensions: what is raised passes on -/
  tk : cal = false → Takes X (fun cls d _ H => WD X.K cv Y cls d H)
  po : cal = false → PassesOwn (model X.prog X.w) X.A X.env X.xe
section
variable {tab : Tab} {cv : CV} {Rf : XT → RunT} {G : List D} {N : List Str} {Y : XT} {cal : Bool} {X : Cx} {sc : Scope} {fb : Str → Bool}
theorem Cok.blk (C : Cok tab cv Rf G N Y cal X sc fb) {scope : Scope} {own : List (Str × Nat)} (ok : BlkOk X.N X.env.scope scope own) (s : Shared) (H : Hp) (Cc : Addr) (cl : List (Str × Addr)) (fp : List Addr) :
    Cok tab cv Rf G N Y true (X.blk s H scope (compEnvC scope cl Cc X.env) fp) (relS scope sc) (fun x => scope.names.lookup x == some .cell) where
  hN := C.hN
  nd := C.nd
  hs := by
    show relabel scope X.env = relS scope sc
    rw [← C.hs]; rfl
  kd := ok.kind
  calm := C.calm
  hu := C.hu
  fb := fun x h => h
  fn := C.fn
  bl := C.bl
  gl := C.gl
  cl := C.cl
  ck := C.ck
  cx := C.cx
  tk := fun h => nomatch h
  po := fun h => nomatch h
theorem Cok.pass (C : Cok tab cv Rf G N Y cal X sc fb) : PassY X cv (if cal then no else Y) := by
  cases cal with
  | true => exact passY_no
  | false => exact passes_call (C.tk rfl) fun _ _ _ _ h => h
theorem rq_id {id f : Nat} (h : idB cal id f = true) : RQ Rf Y f = Rf (if cal then no else Y) id := by
  unfold idB at h
  rw [Bool.and_eq_true] at h
  have h1 := of_decide_eq_true h.1
  have h2 := of_decide_eq_true h.2
  subst h2
  funext args s Q
  unfold RQ
  cases cal with
  | true =>
    rw [if_pos rfl, if_pos (by omega), Nat.add_sub_cancel]
    rfl
  | false =>
    rw [if_neg Bool.false_ne_true, if_neg (by omega)]
    rfl
theorem and2 {a b : Bool} (h : (a && b) = true) : a = true ∧ b = true := (Bool.and_eq_true_iff.mp h)
theorem gl_of (C : Cok tab cv Rf G N Y cal X sc fb) {x : Str} (h : glB sc x = true) : Gl X x ∧ (x == ("__debug__" : Str)) = false := by
  obtain ⟨h1, h2⟩ := and2 h
  refine ⟨?_, by simpa using h2⟩
  show X.env.scope.names.lookup x = _
  rw [C.hs]
  exact of_decide_eq_true h1
theorem vis_of (C : Cok tab cv Rf G N Y cal X sc fb) {x : Str} (h : visB sc x = true) : Vis X.env.scope x ∧ (x == ("__debug__" : Str)) = false ∧ (x == ("__classdict__" : Str)) = false := by
  obtain ⟨h12, h3⟩ := and2 h
  obtain ⟨h1, h2⟩ := and2 h12
  refine ⟨?_, by simpa using h2, by simpa using h3⟩
  rw [C.hs]
  unfold Vis
  split at h1
  · rename_i e; exact .inl e
  · rename_i e; exact .inr (.inl e)
  · rename_i e; exact .inr (.inr e)
  · cases h1
theorem loc_of (C : Cok tab cv Rf G N Y cal X sc fb) {x : Str} (h : locB sc fb x = true) : Loc X.env.scope x ∧ (X.fn x = true ∨ X.env.scope.names.lookup x = some .local) := by
  unfold locB at h
  rw [C.hs]
  split at h
  · rename_i e; exact ⟨.inl e, .inr e⟩
  · rename_i e; exact ⟨.inr e, .inl (C.fb x h)⟩
  · cases h
theorem PE.cast {e : Expr} {w w' : WE} (h : PE X e (tD X.K w)) (eq : ∀ r s P, w' r s P = w r s P) : PE X e (tD X.K w') := by
  have : w' = w := by funext r s P; exact eq r s P
  rw [this]; exact h
theorem PT.cast {e : Expr} {w w' : WB} (h : PT X e (tB X.K w)) (eq : ∀ r s P, w' r s P = w r s P) : PT X e (tB X.K w') := by
  have : w' = w := by funext r s P; exact eq r s P
  rw [this]; exact h
theorem PW.cast {e : Expr} {w w' : WB} (h : PW X e (tB X.K w)) (eq : ∀ r s P, w' r s P = w r s P) : PW X e (tB X.K w') := by
  have : w' = w := by funext r s P; exact eq r s P
  rw [this]; exact h
theorem PA.cast {e : List Expr} {n : Nat} {w w' : WL} (h : PA X e (tL X.K n w)) (eq : ∀ r s P, w' r s P = w r s P) : PA X e (tL X.K n w') := by
  have : w' = w := by funext r s P; exact eq r s P
  rw [this]; exact h
theorem PK.cast {e : List Keyword} {n : Nat} {w w' : WL} (h : PK X e (tL X.K n w)) (eq : ∀ r s P, w' r s P = w r s P) : PK X e (tL X.K n w') := by
  have : w' = w := by funext r s P; exact eq r s P
  rw [this]; exact h
theorem PS.cast {e : Stmt} {w w' : WS} (h : PS X e (tS X.K Y w)) (eq : ∀ r s P, P.ex = Y → w' r s P = w r s P) : PS X e (tS X.K Y w') := PS.of h fun D σ H q => by
  obtain ⟨F, B, s, r, k, m, er, q, l⟩ := q
  exact ⟨F, B, s, r, k, m, er, by rw [← eq r s k l.ex]; exact q, l⟩
theorem PSs.cast {e : List Stmt} {w w' : WS} (h : PSs X e (tS X.K Y w)) (eq : ∀ r s P, P.ex = Y → w' r s P = w r s P) : PSs X e (tS X.K Y w') := PSs.of h fun D σ H q => by
  obtain ⟨F, B, s, r, k, m, er, q, l⟩ := q
  exact ⟨F, B, s, r, k, m, er, by rw [← eq r s k l.ex]; exact q, l⟩
theorem PI.cast {tg e : Expr} {w w' : WI} (h : PI X tg e (tI X.K w)) (eq : ∀ r s P, w' r s P = w r s P) : PI X tg e (tI X.K w') := by
  have : w' = w := by funext r s P; exact eq r s P
  rw [this]; exact h
theorem ckL_ok {f : Expr → E → Bool} (hf : ∀ e c, f e c = true → PE X e (tD X.K (wE (RQ Rf Y) G c))) : ∀ {es : List Expr} {cs : List E}, ckL f es cs = true → PA X es (tL X.K cs.length (wEs (RQ Rf Y) G cs)) ∧ es.all notStar = true
  | [], [], _ => ⟨PA.cast dl_nil fun r s P => by simp only [wEs] <;> rfl, rfl⟩
  | e :: es, c :: cs, h => by
    unfold ckL at h
    obtain ⟨h12, h3⟩ := and2 h
    obtain ⟨h1, h2⟩ := and2 h12
    obtain ⟨q1, q2⟩ := ckL_ok hf h3
    exact ⟨PA.cast (dl_cons (hf e c h2) q1 h1) fun r s P => by simp only [wEs] <;> rfl, by rw [List.all_cons, h1, q2]; rfl⟩
  | [], _ :: _, h => by cases h
  | _ :: _, [], h => by cases h
theorem ckKw_ok {f : Expr → E → Bool} (hf : ∀ e c, f e c = true → PE X e (tD X.K (wE (RQ Rf Y) G c))) : ∀ {es : List Keyword} {cs : List E}, ckKw f es cs = true → PK X es (tL X.K cs.length (wEs (RQ Rf Y) G cs)) ∧ (es.all fun k => k.arg.isSome) = true ∧ cs.length = (kwNames es).length
  | [], [], _ => ⟨PK.cast dk_nil fun r s P => by simp only [wEs] <;> rfl, rfl, rfl⟩
  | ⟨nm, v, p⟩ :: es, c :: cs, h => by
    unfold ckKw at h
    obtain ⟨h12, h3⟩ := and2 h
    obtain ⟨h1, h2⟩ := and2 h12
    obtain ⟨q1, q2, q3⟩ := ckKw_ok hf h3
    cases nm with
    | none => cases h1
    | some x => exact ⟨PK.cast (dk_cons (hf v c h2) q1) fun r s P => by simp only [wEs] <;> rfl, by rw [List.all_cons, q2]; rfl, by rw [List.length_cons, q3]; rfl⟩
  | [], _ :: _, h => by cases h
  | _ :: _, [], h => by cases h
theorem ckD_ok {f : Expr → E → Bool} (hf : ∀ e c, f e c = true → PE X e (tD X.K (wE (RQ Rf Y) G c))) {pos : Pos} : ∀ {ks : List (Option Expr)} {vs : List Expr} {es : List E}, ckD f ks vs es = true →
    ∃ trs, PPs X pos ks vs trs ∧ PairTs X.K trs (wEs (RQ Rf Y) G es) ∧ trs.length = ks.length ∧ ks.all (·.isSome) = true ∧ ks.length = vs.length
  | [], [], [], _ => ⟨[], pps_nil, by
    have : wEs (RQ Rf Y) G [] = fun _ s P => P [] s := by funext r s P; simp only [wEs]
    rw [this]; exact pairTs_nil, rfl, rfl, rfl⟩
  | some k :: ks, v :: vs, a :: b :: es, h => by
    unfold ckD at h
    obtain ⟨h12, h3⟩ := and2 h
    obtain ⟨h1, h2⟩ := and2 h12
    obtain ⟨trs, q1, q2, q3, q4, q5⟩ := ckD_ok hf (pos := pos) h3
    refine ⟨_, pps_cons (hf k a h1) (hf v b h2) q1, ?_, by rw [List.length_cons, List.length_cons, q3], by rw [List.all_cons, q4]; rfl, by rw [List.length_cons, List.length_cons, q5]⟩
    have : wEs (RQ Rf Y) G (a :: b :: es) = fun r s P => wE (RQ Rf Y) G a r s fun x s1 => wE (RQ Rf Y) G b r s1 fun y s2 => wEs (RQ Rf Y) G es r s2 fun ds s3 => P (x :: y :: ds) s3 := by funext r s P; simp only [wEs]
    rw [this]
    exact pairTs_cons q2
  | [], [], _ :: _, h => by simp [ckD] at h
  | [], _ :: _, _, h => by simp [ckD] at h
  | none :: _, _, _, h => by simp [ckD] at h
  | some _ :: _, [], _, h => by simp [ckD] at h
  | some _ :: _, _ :: _, [], h => by simp [ckD] at h
  | some _ :: _, _ :: _, [_], h => by simp [ckD] at h
theorem ckO_ok {f : Expr → E → Bool} (hf : ∀ e c, f e c = true → PE X e (tD X.K (wE (RQ Rf Y) G c))) {o : Option Expr} {c : Option E} (h : ckO f o c = true) : PO X o (tO X.K (wO (RQ Rf Y) G c)) := by
  unfold ckO at h
  split at h
  · have : wO (RQ Rf Y) G none = fun _ s P => P none s := by funext r s P; simp only [wO]
    rw [this]; exact do_none
  · rename_i e c
    have : wO (RQ Rf Y) G (some c) = fun r s P => wE (RQ Rf Y) G c r s fun x s1 => match x with | .int i => P (some i) s1 | _ => False := by funext r s P; simp only [wO] <;> rfl
    rw [this]; exact do_some (hf e c h)
  · cases h
theorem ckTys_ok (C : Cok tab cv Rf G N Y cal X sc fb) : ∀ {es : List Expr} {ts : List Ty}, ckTys sc es ts = true → TyEs es ts ∧ ∀ t ∈ ts, GlT X t
  | [], [], _ => ⟨.nil, fun _ h => nomatch h⟩
  | e :: es, t :: ts, h => by
    unfold ckTys at h
    split at h
    · rename_i heq _
      cases heq
    · rename_i e1 e2
      cases e1; cases e2
      obtain ⟨h12, h3⟩ := and2 h
      obtain ⟨h1, h2⟩ := and2 h12
      have e := of_decide_eq_true h1
      subst e
      obtain ⟨q1, q2⟩ := ckTys_ok C h3
      refine ⟨.cons q1, fun t' ht => ?_⟩
      rcases List.mem_cons.mp ht with rfl | ht
      · exact ⟨(gl_of C h2).1, C.bl _ (by cases t' <;> decide +kernel)⟩
      · exact q2 t' ht
    · cases h
  | [], _ :: _, h => by cases h
  | e :: _, [], h => by cases e <;> cases h
theorem ckAnd_ok {f : Expr → E → Bool} {pos : Pos} (hf : ∀ e c, f e c = true → PE X e (tD X.K (wE (RQ Rf Y) G c))) : ∀ {es : List Expr} {c : E}, ckAnd f es c = true → PE X (.BoolOp .And es pos) (tD X.K (wE (RQ Rf Y) G c))
  | [e], c, h => pe_one (hf e c h)
  | e :: e2 :: es, c, h => by
    cases c with
    | and a b =>
      simp only [ckAnd] at h
      obtain ⟨h1, h2⟩ := and2 h
      exact PE.cast (de_and (hf _ _ h1) (ckAnd_ok hf h2)) fun r s P => by simp only [wE] <;> rfl
    | _ => simp only [ckAnd, ckOr] at h; cases h
  | [], _, h => by cases h
theorem ckOr_ok {f : Expr → E → Bool} {pos : Pos} (hf : ∀ e c, f e c = true → PE X e (tD X.K (wE (RQ Rf Y) G c))) : ∀ {es : List Expr} {c : E}, ckOr f es c = true → PE X (.BoolOp .Or es pos) (tD X.K (wE (RQ Rf Y) G c))
  | [e], c, h => pe_one (hf e c h)
  | e :: e2 :: es, c, h => by
    cases c with
    | or a b =>
      simp only [ckOr] at h
      obtain ⟨h1, h2⟩ := and2 h
      exact PE.cast (de_or (hf _ _ h1) (ckOr_ok hf h2)) fun r s P => by simp only [wE] <;> rfl
    | _ => simp only [ckAnd, ckOr] at h; cases h
  | [], _, h => by cases h
theorem ckAndB_ok {f : Expr → E → Bool} {pos : Pos} (hf : ∀ e c, f e c = true → PT X e (tB X.K (wB (RQ Rf Y) G c))) : ∀ {es : List Expr} {c : E}, ckAnd f es c = true → PW X (.BoolOp .And es pos) (tB X.K (wB (RQ Rf Y) G c))
  | [e], c, h => pw_and1 (hf e c h)
  | e :: e2 :: es, c, h => by
    cases c with
    | and a b =>
      simp only [ckAnd] at h
      obtain ⟨h1, h2⟩ := and2 h
      exact PW.cast (db_and (hf _ _ h1) (ckAndB_ok hf h2)) fun r s P => by simp only [wB] <;> rfl
    | _ => simp only [ckAnd, ckOr] at h; cases h
  | [], _, h => by cases h
theorem ckOrB_ok {f : Expr → E → Bool} {pos : Pos} (hf : ∀ e c, f e c = true → PT X e (tB X.K (wB (RQ Rf Y) G c))) : ∀ {es : List Expr} {c : E}, ckOr f es c = true → PW X (.BoolOp .Or es pos) (tB X.K (wB (RQ Rf Y) G c))
  | [e], c, h => pw_or1 (hf e c h)
  | e :: e2 :: es, c, h => by
    cases c with
    | or a b =>
      simp only [ckOr] at h
      obtain ⟨h1, h2⟩ := and2 h
      exact PW.cast (db_or (hf _ _ h1) (ckOrB_ok hf h2)) fun r s P => by simp only [wB] <;> rfl
    | _ => simp only [ckAnd, ckOr] at h; cases h
  | [], _, h => by cases h
theorem ckT_ok (C : Cok tab cv Rf G N Y cal X sc fb) : ∀ {n : Nat} {e : Expr} {t : T}, ckT N sc fb n e t = true → PG X e (gT X.K (slT t) (asgW t))
  | 0, _, _, h => by cases h
  | n + 1, e, t, h => by
    unfold ckT at h
    split at h
    · obtain ⟨h1, h2⟩ := and2 h
      obtain ⟨q1, q2⟩ := loc_of C h2
      rename_i i
      have : slT (T.nm i) = [i] := by simp only [slT]
      rw [this]
      exact dg_nm (by rw [C.hN]; exact C.nd) (by rw [C.hN]; exact of_decide_eq_true h1) q1 q2
    · rename_i es _ _ ts
      have all : ∀ (es : List Expr) (ts : List T), ckT.ckTs (ckT N sc fb n) es ts = true → PGs X es (gTs X.K (slTs ts) (asgsW ts)) ∧ es.all notStar = true ∧ es.length = ts.length := by
        intro es
        induction es with
        | nil =>
          intro ts h
          cases ts with
          | nil =>
            have : slTs [] = [] := by simp only [slTs]
            rw [this]; exact ⟨dg_nil, rfl, rfl⟩
          | cons _ _ => cases h
        | cons e es ih =>
          intro ts h
          cases ts with
          | nil => cases h
          | cons t ts =>
            unfold ckT.ckTs at h
            obtain ⟨h12, h3⟩ := and2 h
            obtain ⟨h1, h2⟩ := and2 h12
            obtain ⟨q1, q2, q3⟩ := ih ts h3
            have : slTs (t :: ts) = slT t ++ slTs ts := by simp only [slTs]
            rw [this]
            exact ⟨dg_cons (ckT_ok C h2) q1 h1, by rw [List.all_cons, h1, q2]; rfl, by rw [List.length_cons, List.length_cons, q3]⟩
      obtain ⟨q1, q2, q3⟩ := all es ts h
      have : slT (T.tp ts) = slTs ts := by simp only [slT]
      rw [this]
      exact dg_tup C.calm q1 q2 q3
    · cases h
theorem ckIt_ok (C : Cok tab cv Rf G N Y cal X sc fb) {f : Expr → E → Bool} (hf : ∀ e c, f e c = true → PE X e (tD X.K (wE (RQ Rf Y) G c))) {tg e : Expr} {it : It} (h : ckIt f sc tg e it = true) : PI X tg e (tI X.K (wI (RQ Rf Y) G it)) := by
  unfold ckIt at h
  split at h
  · obtain ⟨h, h4⟩ := and2 h
    obtain ⟨h, h3⟩ := and2 h
    obtain ⟨h1, h2⟩ := and2 h
    have e := of_decide_eq_true h1
    subst e
    exact PI.cast (di_rng1 (gl_of C h2).1 (C.bl _ (by decide +kernel)) (hf _ _ h4) h3) fun r s P => by simp only [wI] <;> rfl
  · obtain ⟨h, h6⟩ := and2 h
    obtain ⟨h, h5⟩ := and2 h
    obtain ⟨h, h4⟩ := and2 h
    obtain ⟨h, h3⟩ := and2 h
    obtain ⟨h1, h2⟩ := and2 h
    have e := of_decide_eq_true h1
    subst e
    exact PI.cast (di_rng2 (gl_of C h2).1 (C.bl _ (by decide +kernel)) (hf _ _ h5) (hf _ _ h6) h3 h4) fun r s P => by simp only [wI] <;> rfl
  · obtain ⟨h, h5⟩ := and2 h
    obtain ⟨h, h4⟩ := and2 h
    obtain ⟨h, h3⟩ := and2 h
    obtain ⟨h1, h2⟩ := and2 h
    have e := of_decide_eq_true h1
    subst e
    split at h5
    · exact PI.cast (di_enum (gl_of C h2).1 (C.bl _ (by decide +kernel)) (hf _ _ h4) h3) fun r s P => by simp only [wI] <;> rfl
    · cases h5
  · obtain ⟨h, h7⟩ := and2 h
    obtain ⟨h, h6⟩ := and2 h
    obtain ⟨h, h5⟩ := and2 h
    obtain ⟨h, h4⟩ := and2 h
    obtain ⟨h, h3⟩ := and2 h
    obtain ⟨h1, h2⟩ := and2 h
    have e := of_decide_eq_true h1
    have e6 := of_decide_eq_true h6
    subst e e6
    split at h5
    · exact PI.cast (di_enum2 (gl_of C h2).1 (C.bl _ (by decide +kernel)) (hf _ _ h4) h3 (of_decide_eq_true h7)) fun r s P => by simp only [wI] <;> rfl
    · cases h5
  · obtain ⟨h, h7⟩ := and2 h
    obtain ⟨h, h6⟩ := and2 h
    obtain ⟨h, h5⟩ := and2 h
    obtain ⟨h, h4⟩ := and2 h
    obtain ⟨h, h3⟩ := and2 h
    obtain ⟨h1, h2⟩ := and2 h
    have e := of_decide_eq_true h1
    subst e
    split at h7
    · exact PI.cast (di_zip (gl_of C h2).1 (C.bl _ (by decide +kernel)) (hf _ _ h5) (hf _ _ h6) h3 h4) fun r s P => by simp only [wI] <;> rfl
    · cases h7
  · exact PI.cast (di_seq (hf _ _ h)) fun r s P => by simp only [wI] <;> rfl
  · cases h
theorem boot_bi : ∀ b : Bi, bootBuiltins (biN b) = some (biV b) ∧ biN b ≠ "__name__" ∧ (biN b == ("__debug__" : Str)) = false ∧ biN b ∈ blts
  | .len => by decide +kernel
  | .abs => by decide +kernel
  | .int => by decide +kernel
  | .all => by decide +kernel
  | .any => by decide +kernel
  | .sum => by decide +kernel
  | .tuple => by decide +kernel
  | .list => by decide +kernel
  | .max2 => by decide +kernel
  | .min2 => by decide +kernel
  | .sorted => by decide +kernel

/-- a comprehension's parts, from the check of them -/
theorem lc_ok (C : Cok tab cv Rf G N Y cal X sc fb) {n : Nat} (hE : ∀ e c, ck tab N n false cal sc fb e c = true → PE X e (tD X.K (wE (RQ Rf Y) G c)))
    (ihE : ∀ (cal : Bool) (X : Cx) (sc : Scope) (fb : Str → Bool) (e : Expr) (c : E), Cok tab cv Rf G N Y cal X sc fb → ck tab N n false cal sc fb e c = true → PE X e (tD X.K (wE (RQ Rf Y) G c)))
    (ihB : ∀ (cal : Bool) (X : Cx) (sc : Scope) (fb : Str → Bool) (e : Expr) (c : E), Cok tab cv Rf G N Y cal X sc fb → ck tab N n true cal sc fb e c = true → PT X e (tB X.K (wB (RQ Rf Y) G c)))
    {elt tg iter : Expr} {ifs : List Expr} {scope : Scope} {own : List Nat} {el : E} {t : T} {it : It} {c : Option E}
    (h2 : decide ((own.filterMap fun i => N[i]?.map fun x => (x, i)).map (·.2) = own) = true) (h3 : blkC N sc scope (own.filterMap fun i => N[i]?.map fun x => (x, i)) = true) (h4 : notSet iter = true) (h5 : ckIt (ck tab N n false cal sc fb) sc tg iter it = true)
    (h6 : ckT N (relS scope sc) (fun x => scope.names.lookup x == some .cell) n tg t = true) (h7 : (slT t).all (fun i => decide (i ∈ own)) = true) (h8 : ck tab N n false true (relS scope sc) (fun x => scope.names.lookup x == some .cell) elt el = true)
    (h9 : (match ifs, c with
      | [], none => true
      | [x], some a => ck tab N n true true (relS scope sc) (fun x => scope.names.lookup x == some .cell) x a
      | _, _ => false) = true) : LcOk X elt tg iter ifs scope (own.filterMap fun i => N[i]?.map fun x => (x, i)) (wI (RQ Rf Y) G it) t (slT t) (wOB (RQ Rf Y) G c) (wE (RQ Rf Y) G el) := by
  have ok : BlkOk X.N X.env.scope scope (own.filterMap fun i => N[i]?.map fun x => (x, i)) := by rw [C.hN, C.hs]; exact blkOk_by h3
  refine ⟨ckIt_ok C hE h5, ok, fun s H Cc cl fp => ckT_ok (C.blk ok s H Cc cl fp) h6, fun s H Cc cl fp => ?_, fun s H Cc cl fp => ihE _ _ _ _ _ _ (C.blk ok s H Cc cl fp) h8, fun i hi => ?_, h4⟩
  · split at h9
    · have : wOB (RQ Rf Y) G none = fun _ s P => P true s := by funext r s P; simp only [wOB]
      rw [this]
      exact dts_nil
    · have : ∀ a, wOB (RQ Rf Y) G (some a) = wB (RQ Rf Y) G a := by intro a; funext r s P; simp only [wOB]
      rw [this]
      exact pts_one (ihB _ _ _ _ _ _ (C.blk ok s H Cc cl fp) h9)
    · cases h9
  · rw [of_decide_eq_true h2]
    exact of_decide_eq_true (List.all_eq_true.mp h7 i hi)
theorem ty_blt : ∀ t : Ty, Str.ofString (tyN t) ∈ blts
  | .int => by decide +kernel
  | .bool => by decide +kernel
  | .str => by decide +kernel
  | .list => by decide +kernel
  | .tuple => by decide +kernel
set_option maxHeartbeats 4000000 in
theorem ck_ok : ∀ n : Nat, (∀ (cal : Bool) (X : Cx) (sc : Scope) (fb : Str → Bool) (e : Expr) (c : E), Cok tab cv Rf G N Y cal X sc fb → ck tab N n false cal sc fb e c = true → PE X e (tD X.K (wE (RQ Rf Y) G c))) ∧
    (∀ (cal : Bool) (X : Cx) (sc : Scope) (fb : Str → Bool) (e : Expr) (c : E), Cok tab cv Rf G N Y cal X sc fb → ck tab N n true cal sc fb e c = true → PT X e (tB X.K (wB (RQ Rf Y) G c)))
  | 0 => ⟨(fun _ _ _ _ _ _ _ h => by simp [ck] at h), (fun _ _ _ _ _ _ _ h => by simp [ck] at h)⟩
  | n + 1 => by
    obtain ⟨ihE, ihB⟩ := ck_ok n
    refine ⟨fun cal X sc fb e c C h => ?_, fun cal X sc fb e c C h => ?_⟩
    · have hE : ∀ e c, ck tab N n false cal sc fb e c = true → PE X e (tD X.K (wE (RQ Rf Y) G c)) := fun e c h => ihE cal X sc fb e c C h
      have hB : ∀ e c, ck tab N n true cal sc fb e c = true → PT X e (tB X.K (wB (RQ Rf Y) G c)) := fun e c h => ihB cal X sc fb e c C h
      simp only [ck] at h
      split at h
      · obtain ⟨h1, h2⟩ := and2 h
        obtain ⟨q1, q2, q3⟩ := vis_of C h2
        exact PE.cast (de_var (by rw [C.hN]; exact of_decide_eq_true h1) q1 q2 q3) fun r s P => by simp only [wE] <;> rfl
      · obtain ⟨h1, h2⟩ := and2 h
        obtain ⟨q1, q2⟩ := gl_of C h2
        obtain ⟨v, u, d, g1, g2, g3, g4⟩ := C.gl _ _ (of_decide_eq_true h1)
        exact PE.cast (de_const (pe_glob q1 g1 g2 q2) g3) fun r s P => by simp only [wE, g4] <;> rfl
      · have e := of_decide_eq_true h
        subst e
        exact PE.cast (de_const pe_int fun F => .int _) fun r s P => by simp only [wE] <;> rfl
      · have e := of_decide_eq_true h
        subst e
        exact PE.cast (de_const pe_bl fun F => .bl _) fun r s P => by simp only [wE] <;> rfl
      · exact PE.cast (de_const pe_non fun F => .non) fun r s P => by simp only [wE] <;> rfl
      · have e := of_decide_eq_true h
        subst e
        exact PE.cast (de_const pe_str fun F => .str _) fun r s P => by simp only [wE] <;> rfl
      · obtain ⟨h, h3⟩ := and2 h
        obtain ⟨h1, h2⟩ := and2 h
        have e := of_decide_eq_true h1
        subst e
        exact PE.cast (de_bin _ (hE _ _ h2) (hE _ _ h3)) fun r s P => by simp only [wE] <;> rfl
      · exact PE.cast (de_neg (hE _ _ h)) fun r s P => by simp only [wE] <;> rfl
      · exact PE.cast (de_not (hE _ _ h)) fun r s P => by simp only [wE] <;> rfl
      · exact ckAnd_ok hE h
      · exact ckOr_ok hE h
      · exact PE.cast (de_isN (hE _ _ h)) fun r s P => by simp only [wE] <;> rfl
      · exact PE.cast (de_notN (hE _ _ h)) fun r s P => by simp only [wE] <;> rfl
      · obtain ⟨h, h4⟩ := and2 h
        obtain ⟨h, h3⟩ := and2 h
        obtain ⟨h1, h2⟩ := and2 h
        have e := of_decide_eq_true h1
        subst e
        exact PE.cast (de_cmp C.hu _ (hE _ _ h3) (hE _ _ h4) h2) fun r s P => by simp only [wE] <;> rfl
      · obtain ⟨h, h6⟩ := and2 h
        obtain ⟨h, h5⟩ := and2 h
        obtain ⟨h, h4⟩ := and2 h
        obtain ⟨h, h3⟩ := and2 h
        obtain ⟨h1, h2⟩ := and2 h
        have e := of_decide_eq_true h1
        have e2 := of_decide_eq_true h2
        subst e e2
        exact PE.cast (de_chain C.hu _ _ (hE _ _ h4) (hE _ _ h5) (hE _ _ h6) h3) fun r s P => by simp only [wE] <;> rfl
      · obtain ⟨h, h3⟩ := and2 h
        obtain ⟨h1, h2⟩ := and2 h
        exact PE.cast (de_ite (hB _ _ h1) (hE _ _ h2) (hE _ _ h3)) fun r s P => by simp only [wE] <;> rfl
      · exact PE.cast (de_tup (ckL_ok hE h).1) fun r s P => by simp only [wE] <;> rfl
      · exact PE.cast (de_lst (ckL_ok hE h).1) fun r s P => by simp only [wE] <;> rfl
      · obtain ⟨h, h3⟩ := and2 h
        obtain ⟨h1, h2⟩ := and2 h
        exact PE.cast (de_slc (hE _ _ h1) (ckO_ok hE h2) (ckO_ok hE h3)) fun r s P => by simp only [wE] <;> rfl
      · obtain ⟨h, h5⟩ := and2 h
        obtain ⟨h, h4⟩ := and2 h
        obtain ⟨h, h3⟩ := and2 h
        obtain ⟨h1, h2⟩ := and2 h
        obtain ⟨trs, q1, q2, q3, q4, q5⟩ := ckD_ok hE h2
        have h15 := of_decide_eq_true h4
        exact PE.cast (de_dsel (by have := C.hu; omega) q1 q2 q4 q5 (of_decide_eq_true h3) h15 (by omega) (hE _ _ h5) h1) fun r s P => by simp only [wE] <;> rfl
      · obtain ⟨h, h3⟩ := and2 h
        obtain ⟨h1, h2⟩ := and2 h
        exact PE.cast (de_sub (hE _ _ h2) (hE _ _ h3) h1) fun r s P => by simp only [wE] <;> rfl
      · obtain ⟨h, h6⟩ := and2 h
        obtain ⟨h, h5⟩ := and2 h
        obtain ⟨h, h4⟩ := and2 h
        obtain ⟨h, h3⟩ := and2 h
        obtain ⟨h1, h2⟩ := and2 h
        have e := of_decide_eq_true h1
        have e2 := of_decide_eq_true h3
        subst e e2
        exact PE.cast (de_isi1 (hE _ _ h6) h5 (gl_of C h2).1 (C.bl _ (by decide +kernel)) ⟨(gl_of C h4).1, C.bl _ (ty_blt _)⟩) fun r s P => by simp only [wE] <;> rfl
      · obtain ⟨h, h6⟩ := and2 h
        obtain ⟨h, h5⟩ := and2 h
        obtain ⟨h, h4⟩ := and2 h
        obtain ⟨h, h3⟩ := and2 h
        obtain ⟨h1, h2⟩ := and2 h
        have e := of_decide_eq_true h1
        subst e
        obtain ⟨q1, q2⟩ := ckTys_ok C h3
        exact PE.cast (de_isiT (hE _ _ h6) h5 (gl_of C h2).1 (C.bl _ (by decide +kernel)) q1 q2 (Nat.le_trans (of_decide_eq_true h4) (by decide))) fun r s P => by simp only [wE] <;> rfl
      · rename_i b m cs
        obtain ⟨h, h3⟩ := and2 h
        obtain ⟨h1, h2⟩ := and2 h
        have e := of_decide_eq_true h1
        subst e
        obtain ⟨q1, q2⟩ := ckL_ok hE h3
        rw [List.all_cons, Bool.and_eq_true] at q2
        obtain ⟨z1, z2, z3, z4⟩ := boot_bi b
        have hb := dD_bi (m := m) C.calm b
        cases b <;> first
          | exact PE.cast (de_biB hb (gl_of C h2).1 (C.bl _ z4) z1 q1 q2.1 q2.2 z2 z3) fun r s P => by simp only [wE] <;> rfl
          | exact PE.cast (de_biT hb (gl_of C h2).1 (C.bl _ z4) z1 q1 q2.1 q2.2 z2 z3) fun r s P => by simp only [wE] <;> rfl
      · obtain ⟨h, h3⟩ := and2 h
        obtain ⟨h1, h2⟩ := and2 h
        obtain ⟨q1, q2⟩ := ckL_ok hE h2
        rw [List.all_cons, Bool.and_eq_true] at q2
        split at h3
        · rename_i id ps kws e
          obtain ⟨h3, h4⟩ := and2 h3
          exact PE.cast (de_call (C.fn _ _ _ _ e) C.pass (gl_of C h1).1 q1 (of_decide_eq_true h4) (gl_of C h1).2 q2.1 q2.2) fun r s P => by simp only [wE, rq_id h3] <;> rfl
        · cases h3
      · rename_i x _ es k ks _ m f cs ds perm
        obtain ⟨h, h4⟩ := and2 h
        obtain ⟨h, h3⟩ := and2 h
        obtain ⟨h1, h2⟩ := and2 h
        obtain ⟨q1, q2⟩ := ckL_ok hE h2
        obtain ⟨k1, k2, k3⟩ := ckKw_ok hE h3
        split at h4
        · rename_i id ps kws e
          obtain ⟨h4, h8⟩ := and2 h4
          obtain ⟨h4, h7⟩ := and2 h4
          obtain ⟨h5, h6⟩ := and2 h4
          cases es with
          | nil =>
            cases cs with
            | nil =>
              refine PE.cast (de_callk0 (m := m) (C.fn _ _ _ _ e) C.pass (gl_of C h1).1 k1 (of_decide_eq_true h6) ?_ (of_decide_eq_true h8) k3 k2 (gl_of C h1).2) fun r s P => by simp only [wE, wEs, rq_id h5] <;> rfl
              simpa using h7
            | cons _ _ => cases h2
          | cons e0 es0 => exact PE.cast (de_callk (C.fn _ _ _ _ e) C.pass (gl_of C h1).1 q1 k1 (of_decide_eq_true h6) h7 (of_decide_eq_true h8) k3 k2 (gl_of C h1).2 q2) fun r s P => by simp only [wE, rq_id h5] <;> rfl
        · cases h4
      · obtain ⟨h, h6⟩ := and2 h
        obtain ⟨h, h5⟩ := and2 h
        obtain ⟨h, h4⟩ := and2 h
        obtain ⟨h, h3⟩ := and2 h
        obtain ⟨h1, h2⟩ := and2 h
        have e := of_decide_eq_true h1
        subst e
        exact PE.cast (de_app (hE _ _ h5) (hE _ _ h6) h2 h3 h4) fun r s P => by simp only [wE] <;> rfl
      · obtain ⟨h, h6⟩ := and2 h
        obtain ⟨h, h5⟩ := and2 h
        obtain ⟨h, h4⟩ := and2 h
        obtain ⟨h, h3⟩ := and2 h
        obtain ⟨h1, h2⟩ := and2 h
        have e := of_decide_eq_true h1
        subst e
        exact PE.cast (de_ext (hE _ _ h5) (hE _ _ h6) h2 h3 h4) fun r s P => by simp only [wE] <;> rfl
      · rename_i elt tg iter ifs isa scope _ m own el t it c
        obtain ⟨h, h9⟩ := and2 h
        obtain ⟨h, h8⟩ := and2 h
        obtain ⟨h, h7⟩ := and2 h
        obtain ⟨h, h6⟩ := and2 h
        obtain ⟨h, h5⟩ := and2 h
        obtain ⟨h, h4⟩ := and2 h
        obtain ⟨h, h3⟩ := and2 h
        obtain ⟨h1, h2⟩ := and2 h
        have e := of_decide_eq_true h1
        subst e
        have e2 := of_decide_eq_true h2
        have L := lc_ok C hE ihE ihB h2 h3 h4 h5 h6 h7 h8 h9
        have q := de_lc (b := m) (pos := by assumption) C.calm (by rw [C.hN]; exact C.nd) L
        rw [e2] at q
        exact PE.cast q fun r s P => by simp only [wE, turnW] <;> rfl
      · cases h
    · have hE : ∀ e c, ck tab N n false cal sc fb e c = true → PE X e (tD X.K (wE (RQ Rf Y) G c)) := fun e c h => ihE cal X sc fb e c C h
      have hB : ∀ e c, ck tab N n true cal sc fb e c = true → PT X e (tB X.K (wB (RQ Rf Y) G c)) := fun e c h => ihB cal X sc fb e c C h
      simp only [ck] at h
      split at h
      · exact PT.cast (db_not (hB _ _ h)) fun r s P => by simp only [wB] <;> rfl
      · exact (ckAndB_ok hB h).pt
      · exact (ckOrB_ok hB h).pt
      · exact PT.cast (db_isN (hE _ _ h)) fun r s P => by simp only [wB] <;> rfl
      · exact PT.cast (db_notN (hE _ _ h)) fun r s P => by simp only [wB] <;> rfl
      · obtain ⟨h, h4⟩ := and2 h
        obtain ⟨h, h3⟩ := and2 h
        obtain ⟨h1, h2⟩ := and2 h
        have e := of_decide_eq_true h1
        subst e
        exact PT.cast (db_cmp C.hu _ (hE _ _ h3) (hE _ _ h4) h2) fun r s P => by simp only [wB] <;> rfl
      · obtain ⟨h, h6⟩ := and2 h
        obtain ⟨h, h5⟩ := and2 h
        obtain ⟨h, h4⟩ := and2 h
        obtain ⟨h, h3⟩ := and2 h
        obtain ⟨h1, h2⟩ := and2 h
        have e := of_decide_eq_true h1
        have e2 := of_decide_eq_true h2
        subst e e2
        exact PT.cast (db_chain C.hu _ _ (hE _ _ h4) (hE _ _ h5) (hE _ _ h6) h3) fun r s P => by simp only [wB] <;> rfl
      · obtain ⟨h, h3⟩ := and2 h
        obtain ⟨h1, h2⟩ := and2 h
        refine PT.cast (db_tru (hE _ _ h3) h1) fun r s P => ?_
        cases c <;> first | (simp only [wB] <;> rfl; done) | (simp [plainC] at h2; done)
end
end IR

set_option Elab.async false
set_option linter.all false
set_option maxRecDepth 100000
/-! So8: statements that are checked are sound; a whole program. -/
namespace IR
open PySem PySem.Spec PyProof.Rows L2
variable [A : Anchor]
section
variable {tab : Tab} {cv : CV} {Rf : XT → RunT} {G : List D} {N : List Str} {Y : XT} {cal : Bool} {X : Cx} {sc : Scope} {fb : Str → Bool}
theorem blockKind_ok (C : Cok tab cv Rf G N Y cal X sc fb) : X.env.blockKind = .function := by
  unfold Env.blockKind
  rw [C.hs, C.kd]; rfl
theorem kindOf_ok (C : Cok tab cv Rf G N Y cal X sc fb) (x : Str) : X.env.kindOf x = sc.names.lookup x := by
  show X.env.scope.names.lookup x = _
  rw [C.hs]
theorem star_no {e : Expr} (h : notStar e = true) (z : (match e with | .Starred .. => true | _ => false) = true) : False := by
  cases e <;> first | (cases z; done) | (simp [notStar] at h; done)
theorem swap2 (C : Cok tab cv Rf G N Y cal X sc fb) {x y : Str} {px py pt pt2 : Pos} {kt k2 : Nat} {e1 e2 : Expr} (hxy : x ≠ y) (hx : sc.names.lookup x = some .local) (hy : sc.names.lookup y = some .local) (hl : (py.line == px.line) = true) (h1 : notStar e1 = true) (h2 : notStar e2 = true)
    (hf : [e1, e2].all (foldedForSure 8) = false) (hc : [e1, e2].all (constantsAlone 8) = false) : swappedStores [.Tuple [.Name x px, .Name y py] kt pt] (.Tuple [e1, e2] k2 pt2) X.env = pure (some [x, y]) := by
  have kx : X.env.kindOf x = some .local := (kindOf_ok C x).trans hx
  have ky : X.env.kindOf y = some .local := (kindOf_ok C y).trans hy
  have dd : ([x, y] : List Str).eraseDups.length = 2 := by
    simp [List.eraseDups_cons, hxy, Ne.symm hxy]
  unfold swappedStores
  simp only [blockKind_ok C, List.length_cons, List.length_nil, List.any_cons, List.any_nil, List.head?_cons, Option.map_some, Option.getD_some, Expr.pos, List.filterMap_cons, List.filterMap_nil, kx, ky, hl, hf, hc]
  simp [dd]
  rintro (h | h)
  · cases e1 <;> first | (cases h; done) | (simp [notStar] at h1; done)
  · cases e2 <;> first | (cases h; done) | (simp [notStar] at h2; done)
theorem swap3 (C : Cok tab cv Rf G N Y cal X sc fb) {x y z : Str} {px py pz pt pt2 : Pos} {kt k2 : Nat} {e1 e2 e3 : Expr} (hxy : x ≠ y) (hxz : x ≠ z) (hyz : y ≠ z) (hx : sc.names.lookup x = some .local) (hy : sc.names.lookup y = some .local) (hz : sc.names.lookup z = some .local) (hl : (py.line == px.line) = true) (hl2 : (pz.line == px.line) = true) (h1 : notStar e1 = true) (h2 : notStar e2 = true) (h3 : notStar e3 = true)
    (hf : [e1, e2, e3].all (foldedForSure 8) = false) (hc : [e1, e2, e3].all (constantsAlone 8) = false) : swappedStores [.Tuple [.Name x px, .Name y py, .Name z pz] kt pt] (.Tuple [e1, e2, e3] k2 pt2) X.env = pure (some [x, y, z]) := by
  have kx : X.env.kindOf x = some .local := (kindOf_ok C x).trans hx
  have ky : X.env.kindOf y = some .local := (kindOf_ok C y).trans hy
  have kz : X.env.kindOf z = some .local := (kindOf_ok C z).trans hz
  have dd : ([x, y, z] : List Str).eraseDups.length = 3 := by
    simp [List.eraseDups_cons, hxy, Ne.symm hxy, hxz, Ne.symm hxz, hyz, Ne.symm hyz]
  unfold swappedStores
  simp only [blockKind_ok C, List.length_cons, List.length_nil, List.any_cons, List.any_nil, List.head?_cons, Option.map_some, Option.getD_some, Expr.pos, List.filterMap_cons, List.filterMap_nil, kx, ky, kz, hl, hl2, hf, hc]
  simp [dd]
  rintro (h | h | h)
  · cases e1 <;> first | (cases h; done) | (simp [notStar] at h1; done)
  · cases e2 <;> first | (cases h; done) | (simp [notStar] at h2; done)
  · cases e3 <;> first | (cases h; done) | (simp [notStar] at h3; done)
theorem same_line (C : Cok tab cv Rf G N Y cal X sc fb) (line : Nat) : ∀ ts : List Expr, (ts.filterMap fun
    | .Name id pos => if X.env.kindOf id == some .local && pos.line == line then some id else none
    | _ => none) = sameLine sc line ts
  | [] => rfl
  | t :: ts => by
    have ih := same_line C line ts
    rw [List.filterMap_cons, ih]
    cases t with
    | Name id pos =>
      simp only [sameLine, kindOf_ok C]
      by_cases q : (sc.names.lookup id == some .local && pos.line == line) = true
      · simp only [q, if_true]
      · simp only [q, if_false, Bool.false_eq_true]
    | _ => rfl
theorem swap_no (C : Cok tab cv Rf G N Y cal X sc fb) {ts vs : List Expr} {k k2 : Nat} {p p2 : Pos} (h : noSwap sc ts vs = true) : swappedStores [.Tuple ts k p] (.Tuple vs k2 p2) X.env = pure none := by
  have sl := same_line C ((ts.head?.map (·.pos.line)).getD 0) ts
  unfold noSwap at h
  unfold swappedStores
  dsimp only
  rw [blockKind_ok C]
  cases h1 : (!(ts.length == 2 || ts.length == 3) || vs.length != ts.length) with
  | true => rw [Bool.true_or, if_pos rfl]
  | false =>
    rw [h1, Bool.false_or] at h
    rw [Bool.false_or, if_neg (by decide)]
    cases h2 : (vs.any fun x => match x with | .Starred .. => true | _ => false) with
    | true => rfl
    | false =>
      rw [if_neg Bool.false_ne_true]
      generalize hq : List.filterMap _ ts = q
      have e : q = sameLine sc ((ts.head?.map (·.pos.line)).getD 0) ts := hq.symm.trans sl
      rw [e]
      cases h4 : ((sameLine sc ((ts.head?.map (·.pos.line)).getD 0) ts).length != ts.length || (sameLine sc ((ts.head?.map (·.pos.line)).getD 0) ts).eraseDups.length != (sameLine sc ((ts.head?.map (·.pos.line)).getD 0) ts).length) with
      | true => rw [if_pos rfl]
      | false =>
        rw [if_neg Bool.false_ne_true]
        rw [Bool.or_eq_false_iff] at h4
        rw [h4.1, Bool.false_or] at h
        rw [h, if_pos rfl]

theorem bnot {b : Bool} (h : (!b) = true) : b = false := by cases b <;> first | rfl | cases h
theorem stores_no {tg e : Expr} {env : Env} (C : Cok tab cv Rf G N Y cal X sc fb) (h : asgOk sc tg e = true) (hl : ∀ ts p, tg ≠ .List ts p) : swappedStores [tg] e X.env = pure none := by
  unfold asgOk at h
  split at h
  · exact swap_no C h
  · rename_i n
    cases tg with
    | Tuple ts k p => cases e <;> first | rfl | exact (n _ _ _ _ _ _ rfl rfl).elim
    | List ts p => exact (hl ts p rfl).elim
    | _ => rfl
theorem passes_ok (C : Cok tab cv Rf G N Y false X sc fb) : PassesOwn (model X.prog X.w) X.A X.env X.xe := C.po rfl
/-! ### raise, try -/
theorem pmk_own0 {x : Str} {p pos : Pos} {C : Addr} {bmB : List Value} {B newId initId : String} (F : ExcBaseFacts B newId initId bmB) (q : PySem.W.excIn X.K C bmB newId = true) (gC : X.mg x = some (.ref C)) (kC : PySem.W.keepIn X.K (.ref C) = true) (r : Raises X (.ref C)) (hg : Gl X x)
    (hdb : (x == ("__debug__" : Str)) = false) : PMk X (.Call (.Name x p) [] [] pos) (fun _ H Q => Q (.ref C) none H) := by
  intro pins s σ H Q I h
  refine wpAny_Call_Name_kw (ld_glob I hg gC ?_ hdb)
  refine PySem.W.callWith_K0 I.kIn kC ?_
  obtain ⟨bm, N, nm, qn, bs, hdct, sn, sub, ab, col, dd, k0, k1, k2, k3, k5, mN, hC, hN, hni, T⟩ := exc_obj I.kIn q
  refine wpAny_call_exc_subT F T hC hN hni (fun h' e hm => ?_) (by show 0 ≤ sizeLine; omega)
  exact mk_of I hm r h (I.hok.gone hm.new)
theorem ds_rse (C : Cok tab cv Rf G N Y false X sc fb) {x : Str} {c : Nat} {p p2 pos : Pos} (h1 : tab.cls.lookup x = some c) (h2 : glB sc x = true) : PS X (.Raise (some (.Call (.Name x p) [] [] p2)) none pos) (tS X.K Y fun _ s k => k.ex c s) := by
  obtain ⟨q1, q2⟩ := gl_of C h2
  obtain ⟨ok, g⟩ := C.cl _ _ h1
  obtain ⟨a, e1, e2, e3, e4, e5, e6, e7⟩ := (C.ck _ ok).ex
  rw [e1] at g
  refine PS.of (ps_raise C.calm (C.tk rfl) (pmk_own0 PySem.F.excBase_ValueError e2 g e3 (raises_own e4 e5) q1 q2)) fun D σ H q => ?_
  obtain ⟨F, B, s, r, k, m, er, q, l⟩ := q
  exact ⟨c, F, B, s, e1.symm, rfl, ok, m, by rw [← l.ex]; exact q⟩
theorem Takes.len {X : Cx} {W W' : WX} (t : Takes X W) (h : ∀ c d (σ : L2.St) H, σ.length = X.N.length → W' c d σ H → W c d σ H) : Takes X W' := fun u s' ⟨a, B, sI, pins, σ, H, cls, d, e, I, nb, up, sky, na, os, ag, w⟩ =>
  t u s' ⟨a, B, sI, pins, σ, H, cls, d, e, I, nb, up, sky, na, os, ag, h _ _ _ _ I.len w⟩
/-- the body of a try: under a new ground -/
def tTry (K : PySem.W.Frag) (cv : CV) (n : Nat) (w : WS) (W : WX) : TS := fun D σ H => ∃ (A' : Anchor) (Y' : XT), @tS A' K Y' w D σ H ∧ ∀ cls d (σ' : L2.St) H', σ'.length = n → @WD A' K cv Y' cls d H' → W cls d σ' H'
theorem LiftK.under {K : PySem.W.Frag} {F B : Hp} {s : S} {H : Hp} {k : Kt} {D : Ends} (m : Sim K F B s H) (l : LiftK K Y F B k D) (ex : XT) : @LiftK (anchor F B) K ex F B { k with ex := ex } D :=
  @LiftK.mk (anchor F B) K ex F B { k with ex := ex } D (fun r s1 F' σ' H' le m' e h' => l.nx r s1 F' σ' H' le (m.lift m').2 e h') (fun d s1 F' H' u le m' r' h' => l.rt d s1 F' H' u le (m.lift m').2 r' h')
    (fun r s1 F' σ' H' le m' e h' => l.bk r s1 F' σ' H' le (m.lift m').2 e h') (fun r s1 F' σ' H' le m' e h' => l.ct r s1 F' σ' H' le (m.lift m').2 e h') rfl
theorem boot_ve : bootBuiltins "ValueError" = some (.type "ValueError") := by decide +kernel
theorem try_read {K : PySem.W.Frag} {n i v c : Nat} {w : Str} {ws : WS} {D : Ends} {σ : L2.St} {H : Hp} (hn : σ.length = n) (hvi : v ≠ i) (hi : i < n) (okc : cv.ok c)
    (hx : ∀ c', cv.ok c' → PySem.W.exmOne K (cv.val c') (cv.val c) = some (decide (c' = c)))
    (q : tS K Y (fun r s k => ws r s { k with ex := fun c' s' => match [(c, v, w)].lookup c' with
      | some (v, w) => k.nx ((List.replicate r.length none).set v (some (.lv [.str w, .bl true]))) s'
      | none => k.ex c' s' }) D σ H) : tTry K cv n ws (wAs K (cv.val c) i (fun a cls d D' σ' H' => (∃ c', cv.ok c' ∧ cls = cv.val c' ∧ d = none) ∧ σ'[i]? = some (some (.ref a)) ∧ ∀ p, H' p = none → D'.nx (σ'.set v (some (.ref p))) (L2.upd H' p (.lst [.str w, .bl true]))) (fun cls d _ H => WD K cv Y cls d H) D) D σ H := by
  obtain ⟨F, B, s, r, k, m, er, h, l⟩ := q
  refine ⟨anchor F B, _, ⟨F, B, s, r, _, m.drop, er, h, l.under m _⟩, fun cls d σ' H' hl wd => ?_⟩
  obtain ⟨c', F', B', s', rfl, rfl, ok, m', y⟩ := wd
  obtain ⟨le, m2⟩ := m.lift m'
  refine ⟨_, hx c' ok, fun e a ha => ?_, fun e => ?_⟩
  · have e := of_decide_eq_true e
    subst e
    have y : k.nx ((List.replicate r.length none).set v (some (.lv [.str w, .bl true]))) s' := by
      simpa [List.lookup_cons] using y
    refine ⟨⟨c', ok, rfl, rfl⟩, List.getElem?_set_self (by omega), fun p hp => ?_⟩
    have rl : r.length = σ.length := er.len
    have m3 := m2.ice (o := .lst [.str w, .bl true]) hp
    refine l.nx _ s' (L2.upd F' p (.lst [.str w, .bl true])) _ _ (le.trans (FLe.upd (m2.fnone hp))) m3 ⟨?_, fun j d hj => ?_⟩ y
    · simp only [List.length_set, List.length_replicate]
      omega
    · by_cases hjv : v = j
      · subst hjv
        by_cases hvl : v < r.length
        · rw [List.getElem?_set_self (by simpa using hvl)] at hj
          cases hj
          refine ⟨.ref p, ?_, .lv upd_same (.cons (.str _) (.cons (.bl _) .nil))⟩
          rw [List.getElem?_set_ne (Ne.symm hvi)]
          exact List.getElem?_set_self (by rw [List.length_set]; omega)
        · rw [List.getElem?_eq_none (by simp; omega)] at hj
          cases hj
      · rw [List.getElem?_set_ne hjv, List.getElem?_replicate] at hj
        split at hj <;> cases hj
  · have ne : ¬ c' = c := of_decide_eq_false e
    have y : k.ex c' s' := by
      have e2 : (c' == c) = false := by simpa using ne
      simpa [List.lookup_cons, e2] using y
    exact ⟨c', F', B, s', rfl, rfl, ok, m2, by rw [← l.ex]; exact y⟩
theorem sole_no' {tg e : Expr} {n : Nat} {env : Env} (h : (notComp e || isTupE tg) = true) : swapsWithSole [tg] e n env = pure false := by
  rw [Bool.or_eq_true] at h
  rcases h with h | h
  · exact sole_no h
  · cases tg with
    | Tuple _ _ _ => cases e <;> rfl
    | _ => cases h
theorem notList {n : Nat} {tg : Expr} {t : T} (h : ckT N sc fb n tg t = true) : ∀ ts p, tg ≠ .List ts p := by
  intro ts p e
  subst e
  cases n <;> simp [ckT] at h
theorem lc_parts {n : Nat} {elt : Expr} {gens : List Comprehension} {scope : Scope} {pos : Pos} {m : Bool} {own : List Nat} {el : E} {t : T} {it : It} {c : Option E} (C : Cok tab cv Rf G N Y cal X sc fb) (h : ck tab N (n + 1) false cal sc fb (.ListComp elt gens scope pos) (.lc m own el t it c) = true) :
    ∃ tg iter ifs own', gens = [⟨tg, iter, ifs, 0⟩] ∧ own'.map (·.2) = own ∧ LcOk X elt tg iter ifs scope own' (wI (RQ Rf Y) G it) t (slT t) (wOB (RQ Rf Y) G c) (wE (RQ Rf Y) G el) := by
  obtain ⟨ihE, ihB⟩ := ck_ok (tab := tab) (cv := cv) (Rf := Rf) (G := G) (N := N) (Y := Y) n
  have hE : ∀ e c, ck tab N n false cal sc fb e c = true → PE X e (tD X.K (wE (RQ Rf Y) G c)) := fun e c h => ihE cal X sc fb e c C h
  match gens with
  | [] => simp [ck] at h
  | _ :: _ :: _ => simp [ck] at h
  | [⟨tg, iter, ifs, isa⟩] =>
    simp only [ck] at h
    obtain ⟨h, h9⟩ := and2 h
    obtain ⟨h, h8⟩ := and2 h
    obtain ⟨h, h7⟩ := and2 h
    obtain ⟨h, h6⟩ := and2 h
    obtain ⟨h, h5⟩ := and2 h
    obtain ⟨h, h4⟩ := and2 h
    obtain ⟨h, h3⟩ := and2 h
    obtain ⟨h1, h2⟩ := and2 h
    have e := of_decide_eq_true h1
    subst e
    exact ⟨tg, iter, ifs, _, rfl, of_decide_eq_true h2, lc_ok C hE ihE ihB h2 h3 h4 h5 h6 h7 h8 h9⟩
theorem ckSs_ok {n : Nat} (h : ∀ s c, ckS tab N sc fb n s c = true → PS X s (tS X.K Y (wS (RQ Rf) G c))) : ∀ (ss : List Stmt) (cs : List St), ckS.ckSs (ckS tab N sc fb n) ss cs = true → PSs X ss (tS X.K Y (wSs (RQ Rf) G cs)) := by
  intro ss
  induction ss with
  | nil =>
    intro cs h
    cases cs with
    | nil => exact PSs.cast ds_nil fun r s P hP => by simp only [wSs] <;> rfl
    | cons _ _ => cases h
  | cons s ss ihs =>
    intro cs h
    cases cs with
    | nil => cases h
    | cons c cs =>
      simp only [ckS.ckSs] at h
      obtain ⟨h1, h2⟩ := and2 h
      exact PSs.cast (ds_cons (‹∀ s c, ckS tab N sc fb n s c = true → PS X s (tS X.K Y (wS (RQ Rf) G c))› s c h1) (ihs cs h2)) fun r s P hP => by simp only [wSs] <;> rfl
theorem ds_try (C : Cok tab cv Rf G N Y false X sc fb) (hst : X.stack = X.env :: X.outer) (hfr : X.env.frame = some X.env.locals) {x y z w : Str} {c v k1 : Nat} {p1 p2 p3 p4 p5 p6 p7 p8 p9 p10 p11 : Pos} {body : List Stmt} {cs : List St}
    (h1 : tab.cls.lookup x = some c) (h2 : glB sc x = true) (h3 : sc.names.lookup y = some .local) (hvis : visB sc y = true) (h4 : y ∈ N) (h5 : N[v]? = some z) (h6 : sc.names.lookup z = some .local) (h9 : glB sc "isinstance" = true) (h11 : glB sc "ValueError" = true) (h13 : z ≠ y)
    (hb : ∀ (A' : Anchor) (Y' : XT) (X' : Cx), Cok tab cv Rf G N Y' false X' sc fb → X'.stack = X'.env :: X'.outer → X'.env.frame = some X'.env.locals → PSs X' body (tS X'.K Y' (wSs (RQ Rf) G cs))) :
    PS X (.Try body [.ExceptHandler (some (.Name x p1)) (some y) [.Assign [.Name z p2] (.List [.Constant (.str w) k1 p3, .Call (.Name "isinstance" p4) [.Name y p5, .Name "ValueError" p6] [] p7] p8) p9] p10] [] [] p11) (tS X.K Y (wS (RQ Rf) G (.tr cs [(c, v, w)]))) := by
  obtain ⟨i, hi, ei⟩ := List.mem_iff_getElem.mp h4
  have hi' : N[i]? = some y := by rw [List.getElem?_eq_getElem hi, ei]
  have hvi : v ≠ i := fun e => by
    rw [e, hi'] at h5
    exact h13 (Option.some.inj h5).symm
  obtain ⟨okc, g⟩ := C.cl _ _ h1
  have hN : X.N.Nodup := by rw [C.hN]; exact C.nd
  have hXi : X.N[i]? = some y := by rw [C.hN]; exact hi'
  have hXv : X.N[v]? = some z := by rw [C.hN]; exact h5
  have ly : X.env.kindOf y = some .local := (kindOf_ok C y).trans h3
  have lz : X.env.scope.names.lookup z = some .local := by rw [C.hs]; exact h6
  refine ⟨fun pins s σ H D I q => ?_⟩
  have e : wS (RQ Rf) G (.tr cs [(c, v, w)]) = fun r s k => wSs (RQ Rf) G cs r s { k with ex := fun c' s' => match [(c, v, w)].lookup c' with
      | some (v, w) => k.nx ((List.replicate r.length none).set v (some (.lv [.str w, .bl true]))) s'
      | none => k.ex c' s' } := by
    funext r s k
    simp only [wS] <;> rfl
  rw [e] at q
  have q2 := try_read (cv := cv) I.len hvi (by rw [C.hN]; exact hi) okc (fun c' ok => C.cx c' c ok okc) q
  refine (ps_try_as (X := X) (i := i) (tb := tTry X.K cv X.N.length (wSs (RQ Rf) G cs)) hst hfr hN hXi ly ⟨(gl_of C h2).1, (gl_of C h2).2, .inl g⟩ (C.tk rfl) (fun W pn xe tk po => ⟨fun pins s σ H D I q => ?_⟩) (fun a oe cls d pn hz hf => ⟨fun pins s σ H D I q => ?_⟩)).run pins s σ H D I q2
  · obtain ⟨c1, c2, c3, c4, c5, c6, c7, c8, c9, c10, c11, c12, c13, c14, c15⟩ := C
    obtain ⟨A', Y', q, hw⟩ := q
    refine (hb A' Y' (X.tr pn xe) ⟨c1, c2, c3, c4, c5, c6, c7, c8, c9, c10, c11, c12, c13, fun _ => Takes.len tk fun cls d σ H hl wd => hw cls d σ H hl wd, fun _ => po⟩ hst hfr).run pins s σ H D I q
  · obtain ⟨⟨c', ok', rfl, rfl⟩, hs, hn⟩ := q
    obtain ⟨a', e1, e2, e3, e4, e5, e6, e7⟩ := (C.ck _ ok').ex
    rw [e1] at hz
    refine (pss_one (ps_set (X := X.suite a ((a, oe) :: pn)) (i := v) hN hXv (.inl lz) (pe_lst (pa_cons pe_str (pa_cons (pe_callB (call_isE e6 hz hf) (gl_of C h9).1 (C.bl _ (by decide +kernel)) boot_isi (pa_cons (pe_var (i := i) hXi (.inl ly) ?_ ?_) (pa_cons (pe_bltn (v := .ty "ValueError") (gl_of C h11).1 (C.bl _ (by decide +kernel)) boot_ve rfl) pa_nil))) pa_nil))) (hf := .inr lz))).run pins s σ H D I ?_
    · exact (vis_of C hvis).2.1
    · exact (vis_of C hvis).2.2
    · exact ⟨.ref a, hs, .ty "ValueError", .type "ValueError", true, rfl, fun u h => h, e7, by show 2 ≤ sizeLine; rw [sizeLine_eq]; omega, fun p hp => hn p hp⟩
theorem ckS_ok : ∀ n : Nat, ∀ (A : Anchor) (Y : XT) (X : Cx), Cok tab cv Rf G N Y false X sc fb → X.stack = X.env :: X.outer → X.env.frame = some X.env.locals → ∀ (s : Stmt) (c : St), ckS tab N sc fb n s c = true → PS X s (tS X.K Y (wS (RQ Rf) G c))
  | 0, _, _, _, _, _, _, _, _, h => by simp only [ckS] at h; cases h
  | n + 1, A, Y, X, C, hst, hfr, s, c, h => by
    have ih := ckS_ok n A Y X C hst hfr
    obtain ⟨eE, eB⟩ := ck_ok (tab := tab) (cv := cv) (Rf := Rf) (G := G) (N := N) (Y := Y) 40
    have hE : ∀ e c, ck tab N 40 false false sc fb e c = true → PE X e (tD X.K (wE (RQ Rf Y) G c)) := fun e c h => eE false X sc fb e c C h
    have hB : ∀ e c, ck tab N 40 true false sc fb e c = true → PT X e (tB X.K (wB (RQ Rf Y) G c)) := fun e c h => eB false X sc fb e c C h
    have hN : X.N.Nodup := by rw [C.hN]; exact C.nd
    have hS : ∀ (ss : List Stmt) (cs : List St), ckS.ckSs (ckS tab N sc fb n) ss cs = true → PSs X ss (tS X.K Y (wSs (RQ Rf) G cs)) := by
      intro ss
      induction ss with
      | nil =>
        intro cs h
        cases cs with
        | nil => exact PSs.cast ds_nil fun r s P hP => by simp only [wSs] <;> rfl
        | cons _ _ => cases h
      | cons s ss ihs =>
        intro cs h
        cases cs with
        | nil => cases h
        | cons c cs =>
          simp only [ckS.ckSs] at h
          obtain ⟨h1, h2⟩ := and2 h
          exact PSs.cast (ds_cons (ih s c h1) (ihs cs h2)) fun r s P hP => by simp only [wSs] <;> rfl
    simp only [ckS] at h
    split at h
    · obtain ⟨h, h6⟩ := and2 h
      obtain ⟨h, h5⟩ := and2 h
      obtain ⟨h, h4⟩ := and2 h
      obtain ⟨h, h3⟩ := and2 h
      obtain ⟨h1, h2⟩ := and2 h
      split at h6
      · obtain ⟨tg, iter, ifs, own', rfl, eo, L⟩ := lc_parts C h5
        have hy := of_decide_eq_true h2
        subst eo
        exact PS.cast (ds_asgLc C.calm hN (by rw [C.hN]; exact of_decide_eq_true h1) (by rw [C.hs]; exact hy) (sw_true (by rw [C.hs]; exact C.kd) (by rw [C.hs]; exact hy) h3 (bnot h4)) L) fun r s P hP => by simp only [wS, wE, turnW, hP] <;> rfl
      · cases h6
    · obtain ⟨h, h10⟩ := and2 h
      obtain ⟨h, h9⟩ := and2 h
      obtain ⟨h, h8⟩ := and2 h
      obtain ⟨h, h7⟩ := and2 h
      obtain ⟨h, h6⟩ := and2 h
      obtain ⟨h, h5⟩ := and2 h
      obtain ⟨h, h4⟩ := and2 h
      obtain ⟨h, h3⟩ := and2 h
      obtain ⟨h1, h2⟩ := and2 h
      obtain ⟨q1, q2⟩ := ckL_ok hE h10
      simp only [List.all_cons, List.all_nil, Bool.and_true, Bool.and_eq_true] at q2
      have hx := of_decide_eq_true h5
      have hy := of_decide_eq_true h6
      exact PS.cast (ds_par C.calm hN (by rw [C.hN]; exact of_decide_eq_true h1) (by rw [C.hN]; exact of_decide_eq_true h2) (of_decide_eq_true h3) (by rw [C.hs]; exact hx) (by rw [C.hs]; exact hy) q1
        (swap2 C (of_decide_eq_true h4) hx hy h7 q2.1 q2.2 (bnot h8) (bnot h9))) fun r s P hP => by simp only [wS, hP] <;> rfl
    · obtain ⟨h, h17⟩ := and2 h
      obtain ⟨h, h16⟩ := and2 h
      obtain ⟨h, h15⟩ := and2 h
      obtain ⟨h, h14⟩ := and2 h
      obtain ⟨h, h13⟩ := and2 h
      obtain ⟨h, h12⟩ := and2 h
      obtain ⟨h, h11⟩ := and2 h
      obtain ⟨h, h10⟩ := and2 h
      obtain ⟨h, h9⟩ := and2 h
      obtain ⟨h, h8⟩ := and2 h
      obtain ⟨h, h7⟩ := and2 h
      obtain ⟨h, h6⟩ := and2 h
      obtain ⟨h, h5⟩ := and2 h
      obtain ⟨h, h4⟩ := and2 h
      obtain ⟨h, h3⟩ := and2 h
      obtain ⟨h1, h2⟩ := and2 h
      obtain ⟨q1, q2⟩ := ckL_ok hE h17
      simp only [List.all_cons, List.all_nil, Bool.and_true, Bool.and_eq_true] at q2
      have hx := of_decide_eq_true h10
      have hy := of_decide_eq_true h11
      have hz := of_decide_eq_true h12
      exact PS.cast (ds_par3 C.calm hN (by rw [C.hN]; exact of_decide_eq_true h1) (by rw [C.hN]; exact of_decide_eq_true h2) (by rw [C.hN]; exact of_decide_eq_true h3) (of_decide_eq_true h4) (of_decide_eq_true h5) (of_decide_eq_true h6) (by rw [C.hs]; exact hx) (by rw [C.hs]; exact hy) (by rw [C.hs]; exact hz) q1
        (swap3 C (of_decide_eq_true h7) (of_decide_eq_true h8) (of_decide_eq_true h9) hx hy hz h13 h14 q2.1 q2.2.1 q2.2.2 (bnot h15) (bnot h16))) fun r s P hP => by simp only [wS, hP] <;> rfl
    · obtain ⟨h, h5⟩ := and2 h
      obtain ⟨h, h4⟩ := and2 h
      obtain ⟨h, h3⟩ := and2 h
      obtain ⟨h1, h2⟩ := and2 h
      exact PS.cast (ds_sto (hE _ _ h5) (hE _ _ h3) (hE _ _ h4) h1 h2) fun r s P hP => by simp only [wS, hP] <;> rfl
    · obtain ⟨h, h5⟩ := and2 h
      obtain ⟨h, h4⟩ := and2 h
      obtain ⟨h, h3⟩ := and2 h
      obtain ⟨h1, h2⟩ := and2 h
      exact PS.cast (ds_asg (hE _ _ h5) (ckT_ok C h4) (sole_no' h1) (stores_no (env := X.env) C h3 (notList h4)) h2) fun r s P hP => by simp only [wS, hP] <;> rfl
    · obtain ⟨h, h4⟩ := and2 h
      obtain ⟨h, h3⟩ := and2 h
      obtain ⟨h1, h2⟩ := and2 h
      have e := of_decide_eq_true h1
      subst e
      obtain ⟨q1, q2⟩ := loc_of C h3
      exact PS.cast (ds_aug _ hN (by rw [C.hN]; exact of_decide_eq_true h2) q1 (hE _ _ h4) q2) fun r s P hP => by simp only [wS, hP] <;> rfl
    · obtain ⟨h1, h2⟩ := and2 h
      exact PS.cast (ds_exp (hE _ _ h2) h1) fun r s P hP => by simp only [wS, hP] <;> rfl
    · exact PS.cast (ds_ret (hE _ _ h)) fun r s P hP => by simp only [wS, hP] <;> rfl
    · obtain ⟨h, h3⟩ := and2 h
      obtain ⟨h1, h2⟩ := and2 h
      exact PS.cast (ds_ife (hB _ _ h1) (hS _ _ h2) (hS _ _ h3)) fun r s P hP => by simp only [wS, hP] <;> rfl
    · obtain ⟨h, h4⟩ := and2 h
      obtain ⟨h, h3⟩ := and2 h
      obtain ⟨h1, h2⟩ := and2 h
      exact PS.cast (ds_fr (passes_ok C) C.calm (ckIt_ok C hE h2) (ckT_ok C h3) (hS _ _ h4) h1) fun r s P hP => by simp only [wS, hP] <;> rfl
    · obtain ⟨h1, h2⟩ := and2 h
      exact PS.cast (ds_whl (passes_ok C) (hB _ _ h1) (hS _ _ h2)) fun r s P hP => by simp only [wS, hP] <;> rfl
    · obtain ⟨h1, h2⟩ := and2 h
      exact PS.cast (ds_rse C (of_decide_eq_true h1) h2) fun r s P hP => by simp only [wS]
    · obtain ⟨h, h14⟩ := and2 h
      obtain ⟨h, h13⟩ := and2 h
      obtain ⟨h, h12⟩ := and2 h
      obtain ⟨h, h11⟩ := and2 h
      obtain ⟨h, h10⟩ := and2 h
      obtain ⟨h, h9⟩ := and2 h
      obtain ⟨h, h8⟩ := and2 h
      obtain ⟨h, h7⟩ := and2 h
      obtain ⟨h, h6⟩ := and2 h
      obtain ⟨h, h5⟩ := and2 h
      obtain ⟨h, h4⟩ := and2 h
      obtain ⟨h, h3⟩ := and2 h
      obtain ⟨h1, h2⟩ := and2 h
      have e7 := of_decide_eq_true h7
      have e8 := of_decide_eq_true h8
      have e10 := of_decide_eq_true h10
      have e12 := of_decide_eq_true h12
      subst e7 e8 e10 e12
      exact ds_try C hst hfr (of_decide_eq_true h1) h2 (of_decide_eq_true h3) (and2 h4).1 (of_decide_eq_true (and2 h4).2) (of_decide_eq_true h5) (of_decide_eq_true h6) h9 h11 (of_decide_eq_true h13) fun A' Y' X' C' a b => ckSs_ok (ckS_ok n A' Y' X' C' a b) _ _ h14
    · exact PS.cast ds_pass fun r s P hP => by simp only [wS, hP] <;> rfl
    · exact PS.cast ds_brk fun r s P hP => by simp only [wS, hP] <;> rfl
    · exact PS.cast ds_cnt fun r s P hP => by simp only [wS, hP] <;> rfl
    · cases h
end
end IR

set_option Elab.async false
set_option linter.all false
set_option maxRecDepth 100000
/-! So9: defs and programs: what the small language's run gives, the law gives. -/
namespace IR
open PySem PySem.Spec PyProof.Rows L2
variable [A : Anchor]

/-- a def of the program: its name, its statement, its parameters, all its names by slot, how it is called by keywords, its text in the small language -/
structure Ent where
  name : Str
  st : Stmt
  ps : List Str
  N : List Str
  kws : List (Nat × List Str × List Nat)
  df : Def
def fnsFrom : Nat → List Ent → List (Str × Nat × List Str × List (Nat × List Str × List Nat))
  | _, [] => []
  | i, e :: es => (e.name, i, e.ps, e.kws) :: fnsFrom (i + 1) es
theorem fns_look : ∀ {es : List Ent} {i : Nat} {nm : Str} {id : Nat} {ps : List Str} {kws : List (Nat × List Str × List Nat)}, (fnsFrom i es).lookup nm = some (id, ps, kws) → ∃ j e, id = i + j ∧ es[j]? = some e ∧ e.name = nm ∧ e.ps = ps ∧ e.kws = kws
  | [], _, _, _, _, _, h => by cases h
  | e :: es, i, nm, id, ps, kws, h => by
    unfold fnsFrom at h
    rw [List.lookup_cons] at h
    cases q : nm == e.name with
    | true =>
      rw [q] at h
      cases h
      exact ⟨0, e, rfl, rfl, (by simpa using q : nm = e.name).symm, rfl, rfl⟩
    | false =>
      rw [q] at h
      obtain ⟨j, e', h1, h2, h3⟩ := fns_look h
      exact ⟨j + 1, e', by omega, by simpa using h2, h3⟩
/-- a def's text checked -/
def entB (tab : Tab) (e : Ent) : Bool :=
  (match (defScope e.st).kind with | .function => true | _ => false) && !(defScope e.st).isCoroutine && !(defScope e.st).isGenerator && decide e.N.Nodup && decide (e.N.take e.ps.length = e.ps) &&
  (e.ps.all fun x => match (defScope e.st).names.lookup x with | some .local => true | some .cell => true | _ => false) && ((defScope e.st).names.all fun y => decide (y.2 ≠ .free)) &&
  decide (e.df.np = e.ps.length) && decide (e.df.slots = e.N.length) && decide (e.ps.length ≤ e.N.length) && ckS.ckSs (ckS tab e.N (defScope e.st) (fun _ => true) 40) (defBody e.st) e.df.body
abbrev FnP (K : PySem.W.Frag) (x : Str) (st : Stmt) (f : Addr) (fd : FuncData) : Prop := FunD K x x (defArgs st) (defBody st) (defScope st) [] [] f fd
/-- how a def's arguments bind, from its parameters as they stand in the text -/
def BindOk (e : Ent) : Prop :=
  (∀ (kV doc pm : Value) (an : Option Addr) (cdv ct : Value) (us : List Value), us.length = e.ps.length → bindArgs (PySem.W.fnOf e.name e.name (defArgs e.st) (defBody e.st) (defScope e.st) .none kV doc pm an cdv ct) ⟨us, []⟩ = pure (e.ps.zip us)) ∧
  (∀ n ks perm, (n, ks, perm) ∈ e.kws → ∀ (kV doc pm : Value) (an : Option Addr) (cdv ct : Value) (us ws : List Value), us.length = n → ws.length = ks.length →
    bindArgs (PySem.W.fnOf e.name e.name (defArgs e.st) (defBody e.st) (defScope e.st) .none kV doc pm an cdv ct) ⟨us, ks.zip ws⟩ = pure (e.ps.zip (pm' perm (us ++ ws))))
where pm' (perm : List Nat) (xs : List Value) : List Value := pm perm xs
/-- where it stands -/
def EntOk (K : PySem.W.Frag) (mg : Str → Option Value) (e : Ent) : Prop := ∃ f fd, FnP K e.name e.st f fd ∧ mg e.name = some (.ref f)
section
variable {P : Program} {w : World} {K : PySem.W.Frag} {mg : Str → Option Value} {base : Heap} {es : List Ent} {gls cls : List (Str × Nat)} {G : List D} {cv : CV}
abbrev tabOf (es : List Ent) (gls cls : List (Str × Nat)) : Tab := ⟨fnsFrom 0 es, gls, cls⟩
abbrev progOf (es : List Ent) : List Def := es.map (·.df)
theorem scope_of {tab : Tab} {e : Ent} (h : entB tab e = true) : FnScope e.N e.ps (defScope e.st) ∧ e.df.np = e.ps.length ∧ e.df.slots = e.N.length ∧ e.ps.length ≤ e.N.length ∧ ckS.ckSs (ckS tab e.N (defScope e.st) (fun _ => true) 40) (defBody e.st) e.df.body = true := by
  unfold entB at h
  obtain ⟨h, h11⟩ := and2 h
  obtain ⟨h, h10⟩ := and2 h
  obtain ⟨h, h9⟩ := and2 h
  obtain ⟨h, h8⟩ := and2 h
  obtain ⟨h, h7⟩ := and2 h
  obtain ⟨h, h6⟩ := and2 h
  obtain ⟨h, h5⟩ := and2 h
  obtain ⟨h, h4⟩ := and2 h
  obtain ⟨h, h3⟩ := and2 h
  obtain ⟨h1, h2⟩ := and2 h
  refine ⟨⟨?_, bnot h2, bnot h3, of_decide_eq_true h4, of_decide_eq_true h5, fun x hx => ?_, fun y hy => of_decide_eq_true (List.all_eq_true.mp h7 y hy)⟩, of_decide_eq_true h8, of_decide_eq_true h9, of_decide_eq_true h10, h11⟩
  · split at h1
    · assumption
    · cases h1
  · have := List.all_eq_true.mp h6 x hx
    split at this
    · left; assumption
    · right; assumption
    · cases this
theorem env_start {F : Hp} {vs : List V} {ds : List D} {N : List Str} {n m : Nat} (r : Reps K F vs ds) (h1 : n = N.length) (h2 : m = vs.length) : EnvR K F (L2.start N vs) (ds.map some ++ List.replicate (n - m) none) := by
  have hl := r.length
  refine ⟨by unfold L2.start; simp only [List.length_append, List.length_map, List.length_replicate]; omega, fun i d h => ?_⟩
  unfold L2.start
  by_cases hi : i < ds.length
  · rw [List.getElem?_append_left (by simpa using hi), List.getElem?_map] at h
    have h' : (ds[i]?).map some = some (some d) := h
    obtain ⟨d', e1, e2⟩ := Option.map_eq_some_iff.mp h'
    cases e2
    obtain ⟨v, e3, e4⟩ := r.get e1
    refine ⟨v, ?_, e4⟩
    rw [List.getElem?_append_left (by rw [List.length_map]; omega), List.getElem?_map, e3]
    rfl
  · rw [List.getElem?_append_right (by simpa using hi), List.getElem?_replicate] at h
    split at h
    · cases h
    · cases h
theorem ent_ok (hb : ∀ nm ∈ blts, mg nm = none) (hG : ∀ nm i, gls.lookup nm = some i → ∃ v u d, mg nm = some u ∧ RelV v u ∧ (∀ F, Rep K F v d) ∧ G[i]? = some d)
    (hcl : ∀ nm c, cls.lookup nm = some c → cv.ok c ∧ mg nm = some (cv.val c)) (hck : ∀ c, cv.ok c → ClsK K (cv.val c)) (hcx : ∀ c c', cv.ok c → cv.ok c' → PySem.W.exmOne K (cv.val c) (cv.val c') = some (decide (c = c')))
    (hall : ∀ e ∈ es, entB (tabOf es gls cls) e = true) (hbind : ∀ e ∈ es, BindOk e)
    (hat : ∀ e ∈ es, EntOk K mg e) : ∀ (k : Nat) (i : Nat) (e : Ent), es[i]? = some e → ∀ f fd, FnP K e.name e.st f fd → ∀ A : Anchor, FnOk P w K mg base (L2.CX P w) k f fd e.ps (spD K cv e.ps.length (fun Y => run (progOf es) G k Y i))
  | 0, i, e, he, f, fd, F, A => by
    refine ⟨fun vs H Q E h => h.1, fun A outer s H args us vs Q E _ _ _ _ h => ?_⟩
    obtain ⟨_, F, B, st, ds, P', Y, _, _, h, _⟩ := h
    exact h.elim
  | k + 1, i, e, he, f, fd, F, A => by
    have ih := ent_ok hb hG hcl hck hcx hall hbind hat k
    have hm : e ∈ es := List.mem_of_getElem? he
    obtain ⟨S, hnp, hsl, hle, hck'⟩ := scope_of (hall e hm)
    refine FunD.ok F S (fun vs H Q E h => h.1) (fun cdv A0 outer s H vs Q E hr h => ?_)
    obtain ⟨hlen, F0, B, st, ds, P', Y, m, rr, hrun, l, lx⟩ := h
    have C : Cok (tabOf es gls cls) cv (run (progOf es) G k) G e.N (fun c s1 => ∃ s0, le s0 s1 ∧ Y c s0) false (cxOf (L2.CX P w) P w K mg base e.N e.name (defScope e.st) f cdv A0 outer s H E) (defScope e.st) (fun _ => true) := by
      refine ⟨rfl, S.nd, rfl, S.kind, rfl, ?_, fun _ _ => rfl, fun nm id ps kws hl => ?_, hb, hG, hcl, hck, hcx, fun _ => ?_, fun _ => passes_of rfl⟩
      · have := hr.un
        show (A0.deeper _).units + 65 < cLine
        omega
      · obtain ⟨j, e', hj, he', e1, e2, e3⟩ := fns_look hl
        rw [Nat.zero_add] at hj
        subst hj e1 e2 e3
        have hm' : e' ∈ es := List.mem_of_getElem? he'
        obtain ⟨f', fd', F', hmg⟩ := hat e' hm'
        obtain ⟨b1, b2⟩ := hbind e' hm'
        refine ⟨k, f', fd', hr, hmg, F'.kp, F'.bindsN b1, fun n ks perm hk s us ws hu hw => ?_, ih _ e' he' f' fd' F'⟩
        obtain ⟨oc, od, dV, kV, doc, pmv, an, cdv', ct, osl, rfl, lk, hcd, hD, hK⟩ := F'.ex
        rcases hD with ⟨_, rfl⟩ | ⟨z, _⟩
        · exact BindsTo.of_eq (b2 n ks perm hk kV doc pmv an cdv' ct us ws hu hw)
        · exact (z rfl).elim
      · refine (takes_of (E := E) rfl rfl rfl rfl).imp fun cls d σ H hw => ?_
        obtain ⟨c, F1, B1, s1, rfl, rfl, ok, m1, s0, hle0, y⟩ := hw
        exact lx c F1 B1 s0 H ok (m1.mono hle0) y
    have hS := ckS_ok 40 A _ _ C rfl rfl
    have body := ckSs_ok hS
    refine ⟨_, body _ _ hck', ?_⟩
    have hi : (progOf es)[i]? = some e.df := by
      show (es.map (·.df))[i]? = _
      rw [List.getElem?_map, he]; rfl
    simp only [run, hi] at hrun
    obtain ⟨hn, hrun⟩ := hrun
    refine ⟨F0, B, st, _, _, m, env_start rr hsl (by rw [hnp, hlen]), hrun, ⟨fun r s F' σ' H' lF m' _ h => ?_, fun d s' F' H' v lF m' r' h => ?_, fun _ _ _ _ _ _ _ _ h => h.elim, fun _ _ _ _ _ _ _ _ h => h.elim, rfl⟩⟩
    · obtain ⟨s0, hle, hp⟩ := h
      exact l .non s0 F' H' .non lF (m'.mono hle) .non hp
    · obtain ⟨s0, hle, hp⟩ := h
      exact l d s0 F' H' v lF (m'.mono hle) r' hp
/-- nothing is let out -/
theorem FnOk.calm {k : Nat} {f : Addr} {fd : FuncData} {ps : List Str} {sp : Sp} (F : FnOk P w K mg base (L2.CX P w) k f fd ps sp) : FnOk P w K mg base CX0 k f fd ps (fun vs H Q _ => sp vs H Q fun _ _ _ => False) :=
  ⟨fun vs H Q E h => F.len _ _ _ _ h, fun A outer s H args us vs Q E hr e0 hb r h => codeAny_mono (F.run A outer s H args us vs Q _ hr e0 hb r h) fun res s' q => by
    cases res with
    | error e =>
      obtain ⟨_, _, _, _, _, _, _, _, _, _, _, _, z⟩ := q
      exact z.elim
    | ok fl => cases fl <;> exact q⟩
end
/-! ### the head's facts, of raised classes too -/
/-- what isinstance asks of an own exception class -/
def xcB (K : PySem.W.Frag) (x : Str) : Bool :=
  He.eqO (PySem.W.findIn K (.ref (He.ga K x)) "__getattribute__") (some (some (.builtin "BaseException.__getattribute__"))) && (He.eqO (PySem.W.findIn K (.ref (He.ga K x)) "__getattr__") (some none) &&
  (PySem.W.hasDictIn K (He.ga K x) && (He.eqO (PySem.W.findIn K (.ref (He.ga K x)) "__class__") (some (some (.builtin "object.__class__"))) &&
  (He.eqO (PySem.W.specialIn K (.builtin "object.__class__") "__get__") (some (some (.builtin "getset_descriptor.__get__"))) && (decide (PySem.W.takesIn K (.builtin "object.__class__") = some true) &&
  (decide (PySem.W.mroIn K (He.ga K x) (.type "object") = some true) && decide (PySem.W.kitOne K (.ref (He.ga K x)) (.type "ValueError") = some true)))))))
theorem xcB_ok {K : PySem.W.Frag} {x : Str} (h : xcB K x = true) (he : (He.Fa.exc x).ok K = true) : ClsK K (.ref (He.ga K x)) := by
  obtain ⟨e1, e2, e3, e4⟩ := He.exc_ok he
  obtain ⟨h1, h⟩ := and2 h
  obtain ⟨h2, h⟩ := and2 h
  obtain ⟨h3, h⟩ := and2 h
  obtain ⟨h4, h⟩ := and2 h
  obtain ⟨h5, h⟩ := and2 h
  obtain ⟨h6, h⟩ := and2 h
  obtain ⟨h7, h8⟩ := and2 h
  exact ⟨_, rfl, e1, e2, e3, e4, ⟨He.eqO_ok h1, He.eqO_ok h2, e3, h3, He.eqO_ok h4, He.eqO_ok h5, of_decide_eq_true h6, of_decide_eq_true h7⟩, of_decide_eq_true h8⟩
def hookE (n : Nat) (fa : List He.Fa) (fn : List He.DefD) (ex : PySem.W.Frag → Bool) : PySem.W.Hook where
  α := He.AlD × Bool
  obs := fun s => (He.obsDG n fa fn s.heap.get?, ex (He.frG s.heap.get? (He.asD s.heap.get? n)))
  val := fun _ => (He.valD fn, true)
  says := fun _ h => ∃ K : PySem.W.Frag, K.In h ∧ He.SaysD fa fn K ∧ ex K = true
  of := fun _ _ e => ⟨_, He.frG_in, (Prod.ext_iff.mp e).1, (Prod.ext_iff.mp e).2⟩
  keeps := fun _ _ _ ⟨K, hK, c⟩ k => ⟨K, PySem.W.Frag.In.keeps hK k, c⟩
def obsE (n : Nat) (fa : List He.Fa) (fn : List He.DefD) (ex : PySem.W.Frag → Bool) (g : Addr → Option Obj) : He.AlD × Bool := (He.obsDG n fa fn g, ex (He.frG g (He.asD g n)))
theorem obsE_eq {n : Nat} {fa : List He.Fa} {fn : List He.DefD} {ex : PySem.W.Frag → Bool} {g : Addr → Option Obj} {s : Shared} (h : ∀ a, g a = s.heap.get? a) : obsE n fa fn ex g = (hookE n fa fn ex).obs s := by
  have e : g = s.heap.get? := funext h
  rw [e] <;> rfl
/-- the ground of a law -/
abbrev ground : Anchor := ⟨fun _ => none, fun _ => none⟩
/-- the law: what its run over the small language gives -/
theorem law_sp {K : PySem.W.Frag} {cv : CV} {R : XT → R1} {H : Hp} {a : Addr} {ns : List Int} (hO : Only H) (hS : SqL K H a (ns.map V.int)) (hR : R no [.scr ns] (fun _ => none) fun d _ => d = .bl true) : @spD ground K cv 1 R [.ref a] H (fun v _ => v = .bl true) fun _ _ _ => False := by
  letI := ground
  have nx : LiftX K cv no fun _ _ _ => False := fun _ _ _ _ _ _ _ h => h
  have lift : ∀ F, Lift K F (fun _ => none) (fun d _ => d = .bl true) (fun v _ => v = .bl true) := fun F d s' F' H' v _ _ r h => by
    have h : d = .bl true := h
    subst h
    cases r; rfl
  rcases hS with (h | ⟨o, h⟩) | h
  · rcases hO a with z | ⟨o, xs, z⟩
    · rw [z] at h; cases h
    · rw [z] at h; cases h
  · refine ⟨rfl, L2.upd (fun _ => none) a (.frz o (.lst (ns.map V.int))), fun _ => none, fun _ => none, [.scr ns], _, no, ⟨⟨fun _ _ e => (nomatch e), fun _ _ e => (nomatch e)⟩, fun b u e => ?_, fun _ _ e => (nomatch e), fun _ _ _ => rfl, fun _ _ e => (nomatch e)⟩, .cons (.scr upd_same) .nil, hR, lift _, nx⟩
    by_cases q : b = a
    · subst q; rw [upd_same] at e; rw [← e]; exact h
    · rw [upd_ne q] at e; cases e
  · exact ⟨rfl, fun _ => none, fun _ => none, fun _ => none, [.scr ns], _, no, ⟨⟨fun _ _ e => (nomatch e), fun _ _ e => (nomatch e)⟩, fun _ _ e => (nomatch e), fun _ _ e => (nomatch e), fun _ _ _ => rfl, fun _ _ e => (nomatch e)⟩, .cons (.kscr h) .nil, hR, lift _, nx⟩
instance : Anchor := ground
end IR

set_option linter.all false
set_option maxRecDepth 100000
/-! Wx: the small language, step by step: rows for simp (from the outside in), loops by what holds, bounds. -/
namespace IR
open PySem (Str)
section
variable {R : RunT} {G : List D} {r : Rho} {s : S} {Q : D → S → Prop} {P : Bool → S → Prop}
/-! ### names -/
theorem getV_z (d : D) (r : Rho) (s : S) (Q : D → S → Prop) : getV (some d :: r) 0 s Q = Q d s := (rfl)
theorem getV_s (o : Option D) (r : Rho) (i : Nat) (s : S) (Q : D → S → Prop) : getV (o :: r) (i + 1) s Q = getV r i s Q := by
  unfold getV; rw [List.getElem?_cons_succ]
def setK (r : Rho) (i : Nat) (o : Option D) (K : Rho → Prop) : Prop := K (r.set i o)
theorem setK_z (a : Option D) (r : Rho) (o : Option D) (K : Rho → Prop) : setK (a :: r) 0 o K = K (o :: r) := (rfl)
theorem setK_s (a : Option D) (r : Rho) (i : Nat) (o : Option D) (K : Rho → Prop) : setK (a :: r) (i + 1) o K = setK r i o fun r' => K (a :: r') := (rfl)
def wipeK (r : Rho) (vs : List Nat) (K : Rho → Prop) : Prop := K (wipe r vs)
theorem wipeK_n (r : Rho) (K : Rho → Prop) : wipeK r [] K = K r := (rfl)
theorem wipeK_c (r : Rho) (v : Nat) (vs : List Nat) (K : Rho → Prop) : wipeK r (v :: vs) K = wipeK r vs fun r' => setK r' v none K := (rfl)
theorem asgW_nm (i : Nat) (d : D) (r : Rho) (K : Rho → Prop) : asgW (.nm i) d r K = setK r i (some d) K := by simp only [asgW]; rfl
theorem asgW_tp (ts : List T) (ds : List D) (r : Rho) (K : Rho → Prop) : asgW (.tp ts) (.tup ds) r K = asgsW ts ds r K := by simp only [asgW]
theorem asgW_tl (ts : List T) (ds : List D) (r : Rho) (K : Rho → Prop) : asgW (.tp ts) (.lv ds) r K = asgsW ts ds r K := by simp only [asgW]
theorem asgsW_n (r : Rho) (K : Rho → Prop) : asgsW [] [] r K = K r := by simp only [asgsW]
theorem asgsW_c (t : T) (ts : List T) (d : D) (ds : List D) (r : Rho) (K : Rho → Prop) : asgsW (t :: ts) (d :: ds) r K = asgW t d r fun r' => asgsW ts ds r' K := by simp only [asgsW]
/-! ### expressions -/
theorem x_var (i : Nat) : wE R G (.var i) r s Q = getV r i s Q := by simp only [wE]
theorem x_int (i : Int) : wE R G (.int i) r s Q = Q (.int i) s := by simp only [wE]
theorem x_bl (i : Bool) : wE R G (.bl i) r s Q = Q (.bl i) s := by simp only [wE]
theorem x_non : wE R G .non r s Q = Q .non s := by simp only [wE]
theorem x_str (x : Str) : wE R G (.str x) r s Q = Q (.str x) s := by simp only [wE]
def globW (G : List D) (i : Nat) (s : S) (Q : D → S → Prop) : Prop := match G[i]? with | some d => Q d s | none => False
theorem x_glob (i : Nat) : wE R G (.glob i) r s Q = globW G i s Q := by simp only [wE]; rfl
theorem globW_z (d : D) (G : List D) (s : S) (Q : D → S → Prop) : globW (d :: G) 0 s Q = Q d s := (rfl)
theorem globW_s (d : D) (G : List D) (i : Nat) (s : S) (Q : D → S → Prop) : globW (d :: G) (i + 1) s Q = globW G i s Q := by
  unfold globW; rw [List.getElem?_cons_succ]
theorem x_bin (m : Bool) (o : Bop) (a b : E) : wE R G (.bin m o a b) r s Q = wE R G a r s fun x s1 => wE R G b r s1 fun y s2 => binW m o x y s2 Q := by simp only [wE]
def negW (x : D) (s : S) (Q : D → S → Prop) : Prop := match x with | .int i => Q (.int (-i)) s | _ => False
theorem x_neg (a : E) : wE R G (.neg a) r s Q = wE R G a r s fun x s1 => negW x s1 Q := by simp only [wE]; rfl
theorem negW_i (i : Int) (s : S) (Q : D → S → Prop) : negW (.int i) s Q = Q (.int (-i)) s := (rfl)
theorem x_cmp (o : Cop) (a b : E) : wE R G (.cmp o a b) r s Q = wE R G a r s fun x s1 => wE R G b r s1 fun y s2 => cmpW o x y s2 Q := by simp only [wE]
/-- two ways -/
def two (k : Bool) (A B : Prop) : Prop := (k = true → A) ∧ (k = false → B)
theorem two_t (A B : Prop) : two true A B = A := by unfold two; simp
theorem two_f (A B : Prop) : two false A B = B := by unfold two; simp
theorem two_d (p : Prop) [Decidable p] (A B : Prop) : two (decide p) A B = ((p → A) ∧ (¬ p → B)) := by unfold two; simp
theorem two_n (k : Bool) (A B : Prop) : two (!k) A B = two k B A := by cases k <;> simp [two]
theorem two_and (k l : Bool) (A B : Prop) : two (k && l) A B = two k (two l A B) B := by cases k <;> cases l <;> simp [two]
theorem two_or (k l : Bool) (A B : Prop) : two (k || l) A B = two k A (two l A B) := by cases k <;> cases l <;> simp [two]
def chainW (z : D) (s : S) (Q : D → S → Prop) (more : S → Prop) : Prop := match z with
  | .bl k => (k = true → more s) ∧ (k = false → Q (.bl false) s)
  | _ => False
theorem x_chain (o p : Cop) (a b c : E) : wE R G (.chain o p a b c) r s Q = wE R G a r s fun x s1 => wE R G b r s1 fun y s2 => cmpW o x y s2 fun z s3 => chainW z s3 Q fun s3 => wE R G c r s3 fun w s4 => cmpW p y w s4 Q := by simp only [wE]; rfl
theorem chainW_b (k : Bool) (s : S) (Q : D → S → Prop) (more : S → Prop) : chainW (.bl k) s Q more = two k (more s) (Q (.bl false) s) := (rfl)
def isNW (x : D) (s : S) (A B : S → Prop) : Prop := match x with | .non => A s | _ => B s
theorem x_isN (a : E) : wE R G (.isN a) r s Q = wE R G a r s fun x s1 => isNW x s1 (Q (.bl true)) (Q (.bl false)) := by simp only [wE]; rfl
theorem x_notN (a : E) : wE R G (.notN a) r s Q = wE R G a r s fun x s1 => isNW x s1 (Q (.bl false)) (Q (.bl true)) := by simp only [wE]; rfl
theorem isNW_n (s : S) (A B : S → Prop) : isNW .non s A B = A s := (rfl)
theorem isNW_i (i : Int) (s : S) (A B : S → Prop) : isNW (.int i) s A B = B s := (rfl)
theorem isNW_b (i : Bool) (s : S) (A B : S → Prop) : isNW (.bl i) s A B = B s := (rfl)
theorem isNW_s (i : Str) (s : S) (A B : S → Prop) : isNW (.str i) s A B = B s := (rfl)
theorem isNW_t (i : List D) (s : S) (A B : S → Prop) : isNW (.tup i) s A B = B s := (rfl)
theorem isNW_l (i : List D) (s : S) (A B : S → Prop) : isNW (.lv i) s A B = B s := (rfl)
theorem isNW_r (i : Nat) (s : S) (A B : S → Prop) : isNW (.ref i) s A B = B s := (rfl)
theorem x_and (a b : E) : wE R G (.and a b) r s Q = wE R G a r s fun x s1 => truW x s1 fun k s2 => two k (wE R G b r s2 Q) (Q x s2) := by simp only [wE]; rfl
theorem x_or (a b : E) : wE R G (.or a b) r s Q = wE R G a r s fun x s1 => truW x s1 fun k s2 => two k (Q x s2) (wE R G b r s2 Q) := by simp only [wE]; rfl
theorem x_not (a : E) : wE R G (.not a) r s Q = wE R G a r s fun x s1 => truW x s1 fun k s2 => Q (.bl (!k)) s2 := by simp only [wE]
theorem x_ite (c a b : E) : wE R G (.ite c a b) r s Q = wB R G c r s fun k s1 => two k (wE R G a r s1 Q) (wE R G b r s1 Q) := by simp only [wE]; rfl
/-- so many at once: no question of sizes -/
theorem x_tup0 : wE R G (.tup []) r s Q = Q (.tup []) s := by simp [wE, wEs]
theorem x_tup1 (a : E) : wE R G (.tup [a]) r s Q = wE R G a r s fun x s => Q (.tup [x]) s := by simp [wE, wEs, SL]
theorem x_tup2 (a b : E) : wE R G (.tup [a, b]) r s Q = wE R G a r s fun x s => wE R G b r s fun y s => Q (.tup [x, y]) s := by simp [wE, wEs, SL]
theorem x_tup3 (a b c : E) : wE R G (.tup [a, b, c]) r s Q = wE R G a r s fun x s => wE R G b r s fun y s => wE R G c r s fun z s => Q (.tup [x, y, z]) s := by simp [wE, wEs, SL]
theorem x_tup4 (a b c d : E) : wE R G (.tup [a, b, c, d]) r s Q = wE R G a r s fun x s => wE R G b r s fun y s => wE R G c r s fun z s => wE R G d r s fun u s => Q (.tup [x, y, z, u]) s := by simp [wE, wEs, SL]
theorem x_tup5 (a b c d e : E) : wE R G (.tup [a, b, c, d, e]) r s Q = wE R G a r s fun x s => wE R G b r s fun y s => wE R G c r s fun z s => wE R G d r s fun u s => wE R G e r s fun v s => Q (.tup [x, y, z, u, v]) s := by simp [wE, wEs, SL]
theorem x_lst0 (m : Bool) : wE R G (.lst m []) r s Q = newL m [] s Q := by simp [wE, wEs]
theorem x_lst1 (m : Bool) (a : E) : wE R G (.lst m [a]) r s Q = wE R G a r s fun x s => newL m [x] s Q := by simp [wE, wEs, SL]
theorem x_lst2 (m : Bool) (a b : E) : wE R G (.lst m [a, b]) r s Q = wE R G a r s fun x s => wE R G b r s fun y s => newL m [x, y] s Q := by simp [wE, wEs, SL]
theorem x_lst3 (m : Bool) (a b c : E) : wE R G (.lst m [a, b, c]) r s Q = wE R G a r s fun x s => wE R G b r s fun y s => wE R G c r s fun z s => newL m [x, y, z] s Q := by simp [wE, wEs, SL]
theorem x_lst4 (m : Bool) (a b c d : E) : wE R G (.lst m [a, b, c, d]) r s Q = wE R G a r s fun x s => wE R G b r s fun y s => wE R G c r s fun z s => wE R G d r s fun u s => newL m [x, y, z, u] s Q := by simp [wE, wEs, SL]
theorem x_lst5 (m : Bool) (a b c d e : E) : wE R G (.lst m [a, b, c, d, e]) r s Q = wE R G a r s fun x s => wE R G b r s fun y s => wE R G c r s fun z s => wE R G d r s fun u s => wE R G e r s fun v s => newL m [x, y, z, u, v] s Q := by simp [wE, wEs, SL]
def lstW (m : Bool) (xs : List D) (s : S) (Q : D → S → Prop) : Prop := xs.length ≤ SL ∧ newL m xs s Q
theorem x_lst6 (m : Bool) (a b c d e f : E) (es : List E) : wE R G (.lst m (a :: b :: c :: d :: e :: f :: es)) r s Q = wEs R G (a :: b :: c :: d :: e :: f :: es) r s fun xs s1 => lstW m xs s1 Q := by simp only [wE]; rfl
def tupW (xs : List D) (s : S) (Q : D → S → Prop) : Prop := xs.length ≤ SL ∧ Q (.tup xs) s
theorem x_tup6 (a b c d e f : E) (es : List E) : wE R G (.tup (a :: b :: c :: d :: e :: f :: es)) r s Q = wEs R G (a :: b :: c :: d :: e :: f :: es) r s fun xs s1 => tupW xs s1 Q := by simp only [wE]; rfl
theorem xs_n (Q : List D → S → Prop) : wEs R G [] r s Q = Q [] s := by simp only [wEs]
theorem xs_c (e : E) (es : List E) (Q : List D → S → Prop) : wEs R G (e :: es) r s Q = wE R G e r s fun x s1 => wEs R G es r s1 fun xs s2 => Q (x :: xs) s2 := by simp only [wEs]
theorem x_sub (a i : E) : wE R G (.sub a i) r s Q = wE R G a r s fun x s1 => wE R G i r s1 fun y s2 => subW x y s2 Q := by simp only [wE]
def partW (x : D) (s : S) (Q : Option Int → S → Prop) : Prop := match x with | .int i => Q (some i) s | _ => False
theorem x_dsel (es : List E) (i : E) : wE R G (.dsel es i) r s Q = wEs R G es r s fun xs s1 => dispW xs fun kvs => wE R G i r s1 fun y s2 => pickW kvs y s2 Q := by simp only [wE]
theorem x_slc (m : Bool) (a : E) (lo hi : Option E) : wE R G (.slc m a lo hi) r s Q = wE R G a r s fun x s1 => wO R G lo r s1 fun l s2 => wO R G hi r s2 fun h s3 => slcW m x l h s3 Q := by simp only [wE]
theorem xo_n (Q : Option Int → S → Prop) : wO R G none r s Q = Q none s := by simp only [wO]
theorem xo_s (e : E) (Q : Option Int → S → Prop) : wO R G (some e) r s Q = wE R G e r s fun x s1 => partW x s1 Q := by simp only [wO]; rfl
theorem partW_i (i : Int) (s : S) (Q : Option Int → S → Prop) : partW (.int i) s Q = Q (some i) s := (rfl)
theorem x_call1 (m : Bool) (f : Nat) (a : E) : wE R G (.call m f [a]) r s Q = wE R G a r s fun x s => R f [x] s fun d s => frz m d s Q := by simp [wE, wEs]
theorem x_call2 (m : Bool) (f : Nat) (a b : E) : wE R G (.call m f [a, b]) r s Q = wE R G a r s fun x s => wE R G b r s fun y s => R f [x, y] s fun d s => frz m d s Q := by simp [wE, wEs]
theorem x_call3 (m : Bool) (f : Nat) (a b c : E) : wE R G (.call m f [a, b, c]) r s Q = wE R G a r s fun x s => wE R G b r s fun y s => wE R G c r s fun z s => R f [x, y, z] s fun d s => frz m d s Q := by simp [wE, wEs]
theorem x_call4 (m : Bool) (f : Nat) (a b c d : E) : wE R G (.call m f [a, b, c, d]) r s Q = wE R G a r s fun x s => wE R G b r s fun y s => wE R G c r s fun z s => wE R G d r s fun u s => R f [x, y, z, u] s fun d s => frz m d s Q := by simp [wE, wEs]
theorem x_call5 (m : Bool) (f : Nat) (a b c d e : E) : wE R G (.call m f [a, b, c, d, e]) r s Q = wE R G a r s fun x s => wE R G b r s fun y s => wE R G c r s fun z s => wE R G d r s fun u s => wE R G e r s fun v s => R f [x, y, z, u, v] s fun d s => frz m d s Q := by simp [wE, wEs]
theorem x_call6 (m : Bool) (f : Nat) (a b c d e g : E) : wE R G (.call m f [a, b, c, d, e, g]) r s Q = wE R G a r s fun x s => wE R G b r s fun y s => wE R G c r s fun z s => wE R G d r s fun u s => wE R G e r s fun v s => wE R G g r s fun w s => R f [x, y, z, u, v, w] s fun d s => frz m d s Q := by simp [wE, wEs]
theorem x_callk (m : Bool) (f : Nat) (es ks : List E) (perm : List Nat) : wE R G (.callk m f es ks perm) r s Q = wEs R G es r s fun xs s1 => wEs R G ks r s1 fun zs s2 => R f (perm.filterMap fun i => (xs ++ zs)[i]?) s2 fun d s3 => frz m d s3 Q := by simp only [wE]
theorem x_bi1 (b : Bi) (m : Bool) (a : E) : wE R G (.bi b m [a]) r s Q = wE R G a r s fun x s => biW b m [x] s Q := by simp [wE, wEs]
theorem x_bi2 (b : Bi) (m : Bool) (a c : E) : wE R G (.bi b m [a, c]) r s Q = wE R G a r s fun x s => wE R G c r s fun y s => biW b m [x, y] s Q := by simp [wE, wEs]
theorem x_isi (a : E) (ts : List Ty) (k : Bool) : wE R G (.isi a ts k) r s Q = wE R G a r s fun x s1 => isiW x ts s1 Q := by simp only [wE]
theorem x_app (o e : E) : wE R G (.app o e) r s Q = wE R G o r s fun x s1 => isLst x s1 ∧ wE R G e r s1 fun y s2 => appW x y s2 Q := by simp only [wE]
theorem x_ext (o e : E) : wE R G (.ext o e) r s Q = wE R G o r s fun x s1 => isLst x s1 ∧ wE R G e r s1 fun y s2 => extW x y s2 Q := by simp only [wE]
/-- one turn of a comprehension -/
def turnC (R : RunT) (G : List D) (own : List Nat) (elt : E) (t : T) (c : Option E) (r : Rho) (d : D) (s : S) (P : Option D → S → Prop) : Prop :=
  wipeK r own fun r0 => asgW t d r0 fun r1 => wOB R G c r1 s fun k s3 => two k (wE R G elt r1 s3 fun x s4 => P (some x) s4) (P none s3)
theorem x_lc (m : Bool) (own : List Nat) (elt : E) (t : T) (it : It) (c : Option E) : wE R G (.lc m own elt t it c) r s Q = wI R G it r s fun ds chk s1 => lcW (turnC R G own elt t c r) chk ds [] s1 fun acc s2 => newL m acc s2 Q := by simp only [wE]; rfl
/-! ### tests -/
theorem b_and (a b : E) : wB R G (.and a b) r s P = wB R G a r s fun k s1 => two k (wB R G b r s1 P) (P false s1) := by simp only [wB]; rfl
theorem b_or (a b : E) : wB R G (.or a b) r s P = wB R G a r s fun k s1 => two k (P true s1) (wB R G b r s1 P) := by simp only [wB]; rfl
theorem b_not (a : E) : wB R G (.not a) r s P = wB R G a r s fun k s1 => P (!k) s1 := by simp only [wB]
theorem b_cmp (o : Cop) (a b : E) : wB R G (.cmp o a b) r s P = wE R G a r s fun x s1 => wE R G b r s1 fun y s2 => cmpW o x y s2 fun d s3 => boolW d s3 P := by simp only [wB]
theorem b_chain (o p : Cop) (a b c : E) : wB R G (.chain o p a b c) r s P = wE R G a r s fun x s1 => wE R G b r s1 fun y s2 => cmpW o x y s2 fun z s3 => chainW z s3 (fun d s => boolW d s P) fun s3 => wE R G c r s3 fun w s4 => cmpW p y w s4 fun d s5 => boolW d s5 P := by simp only [wB]; rfl
theorem b_isN (a : E) : wB R G (.isN a) r s P = wE R G a r s fun x s1 => isNW x s1 (P true) (P false) := by simp only [wB]; rfl
theorem b_notN (a : E) : wB R G (.notN a) r s P = wE R G a r s fun x s1 => isNW x s1 (P false) (P true) := by simp only [wB]; rfl
theorem b_var (i : Nat) : wB R G (.var i) r s P = getV r i s fun d s => truW d s P := by simp only [wB, wE]
theorem b_call (m : Bool) (f : Nat) (es : List E) : wB R G (.call m f es) r s P = wE R G (.call m f es) r s fun d s1 => truW d s1 P := by simp only [wB]
theorem b_callk (m : Bool) (f : Nat) (es ks : List E) (p : List Nat) : wB R G (.callk m f es ks p) r s P = wE R G (.callk m f es ks p) r s fun d s1 => truW d s1 P := by simp only [wB]
theorem b_bi (b : Bi) (m : Bool) (es : List E) : wB R G (.bi b m es) r s P = wE R G (.bi b m es) r s fun d s1 => truW d s1 P := by simp only [wB]
theorem b_isi (a : E) (ts : List Ty) (k : Bool) : wB R G (.isi a ts k) r s P = wE R G a r s fun x s1 => isiW x ts s1 fun d s1 => truW d s1 P := by simp only [wB, wE]
theorem b_bin (m : Bool) (o : Bop) (a b : E) : wB R G (.bin m o a b) r s P = wE R G (.bin m o a b) r s fun d s1 => truW d s1 P := by simp only [wB]
theorem b_bl (b : Bool) : wB R G (.bl b) r s P = P b s := by simp only [wB, wE, truW]
theorem b_sub (a i : E) : wB R G (.sub a i) r s P = wE R G (.sub a i) r s fun d s1 => truW d s1 P := by simp only [wB]
theorem ob_n : wOB R G none r s P = P true s := by simp only [wOB]
theorem ob_s (e : E) : wOB R G (some e) r s P = wB R G e r s P := by simp only [wOB]
/-! ### values -/
theorem add_i (m : Bool) (i j : Int) : binW m .add (.int i) (.int j) s Q = Q (.int (i + j)) s := (rfl)
theorem sub_i (m : Bool) (i j : Int) : binW m .sub (.int i) (.int j) s Q = Q (.int (i - j)) s := (rfl)
theorem mul_i (m : Bool) (i j : Int) : binW m .mul (.int i) (.int j) s Q = (MulOk i j ∧ Q (.int (i * j)) s) := (rfl)
theorem mod_i (m : Bool) (i j : Int) : binW m .mod (.int i) (.int j) s Q = (0 < j ∧ Q (.int (i % j)) s) := (rfl)
theorem fdiv_i (m : Bool) (i j : Int) : binW m .fdiv (.int i) (.int j) s Q = (DivOk j ∧ Q (.int (i.fdiv j)) s) := (rfl)
theorem pow_i (m : Bool) (i j : Int) : binW m .pow (.int i) (.int j) s Q = (PowOk i j ∧ Q (.int (i ^ j.toNat)) s) := (rfl)
theorem add_t (m : Bool) (i j : List D) : binW m .add (.tup i) (.tup j) s Q = (i.length + j.length ≤ SL ∧ Q (.tup (i ++ j)) s) := (rfl)
theorem add_l (m : Bool) (i j : List D) : binW m .add (.lv i) (.lv j) s Q = (i.length + j.length ≤ SL ∧ newL m (i ++ j) s Q) := (rfl)
theorem mul_l (m : Bool) (i : List D) (k : Int) : binW m .mul (.lv i) (.int k) s Q = (-(2 ^ 63) ≤ k ∧ k < 2 ^ 63 ∧ i.length * k.toNat ≤ SL ∧ newL m (List.replicate k.toNat i).flatten s Q) := (rfl)
theorem newL_f (ds : List D) : newL false ds s Q = Q (.lv ds) s := (rfl)
theorem newL_t (ds : List D) : newL true ds s Q = ∀ a, s a = none → Q (.ref a) (put s a (.lst ds)) := (rfl)
theorem frz_i (m : Bool) (i : Int) : frz m (.int i) s Q = Q (.int i) s := by cases m <;> rfl
theorem frz_b (m : Bool) (i : Bool) : frz m (.bl i) s Q = Q (.bl i) s := by cases m <;> rfl
theorem frz_n (m : Bool) : frz m .non s Q = Q .non s := by cases m <;> rfl
theorem frz_s (m : Bool) (i : Str) : frz m (.str i) s Q = Q (.str i) s := by cases m <;> rfl
theorem frz_t (m : Bool) (i : List D) : frz m (.tup i) s Q = Q (.tup i) s := by cases m <;> rfl
theorem frz_l (m : Bool) (i : List D) : frz m (.lv i) s Q = Q (.lv i) s := by cases m <;> rfl
theorem frz_k (d : D) : frz true d s Q = Q d s := (rfl)
/-- a changeable list that nothing else knows, frozen: the state is what it was -/
theorem rm_put {s : S} {a : Nat} {o : Ob} (h : s a = none) : rm (put s a o) a = s := by
  funext b
  unfold rm put
  by_cases e : b = a
  · rw [if_pos e, e, h]
  · rw [if_neg e, if_neg e]
theorem put_at (s : S) (a : Nat) (o : Ob) : put s a o a = some o := by unfold put; rw [if_pos rfl]
theorem put_ne {s : S} {a b : Nat} {o : Ob} (h : b ≠ a) : put s a o b = s b := by unfold put; rw [if_neg h]
theorem put_put (s : S) (a : Nat) (o u : Ob) : put (put s a o) a u = put s a u := by
  funext b; unfold put; split <;> rfl
theorem frz_put {a : Nat} {ds : List D} (h : s a = none) : frz false (.ref a) (put s a (.lst ds)) Q = Q (.lv ds) s := by
  unfold frz; simp only [put_at, rm_put h]
theorem le_refl (s : S) : le s s := fun _ _ h => h
theorem le_put {s : S} {a : Nat} {o : Ob} (h : s a = none) : le s (put s a o) := fun b u e => by
  by_cases q : b = a
  · subst q; rw [h] at e; cases e
  · rw [put_ne q]; exact e
theorem eq_i (i j : Int) : cmpW .eq (.int i) (.int j) s Q = Q (.bl (decide (i = j))) s := (rfl)
theorem ne_i (i j : Int) : cmpW .ne (.int i) (.int j) s Q = Q (.bl (!decide (i = j))) s := (rfl)
theorem eq_b (i j : Bool) : cmpW .eq (.bl i) (.bl j) s Q = Q (.bl (decide (i = j))) s := by
  have e : cmpW .eq (.bl i) (.bl j) s Q = (fine (.bl i) ∧ fine (.bl j) ∧ Q (.bl (eqD (.bl i) (.bl j))) s) := (rfl)
  have f : ∀ b, fine (.bl b) := fun b => ⟨rfl, Nat.zero_le _⟩
  rw [e, show eqD (.bl i) (.bl j) = decide (i = j) from by cases i <;> cases j <;> rfl]
  simp only [f, true_and]
theorem eq_s (x y : Str) : cmpW .eq (.str x) (.str y) s Q = (fine (.str x) ∧ fine (.str y) ∧ Q (.bl (x == y)) s) := (rfl)
theorem ne_b (i j : Bool) : cmpW .ne (.bl i) (.bl j) s Q = Q (.bl (!decide (i = j))) s := (rfl)
theorem lt_i (i j : Int) : cmpW .lt (.int i) (.int j) s Q = Q (.bl (decide (i < j))) s := (rfl)
theorem le_i (i j : Int) : cmpW .le (.int i) (.int j) s Q = Q (.bl (decide (i ≤ j))) s := (rfl)
theorem gt_i (i j : Int) : cmpW .gt (.int i) (.int j) s Q = Q (.bl (decide (j < i))) s := (rfl)
theorem ge_i (i j : Int) : cmpW .ge (.int i) (.int j) s Q = Q (.bl (decide (j ≤ i))) s := (rfl)
theorem eq_t (i : List D) (y : D) : cmpW .eq (.tup i) y s Q = (fine (.tup i) ∧ fine y ∧ Q (.bl (eqD (.tup i) y)) s) := (rfl)
theorem ne_t (i : List D) (y : D) : cmpW .ne (.tup i) y s Q = (fine (.tup i) ∧ fine y ∧ Q (.bl (!eqD (.tup i) y)) s) := (rfl)
theorem eq_l (i : List D) (y : D) : cmpW .eq (.lv i) y s Q = (fine (.lv i) ∧ fine y ∧ Q (.bl (eqD (.lv i) y)) s) := (rfl)
theorem ne_l (i : List D) (y : D) : cmpW .ne (.lv i) y s Q = (fine (.lv i) ∧ fine y ∧ Q (.bl (!eqD (.lv i) y)) s) := (rfl)
theorem tru_b (b : Bool) : truW (.bl b) s P = P b s := (rfl)
theorem tru_i (i : Int) : truW (.int i) s P = P (i != 0) s := (rfl)
theorem tru_n : truW .non s P = P false s := (rfl)
theorem tru_t (i : List D) : truW (.tup i) s P = P (!i.isEmpty) s := (rfl)
theorem tru_l (i : List D) : truW (.lv i) s P = P (!i.isEmpty) s := (rfl)
theorem boo_b (b : Bool) : boolW (.bl b) s P = P b s := (rfl)
/-- an item at a written place -/
theorem at_nat {α : Type} (xs : List α) (i : Nat) (h : i < xs.length) : atI xs (i : Int) = xs[i]? := by
  unfold atI ixN
  rw [if_pos (by omega), if_pos (by omega)]
  simp
def atW (o : Option D) (s : S) (Q : D → S → Prop) : Prop := match o with | some d => Q d s | none => False
theorem sub_t (ds : List D) (k : Int) : subW (.tup ds) (.int k) s Q = atW (atI ds k) s Q := (rfl)
theorem sub_l (ds : List D) (k : Int) : subW (.lv ds) (.int k) s Q = atW (atI ds k) s Q := (rfl)
theorem sub_r {a : Nat} {ds : List D} (k : Int) (h : s a = some (.lst ds)) : subW (.ref a) (.int k) s Q = atW (atI ds k) s Q := by
  unfold subW
  simp only [items, view, h]
  rfl
theorem atW_s (d : D) : atW (some d) s Q = Q d s := (rfl)
theorem at_0 (a : D) (xs : List D) : atI (a :: xs) 0 = some a := by
  rw [show (0 : Int) = ((0 : Nat) : Int) from rfl, at_nat _ _ (by simp)]; rfl
theorem at_1 (a b : D) (xs : List D) : atI (a :: b :: xs) 1 = some b := by
  rw [show (1 : Int) = ((1 : Nat) : Int) from rfl, at_nat _ _ (by simp)]; rfl
theorem at_2 (a b c : D) (xs : List D) : atI (a :: b :: c :: xs) 2 = some c := by
  rw [show (2 : Int) = ((2 : Nat) : Int) from rfl, at_nat _ _ (by simp)]; rfl
theorem at_3 (a b c d : D) (xs : List D) : atI (a :: b :: c :: d :: xs) 3 = some d := by
  rw [show (3 : Int) = ((3 : Nat) : Int) from rfl, at_nat _ _ (by simp)]; rfl
theorem at_4 (a b c d e : D) (xs : List D) : atI (a :: b :: c :: d :: e :: xs) 4 = some e := by
  rw [show (4 : Int) = ((4 : Nat) : Int) from rfl, at_nat _ _ (by simp)]; rfl
theorem isi_i (ts : List Ty) (i : Int) : isiW (.int i) ts s Q = Q (.bl (ts.any (isTy .int))) s := (rfl)
theorem isi_b (ts : List Ty) (i : Bool) : isiW (.bl i) ts s Q = Q (.bl (ts.any (isTy .bool))) s := (rfl)
theorem isi_s (ts : List Ty) (i : Str) : isiW (.str i) ts s Q = Q (.bl (ts.any (isTy .str))) s := (rfl)
theorem isi_t (ts : List Ty) (i : List D) : isiW (.tup i) ts s Q = Q (.bl (ts.any (isTy .tuple))) s := (rfl)
theorem isi_l (ts : List Ty) (i : List D) : isiW (.lv i) ts s Q = Q (.bl (ts.any (isTy .list))) s := (rfl)
theorem isi_n (ts : List Ty) : isiW .non ts s Q = Q (.bl false) s := (rfl)
theorem isi_r (ts : List Ty) {a : Nat} {ds : List D} (h : s a = some (.lst ds)) : isiW (.ref a) ts s Q = Q (.bl (ts.any (isTy .list))) s := by
  unfold isiW; simp only [kind, h]
theorem len_t (m : Bool) (ds : List D) : biW .len m [.tup ds] s Q = Q (.int ds.length) s := (rfl)
theorem len_l (m : Bool) (ds : List D) : biW .len m [.lv ds] s Q = Q (.int ds.length) s := (rfl)
theorem len_s (m : Bool) (ds : List Int) : biW .len m [.scr ds] s Q = Q (.int ds.length) s := (rfl)
theorem len_r (m : Bool) {a : Nat} {ds : List D} (h : s a = some (.lst ds)) : biW .len m [.ref a] s Q = Q (.int ds.length) s := by
  unfold biW; simp only [items, view, h]
theorem abs_i (m : Bool) (i : Int) : biW .abs m [.int i] s Q = Q (.int (if i < 0 then -i else i)) s := (rfl)
theorem int_i (m : Bool) (i : Int) : biW .int m [.int i] s Q = Q (.int i) s := (rfl)
theorem int_b (m : Bool) (i : Bool) : biW .int m [.bl i] s Q = Q (.int (if i then 1 else 0)) s := (rfl)
theorem tup_l (m : Bool) (ds : List D) : biW .tuple m [.lv ds] s Q = Q (.tup ds) s := (rfl)
theorem tup_t (m : Bool) (ds : List D) : biW .tuple m [.tup ds] s Q = Q (.tup ds) s := (rfl)
theorem lis_l (m : Bool) (ds : List D) : biW .list m [.lv ds] s Q = newL m ds s Q := (rfl)
theorem lis_t (m : Bool) (ds : List D) : biW .list m [.tup ds] s Q = newL m ds s Q := (rfl)
theorem bools_map (bs : List Bool) : asBools (bs.map D.bl) = some bs := by
  induction bs with
  | nil => rfl
  | cons b bs ih => simp only [List.map_cons, asBools, ih, Option.map_some]
theorem ints_map (bs : List Int) : asInts (bs.map D.int) = some bs := by
  induction bs with
  | nil => rfl
  | cons b bs ih => simp only [List.map_cons, asInts, ih, Option.map_some]
theorem all_l (m : Bool) (bs : List Bool) : biW .all m [.lv (bs.map D.bl)] s Q = Q (.bl (bs.all id)) s := by
  unfold biW; simp only [view, Option.bind_some, bools_map]
theorem any_l (m : Bool) (bs : List Bool) : biW .any m [.lv (bs.map D.bl)] s Q = Q (.bl (bs.any id)) s := by
  unfold biW; simp only [view, Option.bind_some, bools_map]
theorem sum_l (m : Bool) (bs : List Int) : biW .sum m [.lv (bs.map D.int)] s Q = Q (.int bs.sum) s := by
  unfold biW; simp only [view, Option.bind_some, ints_map]
theorem app_p {a : Nat} {ds : List D} (x : D) : appW (.ref a) x (put s a (.lst ds)) Q = (ds.length < SL ∧ Q .non (put s a (.lst (ds ++ [x])))) := by
  unfold appW; simp only [put_at, put_put]
theorem isl_p {a : Nat} {ds : List D} : isLst (.ref a) (put s a (.lst ds)) = True := by
  unfold isLst; simp only [put_at]
theorem ext_p {a : Nat} {ds es : List D} : extW (.ref a) (.lv es) (put s a (.lst ds)) Q = (ds.length + es.length ≤ SL ∧ Q .non (put s a (.lst (ds ++ es)))) := by
  unfold extW; simp only [put_at, put_put, items, view]
theorem ext_pt {a : Nat} {ds es : List D} : extW (.ref a) (.tup es) (put s a (.lst ds)) Q = (ds.length + es.length ≤ SL ∧ Q .non (put s a (.lst (ds ++ es)))) := by
  unfold extW; simp only [put_at, put_put, items]
theorem sto_p {a : Nat} {ds : List D} (k : Int) (x : D) (P : S → Prop) {j : Nat} (h : ixN ds.length k = some j) : stoW (.ref a) (.int k) x (put s a (.lst ds)) P = P (put s a (.lst (ds.set j x))) := by
  unfold stoW; simp only [put_at, put_put, h]
theorem aug_a (i j : Int) : augW .add (.int i) (.int j) s Q = Q (.int (i + j)) s := (rfl)
theorem aug_s (i j : Int) : augW .sub (.int i) (.int j) s Q = Q (.int (i - j)) s := (rfl)
theorem aug_m (i j : Int) : augW .mul (.int i) (.int j) s Q = (MulOk i j ∧ Q (.int (i * j)) s) := (rfl)
theorem aug_d (i j : Int) : augW .fdiv (.int i) (.int j) s Q = ((0 < j ∧ j < 1073741824) ∧ Q (.int (i / j)) s) := (rfl)
/-! ### what is walked -/
variable {K : List D → (S → Prop) → S → Prop}
theorem i_seq (e : E) : wI R G (.seq e) r s K = wE R G e r s fun x s1 => seqW x s1 K := by simp only [wI]
theorem seq_t (ds : List D) : seqW (.tup ds) s K = K ds (fun _ => True) s := (rfl)
theorem seq_l (ds : List D) : seqW (.lv ds) s K = K ds (fun _ => True) s := (rfl)
theorem seq_p {a : Nat} {ds : List D} : seqW (.ref a) (put s a (.lst ds)) K = K ds (fun s' => s' a = some (.lst ds)) (put s a (.lst ds)) := by
  unfold seqW; simp only [put_at]
def rngW (x : D) (s : S) (K : List D → (S → Prop) → S → Prop) : Prop := match x with
  | .int n => -(2 ^ 62) ≤ n ∧ n < 2 ^ 62 ∧ K (rngD 0 n.toNat) (fun _ => True) s
  | _ => False
theorem i_rng1 (a : E) : wI R G (.rng1 a) r s K = wE R G a r s fun x s1 => rngW x s1 K := by simp only [wI]; rfl
theorem rngW_i (n : Int) : rngW (.int n) s K = (-(2 ^ 62) ≤ n ∧ n < 2 ^ 62 ∧ K (rngD 0 n.toNat) (fun _ => True) s) := (rfl)
def rng2W (x y : D) (s : S) (K : List D → (S → Prop) → S → Prop) : Prop := match x, y with
  | .int i, .int j => (-(2 ^ 62) ≤ i ∧ i < 2 ^ 62 ∧ -(2 ^ 62) ≤ j ∧ j < 2 ^ 62) ∧ K (rngD i (j - i).toNat) (fun _ => True) s
  | _, _ => False
theorem i_rng2 (a b : E) : wI R G (.rng2 a b) r s K = wE R G a r s fun x s1 => wE R G b r s1 fun y s2 => rng2W x y s2 K := by simp only [wI]; rfl
theorem rng2W_i (i j : Int) : rng2W (.int i) (.int j) s K = ((-(2 ^ 62) ≤ i ∧ i < 2 ^ 62 ∧ -(2 ^ 62) ≤ j ∧ j < 2 ^ 62) ∧ K (rngD i (j - i).toNat) (fun _ => True) s) := (rfl)
theorem i_enum0 (a : E) : wI R G (.enum a none) r s K = wE R G a r s fun x s1 => seqW x s1 fun ds chk s2 => K (enumD 0 ds) chk s2 := by simp only [wI]; rfl
theorem i_enum1 (a : E) (c : Nat) : wI R G (.enum a (some c)) r s K = wE R G a r s fun x s1 => seqW x s1 fun ds chk s2 => K (enumD c ds) chk s2 := by simp only [wI]; rfl
def zipW (x y : D) (s : S) (K : List D → (S → Prop) → S → Prop) : Prop := match x, y with
  | .tup xs, .tup ys => K (zipD xs ys) (fun _ => True) s
  | .tup _, _ => False
  | _, .tup _ => False
  | x, y => seqW x s fun xs chk s3 => seqW y s3 fun ys chk' s4 => K (zipD xs ys) (fun s' => chk s' ∧ chk' s') s4
theorem i_zip (a b : E) : wI R G (.zip a b) r s K = wE R G a r s fun x s1 => wE R G b r s1 fun y s2 => zipW x y s2 K := by simp only [wI]; rfl
theorem zipW_t (xs ys : List D) : zipW (.tup xs) (.tup ys) s K = K (zipD xs ys) (fun _ => True) s := (rfl)
theorem zipW_l (xs ys : List D) : zipW (.lv xs) (.lv ys) s K = K (zipD xs ys) (fun _ => True ∧ True) s := (rfl)
/-! ### statements -/
variable {nx bk ct : Rho → S → Prop} {rt : D → S → Prop} {Rf : XT → RunT} {ex : XT}
theorem ss_n : wSs Rf G [] r s ⟨nx, rt, bk, ct, ex⟩ = nx r s := by simp only [wSs]
theorem ss_c (c : St) (cs : List St) : wSs Rf G (c :: cs) r s ⟨nx, rt, bk, ct, ex⟩ = wS Rf G c r s ⟨fun r1 s1 => wSs Rf G cs r1 s1 ⟨nx, rt, bk, ct, ex⟩, rt, bk, ct, ex⟩ := by simp only [wSs]
theorem s_asg (t : T) (e : E) : wS Rf G (.asg t e) r s ⟨nx, rt, bk, ct, ex⟩ = wE (Rf ex) G e r s fun d s1 => asgW t d r fun r1 => nx r1 s1 := by simp only [wS]
theorem s_par2 (i j : Nat) (a b : E) : wS Rf G (.par [i, j] [a, b]) r s ⟨nx, rt, bk, ct, ex⟩ = wE (Rf ex) G a r s fun x s1 => wE (Rf ex) G b r s1 fun y s2 => setK r i (some x) fun r1 => setK r1 j (some y) fun r2 => nx r2 s2 := by
  simp [wS, wEs, setAll, setK]
theorem s_par3 (i j k : Nat) (a b c : E) : wS Rf G (.par [i, j, k] [a, b, c]) r s ⟨nx, rt, bk, ct, ex⟩ = wE (Rf ex) G a r s fun x s1 => wE (Rf ex) G b r s1 fun y s2 => wE (Rf ex) G c r s2 fun z s3 => setK r i (some x) fun r1 => setK r1 j (some y) fun r2 => setK r2 k (some z) fun r3 => nx r3 s3 := by
  simp [wS, wEs, setAll, setK]
theorem s_sto (o i e : E) : wS Rf G (.sto o i e) r s ⟨nx, rt, bk, ct, ex⟩ = wE (Rf ex) G e r s fun x s1 => wE (Rf ex) G o r s1 fun p s2 => wE (Rf ex) G i r s2 fun k s3 => stoW p k x s3 fun s4 => nx r s4 := by simp only [wS]
theorem s_aug (i : Nat) (o : Bop) (e : E) : wS Rf G (.aug i o e) r s ⟨nx, rt, bk, ct, ex⟩ = getV r i s fun x _ => wE (Rf ex) G e r s fun y s1 => augW o x y s1 fun z s2 => setK r i (some z) fun r1 => nx r1 s2 := by simp only [wS]; rfl
theorem s_exp (e : E) : wS Rf G (.exp e) r s ⟨nx, rt, bk, ct, ex⟩ = wE (Rf ex) G e r s fun _ s1 => nx r s1 := by simp only [wS]
theorem s_ret (e : E) : wS Rf G (.ret e) r s ⟨nx, rt, bk, ct, ex⟩ = wE (Rf ex) G e r s fun d s1 => rt d s1 := by simp only [wS]
theorem s_ife (c : E) (a b : List St) : wS Rf G (.ife c a b) r s ⟨nx, rt, bk, ct, ex⟩ = wB (Rf ex) G c r s fun k s1 => two k (wSs Rf G a r s1 ⟨nx, rt, bk, ct, ex⟩) (wSs Rf G b r s1 ⟨nx, rt, bk, ct, ex⟩) := by simp only [wS]; rfl
def frK (Rf : XT → RunT) (G : List D) (t : T) (body : List St) (drops : List Nat) (chk : S → Prop) (ds : List D) (r : Rho) (s : S) (K : Kt) : Prop := frW t (fun r s K => wSs Rf G body r s K) drops chk K ds r s
theorem s_fr (t : T) (it : It) (body : List St) (drops : List Nat) : wS Rf G (.fr t it body drops) r s ⟨nx, rt, bk, ct, ex⟩ = wI (Rf ex) G it r s fun ds chk s1 => frK Rf G t body drops chk ds r s1 ⟨nx, rt, bk, ct, ex⟩ := by simp only [wS]; rfl
theorem fr_n (t : T) (body : List St) (drops : List Nat) (chk : S → Prop) : frK Rf G t body drops chk [] r s ⟨nx, rt, bk, ct, ex⟩ = (chk s ∧ wipeK r drops fun r' => nx r' s) := (rfl)
theorem fr_c (t : T) (body : List St) (drops : List Nat) (chk : S → Prop) (d : D) (ds : List D) : frK Rf G t body drops chk (d :: ds) r s ⟨nx, rt, bk, ct, ex⟩ = (chk s ∧ asgW t d r fun r1 => wSs Rf G body r1 s
    ⟨fun r2 s2 => wipeK r2 drops fun r3 => frK Rf G t body drops chk ds r3 s2 ⟨nx, rt, bk, ct, ex⟩, rt, fun r2 s2 => wipeK r2 drops fun r3 => nx r3 s2, fun r2 s2 => wipeK r2 drops fun r3 => frK Rf G t body drops chk ds r3 s2 ⟨nx, rt, bk, ct, ex⟩, ex⟩) := (rfl)
def whK (Rf : XT → RunT) (G : List D) (c : E) (body : List St) (drops : List Nat) (n : Nat) (r : Rho) (s : S) (K : Kt) : Prop := whW (fun r s Q => wB (Rf K.ex) G c r s Q) (fun r s K => wSs Rf G body r s K) drops K n r s
theorem s_whl (c : E) (body : List St) (drops : List Nat) : wS Rf G (.whl c body drops) r s ⟨nx, rt, bk, ct, ex⟩ = ∃ n, whK Rf G c body drops n r s ⟨nx, rt, bk, ct, ex⟩ := by simp only [wS]; rfl
theorem wh_s (c : E) (body : List St) (drops : List Nat) (n : Nat) : whK Rf G c body drops (n + 1) r s ⟨nx, rt, bk, ct, ex⟩ = wB (Rf ex) G c r s fun k s1 => two k (wSs Rf G body r s1
    ⟨fun r2 s2 => wipeK r2 drops fun r3 => whK Rf G c body drops n r3 s2 ⟨nx, rt, bk, ct, ex⟩, rt, fun r2 s2 => wipeK r2 drops fun r3 => nx r3 s2, fun r2 s2 => wipeK r2 drops fun r3 => whK Rf G c body drops n r3 s2 ⟨nx, rt, bk, ct, ex⟩, ex⟩) (wipeK r drops fun r3 => nx r3 s1) := (rfl)
theorem s_rse (c : Nat) : wS Rf G (.rse c) r s ⟨nx, rt, bk, ct, ex⟩ = ex c s := by simp only [wS]
/-- what a try wishes of what its body raises -/
def catchX (n c v : Nat) (w : Str) (nx : Rho → S → Prop) (ex : XT) : XT := fun c' s' => match decide (c' = c) with
  | true => nx ((List.replicate n none).set v (some (.lv [.str w, .bl true]))) s'
  | false => ex c' s'
theorem s_tr (body : List St) (c v : Nat) (w : Str) : wS Rf G (.tr body [(c, v, w)]) r s ⟨nx, rt, bk, ct, ex⟩ = wSs Rf G body r s ⟨nx, rt, bk, ct, catchX r.length c v w nx ex⟩ := by
  simp only [wS]
  congr 2
  funext c' s'
  unfold catchX
  by_cases e : c' = c
  · subst e
    simp [List.lookup_cons]
  · have e2 : (c' == c) = false := by simpa using e
    simp [List.lookup_cons, e2, e]
theorem catchX_t (n c v : Nat) (w : Str) : catchX n c v w nx ex c s = nx ((List.replicate n none).set v (some (.lv [.str w, .bl true]))) s := by
  unfold catchX
  rw [decide_eq_true rfl]
theorem s_pass : wS Rf G .pass r s ⟨nx, rt, bk, ct, ex⟩ = nx r s := by simp only [wS]
theorem s_brk : wS Rf G .brk r s ⟨nx, rt, bk, ct, ex⟩ = bk r s := by simp only [wS]
theorem s_cnt : wS Rf G .cnt r s ⟨nx, rt, bk, ct, ex⟩ = ct r s := by simp only [wS]
end
/-- what a def hands back -/
def back (Q : D → S → Prop) (d : D) (s1 : S) : Prop := ∃ s0, le s0 s1 ∧ Q d s0
def startR (d : Def) (args : List D) : Rho := args.map some ++ List.replicate (d.slots - d.np) none
/-- what a def lets out -/
def backX (X : XT) : XT := fun c s1 => ∃ s0, le s0 s1 ∧ X c s0
theorem run_s {P : List Def} {G : List D} {k f : Nat} {d : Def} {args : List D} {s : S} {Q : D → S → Prop} {X : XT} (h : P[f]? = some d) (hn : args.length = d.np)
    (q : wSs (RQ (run P G k)) G d.body (startR d args) s ⟨fun _ s1 => back Q .non s1, back Q, fun _ _ => False, fun _ _ => False, backX X⟩) : run P G (k + 1) X f args s Q := by
  simp only [run, h]
  exact ⟨hn, q⟩
/-- calls by numbers -/
theorem rq_lo {R : XT → RunT} {X : XT} {f : Nat} {args : List D} {s : S} {Q : D → S → Prop} (h : ¬ 1000 ≤ f) : RQ R X f args s Q = R X f args s Q := by unfold RQ; rw [if_neg h]
theorem rq_hi {R : XT → RunT} {X : XT} {f : Nat} {args : List D} {s : S} {Q : D → S → Prop} (h : 1000 ≤ f) : RQ R X f args s Q = R no (f - 1000) args s Q := by unfold RQ; rw [if_pos h]
theorem back_same {Q : D → S → Prop} {d : D} {s : S} (h : Q d s) : back Q d s := ⟨s, le_refl s, h⟩
theorem backX_same {X : XT} {c : Nat} {s : S} (h : X c s) : backX X c s := ⟨s, le_refl s, h⟩
theorem back_put {Q : D → S → Prop} {d : D} {s : S} {a : Nat} {o : Ob} (hs : s a = none) (h : Q d s) : back Q d (put s a o) := ⟨s, le_put hs, h⟩

/-! ### loops by what holds -/
section
variable {Rf : XT → RunT} {G : List D} {K : Kt}
/-- a for over a row of items: I of the items left, the slots, the state -/
theorem fr_by {t : T} {body : List St} {drops : List Nat} {chk : S → Prop} (I : List D → Rho → S → Prop)
    (h0 : ∀ r s, I [] r s → chk s ∧ wipeK r drops fun r' => K.nx r' s)
    (hs : ∀ d ds r s (nx : Rho → S → Prop), I (d :: ds) r s → (∀ r' s', I ds (wipe r' drops) s' → nx r' s') → chk s ∧ asgW t d r fun r1 => wSs Rf G body r1 s ⟨nx, K.rt, fun r2 s2 => wipeK r2 drops fun r' => K.nx r' s2, nx, K.ex⟩) :
    ∀ (ds : List D) (r : Rho) (s : S), I ds r s → frK Rf G t body drops chk ds r s K
  | [], r, s, h => h0 r s h
  | d :: ds, r, s, h => hs d ds r s _ h fun r' s' h' => fr_by I h0 hs ds (wipe r' drops) s' h'
/-- a while: I of the slots and the state, m falls -/
theorem wh_by {c : E} {body : List St} {drops : List Nat} (I : Rho → S → Prop) (m : Rho → S → Nat)
    (hs : ∀ r s (nx : Rho → S → Prop), I r s → (∀ r' s', I (wipe r' drops) s' → m (wipe r' drops) s' < m r s → nx r' s') → wB (Rf K.ex) G c r s fun k s1 => two k (wSs Rf G body r s1 ⟨nx, K.rt, fun r2 s2 => wipeK r2 drops fun r' => K.nx r' s2, nx, K.ex⟩) (wipeK r drops fun r' => K.nx r' s1)) :
    ∀ (n : Nat) (r : Rho) (s : S), I r s → m r s < n → whK Rf G c body drops n r s K
  | 0, _, _, _, h => absurd h (Nat.not_lt_zero _)
  | n + 1, r, s, h, hm => hs r s _ h fun r' s' h' hl => wh_by I m hs n (wipe r' drops) s' h' (by omega)
/-- a comprehension whose turns leave the state as it is -/
theorem lc_by {turn : D → S → (Option D → S → Prop) → Prop} {chk : S → Prop} {s : S} {Q : List D → S → Prop} (g : D → Option D) (hc : chk s) :
    ∀ (ds acc : List D), (∀ d ∈ ds, ∀ P : Option D → S → Prop, P (g d) s → turn d s P) → acc.length + ds.length ≤ SL → Q (acc ++ ds.filterMap g) s → lcW turn chk ds acc s Q
  | [], acc, _, _, h => by
    rw [List.filterMap_nil, List.append_nil] at h
    exact ⟨hc, h⟩
  | d :: ds, acc, ht, hl, h => by
    refine ⟨hc, ht d List.mem_cons_self _ ?_⟩
    have ht' := fun e he => ht e (List.mem_cons_of_mem _ he)
    rw [List.length_cons] at hl
    cases e : g d with
    | none =>
      rw [List.filterMap_cons_none e] at h
      exact lc_by g hc ds acc ht' (by omega) h
    | some x =>
      rw [List.filterMap_cons_some e] at h
      refine ⟨by omega, lc_by g hc ds (acc ++ [x]) ht' (by rw [List.length_append, List.length_singleton]; omega) ?_⟩
      rw [List.append_assoc]
      exact h
end
/-! ### bounds -/
/-- by size at most n -/
class Bd (x : Int) (n : outParam Nat) : Prop where
  le : x.natAbs ≤ n
instance bd_nat (n : Nat) : Bd (no_index (OfNat.ofNat n : Int)) n := ⟨by show (Int.ofNat n).natAbs ≤ n; exact Nat.le_refl n⟩
instance bd_cast (n : Nat) : Bd ((n : Nat) : Int) n := ⟨Nat.le_refl n⟩
instance bd_neg {x : Int} {n : Nat} [h : Bd x n] : Bd (-x) n := ⟨by rw [Int.natAbs_neg]; exact h.le⟩
instance bd_add {x y : Int} {n m : Nat} [h : Bd x n] [g : Bd y m] : Bd (x + y) (n + m) := ⟨Nat.le_trans (Int.natAbs_add_le x y) (Nat.add_le_add h.le g.le)⟩
instance bd_sub {x y : Int} {n m : Nat} [h : Bd x n] [g : Bd y m] : Bd (x - y) (n + m) := ⟨Nat.le_trans (Int.natAbs_sub_le x y) (Nat.add_le_add h.le g.le)⟩
instance bd_mul {x y : Int} {n m : Nat} [h : Bd x n] [g : Bd y m] : Bd (x * y) (n * m) := ⟨by rw [Int.natAbs_mul]; exact Nat.mul_le_mul h.le g.le⟩
theorem bd_of {x : Int} {n : Nat} (h1 : -(n : Int) ≤ x) (h2 : x ≤ n) : Bd x n := ⟨by omega⟩
theorem mul_r {i j : Int} (n : Nat) [h : Bd j n] (hn : n < 2 ^ 64) : MulOk i j := .inr (.inl (by have := h.le; omega))
theorem mul_l' {i j : Int} (n : Nat) [h : Bd i n] (hn : n < 2 ^ 64) : MulOk i j := .inl (by have := h.le; omega)
theorem mul_of {i j : Int} (h1 : -(2 ^ 64) < j) (h2 : j < 2 ^ 64) : MulOk i j := .inr (.inl ⟨h1, h2⟩)
/-! ### kinds -/
theorem any_bool_int : [Ty.int].any (isTy .bool) = true := (rfl)
theorem any_bool_bool : [Ty.bool].any (isTy .bool) = true := (rfl)
theorem any_bool_tuple : [Ty.tuple].any (isTy .bool) = false := (rfl)
theorem any_bool_list : [Ty.list].any (isTy .bool) = false := (rfl)
theorem any_bool_str : [Ty.str].any (isTy .bool) = false := (rfl)
theorem any_bool_list_tuple : [Ty.list, Ty.tuple].any (isTy .bool) = false := (rfl)
theorem any_bool_bool_str : [Ty.bool, Ty.str].any (isTy .bool) = true := (rfl)
theorem any_bool_int_str : [Ty.int, Ty.str].any (isTy .bool) = true := (rfl)
theorem any_bool_tuple_list : [Ty.tuple, Ty.list].any (isTy .bool) = false := (rfl)
theorem any_int_int : [Ty.int].any (isTy .int) = true := (rfl)
theorem any_int_bool : [Ty.bool].any (isTy .int) = false := (rfl)
theorem any_int_tuple : [Ty.tuple].any (isTy .int) = false := (rfl)
theorem any_int_list : [Ty.list].any (isTy .int) = false := (rfl)
theorem any_int_str : [Ty.str].any (isTy .int) = false := (rfl)
theorem any_int_list_tuple : [Ty.list, Ty.tuple].any (isTy .int) = false := (rfl)
theorem any_int_bool_str : [Ty.bool, Ty.str].any (isTy .int) = false := (rfl)
theorem any_int_int_str : [Ty.int, Ty.str].any (isTy .int) = true := (rfl)
theorem any_int_tuple_list : [Ty.tuple, Ty.list].any (isTy .int) = false := (rfl)
theorem any_str_int : [Ty.int].any (isTy .str) = false := (rfl)
theorem any_str_bool : [Ty.bool].any (isTy .str) = false := (rfl)
theorem any_str_tuple : [Ty.tuple].any (isTy .str) = false := (rfl)
theorem any_str_list : [Ty.list].any (isTy .str) = false := (rfl)
theorem any_str_str : [Ty.str].any (isTy .str) = true := (rfl)
theorem any_str_list_tuple : [Ty.list, Ty.tuple].any (isTy .str) = false := (rfl)
theorem any_str_bool_str : [Ty.bool, Ty.str].any (isTy .str) = true := (rfl)
theorem any_str_int_str : [Ty.int, Ty.str].any (isTy .str) = true := (rfl)
theorem any_str_tuple_list : [Ty.tuple, Ty.list].any (isTy .str) = false := (rfl)
theorem any_tuple_int : [Ty.int].any (isTy .tuple) = false := (rfl)
theorem any_tuple_bool : [Ty.bool].any (isTy .tuple) = false := (rfl)
theorem any_tuple_tuple : [Ty.tuple].any (isTy .tuple) = true := (rfl)
theorem any_tuple_list : [Ty.list].any (isTy .tuple) = false := (rfl)
theorem any_tuple_str : [Ty.str].any (isTy .tuple) = false := (rfl)
theorem any_tuple_list_tuple : [Ty.list, Ty.tuple].any (isTy .tuple) = true := (rfl)
theorem any_tuple_bool_str : [Ty.bool, Ty.str].any (isTy .tuple) = false := (rfl)
theorem any_tuple_int_str : [Ty.int, Ty.str].any (isTy .tuple) = false := (rfl)
theorem any_tuple_tuple_list : [Ty.tuple, Ty.list].any (isTy .tuple) = true := (rfl)
theorem any_list_int : [Ty.int].any (isTy .list) = false := (rfl)
theorem any_list_bool : [Ty.bool].any (isTy .list) = false := (rfl)
theorem any_list_tuple : [Ty.tuple].any (isTy .list) = false := (rfl)
theorem any_list_list : [Ty.list].any (isTy .list) = true := (rfl)
theorem any_list_str : [Ty.str].any (isTy .list) = false := (rfl)
theorem any_list_list_tuple : [Ty.list, Ty.tuple].any (isTy .list) = true := (rfl)
theorem any_list_bool_str : [Ty.bool, Ty.str].any (isTy .list) = false := (rfl)
theorem any_list_int_str : [Ty.int, Ty.str].any (isTy .list) = false := (rfl)
theorem any_list_tuple_list : [Ty.tuple, Ty.list].any (isTy .list) = true := (rfl)
/-! ### ranges as ints -/
def rngI (lo : Int) : Nat → List Int
  | 0 => []
  | n + 1 => lo :: rngI (lo + 1) n
theorem rngD_map : ∀ (n : Nat) (lo : Int), rngD lo n = (rngI lo n).map D.int
  | 0, _ => rfl
  | n + 1, lo => by rw [rngD, rngI, List.map_cons, rngD_map n]
theorem rngI_len : ∀ (n : Nat) (lo : Int), (rngI lo n).length = n
  | 0, _ => rfl
  | n + 1, lo => by rw [rngI, List.length_cons, rngI_len n]
theorem mem_rngI {x : Int} : ∀ (n : Nat) (lo : Int), x ∈ rngI lo n ↔ lo ≤ x ∧ x < lo + n
  | 0, lo => by simp [rngI]
  | n + 1, lo => by
    rw [rngI, List.mem_cons, mem_rngI n (lo + 1)]
    omega
theorem rngI_nodup : ∀ (n : Nat) (lo : Int), (rngI lo n).Nodup
  | 0, _ => List.nodup_nil
  | n + 1, lo => by
    rw [rngI, List.nodup_cons, mem_rngI]
    exact ⟨by omega, rngI_nodup n _⟩
section
variable {Rf : XT → RunT} {G : List D} {K : Kt} {α : Type}
/-- a for over a row of items that stand for plain ones -/
theorem fr_map {t : T} {body : List St} {drops : List Nat} {chk : S → Prop} (f : α → D) (I : List α → Rho → S → Prop)
    (h0 : ∀ r s, I [] r s → chk s ∧ wipeK r drops fun r' => K.nx r' s)
    (hs : ∀ d ds r s (nx : Rho → S → Prop), I (d :: ds) r s → (∀ r' s', I ds (wipe r' drops) s' → nx r' s') → chk s ∧ asgW t (f d) r fun r1 => wSs Rf G body r1 s ⟨nx, K.rt, fun r2 s2 => wipeK r2 drops fun r' => K.nx r' s2, nx, K.ex⟩) :
    ∀ (ds : List α) (r : Rho) (s : S), I ds r s → frK Rf G t body drops chk (ds.map f) r s K
  | [], r, s, h => h0 r s h
  | d :: ds, r, s, h => hs d ds r s _ h fun r' s' h' => fr_map f I h0 hs ds (wipe r' drops) s' h'
/-- a comprehension whose turns leave the state as it is -/
theorem lc_map {turn : D → S → (Option D → S → Prop) → Prop} {chk : S → Prop} {s : S} {Q : List D → S → Prop} (f : α → D) (g : α → Option D) (ds : List α) (hc : chk s)
    (ht : ∀ d ∈ ds, ∀ P : Option D → S → Prop, P (g d) s → turn (f d) s P) (hl : ds.length ≤ SL) (h : Q (ds.filterMap g) s) : lcW turn chk (ds.map f) [] s Q := by
  have go : ∀ (ds : List α) (acc : List D), (∀ d ∈ ds, ∀ P : Option D → S → Prop, P (g d) s → turn (f d) s P) → acc.length + ds.length ≤ SL → Q (acc ++ ds.filterMap g) s → lcW turn chk (ds.map f) acc s Q := by
    intro ds
    induction ds with
    | nil =>
      intro acc _ _ h
      rw [List.filterMap_nil, List.append_nil] at h
      exact ⟨hc, h⟩
    | cons d ds ih =>
      intro acc ht hl h
      refine ⟨hc, ht d List.mem_cons_self _ ?_⟩
      have ht' := fun e he => ht e (List.mem_cons_of_mem _ he)
      rw [List.length_cons] at hl
      cases e : g d with
      | none =>
        rw [List.filterMap_cons_none e] at h
        exact ih acc ht' (by omega) h
      | some x =>
        rw [List.filterMap_cons_some e] at h
        refine ⟨by omega, ih (acc ++ [x]) ht' (by rw [List.length_append, List.length_singleton]; omega) ?_⟩
        rw [List.append_assoc]
        exact h
  exact go ds [] ht (by simpa using hl) (by simpa using h)
/-- and each turn makes one item -/
theorem lc_all {turn : D → S → (Option D → S → Prop) → Prop} {chk : S → Prop} {s : S} {Q : List D → S → Prop} (f g : α → D) (ds : List α) (hc : chk s)
    (ht : ∀ d ∈ ds, ∀ P : Option D → S → Prop, P (some (g d)) s → turn (f d) s P) (hl : ds.length ≤ SL) (h : Q (ds.map g) s) : lcW turn chk (ds.map f) [] s Q :=
  lc_map f (fun d => some (g d)) ds hc ht hl (by rw [show ds.filterMap (fun d => some (g d)) = ds.map g from by induction ds with | nil => rfl | cons _ _ ih => simp]; exact h)
end
/-- a while, with what it works on beside -/
theorem wh_gh {Rf : XT → RunT} {G : List D} {K : Kt} {α : Type} {c : E} {body : List St} {drops : List Nat} (I : α → Rho → S → Prop) (m : α → Nat)
    (hs : ∀ a r s (nx : Rho → S → Prop), I a r s → (∀ b r' s', I b (wipe r' drops) s' → m b < m a → nx r' s') → wB (Rf K.ex) G c r s fun k s1 => two k (wSs Rf G body r s1 ⟨nx, K.rt, fun r2 s2 => wipeK r2 drops fun r' => K.nx r' s2, nx, K.ex⟩) (wipeK r drops fun r' => K.nx r' s1)) :
    ∀ (n : Nat) (a : α) (r : Rho) (s : S), I a r s → m a < n → whK Rf G c body drops n r s K
  | 0, _, _, _, _, h => absurd h (Nat.not_lt_zero _)
  | n + 1, a, r, s, h, hm => hs a r s _ h fun b r' s' h' hl => wh_gh I m hs n b (wipe r' drops) s' h' (by omega)
section
variable {s : S} {Q : D → S → Prop} {P : Bool → S → Prop} {R : RunT} {G : List D}
theorem put_self {a : Nat} {o : Ob} (h : s a = some o) : put s a o = s := by
  funext b; unfold put; split
  · next e => rw [e, h]
  · rfl
theorem sub_p {a : Nat} {ds : List D} (k : Int) : subW (.ref a) (.int k) (put s a (.lst ds)) Q = atW (atI ds k) (put s a (.lst ds)) Q := sub_r k (put_at s a _)
theorem len_p (m : Bool) {a : Nat} {ds : List D} : biW .len m [.ref a] (put s a (.lst ds)) Q = Q (.int ds.length) (put s a (.lst ds)) := len_r m (put_at s a _)
theorem tup_p (m : Bool) {a : Nat} {ds : List D} : biW .tuple m [.ref a] (put s a (.lst ds)) Q = Q (.tup ds) (put s a (.lst ds)) := by
  unfold biW; simp only [items, view, put_at]
theorem asPairs_mapX (l : List (Int × Int)) : asPairs (l.map pairD) = some l := by
  induction l with
  | nil => rfl
  | cons q l ih => rw [List.map_cons]; simp only [asPairs, ih, Option.map_some]
theorem sor_l (m : Bool) (ps : List (Int × Int)) : biW .sorted m [.lv (ps.map pairD)] s Q = ∀ qs : List (Int × Int), qs.Perm ps → qs.Pairwise leP → newL m (qs.map pairD) s Q := by
  unfold biW
  simp only [view, Option.bind_some, asPairs_mapX]
theorem isi_p (ts : List Ty) {a : Nat} {ds : List D} : isiW (.ref a) ts (put s a (.lst ds)) Q = Q (.bl (ts.any (isTy .list))) (put s a (.lst ds)) := isi_r ts (put_at s a _)
theorem tru_p {a : Nat} {ds : List D} : truW (.ref a) (put s a (.lst ds)) P = P (!ds.isEmpty) (put s a (.lst ds)) := by
  unfold truW; simp only [view, put_at]
theorem sto3_0 {a : Nat} (x p q r : D) (P : S → Prop) : stoW (.ref a) (.int 0) x (put s a (.lst [p, q, r])) P = P (put s a (.lst [x, q, r])) := sto_p 0 x P (j := 0) rfl
theorem sto3_1 {a : Nat} (x p q r : D) (P : S → Prop) : stoW (.ref a) (.int 1) x (put s a (.lst [p, q, r])) P = P (put s a (.lst [p, x, r])) := sto_p 1 x P (j := 1) rfl
theorem sto3_2 {a : Nat} (x p q r : D) (P : S → Prop) : stoW (.ref a) (.int 2) x (put s a (.lst [p, q, r])) P = P (put s a (.lst [p, q, x])) := sto_p 2 x P (j := 2) rfl
theorem slc_s (m : Bool) (ns : List Int) (lo hi : Option Int) : slcW m (.scr ns) lo hi s Q = newL m ((cut ns lo hi).map D.int) s Q := (rfl)
theorem slc_t (m : Bool) (ds : List D) (lo hi : Option Int) : slcW m (.tup ds) lo hi s Q = Q (.tup (cut ds lo hi)) s := (rfl)
theorem slc_l (m : Bool) (ds : List D) (lo hi : Option Int) : slcW m (.lv ds) lo hi s Q = newL m (cut ds lo hi) s Q := (rfl)
def lcO (turn : D → S → (Option D → S → Prop) → Prop) (chk : S → Prop) (ds acc : List D) (Q : List D → S → Prop) (o : Option D) (s : S) : Prop := match o with
  | some x => acc.length < SL ∧ lcW turn chk ds (acc ++ [x]) s Q
  | none => lcW turn chk ds acc s Q
theorem lc_n (turn : D → S → (Option D → S → Prop) → Prop) (chk : S → Prop) (acc : List D) (Q : List D → S → Prop) : lcW turn chk [] acc s Q = (chk s ∧ Q acc s) := (rfl)
theorem lc_c (turn : D → S → (Option D → S → Prop) → Prop) (chk : S → Prop) (d : D) (ds acc : List D) (Q : List D → S → Prop) : lcW turn chk (d :: ds) acc s Q = (chk s ∧ turn d s (lcO turn chk ds acc Q)) := (rfl)
theorem lcO_s (turn : D → S → (Option D → S → Prop) → Prop) (chk : S → Prop) (ds acc : List D) (Q : List D → S → Prop) (x : D) : lcO turn chk ds acc Q (some x) s = (acc.length < SL ∧ lcW turn chk ds (acc ++ [x]) s Q) := (rfl)
theorem lcO_n (turn : D → S → (Option D → S → Prop) → Prop) (chk : S → Prop) (ds acc : List D) (Q : List D → S → Prop) : lcO turn chk ds acc Q none s = lcW turn chk ds acc s Q := (rfl)
end
instance bd_mod (x : Int) (n : Nat) [h : NeZero n] : Bd (x % (no_index (OfNat.ofNat n : Int))) n := ⟨by
  have e : (OfNat.ofNat n : Int) = (n : Int) := (rfl)
  rw [e]
  have h0 : (n : Int) ≠ 0 := by have := h.ne; omega
  have h1 := Int.emod_nonneg x h0
  have h2 := Int.emod_lt_of_pos x (b := (n : Int)) (by omega)
  omega⟩
theorem mulOk_l {i j : Int} {n : Nat} [h : Bd i n] (hn : n < 18446744073709551616) : MulOk i j = True := eq_true (mul_l' n hn)
theorem mulOk_r {i j : Int} {n : Nat} [h : Bd j n] (hn : n < 18446744073709551616) : MulOk i j = True := eq_true (mul_r n hn)
section
variable {s : S} {Q : D → S → Prop}
theorem dispW_n (K : List (Int × D) → Prop) : dispW [] K = K [] := by simp [dispW, pairUp, intKeys]
end
end IR

set_option linter.all false
set_option maxRecDepth 100000
/-! EC0: curves over a prime's residues, in plain ints. -/
namespace EC
open IR (rngI rngI_len mem_rngI rngI_nodup)
structure Cv where
  a1 : Int
  a2 : Int
  a3 : Int
  a4 : Int
  a6 : Int
abbrev Pt := Option (Int × Int)
def stands (A : Cv) (p x y : Int) : Bool := decide ((y * y + A.a1 * x * y + A.a3 * y - x * x * x - A.a2 * x * x - A.a4 * x - A.a6) % p = 0)
def slantA (A : Cv) (x y : Int) : Int := A.a1 * y - 3 * x * x - 2 * A.a2 * x - A.a4
def slantB (A : Cv) (x y : Int) : Int := 2 * y + A.a1 * x + A.a3
def sharp (A : Cv) (p x y : Int) : Bool := decide (slantA A x y % p = 0) && decide (slantB A x y % p = 0)
def found (A : Cv) (p : Int) : List (Int × Int) := (rngI 0 p.toNat).flatMap fun x => ((rngI 0 p.toNat).filter (stands A p x)).map fun y => (x, y)
def pts (A : Cv) (p : Int) : List Pt := none :: ((found A p).filter fun q => !sharp A p q.1 q.2).map some
def b2 (A : Cv) : Int := A.a1 * A.a1 + 4 * A.a2
def b4 (A : Cv) : Int := 2 * A.a4 + A.a1 * A.a3
def b6 (A : Cv) : Int := A.a3 * A.a3 + 4 * A.a6
def b8 (A : Cv) : Int := A.a1 * A.a1 * A.a6 + 4 * A.a2 * A.a6 - A.a1 * A.a3 * A.a4 + A.a2 * A.a3 * A.a3 - A.a4 * A.a4
def disc (A : Cv) : Int := 9 * b2 A * b4 A * b6 A - b2 A * b2 A * b8 A - 8 * b4 A * b4 A * b4 A - 27 * b6 A * b6 A
def contr (A : Cv) (p : Int) : Pt → Pt
  | none => none
  | some (x, y) => some (x, (-y - A.a1 * x - A.a3) % p)
def chord (A : Cv) (p x1 y1 x2 s : Int) : Pt :=
  let x := (s * s + A.a1 * s - A.a2 - x1 - x2) % p
  contr A p (some (x, (y1 + s * (x - x1)) % p))
/-- the residue that times u leaves 1 -/
def ivS (p u : Int) : Int := ((rngI 1 (p - 1).toNat).filter fun k => decide (k * u % p = 1)).headD 0
def slope (A : Cv) (p : Int) (iv : Int → Int) (x1 y1 x2 y2 : Int) : Int :=
  if x1 = x2 then ((-slantA A x1 y1) % p * iv (slantB A x1 y1 % p)) % p else ((y2 - y1) % p * iv ((x2 - x1) % p)) % p
def sm (A : Cv) (p : Int) (iv : Int → Int) : Pt → Pt → Pt
  | none, Q => Q
  | some P, none => some P
  | some (x1, y1), some (x2, y2) =>
    if x1 = x2 ∧ y2 = (-y1 - A.a1 * x1 - A.a3) % p then none
    else chord A p x1 y1 x2 (slope A p iv x1 y1 x2 y2)
/-- so often -/
def often (f : Pt → Pt → Pt) (P : Pt) : Nat → Pt
  | 0 => none
  | n + 1 => f (often f P n) P
/-- a group, as far as the laws ask: addition stays in, is associative and commutative, nothing added changes nothing, and each has its contrary -/
structure Gp (A : Cv) (p : Int) : Prop where
  cl : ∀ P Q, P ∈ pts A p → Q ∈ pts A p → sm A p (ivS p) P Q ∈ pts A p
  as : ∀ P Q R, P ∈ pts A p → Q ∈ pts A p → R ∈ pts A p → sm A p (ivS p) (sm A p (ivS p) P Q) R = sm A p (ivS p) P (sm A p (ivS p) Q R)
  cm : ∀ P Q, P ∈ pts A p → Q ∈ pts A p → sm A p (ivS p) P Q = sm A p (ivS p) Q P
  cc : ∀ P, P ∈ pts A p → contr A p P ∈ pts A p
  cz : ∀ P, P ∈ pts A p → sm A p (ivS p) P (contr A p P) = none
/-- a prime of the laws: residues other than 0 have inverses -/
def Pm (p : Int) : Prop := 2 ≤ p ∧ p ≤ 97 ∧ ∀ u, u % p ≠ 0 → ivS p (u % p) * (u % p) % p = 1 ∧ 1 ≤ ivS p (u % p) ∧ ivS p (u % p) < p
end EC

set_option linter.all false
set_option maxRecDepth 100000
/-! EC1: plain facts of curves and of their groups. -/
namespace EC
open IR (rngI rngI_len mem_rngI rngI_nodup)
theorem mem_pts {A : Cv} {p x y : Int} : some (x, y) ∈ pts A p ↔ (0 ≤ x ∧ x < p) ∧ (0 ≤ y ∧ y < p) ∧ stands A p x y = true ∧ sharp A p x y = false := by
  unfold pts found
  simp only [List.mem_cons, reduceCtorEq, false_or, List.mem_map, List.mem_filter, List.mem_flatMap, mem_rngI, Option.some.injEq]
  constructor
  · rintro ⟨⟨a, b⟩, ⟨⟨x', hx, y', ⟨hy, hs⟩, e⟩, hh⟩, e2⟩
    cases e
    cases e2
    refine ⟨by omega, by omega, hs, by simpa using hh⟩
  · rintro ⟨hx, hy, hs, hh⟩
    exact ⟨(x, y), ⟨⟨x, by omega, y, ⟨by omega, hs⟩, rfl⟩, by simp [hh]⟩, rfl⟩
theorem none_pts {A : Cv} {p : Int} : none ∈ pts A p := by unfold pts; exact List.mem_cons_self
theorem dv {a p : Int} : a % p = 0 ↔ ∃ k, a = p * k := ⟨fun h => ⟨a / p, by have := Int.mul_ediv_add_emod a p; omega⟩, fun ⟨k, h⟩ => by rw [h, Int.mul_emod_right]⟩
/-- no divisors of nothing -/
theorem Pm.zero {p : Int} (h : Pm p) {a b : Int} (e : a * b % p = 0) : a % p = 0 ∨ b % p = 0 := by
  by_cases c : b % p = 0
  · exact .inr c
  · left
    obtain ⟨i1, _, _⟩ := h.2.2 b c
    obtain ⟨k, hk⟩ := dv.1 e
    generalize ivS p (b % p) = v at i1
    have e1 : v * (b % p) = p * (v * (b % p) / p) + 1 := by
      have := Int.mul_ediv_add_emod (v * (b % p)) p
      omega
    have e2 : b = p * (b / p) + b % p := by
      have := Int.mul_ediv_add_emod b p
      omega
    generalize v * (b % p) / p = m at e1
    generalize b / p = n at e2
    generalize b % p = r at e1 e2
    rw [dv]
    refine ⟨v * k - a * v * n - a * m, ?_⟩
    subst e2
    grind
theorem two_ys {A : Cv} {p x y z : Int} (h : Pm p) (hy : 0 ≤ y ∧ y < p) (hz : 0 ≤ z ∧ z < p) (sy : stands A p x y = true) (sz : stands A p x z = true) : z = y ∨ z = (-y - A.a1 * x - A.a3) % p := by
  unfold stands at sy sz
  rw [decide_eq_true_eq] at sy sz
  obtain ⟨k, hk⟩ := dv.1 sy
  obtain ⟨l, hl⟩ := dv.1 sz
  have : (z - y) * (z - (-y - A.a1 * x - A.a3)) % p = 0 := by
    rw [dv]
    exact ⟨l - k, by grind⟩
  rcases h.zero this with e | e
  · left
    have := Int.emod_emod_of_dvd
    rw [← Int.emod_eq_emod_iff_emod_sub_eq_zero, Int.emod_eq_of_lt hz.1 hz.2, Int.emod_eq_of_lt hy.1 hy.2] at e
    exact e
  · right
    rw [← Int.emod_eq_emod_iff_emod_sub_eq_zero, Int.emod_eq_of_lt hz.1 hz.2] at e
    exact e
theorem share_iff {p u v o k : Int} (hv : v * u % p = 1) (hk : 0 ≤ k ∧ k < p) : (k * u - o) % p = 0 ↔ k = o * v % p := by
  have e1 : v * u = p * (v * u / p) + 1 := by
    have := Int.mul_ediv_add_emod (v * u) p
    omega
  generalize v * u / p = m at e1
  constructor
  · intro h
    obtain ⟨j, hj⟩ := dv.1 h
    have : (k - o * v) % p = 0 := by
      rw [dv]
      exact ⟨j * v - k * m, by grind⟩
    rw [← Int.emod_eq_emod_iff_emod_sub_eq_zero, Int.emod_eq_of_lt hk.1 hk.2] at this
    exact this
  · intro h
    have e2 : o * v = p * (o * v / p) + k := by
      have := Int.mul_ediv_add_emod (o * v) p
      omega
    rw [dv]
    generalize o * v / p = n at e2
    exact ⟨o * m - n * u, by grind⟩
theorem emod_congr {p a b : Int} (h : ∃ k, a - b = p * k) : a % p = b % p := Int.emod_eq_emod_iff_emod_sub_eq_zero.2 (dv.2 h)
/-- the contrary of what stands, stands -/
theorem stands_contr {A : Cv} {p x y : Int} : stands A p x ((-y - A.a1 * x - A.a3) % p) = stands A p x y := by
  unfold stands
  congr 2
  apply emod_congr
  have e := Int.mul_ediv_add_emod (-y - A.a1 * x - A.a3) p
  generalize (-y - A.a1 * x - A.a3) / p = m at e
  generalize (-y - A.a1 * x - A.a3) % p = z at e
  exact ⟨m * (y - z), by grind⟩
theorem sm_s (A : Cv) (p : Int) (iv : Int → Int) (x1 y1 x2 y2 : Int) : sm A p iv (some (x1, y1)) (some (x2, y2)) = if x1 = x2 ∧ y2 = (-y1 - A.a1 * x1 - A.a3) % p then none else chord A p x1 y1 x2 (slope A p iv x1 y1 x2 y2) := rfl
section
variable {A : Cv} {p : Int}
abbrev Gp.f (_ : Gp A p) : Pt → Pt → Pt := sm A p (ivS p)
theorem sm_z (P : Pt) : sm A p (ivS p) P none = P := by cases P <;> rfl
theorem z_sm (P : Pt) : sm A p (ivS p) none P = P := rfl
theorem Gp.of_mem (g : Gp A p) {P : Pt} (h : P ∈ pts A p) : ∀ n, often (sm A p (ivS p)) P n ∈ pts A p
  | 0 => none_pts
  | n + 1 => g.cl _ _ (g.of_mem h n) h
theorem Gp.of_add (g : Gp A p) {P : Pt} (h : P ∈ pts A p) (m : Nat) : ∀ n, often (sm A p (ivS p)) P (m + n) = sm A p (ivS p) (often (sm A p (ivS p)) P m) (often (sm A p (ivS p)) P n)
  | 0 => (sm_z _).symm
  | n + 1 => by
    show sm A p (ivS p) (often (sm A p (ivS p)) P (m + n)) P = _
    rw [g.of_add h m n, g.as _ _ _ (g.of_mem h m) (g.of_mem h n) h]
    rfl
theorem Gp.of_dbl (g : Gp A p) {P : Pt} (h : P ∈ pts A p) : ∀ n, often (sm A p (ivS p)) (sm A p (ivS p) P P) n = often (sm A p (ivS p)) P (2 * n)
  | 0 => rfl
  | n + 1 => by
    show sm A p (ivS p) (often (sm A p (ivS p)) (sm A p (ivS p) P P) n) (sm A p (ivS p) P P) = _
    rw [g.of_dbl h n, show 2 * (n + 1) = 2 * n + 1 + 1 by omega, ← g.as _ _ _ (g.of_mem h _) h h]
    rfl
theorem Gp.can (g : Gp A p) {P Q R : Pt} (hP : P ∈ pts A p) (hQ : Q ∈ pts A p) (hR : R ∈ pts A p) (e : sm A p (ivS p) P Q = sm A p (ivS p) P R) : Q = R := by
  have hc := g.cc P hP
  have e1 : sm A p (ivS p) (contr A p P) (sm A p (ivS p) P Q) = sm A p (ivS p) (contr A p P) (sm A p (ivS p) P R) := by rw [e]
  rw [← g.as _ _ _ hc hP hQ, ← g.as _ _ _ hc hP hR, g.cm _ _ hc hP, g.cz P hP] at e1
  exact e1
theorem Gp.step (g : Gp A p) {f h : Pt} (hf : f ∈ pts A p) (hh : h ∈ pts A p) (m : Nat) : sm A p (ivS p) (if m % 2 = 1 then sm A p (ivS p) f h else f) (often (sm A p (ivS p)) (sm A p (ivS p) h h) (m / 2)) = sm A p (ivS p) f (often (sm A p (ivS p)) h m) := by
  rw [g.of_dbl hh]
  split
  · next c =>
    rw [g.as _ _ _ hf hh (g.of_mem hh _), g.cm h _ hh (g.of_mem hh _)]
    have e : m = 2 * (m / 2) + 1 := by omega
    have e2 : sm A p (ivS p) (often (sm A p (ivS p)) h (2 * (m / 2))) h = often (sm A p (ivS p)) h (2 * (m / 2) + 1) := rfl
    rw [e2, ← e]
  · next c =>
    have e : 2 * (m / 2) = m := by omega
    rw [e]
/-- so often, backwards too -/
def zt (A : Cv) (p : Int) (P : Pt) (n : Int) : Pt := often (sm A p (ivS p)) (if 0 ≤ n then P else contr A p P) n.natAbs
theorem Gp.zt_mem (g : Gp A p) {P : Pt} (h : P ∈ pts A p) (n : Int) : zt A p P n ∈ pts A p := by
  unfold zt
  split
  · exact g.of_mem h _
  · exact g.of_mem (g.cc _ h) _
theorem zt_nat (P : Pt) (n : Nat) : zt A p P n = often (sm A p (ivS p)) P n := by
  unfold zt
  rw [if_pos (Int.natCast_nonneg n), Int.natAbs_natCast]
theorem zt_m1 (P : Pt) : zt A p P (-1) = contr A p P := by
  unfold zt
  rw [if_neg (by decide)]
  rfl
theorem zt_neg (P : Pt) (n : Nat) : zt A p P (0 - n) = zt A p (contr A p P) n := by
  rw [zt_nat]
  unfold zt
  cases n with
  | zero => rfl
  | succ n =>
    rw [if_neg (by omega), show (0 - ((n + 1 : Nat) : Int)).natAbs = n + 1 by omega]
theorem Gp.of_mul (g : Gp A p) {P : Pt} (h : P ∈ pts A p) {N : Nat} (hN : often (sm A p (ivS p)) P N = none) (r : Nat) : ∀ q, often (sm A p (ivS p)) P (r + N * q) = often (sm A p (ivS p)) P r
  | 0 => rfl
  | q + 1 => by
    rw [show r + N * (q + 1) = (r + N * q) + N by rw [Nat.mul_add]; omega, g.of_add h, hN, sm_z, g.of_mul h hN r q]
end
end EC

set_option linter.all false
set_option maxRecDepth 100000
/-! K71_Defs: the defs of the linked text in the small language, printed by genx.py. -/
namespace K71
open IR PySem
abbrev f_is_number : Nat := 0
def d_is_number : Def := ⟨1, 1, [.ret (.and (.isi (.var 0) [.int] false) (.not (.isi (.var 0) [.bool] false)))]⟩
abbrev f_is_within : Nat := 1
def d_is_within : Def := ⟨3, 3, [.ret (.and (.call false 0 [.var 0]) (.chain .le .le (.var 1) (.var 0) (.var 2)))]⟩
abbrev f_are_numbers : Nat := 2
def d_are_numbers : Def := ⟨1, 2, [.ret (.and (.isi (.var 0) [.tuple] false) (.bi .all false [.lc false [1] (.call false 1000 [.var 1]) (.nm 1) (.seq (.var 0)) none]))]⟩
abbrev f_tupled : Nat := 3
def d_tupled : Def := ⟨1, 2, [.ret (.ite (.isi (.var 0) [.list, .tuple] true) (.bi .tuple false [.lc false [1] (.call false 1003 [.var 1]) (.nm 1) (.seq (.var 0)) none]) (.var 0))]⟩
abbrev f_in_bounds : Nat := 4
def d_in_bounds : Def := ⟨1, 4, [.par [1, 2] [.lst true [.var 0], .int 0],
    .whl (.cmp .lt (.var 2) (.bi .len false [.var 1])) [.asg (.nm 3) (.sub (.var 1) (.var 2)),
    .aug 2 .add (.int 1),
    .ife (.isi (.var 3) [.tuple] false) [.exp (.ext (.var 1) (.var 3))] [.ife (.and (.call false 0 [.var 3]) (.cmp .gt (.bi .abs false [.var 3]) (.glob 0))) [.ret (.bl false)] []]] [3],
    .ret (.bl true)]⟩
abbrev f_sure_within : Nat := 5
def d_sure_within : Def := ⟨3, 3, [.ife (.not (.call false 1 [.var 0, .var 1, .var 2])) [.rse 1] [],
    .ret (.var 0)]⟩
abbrev f_common : Nat := 6
def d_common : Def := ⟨2, 2, [.par [0, 1] [.bi .abs false [.var 0], .bi .abs false [.var 1]],
    .whl (.cmp .ne (.var 1) (.int 0)) [.par [0, 1] [.var 1, .bin false .mod (.var 0) (.var 1)]] [],
    .ret (.var 0)]⟩
abbrev f_cut_down : Nat := 7
def d_cut_down : Def := ⟨2, 3, [.asg (.nm 2) (.call false 6 [.var 0, .var 1]),
    .asg (.nm 2) (.ite (.cmp .gt (.var 1) (.int 0)) (.var 2) (.neg (.var 2))),
    .ret (.tup [.bin false .fdiv (.var 0) (.var 2), .bin false .fdiv (.var 1) (.var 2)])]⟩
abbrev f_whole : Nat := 8
def d_whole : Def := ⟨1, 1, [.ret (.tup [.var 0, .int 1])]⟩
abbrev f_added : Nat := 9
def d_added : Def := ⟨2, 2, [.ife (.and (.cmp .eq (.sub (.var 0) (.int 1)) (.int 1)) (.cmp .eq (.sub (.var 1) (.int 1)) (.int 1))) [.ret (.tup [.bin false .add (.sub (.var 0) (.int 0)) (.sub (.var 1) (.int 0)), .int 1])] [],
    .ret (.call false 7 [.bin false .add (.bin false .mul (.sub (.var 0) (.int 0)) (.sub (.var 1) (.int 1))) (.bin false .mul (.sub (.var 1) (.int 0)) (.sub (.var 0) (.int 1))), .bin false .mul (.sub (.var 0) (.int 1)) (.sub (.var 1) (.int 1))])]⟩
abbrev f_taken : Nat := 10
def d_taken : Def := ⟨2, 2, [.ret (.call false 9 [.var 0, .tup [.neg (.sub (.var 1) (.int 0)), .sub (.var 1) (.int 1)]])]⟩
abbrev f_times : Nat := 11
def d_times : Def := ⟨2, 2, [.ife (.and (.cmp .eq (.sub (.var 0) (.int 1)) (.int 1)) (.cmp .eq (.sub (.var 1) (.int 1)) (.int 1))) [.ret (.tup [.bin false .mul (.sub (.var 0) (.int 0)) (.sub (.var 1) (.int 0)), .int 1])] [],
    .ret (.call false 7 [.bin false .mul (.sub (.var 0) (.int 0)) (.sub (.var 1) (.int 0)), .bin false .mul (.sub (.var 0) (.int 1)) (.sub (.var 1) (.int 1))])]⟩
abbrev f_over : Nat := 12
def d_over : Def := ⟨2, 2, [.ret (.call false 7 [.bin false .mul (.sub (.var 0) (.int 0)) (.sub (.var 1) (.int 1)), .bin false .mul (.sub (.var 0) (.int 1)) (.sub (.var 1) (.int 0))])]⟩
abbrev f_is_prime : Nat := 13
def d_is_prime : Def := ⟨2, 3, [.ret (.and (.call false 1 [.var 0, .int 2, .var 1]) (.bi .all false [.lc false [2] (.cmp .ne (.bin false .mod (.var 0) (.var 2)) (.int 0)) (.nm 2) (.rng2 (.int 2) (.var 0)) (some (.cmp .le (.bin false .mul (.var 2) (.var 2)) (.var 0)))]))]⟩
abbrev f_is_plain_row : Nat := 14
def d_is_plain_row : Def := ⟨1, 1, [.ret (.and (.call false 2 [.var 0]) (.chain .le .le (.int 1) (.bi .len false [.var 0]) (.glob 1)))]⟩
abbrev f_sure_plain_row : Nat := 15
def d_sure_plain_row : Def := ⟨1, 2, [.asg (.nm 1) (.call false 3 [.var 0]),
    .ife (.or (.not (.call false 14 [.var 1])) (.not (.call false 4 [.var 1]))) [.rse 1] [],
    .ret (.var 1)]⟩
abbrev f_divisors_in : Nat := 16
def d_divisors_in : Def := ⟨1, 2, [.ret (.lc false [1] (.var 1) (.nm 1) (.rng2 (.int 1) (.bin false .add (.var 0) (.int 1))) (some (.cmp .eq (.bin false .mod (.var 0) (.var 1)) (.int 0))))]⟩
abbrev f_primes_in : Nat := 17
def d_primes_in : Def := ⟨1, 4, [.par [1, 2] [.lst true [], .var 0],
    .fr (.nm 3) (.rng2 (.int 2) (.bin false .add (.var 0) (.int 1))) [.ife (.cmp .eq (.bin false .mod (.var 2) (.var 3)) (.int 0)) [.exp (.app (.var 1) (.var 3)),
    .whl (.cmp .eq (.bin false .mod (.var 2) (.var 3)) (.int 0)) [.aug 2 .fdiv (.var 3)] []] []] [3],
    .ret (.var 1)]⟩
abbrev f_power_in : Nat := 18
def d_power_in : Def := ⟨2, 3, [.asg (.nm 2) (.int 1),
    .whl (.cmp .eq (.bin false .mod (.var 0) (.bin false .mul (.var 2) (.var 1))) (.int 0)) [.aug 2 .mul (.var 1)] [],
    .ret (.var 2)]⟩
abbrev f_is_broken_at : Nat := 19
def d_is_broken_at : Def := ⟨3, 3, [.ret (.cmp .ne (.bin false .mod (.bin false .sub (.sub (.var 0) (.bin false .sub (.var 1) (.int 1))) (.sub (.var 0) (.bin false .sub (.bin false .fdiv (.var 1) (.var 2)) (.int 1)))) (.call false 18 [.var 1, .var 2])) (.int 0))]⟩
abbrev f_broken_in : Nat := 20
def d_broken_in : Def := ⟨1, 3, [.fr (.nm 1) (.rng2 (.int 2) (.bin false .add (.bi .len false [.var 0]) (.int 1))) [.fr (.nm 2) (.seq (.call false 17 [.var 1])) [.ife (.call false 19 [.var 0, .var 1, .var 2]) [.ret (.tup [.var 1, .var 2])] []] [2]] [1, 2],
    .ret .non]⟩
abbrev f_frees_in : Nat := 21
def d_frees_in : Def := ⟨1, 6, [.asg (.nm 1) (.lst true []),
    .fr (.tp [.nm 2, .nm 3]) (.enum (.var 0) (some 1)) [.asg (.nm 4) (.call false 8 [.var 3]),
    .fr (.nm 5) (.seq (.slc false (.call false 16 [.var 2]) none (some (.neg (.int 1))))) [.asg (.nm 4) (.call false 10 [.var 4, .call false 11 [.call false 8 [.var 5], .sub (.var 1) (.bin false .sub (.var 5) (.int 1))]])] [5],
    .exp (.app (.var 1) (.call false 12 [.var 4, .call false 8 [.var 2]]))] [2, 3, 4, 5],
    .ret (.bi .tuple false [.var 1])]⟩
abbrev f_broken_place : Nat := 22
def d_broken_place : Def := ⟨1, 1, [.ret (.call false 20 [.call false 15 [.var 0]])]⟩
abbrev f_frees_of : Nat := 23
def d_frees_of : Def := ⟨1, 1, [.ret (.call false 21 [.call false 15 [.var 0]])]⟩
abbrev f_b_numbers : Nat := 24
def d_b_numbers : Def := ⟨1, 7, [.asg (.tp [.nm 1, .nm 2, .nm 3, .nm 4, .nm 5]) (.var 0),
    .asg (.nm 6) (.bin false .sub (.bin false .add (.bin false .sub (.bin false .add (.bin false .mul (.bin false .mul (.var 1) (.var 1)) (.var 5)) (.bin false .mul (.bin false .mul (.int 4) (.var 2)) (.var 5))) (.bin false .mul (.bin false .mul (.var 1) (.var 3)) (.var 4))) (.bin false .mul (.bin false .mul (.var 2) (.var 3)) (.var 3))) (.bin false .mul (.var 4) (.var 4))),
    .ret (.tup [.bin false .add (.bin false .mul (.var 1) (.var 1)) (.bin false .mul (.int 4) (.var 2)), .bin false .add (.bin false .mul (.int 2) (.var 4)) (.bin false .mul (.var 1) (.var 3)), .bin false .add (.bin false .mul (.var 3) (.var 3)) (.bin false .mul (.int 4) (.var 5)), .var 6])]⟩
abbrev f_discriminant_in : Nat := 25
def d_discriminant_in : Def := ⟨1, 5, [.asg (.tp [.nm 1, .nm 2, .nm 3, .nm 4]) (.call false 24 [.var 0]),
    .ret (.bin false .sub (.bin false .sub (.bin false .sub (.bin false .mul (.bin false .mul (.bin false .mul (.int 9) (.var 1)) (.var 2)) (.var 3)) (.bin false .mul (.bin false .mul (.var 1) (.var 1)) (.var 4))) (.bin false .mul (.bin false .mul (.bin false .mul (.int 8) (.var 2)) (.var 2)) (.var 2))) (.bin false .mul (.bin false .mul (.int 27) (.var 3)) (.var 3)))]⟩
abbrev f_is_curve : Nat := 26
def d_is_curve : Def := ⟨1, 1, [.ret (.and (.call false 2 [.var 0]) (.and (.cmp .eq (.bi .len false [.var 0]) (.int 5)) (.cmp .ne (.call false 25 [.var 0]) (.int 0))))]⟩
abbrev f_sure_curve : Nat := 27
def d_sure_curve : Def := ⟨1, 3, [.asg (.nm 1) (.call false 3 [.var 0]),
    .ife (.or (.not (.call false 26 [.var 1])) (.bi .any false [.lc false [2] (.cmp .gt (.bi .abs false [.var 2]) (.glob 2)) (.nm 2) (.seq (.var 1)) none])) [.rse 1] [],
    .ret (.var 1)]⟩
abbrev f_sure_curve_prime : Nat := 28
def d_sure_curve_prime : Def := ⟨1, 1, [.ife (.not (.call false 13 [.var 0, .glob 3])) [.rse 1] [],
    .ret (.var 0)]⟩
abbrev f_curve_numbers : Nat := 29
def d_curve_numbers : Def := ⟨1, 8, [.asg (.nm 1) (.call false 27 [.var 0]),
    .asg (.tp [.nm 2, .nm 3, .nm 4, .nm 5]) (.call false 24 [.var 1]),
    .par [6, 7] [.bin false .sub (.bin false .mul (.var 2) (.var 2)) (.bin false .mul (.int 24) (.var 3)), .bin false .sub (.bin false .sub (.bin false .mul (.bin false .mul (.int 36) (.var 2)) (.var 3)) (.bin false .mul (.bin false .mul (.var 2) (.var 2)) (.var 2))) (.bin false .mul (.int 216) (.var 4))],
    .ret (.tup [.var 2, .var 3, .var 4, .var 5, .var 6, .var 7, .call false 25 [.var 1]])]⟩
abbrev f_slants_at : Nat := 30
def d_slants_at : Def := ⟨2, 9, [.asg (.tp [.nm 2, .nm 3, .nm 4, .nm 5, .nm 6]) (.var 0),
    .asg (.tp [.nm 7, .nm 8]) (.var 1),
    .ret (.tup [.bin false .sub (.bin false .sub (.bin false .sub (.bin false .mul (.var 2) (.var 8)) (.bin false .mul (.bin false .mul (.int 3) (.var 7)) (.var 7))) (.bin false .mul (.bin false .mul (.int 2) (.var 3)) (.var 7))) (.var 5), .bin false .add (.bin false .add (.bin false .mul (.int 2) (.var 8)) (.bin false .mul (.var 2) (.var 7))) (.var 4)])]⟩
abbrev f_stands_on : Nat := 31
def d_stands_on : Def := ⟨3, 10, [.asg (.tp [.nm 3, .nm 4, .nm 5, .nm 6, .nm 7]) (.var 0),
    .asg (.tp [.nm 8, .nm 9]) (.var 2),
    .ret (.cmp .eq (.bin false .mod (.bin false .sub (.bin false .sub (.bin false .sub (.bin false .sub (.bin false .add (.bin false .add (.bin false .mul (.var 9) (.var 9)) (.bin false .mul (.bin false .mul (.var 3) (.var 8)) (.var 9))) (.bin false .mul (.var 5) (.var 9))) (.bin false .mul (.bin false .mul (.var 8) (.var 8)) (.var 8))) (.bin false .mul (.bin false .mul (.var 4) (.var 8)) (.var 8))) (.bin false .mul (.var 6) (.var 8))) (.var 7)) (.var 1)) (.int 0))]⟩
abbrev f_is_sharp : Nat := 32
def d_is_sharp : Def := ⟨3, 5, [.asg (.tp [.nm 3, .nm 4]) (.call false 30 [.var 0, .var 2]),
    .ret (.and (.cmp .eq (.bin false .mod (.var 3) (.var 1)) (.int 0)) (.cmp .eq (.bin false .mod (.var 4) (.var 1)) (.int 0)))]⟩
abbrev f_points_in : Nat := 33
def d_points_in : Def := ⟨2, 5, [.asg (.nm 2) (.lst true [.tup []]),
    .fr (.nm 3) (.rng1 (.var 1)) [.fr (.nm 4) (.rng1 (.var 1)) [.ife (.and (.call false 31 [.var 0, .var 1, .tup [.var 3, .var 4]]) (.not (.call false 32 [.var 0, .var 1, .tup [.var 3, .var 4]]))) [.exp (.app (.var 2) (.tup [.var 3, .var 4]))] []] [4]] [3, 4],
    .ret (.var 2)]⟩
abbrev f_is_smooth : Nat := 34
def d_is_smooth : Def := ⟨2, 2, [.ret (.cmp .ne (.bin false .mod (.call false 25 [.var 0]) (.var 1)) (.int 0))]⟩
abbrev f_count_in : Nat := 35
def d_count_in : Def := ⟨2, 2, [.ret (.bin false .sub (.bin false .add (.var 1) (.bi .int false [.call false 34 [.var 0, .var 1]])) (.bi .len false [.call false 33 [.var 0, .var 1]]))]⟩
abbrev f_kind_in : Nat := 36
def d_kind_in : Def := ⟨2, 3, [.ife (.call false 34 [.var 0, .var 1]) [.ret (.str "smooth")] [],
    .asg (.nm 2) (.call false 35 [.var 0, .var 1]),
    .ret (.ite (.cmp .eq (.var 2) (.int 0)) (.str "cusp") (.ite (.cmp .eq (.var 2) (.int 1)) (.str "split") (.str "unsplit")))]⟩
abbrev f_points_of : Nat := 37
def d_points_of : Def := ⟨2, 3, [.asg (.nm 2) (.call false 27 [.var 0]),
    .ret (.call false 33 [.var 2, .call false 28 [.var 1]])]⟩
abbrev f_count_at : Nat := 38
def d_count_at : Def := ⟨2, 3, [.asg (.nm 2) (.call false 27 [.var 0]),
    .ret (.call false 35 [.var 2, .call false 28 [.var 1]])]⟩
abbrev f_kind_at : Nat := 39
def d_kind_at : Def := ⟨2, 3, [.asg (.nm 2) (.call false 27 [.var 0]),
    .ret (.call false 36 [.var 2, .call false 28 [.var 1]])]⟩
abbrev f_field_counts : Nat := 40
def d_field_counts : Def := ⟨3, 12, [.par [3, 4] [.call false 27 [.var 0], .call false 28 [.var 1]],
    .asg (.nm 5) (.call false 5 [.var 2, .int 1, .int 60]),
    .ife (.not (.call false 34 [.var 3, .var 4])) [.rse 0] [],
    .asg (.nm 6) (.call false 35 [.var 3, .var 4]),
    .asg (.tp [.nm 7, .nm 8, .nm 9, .nm 10]) (.tup [.int 2, .var 6, .var 4, .lst true []]),
    .fr (.nm 11) (.rng1 (.var 5)) [.exp (.app (.var 10) (.bin false .sub (.bin false .add (.var 9) (.int 1)) (.var 8))),
    .par [7, 8, 9] [.var 8, .bin false .sub (.bin false .mul (.var 6) (.var 8)) (.bin false .mul (.var 4) (.var 7)), .bin false .mul (.var 9) (.var 4)]] [11],
    .ret (.bi .tuple false [.var 10])]⟩
abbrev f_u_law_box : Nat := 41
def d_u_law_box : Def := ⟨2, 3, [.asg (.nm 2) (.ite (.cmp .lt (.var 1) (.bi .len false [.var 0])) (.sub (.var 0) (.var 1)) (.int 0)),
    .ret (.lst true [.bin false .mul (.bi .abs false [.var 2]) (.bi .int false [.cmp .ge (.bi .abs false [.var 2]) (.bin false .pow (.int 10) (.int 18))]), .bin false .add (.bin false .add (.bin false .mod (.bi .int false [.var 2]) (.int 2305843009213693951)) (.bin false .mul (.int 39373) (.var 1))) (.int 2481307108), .int 0])]⟩
abbrev f_u_law_take : Nat := 42
def d_u_law_take : Def := ⟨2, 6, [.ife (.cmp .gt (.sub (.var 0) (.int 0)) (.int 0)) [.asg (.nm 2) (.bin false .mod (.bi .int false [.sub (.var 0) (.int 0)]) (.var 1)),
    .sto (.var 0) (.int 0) (.bin false .fdiv (.sub (.var 0) (.int 0)) (.var 1)),
    .ret (.var 2)] [],
    .sto (.var 0) (.int 2) (.bin false .add (.sub (.var 0) (.int 2)) (.int 1)),
    .asg (.nm 3) (.bin false .mod (.bi .int false [.bin false .mul (.bin false .add (.sub (.var 0) (.int 1)) (.bin false .mul (.int 48271) (.sub (.var 0) (.int 2)))) (.bin false .add (.int 39373) (.sub (.var 0) (.int 2)))]) (.int 2147483647)),
    .asg (.nm 4) (.bin false .add (.bin false .mod (.bi .int false [.var 3]) (.int 40009)) (.int 7)),
    .asg (.nm 5) (.bin false .mod (.bi .int false [.bin false .mul (.bin false .add (.bin false .add (.var 3) (.sub (.var 0) (.int 2))) (.bin false .fdiv (.sub (.var 0) (.int 1)) (.int 1000003))) (.var 4)]) (.int 2147483629)),
    .ret (.bin false .mod (.bi .int false [.bin false .fdiv (.bin false .mod (.bi .int false [.bin false .add (.bin false .mul (.var 5) (.int 48271)) (.var 3)]) (.int 2147483587)) (.int 64)]) (.var 1))]⟩
abbrev f_u_law_cells : Nat := 43
def d_u_law_cells : Def := ⟨2, 6, [.asg (.nm 2) (.or (.bi .list true [.slc false (.var 0) none (some (.var 1))]) (.lst true [.int 0])),
    .fr (.tp [.nm 3, .nm 4]) (.enum (.slc false (.var 0) (some (.var 1)) (some (.int 63))) none) [.asg (.nm 5) (.bin false .mod (.bi .int false [.var 3]) (.var 1)),
    .sto (.var 2) (.var 5) (.bin false .add (.sub (.var 2) (.var 5)) (.bin false .mul (.var 4) (.bin false .add (.var 3) (.int 2))))] [3, 4, 5],
    .ret (.var 2)]⟩
abbrev f_u_law_of : Nat := 44
def d_u_law_of : Def := ⟨2, 2, [.ret (.sub (.var 1) (.call false 42 [.var 0, .bi .len false [.var 1]]))]⟩
abbrev f_u_law_same : Nat := 45
def d_u_law_same : Def := ⟨2, 4, [.ife (.isi (.var 1) [.list, .tuple] true) [.ife (.or (.cmp .ne (.isi (.var 0) [.list] false) (.isi (.var 1) [.list] false)) (.cmp .ne (.isi (.var 0) [.tuple] false) (.isi (.var 1) [.tuple] false))) [.ret (.bl false)] [],
    .ret (.and (.cmp .eq (.bi .len false [.var 0]) (.bi .len false [.var 1])) (.bi .all false [.lc false [2, 3] (.call false 1045 [.var 2, .var 3]) (.tp [.nm 2, .nm 3]) (.zip (.var 0) (.var 1)) none]))] [],
    .ife (.isN (.var 1)) [.ret (.isN (.var 0))] [],
    .ife (.isi (.var 1) [.bool, .str] true) [.ret (.and (.cmp .eq (.isi (.var 0) [.bool] false) (.isi (.var 1) [.bool] false)) (.and (.cmp .eq (.isi (.var 0) [.str] false) (.isi (.var 1) [.str] false)) (.cmp .eq (.var 0) (.var 1))))] [],
    .ret (.and (.isi (.var 0) [.int] false) (.and (.not (.isi (.var 0) [.bool] false)) (.cmp .eq (.var 0) (.var 1))))]⟩
abbrev f_u_law_unfit : Nat := 46
def d_u_law_unfit : Def := ⟨1, 1, [.ret (.ite (.and (.isi (.var 0) [.list] false) (.and (.cmp .ne (.var 0) (.lst false [])) (.isi (.sub (.var 0) (.int 0)) [.str] false))) (.lst false [.str "told", .str "a mark"]) (.var 0))]⟩
abbrev f_u_law_discriminant : Nat := 47
def d_u_law_discriminant : Def := ⟨1, 11, [.asg (.tp [.nm 1, .nm 2, .nm 3, .nm 4, .nm 5]) (.var 0),
    .par [6, 7, 8] [.bin false .add (.bin false .mul (.var 1) (.var 1)) (.bin false .mul (.int 4) (.var 2)), .bin false .add (.bin false .mul (.int 2) (.var 4)) (.bin false .mul (.var 1) (.var 3)), .bin false .add (.bin false .mul (.var 3) (.var 3)) (.bin false .mul (.int 4) (.var 5))],
    .par [9, 10] [.bin false .sub (.bin false .mul (.var 6) (.var 6)) (.bin false .mul (.int 24) (.var 7)), .bin false .sub (.bin false .sub (.bin false .mul (.bin false .mul (.int 36) (.var 6)) (.var 7)) (.bin false .mul (.bin false .mul (.var 6) (.var 6)) (.var 6))) (.bin false .mul (.int 216) (.var 8))],
    .ret (.bin false .fdiv (.bin false .sub (.bin false .mul (.bin false .mul (.var 9) (.var 9)) (.var 9)) (.bin false .mul (.var 10) (.var 10))) (.int 1728))]⟩
abbrev f_u_law_curve : Nat := 48
def d_u_law_curve : Def := ⟨2, 4, [.asg (.nm 2) (.bi .tuple false [.lc false [3] (.bin false .sub (.call false 1042 [.var 0, .bin false .add (.bin false .mul (.int 2) (.var 1)) (.int 1)]) (.var 1)) (.nm 3) (.rng1 (.int 5)) none]),
    .ret (.ite (.cmp .ne (.call false 47 [.var 2]) (.int 0)) (.var 2) (.call false 44 [.var 0, .lst false [.tup [.int 0, .int 0, .int 1, .neg (.int 1), .int 0], .tup [.int 0, .int 0, .int 0, .int 0, .int 1], .tup [.int 0, .int 0, .int 0, .int 1, .int 0], .tup [.int 1, .int 0, .int 0, .int 0, .int 2], .tup [.int 0, .neg (.int 1), .int 1, .neg (.int 10), .neg (.int 20)]]]))]⟩
abbrev f_u_law_stands : Nat := 49
def d_u_law_stands : Def := ⟨4, 9, [.asg (.tp [.nm 4, .nm 5, .nm 6, .nm 7, .nm 8]) (.var 0),
    .ret (.cmp .eq (.bin false .mod (.bin false .sub (.bin false .mul (.var 3) (.bin false .add (.bin false .add (.var 3) (.bin false .mul (.var 4) (.var 2))) (.var 6))) (.bin false .add (.bin false .mul (.var 2) (.bin false .add (.bin false .mul (.var 2) (.bin false .add (.var 2) (.var 5))) (.var 7))) (.var 8))) (.var 1)) (.int 0))]⟩
abbrev f_u_law_is_sharp : Nat := 50
def d_u_law_is_sharp : Def := ⟨4, 9, [.asg (.tp [.nm 4, .nm 5, .nm 6, .nm 7, .nm 8]) (.var 0),
    .ret (.and (.cmp .eq (.bin false .mod (.bin false .sub (.bin false .sub (.bin false .sub (.bin false .mul (.var 4) (.var 3)) (.bin false .mul (.bin false .mul (.int 3) (.var 2)) (.var 2))) (.bin false .mul (.bin false .mul (.int 2) (.var 5)) (.var 2))) (.var 7)) (.var 1)) (.int 0)) (.cmp .eq (.bin false .mod (.bin false .add (.bin false .add (.bin false .mul (.int 2) (.var 3)) (.bin false .mul (.var 4) (.var 2))) (.var 6)) (.var 1)) (.int 0)))]⟩
abbrev f_u_law_places : Nat := 51
def d_u_law_places : Def := ⟨2, 6, [.asg (.nm 2) (.lst true []),
    .fr (.nm 3) (.rng1 (.var 1)) [.exp (.ext (.var 2) (.lc false [5] (.tup [.var 3, .var 5]) (.nm 5) (.rng1 (.var 1)) (some (.call false 1049 [.var 0, .var 1, .var 3, .var 5]))))] [3],
    .ret (.tup [.var 2, .lc false [4] (.var 4) (.nm 4) (.seq (.var 2)) (some (.call false 1050 [.var 0, .var 1, .sub (.var 4) (.int 0), .sub (.var 4) (.int 1)]))])]⟩
abbrev f_u_law_heard : Nat := 52
def d_u_law_heard : Def := ⟨3, 6, [.asg (.tp [.nm 3, .nm 4]) (.tup [.non, .non]),
    .tr [.asg (.nm 3) (.call false 46 [.call false 40 [.var 0, .var 1, .var 2]])] [(0, 4, "cannot")],
    .ret (.ite (.isN (.var 4)) (.var 3) (.var 4))]⟩
abbrev f_u_law_times : Nat := 53
def d_u_law_times : Def := ⟨5, 6, [.asg (.nm 5) (.bin false .mul (.sub (.var 0) (.int 1)) (.sub (.var 1) (.int 1))),
    .ret (.tup [.bin false .mod (.bin false .add (.bin false .mul (.sub (.var 0) (.int 0)) (.sub (.var 1) (.int 0))) (.bin false .mul (.var 4) (.var 5))) (.var 2), .bin false .mod (.bin false .add (.bin false .add (.bin false .mul (.sub (.var 0) (.int 0)) (.sub (.var 1) (.int 1))) (.bin false .mul (.sub (.var 0) (.int 1)) (.sub (.var 1) (.int 0)))) (.bin false .mul (.var 3) (.var 5))) (.var 2)])]⟩
abbrev f_u_law_over_pairs : Nat := 54
def d_u_law_over_pairs : Def := ⟨2, 20, [.asg (.nm 2) (.bi .sorted false [.lc false [3, 4] (.tup [.var 3, .var 4]) (.tp [.nm 3, .nm 4]) (.seq (.lc false [18] (.tup [.bin false .fdiv (.var 18) (.var 1), .bin false .mod (.var 18) (.var 1)]) (.nm 18) (.rng1 (.bin false .mul (.var 1) (.var 1))) none)) (some (.cmp .eq (.lc false [18] (.int 1) (.nm 18) (.rng1 (.var 1)) (some (.cmp .eq (.bin false .mod (.bin false .sub (.bin false .sub (.bin false .mul (.var 18) (.var 18)) (.bin false .mul (.var 3) (.var 18))) (.var 4)) (.var 1)) (.int 0)))) (.lst false [])))]),
    .asg (.tp [.nm 3, .nm 4]) (.sub (.var 2) (.int 0)),
    .asg (.nm 5) (.lc false [18] (.tup [.bin false .fdiv (.var 18) (.var 1), .bin false .mod (.var 18) (.var 1)]) (.nm 18) (.rng1 (.bin false .mul (.var 1) (.var 1))) none),
    .asg (.tp [.nm 6, .nm 7, .nm 8, .nm 9, .nm 10]) (.lc false [19] (.tup [.bin false .mod (.var 19) (.var 1), .int 0]) (.nm 19) (.seq (.var 0)) none),
    .asg (.nm 11) (.int 1),
    .fr (.nm 12) (.seq (.var 5)) [.asg (.nm 13) (.call false 53 [.var 12, .var 12, .var 1, .var 3, .var 4]),
    .asg (.nm 14) (.lst false [.call false 53 [.var 13, .var 12, .var 1, .var 3, .var 4], .call false 53 [.var 7, .var 13, .var 1, .var 3, .var 4], .call false 53 [.var 9, .var 12, .var 1, .var 3, .var 4], .var 10]),
    .asg (.nm 15) (.bi .tuple false [.lc false [18] (.bin false .mod (.bi .sum false [.lc false [19] (.sub (.var 19) (.var 18)) (.nm 19) (.seq (.var 14)) none]) (.var 1)) (.nm 18) (.seq (.tup [.int 0, .int 1])) none]),
    .fr (.nm 16) (.seq (.var 5)) [.asg (.nm 17) (.lst false [.call false 53 [.var 16, .var 16, .var 1, .var 3, .var 4], .call false 53 [.call false 53 [.var 6, .var 12, .var 1, .var 3, .var 4], .var 16, .var 1, .var 3, .var 4], .call false 53 [.var 8, .var 16, .var 1, .var 3, .var 4]]),
    .ife (.cmp .eq (.bi .tuple false [.lc false [18] (.bin false .mod (.bi .sum false [.lc false [19] (.sub (.var 19) (.var 18)) (.nm 19) (.seq (.var 17)) none]) (.var 1)) (.nm 18) (.seq (.tup [.int 0, .int 1])) none]) (.var 15)) [.asg (.nm 11) (.bin false .add (.var 11) (.int 1))] []] [16, 17]] [12, 13, 14, 15, 16, 17],
    .ret (.var 11)]⟩
abbrev f_law : Nat := 55
def d_law : Def := ⟨1, 18, [.asg (.nm 1) (.call true 41 [.call false 43 [.var 0, .int 1], .int 0]),
    .fr (.nm 2) (.rng1 (.int 5)) [.asg (.nm 3) (.call false 48 [.var 1, .int 12]),
    .asg (.nm 4) (.call false 44 [.var 1, .ite (.cmp .gt (.var 2) (.int 1)) (.lst false [.int 2, .int 3, .int 5, .int 7, .int 11, .int 13, .int 17, .int 23, .int 31, .int 47]) (.lst false [.int 2, .int 3, .int 5])]),
    .asg (.tp [.nm 5, .nm 6]) (.call false 51 [.var 3, .var 4]),
    .asg (.nm 7) (.bin false .sub (.var 4) (.bi .len false [.var 5])),
    .asg (.nm 8) (.cmp .eq (.bin false .mod (.call false 47 [.var 3]) (.var 4)) (.int 0)),
    .ife (.or (.cmp .ne (.var 8) (.cmp .ne (.var 6) (.lst false []))) (.or (.cmp .gt (.bi .len false [.var 6]) (.int 1)) (.or (.and (.not (.var 8)) (.cmp .gt (.bin false .mul (.var 7) (.var 7)) (.bin false .mul (.int 4) (.var 4)))) (.and (.var 8) (.cmp .notin (.var 7) (.tup [.int 0, .int 1, .neg (.int 1)])))))) [.ret (.bl false)] [],
    .asg (.nm 9) (.ite (.var 8) (.dsel [.int 0, .str "cusp", .int 1, .str "split", .neg (.int 1), .str "unsplit"] (.var 7)) (.str "smooth")),
    .asg (.nm 10) (.lst false [.call false 38 [.bi .list false [.var 3], .var 4], .callk false 38 [] [.var 4, .var 3] [1, 0], .call false 39 [.bi .list false [.var 3], .var 4], .callk false 39 [] [.var 4, .var 3] [1, 0], .bi .len false [.call false 37 [.var 3, .var 4]]]),
    .ife (.not (.call false 45 [.var 10, .lst false [.var 7, .var 7, .var 9, .var 9, .bin false .sub (.bin false .add (.bi .len false [.var 5]) (.int 1)) (.bi .len false [.var 6])]])) [.ret (.bl false)] [],
    .ife (.and (.var 8) (.cmp .ne (.cmp .eq (.var 9) (.str "cusp")) (.cmp .eq (.bin false .mod (.sub (.call false 29 [.var 3]) (.int 4)) (.var 4)) (.int 0)))) [.ret (.bl false)] [],
    .asg (.nm 11) (.bin false .add (.int 1) (.call false 42 [.var 1, .int 17])),
    .asg (.nm 12) (.call false 52 [.var 3, .var 4, .var 11]),
    .ife (.var 8) [.ife (.not (.call false 45 [.var 12, .lst false [.str "cannot", .bl true]])) [.ret (.bl false)] [],
    .cnt] [],
    .par [13, 14, 15] [.lst true [.int 2, .var 7], .lst true [], .int 1],
    .fr (.nm 16) (.rng2 (.int 1) (.bin false .add (.var 11) (.int 1))) [.exp (.app (.var 13) (.bin false .sub (.bin false .mul (.var 7) (.sub (.var 13) (.neg (.int 1)))) (.bin false .mul (.var 4) (.sub (.var 13) (.neg (.int 2)))))),
    .asg (.nm 15) (.bin false .mul (.var 15) (.var 4)),
    .exp (.app (.var 14) (.bin false .sub (.bin false .add (.var 15) (.int 1)) (.sub (.var 13) (.var 16))))] [16],
    .ife (.not (.call false 45 [.lst false [.var 12, .callk false 40 [] [.var 11, .var 4, .bi .list false [.var 3]] [2, 1, 0], .call false 22 [.var 14]], .lst false [.bi .tuple false [.var 14], .bi .tuple false [.var 14], .non]])) [.ret (.bl false)] [],
    .ife (.or (.cmp .ne (.lc false [17] (.var 17) (.nm 17) (.seq (.call false 23 [.var 14])) (some (.or (.cmp .lt (.sub (.var 17) (.int 0)) (.int 0)) (.cmp .ne (.sub (.var 17) (.int 1)) (.int 1))))) (.lst false [])) (.and (.cmp .lt (.var 4) (.int 6)) (.and (.cmp .gt (.var 11) (.int 1)) (.cmp .ne (.sub (.var 14) (.int 1)) (.call false 54 [.var 3, .var 4]))))) [.ret (.bl false)] []] [2, 3, 4, 5, 6, 7, 8, 9, 10, 11, 12, 13, 14, 15, 16],
    .ret (.call false 45 [.lst false [.call false 40 [.tup [.int 0, .int 0, .int 1, .neg (.int 1), .int 0], .int 2, .int 4], .call false 39 [.tup [.int 0, .int 0, .int 1, .neg (.int 1), .int 0], .int 37]], .lst false [.tup [.int 5, .int 5, .int 5, .int 25], .str "unsplit"]])]⟩
def prog : List Def := [d_is_number, d_is_within, d_are_numbers, d_tupled, d_in_bounds, d_sure_within, d_common, d_cut_down, d_whole, d_added, d_taken, d_times, d_over, d_is_prime, d_is_plain_row, d_sure_plain_row, d_divisors_in, d_primes_in, d_power_in, d_is_broken_at, d_broken_in, d_frees_in, d_broken_place, d_frees_of, d_b_numbers, d_discriminant_in, d_is_curve, d_sure_curve, d_sure_curve_prime, d_curve_numbers, d_slants_at, d_stands_on, d_is_sharp, d_points_in, d_is_smooth, d_count_in, d_kind_in, d_points_of, d_count_at, d_kind_at, d_field_counts, d_u_law_box, d_u_law_take, d_u_law_cells, d_u_law_of, d_u_law_same, d_u_law_unfit, d_u_law_discriminant, d_u_law_curve, d_u_law_stands, d_u_law_is_sharp, d_u_law_places, d_u_law_heard, d_u_law_times, d_u_law_over_pairs, d_law]
theorem at_is_number : prog[f_is_number]? = some d_is_number := rfl
theorem at_is_within : prog[f_is_within]? = some d_is_within := rfl
theorem at_are_numbers : prog[f_are_numbers]? = some d_are_numbers := rfl
theorem at_tupled : prog[f_tupled]? = some d_tupled := rfl
theorem at_in_bounds : prog[f_in_bounds]? = some d_in_bounds := rfl
theorem at_sure_within : prog[f_sure_within]? = some d_sure_within := rfl
theorem at_common : prog[f_common]? = some d_common := rfl
theorem at_cut_down : prog[f_cut_down]? = some d_cut_down := rfl
theorem at_whole : prog[f_whole]? = some d_whole := rfl
theorem at_added : prog[f_added]? = some d_added := rfl
theorem at_taken : prog[f_taken]? = some d_taken := rfl
theorem at_times : prog[f_times]? = some d_times := rfl
theorem at_over : prog[f_over]? = some d_over := rfl
theorem at_is_prime : prog[f_is_prime]? = some d_is_prime := rfl
theorem at_is_plain_row : prog[f_is_plain_row]? = some d_is_plain_row := rfl
theorem at_sure_plain_row : prog[f_sure_plain_row]? = some d_sure_plain_row := rfl
theorem at_divisors_in : prog[f_divisors_in]? = some d_divisors_in := rfl
theorem at_primes_in : prog[f_primes_in]? = some d_primes_in := rfl
theorem at_power_in : prog[f_power_in]? = some d_power_in := rfl
theorem at_is_broken_at : prog[f_is_broken_at]? = some d_is_broken_at := rfl
theorem at_broken_in : prog[f_broken_in]? = some d_broken_in := rfl
theorem at_frees_in : prog[f_frees_in]? = some d_frees_in := rfl
theorem at_broken_place : prog[f_broken_place]? = some d_broken_place := rfl
theorem at_frees_of : prog[f_frees_of]? = some d_frees_of := rfl
theorem at_b_numbers : prog[f_b_numbers]? = some d_b_numbers := rfl
theorem at_discriminant_in : prog[f_discriminant_in]? = some d_discriminant_in := rfl
theorem at_is_curve : prog[f_is_curve]? = some d_is_curve := rfl
theorem at_sure_curve : prog[f_sure_curve]? = some d_sure_curve := rfl
theorem at_sure_curve_prime : prog[f_sure_curve_prime]? = some d_sure_curve_prime := rfl
theorem at_curve_numbers : prog[f_curve_numbers]? = some d_curve_numbers := rfl
theorem at_slants_at : prog[f_slants_at]? = some d_slants_at := rfl
theorem at_stands_on : prog[f_stands_on]? = some d_stands_on := rfl
theorem at_is_sharp : prog[f_is_sharp]? = some d_is_sharp := rfl
theorem at_points_in : prog[f_points_in]? = some d_points_in := rfl
theorem at_is_smooth : prog[f_is_smooth]? = some d_is_smooth := rfl
theorem at_count_in : prog[f_count_in]? = some d_count_in := rfl
theorem at_kind_in : prog[f_kind_in]? = some d_kind_in := rfl
theorem at_points_of : prog[f_points_of]? = some d_points_of := rfl
theorem at_count_at : prog[f_count_at]? = some d_count_at := rfl
theorem at_kind_at : prog[f_kind_at]? = some d_kind_at := rfl
theorem at_field_counts : prog[f_field_counts]? = some d_field_counts := rfl
theorem at_u_law_box : prog[f_u_law_box]? = some d_u_law_box := rfl
theorem at_u_law_take : prog[f_u_law_take]? = some d_u_law_take := rfl
theorem at_u_law_cells : prog[f_u_law_cells]? = some d_u_law_cells := rfl
theorem at_u_law_of : prog[f_u_law_of]? = some d_u_law_of := rfl
theorem at_u_law_same : prog[f_u_law_same]? = some d_u_law_same := rfl
theorem at_u_law_unfit : prog[f_u_law_unfit]? = some d_u_law_unfit := rfl
theorem at_u_law_discriminant : prog[f_u_law_discriminant]? = some d_u_law_discriminant := rfl
theorem at_u_law_curve : prog[f_u_law_curve]? = some d_u_law_curve := rfl
theorem at_u_law_stands : prog[f_u_law_stands]? = some d_u_law_stands := rfl
theorem at_u_law_is_sharp : prog[f_u_law_is_sharp]? = some d_u_law_is_sharp := rfl
theorem at_u_law_places : prog[f_u_law_places]? = some d_u_law_places := rfl
theorem at_u_law_heard : prog[f_u_law_heard]? = some d_u_law_heard := rfl
theorem at_u_law_times : prog[f_u_law_times]? = some d_u_law_times := rfl
theorem at_u_law_over_pairs : prog[f_u_law_over_pairs]? = some d_u_law_over_pairs := rfl
theorem at_law : prog[f_law]? = some d_law := rfl
end K71

set_option Elab.async false
set_option linter.all false
set_option maxRecDepth 100000
/-! K71_Tab: the table that ties the defs to the row, printed by genx.py. -/
namespace K71
open PySem PySem.Spec PyProof.Rows L2 IR
def topS (i : Nat) : Stmt := PySem.Challenge.pw_shapelots_k71_main_counts_kinds_and_grea.main.body.getD i (.Pass ⟨0, 0, 0, 0⟩)
def e_is_number : Ent := { name := "is_number", st := topS 5, ps := ["thing"], N := ["thing"], kws := [], df := d_is_number }
def e_is_within : Ent := { name := "is_within", st := topS 6, ps := ["thing", "least", "most"], N := ["thing", "least", "most"], kws := [], df := d_is_within }
def e_are_numbers : Ent := { name := "are_numbers", st := topS 7, ps := ["thing"], N := ["thing", "own"], kws := [], df := d_are_numbers }
def e_tupled : Ent := { name := "tupled", st := topS 8, ps := ["value"], N := ["value", "own"], kws := [], df := d_tupled }
def e_in_bounds : Ent := { name := "in_bounds", st := topS 9, ps := ["value"], N := ["value", "rows", "place", "own"], kws := [], df := d_in_bounds }
def e_sure_within : Ent := { name := "sure_within", st := topS 10, ps := ["thing", "least", "most"], N := ["thing", "least", "most"], kws := [], df := d_sure_within }
def e_common : Ent := { name := "common", st := topS 11, ps := ["one", "other"], N := ["one", "other"], kws := [], df := d_common }
def e_cut_down : Ent := { name := "cut_down", st := topS 12, ps := ["over", "under"], N := ["over", "under", "shared"], kws := [], df := d_cut_down }
def e_whole : Ent := { name := "whole", st := topS 13, ps := ["number"], N := ["number"], kws := [], df := d_whole }
def e_added : Ent := { name := "added", st := topS 14, ps := ["one", "other"], N := ["one", "other"], kws := [], df := d_added }
def e_taken : Ent := { name := "taken", st := topS 15, ps := ["one", "other"], N := ["one", "other"], kws := [], df := d_taken }
def e_times : Ent := { name := "times", st := topS 16, ps := ["one", "other"], N := ["one", "other"], kws := [], df := d_times }
def e_over : Ent := { name := "over", st := topS 17, ps := ["one", "other"], N := ["one", "other"], kws := [], df := d_over }
def e_is_prime : Ent := { name := "is_prime", st := topS 18, ps := ["thing", "most"], N := ["thing", "most", "own"], kws := [], df := d_is_prime }
def e_is_plain_row : Ent := { name := "is_plain_row", st := topS 21, ps := ["thing"], N := ["thing"], kws := [], df := d_is_plain_row }
def e_sure_plain_row : Ent := { name := "sure_plain_row", st := topS 22, ps := ["value"], N := ["value", "own"], kws := [], df := d_sure_plain_row }
def e_divisors_in : Ent := { name := "divisors_in", st := topS 23, ps := ["number"], N := ["number", "own"], kws := [], df := d_divisors_in }
def e_primes_in : Ent := { name := "primes_in", st := topS 24, ps := ["number"], N := ["number", "found", "left", "own"], kws := [], df := d_primes_in }
def e_power_in : Ent := { name := "power_in", st := topS 25, ps := ["number", "prime"], N := ["number", "prime", "found"], kws := [], df := d_power_in }
def e_is_broken_at : Ent := { name := "is_broken_at", st := topS 26, ps := ["row", "number", "prime"], N := ["row", "number", "prime"], kws := [], df := d_is_broken_at }
def e_broken_in : Ent := { name := "broken_in", st := topS 27, ps := ["row"], N := ["row", "number", "prime"], kws := [], df := d_broken_in }
def e_frees_in : Ent := { name := "frees_in", st := topS 28, ps := ["row"], N := ["row", "found", "number", "own", "left", "part"], kws := [], df := d_frees_in }
def e_broken_place : Ent := { name := "broken_place", st := topS 29, ps := ["row"], N := ["row"], kws := [], df := d_broken_place }
def e_frees_of : Ent := { name := "frees_of", st := topS 30, ps := ["row"], N := ["row"], kws := [], df := d_frees_of }
def e_b_numbers : Ent := { name := "b_numbers", st := topS 34, ps := ["curve"], N := ["curve", "a1", "a2", "a3", "a4", "a6", "last"], kws := [], df := d_b_numbers }
def e_discriminant_in : Ent := { name := "discriminant_in", st := topS 35, ps := ["curve"], N := ["curve", "b2", "b4", "b6", "b8"], kws := [], df := d_discriminant_in }
def e_is_curve : Ent := { name := "is_curve", st := topS 36, ps := ["thing"], N := ["thing"], kws := [], df := d_is_curve }
def e_sure_curve : Ent := { name := "sure_curve", st := topS 37, ps := ["value"], N := ["value", "own", "its"], kws := [], df := d_sure_curve }
def e_sure_curve_prime : Ent := { name := "sure_curve_prime", st := topS 38, ps := ["value"], N := ["value"], kws := [], df := d_sure_curve_prime }
def e_curve_numbers : Ent := { name := "curve_numbers", st := topS 39, ps := ["curve"], N := ["curve", "own", "b2", "b4", "b6", "b8", "c4", "c6"], kws := [], df := d_curve_numbers }
def e_slants_at : Ent := { name := "slants_at", st := topS 40, ps := ["curve", "point"], N := ["curve", "point", "a1", "a2", "a3", "a4", "_", "x", "y"], kws := [], df := d_slants_at }
def e_stands_on : Ent := { name := "stands_on", st := topS 41, ps := ["curve", "prime", "point"], N := ["curve", "prime", "point", "a1", "a2", "a3", "a4", "a6", "x", "y"], kws := [], df := d_stands_on }
def e_is_sharp : Ent := { name := "is_sharp", st := topS 42, ps := ["curve", "prime", "point"], N := ["curve", "prime", "point", "near", "far"], kws := [], df := d_is_sharp }
def e_points_in : Ent := { name := "points_in", st := topS 43, ps := ["curve", "prime"], N := ["curve", "prime", "found", "x", "y"], kws := [], df := d_points_in }
def e_is_smooth : Ent := { name := "is_smooth", st := topS 44, ps := ["curve", "prime"], N := ["curve", "prime"], kws := [], df := d_is_smooth }
def e_count_in : Ent := { name := "count_in", st := topS 45, ps := ["curve", "prime"], N := ["curve", "prime"], kws := [], df := d_count_in }
def e_kind_in : Ent := { name := "kind_in", st := topS 46, ps := ["curve", "prime"], N := ["curve", "prime", "count"], kws := [], df := d_kind_in }
def e_points_of : Ent := { name := "points_of", st := topS 47, ps := ["curve", "prime"], N := ["curve", "prime", "own"], kws := [], df := d_points_of }
def e_count_at : Ent := { name := "count_at", st := topS 48, ps := ["curve", "prime"], N := ["curve", "prime", "own"], kws := [(0, ["prime", "curve"], [1, 0])], df := d_count_at }
def e_kind_at : Ent := { name := "kind_at", st := topS 49, ps := ["curve", "prime"], N := ["curve", "prime", "own"], kws := [(0, ["prime", "curve"], [1, 0])], df := d_kind_at }
def e_field_counts : Ent := { name := "field_counts", st := topS 50, ps := ["curve", "prime", "most"], N := ["curve", "prime", "most", "own", "base", "many", "count", "near", "far", "power", "found", "lap"], kws := [(0, ["most", "prime", "curve"], [2, 1, 0])], df := d_field_counts }
def e_u_law_box : Ent := { name := "_law_box", st := topS 52, ps := ["script", "k"], N := ["script", "k", "bit_so"], kws := [], df := d_u_law_box }
def e_u_law_take : Ent := { name := "_law_take", st := topS 53, ps := ["tin", "below_so"], N := ["tin", "below_so", "drawn_so", "once_so", "wide_so", "twice_so"], kws := [], df := d_u_law_take }
def e_u_law_cells : Ent := { name := "_law_cells", st := topS 54, ps := ["script", "most_so"], N := ["script", "most_so", "cells_so", "k", "bit_so", "at_so"], kws := [], df := d_u_law_cells }
def e_u_law_of : Ent := { name := "_law_of", st := topS 55, ps := ["tin", "goods_so"], N := ["tin", "goods_so"], kws := [], df := d_u_law_of }
def e_u_law_same : Ent := { name := "_law_same", st := topS 56, ps := ["got", "due"], N := ["got", "due", "mine", "its"], kws := [], df := d_u_law_same }
def e_u_law_unfit : Ent := { name := "_law_unfit", st := topS 57, ps := ["told_so"], N := ["told_so"], kws := [], df := d_u_law_unfit }
def e_u_law_discriminant : Ent := { name := "_law_discriminant", st := topS 58, ps := ["curve_so"], N := ["curve_so", "a1", "a2", "a3", "a4", "a6", "b2", "b4", "b6", "c4", "c6"], kws := [], df := d_u_law_discriminant }
def e_u_law_curve : Ent := { name := "_law_curve", st := topS 59, ps := ["tin", "most_so"], N := ["tin", "most_so", "found", "k"], kws := [], df := d_u_law_curve }
def e_u_law_stands : Ent := { name := "_law_stands", st := topS 60, ps := ["curve_so", "p", "x", "y"], N := ["curve_so", "p", "x", "y", "a1", "a2", "a3", "a4", "a6"], kws := [], df := d_u_law_stands }
def e_u_law_is_sharp : Ent := { name := "_law_is_sharp", st := topS 61, ps := ["curve_so", "p", "x", "y"], N := ["curve_so", "p", "x", "y", "a1", "a2", "a3", "a4", "a6"], kws := [], df := d_u_law_is_sharp }
def e_u_law_places : Ent := { name := "_law_places", st := topS 62, ps := ["curve_so", "p"], N := ["curve_so", "p", "found", "x", "own", "y"], kws := [], df := d_u_law_places }
def e_u_law_heard : Ent := { name := "_law_heard", st := topS 63, ps := ["curve_so", "p", "most_so"], N := ["curve_so", "p", "most_so", "told_so", "caught", "slip_so"], kws := [], df := d_u_law_heard }
def e_u_law_times : Ent := { name := "_law_times", st := topS 64, ps := ["one", "two", "p", "b", "c"], N := ["one", "two", "p", "b", "c", "high_so"], kws := [], df := d_u_law_times }
def e_u_law_over_pairs : Ent := { name := "_law_over_pairs", st := topS 65, ps := ["curve_so", "p"], N := ["curve_so", "p", "roots_so", "b", "c", "things_so", "a1", "a2", "a3", "a4", "a6", "many_so", "x", "xx", "right_so", "goal_so", "y", "left_so", "k", "own"], kws := [], df := d_u_law_over_pairs }
def e_law : Ent := { name := "law", st := topS 66, ps := ["script"], N := ["script", "tin", "lap", "curve_so", "p", "every_so", "sharp_so", "count_so", "bad", "due", "got", "most_so", "told_so", "sums_so", "found", "power_so", "k", "own"], kws := [], df := d_law }
def es : List Ent := [e_is_number, e_is_within, e_are_numbers, e_tupled, e_in_bounds, e_sure_within, e_common, e_cut_down, e_whole, e_added, e_taken, e_times, e_over, e_is_prime, e_is_plain_row, e_sure_plain_row, e_divisors_in, e_primes_in, e_power_in, e_is_broken_at, e_broken_in, e_frees_in, e_broken_place, e_frees_of, e_b_numbers, e_discriminant_in, e_is_curve, e_sure_curve, e_sure_curve_prime, e_curve_numbers, e_slants_at, e_stands_on, e_is_sharp, e_points_in, e_is_smooth, e_count_in, e_kind_in, e_points_of, e_count_at, e_kind_at, e_field_counts, e_u_law_box, e_u_law_take, e_u_law_cells, e_u_law_of, e_u_law_same, e_u_law_unfit, e_u_law_discriminant, e_u_law_curve, e_u_law_stands, e_u_law_is_sharp, e_u_law_places, e_u_law_heard, e_u_law_times, e_u_law_over_pairs, e_law]
def gls : List (Str × Nat) := [("MOST", 0), ("MOST_ROW", 1), ("MOST_CURVE", 2), ("MOST_PRIME", 3)]
def cls : List (Str × Nat) := [("CanNot", 0), ("Unfit", 1)]
theorem c_is_number : entB (tabOf es gls cls) e_is_number = true := by decide +kernel
theorem c_is_within : entB (tabOf es gls cls) e_is_within = true := by decide +kernel
theorem c_are_numbers : entB (tabOf es gls cls) e_are_numbers = true := by decide +kernel
theorem c_tupled : entB (tabOf es gls cls) e_tupled = true := by decide +kernel
theorem c_in_bounds : entB (tabOf es gls cls) e_in_bounds = true := by decide +kernel
theorem c_sure_within : entB (tabOf es gls cls) e_sure_within = true := by decide +kernel
theorem c_common : entB (tabOf es gls cls) e_common = true := by decide +kernel
theorem c_cut_down : entB (tabOf es gls cls) e_cut_down = true := by decide +kernel
theorem c_whole : entB (tabOf es gls cls) e_whole = true := by decide +kernel
theorem c_added : entB (tabOf es gls cls) e_added = true := by decide +kernel
theorem c_taken : entB (tabOf es gls cls) e_taken = true := by decide +kernel
theorem c_times : entB (tabOf es gls cls) e_times = true := by decide +kernel
theorem c_over : entB (tabOf es gls cls) e_over = true := by decide +kernel
theorem c_is_prime : entB (tabOf es gls cls) e_is_prime = true := by decide +kernel
theorem c_is_plain_row : entB (tabOf es gls cls) e_is_plain_row = true := by decide +kernel
theorem c_sure_plain_row : entB (tabOf es gls cls) e_sure_plain_row = true := by decide +kernel
theorem c_divisors_in : entB (tabOf es gls cls) e_divisors_in = true := by decide +kernel
theorem c_primes_in : entB (tabOf es gls cls) e_primes_in = true := by decide +kernel
theorem c_power_in : entB (tabOf es gls cls) e_power_in = true := by decide +kernel
theorem c_is_broken_at : entB (tabOf es gls cls) e_is_broken_at = true := by decide +kernel
theorem c_broken_in : entB (tabOf es gls cls) e_broken_in = true := by decide +kernel
theorem c_frees_in : entB (tabOf es gls cls) e_frees_in = true := by decide +kernel
theorem c_broken_place : entB (tabOf es gls cls) e_broken_place = true := by decide +kernel
theorem c_frees_of : entB (tabOf es gls cls) e_frees_of = true := by decide +kernel
theorem c_b_numbers : entB (tabOf es gls cls) e_b_numbers = true := by decide +kernel
theorem c_discriminant_in : entB (tabOf es gls cls) e_discriminant_in = true := by decide +kernel
theorem c_is_curve : entB (tabOf es gls cls) e_is_curve = true := by decide +kernel
theorem c_sure_curve : entB (tabOf es gls cls) e_sure_curve = true := by decide +kernel
theorem c_sure_curve_prime : entB (tabOf es gls cls) e_sure_curve_prime = true := by decide +kernel
theorem c_curve_numbers : entB (tabOf es gls cls) e_curve_numbers = true := by decide +kernel
theorem c_slants_at : entB (tabOf es gls cls) e_slants_at = true := by decide +kernel
theorem c_stands_on : entB (tabOf es gls cls) e_stands_on = true := by decide +kernel
theorem c_is_sharp : entB (tabOf es gls cls) e_is_sharp = true := by decide +kernel
theorem c_points_in : entB (tabOf es gls cls) e_points_in = true := by decide +kernel
theorem c_is_smooth : entB (tabOf es gls cls) e_is_smooth = true := by decide +kernel
theorem c_count_in : entB (tabOf es gls cls) e_count_in = true := by decide +kernel
theorem c_kind_in : entB (tabOf es gls cls) e_kind_in = true := by decide +kernel
theorem c_points_of : entB (tabOf es gls cls) e_points_of = true := by decide +kernel
theorem c_count_at : entB (tabOf es gls cls) e_count_at = true := by decide +kernel
theorem c_kind_at : entB (tabOf es gls cls) e_kind_at = true := by decide +kernel
theorem c_field_counts : entB (tabOf es gls cls) e_field_counts = true := by decide +kernel
theorem c_u_law_box : entB (tabOf es gls cls) e_u_law_box = true := by decide +kernel
theorem c_u_law_take : entB (tabOf es gls cls) e_u_law_take = true := by decide +kernel
theorem c_u_law_cells : entB (tabOf es gls cls) e_u_law_cells = true := by decide +kernel
theorem c_u_law_of : entB (tabOf es gls cls) e_u_law_of = true := by decide +kernel
theorem c_u_law_same : entB (tabOf es gls cls) e_u_law_same = true := by decide +kernel
theorem c_u_law_unfit : entB (tabOf es gls cls) e_u_law_unfit = true := by decide +kernel
theorem c_u_law_discriminant : entB (tabOf es gls cls) e_u_law_discriminant = true := by decide +kernel
theorem c_u_law_curve : entB (tabOf es gls cls) e_u_law_curve = true := by decide +kernel
theorem c_u_law_stands : entB (tabOf es gls cls) e_u_law_stands = true := by decide +kernel
theorem c_u_law_is_sharp : entB (tabOf es gls cls) e_u_law_is_sharp = true := by decide +kernel
theorem c_u_law_places : entB (tabOf es gls cls) e_u_law_places = true := by decide +kernel
theorem c_u_law_heard : entB (tabOf es gls cls) e_u_law_heard = true := by decide +kernel
theorem c_u_law_times : entB (tabOf es gls cls) e_u_law_times = true := by decide +kernel
theorem c_u_law_over_pairs : entB (tabOf es gls cls) e_u_law_over_pairs = true := by decide +kernel
theorem c_law : entB (tabOf es gls cls) e_law = true := by decide +kernel
theorem b_is_number : BindOk e_is_number := by
  refine ⟨fun _ _ _ _ _ _ us hl => match us, hl with | [_], _ => rfl, fun n ks perm h => ?_⟩
  simp only [e_is_number, List.mem_cons, List.not_mem_nil, or_false, Prod.mk.injEq] at h
theorem b_is_within : BindOk e_is_within := by
  refine ⟨fun _ _ _ _ _ _ us hl => match us, hl with | [_, _, _], _ => rfl, fun n ks perm h => ?_⟩
  simp only [e_is_within, List.mem_cons, List.not_mem_nil, or_false, Prod.mk.injEq] at h
theorem b_are_numbers : BindOk e_are_numbers := by
  refine ⟨fun _ _ _ _ _ _ us hl => match us, hl with | [_], _ => rfl, fun n ks perm h => ?_⟩
  simp only [e_are_numbers, List.mem_cons, List.not_mem_nil, or_false, Prod.mk.injEq] at h
theorem b_tupled : BindOk e_tupled := by
  refine ⟨fun _ _ _ _ _ _ us hl => match us, hl with | [_], _ => rfl, fun n ks perm h => ?_⟩
  simp only [e_tupled, List.mem_cons, List.not_mem_nil, or_false, Prod.mk.injEq] at h
theorem b_in_bounds : BindOk e_in_bounds := by
  refine ⟨fun _ _ _ _ _ _ us hl => match us, hl with | [_], _ => rfl, fun n ks perm h => ?_⟩
  simp only [e_in_bounds, List.mem_cons, List.not_mem_nil, or_false, Prod.mk.injEq] at h
theorem b_sure_within : BindOk e_sure_within := by
  refine ⟨fun _ _ _ _ _ _ us hl => match us, hl with | [_, _, _], _ => rfl, fun n ks perm h => ?_⟩
  simp only [e_sure_within, List.mem_cons, List.not_mem_nil, or_false, Prod.mk.injEq] at h
theorem b_common : BindOk e_common := by
  refine ⟨fun _ _ _ _ _ _ us hl => match us, hl with | [_, _], _ => rfl, fun n ks perm h => ?_⟩
  simp only [e_common, List.mem_cons, List.not_mem_nil, or_false, Prod.mk.injEq] at h
theorem b_cut_down : BindOk e_cut_down := by
  refine ⟨fun _ _ _ _ _ _ us hl => match us, hl with | [_, _], _ => rfl, fun n ks perm h => ?_⟩
  simp only [e_cut_down, List.mem_cons, List.not_mem_nil, or_false, Prod.mk.injEq] at h
theorem b_whole : BindOk e_whole := by
  refine ⟨fun _ _ _ _ _ _ us hl => match us, hl with | [_], _ => rfl, fun n ks perm h => ?_⟩
  simp only [e_whole, List.mem_cons, List.not_mem_nil, or_false, Prod.mk.injEq] at h
theorem b_added : BindOk e_added := by
  refine ⟨fun _ _ _ _ _ _ us hl => match us, hl with | [_, _], _ => rfl, fun n ks perm h => ?_⟩
  simp only [e_added, List.mem_cons, List.not_mem_nil, or_false, Prod.mk.injEq] at h
theorem b_taken : BindOk e_taken := by
  refine ⟨fun _ _ _ _ _ _ us hl => match us, hl with | [_, _], _ => rfl, fun n ks perm h => ?_⟩
  simp only [e_taken, List.mem_cons, List.not_mem_nil, or_false, Prod.mk.injEq] at h
theorem b_times : BindOk e_times := by
  refine ⟨fun _ _ _ _ _ _ us hl => match us, hl with | [_, _], _ => rfl, fun n ks perm h => ?_⟩
  simp only [e_times, List.mem_cons, List.not_mem_nil, or_false, Prod.mk.injEq] at h
theorem b_over : BindOk e_over := by
  refine ⟨fun _ _ _ _ _ _ us hl => match us, hl with | [_, _], _ => rfl, fun n ks perm h => ?_⟩
  simp only [e_over, List.mem_cons, List.not_mem_nil, or_false, Prod.mk.injEq] at h
theorem b_is_prime : BindOk e_is_prime := by
  refine ⟨fun _ _ _ _ _ _ us hl => match us, hl with | [_, _], _ => rfl, fun n ks perm h => ?_⟩
  simp only [e_is_prime, List.mem_cons, List.not_mem_nil, or_false, Prod.mk.injEq] at h
theorem b_is_plain_row : BindOk e_is_plain_row := by
  refine ⟨fun _ _ _ _ _ _ us hl => match us, hl with | [_], _ => rfl, fun n ks perm h => ?_⟩
  simp only [e_is_plain_row, List.mem_cons, List.not_mem_nil, or_false, Prod.mk.injEq] at h
theorem b_sure_plain_row : BindOk e_sure_plain_row := by
  refine ⟨fun _ _ _ _ _ _ us hl => match us, hl with | [_], _ => rfl, fun n ks perm h => ?_⟩
  simp only [e_sure_plain_row, List.mem_cons, List.not_mem_nil, or_false, Prod.mk.injEq] at h
theorem b_divisors_in : BindOk e_divisors_in := by
  refine ⟨fun _ _ _ _ _ _ us hl => match us, hl with | [_], _ => rfl, fun n ks perm h => ?_⟩
  simp only [e_divisors_in, List.mem_cons, List.not_mem_nil, or_false, Prod.mk.injEq] at h
theorem b_primes_in : BindOk e_primes_in := by
  refine ⟨fun _ _ _ _ _ _ us hl => match us, hl with | [_], _ => rfl, fun n ks perm h => ?_⟩
  simp only [e_primes_in, List.mem_cons, List.not_mem_nil, or_false, Prod.mk.injEq] at h
theorem b_power_in : BindOk e_power_in := by
  refine ⟨fun _ _ _ _ _ _ us hl => match us, hl with | [_, _], _ => rfl, fun n ks perm h => ?_⟩
  simp only [e_power_in, List.mem_cons, List.not_mem_nil, or_false, Prod.mk.injEq] at h
theorem b_is_broken_at : BindOk e_is_broken_at := by
  refine ⟨fun _ _ _ _ _ _ us hl => match us, hl with | [_, _, _], _ => rfl, fun n ks perm h => ?_⟩
  simp only [e_is_broken_at, List.mem_cons, List.not_mem_nil, or_false, Prod.mk.injEq] at h
theorem b_broken_in : BindOk e_broken_in := by
  refine ⟨fun _ _ _ _ _ _ us hl => match us, hl with | [_], _ => rfl, fun n ks perm h => ?_⟩
  simp only [e_broken_in, List.mem_cons, List.not_mem_nil, or_false, Prod.mk.injEq] at h
theorem b_frees_in : BindOk e_frees_in := by
  refine ⟨fun _ _ _ _ _ _ us hl => match us, hl with | [_], _ => rfl, fun n ks perm h => ?_⟩
  simp only [e_frees_in, List.mem_cons, List.not_mem_nil, or_false, Prod.mk.injEq] at h
theorem b_broken_place : BindOk e_broken_place := by
  refine ⟨fun _ _ _ _ _ _ us hl => match us, hl with | [_], _ => rfl, fun n ks perm h => ?_⟩
  simp only [e_broken_place, List.mem_cons, List.not_mem_nil, or_false, Prod.mk.injEq] at h
theorem b_frees_of : BindOk e_frees_of := by
  refine ⟨fun _ _ _ _ _ _ us hl => match us, hl with | [_], _ => rfl, fun n ks perm h => ?_⟩
  simp only [e_frees_of, List.mem_cons, List.not_mem_nil, or_false, Prod.mk.injEq] at h
theorem b_b_numbers : BindOk e_b_numbers := by
  refine ⟨fun _ _ _ _ _ _ us hl => match us, hl with | [_], _ => rfl, fun n ks perm h => ?_⟩
  simp only [e_b_numbers, List.mem_cons, List.not_mem_nil, or_false, Prod.mk.injEq] at h
theorem b_discriminant_in : BindOk e_discriminant_in := by
  refine ⟨fun _ _ _ _ _ _ us hl => match us, hl with | [_], _ => rfl, fun n ks perm h => ?_⟩
  simp only [e_discriminant_in, List.mem_cons, List.not_mem_nil, or_false, Prod.mk.injEq] at h
theorem b_is_curve : BindOk e_is_curve := by
  refine ⟨fun _ _ _ _ _ _ us hl => match us, hl with | [_], _ => rfl, fun n ks perm h => ?_⟩
  simp only [e_is_curve, List.mem_cons, List.not_mem_nil, or_false, Prod.mk.injEq] at h
theorem b_sure_curve : BindOk e_sure_curve := by
  refine ⟨fun _ _ _ _ _ _ us hl => match us, hl with | [_], _ => rfl, fun n ks perm h => ?_⟩
  simp only [e_sure_curve, List.mem_cons, List.not_mem_nil, or_false, Prod.mk.injEq] at h
theorem b_sure_curve_prime : BindOk e_sure_curve_prime := by
  refine ⟨fun _ _ _ _ _ _ us hl => match us, hl with | [_], _ => rfl, fun n ks perm h => ?_⟩
  simp only [e_sure_curve_prime, List.mem_cons, List.not_mem_nil, or_false, Prod.mk.injEq] at h
theorem b_curve_numbers : BindOk e_curve_numbers := by
  refine ⟨fun _ _ _ _ _ _ us hl => match us, hl with | [_], _ => rfl, fun n ks perm h => ?_⟩
  simp only [e_curve_numbers, List.mem_cons, List.not_mem_nil, or_false, Prod.mk.injEq] at h
theorem b_slants_at : BindOk e_slants_at := by
  refine ⟨fun _ _ _ _ _ _ us hl => match us, hl with | [_, _], _ => rfl, fun n ks perm h => ?_⟩
  simp only [e_slants_at, List.mem_cons, List.not_mem_nil, or_false, Prod.mk.injEq] at h
theorem b_stands_on : BindOk e_stands_on := by
  refine ⟨fun _ _ _ _ _ _ us hl => match us, hl with | [_, _, _], _ => rfl, fun n ks perm h => ?_⟩
  simp only [e_stands_on, List.mem_cons, List.not_mem_nil, or_false, Prod.mk.injEq] at h
theorem b_is_sharp : BindOk e_is_sharp := by
  refine ⟨fun _ _ _ _ _ _ us hl => match us, hl with | [_, _, _], _ => rfl, fun n ks perm h => ?_⟩
  simp only [e_is_sharp, List.mem_cons, List.not_mem_nil, or_false, Prod.mk.injEq] at h
theorem b_points_in : BindOk e_points_in := by
  refine ⟨fun _ _ _ _ _ _ us hl => match us, hl with | [_, _], _ => rfl, fun n ks perm h => ?_⟩
  simp only [e_points_in, List.mem_cons, List.not_mem_nil, or_false, Prod.mk.injEq] at h
theorem b_is_smooth : BindOk e_is_smooth := by
  refine ⟨fun _ _ _ _ _ _ us hl => match us, hl with | [_, _], _ => rfl, fun n ks perm h => ?_⟩
  simp only [e_is_smooth, List.mem_cons, List.not_mem_nil, or_false, Prod.mk.injEq] at h
theorem b_count_in : BindOk e_count_in := by
  refine ⟨fun _ _ _ _ _ _ us hl => match us, hl with | [_, _], _ => rfl, fun n ks perm h => ?_⟩
  simp only [e_count_in, List.mem_cons, List.not_mem_nil, or_false, Prod.mk.injEq] at h
theorem b_kind_in : BindOk e_kind_in := by
  refine ⟨fun _ _ _ _ _ _ us hl => match us, hl with | [_, _], _ => rfl, fun n ks perm h => ?_⟩
  simp only [e_kind_in, List.mem_cons, List.not_mem_nil, or_false, Prod.mk.injEq] at h
theorem b_points_of : BindOk e_points_of := by
  refine ⟨fun _ _ _ _ _ _ us hl => match us, hl with | [_, _], _ => rfl, fun n ks perm h => ?_⟩
  simp only [e_points_of, List.mem_cons, List.not_mem_nil, or_false, Prod.mk.injEq] at h
theorem b_count_at : BindOk e_count_at := by
  refine ⟨fun _ _ _ _ _ _ us hl => match us, hl with | [_, _], _ => rfl, fun n ks perm h => ?_⟩
  simp only [e_count_at, List.mem_cons, List.not_mem_nil, or_false, Prod.mk.injEq] at h
  obtain ⟨rfl, rfl, rfl⟩ := h
  exact fun _ _ _ _ _ _ us ws hu hw => match us, ws, hu, hw with | [], [_, _], _, _ => rfl
theorem b_kind_at : BindOk e_kind_at := by
  refine ⟨fun _ _ _ _ _ _ us hl => match us, hl with | [_, _], _ => rfl, fun n ks perm h => ?_⟩
  simp only [e_kind_at, List.mem_cons, List.not_mem_nil, or_false, Prod.mk.injEq] at h
  obtain ⟨rfl, rfl, rfl⟩ := h
  exact fun _ _ _ _ _ _ us ws hu hw => match us, ws, hu, hw with | [], [_, _], _, _ => rfl
theorem b_field_counts : BindOk e_field_counts := by
  refine ⟨fun _ _ _ _ _ _ us hl => match us, hl with | [_, _, _], _ => rfl, fun n ks perm h => ?_⟩
  simp only [e_field_counts, List.mem_cons, List.not_mem_nil, or_false, Prod.mk.injEq] at h
  obtain ⟨rfl, rfl, rfl⟩ := h
  exact fun _ _ _ _ _ _ us ws hu hw => match us, ws, hu, hw with | [], [_, _, _], _, _ => rfl
theorem b_u_law_box : BindOk e_u_law_box := by
  refine ⟨fun _ _ _ _ _ _ us hl => match us, hl with | [_, _], _ => rfl, fun n ks perm h => ?_⟩
  simp only [e_u_law_box, List.mem_cons, List.not_mem_nil, or_false, Prod.mk.injEq] at h
theorem b_u_law_take : BindOk e_u_law_take := by
  refine ⟨fun _ _ _ _ _ _ us hl => match us, hl with | [_, _], _ => rfl, fun n ks perm h => ?_⟩
  simp only [e_u_law_take, List.mem_cons, List.not_mem_nil, or_false, Prod.mk.injEq] at h
theorem b_u_law_cells : BindOk e_u_law_cells := by
  refine ⟨fun _ _ _ _ _ _ us hl => match us, hl with | [_, _], _ => rfl, fun n ks perm h => ?_⟩
  simp only [e_u_law_cells, List.mem_cons, List.not_mem_nil, or_false, Prod.mk.injEq] at h
theorem b_u_law_of : BindOk e_u_law_of := by
  refine ⟨fun _ _ _ _ _ _ us hl => match us, hl with | [_, _], _ => rfl, fun n ks perm h => ?_⟩
  simp only [e_u_law_of, List.mem_cons, List.not_mem_nil, or_false, Prod.mk.injEq] at h
theorem b_u_law_same : BindOk e_u_law_same := by
  refine ⟨fun _ _ _ _ _ _ us hl => match us, hl with | [_, _], _ => rfl, fun n ks perm h => ?_⟩
  simp only [e_u_law_same, List.mem_cons, List.not_mem_nil, or_false, Prod.mk.injEq] at h
theorem b_u_law_unfit : BindOk e_u_law_unfit := by
  refine ⟨fun _ _ _ _ _ _ us hl => match us, hl with | [_], _ => rfl, fun n ks perm h => ?_⟩
  simp only [e_u_law_unfit, List.mem_cons, List.not_mem_nil, or_false, Prod.mk.injEq] at h
theorem b_u_law_discriminant : BindOk e_u_law_discriminant := by
  refine ⟨fun _ _ _ _ _ _ us hl => match us, hl with | [_], _ => rfl, fun n ks perm h => ?_⟩
  simp only [e_u_law_discriminant, List.mem_cons, List.not_mem_nil, or_false, Prod.mk.injEq] at h
theorem b_u_law_curve : BindOk e_u_law_curve := by
  refine ⟨fun _ _ _ _ _ _ us hl => match us, hl with | [_, _], _ => rfl, fun n ks perm h => ?_⟩
  simp only [e_u_law_curve, List.mem_cons, List.not_mem_nil, or_false, Prod.mk.injEq] at h
theorem b_u_law_stands : BindOk e_u_law_stands := by
  refine ⟨fun _ _ _ _ _ _ us hl => match us, hl with | [_, _, _, _], _ => rfl, fun n ks perm h => ?_⟩
  simp only [e_u_law_stands, List.mem_cons, List.not_mem_nil, or_false, Prod.mk.injEq] at h
theorem b_u_law_is_sharp : BindOk e_u_law_is_sharp := by
  refine ⟨fun _ _ _ _ _ _ us hl => match us, hl with | [_, _, _, _], _ => rfl, fun n ks perm h => ?_⟩
  simp only [e_u_law_is_sharp, List.mem_cons, List.not_mem_nil, or_false, Prod.mk.injEq] at h
theorem b_u_law_places : BindOk e_u_law_places := by
  refine ⟨fun _ _ _ _ _ _ us hl => match us, hl with | [_, _], _ => rfl, fun n ks perm h => ?_⟩
  simp only [e_u_law_places, List.mem_cons, List.not_mem_nil, or_false, Prod.mk.injEq] at h
theorem b_u_law_heard : BindOk e_u_law_heard := by
  refine ⟨fun _ _ _ _ _ _ us hl => match us, hl with | [_, _, _], _ => rfl, fun n ks perm h => ?_⟩
  simp only [e_u_law_heard, List.mem_cons, List.not_mem_nil, or_false, Prod.mk.injEq] at h
theorem b_u_law_times : BindOk e_u_law_times := by
  refine ⟨fun _ _ _ _ _ _ us hl => match us, hl with | [_, _, _, _, _], _ => rfl, fun n ks perm h => ?_⟩
  simp only [e_u_law_times, List.mem_cons, List.not_mem_nil, or_false, Prod.mk.injEq] at h
theorem b_u_law_over_pairs : BindOk e_u_law_over_pairs := by
  refine ⟨fun _ _ _ _ _ _ us hl => match us, hl with | [_, _], _ => rfl, fun n ks perm h => ?_⟩
  simp only [e_u_law_over_pairs, List.mem_cons, List.not_mem_nil, or_false, Prod.mk.injEq] at h
theorem b_law : BindOk e_law := by
  refine ⟨fun _ _ _ _ _ _ us hl => match us, hl with | [_], _ => rfl, fun n ks perm h => ?_⟩
  simp only [e_law, List.mem_cons, List.not_mem_nil, or_false, Prod.mk.injEq] at h
theorem all_of {p : Ent → Prop} (h0 : p e_is_number) (h1 : p e_is_within) (h2 : p e_are_numbers) (h3 : p e_tupled) (h4 : p e_in_bounds) (h5 : p e_sure_within) (h6 : p e_common) (h7 : p e_cut_down) (h8 : p e_whole) (h9 : p e_added) (h10 : p e_taken) (h11 : p e_times) (h12 : p e_over) (h13 : p e_is_prime) (h14 : p e_is_plain_row) (h15 : p e_sure_plain_row) (h16 : p e_divisors_in) (h17 : p e_primes_in) (h18 : p e_power_in) (h19 : p e_is_broken_at) (h20 : p e_broken_in) (h21 : p e_frees_in) (h22 : p e_broken_place) (h23 : p e_frees_of) (h24 : p e_b_numbers) (h25 : p e_discriminant_in) (h26 : p e_is_curve) (h27 : p e_sure_curve) (h28 : p e_sure_curve_prime) (h29 : p e_curve_numbers) (h30 : p e_slants_at) (h31 : p e_stands_on) (h32 : p e_is_sharp) (h33 : p e_points_in) (h34 : p e_is_smooth) (h35 : p e_count_in) (h36 : p e_kind_in) (h37 : p e_points_of) (h38 : p e_count_at) (h39 : p e_kind_at) (h40 : p e_field_counts) (h41 : p e_u_law_box) (h42 : p e_u_law_take) (h43 : p e_u_law_cells) (h44 : p e_u_law_of) (h45 : p e_u_law_same) (h46 : p e_u_law_unfit) (h47 : p e_u_law_discriminant) (h48 : p e_u_law_curve) (h49 : p e_u_law_stands) (h50 : p e_u_law_is_sharp) (h51 : p e_u_law_places) (h52 : p e_u_law_heard) (h53 : p e_u_law_times) (h54 : p e_u_law_over_pairs) (h55 : p e_law) : ∀ e ∈ es, p e := by
  intro e he
  simp only [es, List.mem_cons, List.not_mem_nil, or_false] at he
  rcases he with rfl | rfl | rfl | rfl | rfl | rfl | rfl | rfl | rfl | rfl | rfl | rfl | rfl | rfl | rfl | rfl | rfl | rfl | rfl | rfl | rfl | rfl | rfl | rfl | rfl | rfl | rfl | rfl | rfl | rfl | rfl | rfl | rfl | rfl | rfl | rfl | rfl | rfl | rfl | rfl | rfl | rfl | rfl | rfl | rfl | rfl | rfl | rfl | rfl | rfl | rfl | rfl | rfl | rfl | rfl | rfl
  · exact h0
  · exact h1
  · exact h2
  · exact h3
  · exact h4
  · exact h5
  · exact h6
  · exact h7
  · exact h8
  · exact h9
  · exact h10
  · exact h11
  · exact h12
  · exact h13
  · exact h14
  · exact h15
  · exact h16
  · exact h17
  · exact h18
  · exact h19
  · exact h20
  · exact h21
  · exact h22
  · exact h23
  · exact h24
  · exact h25
  · exact h26
  · exact h27
  · exact h28
  · exact h29
  · exact h30
  · exact h31
  · exact h32
  · exact h33
  · exact h34
  · exact h35
  · exact h36
  · exact h37
  · exact h38
  · exact h39
  · exact h40
  · exact h41
  · exact h42
  · exact h43
  · exact h44
  · exact h45
  · exact h46
  · exact h47
  · exact h48
  · exact h49
  · exact h50
  · exact h51
  · exact h52
  · exact h53
  · exact h54
  · exact h55
theorem hall : ∀ e ∈ es, entB (tabOf es gls cls) e = true := all_of c_is_number c_is_within c_are_numbers c_tupled c_in_bounds c_sure_within c_common c_cut_down c_whole c_added c_taken c_times c_over c_is_prime c_is_plain_row c_sure_plain_row c_divisors_in c_primes_in c_power_in c_is_broken_at c_broken_in c_frees_in c_broken_place c_frees_of c_b_numbers c_discriminant_in c_is_curve c_sure_curve c_sure_curve_prime c_curve_numbers c_slants_at c_stands_on c_is_sharp c_points_in c_is_smooth c_count_in c_kind_in c_points_of c_count_at c_kind_at c_field_counts c_u_law_box c_u_law_take c_u_law_cells c_u_law_of c_u_law_same c_u_law_unfit c_u_law_discriminant c_u_law_curve c_u_law_stands c_u_law_is_sharp c_u_law_places c_u_law_heard c_u_law_times c_u_law_over_pairs c_law
theorem hbind : ∀ e ∈ es, BindOk e := all_of b_is_number b_is_within b_are_numbers b_tupled b_in_bounds b_sure_within b_common b_cut_down b_whole b_added b_taken b_times b_over b_is_prime b_is_plain_row b_sure_plain_row b_divisors_in b_primes_in b_power_in b_is_broken_at b_broken_in b_frees_in b_broken_place b_frees_of b_b_numbers b_discriminant_in b_is_curve b_sure_curve b_sure_curve_prime b_curve_numbers b_slants_at b_stands_on b_is_sharp b_points_in b_is_smooth b_count_in b_kind_in b_points_of b_count_at b_kind_at b_field_counts b_u_law_box b_u_law_take b_u_law_cells b_u_law_of b_u_law_same b_u_law_unfit b_u_law_discriminant b_u_law_curve b_u_law_stands b_u_law_is_sharp b_u_law_places b_u_law_heard b_u_law_times b_u_law_over_pairs b_law
end K71

set_option Elab.async false
set_option linter.all false
set_option maxRecDepth 100000
set_option maxHeartbeats 0
/-! K71_Head: the head with facts, printed by genx.py. -/
namespace K71
open PySem PySem.Spec PyProof.Rows L2 IR
def dD (e : Ent) : He.DefD := ⟨(e.name, none), e.name, e.name, defArgs e.st, defBody e.st, defScope e.st, [], []⟩
def fn : List He.DefD := es.map dD
def faI : List He.Fa := [.int "MOST" 1000000000000000000000000000000, .int "MOST_ROW" 60, .int "MOST_CURVE" 1000000, .int "MOST_PRIME" 97]
def faC : List He.Fa := [.glo "CanNot", .glo "Unfit", .exc "CanNot", .exc "Unfit", .exm "CanNot" "CanNot" true, .exm "CanNot" "Unfit" false, .exm "Unfit" "CanNot" false, .exm "Unfit" "Unfit" true]
def ex (K : PySem.W.Frag) : Bool := cls.all fun c => xcB K c.1
def fa : List He.Fa := es.map (fun e => .glo e.name) ++ (blts.map (fun x => .free x) ++ (faI ++ faC))
def loose0 : List Str := ["is_number", "is_within", "are_numbers", "tupled", "in_bounds", "sure_within", "common", "cut_down", "whole", "added", "taken", "times", "over", "is_prime", "is_plain_row", "sure_plain_row", "divisors_in", "primes_in", "power_in", "is_broken_at", "broken_in", "frees_in", "broken_place", "frees_of", "b_numbers", "discriminant_in", "is_curve", "sure_curve", "sure_curve_prime", "curve_numbers"]
def loose1 : List Str := ["slants_at", "stands_on", "is_sharp", "points_in", "is_smooth", "count_in", "kind_in", "points_of", "count_at", "kind_at", "field_counts", "_law_box", "_law_take", "_law_cells", "_law_of", "_law_same", "_law_unfit", "_law_discriminant", "_law_curve", "_law_stands", "_law_is_sharp", "_law_places", "_law_heard", "_law_times", "_law_over_pairs", "MOST", "MOST_ROW", "MOST_CURVE", "MOST_PRIME", "CanNot"]
def loose2 : List Str := ["Unfit"]
def loose : List Str := loose0 ++ loose1 ++ loose2
abbrev R : PySem.W.OpenRow := PySem.W.OpenLaw.row PySem.Challenge.rw_shapelots_k71_main_counts_kinds_and_grea
abbrev hk : PySem.W.Hook := hookE 4 fa fn ex
def ob (s : PySem.W.SharedT) : He.AlD × Bool := obsE 4 fa fn ex (HandSHeadRun.getT s)
theorem ob_eq (s : PySem.W.SharedT) : ob s = hk.obs s.abs := obsE_eq (HandSHeadRun.getT_eq s)
theorem headRun (w : World) : HandSHeadRun.RunEq R (PySem.W.view R.prog [66]) hk ob 4000 loose w := by
  intro os
  kernel_rfl
end K71

set_option linter.all false
set_option maxRecDepth 100000
namespace K71
open IR PySem EC
def consts : List D := [.int (10 ^ 30), .int 60, .int 1000000, .int 97]
/-- the primes the law asks of -/
abbrev PLs : List Int := [2, 3, 5, 7, 11, 13, 17, 23, 31, 47, 37]
local macro_rules | `(tactic| simp_arith [$xs,*]) => `(tactic| simp only [↓getV_z, ↓getV_s, ↓setK_z, ↓setK_s, ↓wipeK_n, ↓wipeK_c, ↓asgW_nm, ↓asgW_tp, ↓asgW_tl, ↓asgsW_n, ↓asgsW_c, ↓x_var, ↓x_int, ↓x_bl, ↓x_non, ↓x_str, ↓x_glob, ↓globW_z, ↓globW_s, ↓x_bin, ↓x_neg, ↓negW_i, ↓x_cmp, ↓two_t, ↓two_f, ↓two_n, ↓two_and, ↓two_or, ↓x_chain, ↓chainW_b, ↓x_isN, ↓x_notN, ↓isNW_n, ↓isNW_i, ↓isNW_b, ↓isNW_s, ↓isNW_t, ↓isNW_l, ↓isNW_r, ↓x_and, ↓x_or, ↓x_not, ↓x_ite, ↓x_tup0, ↓x_tup1, ↓x_tup2, ↓x_tup3, ↓x_tup4, ↓x_tup5, ↓x_lst0, ↓x_lst1, ↓x_lst2, ↓x_lst3, ↓x_lst4, ↓x_lst5, ↓x_lst6, ↓x_tup6, ↓x_sub, ↓x_dsel, ↓x_slc, ↓xo_n, ↓xo_s, ↓partW_i, ↓x_call1, ↓x_call2, ↓x_call3, ↓x_call4, ↓x_call5, ↓x_call6, ↓x_callk, ↓xs_n, ↓xs_c, ↓x_bi1, ↓x_bi2, ↓x_isi, ↓x_app, ↓x_ext, ↓x_lc, ↓rq_lo, ↓rq_hi, ↓b_and, ↓b_or, ↓b_not, ↓b_cmp, ↓b_chain, ↓b_isN, ↓b_notN, ↓b_var, ↓b_call, ↓b_callk, ↓b_bi, ↓b_isi, ↓b_bin, ↓b_bl, ↓b_sub, ↓ob_n, ↓ob_s, ↓add_i, ↓sub_i, ↓mul_i, ↓mod_i, ↓fdiv_i, ↓pow_i, ↓add_t, ↓add_l, ↓mul_l, ↓newL_f, ↓newL_t, ↓frz_i, ↓frz_b, ↓frz_n, ↓frz_s, ↓frz_t, ↓frz_l, ↓frz_k, ↓eq_i, ↓ne_i, ↓eq_b, ↓eq_s, ↓ne_b, ↓lt_i, ↓le_i, ↓gt_i, ↓ge_i, ↓eq_t, ↓ne_t, ↓eq_l, ↓ne_l, ↓tru_b, ↓tru_i, ↓tru_n, ↓tru_t, ↓tru_l, ↓boo_b, ↓sub_t, ↓sub_l, ↓atW_s, ↓at_0, ↓at_1, ↓at_2, ↓at_3, ↓at_4, ↓isi_i, ↓isi_b, ↓isi_s, ↓isi_t, ↓isi_l, ↓isi_n, ↓len_t, ↓len_l, ↓len_s, ↓abs_i, ↓int_i, ↓int_b, ↓tup_l, ↓tup_t, ↓lis_l, ↓lis_t, ↓app_p, ↓isl_p, ↓tup_p, ↓ext_p, ↓ext_pt, ↓sub_p, ↓len_p, ↓isi_p, ↓tru_p, ↓sto3_0, ↓sto3_1, ↓sto3_2, ↓slc_s, ↓slc_t, ↓slc_l, ↓aug_a, ↓aug_s, ↓aug_m, ↓aug_d, ↓i_seq, ↓seq_t, ↓seq_l, ↓seq_p, ↓i_rng1, ↓rngW_i, ↓i_rng2, ↓rng2W_i, ↓i_enum0, ↓i_enum1, ↓i_zip, ↓zipW_t, ↓zipW_l, ↓ss_n, ↓ss_c, ↓s_asg, ↓s_par2, ↓s_par3, ↓s_sto, ↓s_aug, ↓s_exp, ↓s_ret, ↓s_ife, ↓s_fr, ↓s_whl, ↓s_rse, ↓s_tr, ↓s_pass, ↓s_brk, ↓s_cnt, any_bool_int, any_bool_bool, any_bool_tuple, any_bool_list, any_bool_str, any_bool_list_tuple, any_bool_bool_str, any_bool_int_str, any_bool_tuple_list, any_int_int, any_int_bool, any_int_tuple, any_int_list, any_int_str, any_int_list_tuple, any_int_bool_str, any_int_int_str, any_int_tuple_list, any_str_int, any_str_bool, any_str_tuple, any_str_list, any_str_str, any_str_list_tuple, any_str_bool_str, any_str_int_str, any_str_tuple_list, any_tuple_int, any_tuple_bool, any_tuple_tuple, any_tuple_list, any_tuple_str, any_tuple_list_tuple, any_tuple_bool_str, any_tuple_int_str, any_tuple_tuple_list, any_list_int, any_list_bool, any_list_tuple, any_list_list, any_list_str, any_list_list_tuple, any_list_bool_str, any_list_int_str, any_list_tuple_list, lstW, tupW, mulOk_l, mulOk_r, Nat.reduceMul, Nat.reduceAdd, Nat.reduceLT, Nat.reduceLeDiff, Nat.reduceSub, not_false_eq_true, true_and, and_true, Bool.not_true, Bool.not_false, List.map_cons, List.map_nil, List.replicate_succ, List.replicate_zero, List.cons_append, List.nil_append, $xs,*])
local macro_rules | `(tactic| simp_all_arith [$xs,*]) => `(tactic| simp only [↓getV_z, ↓getV_s, ↓setK_z, ↓setK_s, ↓wipeK_n, ↓wipeK_c, ↓asgW_nm, ↓asgW_tp, ↓asgW_tl, ↓asgsW_n, ↓asgsW_c, ↓x_var, ↓x_int, ↓x_bl, ↓x_non, ↓x_str, ↓x_glob, ↓globW_z, ↓globW_s, ↓x_bin, ↓x_neg, ↓negW_i, ↓x_cmp, ↓two_t, ↓two_f, ↓two_n, ↓two_and, ↓two_or, ↓x_chain, ↓chainW_b, ↓x_isN, ↓x_notN, ↓isNW_n, ↓isNW_i, ↓isNW_b, ↓isNW_s, ↓isNW_t, ↓isNW_l, ↓isNW_r, ↓x_and, ↓x_or, ↓x_not, ↓x_ite, ↓x_tup0, ↓x_tup1, ↓x_tup2, ↓x_tup3, ↓x_tup4, ↓x_tup5, ↓x_lst0, ↓x_lst1, ↓x_lst2, ↓x_lst3, ↓x_lst4, ↓x_lst5, ↓x_lst6, ↓x_tup6, ↓x_sub, ↓x_dsel, ↓x_slc, ↓xo_n, ↓xo_s, ↓partW_i, ↓x_call1, ↓x_call2, ↓x_call3, ↓x_call4, ↓x_call5, ↓x_call6, ↓x_callk, ↓xs_n, ↓xs_c, ↓x_bi1, ↓x_bi2, ↓x_isi, ↓x_app, ↓x_ext, ↓x_lc, ↓rq_lo, ↓rq_hi, ↓b_and, ↓b_or, ↓b_not, ↓b_cmp, ↓b_chain, ↓b_isN, ↓b_notN, ↓b_var, ↓b_call, ↓b_callk, ↓b_bi, ↓b_isi, ↓b_bin, ↓b_bl, ↓b_sub, ↓ob_n, ↓ob_s, ↓add_i, ↓sub_i, ↓mul_i, ↓mod_i, ↓fdiv_i, ↓pow_i, ↓add_t, ↓add_l, ↓mul_l, ↓newL_f, ↓newL_t, ↓frz_i, ↓frz_b, ↓frz_n, ↓frz_s, ↓frz_t, ↓frz_l, ↓frz_k, ↓eq_i, ↓ne_i, ↓eq_b, ↓eq_s, ↓ne_b, ↓lt_i, ↓le_i, ↓gt_i, ↓ge_i, ↓eq_t, ↓ne_t, ↓eq_l, ↓ne_l, ↓tru_b, ↓tru_i, ↓tru_n, ↓tru_t, ↓tru_l, ↓boo_b, ↓sub_t, ↓sub_l, ↓atW_s, ↓at_0, ↓at_1, ↓at_2, ↓at_3, ↓at_4, ↓isi_i, ↓isi_b, ↓isi_s, ↓isi_t, ↓isi_l, ↓isi_n, ↓len_t, ↓len_l, ↓len_s, ↓abs_i, ↓int_i, ↓int_b, ↓tup_l, ↓tup_t, ↓lis_l, ↓lis_t, ↓app_p, ↓isl_p, ↓tup_p, ↓ext_p, ↓ext_pt, ↓sub_p, ↓len_p, ↓isi_p, ↓tru_p, ↓sto3_0, ↓sto3_1, ↓sto3_2, ↓slc_s, ↓slc_t, ↓slc_l, ↓aug_a, ↓aug_s, ↓aug_m, ↓aug_d, ↓i_seq, ↓seq_t, ↓seq_l, ↓seq_p, ↓i_rng1, ↓rngW_i, ↓i_rng2, ↓rng2W_i, ↓i_enum0, ↓i_enum1, ↓i_zip, ↓zipW_t, ↓zipW_l, ↓ss_n, ↓s_asg, ↓s_par2, ↓s_par3, ↓s_sto, ↓s_aug, ↓s_exp, ↓s_ret, ↓s_ife, ↓s_fr, ↓s_whl, ↓s_rse, ↓s_tr, ↓s_pass, ↓s_brk, ↓s_cnt, any_bool_int, any_bool_bool, any_bool_tuple, any_bool_list, any_bool_str, any_bool_list_tuple, any_bool_bool_str, any_bool_int_str, any_bool_tuple_list, any_int_int, any_int_bool, any_int_tuple, any_int_list, any_int_str, any_int_list_tuple, any_int_bool_str, any_int_int_str, any_int_tuple_list, any_str_int, any_str_bool, any_str_tuple, any_str_list, any_str_str, any_str_list_tuple, any_str_bool_str, any_str_int_str, any_str_tuple_list, any_tuple_int, any_tuple_bool, any_tuple_tuple, any_tuple_list, any_tuple_str, any_tuple_list_tuple, any_tuple_bool_str, any_tuple_int_str, any_tuple_tuple_list, any_list_int, any_list_bool, any_list_tuple, any_list_list, any_list_str, any_list_list_tuple, any_list_bool_str, any_list_int_str, any_list_tuple_list, lstW, tupW, mulOk_l, mulOk_r, Nat.reduceMul, Nat.reduceAdd, Nat.reduceLT, Nat.reduceLeDiff, Nat.reduceSub, not_false_eq_true, true_and, and_true, Bool.not_true, Bool.not_false, List.map_cons, List.map_nil, List.replicate_succ, List.replicate_zero, List.cons_append, List.nil_append, $xs,*])
local macro_rules | `(tactic| simp_all_arith! [$xs,*]) => `(tactic| ((try simp_all_arith [$xs,*]); (repeat (rw [ss_c]; simp_all_arith [$xs,*]))))
local macro_rules | `(tactic| simp_arith! [$xs,*]) => `(tactic| simp only [startR, any_bool_int, any_bool_bool, any_bool_tuple, any_bool_list, any_bool_str, any_bool_list_tuple, any_bool_bool_str, any_bool_int_str, any_bool_tuple_list, any_int_int, any_int_bool, any_int_tuple, any_int_list, any_int_str, any_int_list_tuple, any_int_bool_str, any_int_int_str, any_int_tuple_list, any_str_int, any_str_bool, any_str_tuple, any_str_list, any_str_str, any_str_list_tuple, any_str_bool_str, any_str_int_str, any_str_tuple_list, any_tuple_int, any_tuple_bool, any_tuple_tuple, any_tuple_list, any_tuple_str, any_tuple_list_tuple, any_tuple_bool_str, any_tuple_int_str, any_tuple_tuple_list, any_list_int, any_list_bool, any_list_tuple, any_list_list, any_list_str, any_list_list_tuple, any_list_bool_str, any_list_int_str, any_list_tuple_list, lstW, tupW, mulOk_l, mulOk_r, Nat.reduceMul, Nat.reduceAdd, Nat.reduceLT, Nat.reduceLeDiff, Nat.reduceSub, not_false_eq_true, true_and, and_true, Bool.not_true, Bool.not_false, List.map_cons, List.map_nil, List.replicate_succ, List.replicate_zero, List.cons_append, List.nil_append, $xs,*])
section
variable {k : Nat} {s : S} {Q : D → S → Prop} {X : XT}
def cd (A : Cv) : D := .tup [.int A.a1, .int A.a2, .int A.a3, .int A.a4, .int A.a6]
def pd : Pt → D
  | none => .tup []
  | some (x, y) => .tup [.int x, .int y]
/-- letters by size at most 10 ** 6 -/
class SmC (A : Cv) : Prop where
  b1 : Bd A.a1 1000000
  b2 : Bd A.a2 1000000
  b3 : Bd A.a3 1000000
  b4 : Bd A.a4 1000000
  b6 : Bd A.a6 1000000
instance {A : Cv} [h : SmC A] : Bd A.a1 1000000 := h.b1
instance {A : Cv} [h : SmC A] : Bd A.a2 1000000 := h.b2
instance {A : Cv} [h : SmC A] : Bd A.a3 1000000 := h.b3
instance {A : Cv} [h : SmC A] : Bd A.a4 1000000 := h.b4
instance {A : Cv} [h : SmC A] : Bd A.a6 1000000 := h.b6
theorem ok_is_number (i : Int) (h : Q (.bl true) s) : run prog consts (k + 1) X f_is_number [.int i] s Q := by
  refine run_s at_is_number rfl ?_; simp_arith! [d_is_number]
  simp_arith [true_and]
  exact back_same h
theorem ok_is_within (i a b : Int) (h : Q (.bl (decide (a ≤ i ∧ i ≤ b))) s) : run prog consts (k + 2) X f_is_within [.int i, .int a, .int b] s Q := by
  refine run_s at_is_within rfl ?_; simp_arith! [d_is_within]
  simp_arith [true_and]
  refine ok_is_number i ?_
  simp_arith [true_and]
  rw [two_d]
  constructor
  · intro e
    apply back_same
    simpa [e] using h
  · intro e
    apply back_same
    simpa [e] using h
theorem ok_are_numbers (is : List Int) (hl : is.length ≤ 100) (h : Q (.bl true) s) : run prog consts (k + 2) X f_are_numbers [.tup (is.map D.int)] s Q := by
  refine run_s at_are_numbers rfl ?_; simp_arith! [d_are_numbers]
  simp_arith [true_and]
  refine lc_all D.int (fun _ => .bl true) is trivial ?_ (by unfold SL; omega) ?_
  · intro d _ P hP
    unfold turnC
    simp_arith [true_and]
    refine ok_is_number d ?_
    simp_arith [true_and]
    exact hP
  · rw [show is.map (fun _ => D.bl true) = (is.map fun _ => true).map D.bl by rw [List.map_map]; rfl, all_l]
    apply back_same
    rw [show (is.map fun _ => true).all id = true by simp]
    exact h
theorem ok_tupled_i (i : Int) (h : Q (.int i) s) : run prog consts (k + 1) X f_tupled [.int i] s Q := by
  refine run_s at_tupled rfl ?_; simp_arith! [d_tupled]
  simp_arith [true_and]
  exact back_same h
theorem ok_tupled_t (is : List Int) (hl : is.length ≤ 100) (h : Q (.tup (is.map D.int)) s) : run prog consts (k + 2) X f_tupled [.tup (is.map D.int)] s Q := by
  refine run_s at_tupled rfl ?_; simp_arith! [d_tupled]
  simp_arith [true_and]
  refine lc_all D.int D.int is trivial ?_ (by unfold SL; omega) ?_
  · intro d _ P hP
    unfold turnC
    simp_arith [true_and]
    exact ok_tupled_i d hP
  · exact back_same h
theorem ok_tupled_l (is : List Int) (hl : is.length ≤ 100) (h : Q (.tup (is.map D.int)) s) : run prog consts (k + 2) X f_tupled [.lv (is.map D.int)] s Q := by
  refine run_s at_tupled rfl ?_; simp_arith! [d_tupled]
  simp_arith [true_and]
  refine lc_all D.int D.int is trivial ?_ (by unfold SL; omega) ?_
  · intro d _ P hP
    unfold turnC
    simp_arith [true_and]
    exact ok_tupled_i d hP
  · exact back_same h
theorem ok_sure_within (i a b : Int) (h1 : a ≤ i) (h2 : i ≤ b) (h : Q (.int i) s) : run prog consts (k + 3) X f_sure_within [.int i, .int a, .int b] s Q := by
  refine run_s at_sure_within rfl ?_; simp_arith! [d_sure_within]
  simp_arith [true_and]
  refine ok_is_within i a b ?_
  simp_arith [true_and]
  rw [show decide (a ≤ i ∧ i ≤ b) = true from by simp [h1, h2], two_t]
  exact back_same h
/-- the primes the laws ask of -/
def PL (p : Int) : Prop := p ∈ PLs
theorem PL_le {p : Int} (h : PL p) : 2 ≤ p ∧ p ≤ 97 := by
  simp [PL] at h
  omega
theorem ok_is_prime (p : Int) (hp : PL p) (h : Q (.bl true) s) : run prog consts (k + 3) X f_is_prime [.int p, .int 97] s Q := by
  have hb := PL_le hp
  have b1 : Bd p 97 := bd_of (by omega) (by omega)
  refine run_s at_is_prime rfl ?_; simp_arith! [d_is_prime]
  simp_arith [true_and]
  refine ok_is_within p 2 97 ?_
  simp_arith [true_and]
  rw [show decide (2 ≤ p ∧ p ≤ 97) = true from by simp [hb.1, hb.2], two_t, rngD_map]
  refine ⟨by omega, lc_map D.int (fun i => if i * i ≤ p then some (.bl (!decide (p % i = 0))) else none) _ trivial ?_ (by rw [rngI_len]; unfold SL; omega) ?_⟩
  · intro d hd P hP
    rw [mem_rngI] at hd
    have b2 : Bd d 97 := bd_of (by omega) (by omega)
    unfold turnC
    simp_arith [true_and]
    rw [two_d]
    constructor
    · intro e
      rw [if_pos e] at hP
      exact ⟨by omega, hP⟩
    · intro e
      rw [if_neg e] at hP
      exact hP
  · have e : asBools (List.filterMap (fun i => if i * i ≤ p then some (D.bl (!decide (p % i = 0))) else none) (rngI 2 (p - 2).toNat)) = some (List.filterMap (fun i => if i * i ≤ p then some (!decide (p % i = 0)) else none) (rngI 2 (p - 2).toNat)) := by
      generalize rngI 2 (p - 2).toNat = l
      induction l with
      | nil => rfl
      | cons a l ih =>
        by_cases c : a * a ≤ p
        · simp only [List.filterMap_cons, if_pos c, asBools, ih, Option.map_some]
        · simp only [List.filterMap_cons, if_neg c, ih]
    unfold biW
    simp only [view, Option.bind_some, e]
    apply back_same
    have e2 : (List.filterMap (fun i => if i * i ≤ p then some (!decide (p % i = 0)) else none) (rngI 2 (p - 2).toNat)).all id = true := by
      simp only [PL, List.mem_cons, List.not_mem_nil, or_false] at hp
      repeat (first | (rcases hp with rfl | hp; · decide +kernel) | (subst hp; decide +kernel))
    rw [e2]
    exact h
theorem ok_b_numbers (A : Cv) [SmC A] (h : Q (.tup [.int (b2 A), .int (b4 A), .int (b6 A), .int (b8 A)]) s) : run prog consts (k + 1) X f_b_numbers [cd A] s Q := by
  refine run_s at_b_numbers rfl ?_; simp_arith! [d_b_numbers]
  simp_arith [cd]
  exact back_same h
theorem ok_discriminant_in (A : Cv) [SmC A] (h : Q (.int (disc A)) s) : run prog consts (k + 2) X f_discriminant_in [cd A] s Q := by
  refine run_s at_discriminant_in rfl ?_; simp_arith! [d_discriminant_in]
  simp_arith [true_and]
  refine ok_b_numbers A ?_
  have i2 : Bd (b2 A) 1000004000000 := ⟨Nat.le_trans (Bd.le (x := A.a1 * A.a1 + 4 * A.a2)) (Nat.le_of_ble_eq_true rfl)⟩
  have i4 : Bd (b4 A) 1000002000000 := ⟨Nat.le_trans (Bd.le (x := 2 * A.a4 + A.a1 * A.a3)) (Nat.le_of_ble_eq_true rfl)⟩
  have i6 : Bd (b6 A) 1000004000000 := ⟨Nat.le_trans (Bd.le (x := A.a3 * A.a3 + 4 * A.a6)) (Nat.le_of_ble_eq_true rfl)⟩
  have i8 : Bd (b8 A) 3000005000000000000 := ⟨Nat.le_trans (Bd.le (x := A.a1 * A.a1 * A.a6 + 4 * A.a2 * A.a6 - A.a1 * A.a3 * A.a4 + A.a2 * A.a3 * A.a3 - A.a4 * A.a4)) (Nat.le_of_ble_eq_true rfl)⟩
  simp_arith [true_and]
  exact back_same h
theorem ok_is_curve (A : Cv) [SmC A] (hd : disc A ≠ 0) (h : Q (.bl true) s) : run prog consts (k + 3) X f_is_curve [cd A] s Q := by
  refine run_s at_is_curve rfl ?_; simp_arith! [d_is_curve]
  simp_arith [true_and]
  refine ok_are_numbers [A.a1, A.a2, A.a3, A.a4, A.a6] (Nat.le_of_ble_eq_true rfl) ?_
  simp_arith [cd]
  rw [show decide ((([D.int A.a1, D.int A.a2, D.int A.a3, D.int A.a4, D.int A.a6].length : Nat) : Int) = 5) = true from rfl, two_t]
  refine ok_discriminant_in A ?_
  simp_arith [true_and]
  apply back_same
  simpa [hd] using h
theorem abs_small {x : Int} (n : Nat) [h : Bd x n] : decide ((if x < 0 then -x else x) > (n : Int)) = false := by
  have := h.le
  simp only [decide_eq_false_iff_not]
  split <;> omega
theorem sure_curve_of (A : Cv) [SmC A] (hd : disc A ≠ 0) (x : D) (ht : ∀ (X : XT) (Q : D → S → Prop), Q (cd A) s → run prog consts (k + 3) X f_tupled [x] s Q) (h : Q (cd A) s) : run prog consts (k + 4) X f_sure_curve [x] s Q := by
  refine run_s at_sure_curve rfl ?_; simp_arith! [d_sure_curve]
  simp_arith [true_and]
  refine ht _ _ ?_
  simp_arith [cd]
  refine ok_is_curve A hd ?_
  simp_arith [true_and]
  refine lc_all D.int (fun i => .bl (decide ((if i < 0 then -i else i) > 1000000))) [A.a1, A.a2, A.a3, A.a4, A.a6] trivial ?_ (by unfold SL; exact Nat.le_of_ble_eq_true rfl) ?_
  · intro d _ P hP
    unfold turnC
    simp_arith [consts]
    exact hP
  · rw [show [A.a1, A.a2, A.a3, A.a4, A.a6].map (fun i => D.bl (decide ((if i < 0 then -i else i) > 1000000))) = (List.map (fun i => (decide ((if i < 0 then -i else i) > (1000000 : Int)))) [A.a1, A.a2, A.a3, A.a4, A.a6]).map D.bl from rfl, any_l]
    have e1 := abs_small (x := A.a1) 1000000
    have e2 := abs_small (x := A.a2) 1000000
    have e3 := abs_small (x := A.a3) 1000000
    have e4 := abs_small (x := A.a4) 1000000
    have e6 := abs_small (x := A.a6) 1000000
    rw [show (List.map (fun i => (decide ((if i < 0 then -i else i) > (1000000 : Int)))) [A.a1, A.a2, A.a3, A.a4, A.a6]).any id = false by
      simp only [List.map_cons, List.map_nil, List.any_cons, List.any_nil, id, Bool.or_eq_false_iff]
      exact ⟨e1, e2, e3, e4, e6, trivial⟩]
    simp_arith [true_and]
    exact back_same h
theorem ok_sure_curve (A : Cv) [SmC A] (hd : disc A ≠ 0) (h : Q (cd A) s) : run prog consts (k + 4) X f_sure_curve [cd A] s Q :=
  sure_curve_of A hd _ (fun X' Q' h' => ok_tupled_t (k := k + 1) [A.a1, A.a2, A.a3, A.a4, A.a6] (Nat.le_of_ble_eq_true rfl) h') h
/-- a curve as a list -/
def cl (A : Cv) : D := .lv [.int A.a1, .int A.a2, .int A.a3, .int A.a4, .int A.a6]
theorem ok_sure_curve_l (A : Cv) [SmC A] (hd : disc A ≠ 0) (h : Q (cd A) s) : run prog consts (k + 4) X f_sure_curve [cl A] s Q :=
  sure_curve_of A hd _ (fun X' Q' h' => ok_tupled_l (k := k + 1) [A.a1, A.a2, A.a3, A.a4, A.a6] (Nat.le_of_ble_eq_true rfl) h') h
theorem ok_sure_curve_prime (p : Int) (hp : PL p) (h : Q (.int p) s) : run prog consts (k + 4) X f_sure_curve_prime [.int p] s Q := by
  refine run_s at_sure_curve_prime rfl ?_; simp_arith! [d_sure_curve_prime]
  simp_arith [consts]
  refine ok_is_prime p hp ?_
  simp_arith [true_and]
  exact back_same h
theorem ok_slants_at (A : Cv) [SmC A] (x y : Int) [Bd x 97] [Bd y 97] (h : Q (.tup [.int (slantA A x y), .int (slantB A x y)]) s) : run prog consts (k + 1) X f_slants_at [cd A, pd (some (x, y))] s Q := by
  refine run_s at_slants_at rfl ?_; simp_arith! [d_slants_at]
  simp_arith [cd, pd]
  exact back_same h
theorem ok_stands_on (A : Cv) [SmC A] (p : Int) (hp : 0 < p) (x y : Int) [Bd x 97] [Bd y 97] (h : Q (.bl (stands A p x y)) s) : run prog consts (k + 1) X f_stands_on [cd A, .int p, pd (some (x, y))] s Q := by
  refine run_s at_stands_on rfl ?_; simp_arith! [d_stands_on]
  simp_arith [cd, pd]
  exact ⟨hp, back_same h⟩
theorem ok_is_sharp (A : Cv) [SmC A] (p : Int) (hp : 0 < p) (x y : Int) [Bd x 97] [Bd y 97] (h : Q (.bl (sharp A p x y)) s) : run prog consts (k + 2) X f_is_sharp [cd A, .int p, pd (some (x, y))] s Q := by
  refine run_s at_is_sharp rfl ?_; simp_arith! [d_is_sharp]
  simp_arith [true_and]
  refine ok_slants_at A x y ?_
  simp_arith [true_and]
  refine ⟨hp, ?_⟩
  unfold sharp at h
  by_cases c : slantA A x y % p = 0
  · simp only [c, decide_true, Bool.true_and] at h
    simp_arith [c, decide_true]
    exact ⟨hp, back_same h⟩
  · simp only [c, decide_false, Bool.false_and] at h
    simp_arith [c, decide_false]
    exact back_same h
theorem bd_in {x p : Int} (hp : p ≤ 97) (h1 : 0 ≤ x) (h2 : x < p) : Bd x 97 := bd_of (by omega) (by omega)
theorem foundLen (A : Cv) (p : Int) (hp : p ≤ 97) : (found A p).length ≤ 9409 := by
  have gen : ∀ xs : List Int, (xs.flatMap fun x => ((rngI 0 p.toNat).filter (stands A p x)).map fun y => (x, y)).length ≤ xs.length * 97 := by
    intro xs
    induction xs with
    | nil => simp
    | cons x xs ih =>
      rw [List.flatMap_cons, List.length_append, List.length_map, List.length_cons]
      have := List.length_filter_le (stands A p x) (rngI 0 p.toNat)
      rw [rngI_len] at this
      omega
  have := gen (rngI 0 p.toNat)
  rw [rngI_len] at this
  unfold found
  omega
theorem ptsLen (A : Cv) (p : Int) (hp : p ≤ 97) : (pts A p).length ≤ 9410 := by
  unfold pts
  rw [List.length_cons, List.length_map]
  have := List.length_filter_le (fun q : Int × Int => !sharp A p q.1 q.2) (found A p)
  have := foundLen A p hp
  omega
/-- the points of one x -/
def ptsX (A : Cv) (p : Int) (x : Int) (ys : List Int) : List Pt := ys.filterMap fun y => if stands A p x y && !sharp A p x y then some (some (x, y)) else none
theorem pts_by (A : Cv) (p : Int) : pts A p = none :: (rngI 0 p.toNat).flatMap fun x => ptsX A p x (rngI 0 p.toNat) := by
  unfold pts found ptsX
  congr 1
  generalize rngI 0 p.toNat = ys
  have gen : ∀ xs : List Int, List.map some (List.filter (fun q : Int × Int => !sharp A p q.1 q.2) (xs.flatMap fun x => (ys.filter (stands A p x)).map fun y => (x, y))) = xs.flatMap fun x => ys.filterMap fun y => if stands A p x y && !sharp A p x y then some (some (x, y)) else none := by
    intro xs
    induction xs with
    | nil => rfl
    | cons x xs ih =>
      rw [List.flatMap_cons, List.flatMap_cons, List.filter_append, List.map_append, ih]
      congr 1
      clear ih
      induction ys with
      | nil => rfl
      | cons y ys ih =>
        cases c : stands A p x y <;> cases d : sharp A p x y <;> simp_all
  exact gen ys
theorem ok_points_in (A : Cv) [SmC A] (p : Int) (hp : 2 ≤ p) (hq : p ≤ 97) (h : ∀ a, s a = none → Q (.ref a) (put s a (.lst ((pts A p).map pd)))) : run prog consts (k + 3) X f_points_in [cd A, .int p] s Q := by
  refine run_s at_points_in rfl ?_; simp_arith! [d_points_in]
  simp_arith [true_and]
  intro a ha
  refine ⟨by omega, by omega, ?_⟩
  rw [rngD_map]
  refine fr_map D.int (fun xs r s' => ∃ acc o1 o2, r = [some (cd A), some (.int p), some (.ref a), o1, o2] ∧ s' = put s a (.lst (acc.map pd)) ∧ acc ++ (xs.flatMap fun x => ptsX A p x (rngI 0 p.toNat)) = pts A p ∧ ∀ x ∈ xs, 0 ≤ x ∧ x < p) ?_ ?_ _ _ _ ⟨[none], none, none, rfl, rfl, (pts_by A p).symm, fun x hx => ?_⟩
  · rintro r s' ⟨acc, o1, o2, rfl, rfl, e, _⟩
    refine ⟨trivial, ?_⟩
    simp only [List.flatMap_nil, List.append_nil] at e
    simp_arith [true_and]
    rw [e]
    exact back_same (h a ha)
  · rintro x xs r s' nx ⟨acc, o1, o2, rfl, rfl, e, hx⟩ hn
    refine ⟨trivial, ?_⟩
    have hx1 := hx x List.mem_cons_self
    have bx : Bd x 97 := bd_in hq hx1.1 hx1.2
    simp_arith [true_and]
    refine ⟨by omega, by omega, ?_⟩
    rw [rngD_map]
    refine fr_map D.int (fun ys r s' => ∃ acc o2, r = [some (cd A), some (.int p), some (.ref a), some (.int x), o2] ∧ s' = put s a (.lst (acc.map pd)) ∧ acc ++ ptsX A p x ys ++ (xs.flatMap fun x => ptsX A p x (rngI 0 p.toNat)) = pts A p ∧ ∀ x ∈ ys, 0 ≤ x ∧ x < p) ?_ ?_ _ _ _ ⟨acc, o2, rfl, rfl, by rw [List.append_assoc]; simpa only [List.flatMap_cons] using e, fun y hy => ?_⟩
    · rintro r s' ⟨acc, o2, rfl, rfl, e, _⟩
      refine ⟨trivial, ?_⟩
      simp_arith [true_and]
      refine hn _ _ ⟨acc, none, none, rfl, rfl, ?_, fun y hy => hx y (List.mem_cons_of_mem _ hy)⟩
      simpa [ptsX] using e
    · rintro y ys r s' nx2 ⟨acc, o2, rfl, rfl, e, hy⟩ hn2
      refine ⟨trivial, ?_⟩
      have hy1 := hy y List.mem_cons_self
      have bby : Bd y 97 := bd_in hq hy1.1 hy1.2
      have hl := congrArg List.length e
      rw [List.length_append, List.length_append] at hl
      have hl2 := ptsLen A p hq
      simp_arith [true_and]
      refine ok_stands_on A p (by omega) x y ?_
      simp_arith [true_and]
      cases c : stands A p x y
      · simp_arith [true_and]
        refine hn2 _ _ ⟨acc, _, rfl, rfl, ?_, fun y hy' => hy y (List.mem_cons_of_mem _ hy')⟩
        simpa [ptsX, c] using e
      · simp_arith [true_and]
        refine ok_is_sharp A p (by omega) x y ?_
        simp_arith [true_and]
        cases c2 : sharp A p x y
        · simp_arith [true_and]
          refine ⟨by rw [List.length_map]; unfold SL; omega, ?_⟩
          refine hn2 _ _ ⟨acc ++ [some (x, y)], _, rfl, ?_, ?_, fun y hy' => hy y (List.mem_cons_of_mem _ hy')⟩
          · rw [List.map_append]; rfl
          · simpa [ptsX, c, c2] using e
        · simp_arith [true_and]
          refine hn2 _ _ ⟨acc, _, rfl, rfl, ?_, fun y hy' => hy y (List.mem_cons_of_mem _ hy')⟩
          simpa [ptsX, c, c2] using e
    · rw [mem_rngI] at hy
      omega
  · rw [mem_rngI] at hx
    omega
theorem ok_is_smooth (A : Cv) [SmC A] (p : Int) (hp : 0 < p) (h : Q (.bl (!decide (disc A % p = 0))) s) : run prog consts (k + 3) X f_is_smooth [cd A, .int p] s Q := by
  refine run_s at_is_smooth rfl ?_; simp_arith! [d_is_smooth]
  simp_arith [true_and]
  refine ok_discriminant_in A ?_
  simp_arith [true_and]
  exact ⟨hp, back_same h⟩
theorem ok_count_in (A : Cv) [SmC A] (p : Int) (hp : 2 ≤ p) (hq : p ≤ 97) (h : Q (.int (p + (if disc A % p = 0 then 0 else 1) - (pts A p).length)) s) : run prog consts (k + 4) X f_count_in [cd A, .int p] s Q := by
  refine run_s at_count_in rfl ?_; simp_arith! [d_count_in]
  simp_arith [true_and]
  refine ok_is_smooth A p (by omega) ?_
  simp_arith [true_and]
  refine ok_points_in A p hp hq ?_
  intro a ha
  rw [frz_put ha]
  simp_arith [true_and]
  apply back_same
  rw [List.length_map]
  by_cases c : disc A % p = 0
  · simpa [c] using h
  · simpa [c] using h
theorem fine_pd (P : Pt) : fine (pd P) := by
  cases P with
  | none => exact ⟨rfl, Nat.le_of_ble_eq_true rfl⟩
  | some q => exact ⟨rfl, Nat.le_of_ble_eq_true rfl⟩
theorem eqD_pd (P R : Pt) : eqD (pd P) (pd R) = decide (P = R) := by
  rcases P with _ | ⟨x, y⟩ <;> rcases R with _ | ⟨z, w⟩ <;> simp [pd, eqD, eqDs]
  · rw [Bool.eq_iff_iff]; simp
theorem eq_pd (P R : Pt) : cmpW .eq (pd P) (pd R) s Q = Q (.bl (decide (P = R))) s := by
  have h1 := fine_pd P
  have h2 := fine_pd R
  have e := eqD_pd P R
  have : cmpW .eq (pd P) (pd R) s Q = (fine (pd P) ∧ fine (pd R) ∧ Q (.bl (eqD (pd P) (pd R))) s) := by
    rcases P with _ | ⟨x, y⟩ <;> rfl
  rw [this, e]
  simp [h1, h2]
theorem eq_pd0 (P : Pt) : cmpW .eq (pd P) (.tup []) s Q = Q (.bl (decide (P = none))) s := eq_pd P none
theorem frz_pd (m : Bool) (P : Pt) : frz m (pd P) s Q = Q (pd P) s := by rcases P with _ | ⟨x, y⟩ <;> cases m <;> rfl
theorem frz_cd (m : Bool) (A : Cv) : frz m (cd A) s Q = Q (cd A) s := by cases m <;> rfl
def CvArg (x : D) (A : Cv) : Prop := x = cd A ∨ x = cl A
theorem ok_sure_curve_a (A : Cv) [SmC A] (hd : disc A ≠ 0) (x : D) (hx : CvArg x A) (h : Q (cd A) s) : run prog consts (k + 4) X f_sure_curve [x] s Q := by
  rcases hx with rfl | rfl
  · exact ok_sure_curve A hd h
  · exact ok_sure_curve_l A hd h
def c4 (A : Cv) : Int := b2 A * b2 A - 24 * b4 A
def c6 (A : Cv) : Int := 36 * b2 A * b4 A - b2 A * b2 A * b2 A - 216 * b6 A
/-- the count, as the program reckons it -/
def cnt (A : Cv) (p : Int) : Int := p + (if disc A % p = 0 then 0 else 1) - (pts A p).length
def kindS (A : Cv) (p : Int) : Str := if disc A % p = 0 then (if cnt A p = 0 then "cusp" else if cnt A p = 1 then "split" else "unsplit") else "smooth"
theorem ok_kind_in (A : Cv) [SmC A] (p : Int) (hp : 2 ≤ p) (hq : p ≤ 97) (h : Q (.str (kindS A p)) s) : run prog consts (k + 5) X f_kind_in [cd A, .int p] s Q := by
  refine run_s at_kind_in rfl ?_; simp_arith! [d_kind_in]
  simp_arith [true_and]
  refine ok_is_smooth A p (by omega) ?_
  simp_arith [true_and]
  unfold kindS at h
  by_cases c : disc A % p = 0
  · rw [if_pos c] at h
    simp_arith [c, decide_true]
    refine ok_count_in A p hp hq ?_
    simp_arith [true_and]
    rw [show (p + (if disc A % p = 0 then 0 else 1) - ((pts A p).length : Int)) = cnt A p from rfl]
    by_cases c0 : cnt A p = 0
    · rw [if_pos c0] at h
      simp_arith [c0, decide_true]
      exact back_same h
    · rw [if_neg c0] at h
      simp_arith [c0, decide_false]
      by_cases c1 : cnt A p = 1
      · rw [if_pos c1] at h
        simp_arith [c1, decide_true]
        exact back_same h
      · rw [if_neg c1] at h
        simp_arith [c1, decide_false]
        exact back_same h
  · rw [if_neg c] at h
    simp_arith [c, decide_false]
    exact back_same h
theorem ok_points_of (A : Cv) [SmC A] (hd : disc A ≠ 0) (p : Int) (hp : PL p) (x : D) (hx : CvArg x A) (h : Q (.lv ((pts A p).map pd)) s) : run prog consts (k + 5) X f_points_of [x, .int p] s Q := by
  have hb := PL_le hp
  refine run_s at_points_of rfl ?_; simp_arith! [d_points_of]
  simp_arith [true_and]
  refine ok_sure_curve_a A hd x hx ?_
  simp_arith [↓frz_pd, ↓frz_cd, ↓eq_pd0, ↓eq_pd, reduceCtorEq, decide_true, decide_false]
  refine ok_sure_curve_prime p hp ?_
  simp_arith [↓frz_pd, ↓frz_cd, ↓eq_pd0, ↓eq_pd, reduceCtorEq, decide_true, decide_false]
  refine ok_points_in A p hb.1 hb.2 ?_
  intro a ha
  rw [frz_put ha]
  exact back_same h
theorem ok_count_at (A : Cv) [SmC A] (hd : disc A ≠ 0) (p : Int) (hp : PL p) (x : D) (hx : CvArg x A) (h : Q (.int (cnt A p)) s) : run prog consts (k + 6) X f_count_at [x, .int p] s Q := by
  have hb := PL_le hp
  refine run_s at_count_at rfl ?_; simp_arith! [d_count_at]
  simp_arith [true_and]
  refine ok_sure_curve_a A hd x hx ?_
  simp_arith [↓frz_pd, ↓frz_cd, ↓eq_pd0, ↓eq_pd, reduceCtorEq, decide_true, decide_false]
  refine ok_sure_curve_prime p hp ?_
  simp_arith [↓frz_pd, ↓frz_cd, ↓eq_pd0, ↓eq_pd, reduceCtorEq, decide_true, decide_false]
  refine ok_count_in A p hb.1 hb.2 ?_
  simp_arith [true_and]
  exact back_same h
theorem ok_kind_at (A : Cv) [SmC A] (hd : disc A ≠ 0) (p : Int) (hp : PL p) (x : D) (hx : CvArg x A) (h : Q (.str (kindS A p)) s) : run prog consts (k + 6) X f_kind_at [x, .int p] s Q := by
  have hb := PL_le hp
  refine run_s at_kind_at rfl ?_; simp_arith! [d_kind_at]
  simp_arith [true_and]
  refine ok_sure_curve_a A hd x hx ?_
  simp_arith [↓frz_pd, ↓frz_cd, ↓eq_pd0, ↓eq_pd, reduceCtorEq, decide_true, decide_false]
  refine ok_sure_curve_prime p hp ?_
  simp_arith [↓frz_pd, ↓frz_cd, ↓eq_pd0, ↓eq_pd, reduceCtorEq, decide_true, decide_false]
  refine ok_kind_in A p hb.1 hb.2 ?_
  simp_arith [true_and]
  exact back_same h
theorem ok_curve_numbers (A : Cv) [SmC A] (hd : disc A ≠ 0) (x : D) (hx : CvArg x A) (h : Q (.tup [.int (b2 A), .int (b4 A), .int (b6 A), .int (b8 A), .int (c4 A), .int (c6 A), .int (disc A)]) s) : run prog consts (k + 6) X f_curve_numbers [x] s Q := by
  refine run_s at_curve_numbers rfl ?_; simp_arith! [d_curve_numbers]
  simp_arith [true_and]
  refine ok_sure_curve_a A hd x hx ?_
  simp_arith [↓frz_pd, ↓frz_cd, ↓eq_pd0, ↓eq_pd, reduceCtorEq, decide_true, decide_false]
  refine ok_b_numbers A ?_
  have i2 : Bd (b2 A) 1000004000000 := ⟨Nat.le_trans (Bd.le (x := A.a1 * A.a1 + 4 * A.a2)) (Nat.le_of_ble_eq_true rfl)⟩
  have i4 : Bd (b4 A) 1000002000000 := ⟨Nat.le_trans (Bd.le (x := 2 * A.a4 + A.a1 * A.a3)) (Nat.le_of_ble_eq_true rfl)⟩
  have i6 : Bd (b6 A) 1000004000000 := ⟨Nat.le_trans (Bd.le (x := A.a3 * A.a3 + 4 * A.a6)) (Nat.le_of_ble_eq_true rfl)⟩
  simp_arith [true_and]
  refine ok_discriminant_in A ?_
  simp_arith [true_and]
  unfold c4 c6 at h
  refine ⟨?_, back_same h⟩
  simp [SL]
end
end K71

set_option linter.all false
set_option maxRecDepth 100000
/-! K71_G: contracts of rows that come round, of fractions. -/
namespace K71
open IR PySem EC
/-! ### plain reckoning -/
/-- o goes as often as it divides -/
def stripI : Nat → Int → Int → Int
  | 0, l, _ => l
  | n + 1, l, o => if l % o = 0 then stripI n (l / o) o else l
def pStep (st : List Int × Int) (o : Int) : List Int × Int := if st.2 % o = 0 then (st.1 ++ [o], stripI 64 st.2 o) else st
def primesI (n : Int) : List Int := ((rngI 2 (n + 1 - 2).toNat).foldl pStep ([], n)).1
/-- the greatest power that divides -/
def powI : Nat → Int → Int → Int → Int
  | 0, _, _, f => f
  | k + 1, n, p, f => if n % (f * p) = 0 then powI k n p (f * p) else f
def divsI (n : Int) : List Int := (rngI 1 (n + 1 - 1).toNat).filter fun d => decide (n % d = 0)
def atZ (row : List Int) (n : Int) : Int := row.getD n.toNat 0
def brkAt (row : List Int) (n p : Int) : Bool := !decide ((atZ row (n - 1) - atZ row (n / p - 1)) % powI 64 n p 1 = 0)
/-- broken nowhere -/
def wholeB (row : List Int) : Bool := (rngI 2 (row.length + 1 - 2 : Int).toNat).all fun n => (primesI n).all fun p => !brkAt row n p
local macro_rules | `(tactic| simp_arith [$xs,*]) => `(tactic| simp only [↓getV_z, ↓getV_s, ↓setK_z, ↓setK_s, ↓wipeK_n, ↓wipeK_c, ↓asgW_nm, ↓asgW_tp, ↓asgW_tl, ↓asgsW_n, ↓asgsW_c, ↓x_var, ↓x_int, ↓x_bl, ↓x_non, ↓x_str, ↓x_glob, ↓globW_z, ↓globW_s, ↓x_bin, ↓x_neg, ↓negW_i, ↓x_cmp, ↓two_t, ↓two_f, ↓two_n, ↓two_and, ↓two_or, ↓x_chain, ↓chainW_b, ↓x_isN, ↓x_notN, ↓isNW_n, ↓isNW_i, ↓isNW_b, ↓isNW_s, ↓isNW_t, ↓isNW_l, ↓isNW_r, ↓x_and, ↓x_or, ↓x_not, ↓x_ite, ↓x_tup0, ↓x_tup1, ↓x_tup2, ↓x_tup3, ↓x_tup4, ↓x_tup5, ↓x_lst0, ↓x_lst1, ↓x_lst2, ↓x_lst3, ↓x_lst4, ↓x_lst5, ↓x_lst6, ↓x_tup6, ↓x_sub, ↓x_dsel, ↓x_slc, ↓xo_n, ↓xo_s, ↓partW_i, ↓x_call1, ↓x_call2, ↓x_call3, ↓x_call4, ↓x_call5, ↓x_call6, ↓x_callk, ↓xs_n, ↓xs_c, ↓x_bi1, ↓x_bi2, ↓x_isi, ↓x_app, ↓x_ext, ↓x_lc, ↓rq_lo, ↓rq_hi, ↓b_and, ↓b_or, ↓b_not, ↓b_cmp, ↓b_chain, ↓b_isN, ↓b_notN, ↓b_var, ↓b_call, ↓b_callk, ↓b_bi, ↓b_isi, ↓b_bin, ↓b_bl, ↓b_sub, ↓ob_n, ↓ob_s, ↓add_i, ↓sub_i, ↓mul_i, ↓mod_i, ↓fdiv_i, ↓pow_i, ↓add_t, ↓add_l, ↓mul_l, ↓newL_f, ↓newL_t, ↓frz_i, ↓frz_b, ↓frz_n, ↓frz_s, ↓frz_t, ↓frz_l, ↓frz_k, ↓eq_i, ↓ne_i, ↓eq_b, ↓eq_s, ↓ne_b, ↓lt_i, ↓le_i, ↓gt_i, ↓ge_i, ↓eq_t, ↓ne_t, ↓eq_l, ↓ne_l, ↓tru_b, ↓tru_i, ↓tru_n, ↓tru_t, ↓tru_l, ↓boo_b, ↓sub_t, ↓sub_l, ↓atW_s, ↓at_0, ↓at_1, ↓at_2, ↓at_3, ↓at_4, ↓isi_i, ↓isi_b, ↓isi_s, ↓isi_t, ↓isi_l, ↓isi_n, ↓len_t, ↓len_l, ↓len_s, ↓abs_i, ↓int_i, ↓int_b, ↓tup_l, ↓tup_t, ↓lis_l, ↓lis_t, ↓app_p, ↓isl_p, ↓tup_p, ↓ext_p, ↓ext_pt, ↓sub_p, ↓len_p, ↓isi_p, ↓tru_p, ↓sto3_0, ↓sto3_1, ↓sto3_2, ↓slc_s, ↓slc_t, ↓slc_l, ↓aug_a, ↓aug_s, ↓aug_m, ↓aug_d, ↓i_seq, ↓seq_t, ↓seq_l, ↓seq_p, ↓i_rng1, ↓rngW_i, ↓i_rng2, ↓rng2W_i, ↓i_enum0, ↓i_enum1, ↓i_zip, ↓zipW_t, ↓zipW_l, ↓ss_n, ↓ss_c, ↓s_asg, ↓s_par2, ↓s_par3, ↓s_sto, ↓s_aug, ↓s_exp, ↓s_ret, ↓s_ife, ↓s_fr, ↓s_whl, ↓s_rse, ↓s_tr, ↓s_pass, ↓s_brk, ↓s_cnt, any_bool_int, any_bool_bool, any_bool_tuple, any_bool_list, any_bool_str, any_bool_list_tuple, any_bool_bool_str, any_bool_int_str, any_bool_tuple_list, any_int_int, any_int_bool, any_int_tuple, any_int_list, any_int_str, any_int_list_tuple, any_int_bool_str, any_int_int_str, any_int_tuple_list, any_str_int, any_str_bool, any_str_tuple, any_str_list, any_str_str, any_str_list_tuple, any_str_bool_str, any_str_int_str, any_str_tuple_list, any_tuple_int, any_tuple_bool, any_tuple_tuple, any_tuple_list, any_tuple_str, any_tuple_list_tuple, any_tuple_bool_str, any_tuple_int_str, any_tuple_tuple_list, any_list_int, any_list_bool, any_list_tuple, any_list_list, any_list_str, any_list_list_tuple, any_list_bool_str, any_list_int_str, any_list_tuple_list, lstW, tupW, mulOk_l, mulOk_r, Nat.reduceMul, Nat.reduceAdd, Nat.reduceLT, Nat.reduceLeDiff, Nat.reduceSub, not_false_eq_true, true_and, and_true, Bool.not_true, Bool.not_false, List.map_cons, List.map_nil, List.replicate_succ, List.replicate_zero, List.cons_append, List.nil_append, $xs,*])
local macro_rules | `(tactic| simp_all_arith [$xs,*]) => `(tactic| simp only [↓getV_z, ↓getV_s, ↓setK_z, ↓setK_s, ↓wipeK_n, ↓wipeK_c, ↓asgW_nm, ↓asgW_tp, ↓asgW_tl, ↓asgsW_n, ↓asgsW_c, ↓x_var, ↓x_int, ↓x_bl, ↓x_non, ↓x_str, ↓x_glob, ↓globW_z, ↓globW_s, ↓x_bin, ↓x_neg, ↓negW_i, ↓x_cmp, ↓two_t, ↓two_f, ↓two_n, ↓two_and, ↓two_or, ↓x_chain, ↓chainW_b, ↓x_isN, ↓x_notN, ↓isNW_n, ↓isNW_i, ↓isNW_b, ↓isNW_s, ↓isNW_t, ↓isNW_l, ↓isNW_r, ↓x_and, ↓x_or, ↓x_not, ↓x_ite, ↓x_tup0, ↓x_tup1, ↓x_tup2, ↓x_tup3, ↓x_tup4, ↓x_tup5, ↓x_lst0, ↓x_lst1, ↓x_lst2, ↓x_lst3, ↓x_lst4, ↓x_lst5, ↓x_lst6, ↓x_tup6, ↓x_sub, ↓x_dsel, ↓x_slc, ↓xo_n, ↓xo_s, ↓partW_i, ↓x_call1, ↓x_call2, ↓x_call3, ↓x_call4, ↓x_call5, ↓x_call6, ↓x_callk, ↓xs_n, ↓xs_c, ↓x_bi1, ↓x_bi2, ↓x_isi, ↓x_app, ↓x_ext, ↓x_lc, ↓rq_lo, ↓rq_hi, ↓b_and, ↓b_or, ↓b_not, ↓b_cmp, ↓b_chain, ↓b_isN, ↓b_notN, ↓b_var, ↓b_call, ↓b_callk, ↓b_bi, ↓b_isi, ↓b_bin, ↓b_bl, ↓b_sub, ↓ob_n, ↓ob_s, ↓add_i, ↓sub_i, ↓mul_i, ↓mod_i, ↓fdiv_i, ↓pow_i, ↓add_t, ↓add_l, ↓mul_l, ↓newL_f, ↓newL_t, ↓frz_i, ↓frz_b, ↓frz_n, ↓frz_s, ↓frz_t, ↓frz_l, ↓frz_k, ↓eq_i, ↓ne_i, ↓eq_b, ↓eq_s, ↓ne_b, ↓lt_i, ↓le_i, ↓gt_i, ↓ge_i, ↓eq_t, ↓ne_t, ↓eq_l, ↓ne_l, ↓tru_b, ↓tru_i, ↓tru_n, ↓tru_t, ↓tru_l, ↓boo_b, ↓sub_t, ↓sub_l, ↓atW_s, ↓at_0, ↓at_1, ↓at_2, ↓at_3, ↓at_4, ↓isi_i, ↓isi_b, ↓isi_s, ↓isi_t, ↓isi_l, ↓isi_n, ↓len_t, ↓len_l, ↓len_s, ↓abs_i, ↓int_i, ↓int_b, ↓tup_l, ↓tup_t, ↓lis_l, ↓lis_t, ↓app_p, ↓isl_p, ↓tup_p, ↓ext_p, ↓ext_pt, ↓sub_p, ↓len_p, ↓isi_p, ↓tru_p, ↓sto3_0, ↓sto3_1, ↓sto3_2, ↓slc_s, ↓slc_t, ↓slc_l, ↓aug_a, ↓aug_s, ↓aug_m, ↓aug_d, ↓i_seq, ↓seq_t, ↓seq_l, ↓seq_p, ↓i_rng1, ↓rngW_i, ↓i_rng2, ↓rng2W_i, ↓i_enum0, ↓i_enum1, ↓i_zip, ↓zipW_t, ↓zipW_l, ↓ss_n, ↓s_asg, ↓s_par2, ↓s_par3, ↓s_sto, ↓s_aug, ↓s_exp, ↓s_ret, ↓s_ife, ↓s_fr, ↓s_whl, ↓s_rse, ↓s_tr, ↓s_pass, ↓s_brk, ↓s_cnt, any_bool_int, any_bool_bool, any_bool_tuple, any_bool_list, any_bool_str, any_bool_list_tuple, any_bool_bool_str, any_bool_int_str, any_bool_tuple_list, any_int_int, any_int_bool, any_int_tuple, any_int_list, any_int_str, any_int_list_tuple, any_int_bool_str, any_int_int_str, any_int_tuple_list, any_str_int, any_str_bool, any_str_tuple, any_str_list, any_str_str, any_str_list_tuple, any_str_bool_str, any_str_int_str, any_str_tuple_list, any_tuple_int, any_tuple_bool, any_tuple_tuple, any_tuple_list, any_tuple_str, any_tuple_list_tuple, any_tuple_bool_str, any_tuple_int_str, any_tuple_tuple_list, any_list_int, any_list_bool, any_list_tuple, any_list_list, any_list_str, any_list_list_tuple, any_list_bool_str, any_list_int_str, any_list_tuple_list, lstW, tupW, mulOk_l, mulOk_r, Nat.reduceMul, Nat.reduceAdd, Nat.reduceLT, Nat.reduceLeDiff, Nat.reduceSub, not_false_eq_true, true_and, and_true, Bool.not_true, Bool.not_false, List.map_cons, List.map_nil, List.replicate_succ, List.replicate_zero, List.cons_append, List.nil_append, $xs,*])
local macro_rules | `(tactic| simp_all_arith! [$xs,*]) => `(tactic| ((try simp_all_arith [$xs,*]); (repeat (rw [ss_c]; simp_all_arith [$xs,*]))))
local macro_rules | `(tactic| simp_arith! [$xs,*]) => `(tactic| simp only [startR, any_bool_int, any_bool_bool, any_bool_tuple, any_bool_list, any_bool_str, any_bool_list_tuple, any_bool_bool_str, any_bool_int_str, any_bool_tuple_list, any_int_int, any_int_bool, any_int_tuple, any_int_list, any_int_str, any_int_list_tuple, any_int_bool_str, any_int_int_str, any_int_tuple_list, any_str_int, any_str_bool, any_str_tuple, any_str_list, any_str_str, any_str_list_tuple, any_str_bool_str, any_str_int_str, any_str_tuple_list, any_tuple_int, any_tuple_bool, any_tuple_tuple, any_tuple_list, any_tuple_str, any_tuple_list_tuple, any_tuple_bool_str, any_tuple_int_str, any_tuple_tuple_list, any_list_int, any_list_bool, any_list_tuple, any_list_list, any_list_str, any_list_list_tuple, any_list_bool_str, any_list_int_str, any_list_tuple_list, lstW, tupW, mulOk_l, mulOk_r, Nat.reduceMul, Nat.reduceAdd, Nat.reduceLT, Nat.reduceLeDiff, Nat.reduceSub, not_false_eq_true, true_and, and_true, Bool.not_true, Bool.not_false, List.map_cons, List.map_nil, List.replicate_succ, List.replicate_zero, List.cons_append, List.nil_append, $xs,*])
section
variable {k : Nat} {s : S} {Q : D → S → Prop} {X : XT}
theorem ok_primes_in (n : Int) (h1 : 2 ≤ n) (h2 : n ≤ 60) (h : ∀ a, s a = none → Q (.ref a) (put s a (.lst ((primesI n).map D.int)))) : run prog consts (k + 1) X f_primes_in [.int n] s Q := by
  refine run_s at_primes_in rfl ?_; simp_arith! [d_primes_in]
  simp_arith [true_and]
  intro a ha
  refine ⟨by omega, ?_⟩
  rw [rngD_map]
  refine fr_map D.int (fun xs r s' => ∃ st o, r = [some (.int n), some (.ref a), some (.int st.2), o] ∧ s' = put s a (.lst (st.1.map D.int)) ∧ (xs.foldl pStep st).1 = primesI n ∧ 0 < st.2 ∧ st.2 ≤ n ∧ st.1.length + xs.length ≤ 60 ∧ ∀ x ∈ xs, 2 ≤ x ∧ x ≤ n) ?_ ?_ _ _ _ ⟨([], n), none, rfl, rfl, rfl, by dsimp only; omega, by dsimp only; omega, by rw [rngI_len]; simp; omega, fun x hx => ?_⟩
  · rintro r s' ⟨st, o, rfl, rfl, e, _⟩
    refine ⟨trivial, ?_⟩
    simp_arith [true_and]
    have h' := h a ha
    rw [← e] at h'
    exact back_same h'
  · rintro x xs r s' nx ⟨st, o, rfl, rfl, e, g1, g2, g3, hx⟩ hn
    refine ⟨trivial, ?_⟩
    obtain ⟨x1, x2⟩ := hx x List.mem_cons_self
    obtain ⟨fo, le⟩ := st
    dsimp only at e g1 g2 g3
    rw [List.length_cons] at g3
    rw [List.foldl_cons] at e
    unfold pStep at e
    simp_arith [true_and]
    refine ⟨by omega, ?_⟩
    by_cases c : le % x = 0
    · simp_arith [c, decide_true]
      refine ⟨by rw [List.length_map]; unfold SL; omega, 65, ?_⟩
      dsimp only at e
      rw [if_pos c] at e
      refine wh_gh (fun (q : Nat × Int) r s' => r = [some (.int n), some (.ref a), some (.int q.2), some (.int x)] ∧ s' = put s a (.lst ((fo ++ [x]).map D.int)) ∧ stripI q.1 q.2 x = stripI 64 le x ∧ 0 < q.2 ∧ q.2 ≤ n ∧ q.2 < q.1) (fun q => q.1) ?_ 65 (64, le) _ _ ⟨by rfl, by rw [List.map_append]; rfl, rfl, g1, g2, by dsimp only; omega⟩ (by show 64 < 65; omega)
      rintro ⟨m, l⟩ r s' nx2 ⟨rfl, rfl, e2, l1, l2, l3⟩ hn2
      dsimp only at e2 l1 l2 l3
      simp_arith [true_and]
      refine ⟨by omega, ?_⟩
      cases m with
      | zero => omega
      | succ m =>
        unfold stripI at e2
        by_cases c2 : l % x = 0
        · rw [if_pos c2] at e2
          simp_arith [c2, decide_true]
          have hlt : l / x < l := Int.ediv_lt_self_of_pos_of_ne_one l1 (by omega)
          have hpos : 0 < l / x := by
            have := Int.mul_ediv_add_emod l x
            rw [c2] at this
            have : x * (l / x) = l := by omega
            have h0 : 0 ≤ l / x := Int.ediv_nonneg (by omega) (by omega)
            by_cases z : l / x = 0
            · rw [z] at this; simp at this; omega
            · omega
          refine ⟨⟨by omega, by omega⟩, ?_⟩
          exact hn2 (m, l / x) _ _ ⟨rfl, rfl, e2, hpos, by dsimp only; omega, by dsimp only; omega⟩ (by dsimp only; omega)
        · rw [if_neg c2] at e2
          simp_arith [c2, decide_false]
          refine hn _ _ ⟨(fo ++ [x], l), none, rfl, rfl, by rw [e2]; exact e, l1, l2, ?_, fun y hy => hx y (List.mem_cons_of_mem _ hy)⟩
          rw [List.length_append, List.length_singleton]
          omega
    · simp_arith [c, decide_false]
      dsimp only at e
      rw [if_neg c] at e
      exact hn _ _ ⟨(fo, le), none, rfl, rfl, e, g1, g2, by dsimp only; omega, fun y hy => hx y (List.mem_cons_of_mem _ hy)⟩
  · rw [mem_rngI] at hx
    omega
theorem at_row {row : List Int} {i : Int} (h1 : 0 ≤ i) (h2 : i < row.length) : atI (row.map D.int) i = some (.int (atZ row i)) := by
  obtain ⟨j, rfl⟩ := Int.eq_ofNat_of_zero_le h1
  rw [at_nat _ _ (by rw [List.length_map]; omega), List.getElem?_map, List.getElem?_eq_getElem (by omega)]
  unfold atZ
  simp [List.getElem?_eq_getElem (show j < row.length by omega)]
theorem powI_pos (n p : Int) (hp : 0 < p) : ∀ (m : Nat) (f : Int), 0 < f → 0 < powI m n p f
  | 0, f, h => h
  | m + 1, f, h => by
    unfold powI
    split
    · exact powI_pos n p hp m _ (Int.mul_pos h hp)
    · exact h
theorem ok_power_in (n p : Int) (h1 : 1 ≤ n) (h2 : n ≤ 60) (hp : 2 ≤ p) (hp2 : p ≤ 60) (h : Q (.int (powI 64 n p 1)) s) : run prog consts (k + 1) X f_power_in [.int n, .int p] s Q := by
  have bp : Bd p 60 := bd_of (by omega) (by omega)
  refine run_s at_power_in rfl ?_; simp_arith! [d_power_in]
  simp_arith [true_and]
  refine ⟨65, ?_⟩
  refine wh_gh (fun (q : Nat × Int) r s' => r = [some (.int n), some (.int p), some (.int q.2)] ∧ s' = s ∧ powI q.1 n p q.2 = powI 64 n p 1 ∧ 0 < q.2 ∧ q.2 ≤ n ∧ n - q.2 < q.1) (fun q => q.1) ?_ 65 (64, 1) _ _ ⟨rfl, rfl, rfl, by decide, h1, by dsimp only; omega⟩ (by show 64 < 65; omega)
  rintro ⟨m, f⟩ r s' nx2 ⟨rfl, rfl, e2, l1, l2, l3⟩ hn2
  dsimp only at e2 l1 l2 l3
  have bf : Bd f 60 := bd_of (by omega) (by omega)
  have hfp : 0 < f * p := Int.mul_pos l1 (by omega)
  simp_arith [true_and]
  refine ⟨hfp, ?_⟩
  cases m with
  | zero => omega
  | succ m =>
    unfold powI at e2
    by_cases c : n % (f * p) = 0
    · rw [if_pos c] at e2
      have hle : f * p ≤ n := Int.le_of_dvd (by omega) (Int.dvd_of_emod_eq_zero c)
      have hgt : f * 2 ≤ f * p := Int.mul_le_mul_of_nonneg_left hp (by omega)
      simp_arith [c, decide_true]
      exact hn2 (m, f * p) _ _ ⟨rfl, rfl, e2, hfp, hle, by dsimp only; omega⟩ (by dsimp only; omega)
    · rw [if_neg c] at e2
      simp_arith [c, decide_false]
      rw [e2]
      exact back_same h
theorem ok_is_broken_at (row : List Int) (n p : Int) (h1 : 2 ≤ n) (h2 : n ≤ 60) (hp : 2 ≤ p) (hp2 : p ≤ n) (hn : n ≤ row.length) (h : Q (.bl (brkAt row n p)) s) : run prog consts (k + 2) X f_is_broken_at [.tup (row.map D.int), .int n, .int p] s Q := by
  have hd : 1 ≤ n / p := by
    rw [Int.le_ediv_iff_mul_le (by omega)]
    omega
  have hd2 : n / p ≤ n := Int.ediv_le_self _ (by omega)
  refine run_s at_is_broken_at rfl ?_; simp_arith! [d_is_broken_at]
  simp_arith [at_row (row := row) (i := n - 1) (by omega) (by omega)]
  refine ⟨⟨by omega, .inl (by omega)⟩, ?_⟩
  rw [Int.fdiv_eq_ediv_of_nonneg _ (by omega)]
  simp_arith [at_row (row := row) (i := n / p - 1) (by omega) (by omega)]
  refine ok_power_in n p (by omega) h2 hp (by omega) ?_
  simp_arith [true_and]
  exact ⟨powI_pos n p (by omega) 64 1 (by decide), back_same h⟩
theorem mem_pF (n : Int) : ∀ (xs : List Int) (st : List Int × Int), (∀ x ∈ st.1, 2 ≤ x ∧ x ≤ n) → (∀ x ∈ xs, 2 ≤ x ∧ x ≤ n) → ∀ x ∈ (xs.foldl pStep st).1, 2 ≤ x ∧ x ≤ n
  | [], _, h, _ => h
  | x :: xs, st, h, hx => by
    rw [List.foldl_cons]
    refine mem_pF n xs _ ?_ fun y hy => hx y (List.mem_cons_of_mem _ hy)
    unfold pStep
    split
    · intro y hy
      rcases List.mem_append.1 hy with hy | hy
      · exact h y hy
      · rw [List.mem_singleton] at hy
        subst hy
        exact hx _ List.mem_cons_self
    · exact h
theorem mem_primesI {n x : Int} (h : x ∈ primesI n) : 2 ≤ x ∧ x ≤ n :=
  mem_pF n _ _ (fun _ h => absurd h List.not_mem_nil) (fun y hy => by rw [mem_rngI] at hy; omega) x h
theorem ok_broken_in (row : List Int) (hl : 1 ≤ row.length) (hl2 : row.length ≤ 60) (hw : wholeB row = true) (h : Q .non s) : run prog consts (k + 3) X f_broken_in [.tup (row.map D.int)] s Q := by
  refine run_s at_broken_in rfl ?_; simp_arith! [d_broken_in]
  simp_arith [List.length_map]
  refine ⟨by omega, ?_⟩
  rw [rngD_map]
  unfold wholeB at hw
  rw [List.all_eq_true] at hw
  refine fr_map D.int (fun xs r s' => ∃ o1 o2, r = [some (.tup (row.map D.int)), o1, o2] ∧ s' = s ∧ ∀ x ∈ xs, (2 ≤ x ∧ x ≤ row.length) ∧ ∀ p ∈ primesI x, brkAt row x p = false) ?_ ?_ _ _ _ ⟨none, none, rfl, rfl, fun x hx => ⟨?_, fun p hp => ?_⟩⟩
  · rintro r s' ⟨o1, o2, rfl, rfl, _⟩
    refine ⟨trivial, ?_⟩
    simp_arith [true_and]
    exact back_same h
  · rintro x xs r s' nx ⟨o1, o2, rfl, rfl, hx⟩ hn
    refine ⟨trivial, ?_⟩
    obtain ⟨⟨x1, x2⟩, hx3⟩ := hx x List.mem_cons_self
    simp_arith [true_and]
    refine ok_primes_in x x1 (by omega) ?_
    intro a ha
    rw [frz_put ha]
    simp_arith [true_and]
    refine fr_map D.int (fun ps r s2 => ∃ o2, r = [some (.tup (row.map D.int)), some (.int x), o2] ∧ s2 = s' ∧ ∀ p ∈ ps, (2 ≤ p ∧ p ≤ x) ∧ brkAt row x p = false) ?_ ?_ _ _ _ ⟨o2, rfl, rfl, fun p hp => ⟨mem_primesI hp, hx3 p hp⟩⟩
    · rintro r s' ⟨o2, rfl, rfl, _⟩
      refine ⟨trivial, ?_⟩
      simp_arith [true_and]
      exact hn _ _ ⟨none, none, rfl, rfl, fun y hy => hx y (List.mem_cons_of_mem _ hy)⟩
    · rintro p ps r s' nx2 ⟨o2, rfl, rfl, hp⟩ hn2
      refine ⟨trivial, ?_⟩
      obtain ⟨⟨p1, p2⟩, p3⟩ := hp p List.mem_cons_self
      simp_arith [true_and]
      refine ok_is_broken_at row x p x1 (by omega) p1 p2 x2 ?_
      simp_arith [p3]
      exact hn2 _ _ ⟨_, rfl, rfl, fun y hy => hp y (List.mem_cons_of_mem _ hy)⟩
  · rw [mem_rngI] at hx
    omega
  · have := hw x hx
    rw [List.all_eq_true] at this
    simpa using this p hp
/-! ### divisors, fractions -/
theorem gcd_emod' (u v : Int) : (u % v).gcd v = u.gcd v := by
  rw [Int.emod_def, Int.sub_eq_add_neg, ← Int.mul_neg, Int.gcd_add_mul_left_left]
theorem ok_common (x y : Int) (h : Q (.int (Int.gcd x y)) s) : run prog consts (k + 1) X f_common [.int x, .int y] s Q := by
  refine run_s at_common rfl ?_; simp_arith! [d_common]
  simp_arith [true_and]
  refine ⟨y.natAbs + 1, ?_⟩
  refine wh_gh (fun (q : Int × Int) r s' => r = [some (.int q.1), some (.int q.2)] ∧ s' = s ∧ 0 ≤ q.1 ∧ 0 ≤ q.2 ∧ Int.gcd q.1 q.2 = Int.gcd x y) (fun q => q.2.toNat) ?_ _ ((if x < 0 then -x else x), (if y < 0 then -y else y)) _ _ ⟨rfl, rfl, ?_, ?_, ?_⟩ ?_
  · rintro ⟨u, v⟩ r s' nx ⟨rfl, rfl, h1, h2, e⟩ hn
    dsimp only at h1 h2 e
    simp_arith [true_and]
    by_cases c : v = 0
    · subst c
      simp_arith [decide_true]
      rw [Int.gcd_zero_right] at e
      rw [← e] at h
      have e2 : ((u.natAbs : Nat) : Int) = u := by omega
      rw [e2] at h
      exact back_same h
    · simp_arith [c, decide_false]
      refine ⟨by omega, ?_⟩
      have h3 := Int.emod_nonneg u c
      have h4 := Int.emod_lt_of_pos u (b := v) (by omega)
      exact hn (v, u % v) _ _ ⟨rfl, rfl, h2, h3, by dsimp only; rw [← e, Int.gcd_comm v, gcd_emod']⟩ (by dsimp only; omega)
  · dsimp only; split <;> omega
  · dsimp only; split <;> omega
  · dsimp only
    split <;> split <;> simp
  · dsimp only; split <;> omega
theorem gcd_pos' {x y : Int} (h : 0 < y) : 0 < Int.gcd x y := Int.gcd_pos_of_ne_zero_right x (by omega)
theorem log2_le {a b : Nat} (h : a ≤ b) (hb : b.log2 < 9000) (ha : a ≠ 0) : a.log2 < 9000 := by
  rw [Nat.log2_lt ha]
  have := (Nat.log2_lt (n := b) (k := 9000) (by omega)).1 hb
  omega
theorem ok_cut_down (x y : Int) (hy : 0 < y) (hb : y.natAbs.log2 < 9000) (h : Q (.tup [.int (x / Int.gcd x y), .int (y / Int.gcd x y)]) s) : run prog consts (k + 2) X f_cut_down [.int x, .int y] s Q := by
  have hg := gcd_pos' (x := x) hy
  have hle : Int.gcd x y ≤ y.natAbs := Int.gcd_le_natAbs_right x (by omega)
  refine run_s at_cut_down rfl ?_; simp_arith! [d_cut_down]
  simp_arith [true_and]
  refine ok_common x y ?_
  simp_arith [show decide (0 < y) = true by simpa using hy]
  have hd : DivOk (Int.gcd x y : Int) := ⟨by omega, .inr ⟨by omega, by rw [Int.natAbs_natCast]; exact log2_le hle hb (by omega)⟩⟩
  refine ⟨hd, hd, ?_⟩
  rw [Int.fdiv_eq_ediv_of_nonneg _ (by omega), Int.fdiv_eq_ediv_of_nonneg _ (by omega)]
  exact back_same h
/-- a whole number as a fraction -/
abbrev wD (x : Int) : D := .tup [.int x, .int 1]
theorem ok_whole (x : Int) (h : Q (wD x) s) : run prog consts (k + 1) X f_whole [.int x] s Q := by
  refine run_s at_whole rfl ?_; simp_arith! [d_whole]
  simp_arith [true_and]
  exact back_same h
theorem ok_added_w (x y : Int) (h : Q (wD (x + y)) s) : run prog consts (k + 1) X f_added [wD x, wD y] s Q := by
  refine run_s at_added rfl ?_; simp_arith! [d_added]
  simp_arith [decide_true]
  exact back_same h
theorem ok_taken_w (x y : Int) (h : Q (wD (x - y)) s) : run prog consts (k + 2) X f_taken [wD x, wD y] s Q := by
  refine run_s at_taken rfl ?_; simp_arith! [d_taken]
  simp_arith [true_and]
  refine ok_added_w x (-y) ?_
  simp_arith [true_and]
  exact back_same h
theorem ok_times_w (x y : Int) (hx : -1000 ≤ x ∧ x ≤ 1000) (h : Q (wD (x * y)) s) : run prog consts (k + 1) X f_times [wD x, wD y] s Q := by
  have bx : Bd x 1000 := bd_of hx.1 hx.2
  refine run_s at_times rfl ?_; simp_arith! [d_times]
  simp_arith [decide_true]
  exact back_same h
/-- n times y over n -/
theorem ok_over_w (n y : Int) (hn : 1 ≤ n ∧ n ≤ 1000) (h : Q (wD y) s) : run prog consts (k + 3) X f_over [wD (n * y), wD n] s Q := by
  have bx : Bd n 1000 := bd_of (by omega) hn.2
  refine run_s at_over rfl ?_; simp_arith! [d_over]
  simp_arith [Int.mul_one, Int.one_mul]
  refine ok_cut_down (n * y) n (by omega) ?_ ?_
  · refine log2_le (b := 1000) (by omega) (by decide) (by omega)
  · have e : (Int.gcd (n * y) n : Int) = n := by
      rw [Int.gcd_eq_right (by omega) (Int.dvd_mul_right n y)]
    rw [e, Int.mul_ediv_cancel_left _ (by omega), Int.ediv_self (by omega)]
    simp_arith [true_and]
    exact back_same h
theorem ok_divisors_in (n : Int) (h1 : 1 ≤ n) (h2 : n ≤ 60) (h : Q (.lv ((divsI n).map D.int)) s) : run prog consts (k + 1) X f_divisors_in [.int n] s Q := by
  refine run_s at_divisors_in rfl ?_; simp_arith! [d_divisors_in]
  simp_arith [true_and]
  refine ⟨by omega, ?_⟩
  rw [rngD_map]
  refine lc_map D.int (fun d => if n % d = 0 then some (.int d) else none) _ trivial ?_ (by rw [rngI_len]; unfold SL; omega) ?_
  · intro d hd P hP
    rw [mem_rngI] at hd
    unfold turnC
    simp_arith [true_and]
    refine ⟨by omega, ?_⟩
    by_cases c : n % d = 0
    · rw [if_pos c] at hP
      simp_arith [c, decide_true]
      exact hP
    · rw [if_neg c] at hP
      simp_arith [c, decide_false]
      exact hP
  · have e : List.filterMap (fun d => if n % d = 0 then some (D.int d) else none) (rngI 1 (n + 1 - 1).toNat) = (divsI n).map D.int := by
      unfold divsI
      generalize rngI 1 (n + 1 - 1).toNat = l
      induction l with
      | nil => rfl
      | cons d l ih => by_cases c : n % d = 0 <;> simp [c, ih]
    rw [e]
    exact back_same h
end
end K71

set_option linter.all false
set_option maxRecDepth 100000
/-! K71_H: contracts of a row's free numbers, of what is asked of a row, of counts over fields. -/
namespace K71
open IR PySem EC
/-! ### plain reckoning -/
def freeV (fs : List Int) (t n : Int) : Int := ((divsI n).dropLast).foldl (fun v d => v - d * atZ fs (d - 1)) t
/-- the free numbers of a row, where they are whole -/
def freesF : List Int → List Int → Option (List Int)
  | [], fs => some fs
  | t :: ts, fs => if freeV fs t (fs.length + 1) % (fs.length + 1) = 0 then freesF ts (fs ++ [freeV fs t (fs.length + 1) / (fs.length + 1)]) else none
theorem rngI_succ : ∀ (k : Nat) (lo : Int), rngI lo (k + 1) = rngI lo k ++ [lo + k]
  | 0, lo => by simp [rngI]
  | k + 1, lo => by
    rw [rngI, rngI_succ k (lo + 1), rngI, List.cons_append]
    congr 3
    omega
theorem divs_last (n : Int) (h1 : 1 ≤ n) {d : Int} (h : d ∈ (divsI n).dropLast) : 1 ≤ d ∧ d < n := by
  unfold divsI at h
  obtain ⟨m, rfl⟩ := Int.eq_ofNat_of_zero_le (show 0 ≤ n by omega)
  cases m with
  | zero => omega
  | succ m =>
    rw [show ((m + 1 : Nat) + 1 - 1 : Int).toNat = m + 1 by omega, rngI_succ, List.filter_append] at h
    rw [show ([(1 : Int) + m].filter fun d => decide (((m + 1 : Nat) : Int) % d = 0)) = [(1 : Int) + m] by
      rw [List.filter_cons_of_pos (by
        rw [show (1 : Int) + m = ((m + 1 : Nat) : Int) by omega, Int.emod_self]
        rfl)]
      rfl] at h
    rw [List.dropLast_concat, List.mem_filter, mem_rngI] at h
    omega
theorem cut_last (xs : List D) : cut xs none (some (-1)) = xs.dropLast := by
  unfold cut
  rw [List.dropLast_eq_take]
  have : sIx xs.length xs.length (some (-1)) - sIx xs.length 0 none = xs.length - 1 := by
    show (if (-1 : Int) < 0 then (-1 + (xs.length : Int)).toNat else min (-1 : Int).toNat xs.length) - 0 = _
    rw [if_pos (by decide)]
    omega
  rw [this]
  rfl
theorem at_rowW {row : List Int} {i : Int} (h1 : 0 ≤ i) (h2 : i < row.length) : atI (row.map wD) i = some (wD (atZ row i)) := by
  obtain ⟨j, rfl⟩ := Int.eq_ofNat_of_zero_le h1
  rw [at_nat _ _ (by rw [List.length_map]; omega), List.getElem?_map, List.getElem?_eq_getElem (by omega)]
  unfold atZ
  simp [List.getElem?_eq_getElem (show j < row.length by omega)]
local macro_rules | `(tactic| simp_arith [$xs,*]) => `(tactic| simp only [↓getV_z, ↓getV_s, ↓setK_z, ↓setK_s, ↓wipeK_n, ↓wipeK_c, ↓asgW_nm, ↓asgW_tp, ↓asgW_tl, ↓asgsW_n, ↓asgsW_c, ↓x_var, ↓x_int, ↓x_bl, ↓x_non, ↓x_str, ↓x_glob, ↓globW_z, ↓globW_s, ↓x_bin, ↓x_neg, ↓negW_i, ↓x_cmp, ↓two_t, ↓two_f, ↓two_n, ↓two_and, ↓two_or, ↓x_chain, ↓chainW_b, ↓x_isN, ↓x_notN, ↓isNW_n, ↓isNW_i, ↓isNW_b, ↓isNW_s, ↓isNW_t, ↓isNW_l, ↓isNW_r, ↓x_and, ↓x_or, ↓x_not, ↓x_ite, ↓x_tup0, ↓x_tup1, ↓x_tup2, ↓x_tup3, ↓x_tup4, ↓x_tup5, ↓x_lst0, ↓x_lst1, ↓x_lst2, ↓x_lst3, ↓x_lst4, ↓x_lst5, ↓x_lst6, ↓x_tup6, ↓x_sub, ↓x_dsel, ↓x_slc, ↓xo_n, ↓xo_s, ↓partW_i, ↓x_call1, ↓x_call2, ↓x_call3, ↓x_call4, ↓x_call5, ↓x_call6, ↓x_callk, ↓xs_n, ↓xs_c, ↓x_bi1, ↓x_bi2, ↓x_isi, ↓x_app, ↓x_ext, ↓x_lc, ↓rq_lo, ↓rq_hi, ↓b_and, ↓b_or, ↓b_not, ↓b_cmp, ↓b_chain, ↓b_isN, ↓b_notN, ↓b_var, ↓b_call, ↓b_callk, ↓b_bi, ↓b_isi, ↓b_bin, ↓b_bl, ↓b_sub, ↓ob_n, ↓ob_s, ↓add_i, ↓sub_i, ↓mul_i, ↓mod_i, ↓fdiv_i, ↓pow_i, ↓add_t, ↓add_l, ↓mul_l, ↓newL_f, ↓newL_t, ↓frz_i, ↓frz_b, ↓frz_n, ↓frz_s, ↓frz_t, ↓frz_l, ↓frz_k, ↓eq_i, ↓ne_i, ↓eq_b, ↓eq_s, ↓ne_b, ↓lt_i, ↓le_i, ↓gt_i, ↓ge_i, ↓eq_t, ↓ne_t, ↓eq_l, ↓ne_l, ↓tru_b, ↓tru_i, ↓tru_n, ↓tru_t, ↓tru_l, ↓boo_b, ↓sub_t, ↓sub_l, ↓atW_s, ↓at_0, ↓at_1, ↓at_2, ↓at_3, ↓at_4, ↓isi_i, ↓isi_b, ↓isi_s, ↓isi_t, ↓isi_l, ↓isi_n, ↓len_t, ↓len_l, ↓len_s, ↓abs_i, ↓int_i, ↓int_b, ↓tup_l, ↓tup_t, ↓lis_l, ↓lis_t, ↓app_p, ↓isl_p, ↓tup_p, ↓ext_p, ↓ext_pt, ↓sub_p, ↓len_p, ↓isi_p, ↓tru_p, ↓sto3_0, ↓sto3_1, ↓sto3_2, ↓slc_s, ↓slc_t, ↓slc_l, ↓aug_a, ↓aug_s, ↓aug_m, ↓aug_d, ↓i_seq, ↓seq_t, ↓seq_l, ↓seq_p, ↓i_rng1, ↓rngW_i, ↓i_rng2, ↓rng2W_i, ↓i_enum0, ↓i_enum1, ↓i_zip, ↓zipW_t, ↓zipW_l, ↓ss_n, ↓ss_c, ↓s_asg, ↓s_par2, ↓s_par3, ↓s_sto, ↓s_aug, ↓s_exp, ↓s_ret, ↓s_ife, ↓s_fr, ↓s_whl, ↓s_rse, ↓s_tr, ↓s_pass, ↓s_brk, ↓s_cnt, any_bool_int, any_bool_bool, any_bool_tuple, any_bool_list, any_bool_str, any_bool_list_tuple, any_bool_bool_str, any_bool_int_str, any_bool_tuple_list, any_int_int, any_int_bool, any_int_tuple, any_int_list, any_int_str, any_int_list_tuple, any_int_bool_str, any_int_int_str, any_int_tuple_list, any_str_int, any_str_bool, any_str_tuple, any_str_list, any_str_str, any_str_list_tuple, any_str_bool_str, any_str_int_str, any_str_tuple_list, any_tuple_int, any_tuple_bool, any_tuple_tuple, any_tuple_list, any_tuple_str, any_tuple_list_tuple, any_tuple_bool_str, any_tuple_int_str, any_tuple_tuple_list, any_list_int, any_list_bool, any_list_tuple, any_list_list, any_list_str, any_list_list_tuple, any_list_bool_str, any_list_int_str, any_list_tuple_list, lstW, tupW, mulOk_l, mulOk_r, Nat.reduceMul, Nat.reduceAdd, Nat.reduceLT, Nat.reduceLeDiff, Nat.reduceSub, not_false_eq_true, true_and, and_true, Bool.not_true, Bool.not_false, List.map_cons, List.map_nil, List.replicate_succ, List.replicate_zero, List.cons_append, List.nil_append, $xs,*])
local macro_rules | `(tactic| simp_all_arith [$xs,*]) => `(tactic| simp only [↓getV_z, ↓getV_s, ↓setK_z, ↓setK_s, ↓wipeK_n, ↓wipeK_c, ↓asgW_nm, ↓asgW_tp, ↓asgW_tl, ↓asgsW_n, ↓asgsW_c, ↓x_var, ↓x_int, ↓x_bl, ↓x_non, ↓x_str, ↓x_glob, ↓globW_z, ↓globW_s, ↓x_bin, ↓x_neg, ↓negW_i, ↓x_cmp, ↓two_t, ↓two_f, ↓two_n, ↓two_and, ↓two_or, ↓x_chain, ↓chainW_b, ↓x_isN, ↓x_notN, ↓isNW_n, ↓isNW_i, ↓isNW_b, ↓isNW_s, ↓isNW_t, ↓isNW_l, ↓isNW_r, ↓x_and, ↓x_or, ↓x_not, ↓x_ite, ↓x_tup0, ↓x_tup1, ↓x_tup2, ↓x_tup3, ↓x_tup4, ↓x_tup5, ↓x_lst0, ↓x_lst1, ↓x_lst2, ↓x_lst3, ↓x_lst4, ↓x_lst5, ↓x_lst6, ↓x_tup6, ↓x_sub, ↓x_dsel, ↓x_slc, ↓xo_n, ↓xo_s, ↓partW_i, ↓x_call1, ↓x_call2, ↓x_call3, ↓x_call4, ↓x_call5, ↓x_call6, ↓x_callk, ↓xs_n, ↓xs_c, ↓x_bi1, ↓x_bi2, ↓x_isi, ↓x_app, ↓x_ext, ↓x_lc, ↓rq_lo, ↓rq_hi, ↓b_and, ↓b_or, ↓b_not, ↓b_cmp, ↓b_chain, ↓b_isN, ↓b_notN, ↓b_var, ↓b_call, ↓b_callk, ↓b_bi, ↓b_isi, ↓b_bin, ↓b_bl, ↓b_sub, ↓ob_n, ↓ob_s, ↓add_i, ↓sub_i, ↓mul_i, ↓mod_i, ↓fdiv_i, ↓pow_i, ↓add_t, ↓add_l, ↓mul_l, ↓newL_f, ↓newL_t, ↓frz_i, ↓frz_b, ↓frz_n, ↓frz_s, ↓frz_t, ↓frz_l, ↓frz_k, ↓eq_i, ↓ne_i, ↓eq_b, ↓eq_s, ↓ne_b, ↓lt_i, ↓le_i, ↓gt_i, ↓ge_i, ↓eq_t, ↓ne_t, ↓eq_l, ↓ne_l, ↓tru_b, ↓tru_i, ↓tru_n, ↓tru_t, ↓tru_l, ↓boo_b, ↓sub_t, ↓sub_l, ↓atW_s, ↓at_0, ↓at_1, ↓at_2, ↓at_3, ↓at_4, ↓isi_i, ↓isi_b, ↓isi_s, ↓isi_t, ↓isi_l, ↓isi_n, ↓len_t, ↓len_l, ↓len_s, ↓abs_i, ↓int_i, ↓int_b, ↓tup_l, ↓tup_t, ↓lis_l, ↓lis_t, ↓app_p, ↓isl_p, ↓tup_p, ↓ext_p, ↓ext_pt, ↓sub_p, ↓len_p, ↓isi_p, ↓tru_p, ↓sto3_0, ↓sto3_1, ↓sto3_2, ↓slc_s, ↓slc_t, ↓slc_l, ↓aug_a, ↓aug_s, ↓aug_m, ↓aug_d, ↓i_seq, ↓seq_t, ↓seq_l, ↓seq_p, ↓i_rng1, ↓rngW_i, ↓i_rng2, ↓rng2W_i, ↓i_enum0, ↓i_enum1, ↓i_zip, ↓zipW_t, ↓zipW_l, ↓ss_n, ↓s_asg, ↓s_par2, ↓s_par3, ↓s_sto, ↓s_aug, ↓s_exp, ↓s_ret, ↓s_ife, ↓s_fr, ↓s_whl, ↓s_rse, ↓s_tr, ↓s_pass, ↓s_brk, ↓s_cnt, any_bool_int, any_bool_bool, any_bool_tuple, any_bool_list, any_bool_str, any_bool_list_tuple, any_bool_bool_str, any_bool_int_str, any_bool_tuple_list, any_int_int, any_int_bool, any_int_tuple, any_int_list, any_int_str, any_int_list_tuple, any_int_bool_str, any_int_int_str, any_int_tuple_list, any_str_int, any_str_bool, any_str_tuple, any_str_list, any_str_str, any_str_list_tuple, any_str_bool_str, any_str_int_str, any_str_tuple_list, any_tuple_int, any_tuple_bool, any_tuple_tuple, any_tuple_list, any_tuple_str, any_tuple_list_tuple, any_tuple_bool_str, any_tuple_int_str, any_tuple_tuple_list, any_list_int, any_list_bool, any_list_tuple, any_list_list, any_list_str, any_list_list_tuple, any_list_bool_str, any_list_int_str, any_list_tuple_list, lstW, tupW, mulOk_l, mulOk_r, Nat.reduceMul, Nat.reduceAdd, Nat.reduceLT, Nat.reduceLeDiff, Nat.reduceSub, not_false_eq_true, true_and, and_true, Bool.not_true, Bool.not_false, List.map_cons, List.map_nil, List.replicate_succ, List.replicate_zero, List.cons_append, List.nil_append, $xs,*])
local macro_rules | `(tactic| simp_all_arith! [$xs,*]) => `(tactic| ((try simp_all_arith [$xs,*]); (repeat (rw [ss_c]; simp_all_arith [$xs,*]))))
local macro_rules | `(tactic| simp_arith! [$xs,*]) => `(tactic| simp only [startR, any_bool_int, any_bool_bool, any_bool_tuple, any_bool_list, any_bool_str, any_bool_list_tuple, any_bool_bool_str, any_bool_int_str, any_bool_tuple_list, any_int_int, any_int_bool, any_int_tuple, any_int_list, any_int_str, any_int_list_tuple, any_int_bool_str, any_int_int_str, any_int_tuple_list, any_str_int, any_str_bool, any_str_tuple, any_str_list, any_str_str, any_str_list_tuple, any_str_bool_str, any_str_int_str, any_str_tuple_list, any_tuple_int, any_tuple_bool, any_tuple_tuple, any_tuple_list, any_tuple_str, any_tuple_list_tuple, any_tuple_bool_str, any_tuple_int_str, any_tuple_tuple_list, any_list_int, any_list_bool, any_list_tuple, any_list_list, any_list_str, any_list_list_tuple, any_list_bool_str, any_list_int_str, any_list_tuple_list, lstW, tupW, mulOk_l, mulOk_r, Nat.reduceMul, Nat.reduceAdd, Nat.reduceLT, Nat.reduceLeDiff, Nat.reduceSub, not_false_eq_true, true_and, and_true, Bool.not_true, Bool.not_false, List.map_cons, List.map_nil, List.replicate_succ, List.replicate_zero, List.cons_append, List.nil_append, $xs,*])
theorem enumD_map1 (xs : List Int) : ∀ i, enumD i (xs.map D.int) = (xs.zipIdx i).map fun q : Int × Nat => .tup [.int q.2, .int q.1] := by
  induction xs with
  | nil => intro i; rfl
  | cons x xs ih => intro i; rw [List.map_cons, enumD, ih, List.zipIdx_cons, List.map_cons]
section
variable {k : Nat} {s : S} {Q : D → S → Prop} {X : XT}
theorem ok_frees_in (row f : List Int) (hl : row.length ≤ 60) (hf : freesF row [] = some f) (h : Q (.tup (f.map wD)) s) : run prog consts (k + 4) X f_frees_in [.tup (row.map D.int)] s Q := by
  refine run_s at_frees_in rfl ?_; simp_arith! [d_frees_in]
  simp_arith [true_and]
  intro a ha
  rw [enumD_map1]
  refine fr_map (fun q : Int × Nat => .tup [.int q.2, .int q.1]) (fun xs r s2 => ∃ ts fs, xs = ts.zipIdx (fs.length + 1) ∧ r = [some (.tup (row.map D.int)), some (.ref a), none, none, none, none] ∧ s2 = put s a (.lst (fs.map wD)) ∧ freesF ts fs = some f ∧ fs.length + ts.length ≤ 60) ?_ ?_ _ _ _ ⟨row, [], rfl, rfl, rfl, hf, by simpa using hl⟩
  · rintro r s' ⟨ts, fs, e1, rfl, rfl, e, _⟩
    refine ⟨trivial, ?_⟩
    cases ts with
    | cons t ts => rw [List.zipIdx_cons] at e1; cases e1
    | nil =>
      rw [freesF] at e
      cases e
      simp_arith [tup_p]
      exact back_put ha h
  · rintro ⟨x, i⟩ xs r s' nx ⟨ts, fs, e1, rfl, rfl, e, hlen⟩ hn
    refine ⟨trivial, ?_⟩
    cases ts with
    | nil => cases e1
    | cons t ts =>
      rw [List.zipIdx_cons] at e1
      injection e1 with e1 e2
      injection e1 with e1 e3
      subst e1 e3 e2
      rw [List.length_cons] at hlen
      rw [freesF] at e
      by_cases c : freeV fs x (fs.length + 1) % (fs.length + 1) = 0
      · rw [if_pos c] at e
        generalize hN : (fs.length + 1 : Int) = n at c e
        have hi : ((fs.length + 1 : Nat) : Int) = n := by omega
        rw [hi]
        simp_arith [true_and]
        refine ok_whole x ?_
        simp_arith [true_and]
        refine ok_divisors_in n (by omega) (by omega) ?_
        simp_arith [cut_last]
        rw [← List.map_dropLast]
        refine fr_map D.int (fun ds r s2 => ∃ v, r = [some (.tup (row.map D.int)), some (.ref a), some (.int n), some (.int x), some (wD v), none] ∧ s2 = put s a (.lst (fs.map wD)) ∧ ds.foldl (fun v d => v - d * atZ fs (d - 1)) v = freeV fs x n ∧ ∀ d ∈ ds, 1 ≤ d ∧ d < n) ?_ ?_ _ _ _ ⟨x, rfl, rfl, rfl, fun d hd => divs_last n (by omega) hd⟩
        · rintro r s' ⟨v, rfl, rfl, e4, _⟩
          refine ⟨trivial, ?_⟩
          rw [List.foldl_nil] at e4
          subst e4
          simp_arith [true_and]
          refine ok_whole n ?_
          simp_arith [true_and]
          have hv := Int.mul_ediv_add_emod (freeV fs x n) n
          rw [c, Int.add_zero] at hv
          rw [← hv]
          rw [← hv, Int.mul_ediv_cancel_left _ (by omega)] at e
          refine ok_over_w n _ (by omega) ?_
          simp_arith [true_and]
          refine ⟨by rw [List.length_map]; unfold SL; omega, ?_⟩
          refine hn _ _ ⟨ts, fs ++ [freeV fs x n / n], ?_, rfl, ?_, e, ?_⟩
          · rw [List.length_append, List.length_singleton]
          · rw [List.map_append]; rfl
          · rw [List.length_append, List.length_singleton]; omega
        · rintro d ds r s' nx2 ⟨v, rfl, rfl, e4, hd⟩ hn2
          refine ⟨trivial, ?_⟩
          obtain ⟨d1, d2⟩ := hd d List.mem_cons_self
          rw [List.foldl_cons] at e4
          simp_arith [true_and]
          refine ok_whole d ?_
          simp_arith [sub_p, at_rowW (row := fs) (i := d - 1) (by omega) (by omega)]
          refine ok_times_w d _ (by omega) ?_
          simp_arith [true_and]
          refine ok_taken_w _ _ ?_
          simp_arith [true_and]
          exact hn2 _ _ ⟨_, rfl, rfl, e4, fun y hy => hd y (List.mem_cons_of_mem _ hy)⟩
      · rw [if_neg c] at e
        cases e
/-! ### what is asked of a row -/
theorem ok_is_plain_row (row : List Int) (h1 : 1 ≤ row.length) (hl : row.length ≤ 60) (h : Q (.bl true) s) : run prog consts (k + 3) X f_is_plain_row [.tup (row.map D.int)] s Q := by
  refine run_s at_is_plain_row rfl ?_; simp_arith! [d_is_plain_row]
  simp_arith [true_and]
  refine ok_are_numbers row (by omega) ?_
  simp_arith [consts, List.length_map]
  rw [two_d]
  constructor
  · intro c
    rw [show decide ((row.length : Int) ≤ 60) = true by simp; omega]
    exact back_same h
  · intro c
    simp at c
    omega
theorem ok_in_bounds (row : List Int) (hl : row.length ≤ 60) (hb : ∀ x ∈ row, x.natAbs ≤ 10 ^ 30) (h : Q (.bl true) s) : run prog consts (k + 2) X f_in_bounds [.tup (row.map D.int)] s Q := by
  refine run_s at_in_bounds rfl ?_; simp_arith! [d_in_bounds]
  simp_arith [true_and]
  intro a ha
  refine ⟨row.length + 2, ?_⟩
  refine wh_gh (fun (q : Nat) r s2 => r = [some (.tup (row.map D.int)), some (.ref a), some (.int q), none] ∧ s2 = put s a (.lst (.tup (row.map D.int) :: if q = 0 then [] else row.map D.int)) ∧ q ≤ row.length + 1) (fun q => row.length + 1 - q) ?_ _ 0 _ _ ⟨rfl, rfl, by omega⟩ (by omega)
  rintro q r s2 nx ⟨rfl, rfl, hq⟩ hn
  by_cases c0 : q = 0
  · subst c0
    rw [if_pos rfl, show ((0 : Nat) : Int) = 0 from rfl]
    simp_arith [len_p, List.length_cons, List.length_nil]
    rw [show decide ((0 : Int) < ((0 + 1 : Nat) : Int)) = true from rfl]
    simp_arith [true_and]
    refine ⟨by rw [List.length_map]; unfold SL; omega, ?_⟩
    exact hn 1 _ _ ⟨rfl, rfl, by omega⟩ (by omega)
  · rw [if_neg c0]
    obtain ⟨j, rfl⟩ : ∃ j, q = j + 1 := ⟨q - 1, by omega⟩
    simp_arith [List.length_cons, List.length_map]
    by_cases c : ((j + 1 : Nat) : Int) < ((row.length + 1 : Nat) : Int)
    · have hj : j < row.length := by omega
      have hx := hb row[j] (List.getElem_mem hj)
      generalize hxv : row[j] = x at hx
      have e : atI (D.tup (row.map D.int) :: row.map D.int) ((j + 1 : Nat) : Int) = some (.int x) := by
        rw [at_nat _ _ (by rw [List.length_cons, List.length_map]; omega), List.getElem?_cons_succ, List.getElem?_map, List.getElem?_eq_getElem hj, hxv]
        rfl
      simp_arith [c, decide_true, e]
      refine ok_is_number x ?_
      simp_arith [consts]
      rw [show decide ((if x < 0 then -x else x) > 10 ^ 30) = false by
        rw [decide_eq_false_iff_not]
        generalize hB : (10 : Int) ^ 30 = B
        have : x.natAbs ≤ B.natAbs := by rw [← hB]; exact hx
        have hB2 : 0 ≤ B := by rw [← hB]; decide
        split <;> omega]
      simp_arith [true_and]
      exact hn (j + 2) _ _ ⟨rfl, rfl, by omega⟩ (by omega)
    · simp_arith [c, decide_false]
      exact back_put ha h
end
end K71

set_option linter.all false
set_option maxRecDepth 100000
/-! K71_I: contracts of what is asked of a row, of counts over fields; the law's own defs. -/
namespace K71
open IR PySem EC
/-- the counts over greater fields: b, l the two last, z the field's size -/
def fcG (t p : Int) : Nat → Int → Int → Int → List Int
  | 0, _, _, _ => []
  | n + 1, b, l, z => (z + 1 - l) :: fcG t p n l (t * l - p * b) (z * p)
theorem fcG_len (t p : Int) : ∀ (n : Nat) (b l z : Int), (fcG t p n b l z).length = n
  | 0, _, _, _ => rfl
  | n + 1, b, l, z => by rw [fcG, List.length_cons, fcG_len]
local macro_rules | `(tactic| simp_arith [$xs,*]) => `(tactic| simp only [↓getV_z, ↓getV_s, ↓setK_z, ↓setK_s, ↓wipeK_n, ↓wipeK_c, ↓asgW_nm, ↓asgW_tp, ↓asgW_tl, ↓asgsW_n, ↓asgsW_c, ↓x_var, ↓x_int, ↓x_bl, ↓x_non, ↓x_str, ↓x_glob, ↓globW_z, ↓globW_s, ↓x_bin, ↓x_neg, ↓negW_i, ↓x_cmp, ↓two_t, ↓two_f, ↓two_n, ↓two_and, ↓two_or, ↓x_chain, ↓chainW_b, ↓x_isN, ↓x_notN, ↓isNW_n, ↓isNW_i, ↓isNW_b, ↓isNW_s, ↓isNW_t, ↓isNW_l, ↓isNW_r, ↓x_and, ↓x_or, ↓x_not, ↓x_ite, ↓x_tup0, ↓x_tup1, ↓x_tup2, ↓x_tup3, ↓x_tup4, ↓x_tup5, ↓x_lst0, ↓x_lst1, ↓x_lst2, ↓x_lst3, ↓x_lst4, ↓x_lst5, ↓x_lst6, ↓x_tup6, ↓x_sub, ↓x_dsel, ↓x_slc, ↓xo_n, ↓xo_s, ↓partW_i, ↓x_call1, ↓x_call2, ↓x_call3, ↓x_call4, ↓x_call5, ↓x_call6, ↓x_callk, ↓xs_n, ↓xs_c, ↓x_bi1, ↓x_bi2, ↓x_isi, ↓x_app, ↓x_ext, ↓x_lc, ↓rq_lo, ↓rq_hi, ↓b_and, ↓b_or, ↓b_not, ↓b_cmp, ↓b_chain, ↓b_isN, ↓b_notN, ↓b_var, ↓b_call, ↓b_callk, ↓b_bi, ↓b_isi, ↓b_bin, ↓b_bl, ↓b_sub, ↓ob_n, ↓ob_s, ↓add_i, ↓sub_i, ↓mul_i, ↓mod_i, ↓fdiv_i, ↓pow_i, ↓add_t, ↓add_l, ↓mul_l, ↓newL_f, ↓newL_t, ↓frz_i, ↓frz_b, ↓frz_n, ↓frz_s, ↓frz_t, ↓frz_l, ↓frz_k, ↓eq_i, ↓ne_i, ↓eq_b, ↓eq_s, ↓ne_b, ↓lt_i, ↓le_i, ↓gt_i, ↓ge_i, ↓eq_t, ↓ne_t, ↓eq_l, ↓ne_l, ↓tru_b, ↓tru_i, ↓tru_n, ↓tru_t, ↓tru_l, ↓boo_b, ↓sub_t, ↓sub_l, ↓atW_s, ↓at_0, ↓at_1, ↓at_2, ↓at_3, ↓at_4, ↓isi_i, ↓isi_b, ↓isi_s, ↓isi_t, ↓isi_l, ↓isi_n, ↓len_t, ↓len_l, ↓len_s, ↓abs_i, ↓int_i, ↓int_b, ↓tup_l, ↓tup_t, ↓lis_l, ↓lis_t, ↓app_p, ↓isl_p, ↓tup_p, ↓ext_p, ↓ext_pt, ↓sub_p, ↓len_p, ↓isi_p, ↓tru_p, ↓sto3_0, ↓sto3_1, ↓sto3_2, ↓slc_s, ↓slc_t, ↓slc_l, ↓aug_a, ↓aug_s, ↓aug_m, ↓aug_d, ↓i_seq, ↓seq_t, ↓seq_l, ↓seq_p, ↓i_rng1, ↓rngW_i, ↓i_rng2, ↓rng2W_i, ↓i_enum0, ↓i_enum1, ↓i_zip, ↓zipW_t, ↓zipW_l, ↓ss_n, ↓ss_c, ↓s_asg, ↓s_par2, ↓s_par3, ↓s_sto, ↓s_aug, ↓s_exp, ↓s_ret, ↓s_ife, ↓s_fr, ↓s_whl, ↓s_rse, ↓s_tr, ↓s_pass, ↓s_brk, ↓s_cnt, any_bool_int, any_bool_bool, any_bool_tuple, any_bool_list, any_bool_str, any_bool_list_tuple, any_bool_bool_str, any_bool_int_str, any_bool_tuple_list, any_int_int, any_int_bool, any_int_tuple, any_int_list, any_int_str, any_int_list_tuple, any_int_bool_str, any_int_int_str, any_int_tuple_list, any_str_int, any_str_bool, any_str_tuple, any_str_list, any_str_str, any_str_list_tuple, any_str_bool_str, any_str_int_str, any_str_tuple_list, any_tuple_int, any_tuple_bool, any_tuple_tuple, any_tuple_list, any_tuple_str, any_tuple_list_tuple, any_tuple_bool_str, any_tuple_int_str, any_tuple_tuple_list, any_list_int, any_list_bool, any_list_tuple, any_list_list, any_list_str, any_list_list_tuple, any_list_bool_str, any_list_int_str, any_list_tuple_list, lstW, tupW, mulOk_l, mulOk_r, Nat.reduceMul, Nat.reduceAdd, Nat.reduceLT, Nat.reduceLeDiff, Nat.reduceSub, not_false_eq_true, true_and, and_true, Bool.not_true, Bool.not_false, List.map_cons, List.map_nil, List.replicate_succ, List.replicate_zero, List.cons_append, List.nil_append, $xs,*])
local macro_rules | `(tactic| simp_all_arith [$xs,*]) => `(tactic| simp only [↓getV_z, ↓getV_s, ↓setK_z, ↓setK_s, ↓wipeK_n, ↓wipeK_c, ↓asgW_nm, ↓asgW_tp, ↓asgW_tl, ↓asgsW_n, ↓asgsW_c, ↓x_var, ↓x_int, ↓x_bl, ↓x_non, ↓x_str, ↓x_glob, ↓globW_z, ↓globW_s, ↓x_bin, ↓x_neg, ↓negW_i, ↓x_cmp, ↓two_t, ↓two_f, ↓two_n, ↓two_and, ↓two_or, ↓x_chain, ↓chainW_b, ↓x_isN, ↓x_notN, ↓isNW_n, ↓isNW_i, ↓isNW_b, ↓isNW_s, ↓isNW_t, ↓isNW_l, ↓isNW_r, ↓x_and, ↓x_or, ↓x_not, ↓x_ite, ↓x_tup0, ↓x_tup1, ↓x_tup2, ↓x_tup3, ↓x_tup4, ↓x_tup5, ↓x_lst0, ↓x_lst1, ↓x_lst2, ↓x_lst3, ↓x_lst4, ↓x_lst5, ↓x_lst6, ↓x_tup6, ↓x_sub, ↓x_dsel, ↓x_slc, ↓xo_n, ↓xo_s, ↓partW_i, ↓x_call1, ↓x_call2, ↓x_call3, ↓x_call4, ↓x_call5, ↓x_call6, ↓x_callk, ↓xs_n, ↓xs_c, ↓x_bi1, ↓x_bi2, ↓x_isi, ↓x_app, ↓x_ext, ↓x_lc, ↓rq_lo, ↓rq_hi, ↓b_and, ↓b_or, ↓b_not, ↓b_cmp, ↓b_chain, ↓b_isN, ↓b_notN, ↓b_var, ↓b_call, ↓b_callk, ↓b_bi, ↓b_isi, ↓b_bin, ↓b_bl, ↓b_sub, ↓ob_n, ↓ob_s, ↓add_i, ↓sub_i, ↓mul_i, ↓mod_i, ↓fdiv_i, ↓pow_i, ↓add_t, ↓add_l, ↓mul_l, ↓newL_f, ↓newL_t, ↓frz_i, ↓frz_b, ↓frz_n, ↓frz_s, ↓frz_t, ↓frz_l, ↓frz_k, ↓eq_i, ↓ne_i, ↓eq_b, ↓eq_s, ↓ne_b, ↓lt_i, ↓le_i, ↓gt_i, ↓ge_i, ↓eq_t, ↓ne_t, ↓eq_l, ↓ne_l, ↓tru_b, ↓tru_i, ↓tru_n, ↓tru_t, ↓tru_l, ↓boo_b, ↓sub_t, ↓sub_l, ↓atW_s, ↓at_0, ↓at_1, ↓at_2, ↓at_3, ↓at_4, ↓isi_i, ↓isi_b, ↓isi_s, ↓isi_t, ↓isi_l, ↓isi_n, ↓len_t, ↓len_l, ↓len_s, ↓abs_i, ↓int_i, ↓int_b, ↓tup_l, ↓tup_t, ↓lis_l, ↓lis_t, ↓app_p, ↓isl_p, ↓tup_p, ↓ext_p, ↓ext_pt, ↓sub_p, ↓len_p, ↓isi_p, ↓tru_p, ↓sto3_0, ↓sto3_1, ↓sto3_2, ↓slc_s, ↓slc_t, ↓slc_l, ↓aug_a, ↓aug_s, ↓aug_m, ↓aug_d, ↓i_seq, ↓seq_t, ↓seq_l, ↓seq_p, ↓i_rng1, ↓rngW_i, ↓i_rng2, ↓rng2W_i, ↓i_enum0, ↓i_enum1, ↓i_zip, ↓zipW_t, ↓zipW_l, ↓ss_n, ↓s_asg, ↓s_par2, ↓s_par3, ↓s_sto, ↓s_aug, ↓s_exp, ↓s_ret, ↓s_ife, ↓s_fr, ↓s_whl, ↓s_rse, ↓s_tr, ↓s_pass, ↓s_brk, ↓s_cnt, any_bool_int, any_bool_bool, any_bool_tuple, any_bool_list, any_bool_str, any_bool_list_tuple, any_bool_bool_str, any_bool_int_str, any_bool_tuple_list, any_int_int, any_int_bool, any_int_tuple, any_int_list, any_int_str, any_int_list_tuple, any_int_bool_str, any_int_int_str, any_int_tuple_list, any_str_int, any_str_bool, any_str_tuple, any_str_list, any_str_str, any_str_list_tuple, any_str_bool_str, any_str_int_str, any_str_tuple_list, any_tuple_int, any_tuple_bool, any_tuple_tuple, any_tuple_list, any_tuple_str, any_tuple_list_tuple, any_tuple_bool_str, any_tuple_int_str, any_tuple_tuple_list, any_list_int, any_list_bool, any_list_tuple, any_list_list, any_list_str, any_list_list_tuple, any_list_bool_str, any_list_int_str, any_list_tuple_list, lstW, tupW, mulOk_l, mulOk_r, Nat.reduceMul, Nat.reduceAdd, Nat.reduceLT, Nat.reduceLeDiff, Nat.reduceSub, not_false_eq_true, true_and, and_true, Bool.not_true, Bool.not_false, List.map_cons, List.map_nil, List.replicate_succ, List.replicate_zero, List.cons_append, List.nil_append, $xs,*])
local macro_rules | `(tactic| simp_all_arith! [$xs,*]) => `(tactic| ((try simp_all_arith [$xs,*]); (repeat (rw [ss_c]; simp_all_arith [$xs,*]))))
local macro_rules | `(tactic| simp_arith! [$xs,*]) => `(tactic| simp only [startR, any_bool_int, any_bool_bool, any_bool_tuple, any_bool_list, any_bool_str, any_bool_list_tuple, any_bool_bool_str, any_bool_int_str, any_bool_tuple_list, any_int_int, any_int_bool, any_int_tuple, any_int_list, any_int_str, any_int_list_tuple, any_int_bool_str, any_int_int_str, any_int_tuple_list, any_str_int, any_str_bool, any_str_tuple, any_str_list, any_str_str, any_str_list_tuple, any_str_bool_str, any_str_int_str, any_str_tuple_list, any_tuple_int, any_tuple_bool, any_tuple_tuple, any_tuple_list, any_tuple_str, any_tuple_list_tuple, any_tuple_bool_str, any_tuple_int_str, any_tuple_tuple_list, any_list_int, any_list_bool, any_list_tuple, any_list_list, any_list_str, any_list_list_tuple, any_list_bool_str, any_list_int_str, any_list_tuple_list, lstW, tupW, mulOk_l, mulOk_r, Nat.reduceMul, Nat.reduceAdd, Nat.reduceLT, Nat.reduceLeDiff, Nat.reduceSub, not_false_eq_true, true_and, and_true, Bool.not_true, Bool.not_false, List.map_cons, List.map_nil, List.replicate_succ, List.replicate_zero, List.cons_append, List.nil_append, $xs,*])
section
variable {k : Nat} {s : S} {Q : D → S → Prop} {X : XT}
theorem ok_tupled_r (is : List Int) (hl : is.length ≤ 100) {a : Nat} (ha : s a = some (.lst (is.map D.int))) (h : Q (.tup (is.map D.int)) s) : run prog consts (k + 2) X f_tupled [.ref a] s Q := by
  rw [← put_self ha]
  refine run_s at_tupled rfl ?_; simp_arith! [d_tupled]
  simp_arith [true_and]
  rw [put_self ha]
  refine lc_all D.int D.int is ha ?_ (by unfold SL; omega) ?_
  · intro d _ P hP
    unfold turnC
    simp_arith [true_and]
    exact ok_tupled_i d hP
  · exact back_same h
/-- what is asked of a row: 1 to 60 numbers, none too great -/
structure RowOk (row : List Int) : Prop where
  pos : 1 ≤ row.length
  le : row.length ≤ 60
  bd : ∀ x ∈ row, x.natAbs ≤ 10 ^ 30
theorem ok_sure_plain_row (row : List Int) (hr : RowOk row) {a : Nat} (ha : s a = some (.lst (row.map D.int))) (h : Q (.tup (row.map D.int)) s) : run prog consts (k + 5) X f_sure_plain_row [.ref a] s Q := by
  refine run_s at_sure_plain_row rfl ?_; simp_arith! [d_sure_plain_row]
  simp_arith [true_and]
  refine ok_tupled_r row (by have := hr.le; omega) ha ?_
  simp_arith [true_and]
  refine ok_is_plain_row row hr.pos hr.le ?_
  simp_arith [true_and]
  refine ok_in_bounds row hr.le hr.bd ?_
  simp_arith [true_and]
  exact back_same h
theorem ok_broken_place (row : List Int) (hr : RowOk row) (hw : wholeB row = true) {a : Nat} (ha : s a = some (.lst (row.map D.int))) (h : Q .non s) : run prog consts (k + 6) X f_broken_place [.ref a] s Q := by
  refine run_s at_broken_place rfl ?_; simp_arith! [d_broken_place]
  simp_arith [true_and]
  refine ok_sure_plain_row row hr ha ?_
  simp_arith [true_and]
  refine ok_broken_in row hr.pos hr.le hw ?_
  simp_arith [true_and]
  exact back_same h
theorem ok_frees_of (row f : List Int) (hr : RowOk row) (hf : freesF row [] = some f) {a : Nat} (ha : s a = some (.lst (row.map D.int))) (h : Q (.tup (f.map wD)) s) : run prog consts (k + 6) X f_frees_of [.ref a] s Q := by
  refine run_s at_frees_of rfl ?_; simp_arith! [d_frees_of]
  simp_arith [true_and]
  refine ok_sure_plain_row row hr ha ?_
  simp_arith [true_and]
  refine ok_frees_in row f hr.le hf ?_
  simp_arith [true_and]
  exact back_same h
theorem cnt_bd (A : Cv) (p : Int) (hp : 2 ≤ p) (hq : p ≤ 97) : Bd (cnt A p) 10000 := by
  have := ptsLen A p hq
  unfold cnt
  exact ⟨by split <;> omega⟩
/-- where the curve is not smooth, counts over greater fields are refused -/
theorem no_field_counts (A : Cv) [SmC A] (hd : disc A ≠ 0) (p : Int) (hp : PL p) (hb : disc A % p = 0) (e : Int) (he : 1 ≤ e ∧ e ≤ 60) (x : D) (hx : CvArg x A) (h : X 0 s) : run prog consts (k + 6) X f_field_counts [x, .int p, .int e] s Q := by
  have hb2 := PL_le hp
  refine run_s at_field_counts rfl ?_; simp_arith! [d_field_counts]
  simp_arith [true_and]
  refine ok_sure_curve_a A hd x hx ?_
  simp_arith [↓frz_pd, ↓frz_cd, ↓eq_pd0, ↓eq_pd, reduceCtorEq, decide_true, decide_false]
  refine ok_sure_curve_prime p hp ?_
  simp_arith [↓frz_pd, ↓frz_cd, ↓eq_pd0, ↓eq_pd, reduceCtorEq, decide_true, decide_false]
  refine ok_sure_within e 1 60 he.1 he.2 ?_
  simp_arith [↓frz_pd, ↓frz_cd, ↓eq_pd0, ↓eq_pd, reduceCtorEq, decide_true, decide_false]
  refine ok_is_smooth A p (by omega) ?_
  simp_arith [↓frz_pd, ↓frz_cd, ↓eq_pd0, ↓eq_pd, reduceCtorEq, decide_true, decide_false, hb]
  exact backX_same h
theorem ok_field_counts (A : Cv) [SmC A] (hd : disc A ≠ 0) (p : Int) (hp : PL p) (hb : disc A % p ≠ 0) (e : Int) (he : 1 ≤ e ∧ e ≤ 60) (x : D) (hx : CvArg x A) (h : Q (.tup ((fcG (cnt A p) p e.toNat 2 (cnt A p) p).map D.int)) s) : run prog consts (k + 6) X f_field_counts [x, .int p, .int e] s Q := by
  have hb2 := PL_le hp
  have bt := cnt_bd A p hb2.1 hb2.2
  have bp : Bd p 97 := bd_of (by omega) (by omega)
  refine run_s at_field_counts rfl ?_; simp_arith! [d_field_counts]
  simp_arith [true_and]
  refine ok_sure_curve_a A hd x hx ?_
  simp_arith [↓frz_pd, ↓frz_cd, ↓eq_pd0, ↓eq_pd, reduceCtorEq, decide_true, decide_false]
  refine ok_sure_curve_prime p hp ?_
  simp_arith [↓frz_pd, ↓frz_cd, ↓eq_pd0, ↓eq_pd, reduceCtorEq, decide_true, decide_false]
  refine ok_sure_within e 1 60 he.1 he.2 ?_
  simp_arith [↓frz_pd, ↓frz_cd, ↓eq_pd0, ↓eq_pd, reduceCtorEq, decide_true, decide_false]
  refine ok_is_smooth A p (by omega) ?_
  simp_arith [↓frz_pd, ↓frz_cd, ↓eq_pd0, ↓eq_pd, reduceCtorEq, decide_true, decide_false, hb]
  refine ok_count_in A p hb2.1 hb2.2 ?_
  rw [show (p + (if disc A % p = 0 then 0 else 1) - ((pts A p).length : Int)) = cnt A p from rfl]
  generalize cnt A p = t at h bt
  simp_arith [↓frz_pd, ↓frz_cd, ↓eq_pd0, ↓eq_pd, reduceCtorEq, decide_true, decide_false]
  intro a ha
  refine ⟨by omega, by omega, ?_⟩
  rw [rngD_map]
  refine fr_map D.int (fun xs r s2 => ∃ b l z acc, r = [some x, some (.int p), some (.int e), some (cd A), some (.int p), some (.int e), some (.int t), some (.int b), some (.int l), some (.int z), some (.ref a), none] ∧ s2 = put s a (.lst (acc.map D.int)) ∧ acc ++ fcG t p xs.length b l z = fcG t p e.toNat 2 t p ∧ acc.length + xs.length ≤ 60) ?_ ?_ _ _ _ ⟨2, t, p, [], rfl, rfl, by rw [rngI_len _ 0]; rfl, by rw [rngI_len _ 0]; simp; omega⟩
  · rintro r s' ⟨b, l, z, acc, rfl, rfl, e1, _⟩
    refine ⟨trivial, ?_⟩
    rw [List.length_nil, fcG, List.append_nil] at e1
    subst e1
    simp_arith [↓frz_pd, ↓frz_cd, ↓eq_pd0, ↓eq_pd, reduceCtorEq, decide_true, decide_false, tup_p]
    exact back_put ha h
  · rintro i xs r s' nx ⟨b, l, z, acc, rfl, rfl, e1, e2⟩ hn
    refine ⟨trivial, ?_⟩
    rw [List.length_cons, fcG] at e1
    rw [List.length_cons] at e2
    simp_arith [↓frz_pd, ↓frz_cd, ↓eq_pd0, ↓eq_pd, reduceCtorEq, decide_true, decide_false]
    refine ⟨by rw [List.length_map]; unfold SL; omega, ?_⟩
    refine hn _ _ ⟨l, t * l - p * b, z * p, acc ++ [z + 1 - l], rfl, ?_, ?_, ?_⟩
    · rw [List.map_append]; rfl
    · rw [← e1, List.append_assoc]; rfl
    · rw [List.length_append, List.length_singleton]; omega
end
end K71

set_option linter.all false
set_option maxRecDepth 100000
/-! K71_J: contracts of the law's own defs. -/
namespace K71
open IR PySem EC
local macro_rules | `(tactic| simp_arith [$xs,*]) => `(tactic| simp only [↓getV_z, ↓getV_s, ↓setK_z, ↓setK_s, ↓wipeK_n, ↓wipeK_c, ↓asgW_nm, ↓asgW_tp, ↓asgW_tl, ↓asgsW_n, ↓asgsW_c, ↓x_var, ↓x_int, ↓x_bl, ↓x_non, ↓x_str, ↓x_glob, ↓globW_z, ↓globW_s, ↓x_bin, ↓x_neg, ↓negW_i, ↓x_cmp, ↓two_t, ↓two_f, ↓two_n, ↓two_and, ↓two_or, ↓x_chain, ↓chainW_b, ↓x_isN, ↓x_notN, ↓isNW_n, ↓isNW_i, ↓isNW_b, ↓isNW_s, ↓isNW_t, ↓isNW_l, ↓isNW_r, ↓x_and, ↓x_or, ↓x_not, ↓x_ite, ↓x_tup0, ↓x_tup1, ↓x_tup2, ↓x_tup3, ↓x_tup4, ↓x_tup5, ↓x_lst0, ↓x_lst1, ↓x_lst2, ↓x_lst3, ↓x_lst4, ↓x_lst5, ↓x_lst6, ↓x_tup6, ↓x_sub, ↓x_dsel, ↓x_slc, ↓xo_n, ↓xo_s, ↓partW_i, ↓x_call1, ↓x_call2, ↓x_call3, ↓x_call4, ↓x_call5, ↓x_call6, ↓x_callk, ↓xs_n, ↓xs_c, ↓x_bi1, ↓x_bi2, ↓x_isi, ↓x_app, ↓x_ext, ↓x_lc, ↓rq_lo, ↓rq_hi, ↓b_and, ↓b_or, ↓b_not, ↓b_cmp, ↓b_chain, ↓b_isN, ↓b_notN, ↓b_var, ↓b_call, ↓b_callk, ↓b_bi, ↓b_isi, ↓b_bin, ↓b_bl, ↓b_sub, ↓ob_n, ↓ob_s, ↓add_i, ↓sub_i, ↓mul_i, ↓mod_i, ↓fdiv_i, ↓pow_i, ↓add_t, ↓add_l, ↓mul_l, ↓newL_f, ↓newL_t, ↓frz_i, ↓frz_b, ↓frz_n, ↓frz_s, ↓frz_t, ↓frz_l, ↓frz_k, ↓eq_i, ↓ne_i, ↓eq_b, ↓eq_s, ↓ne_b, ↓lt_i, ↓le_i, ↓gt_i, ↓ge_i, ↓eq_t, ↓ne_t, ↓eq_l, ↓ne_l, ↓tru_b, ↓tru_i, ↓tru_n, ↓tru_t, ↓tru_l, ↓boo_b, ↓sub_t, ↓sub_l, ↓atW_s, ↓at_0, ↓at_1, ↓at_2, ↓at_3, ↓at_4, ↓isi_i, ↓isi_b, ↓isi_s, ↓isi_t, ↓isi_l, ↓isi_n, ↓len_t, ↓len_l, ↓len_s, ↓abs_i, ↓int_i, ↓int_b, ↓tup_l, ↓tup_t, ↓lis_l, ↓lis_t, ↓app_p, ↓isl_p, ↓tup_p, ↓ext_p, ↓ext_pt, ↓sub_p, ↓len_p, ↓isi_p, ↓tru_p, ↓sto3_0, ↓sto3_1, ↓sto3_2, ↓slc_s, ↓slc_t, ↓slc_l, ↓aug_a, ↓aug_s, ↓aug_m, ↓aug_d, ↓i_seq, ↓seq_t, ↓seq_l, ↓seq_p, ↓i_rng1, ↓rngW_i, ↓i_rng2, ↓rng2W_i, ↓i_enum0, ↓i_enum1, ↓i_zip, ↓zipW_t, ↓zipW_l, ↓ss_n, ↓ss_c, ↓s_asg, ↓s_par2, ↓s_par3, ↓s_sto, ↓s_aug, ↓s_exp, ↓s_ret, ↓s_ife, ↓s_fr, ↓s_whl, ↓s_rse, ↓s_tr, ↓s_pass, ↓s_brk, ↓s_cnt, any_bool_int, any_bool_bool, any_bool_tuple, any_bool_list, any_bool_str, any_bool_list_tuple, any_bool_bool_str, any_bool_int_str, any_bool_tuple_list, any_int_int, any_int_bool, any_int_tuple, any_int_list, any_int_str, any_int_list_tuple, any_int_bool_str, any_int_int_str, any_int_tuple_list, any_str_int, any_str_bool, any_str_tuple, any_str_list, any_str_str, any_str_list_tuple, any_str_bool_str, any_str_int_str, any_str_tuple_list, any_tuple_int, any_tuple_bool, any_tuple_tuple, any_tuple_list, any_tuple_str, any_tuple_list_tuple, any_tuple_bool_str, any_tuple_int_str, any_tuple_tuple_list, any_list_int, any_list_bool, any_list_tuple, any_list_list, any_list_str, any_list_list_tuple, any_list_bool_str, any_list_int_str, any_list_tuple_list, lstW, tupW, mulOk_l, mulOk_r, Nat.reduceMul, Nat.reduceAdd, Nat.reduceLT, Nat.reduceLeDiff, Nat.reduceSub, not_false_eq_true, true_and, and_true, Bool.not_true, Bool.not_false, List.map_cons, List.map_nil, List.replicate_succ, List.replicate_zero, List.cons_append, List.nil_append, $xs,*])
local macro_rules | `(tactic| simp_all_arith [$xs,*]) => `(tactic| simp only [↓getV_z, ↓getV_s, ↓setK_z, ↓setK_s, ↓wipeK_n, ↓wipeK_c, ↓asgW_nm, ↓asgW_tp, ↓asgW_tl, ↓asgsW_n, ↓asgsW_c, ↓x_var, ↓x_int, ↓x_bl, ↓x_non, ↓x_str, ↓x_glob, ↓globW_z, ↓globW_s, ↓x_bin, ↓x_neg, ↓negW_i, ↓x_cmp, ↓two_t, ↓two_f, ↓two_n, ↓two_and, ↓two_or, ↓x_chain, ↓chainW_b, ↓x_isN, ↓x_notN, ↓isNW_n, ↓isNW_i, ↓isNW_b, ↓isNW_s, ↓isNW_t, ↓isNW_l, ↓isNW_r, ↓x_and, ↓x_or, ↓x_not, ↓x_ite, ↓x_tup0, ↓x_tup1, ↓x_tup2, ↓x_tup3, ↓x_tup4, ↓x_tup5, ↓x_lst0, ↓x_lst1, ↓x_lst2, ↓x_lst3, ↓x_lst4, ↓x_lst5, ↓x_lst6, ↓x_tup6, ↓x_sub, ↓x_dsel, ↓x_slc, ↓xo_n, ↓xo_s, ↓partW_i, ↓x_call1, ↓x_call2, ↓x_call3, ↓x_call4, ↓x_call5, ↓x_call6, ↓x_callk, ↓xs_n, ↓xs_c, ↓x_bi1, ↓x_bi2, ↓x_isi, ↓x_app, ↓x_ext, ↓x_lc, ↓rq_lo, ↓rq_hi, ↓b_and, ↓b_or, ↓b_not, ↓b_cmp, ↓b_chain, ↓b_isN, ↓b_notN, ↓b_var, ↓b_call, ↓b_callk, ↓b_bi, ↓b_isi, ↓b_bin, ↓b_bl, ↓b_sub, ↓ob_n, ↓ob_s, ↓add_i, ↓sub_i, ↓mul_i, ↓mod_i, ↓fdiv_i, ↓pow_i, ↓add_t, ↓add_l, ↓mul_l, ↓newL_f, ↓newL_t, ↓frz_i, ↓frz_b, ↓frz_n, ↓frz_s, ↓frz_t, ↓frz_l, ↓frz_k, ↓eq_i, ↓ne_i, ↓eq_b, ↓eq_s, ↓ne_b, ↓lt_i, ↓le_i, ↓gt_i, ↓ge_i, ↓eq_t, ↓ne_t, ↓eq_l, ↓ne_l, ↓tru_b, ↓tru_i, ↓tru_n, ↓tru_t, ↓tru_l, ↓boo_b, ↓sub_t, ↓sub_l, ↓atW_s, ↓at_0, ↓at_1, ↓at_2, ↓at_3, ↓at_4, ↓isi_i, ↓isi_b, ↓isi_s, ↓isi_t, ↓isi_l, ↓isi_n, ↓len_t, ↓len_l, ↓len_s, ↓abs_i, ↓int_i, ↓int_b, ↓tup_l, ↓tup_t, ↓lis_l, ↓lis_t, ↓app_p, ↓isl_p, ↓tup_p, ↓ext_p, ↓ext_pt, ↓sub_p, ↓len_p, ↓isi_p, ↓tru_p, ↓sto3_0, ↓sto3_1, ↓sto3_2, ↓slc_s, ↓slc_t, ↓slc_l, ↓aug_a, ↓aug_s, ↓aug_m, ↓aug_d, ↓i_seq, ↓seq_t, ↓seq_l, ↓seq_p, ↓i_rng1, ↓rngW_i, ↓i_rng2, ↓rng2W_i, ↓i_enum0, ↓i_enum1, ↓i_zip, ↓zipW_t, ↓zipW_l, ↓ss_n, ↓s_asg, ↓s_par2, ↓s_par3, ↓s_sto, ↓s_aug, ↓s_exp, ↓s_ret, ↓s_ife, ↓s_fr, ↓s_whl, ↓s_rse, ↓s_tr, ↓s_pass, ↓s_brk, ↓s_cnt, any_bool_int, any_bool_bool, any_bool_tuple, any_bool_list, any_bool_str, any_bool_list_tuple, any_bool_bool_str, any_bool_int_str, any_bool_tuple_list, any_int_int, any_int_bool, any_int_tuple, any_int_list, any_int_str, any_int_list_tuple, any_int_bool_str, any_int_int_str, any_int_tuple_list, any_str_int, any_str_bool, any_str_tuple, any_str_list, any_str_str, any_str_list_tuple, any_str_bool_str, any_str_int_str, any_str_tuple_list, any_tuple_int, any_tuple_bool, any_tuple_tuple, any_tuple_list, any_tuple_str, any_tuple_list_tuple, any_tuple_bool_str, any_tuple_int_str, any_tuple_tuple_list, any_list_int, any_list_bool, any_list_tuple, any_list_list, any_list_str, any_list_list_tuple, any_list_bool_str, any_list_int_str, any_list_tuple_list, lstW, tupW, mulOk_l, mulOk_r, Nat.reduceMul, Nat.reduceAdd, Nat.reduceLT, Nat.reduceLeDiff, Nat.reduceSub, not_false_eq_true, true_and, and_true, Bool.not_true, Bool.not_false, List.map_cons, List.map_nil, List.replicate_succ, List.replicate_zero, List.cons_append, List.nil_append, $xs,*])
local macro_rules | `(tactic| simp_all_arith! [$xs,*]) => `(tactic| ((try simp_all_arith [$xs,*]); (repeat (rw [ss_c]; simp_all_arith [$xs,*]))))
local macro_rules | `(tactic| simp_arith! [$xs,*]) => `(tactic| simp only [startR, any_bool_int, any_bool_bool, any_bool_tuple, any_bool_list, any_bool_str, any_bool_list_tuple, any_bool_bool_str, any_bool_int_str, any_bool_tuple_list, any_int_int, any_int_bool, any_int_tuple, any_int_list, any_int_str, any_int_list_tuple, any_int_bool_str, any_int_int_str, any_int_tuple_list, any_str_int, any_str_bool, any_str_tuple, any_str_list, any_str_str, any_str_list_tuple, any_str_bool_str, any_str_int_str, any_str_tuple_list, any_tuple_int, any_tuple_bool, any_tuple_tuple, any_tuple_list, any_tuple_str, any_tuple_list_tuple, any_tuple_bool_str, any_tuple_int_str, any_tuple_tuple_list, any_list_int, any_list_bool, any_list_tuple, any_list_list, any_list_str, any_list_list_tuple, any_list_bool_str, any_list_int_str, any_list_tuple_list, lstW, tupW, mulOk_l, mulOk_r, Nat.reduceMul, Nat.reduceAdd, Nat.reduceLT, Nat.reduceLeDiff, Nat.reduceSub, not_false_eq_true, true_and, and_true, Bool.not_true, Bool.not_false, List.map_cons, List.map_nil, List.replicate_succ, List.replicate_zero, List.cons_append, List.nil_append, $xs,*])
/-- the box of draws at a: three ints; the third counts the draws -/
def Tn (n : Nat) (s : S) (a : Nat) : Prop := ∃ u v w : Int, s a = some (.lst [.int u, .int v, .int w]) ∧ 0 ≤ u ∧ 0 ≤ v ∧ v < 9223372036854775808 ∧ 0 ≤ w ∧ w ≤ n
section
variable {k : Nat} {s : S} {Q : D → S → Prop} {X : XT}
theorem ok_law_take {n : Nat} {a : Nat} (hT : Tn n s a) (hn : n < 1000000000000) (b : Int) (hb : 0 < b) (hb2 : b < 1000000000)
    (h : ∀ d s', 0 ≤ d → d < b → Tn (n + 1) s' a → (∀ c, c ≠ a → s' c = s c) → Q (.int d) s') : run prog consts (k + 1) X f_u_law_take [.ref a, .int b] s Q := by
  obtain ⟨u, v, w, e, hu, hv, hv2, hw, hw2⟩ := hT
  have e2 := put_self e
  have bw : Bd w 1000000000000 := bd_of (by omega) (by omega)
  rw [← e2]
  refine run_s at_u_law_take rfl ?_; simp_arith! [d_u_law_take]
  simp_arith [gt_i]
  rw [two_d]
  constructor
  · intro c
    refine ⟨hb, ⟨by omega, .inl (by omega)⟩, ?_⟩
    apply back_same
    refine h _ _ (Int.emod_nonneg _ (by omega)) (Int.emod_lt_of_pos _ hb) ⟨_, v, w, put_at _ _ _, ?_, hv, hv2, hw, by omega⟩ fun c hc => put_ne hc
    rw [Int.fdiv_eq_ediv_of_nonneg _ (by omega)]
    exact Int.ediv_nonneg hu (by omega)
  · intro c
    refine ⟨by decide, by decide, ⟨by decide, .inl (by decide)⟩, ?_⟩
    refine ⟨by decide, by decide, ⟨by decide, .inl (by decide)⟩, hb, ?_⟩
    apply back_same
    exact h _ _ (Int.emod_nonneg _ (by omega)) (Int.emod_lt_of_pos _ hb) ⟨u, v, w + 1, put_at _ _ _, hu, hv, hv2, by omega, by omega⟩ fun c hc => put_ne hc
theorem ok_law_box (z : Int) (h : ∀ a s', s a = none → Tn 0 s' a → (∀ c, c ≠ a → s' c = s c) → Q (.ref a) s') : run prog consts (k + 1) X f_u_law_box [.lv [.int z], .int 0] s Q := by
  refine run_s at_u_law_box rfl ?_; simp_arith! [d_u_law_box]
  simp_arith [true_and]
  rw [show decide ((0 : Int) < (([D.int z].length : Nat) : Int)) = true from rfl]
  simp_arith [true_and]
  refine ⟨⟨by decide, by decide, by decide⟩, ?_⟩
  have b2 : ∀ c : Bool, -(2 ^ 64) < (if c then (1 : Int) else 0) ∧ (if c then (1 : Int) else 0) < 2 ^ 64 ∧ 0 ≤ (if c then (1 : Int) else 0) := fun c => by cases c <;> decide
  refine ⟨mul_of (b2 _).1 (b2 _).2.1, by decide, ?_⟩
  intro a ha
  apply back_same
  refine h a _ ha ⟨_, _, _, put_at _ _ _, ?_, ?_, ?_, by omega, by omega⟩ fun c hc => put_ne hc
  · apply Int.mul_nonneg
    · split <;> omega
    · exact (b2 _).2.2
  · have := Int.emod_nonneg z (b := 2305843009213693951) (by decide)
    omega
  · have := Int.emod_lt_of_pos z (b := 2305843009213693951) (by decide)
    omega
theorem enumD_map (xs : List Int) : ∀ i, enumD i (xs.map D.int) = (xs.zipIdx i).map fun q : Int × Nat => .tup [.int q.2, .int q.1] := by
  induction xs with
  | nil => intro i; rfl
  | cons x xs ih => intro i; rw [List.map_cons, enumD, ih, List.zipIdx_cons, List.map_cons]
theorem ok_law_cells1 (ns : List Int) (hl : ns.length ≤ 63) (h : ∀ a z, s a = none → Q (.ref a) (put s a (.lst [.int z]))) : run prog consts (k + 1) X f_u_law_cells [.scr ns, .int 1] s Q := by
  refine run_s at_u_law_cells rfl ?_; simp_arith! [d_u_law_cells]
  simp_arith [lis_l]
  intro a ha
  cases ns with
  | nil =>
    simp_arith [show (List.map D.int (cut ([] : List Int) none (some 1))) = [] from rfl, List.isEmpty_nil]
    intro a2 ha2
    simp_arith [show (List.map D.int (cut ([] : List Int) (some 1) (some 63))) = [] from rfl, enumD]
    simp only [fr_n]
    simp_arith [true_and]
    have hne : a2 ≠ a := by
      intro e
      rw [e, put_at] at ha2
      cases ha2
    rw [put_ne hne] at ha2
    refine ⟨put s a2 (.lst [.int 0]), ?_, h a2 0 ha2⟩
    intro b o e
    by_cases c : b = a2
    · subst c
      rw [put_at] at e ⊢
      exact e
    · rw [put_ne c] at e ⊢
      by_cases c2 : b = a
      · subst c2
        rw [ha] at e
        cases e
      · rw [put_ne c2]
        exact e
  | cons n ns =>
    rw [show cut (n :: ns) none (some 1) = [n] by simp [cut, sIx]]
    simp_arith [List.isEmpty_cons]
    rw [enumD_map]
    have hlen : (cut (n :: ns) (some 1) (some 63)).length ≤ 63 := by
      unfold cut
      rw [List.length_take]
      have : sIx (n :: ns).length (n :: ns).length (some 63) ≤ 63 := by
        show (if (63 : Int) < 0 then (63 + ((n :: ns).length : Int)).toNat else min (63 : Int).toNat (n :: ns).length) ≤ 63
        rw [if_neg (by decide)]
        exact Nat.min_le_left _ _
      omega
    refine fr_map (fun q : Int × Nat => .tup [.int q.2, .int q.1]) (fun xs r s' => ∃ z o1 o2 o3, r = [some (.scr (n :: ns)), some (.int 1), some (.ref a), o1, o2, o3] ∧ s' = put s a (.lst [.int z]) ∧ ∀ q ∈ xs, q.2 < 63) ?_ ?_ _ _ _ ⟨n, none, none, none, rfl, rfl, fun q hq => ?_⟩
    · rintro r s' ⟨z, o1, o2, o3, rfl, rfl, _⟩
      refine ⟨trivial, ?_⟩
      simp_arith [true_and]
      exact back_same (h a z ha)
    · rintro ⟨x, i⟩ xs r s' nx ⟨z, o1, o2, o3, rfl, rfl, hx⟩ hn
      refine ⟨trivial, ?_⟩
      have hi : i < 63 := hx _ List.mem_cons_self
      have bi : Bd (i : Int) 63 := bd_of (by omega) (by omega)
      simp_arith [Int.emod_one]
      refine ⟨by decide, ?_⟩
      rw [sto_p (j := 0) 0 _ _ rfl]
      exact hn _ _ ⟨_, _, _, _, rfl, rfl, fun q hq => hx q (List.mem_cons_of_mem _ hq)⟩
    · have := List.mem_zipIdx hq
      omega
theorem ok_law_of {n : Nat} {a : Nat} (hT : Tn n s a) (hn : n < 1000000000000) (ds : List D) (h0 : ds ≠ []) (hl : ds.length < 1000000)
    (h : ∀ d s', d ∈ ds → Tn (n + 1) s' a → (∀ c, c ≠ a → s' c = s c) → Q d s') : run prog consts (k + 2) X f_u_law_of [.ref a, .lv ds] s Q := by
  have hp : 0 < ds.length := List.length_pos_iff.2 h0
  refine run_s at_u_law_of rfl ?_; simp_arith! [d_u_law_of]
  simp_arith [true_and]
  refine ok_law_take hT hn ds.length (by omega) (by omega) ?_
  intro d s' h1 h2 h3 h4
  simp_arith [true_and]
  obtain ⟨j, rfl⟩ := Int.eq_ofNat_of_zero_le h1
  have hj : j < ds.length := by omega
  rw [at_nat _ _ hj, List.getElem?_eq_getElem hj]
  simp_arith [true_and]
  exact back_same (h _ s' (List.getElem_mem hj) h3 h4)
/-- the same, though a list that may change may stand for a frozen one -/
inductive Same (s : S) : D → D → Prop where
  | non : Same s .non .non
  | int (i : Int) : Same s (.int i) (.int i)
  | bl (b : Bool) : Same s (.bl b) (.bl b)
  | str (x : Str) : fine (.str x) → Same s (.str x) (.str x)
  | tup {xs ys : List D} : xs.length = ys.length → xs.length ≤ SL → (∀ q ∈ xs.zip ys, Same s q.1 q.2) → Same s (.tup xs) (.tup ys)
  | lv {xs ys : List D} : xs.length = ys.length → xs.length ≤ SL → (∀ q ∈ xs.zip ys, Same s q.1 q.2) → Same s (.lv xs) (.lv ys)
  | ref {a : Nat} {xs ys : List D} : s a = some (.lst xs) → xs.length = ys.length → xs.length ≤ SL → (∀ q ∈ xs.zip ys, Same s q.1 q.2) → Same s (.ref a) (.lv ys)
theorem zipD_map (xs ys : List D) : zipD xs ys = (xs.zip ys).map fun q => .tup [q.1, q.2] := by
  induction xs generalizing ys with
  | nil => rfl
  | cons x xs ih => cases ys with
    | nil => rfl
    | cons y ys => rw [zipD, List.zip_cons_cons, List.map_cons, ih]
theorem deps_mem {d : D} : ∀ {ds : List D}, d ∈ ds → dep d ≤ deps ds
  | [], h => absurd h List.not_mem_nil
  | e :: ds, h => by
    rw [deps]
    rcases List.mem_cons.1 h with rfl | h
    · exact Nat.le_max_left _ _
    · exact Nat.le_trans (deps_mem h) (Nat.le_max_right _ _)
theorem same_turn {R : RunT} {xs ys : List D} (hr : ∀ q ∈ xs.zip ys, ∀ Q : D → S → Prop, Q (.bl true) s → R (1000 + f_u_law_same) [q.1, q.2] s Q) (hxy : xs.length = ys.length) (hl : xs.length ≤ SL) (chk : S → Prop) (hc : chk s) (g d : D) (P : List D → S → Prop) (h : P (List.replicate xs.length (.bl true)) s) :
    lcW (turnC R consts [2, 3] (.call false (1000 + f_u_law_same) [.var 2, .var 3]) (.tp [.nm 2, .nm 3]) none [some g, some d, none, none]) chk (zipD xs ys) [] s P := by
  rw [zipD_map]
  refine lc_all (fun q : D × D => .tup [q.1, q.2]) (fun _ => .bl true) (xs.zip ys) hc ?_ (by rw [List.length_zip]; omega) ?_
  · intro q hq P hP
    unfold turnC
    simp_arith [true_and]
    refine hr q hq _ ?_
    simp_arith [true_and]
    exact hP
  · rw [show (xs.zip ys).map (fun _ => D.bl true) = List.replicate xs.length (.bl true) by
      rw [List.map_const', List.length_zip, ← hxy, Nat.min_self]]
    exact h
theorem all_true (m : Bool) (n : Nat) : biW .all m [.lv (List.replicate n (.bl true))] s Q = Q (.bl true) s := by
  rw [show List.replicate n (D.bl true) = (List.replicate n true).map D.bl by rw [List.map_replicate], all_l]
  congr 2
  simp
theorem ok_law_same {g d : D} (hs : Same s g d) (hb : dep d < k) (h : Q (.bl true) s) : run prog consts k X f_u_law_same [g, d] s Q := by
  induction hs generalizing k Q X with
  | non =>
    cases k with
    | zero => omega
    | succ k =>
      refine run_s at_u_law_same rfl ?_; simp_arith! [d_u_law_same]
      simp_arith [true_and]
      exact back_same h
  | int i =>
    cases k with
    | zero => omega
    | succ k =>
      refine run_s at_u_law_same rfl ?_; simp_arith! [d_u_law_same]
      simp_arith [true_and]
      simp only [decide_true]
      exact back_same h
  | bl i =>
    cases k with
    | zero => omega
    | succ k =>
      refine run_s at_u_law_same rfl ?_; simp_arith! [d_u_law_same]
      simp_arith [true_and]
      simp only [decide_true]
      simp_arith [true_and]
      exact back_same h
  | str i hf =>
    cases k with
    | zero => omega
    | succ k =>
      refine run_s at_u_law_same rfl ?_; simp_arith! [d_u_law_same]
      simp_arith [true_and]
      simp only [decide_true]
      simp_arith [BEq.rfl]
      exact ⟨hf, hf, back_same h⟩
  | @tup xs ys he hl hz ih =>
    cases k with
    | zero => omega
    | succ k =>
      refine run_s at_u_law_same rfl ?_; simp_arith! [d_u_law_same]
      simp_arith [decide_true]
      rw [he]
      simp_arith [decide_true]
      rw [dep] at hb
      refine same_turn (fun q hq Q' h' => by
        have := deps_mem (List.of_mem_zip hq).2
        rw [rq_hi (by decide)]
        exact ih q hq (by omega) h') he hl _ trivial _ _ _ ?_
      simp_arith [all_true]
      exact back_same h
  | @lv xs ys he hl hz ih =>
    cases k with
    | zero => omega
    | succ k =>
      refine run_s at_u_law_same rfl ?_; simp_arith! [d_u_law_same]
      simp_arith [decide_true]
      rw [he]
      simp_arith [decide_true]
      rw [dep] at hb
      refine same_turn (fun q hq Q' h' => by
        have := deps_mem (List.of_mem_zip hq).2
        rw [rq_hi (by decide)]
        exact ih q hq (by omega) h') he hl _ trivial _ _ _ ?_
      simp_arith [all_true]
      exact back_same h
  | @ref a xs ys ha he hl hz ih =>
    cases k with
    | zero => omega
    | succ k =>
      rw [← put_self ha]
      refine run_s at_u_law_same rfl ?_; simp_arith! [d_u_law_same]
      simp_arith [decide_true]
      rw [he]
      simp_arith [decide_true]
      rw [dep] at hb
      simp only [zipW]
      simp_arith [true_and]
      rw [put_self ha]
      refine same_turn (fun q hq Q' h' => by
        have := deps_mem (List.of_mem_zip hq).2
        rw [rq_hi (by decide)]
        exact ih q hq (by omega) h') he hl _ ha _ _ _ ?_
      simp_arith [all_true]
      exact back_same h
theorem same_two {s : S} {a b c d : D} (h1 : Same s a c) (h2 : Same s b d) : Same s (.lv [a, b]) (.lv [c, d]) := by
  refine .lv rfl (by unfold SL; exact Nat.le_of_ble_eq_true rfl) fun q hq => ?_
  simp only [List.zip_cons_cons, List.zip_nil_right, List.mem_cons, List.not_mem_nil, or_false] at hq
  rcases hq with rfl | rfl
  · exact h1
  · exact h2
theorem same_three {s : S} {a1 a2 a3 b1 b2 b3 : D} (h1 : Same s a1 b1) (h2 : Same s a2 b2) (h3 : Same s a3 b3) : Same s (.lv [a1, a2, a3]) (.lv [b1, b2, b3]) := by
  refine .lv rfl (by unfold SL; exact Nat.le_of_ble_eq_true rfl) fun q hq => ?_
  simp only [List.zip_cons_cons, List.zip_nil_right, List.mem_cons, List.not_mem_nil, or_false] at hq
  rcases hq with rfl | rfl | rfl <;> assumption
theorem same_five {s : S} {a1 a2 a3 a4 a5 b1 b2 b3 b4 b5 : D} (h1 : Same s a1 b1) (h2 : Same s a2 b2) (h3 : Same s a3 b3) (h4 : Same s a4 b4) (h5 : Same s a5 b5) : Same s (.lv [a1, a2, a3, a4, a5]) (.lv [b1, b2, b3, b4, b5]) := by
  refine .lv rfl (by unfold SL; exact Nat.le_of_ble_eq_true rfl) fun q hq => ?_
  simp only [List.zip_cons_cons, List.zip_nil_right, List.mem_cons, List.not_mem_nil, or_false] at hq
  rcases hq with rfl | rfl | rfl | rfl | rfl <;> assumption
theorem same_ints {s : S} : ∀ q : D × D, ∀ l : List Int, q ∈ (l.map D.int).zip (l.map D.int) → Same s q.1 q.2
  | _, [], h => absurd h (by simp)
  | q, i :: l, h => by
    rw [List.map_cons, List.zip_cons_cons] at h
    rcases List.mem_cons.1 h with rfl | h
    · exact .int i
    · exact same_ints q l h
theorem same_it {s : S} (l : List Int) (hl : l.length ≤ SL) : Same s (.tup (l.map D.int)) (.tup (l.map D.int)) := .tup rfl (by rwa [List.length_map]) fun q hq => same_ints q l hq
theorem deps_ints (l : List Int) : deps (l.map D.int) = 0 := by
  induction l with
  | nil => rfl
  | cons i l ih => rw [List.map_cons, deps, ih]; rfl
end
section
variable {k : Nat} {s : S} {Q : D → S → Prop} {X : XT}
class Sm9 (A : Cv) : Prop where
  b1 : Bd A.a1 100
  b2 : Bd A.a2 100
  b3 : Bd A.a3 100
  b4 : Bd A.a4 100
  b6 : Bd A.a6 100
theorem Sm9.smC {A : Cv} (h : Sm9 A) : SmC A := ⟨⟨Nat.le_trans h.b1.le (by decide)⟩, ⟨Nat.le_trans h.b2.le (by decide)⟩, ⟨Nat.le_trans h.b3.le (by decide)⟩, ⟨Nat.le_trans h.b4.le (by decide)⟩, ⟨Nat.le_trans h.b6.le (by decide)⟩⟩
theorem c4c6 (A : Cv) : c4 A * c4 A * c4 A - c6 A * c6 A = 1728 * disc A := by
  unfold c4 c6 disc b2 b4 b6 b8
  grind
theorem ok_law_discriminant (A : Cv) (hA : Sm9 A) (h : Q (.int (disc A)) s) : run prog consts (k + 1) X f_u_law_discriminant [cd A] s Q := by
  have i1 := hA.b1
  have i2 := hA.b2
  have i3 := hA.b3
  have i4 := hA.b4
  have i6 := hA.b6
  refine run_s at_u_law_discriminant rfl ?_; simp_arith! [d_u_law_discriminant]
  simp_arith [cd]
  refine ⟨⟨by decide, .inl (by decide)⟩, ?_⟩
  apply back_same
  have e : ((b2 A * b2 A - 24 * b4 A) * (b2 A * b2 A - 24 * b4 A) * (b2 A * b2 A - 24 * b4 A) - (36 * b2 A * b4 A - b2 A * b2 A * b2 A - 216 * b6 A) * (36 * b2 A * b4 A - b2 A * b2 A * b2 A - 216 * b6 A)).fdiv 1728 = disc A := by
    rw [show (b2 A * b2 A - 24 * b4 A) * (b2 A * b2 A - 24 * b4 A) * (b2 A * b2 A - 24 * b4 A) - (36 * b2 A * b4 A - b2 A * b2 A * b2 A - 216 * b6 A) * (36 * b2 A * b4 A - b2 A * b2 A * b2 A - 216 * b6 A) = 1728 * disc A from c4c6 A, Int.fdiv_eq_ediv_of_nonneg _ (by decide), Int.mul_ediv_cancel_left _ (by decide)]
  rw [← e] at h
  exact h
theorem ok_law_stands (A : Cv) [SmC A] (p x y : Int) (hp : 0 < p) [Bd x 97] [Bd y 97] (h : Q (.bl (stands A p x y)) s) : run prog consts (k + 1) X f_u_law_stands [cd A, .int p, .int x, .int y] s Q := by
  refine run_s at_u_law_stands rfl ?_; simp_arith! [d_u_law_stands]
  simp_arith [cd]
  refine ⟨hp, back_same ?_⟩
  have e : y * (y + A.a1 * x + A.a3) - (x * (x * (x + A.a2) + A.a4) + A.a6) = y * y + A.a1 * x * y + A.a3 * y - x * x * x - A.a2 * x * x - A.a4 * x - A.a6 := by grind
  rw [e]
  exact h
theorem ok_law_is_sharp (A : Cv) [SmC A] (p x y : Int) (hp : 0 < p) [Bd x 97] [Bd y 97] (h : Q (.bl (sharp A p x y)) s) : run prog consts (k + 1) X f_u_law_is_sharp [cd A, .int p, .int x, .int y] s Q := by
  refine run_s at_u_law_is_sharp rfl ?_; simp_arith! [d_u_law_is_sharp]
  simp_arith [cd]
  refine ⟨hp, ?_⟩
  unfold sharp slantA slantB at h
  by_cases c : (A.a1 * y - 3 * x * x - 2 * A.a2 * x - A.a4) % p = 0
  · simp only [c, decide_true, Bool.true_and] at h
    simp_arith [c, decide_true]
    exact ⟨hp, back_same h⟩
  · simp only [c, decide_false, Bool.false_and] at h
    simp_arith [c, decide_false]
    exact back_same h
theorem mem_found {A : Cv} {p : Int} {q : Int × Int} (h : q ∈ found A p) : 0 ≤ q.1 ∧ q.1 < p ∧ 0 ≤ q.2 ∧ q.2 < p := by
  unfold found at h
  simp only [List.mem_map, List.mem_filter, List.mem_flatMap, mem_rngI] at h
  obtain ⟨x, hx, y, ⟨hy, _⟩, rfl⟩ := h
  dsimp only
  omega
def qd (q : Int × Int) : D := .tup [.int q.1, .int q.2]
theorem ok_law_places (A : Cv) [SmC A] (p : Int) (hp : 2 ≤ p) (hq : p ≤ 97) (h : ∀ a, s a = none → Q (.tup [.ref a, .lv (((found A p).filter fun q => sharp A p q.1 q.2).map qd)]) (put s a (.lst ((found A p).map qd)))) : run prog consts (k + 2) X f_u_law_places [cd A, .int p] s Q := by
  refine run_s at_u_law_places rfl ?_; simp_arith! [d_u_law_places]
  simp_arith [true_and]
  intro a ha
  refine ⟨by omega, by omega, ?_⟩
  rw [rngD_map]
  refine fr_map D.int (fun xs r s' => ∃ acc o1 o2, r = [some (cd A), some (.int p), some (.ref a), o1, o2, none] ∧ s' = put s a (.lst (acc.map qd)) ∧ acc ++ (xs.flatMap fun x => ((rngI 0 p.toNat).filter (stands A p x)).map fun y => (x, y)) = found A p ∧ ∀ x ∈ xs, 0 ≤ x ∧ x < p) ?_ ?_ _ _ _ ⟨[], none, none, rfl, rfl, rfl, fun x hx => ?_⟩
  · rintro r s' ⟨acc, o1, o2, rfl, rfl, e, _⟩
    refine ⟨trivial, ?_⟩
    simp only [List.flatMap_nil, List.append_nil] at e
    subst e
    simp_arith [true_and]
    refine lc_map qd (fun q => if sharp A p q.1 q.2 then some (qd q) else none) _ (put_at _ _ _) ?_ (by have := foundLen A p hq; unfold SL; omega) ?_
    · intro q hq' P hP
      have hm := mem_found hq'
      have bx : Bd q.1 97 := bd_in hq hm.1 hm.2.1
      have bby : Bd q.2 97 := bd_in hq hm.2.2.1 hm.2.2.2
      unfold turnC
      simp_arith [qd]
      refine ok_law_is_sharp A p q.1 q.2 (by omega) ?_
      simp_arith [true_and]
      cases c : sharp A p q.1 q.2
      · rw [c] at hP
        simp_arith [true_and]
        exact hP
      · rw [c] at hP
        simp_arith [true_and]
        exact hP
    · rw [show List.filterMap (fun q : Int × Int => if sharp A p q.1 q.2 = true then some (qd q) else none) (found A p) = ((found A p).filter fun q => sharp A p q.1 q.2).map qd by
        generalize found A p = l
        induction l with
        | nil => rfl
        | cons q l ih => cases c : sharp A p q.1 q.2 <;> simp [c, ih]]
      exact back_same (h a ha)
  · rintro x xs r s' nx ⟨acc, o1, o2, rfl, rfl, e, hx⟩ hn
    refine ⟨trivial, ?_⟩
    have hx1 := hx x List.mem_cons_self
    have bx : Bd x 97 := bd_in hq hx1.1 hx1.2
    simp_arith [true_and]
    refine ⟨by omega, by omega, ?_⟩
    rw [rngD_map]
    refine lc_map D.int (fun y => if stands A p x y then some (.tup [.int x, .int y]) else none) _ trivial ?_ (by rw [rngI_len]; unfold SL; omega) ?_
    · intro y hy P hP
      rw [mem_rngI] at hy
      have bby : Bd y 97 := bd_in hq (by omega) (by omega)
      unfold turnC
      simp_arith [true_and]
      refine ok_law_stands A p x y (by omega) ?_
      simp_arith [true_and]
      cases c : stands A p x y
      · rw [c] at hP
        simp_arith [true_and]
        exact hP
      · rw [c] at hP
        simp_arith [true_and]
        exact hP
    · rw [show List.filterMap (fun y => if stands A p x y = true then some (D.tup [.int x, .int y]) else none) (rngI 0 p.toNat) = (((rngI 0 p.toNat).filter (stands A p x)).map fun y => (x, y)).map qd by
        generalize rngI 0 p.toNat = l
        induction l with
        | nil => rfl
        | cons y l ih => cases c : stands A p x y <;> simp [c, ih, qd]]
      have hl := congrArg List.length e
      rw [List.flatMap_cons, List.length_append, List.length_append] at hl
      have hl2 := foundLen A p hq
      simp_arith [true_and]
      refine ⟨by rw [List.length_map, List.length_map]; unfold SL; omega, ?_⟩
      refine hn _ _ ⟨acc ++ (((rngI 0 p.toNat).filter (stands A p x)).map fun y => (x, y)), _, _, rfl, ?_, ?_, fun y hy' => hx y (List.mem_cons_of_mem _ hy')⟩
      · rw [List.map_append]
      · rw [List.append_assoc]
        simpa only [List.flatMap_cons] using e
  · rw [mem_rngI] at hx
    omega
/-- a comprehension: each turn may change the state -/
theorem lc_st {turn : D → S → (Option D → S → Prop) → Prop} {chk : S → Prop} {Q : List D → S → Prop} (hc : ∀ s, chk s) (I : Nat → S → Prop) (V : D → Prop) (N : Nat)
    (ht : ∀ n d s (P : Option D → S → Prop), n < N → I n s → (∀ x s', V x → I (n + 1) s' → P (some x) s') → turn d s P) :
    ∀ (ds acc : List D) (n : Nat) (s : S), n + ds.length ≤ N → I n s → acc.length + ds.length ≤ SL → (∀ xs s', xs.length = ds.length → (∀ x ∈ xs, V x) → I (n + ds.length) s' → Q (acc ++ xs) s') → lcW turn chk ds acc s Q
  | [], acc, n, s, _, hi, _, h => ⟨hc s, by have := h [] s rfl (fun x hx => absurd hx List.not_mem_nil) hi; rwa [List.append_nil] at this⟩
  | d :: ds, acc, n, s, hN, hi, hl, h => by
    rw [List.length_cons] at hl hN
    refine ⟨hc s, ht n d s _ (by omega) hi fun x s' hx hi' => ⟨by omega, lc_st hc I V N ht ds (acc ++ [x]) (n + 1) s' (by omega) hi' (by rw [List.length_append, List.length_singleton]; omega) ?_⟩⟩
    intro xs s2 h1 h2 h3
    rw [List.append_assoc]
    refine h (x :: xs) s2 (by rw [List.length_cons, List.length_cons, h1]) ?_ ?_
    · intro y hy
      rcases List.mem_cons.1 hy with rfl | hy
      · exact hx
      · exact h2 y hy
    · rw [List.length_cons, show n + (ds.length + 1) = n + 1 + ds.length by omega]
      exact h3
theorem ok_law_curve {n : Nat} {a : Nat} (hT : Tn n s a) (hn : n < 100000000) (most : Int) (h1 : 0 ≤ most) (h2 : most ≤ 99)
    (h : ∀ A s' m, Sm9 A → disc A ≠ 0 → m ≤ n + 6 → Tn m s' a → (∀ c, c ≠ a → s' c = s c) → Q (cd A) s') : run prog consts (k + 3) X f_u_law_curve [.ref a, .int most] s Q := by
  have bm : Bd most 99 := bd_of (by omega) (by omega)
  refine run_s at_u_law_curve rfl ?_; simp_arith! [d_u_law_curve]
  simp_arith [true_and]
  refine ⟨by decide, by decide, ?_⟩
  refine lc_st (fun _ => trivial) (fun m s' => Tn (n + m) s' a ∧ ∀ c, c ≠ a → s' c = s c) (fun x => ∃ i : Int, x = .int i ∧ -99 ≤ i ∧ i ≤ 99) 5 ?_ (rngD 0 (5 : Int).toNat) [] 0 s (Nat.le_refl _) ⟨hT, fun _ _ => rfl⟩ (by unfold SL; exact Nat.le_of_ble_eq_true rfl) ?_
  · rintro m d s1 P hm ⟨hT1, hf1⟩ hP
    unfold turnC
    simp_arith [true_and]
    refine ok_law_take hT1 (by omega) _ (by omega) (by omega) ?_
    intro i s2 hi1 hi2 hT2 hf2
    simp_arith [true_and]
    exact hP _ s2 ⟨_, rfl, by omega, by omega⟩ ⟨hT2, fun c hc => by rw [hf2 c hc, hf1 c hc]⟩
  · rintro xs s2 hlen hV ⟨hT2, hf2⟩
    rw [show n + (0 + (rngD 0 (5 : Int).toNat).length) = n + 5 from rfl] at hT2
    rcases xs with _ | ⟨x1, xs⟩
    · cases hlen
    rcases xs with _ | ⟨x2, xs⟩
    · cases hlen
    rcases xs with _ | ⟨x3, xs⟩
    · cases hlen
    rcases xs with _ | ⟨x4, xs⟩
    · cases hlen
    rcases xs with _ | ⟨x5, xs⟩
    · cases hlen
    rcases xs with _ | ⟨x6, xs⟩
    · obtain ⟨i1, rfl, l1, u1⟩ := hV x1 (by simp)
      obtain ⟨i2, rfl, l2, u2⟩ := hV x2 (by simp)
      obtain ⟨i3, rfl, l3, u3⟩ := hV x3 (by simp)
      obtain ⟨i4, rfl, l4, u4⟩ := hV x4 (by simp)
      obtain ⟨i5, rfl, l5, u5⟩ := hV x5 (by simp)
      have bx : ∀ i : Int, -99 ≤ i → i ≤ 99 → Bd i 100 := fun i a b => bd_of (by omega) (by omega)
      have hA : Sm9 ⟨i1, i2, i3, i4, i5⟩ := ⟨bx i1 l1 u1, bx i2 l2 u2, bx i3 l3 u3, bx i4 l4 u4, bx i5 l5 u5⟩
      simp_arith [true_and]
      refine ok_law_discriminant ⟨i1, i2, i3, i4, i5⟩ hA ?_
      simp_arith [true_and]
      by_cases c : disc ⟨i1, i2, i3, i4, i5⟩ = 0
      · rw [show decide (disc ⟨i1, i2, i3, i4, i5⟩ = 0) = true from decide_eq_true c]
        simp_arith [true_and]
        refine ok_law_of hT2 (by omega) _ (by simp) (by simp) ?_
        intro d s3 hd hT3 hf3
        have fin : ∀ A : Cv, d = cd A → Sm9 A → disc A ≠ 0 → frz false d s3 fun d s1 => back Q d s1 := by
          rintro A rfl hA hdA
          rw [frz_cd]
          exact back_same (h A s3 (n + 6) hA hdA (Nat.le_refl _) hT3 fun c hc => by rw [hf3 c hc, hf2 c hc])
        simp only [List.mem_cons, List.not_mem_nil, or_false] at hd
        rcases hd with rfl | rfl | rfl | rfl | rfl
        · exact fin ⟨0, 0, 1, -1, 0⟩ rfl ⟨⟨by decide⟩, ⟨by decide⟩, ⟨by decide⟩, ⟨by decide⟩, ⟨by decide⟩⟩ (by decide)
        · exact fin ⟨0, 0, 0, 0, 1⟩ rfl ⟨⟨by decide⟩, ⟨by decide⟩, ⟨by decide⟩, ⟨by decide⟩, ⟨by decide⟩⟩ (by decide)
        · exact fin ⟨0, 0, 0, 1, 0⟩ rfl ⟨⟨by decide⟩, ⟨by decide⟩, ⟨by decide⟩, ⟨by decide⟩, ⟨by decide⟩⟩ (by decide)
        · exact fin ⟨1, 0, 0, 0, 2⟩ rfl ⟨⟨by decide⟩, ⟨by decide⟩, ⟨by decide⟩, ⟨by decide⟩, ⟨by decide⟩⟩ (by decide)
        · exact fin ⟨0, -1, 1, -10, -20⟩ rfl ⟨⟨by decide⟩, ⟨by decide⟩, ⟨by decide⟩, ⟨by decide⟩, ⟨by decide⟩⟩ (by decide)
      · rw [show decide (disc ⟨i1, i2, i3, i4, i5⟩ = 0) = false from decide_eq_false c]
        simp_arith [true_and]
        exact back_same (h ⟨i1, i2, i3, i4, i5⟩ s2 (n + 5) hA c (by omega) hT2 hf2)
    · cases hlen
theorem fine_qds (l : List (Int × Int)) : fine (.lv (l.map qd)) := by
  have h1 : okDs (l.map qd) = true := by
    induction l with
    | nil => rfl
    | cons q l ih => rw [List.map_cons, okDs, ih]; rfl
  have h2 : deps (l.map qd) ≤ 1 := by
    induction l with
    | nil => exact Nat.zero_le _
    | cons q l ih =>
      rw [List.map_cons, deps]
      exact Nat.max_le.2 ⟨Nat.le_refl _, ih (by rw [List.map_cons, okDs] at h1; exact (Bool.and_eq_true_iff.1 h1).2)⟩
  exact ⟨h1, by rw [dep]; omega⟩
end
section
variable {k : Nat} {s : S} {Q : D → S → Prop} {X : XT}
theorem ok_law_unfit_t (ds : List D) (h : Q (.tup ds) s) : run prog consts (k + 1) X f_u_law_unfit [.tup ds] s Q := by
  refine run_s at_u_law_unfit rfl ?_; simp_arith! [d_u_law_unfit]
  simp_arith [true_and]
  exact back_same h
theorem law_heard_bad (A : Cv) [SmC A] (hd : disc A ≠ 0) (p : Int) (hp : PL p) (hb : disc A % p = 0) (e : Int) (he : 1 ≤ e ∧ e ≤ 60) (h : Q (.lv [.str "cannot", .bl true]) s) : run prog consts (k + 7) X f_u_law_heard [cd A, .int p, .int e] s Q := by
  refine run_s at_u_law_heard rfl ?_; simp_arith! [d_u_law_heard]
  simp_arith [↓frz_pd, ↓frz_cd, ↓eq_pd0, ↓eq_pd, reduceCtorEq, decide_true, decide_false]
  refine no_field_counts A hd p hp hb e he _ (.inl rfl) ?_
  unfold backX
  refine ⟨s, le_refl s, ?_⟩
  exact h
theorem law_heard_good (A : Cv) [SmC A] (hd : disc A ≠ 0) (p : Int) (hp : PL p) (hb : disc A % p ≠ 0) (e : Int) (he : 1 ≤ e ∧ e ≤ 60) (h : Q (.tup ((fcG (cnt A p) p e.toNat 2 (cnt A p) p).map D.int)) s) : run prog consts (k + 7) X f_u_law_heard [cd A, .int p, .int e] s Q := by
  refine run_s at_u_law_heard rfl ?_; simp_arith! [d_u_law_heard]
  simp_arith [↓frz_pd, ↓frz_cd, ↓eq_pd0, ↓eq_pd, reduceCtorEq, decide_true, decide_false]
  refine ok_field_counts A hd p hp hb e he _ (.inl rfl) ?_
  simp_arith [↓frz_pd, ↓frz_cd, ↓eq_pd0, ↓eq_pd, reduceCtorEq, decide_true, decide_false]
  refine ok_law_unfit_t _ ?_
  simp_arith [↓frz_pd, ↓frz_cd, ↓eq_pd0, ↓eq_pd, reduceCtorEq, decide_true, decide_false]
  exact back_same h
/-- a row of things over pairs: of two letters each, under p -/
class PB (q : Int × Int) : Prop where
  b1 : Bd q.1 97
  b2 : Bd q.2 97
instance {q : Int × Int} [h : PB q] : Bd q.1 97 := h.b1
instance {q : Int × Int} [h : PB q] : Bd q.2 97 := h.b2
def timesI (b c p : Int) (o t : Int × Int) : Int × Int := ((o.1 * t.1 + c * (o.2 * t.2)) % p, (o.1 * t.2 + o.2 * t.1 + b * (o.2 * t.2)) % p)
theorem mod_bd {x p : Int} (hp : 0 < p) (hq : p ≤ 97) : Bd (x % p) 97 := bd_in hq (Int.emod_nonneg x (by omega)) (Int.emod_lt_of_pos x hp)
theorem times_pb {b c p : Int} (hp : 0 < p) (hq : p ≤ 97) (o t : Int × Int) : PB (timesI b c p o t) := ⟨mod_bd hp hq, mod_bd hp hq⟩
theorem ok_law_times (b c p : Int) (hp : 0 < p) (o t : Int × Int) [PB o] [PB t] [Bd b 97] [Bd c 97] (h : Q (pairD (timesI b c p o t)) s) : run prog consts (k + 1) X f_u_law_times [pairD o, pairD t, .int p, .int b, .int c] s Q := by
  refine run_s at_u_law_times rfl ?_; simp_arith! [d_u_law_times]
  simp_arith [true_and]
  refine ⟨hp, hp, back_same h⟩
end
end K71

set_option linter.all false
set_option maxRecDepth 100000
/-! K71_K: counting over pairs. -/
namespace K71
open IR PySem EC
def things (p : Int) : List (Int × Int) := (rngI 0 (p * p).toNat).map fun k => (k / p, k % p)
def rootB (p : Int) (q : Int × Int) : Bool := (rngI 0 p.toNat).all fun k => !decide ((k * k - q.1 * k - q.2) % p = 0)
def rootsL (p : Int) : List (Int × Int) := (things p).filter (rootB p)
def sumM (p : Int) (l : List (Int × Int)) : Int × Int := ((l.map fun q => q.1).sum % p, (l.map fun q => q.2).sum % p)
def rightO (A : Cv) (p b c : Int) (x : Int × Int) : Int × Int := sumM p [timesI b c p (timesI b c p x x) x, timesI b c p (A.a2 % p, 0) (timesI b c p x x), timesI b c p (A.a4 % p, 0) x, (A.a6 % p, 0)]
def leftO (A : Cv) (p b c : Int) (x y : Int × Int) : Int × Int := sumM p [timesI b c p y y, timesI b c p (timesI b c p (A.a1 % p, 0) x) y, timesI b c p (A.a3 % p, 0) y]
def eqP2 (x y : Int × Int) : Bool := decide (x.1 = y.1) && decide (x.2 = y.2)
def ovX (A : Cv) (p b c : Int) (x : Int × Int) : Int := (((things p).filter fun y => eqP2 (leftO A p b c x y) (rightO A p b c x)).length : Nat)
def overI (A : Cv) (p b c : Int) : Int := 1 + ((things p).map (ovX A p b c)).sum
theorem head_of {ps qs : List (Int × Int)} {m : Int × Int} {r : List (Int × Int)} (e : ps = m :: r) (hm : ∀ q ∈ r, leP m q) (h1 : qs.Perm ps) (h2 : qs.Pairwise leP) : ∃ t, qs = m :: t := by
  subst e
  cases qs with
  | nil => exact absurd h1.length_eq (by simp)
  | cons a t =>
    have ha : a ∈ m :: r := h1.subset List.mem_cons_self
    have hm2 : m ∈ a :: t := h1.symm.subset List.mem_cons_self
    rcases List.mem_cons.1 ha with rfl | ha
    · exact ⟨_, rfl⟩
    · have l1 := hm a ha
      rcases List.mem_cons.1 hm2 with rfl | hm2
      · exact ⟨_, rfl⟩
      · have l2 := (List.pairwise_cons.1 h2).1 m hm2
        refine ⟨t, ?_⟩
        congr 1
        rcases a with ⟨a1, a2⟩
        rcases m with ⟨m1, m2⟩
        unfold leP at l1 l2
        dsimp only at l1 l2
        rw [Prod.mk.injEq]
        omega
theorem things_pb {p : Int} (hp : 2 ≤ p) (hq : p ≤ 5) {x : Int × Int} (h : x ∈ things p) : PB x ∧ 0 ≤ x.1 ∧ x.1 < p ∧ 0 ≤ x.2 ∧ x.2 < p := by
  unfold things at h
  obtain ⟨k, hk, rfl⟩ := List.mem_map.1 h
  rw [mem_rngI] at hk
  have h0 : 0 ≤ k / p := Int.ediv_nonneg hk.1 (by omega)
  have hpp : 0 ≤ p * p := Int.mul_nonneg (by omega) (by omega)
  have h1 : k / p < p := Int.ediv_lt_of_lt_mul (by omega) (by omega)
  have h2 := Int.emod_nonneg k (b := p) (by omega)
  have h3 := Int.emod_lt_of_pos k (b := p) (by omega)
  exact ⟨⟨bd_of (by dsimp only; omega) (by dsimp only; omega), bd_of (by dsimp only; omega) (by dsimp only; omega)⟩, h0, h1, h2, h3⟩
theorem eqD_pairs (x y : Int × Int) : eqD (.tup [.int x.1, .int x.2]) (.tup [.int y.1, .int y.2]) = eqP2 x y := by
  show (x.1 == y.1 && (x.2 == y.2 && true)) = _
  unfold eqP2
  rw [Bool.and_true]
  congr 1
theorem ones_fine (l : List Int) : fine (.lv (l.map fun _ => D.int 1)) ∧ eqD (.lv (l.map fun _ => D.int 1)) (.lv []) = l.isEmpty := by
  constructor
  · constructor
    · show okDs _ = true
      induction l with
      | nil => rfl
      | cons a l ih => rw [List.map_cons, okDs, ih]; rfl
    · have : deps (l.map fun _ => D.int 1) = 0 := by
        induction l with
        | nil => rfl
        | cons a l ih => rw [List.map_cons, deps, ih]; rfl
      rw [dep, this]; decide
  · cases l <;> rfl
local macro_rules | `(tactic| simp_arith [$xs,*]) => `(tactic| simp only [↓getV_z, ↓getV_s, ↓setK_z, ↓setK_s, ↓wipeK_n, ↓wipeK_c, ↓asgW_nm, ↓asgW_tp, ↓asgW_tl, ↓asgsW_n, ↓asgsW_c, ↓x_var, ↓x_int, ↓x_bl, ↓x_non, ↓x_str, ↓x_glob, ↓globW_z, ↓globW_s, ↓x_bin, ↓x_neg, ↓negW_i, ↓x_cmp, ↓two_t, ↓two_f, ↓two_n, ↓two_and, ↓two_or, ↓x_chain, ↓chainW_b, ↓x_isN, ↓x_notN, ↓isNW_n, ↓isNW_i, ↓isNW_b, ↓isNW_s, ↓isNW_t, ↓isNW_l, ↓isNW_r, ↓x_and, ↓x_or, ↓x_not, ↓x_ite, ↓x_tup0, ↓x_tup1, ↓x_tup2, ↓x_tup3, ↓x_tup4, ↓x_tup5, ↓x_lst0, ↓x_lst1, ↓x_lst2, ↓x_lst3, ↓x_lst4, ↓x_lst5, ↓x_lst6, ↓x_tup6, ↓x_sub, ↓x_dsel, ↓x_slc, ↓xo_n, ↓xo_s, ↓partW_i, ↓x_call1, ↓x_call2, ↓x_call3, ↓x_call4, ↓x_call5, ↓x_call6, ↓x_callk, ↓xs_n, ↓xs_c, ↓x_bi1, ↓x_bi2, ↓x_isi, ↓x_app, ↓x_ext, ↓x_lc, ↓rq_lo, ↓rq_hi, ↓b_and, ↓b_or, ↓b_not, ↓b_cmp, ↓b_chain, ↓b_isN, ↓b_notN, ↓b_var, ↓b_call, ↓b_callk, ↓b_bi, ↓b_isi, ↓b_bin, ↓b_bl, ↓b_sub, ↓ob_n, ↓ob_s, ↓add_i, ↓sub_i, ↓mul_i, ↓mod_i, ↓fdiv_i, ↓pow_i, ↓add_t, ↓add_l, ↓mul_l, ↓newL_f, ↓newL_t, ↓frz_i, ↓frz_b, ↓frz_n, ↓frz_s, ↓frz_t, ↓frz_l, ↓frz_k, ↓eq_i, ↓ne_i, ↓eq_b, ↓eq_s, ↓ne_b, ↓lt_i, ↓le_i, ↓gt_i, ↓ge_i, ↓eq_t, ↓ne_t, ↓eq_l, ↓ne_l, ↓tru_b, ↓tru_i, ↓tru_n, ↓tru_t, ↓tru_l, ↓boo_b, ↓sub_t, ↓sub_l, ↓atW_s, ↓at_0, ↓at_1, ↓at_2, ↓at_3, ↓at_4, ↓isi_i, ↓isi_b, ↓isi_s, ↓isi_t, ↓isi_l, ↓isi_n, ↓len_t, ↓len_l, ↓len_s, ↓abs_i, ↓int_i, ↓int_b, ↓tup_l, ↓tup_t, ↓lis_l, ↓lis_t, ↓app_p, ↓isl_p, ↓tup_p, ↓ext_p, ↓ext_pt, ↓sub_p, ↓len_p, ↓isi_p, ↓tru_p, ↓sto3_0, ↓sto3_1, ↓sto3_2, ↓slc_s, ↓slc_t, ↓slc_l, ↓aug_a, ↓aug_s, ↓aug_m, ↓aug_d, ↓i_seq, ↓seq_t, ↓seq_l, ↓seq_p, ↓i_rng1, ↓rngW_i, ↓i_rng2, ↓rng2W_i, ↓i_enum0, ↓i_enum1, ↓i_zip, ↓zipW_t, ↓zipW_l, ↓ss_n, ↓ss_c, ↓s_asg, ↓s_par2, ↓s_par3, ↓s_sto, ↓s_aug, ↓s_exp, ↓s_ret, ↓s_ife, ↓s_fr, ↓s_whl, ↓s_rse, ↓s_tr, ↓s_pass, ↓s_brk, ↓s_cnt, any_bool_int, any_bool_bool, any_bool_tuple, any_bool_list, any_bool_str, any_bool_list_tuple, any_bool_bool_str, any_bool_int_str, any_bool_tuple_list, any_int_int, any_int_bool, any_int_tuple, any_int_list, any_int_str, any_int_list_tuple, any_int_bool_str, any_int_int_str, any_int_tuple_list, any_str_int, any_str_bool, any_str_tuple, any_str_list, any_str_str, any_str_list_tuple, any_str_bool_str, any_str_int_str, any_str_tuple_list, any_tuple_int, any_tuple_bool, any_tuple_tuple, any_tuple_list, any_tuple_str, any_tuple_list_tuple, any_tuple_bool_str, any_tuple_int_str, any_tuple_tuple_list, any_list_int, any_list_bool, any_list_tuple, any_list_list, any_list_str, any_list_list_tuple, any_list_bool_str, any_list_int_str, any_list_tuple_list, lstW, tupW, mulOk_l, mulOk_r, Nat.reduceMul, Nat.reduceAdd, Nat.reduceLT, Nat.reduceLeDiff, Nat.reduceSub, not_false_eq_true, true_and, and_true, Bool.not_true, Bool.not_false, List.map_cons, List.map_nil, List.replicate_succ, List.replicate_zero, List.cons_append, List.nil_append, $xs,*])
local macro_rules | `(tactic| simp_all_arith [$xs,*]) => `(tactic| simp only [↓getV_z, ↓getV_s, ↓setK_z, ↓setK_s, ↓wipeK_n, ↓wipeK_c, ↓asgW_nm, ↓asgW_tp, ↓asgW_tl, ↓asgsW_n, ↓asgsW_c, ↓x_var, ↓x_int, ↓x_bl, ↓x_non, ↓x_str, ↓x_glob, ↓globW_z, ↓globW_s, ↓x_bin, ↓x_neg, ↓negW_i, ↓x_cmp, ↓two_t, ↓two_f, ↓two_n, ↓two_and, ↓two_or, ↓x_chain, ↓chainW_b, ↓x_isN, ↓x_notN, ↓isNW_n, ↓isNW_i, ↓isNW_b, ↓isNW_s, ↓isNW_t, ↓isNW_l, ↓isNW_r, ↓x_and, ↓x_or, ↓x_not, ↓x_ite, ↓x_tup0, ↓x_tup1, ↓x_tup2, ↓x_tup3, ↓x_tup4, ↓x_tup5, ↓x_lst0, ↓x_lst1, ↓x_lst2, ↓x_lst3, ↓x_lst4, ↓x_lst5, ↓x_lst6, ↓x_tup6, ↓x_sub, ↓x_dsel, ↓x_slc, ↓xo_n, ↓xo_s, ↓partW_i, ↓x_call1, ↓x_call2, ↓x_call3, ↓x_call4, ↓x_call5, ↓x_call6, ↓x_callk, ↓xs_n, ↓xs_c, ↓x_bi1, ↓x_bi2, ↓x_isi, ↓x_app, ↓x_ext, ↓x_lc, ↓rq_lo, ↓rq_hi, ↓b_and, ↓b_or, ↓b_not, ↓b_cmp, ↓b_chain, ↓b_isN, ↓b_notN, ↓b_var, ↓b_call, ↓b_callk, ↓b_bi, ↓b_isi, ↓b_bin, ↓b_bl, ↓b_sub, ↓ob_n, ↓ob_s, ↓add_i, ↓sub_i, ↓mul_i, ↓mod_i, ↓fdiv_i, ↓pow_i, ↓add_t, ↓add_l, ↓mul_l, ↓newL_f, ↓newL_t, ↓frz_i, ↓frz_b, ↓frz_n, ↓frz_s, ↓frz_t, ↓frz_l, ↓frz_k, ↓eq_i, ↓ne_i, ↓eq_b, ↓eq_s, ↓ne_b, ↓lt_i, ↓le_i, ↓gt_i, ↓ge_i, ↓eq_t, ↓ne_t, ↓eq_l, ↓ne_l, ↓tru_b, ↓tru_i, ↓tru_n, ↓tru_t, ↓tru_l, ↓boo_b, ↓sub_t, ↓sub_l, ↓atW_s, ↓at_0, ↓at_1, ↓at_2, ↓at_3, ↓at_4, ↓isi_i, ↓isi_b, ↓isi_s, ↓isi_t, ↓isi_l, ↓isi_n, ↓len_t, ↓len_l, ↓len_s, ↓abs_i, ↓int_i, ↓int_b, ↓tup_l, ↓tup_t, ↓lis_l, ↓lis_t, ↓app_p, ↓isl_p, ↓tup_p, ↓ext_p, ↓ext_pt, ↓sub_p, ↓len_p, ↓isi_p, ↓tru_p, ↓sto3_0, ↓sto3_1, ↓sto3_2, ↓slc_s, ↓slc_t, ↓slc_l, ↓aug_a, ↓aug_s, ↓aug_m, ↓aug_d, ↓i_seq, ↓seq_t, ↓seq_l, ↓seq_p, ↓i_rng1, ↓rngW_i, ↓i_rng2, ↓rng2W_i, ↓i_enum0, ↓i_enum1, ↓i_zip, ↓zipW_t, ↓zipW_l, ↓ss_n, ↓s_asg, ↓s_par2, ↓s_par3, ↓s_sto, ↓s_aug, ↓s_exp, ↓s_ret, ↓s_ife, ↓s_fr, ↓s_whl, ↓s_rse, ↓s_tr, ↓s_pass, ↓s_brk, ↓s_cnt, any_bool_int, any_bool_bool, any_bool_tuple, any_bool_list, any_bool_str, any_bool_list_tuple, any_bool_bool_str, any_bool_int_str, any_bool_tuple_list, any_int_int, any_int_bool, any_int_tuple, any_int_list, any_int_str, any_int_list_tuple, any_int_bool_str, any_int_int_str, any_int_tuple_list, any_str_int, any_str_bool, any_str_tuple, any_str_list, any_str_str, any_str_list_tuple, any_str_bool_str, any_str_int_str, any_str_tuple_list, any_tuple_int, any_tuple_bool, any_tuple_tuple, any_tuple_list, any_tuple_str, any_tuple_list_tuple, any_tuple_bool_str, any_tuple_int_str, any_tuple_tuple_list, any_list_int, any_list_bool, any_list_tuple, any_list_list, any_list_str, any_list_list_tuple, any_list_bool_str, any_list_int_str, any_list_tuple_list, lstW, tupW, mulOk_l, mulOk_r, Nat.reduceMul, Nat.reduceAdd, Nat.reduceLT, Nat.reduceLeDiff, Nat.reduceSub, not_false_eq_true, true_and, and_true, Bool.not_true, Bool.not_false, List.map_cons, List.map_nil, List.replicate_succ, List.replicate_zero, List.cons_append, List.nil_append, $xs,*])
local macro_rules | `(tactic| simp_all_arith! [$xs,*]) => `(tactic| ((try simp_all_arith [$xs,*]); (repeat (rw [ss_c]; simp_all_arith [$xs,*]))))
local macro_rules | `(tactic| simp_arith! [$xs,*]) => `(tactic| simp only [startR, any_bool_int, any_bool_bool, any_bool_tuple, any_bool_list, any_bool_str, any_bool_list_tuple, any_bool_bool_str, any_bool_int_str, any_bool_tuple_list, any_int_int, any_int_bool, any_int_tuple, any_int_list, any_int_str, any_int_list_tuple, any_int_bool_str, any_int_int_str, any_int_tuple_list, any_str_int, any_str_bool, any_str_tuple, any_str_list, any_str_str, any_str_list_tuple, any_str_bool_str, any_str_int_str, any_str_tuple_list, any_tuple_int, any_tuple_bool, any_tuple_tuple, any_tuple_list, any_tuple_str, any_tuple_list_tuple, any_tuple_bool_str, any_tuple_int_str, any_tuple_tuple_list, any_list_int, any_list_bool, any_list_tuple, any_list_list, any_list_str, any_list_list_tuple, any_list_bool_str, any_list_int_str, any_list_tuple_list, lstW, tupW, mulOk_l, mulOk_r, Nat.reduceMul, Nat.reduceAdd, Nat.reduceLT, Nat.reduceLeDiff, Nat.reduceSub, not_false_eq_true, true_and, and_true, Bool.not_true, Bool.not_false, List.map_cons, List.map_nil, List.replicate_succ, List.replicate_zero, List.cons_append, List.nil_append, $xs,*])
section
variable {k : Nat} {s : S} {Q : D → S → Prop} {X : XT}
theorem ok_law_over_pairs (A : Cv) (hA : Sm9 A) (p : Int) (hp : 2 ≤ p) (hq : p ≤ 5) (b c : Int) (hb : 0 ≤ b ∧ b ≤ 97) (hc : 0 ≤ c ∧ c ≤ 97) (rest : List (Int × Int)) (hr : rootsL p = (b, c) :: rest) (hr2 : ∀ q ∈ rest, leP (b, c) q) (h : Q (.int (overI A p b c)) s) : run prog consts (k + 2) X f_u_law_over_pairs [cd A, .int p] s Q := by
  have bp : Bd p 97 := bd_of (by omega) (by omega)
  have bb : Bd b 97 := bd_of (by omega) (by omega)
  have bc : Bd c 97 := bd_of (by omega) (by omega)
  have hpp : 0 ≤ p * p ∧ p * p ≤ 25 := by
    have : p = 2 ∨ p = 3 ∨ p = 4 ∨ p = 5 := by omega
    rcases this with rfl | rfl | rfl | rfl <;> decide
  have hdiv : DivOk p := ⟨by omega, .inl (by omega)⟩
  have hlen : (rngI 0 (p * p).toNat).length ≤ 25 := by rw [rngI_len]; omega
  unfold cd
  refine run_s at_u_law_over_pairs rfl ?_; simp_arith! [d_u_law_over_pairs]
  rw [ss_c]
  simp_all_arith [true_and]
  refine ⟨by omega, ?_⟩
  rw [rngD_map]
  have et : (rngI 0 (p * p).toNat).map (fun k => pairD (k / p, k % p)) = (things p).map pairD := by unfold things; rw [List.map_map]; rfl
  refine ⟨by omega, lc_all D.int (fun k => pairD (k / p, k % p)) _ trivial ?_ (by unfold SL; omega) ?_⟩
  · intro d hd P hP
    unfold turnC
    simp_arith [true_and]
    refine ⟨hdiv, by omega, ?_⟩
    rw [Int.fdiv_eq_ediv_of_nonneg _ (by omega)]
    exact hP
  rw [et]
  refine lc_map pairD (fun q => if rootB p q then some (pairD q) else none) _ trivial ?_ (by unfold things; rw [List.length_map]; unfold SL; omega) ?_
  · intro q hq' P hP
    obtain ⟨hpb, q1, q2, q3, q4⟩ := things_pb hp hq hq'
    unfold turnC
    simp_arith [true_and]
    refine ⟨by omega, by omega, ?_⟩
    rw [rngD_map]
    refine lc_map D.int (fun k => if (k * k - q.1 * k - q.2) % p = 0 then some (.int 1) else none) (rngI 0 p.toNat) trivial ?_ (by rw [rngI_len]; unfold SL; omega) ?_
    · intro d hd P hP
      rw [mem_rngI] at hd
      have bd : Bd d 97 := bd_of (by omega) (by omega)
      unfold turnC
      simp_arith [true_and]
      refine ⟨by omega, ?_⟩
      rw [two_d]
      constructor
      · intro e
        rw [if_pos e] at hP
        exact hP
      · intro e
        rw [if_neg e] at hP
        exact hP
    · have e : List.filterMap (fun k => if (k * k - q.1 * k - q.2) % p = 0 then some (D.int 1) else none) (rngI 0 p.toNat) = ((rngI 0 p.toNat).filter fun k => decide ((k * k - q.1 * k - q.2) % p = 0)).map fun _ => D.int 1 := by
        generalize rngI 0 p.toNat = l
        induction l with
        | nil => rfl
        | cons a l ih => by_cases c : (a * a - q.1 * a - q.2) % p = 0 <;> simp [c, ih]
      rw [e]
      obtain ⟨f1, f2⟩ := ones_fine ((rngI 0 p.toNat).filter fun k => decide ((k * k - q.1 * k - q.2) % p = 0))
      simp_arith [f2]
      refine ⟨f1, ⟨rfl, by decide⟩, ?_⟩
      have e3 : ((rngI 0 p.toNat).filter fun k => decide ((k * k - q.1 * k - q.2) % p = 0)).isEmpty = rootB p q := by
        unfold rootB
        generalize rngI 0 p.toNat = l
        induction l with
        | nil => rfl
        | cons a l ih => by_cases c : (a * a - q.1 * a - q.2) % p = 0 <;> simp [c, ih]
      rw [e3]
      cases c : rootB p q
      · rw [c] at hP
        simp_arith [true_and]
        exact hP
      · rw [c] at hP
        simp_arith [true_and]
        exact hP
  have er : List.filterMap (fun q => if rootB p q = true then some (pairD q) else none) (things p) = (rootsL p).map pairD := by
    unfold rootsL
    generalize things p = l
    induction l with
    | nil => rfl
    | cons a l ih => cases c : rootB p a <;> simp [c, ih]
  rw [er, sor_l]
  intro qs hqs1 hqs2
  obtain ⟨tl, rfl⟩ := head_of hr hr2 hqs1 hqs2
  simp_all_arith! [true_and]
  refine ⟨by omega, ?_⟩
  rw [rngD_map]
  refine ⟨by omega, lc_all D.int (fun k => pairD (k / p, k % p)) _ trivial ?_ (by unfold SL; omega) ?_⟩
  · intro d hd P hP
    unfold turnC
    simp_arith [true_and]
    refine ⟨hdiv, by omega, ?_⟩
    rw [Int.fdiv_eq_ediv_of_nonneg _ (by omega)]
    exact hP
  rw [et]
  simp_all_arith! [true_and]
  refine lc_all D.int (fun i => pairD (i % p, 0)) [A.a1, A.a2, A.a3, A.a4, A.a6] trivial ?_ (by unfold SL; exact Nat.le_of_ble_eq_true rfl) ?_
  · intro d _ P hP
    unfold turnC
    simp_arith [true_and]
    exact ⟨by omega, hP⟩
  simp_all_arith! [true_and]
  have p1 : PB (A.a1 % p, 0) := ⟨mod_bd (by omega) (by omega), bd_of (by dsimp only; omega) (by dsimp only; omega)⟩
  have p2 : PB (A.a2 % p, 0) := ⟨mod_bd (by omega) (by omega), bd_of (by dsimp only; omega) (by dsimp only; omega)⟩
  have p3 : PB (A.a3 % p, 0) := ⟨mod_bd (by omega) (by omega), bd_of (by dsimp only; omega) (by dsimp only; omega)⟩
  have p4 : PB (A.a4 % p, 0) := ⟨mod_bd (by omega) (by omega), bd_of (by dsimp only; omega) (by dsimp only; omega)⟩
  have p6 : PB (A.a6 % p, 0) := ⟨mod_bd (by omega) (by omega), bd_of (by dsimp only; omega) (by dsimp only; omega)⟩
  have hpos : 0 < p := by omega
  have hp97 : p ≤ 97 := by omega
  refine fr_map pairD (fun xs r s2 => ∃ many, r = [some (cd A), some (.int p), some (.lv (pairD (b, c) :: List.map pairD tl)), some (.int b), some (.int c), some (.lv (List.map pairD (things p))), some (pairD (A.a1 % p, 0)), some (pairD (A.a2 % p, 0)), some (pairD (A.a3 % p, 0)), some (pairD (A.a4 % p, 0)), some (pairD (A.a6 % p, 0)), some (.int many), none, none, none, none, none, none, none, none] ∧ s2 = s ∧ many + (xs.map (ovX A p b c)).sum = overI A p b c ∧ ∀ x ∈ xs, PB x) ?_ ?_ _ _ _ ⟨1, rfl, rfl, rfl, fun x hx => (things_pb hp hq hx).1⟩
  · rintro r s' ⟨many, rfl, rfl, e, _⟩
    refine ⟨trivial, ?_⟩
    rw [List.map_nil, List.sum_nil, Int.add_zero] at e
    subst e
    simp_arith [true_and]
    exact back_same h
  · rintro x xs r s' nx ⟨many, rfl, rfl, e, hx⟩ hn
    refine ⟨trivial, ?_⟩
    have px := hx x List.mem_cons_self
    rw [List.map_cons, List.sum_cons] at e
    simp_all_arith! [true_and]
    refine ok_law_times b c p hpos x x ?_
    have pxx := times_pb (b := b) (c := c) hpos hp97 x x
    simp_all_arith! [true_and]
    refine ok_law_times b c p hpos (timesI b c p x x) x ?_
    simp_all_arith! [true_and]
    refine ok_law_times b c p hpos (A.a2 % p, 0) (timesI b c p x x) ?_
    simp_all_arith! [true_and]
    refine ok_law_times b c p hpos (A.a4 % p, 0) x ?_
    simp_all_arith! [true_and]
    refine lc_all D.int (fun d => D.int (([timesI b c p (timesI b c p x x) x, timesI b c p (A.a2 % p, 0) (timesI b c p x x), timesI b c p (A.a4 % p, 0) x, (A.a6 % p, 0)].map fun q => if d = 0 then q.1 else q.2).sum % p)) [0, 1] trivial ?_ (by unfold SL; exact Nat.le_of_ble_eq_true rfl) ?_
    · intro d hd P hP
      unfold turnC
      simp_arith [true_and]
      refine lc_all pairD (fun q => D.int (if d = 0 then q.1 else q.2)) [timesI b c p (timesI b c p x x) x, timesI b c p (A.a2 % p, 0) (timesI b c p x x), timesI b c p (A.a4 % p, 0) x, (A.a6 % p, 0)] trivial ?_ (by unfold SL; exact Nat.le_of_ble_eq_true rfl) ?_
      · intro q _ P2 hP2
        unfold turnC
        simp_arith [true_and]
        rcases List.mem_cons.1 hd with rfl | hd
        · simp_arith [true_and]
          exact hP2
        · rcases List.mem_cons.1 hd with rfl | hd
          · simp_arith [true_and]
            exact hP2
          · exact absurd hd List.not_mem_nil
      · rw [show [timesI b c p (timesI b c p x x) x, timesI b c p (A.a2 % p, 0) (timesI b c p x x), timesI b c p (A.a4 % p, 0) x, (A.a6 % p, 0)].map (fun q => D.int (if d = 0 then q.1 else q.2)) = ([timesI b c p (timesI b c p x x) x, timesI b c p (A.a2 % p, 0) (timesI b c p x x), timesI b c p (A.a4 % p, 0) x, (A.a6 % p, 0)].map fun q => if d = 0 then q.1 else q.2).map D.int by rw [List.map_map]; rfl]
        simp_arith [sum_l]
        exact ⟨hpos, hP⟩
    have er2 : [0, 1].map (fun d => D.int (([timesI b c p (timesI b c p x x) x, timesI b c p (A.a2 % p, 0) (timesI b c p x x), timesI b c p (A.a4 % p, 0) x, (A.a6 % p, 0)].map fun q => if d = (0 : Int) then q.1 else q.2).sum % p)) = [.int (rightO A p b c x).1, .int (rightO A p b c x).2] := rfl
    rw [er2]
    simp_all_arith! [true_and]
    refine fr_map pairD (fun ys r s2 => ∃ m, r = [some (cd A), some (.int p), some (.lv (pairD (b, c) :: List.map pairD tl)), some (.int b), some (.int c), some (.lv (List.map pairD (things p))), some (pairD (A.a1 % p, 0)), some (pairD (A.a2 % p, 0)), some (pairD (A.a3 % p, 0)), some (pairD (A.a4 % p, 0)), some (pairD (A.a6 % p, 0)), some (.int m), some (pairD x), some (pairD (timesI b c p x x)), some (.lv ([timesI b c p (timesI b c p x x) x, timesI b c p (A.a2 % p, 0) (timesI b c p x x), timesI b c p (A.a4 % p, 0) x, (A.a6 % p, 0)].map pairD)), some (.tup [.int (rightO A p b c x).1, .int (rightO A p b c x).2]), none, none, none, none] ∧ s2 = s' ∧ m + ((ys.filter fun y => eqP2 (leftO A p b c x y) (rightO A p b c x)).length : Nat) = many + ovX A p b c x ∧ ∀ y ∈ ys, PB y) ?_ ?_ _ _ _ ⟨many, rfl, rfl, rfl, fun y hy => (things_pb hp hq hy).1⟩
    · rintro r s2 ⟨m, rfl, rfl, e2, _⟩
      refine ⟨trivial, ?_⟩
      simp_arith [true_and]
      refine hn _ _ ⟨m, rfl, rfl, ?_, fun y hy => hx y (List.mem_cons_of_mem _ hy)⟩
      rw [List.filter_nil, List.length_nil] at e2
      omega
    · rintro y ys r s2 nx2 ⟨m, rfl, rfl, e2, hy⟩ hn2
      refine ⟨trivial, ?_⟩
      have py := hy y List.mem_cons_self
      simp_all_arith! [true_and]
      refine ok_law_times b c p hpos y y ?_
      simp_all_arith! [true_and]
      refine ok_law_times b c p hpos (A.a1 % p, 0) x ?_
      have p1x := times_pb (b := b) (c := c) hpos hp97 (A.a1 % p, 0) x
      simp_all_arith! [true_and]
      refine ok_law_times b c p hpos (timesI b c p (A.a1 % p, 0) x) y ?_
      simp_all_arith! [true_and]
      refine ok_law_times b c p hpos (A.a3 % p, 0) y ?_
      simp_all_arith! [true_and]
      refine lc_all D.int (fun d => D.int (([timesI b c p y y, timesI b c p (timesI b c p (A.a1 % p, 0) x) y, timesI b c p (A.a3 % p, 0) y].map fun q => if d = 0 then q.1 else q.2).sum % p)) [0, 1] trivial ?_ (by unfold SL; exact Nat.le_of_ble_eq_true rfl) ?_
      · intro d hd P hP
        unfold turnC
        simp_arith [true_and]
        refine lc_all pairD (fun q => D.int (if d = 0 then q.1 else q.2)) [timesI b c p y y, timesI b c p (timesI b c p (A.a1 % p, 0) x) y, timesI b c p (A.a3 % p, 0) y] trivial ?_ (by unfold SL; exact Nat.le_of_ble_eq_true rfl) ?_
        · intro q _ P2 hP2
          unfold turnC
          simp_arith [true_and]
          rcases List.mem_cons.1 hd with rfl | hd
          · simp_arith [true_and]
            exact hP2
          · rcases List.mem_cons.1 hd with rfl | hd
            · simp_arith [true_and]
              exact hP2
            · exact absurd hd List.not_mem_nil
        · rw [show [timesI b c p y y, timesI b c p (timesI b c p (A.a1 % p, 0) x) y, timesI b c p (A.a3 % p, 0) y].map (fun q => D.int (if d = 0 then q.1 else q.2)) = ([timesI b c p y y, timesI b c p (timesI b c p (A.a1 % p, 0) x) y, timesI b c p (A.a3 % p, 0) y].map fun q => if d = 0 then q.1 else q.2).map D.int by rw [List.map_map]; rfl]
          simp_arith [sum_l]
          exact ⟨hpos, hP⟩
      have er3 : [0, 1].map (fun d => D.int (([timesI b c p y y, timesI b c p (timesI b c p (A.a1 % p, 0) x) y, timesI b c p (A.a3 % p, 0) y].map fun q => if d = (0 : Int) then q.1 else q.2).sum % p)) = [.int (leftO A p b c x y).1, .int (leftO A p b c x y).2] := rfl
      rw [er3]
      simp_arith [eqD_pairs]
      refine ⟨⟨rfl, Nat.le_of_ble_eq_true rfl⟩, ⟨rfl, Nat.le_of_ble_eq_true rfl⟩, ?_⟩
      cases c2 : eqP2 (leftO A p b c x y) (rightO A p b c x)
      · simp_arith [true_and]
        rw [List.filter_cons_of_neg (by rw [c2]; decide)] at e2
        exact hn2 _ _ ⟨m, rfl, rfl, e2, fun z hz => hy z (List.mem_cons_of_mem _ hz)⟩
      · simp_arith [true_and]
        rw [List.filter_cons_of_pos (by rw [c2]), List.length_cons] at e2
        exact hn2 _ _ ⟨m + 1, rfl, rfl, by omega, fun z hz => hy z (List.mem_cons_of_mem _ hz)⟩
end
end K71

set_option linter.all false
set_option maxRecDepth 100000
/-! K71_L: the law's body, by plain facts. -/
namespace K71
open IR PySem EC
abbrev PLl : List Int := [2, 3, 5, 7, 11, 13, 17, 23, 31, 47]
def tF (A : Cv) (p : Int) : Int := p - (found A p).length
def sharpL (A : Cv) (p : Int) : List (Int × Int) := (found A p).filter fun q => sharp A p q.1 q.2
structure Fx (A : Cv) (p : Int) : Prop where
  one : sharpL A p = [] ↔ disc A % p ≠ 0
  len : (sharpL A p).length ≤ 1
  hasse : disc A % p ≠ 0 → tF A p * tF A p ≤ 4 * p
  tri : disc A % p = 0 → tF A p = 0 ∨ tF A p = 1 ∨ tF A p = -1
  cusp : disc A % p = 0 → (tF A p = 0 ↔ c4 A % p = 0)
/-- what must hold of a row of counts -/
structure RwOk (row : List Int) : Prop where
  whole : wholeB row = true
  free : ∃ f, freesF row [] = some f ∧ ∀ x ∈ f, 0 ≤ x
  bd : ∀ x ∈ row, x.natAbs ≤ 10 ^ 30
def rowT (t p : Int) (n : Nat) : List Int := fcG t p n 2 t p
def rootP (p : Int) : Int × Int := (rootsL p).headD (0, 0)
structure Facts : Prop where
  fx : ∀ (A : Cv) p, p ∈ PLl → Fx A p
  rw : ∀ t p : Int, p ∈ PLl → t * t ≤ 4 * p → ∀ n, 1 ≤ n → n ≤ 17 → RwOk (rowT t p n)
  ov : ∀ (A : Cv) p, p = 2 ∨ p = 3 ∨ p = 5 → disc A % p ≠ 0 → overI A p (rootP p).1 (rootP p).2 = p * p + 1 - (tF A p * tF A p - 2 * p)
  e1 : cnt ⟨0, 0, 1, -1, 0⟩ 2 = -2
  e2 : kindS ⟨0, 0, 1, -1, 0⟩ 37 = "unsplit"
theorem len_parts {α : Type} (f : α → Bool) (l : List α) : (l.filter f).length + (l.filter fun x => !f x).length = l.length := by
  induction l with
  | nil => rfl
  | cons a l ih =>
    cases c : f a <;> simp [c] <;> omega
theorem cnt_t {A : Cv} {p : Int} (h : Fx A p) : cnt A p = tF A p := by
  have e := len_parts (fun q : Int × Int => sharp A p q.1 q.2) (found A p)
  have e2 : (pts A p).length = 1 + ((found A p).filter fun q => !sharp A p q.1 q.2).length := by
    unfold pts
    rw [List.length_cons, List.length_map]
    omega
  have h1 := h.len
  have h2 := h.one
  unfold sharpL at h1 h2
  unfold cnt tF
  by_cases c : disc A % p = 0
  · rw [if_pos c]
    have : 0 < ((found A p).filter fun q => sharp A p q.1 q.2).length := List.length_pos_iff.2 fun z => h2.1 z c
    omega
  · rw [if_neg c]
    have : ((found A p).filter fun q => sharp A p q.1 q.2).length = 0 := by rw [h2.2 c]; rfl
    omega
local macro_rules | `(tactic| simp_arith [$xs,*]) => `(tactic| simp only [↓getV_z, ↓getV_s, ↓setK_z, ↓setK_s, ↓wipeK_n, ↓wipeK_c, ↓asgW_nm, ↓asgW_tp, ↓asgW_tl, ↓asgsW_n, ↓asgsW_c, ↓x_var, ↓x_int, ↓x_bl, ↓x_non, ↓x_str, ↓x_glob, ↓globW_z, ↓globW_s, ↓x_bin, ↓x_neg, ↓negW_i, ↓x_cmp, ↓two_t, ↓two_f, ↓two_n, ↓two_and, ↓two_or, ↓x_chain, ↓chainW_b, ↓x_isN, ↓x_notN, ↓isNW_n, ↓isNW_i, ↓isNW_b, ↓isNW_s, ↓isNW_t, ↓isNW_l, ↓isNW_r, ↓x_and, ↓x_or, ↓x_not, ↓x_ite, ↓x_tup0, ↓x_tup1, ↓x_tup2, ↓x_tup3, ↓x_tup4, ↓x_tup5, ↓x_lst0, ↓x_lst1, ↓x_lst2, ↓x_lst3, ↓x_lst4, ↓x_lst5, ↓x_lst6, ↓x_tup6, ↓x_sub, ↓x_dsel, ↓x_slc, ↓xo_n, ↓xo_s, ↓partW_i, ↓x_call1, ↓x_call2, ↓x_call3, ↓x_call4, ↓x_call5, ↓x_call6, ↓x_callk, ↓xs_n, ↓xs_c, ↓x_bi1, ↓x_bi2, ↓x_isi, ↓x_app, ↓x_ext, ↓x_lc, ↓rq_lo, ↓rq_hi, ↓b_and, ↓b_or, ↓b_not, ↓b_cmp, ↓b_chain, ↓b_isN, ↓b_notN, ↓b_var, ↓b_call, ↓b_callk, ↓b_bi, ↓b_isi, ↓b_bin, ↓b_bl, ↓b_sub, ↓ob_n, ↓ob_s, ↓add_i, ↓sub_i, ↓mul_i, ↓mod_i, ↓fdiv_i, ↓pow_i, ↓add_t, ↓add_l, ↓mul_l, ↓newL_f, ↓newL_t, ↓frz_i, ↓frz_b, ↓frz_n, ↓frz_s, ↓frz_t, ↓frz_l, ↓frz_k, ↓eq_i, ↓ne_i, ↓eq_b, ↓eq_s, ↓ne_b, ↓lt_i, ↓le_i, ↓gt_i, ↓ge_i, ↓eq_t, ↓ne_t, ↓eq_l, ↓ne_l, ↓tru_b, ↓tru_i, ↓tru_n, ↓tru_t, ↓tru_l, ↓boo_b, ↓sub_t, ↓sub_l, ↓atW_s, ↓at_0, ↓at_1, ↓at_2, ↓at_3, ↓at_4, ↓isi_i, ↓isi_b, ↓isi_s, ↓isi_t, ↓isi_l, ↓isi_n, ↓len_t, ↓len_l, ↓len_s, ↓abs_i, ↓int_i, ↓int_b, ↓tup_l, ↓tup_t, ↓lis_l, ↓lis_t, ↓app_p, ↓isl_p, ↓tup_p, ↓ext_p, ↓ext_pt, ↓sub_p, ↓len_p, ↓isi_p, ↓tru_p, ↓sto3_0, ↓sto3_1, ↓sto3_2, ↓slc_s, ↓slc_t, ↓slc_l, ↓aug_a, ↓aug_s, ↓aug_m, ↓aug_d, ↓i_seq, ↓seq_t, ↓seq_l, ↓seq_p, ↓i_rng1, ↓rngW_i, ↓i_rng2, ↓rng2W_i, ↓i_enum0, ↓i_enum1, ↓i_zip, ↓zipW_t, ↓zipW_l, ↓ss_n, ↓ss_c, ↓s_asg, ↓s_par2, ↓s_par3, ↓s_sto, ↓s_aug, ↓s_exp, ↓s_ret, ↓s_ife, ↓s_fr, ↓s_whl, ↓s_rse, ↓s_tr, ↓s_pass, ↓s_brk, ↓s_cnt, any_bool_int, any_bool_bool, any_bool_tuple, any_bool_list, any_bool_str, any_bool_list_tuple, any_bool_bool_str, any_bool_int_str, any_bool_tuple_list, any_int_int, any_int_bool, any_int_tuple, any_int_list, any_int_str, any_int_list_tuple, any_int_bool_str, any_int_int_str, any_int_tuple_list, any_str_int, any_str_bool, any_str_tuple, any_str_list, any_str_str, any_str_list_tuple, any_str_bool_str, any_str_int_str, any_str_tuple_list, any_tuple_int, any_tuple_bool, any_tuple_tuple, any_tuple_list, any_tuple_str, any_tuple_list_tuple, any_tuple_bool_str, any_tuple_int_str, any_tuple_tuple_list, any_list_int, any_list_bool, any_list_tuple, any_list_list, any_list_str, any_list_list_tuple, any_list_bool_str, any_list_int_str, any_list_tuple_list, lstW, tupW, mulOk_l, mulOk_r, Nat.reduceMul, Nat.reduceAdd, Nat.reduceLT, Nat.reduceLeDiff, Nat.reduceSub, not_false_eq_true, true_and, and_true, Bool.not_true, Bool.not_false, List.map_cons, List.map_nil, List.replicate_succ, List.replicate_zero, List.cons_append, List.nil_append, $xs,*])
local macro_rules | `(tactic| simp_all_arith [$xs,*]) => `(tactic| simp only [↓getV_z, ↓getV_s, ↓setK_z, ↓setK_s, ↓wipeK_n, ↓wipeK_c, ↓asgW_nm, ↓asgW_tp, ↓asgW_tl, ↓asgsW_n, ↓asgsW_c, ↓x_var, ↓x_int, ↓x_bl, ↓x_non, ↓x_str, ↓x_glob, ↓globW_z, ↓globW_s, ↓x_bin, ↓x_neg, ↓negW_i, ↓x_cmp, ↓two_t, ↓two_f, ↓two_n, ↓two_and, ↓two_or, ↓x_chain, ↓chainW_b, ↓x_isN, ↓x_notN, ↓isNW_n, ↓isNW_i, ↓isNW_b, ↓isNW_s, ↓isNW_t, ↓isNW_l, ↓isNW_r, ↓x_and, ↓x_or, ↓x_not, ↓x_ite, ↓x_tup0, ↓x_tup1, ↓x_tup2, ↓x_tup3, ↓x_tup4, ↓x_tup5, ↓x_lst0, ↓x_lst1, ↓x_lst2, ↓x_lst3, ↓x_lst4, ↓x_lst5, ↓x_lst6, ↓x_tup6, ↓x_sub, ↓x_dsel, ↓x_slc, ↓xo_n, ↓xo_s, ↓partW_i, ↓x_call1, ↓x_call2, ↓x_call3, ↓x_call4, ↓x_call5, ↓x_call6, ↓x_callk, ↓xs_n, ↓xs_c, ↓x_bi1, ↓x_bi2, ↓x_isi, ↓x_app, ↓x_ext, ↓x_lc, ↓rq_lo, ↓rq_hi, ↓b_and, ↓b_or, ↓b_not, ↓b_cmp, ↓b_chain, ↓b_isN, ↓b_notN, ↓b_var, ↓b_call, ↓b_callk, ↓b_bi, ↓b_isi, ↓b_bin, ↓b_bl, ↓b_sub, ↓ob_n, ↓ob_s, ↓add_i, ↓sub_i, ↓mul_i, ↓mod_i, ↓fdiv_i, ↓pow_i, ↓add_t, ↓add_l, ↓mul_l, ↓newL_f, ↓newL_t, ↓frz_i, ↓frz_b, ↓frz_n, ↓frz_s, ↓frz_t, ↓frz_l, ↓frz_k, ↓eq_i, ↓ne_i, ↓eq_b, ↓eq_s, ↓ne_b, ↓lt_i, ↓le_i, ↓gt_i, ↓ge_i, ↓eq_t, ↓ne_t, ↓eq_l, ↓ne_l, ↓tru_b, ↓tru_i, ↓tru_n, ↓tru_t, ↓tru_l, ↓boo_b, ↓sub_t, ↓sub_l, ↓atW_s, ↓at_0, ↓at_1, ↓at_2, ↓at_3, ↓at_4, ↓isi_i, ↓isi_b, ↓isi_s, ↓isi_t, ↓isi_l, ↓isi_n, ↓len_t, ↓len_l, ↓len_s, ↓abs_i, ↓int_i, ↓int_b, ↓tup_l, ↓tup_t, ↓lis_l, ↓lis_t, ↓app_p, ↓isl_p, ↓tup_p, ↓ext_p, ↓ext_pt, ↓sub_p, ↓len_p, ↓isi_p, ↓tru_p, ↓sto3_0, ↓sto3_1, ↓sto3_2, ↓slc_s, ↓slc_t, ↓slc_l, ↓aug_a, ↓aug_s, ↓aug_m, ↓aug_d, ↓i_seq, ↓seq_t, ↓seq_l, ↓seq_p, ↓i_rng1, ↓rngW_i, ↓i_rng2, ↓rng2W_i, ↓i_enum0, ↓i_enum1, ↓i_zip, ↓zipW_t, ↓zipW_l, ↓ss_n, ↓s_asg, ↓s_par2, ↓s_par3, ↓s_sto, ↓s_aug, ↓s_exp, ↓s_ret, ↓s_ife, ↓s_fr, ↓s_whl, ↓s_rse, ↓s_tr, ↓s_pass, ↓s_brk, ↓s_cnt, any_bool_int, any_bool_bool, any_bool_tuple, any_bool_list, any_bool_str, any_bool_list_tuple, any_bool_bool_str, any_bool_int_str, any_bool_tuple_list, any_int_int, any_int_bool, any_int_tuple, any_int_list, any_int_str, any_int_list_tuple, any_int_bool_str, any_int_int_str, any_int_tuple_list, any_str_int, any_str_bool, any_str_tuple, any_str_list, any_str_str, any_str_list_tuple, any_str_bool_str, any_str_int_str, any_str_tuple_list, any_tuple_int, any_tuple_bool, any_tuple_tuple, any_tuple_list, any_tuple_str, any_tuple_list_tuple, any_tuple_bool_str, any_tuple_int_str, any_tuple_tuple_list, any_list_int, any_list_bool, any_list_tuple, any_list_list, any_list_str, any_list_list_tuple, any_list_bool_str, any_list_int_str, any_list_tuple_list, lstW, tupW, mulOk_l, mulOk_r, Nat.reduceMul, Nat.reduceAdd, Nat.reduceLT, Nat.reduceLeDiff, Nat.reduceSub, not_false_eq_true, true_and, and_true, Bool.not_true, Bool.not_false, List.map_cons, List.map_nil, List.replicate_succ, List.replicate_zero, List.cons_append, List.nil_append, $xs,*])
local macro_rules | `(tactic| simp_all_arith! [$xs,*]) => `(tactic| ((try simp_all_arith [$xs,*]); (repeat (rw [ss_c]; simp_all_arith [$xs,*]))))
local macro_rules | `(tactic| simp_arith! [$xs,*]) => `(tactic| simp only [startR, any_bool_int, any_bool_bool, any_bool_tuple, any_bool_list, any_bool_str, any_bool_list_tuple, any_bool_bool_str, any_bool_int_str, any_bool_tuple_list, any_int_int, any_int_bool, any_int_tuple, any_int_list, any_int_str, any_int_list_tuple, any_int_bool_str, any_int_int_str, any_int_tuple_list, any_str_int, any_str_bool, any_str_tuple, any_str_list, any_str_str, any_str_list_tuple, any_str_bool_str, any_str_int_str, any_str_tuple_list, any_tuple_int, any_tuple_bool, any_tuple_tuple, any_tuple_list, any_tuple_str, any_tuple_list_tuple, any_tuple_bool_str, any_tuple_int_str, any_tuple_tuple_list, any_list_int, any_list_bool, any_list_tuple, any_list_list, any_list_str, any_list_list_tuple, any_list_bool_str, any_list_int_str, any_list_tuple_list, lstW, tupW, mulOk_l, mulOk_r, Nat.reduceMul, Nat.reduceAdd, Nat.reduceLT, Nat.reduceLeDiff, Nat.reduceSub, not_false_eq_true, true_and, and_true, Bool.not_true, Bool.not_false, List.map_cons, List.map_nil, List.replicate_succ, List.replicate_zero, List.cons_append, List.nil_append, $xs,*])
section
variable {s : S} {Q : D → S → Prop}
theorem disp3 (a b c : D) (K : List (Int × D) → Prop) : dispW [.int 0, a, .int 1, b, .int (-1), c] K = K [(0, a), (1, b), (-1, c)] := by
  simp [dispW, pairUp, intKeys]
theorem pick3 (a b c : D) (t : Int) : pickW [(0, a), (1, b), (-1, c)] (.int t) s Q = if t = 0 then Q a s else if t = 1 then Q b s else if t = -1 then Q c s else False := by
  unfold pickW
  simp only [List.lookup]
  by_cases c0 : t = 0
  · subst c0; rfl
  · by_cases c1 : t = 1
    · subst c1; rfl
    · by_cases c2 : t = -1
      · subst c2; rfl
      · have e0 : (t == 0) = false := by simpa using c0
        have e1 : (t == 1) = false := by simpa using c1
        have e2 : (t == -1) = false := by simpa using c2
        simp only [e0, e1, e2, if_neg c0, if_neg c1, if_neg c2]
theorem notin_t (x : D) (ds : List D) : cmpW .notin x (.tup ds) s Q = (flatD x = true ∧ ds.all flatD = true ∧ Q (.bl (!ds.any fun d => eqD d x)) s) := by
  simp only [cmpW, inW, items]
theorem qds_nil (l : List (Int × Int)) : eqD (.lv (l.map qd)) (.lv []) = l.isEmpty := by cases l <;> rfl
end
theorem list_cd {A : Cv} {s : S} {Q : D → S → Prop} : biW .list false [cd A] s Q = Q (cl A) s := (rfl)
theorem pts_len (A : Cv) (p : Int) : ((pts A p).length : Int) = (found A p).length + 1 - (sharpL A p).length := by
  have e := len_parts (fun q : Int × Int => sharp A p q.1 q.2) (found A p)
  have e2 : (pts A p).length = 1 + ((found A p).filter fun q => !sharp A p q.1 q.2).length := by
    unfold pts
    rw [List.length_cons, List.length_map]
    omega
  unfold sharpL
  omega
theorem fine_kind (A : Cv) (p : Int) : fine (.str (kindS A p)) := by
  unfold kindS
  repeat (first | exact ⟨by decide +kernel, Nat.le_of_ble_eq_true rfl⟩ | split)
theorem pick_kind {A : Cv} {p : Int} (c : disc A % p = 0) (hc : cnt A p = tF A p) (h : tF A p = 0 ∨ tF A p = 1 ∨ tF A p = -1) (s : S) (Q : D → S → Prop) : pickW [(0, .str "cusp"), (1, .str "split"), (-1, .str "unsplit")] (.int (tF A p)) s Q = Q (.str (kindS A p)) s := by
  unfold kindS
  rw [pick3, if_pos c, hc]
  rcases h with e | e | e <;> rw [e] <;> rfl
theorem perm10 (x y : D) : List.filterMap (fun i => [x, y][i]?) [1, 0] = [y, x] := rfl
theorem perm210 (x y z : D) : List.filterMap (fun i => [x, y, z][i]?) [2, 1, 0] = [z, y, x] := rfl
theorem put_comm {s : S} {a b : Nat} {x y : Ob} (h : a ≠ b) : put (put s a x) b y = put (put s b y) a x := by
  funext c
  unfold put
  by_cases h1 : c = b
  · by_cases h2 : c = a
    · exact absurd (h2.symm.trans h1) h
    · rw [if_pos h1, if_neg h2, if_pos h1]
  · by_cases h2 : c = a
    · rw [if_neg h1, if_pos h2, if_pos h2]
    · rw [if_neg h1, if_neg h2, if_neg h2, if_neg h1]
theorem app_pp {s : S} {Q : D → S → Prop} {a b : Nat} {ds : List D} {o : Ob} (h : a ≠ b) (x : D) : appW (.ref b) x (put (put s b (.lst ds)) a o) Q = (ds.length < SL ∧ Q .non (put (put s b (.lst (ds ++ [x]))) a o)) := by
  rw [put_comm (Ne.symm h), app_p, put_comm h]
theorem isl_pp {s : S} {a b : Nat} {ds : List D} {o : Ob} (h : a ≠ b) : isLst (.ref b) (put (put s b (.lst ds)) a o) = True := by
  rw [put_comm (Ne.symm h), isl_p]
theorem freesF_len : ∀ (ts fs f : List Int), freesF ts fs = some f → f.length = fs.length + ts.length
  | [], fs, f, h => by rw [freesF] at h; cases h; rfl
  | t :: ts, fs, f, h => by
    rw [freesF] at h
    split at h
    · rw [freesF_len ts _ f h, List.length_append, List.length_cons, List.length_cons, List.length_nil]
      omega
    · cases h
theorem row_2 (t p : Int) (n : Nat) (h : 2 ≤ n) : atI ((rowT t p n).map D.int) 1 = some (.int (p * p + 1 - (t * t - p * 2))) := by
  obtain ⟨m, rfl⟩ : ∃ m, n = m + 2 := ⟨n - 2, by omega⟩
  unfold rowT
  rw [fcG, fcG, List.map_cons, List.map_cons, at_1]
theorem root_ok (p : Int) (h : p = 2 ∨ p = 3 ∨ p = 5) : (0 ≤ (rootP p).1 ∧ (rootP p).1 ≤ 97) ∧ (0 ≤ (rootP p).2 ∧ (rootP p).2 ≤ 97) ∧ rootsL p = ((rootP p).1, (rootP p).2) :: (rootsL p).tail ∧ ∀ q ∈ (rootsL p).tail, leP ((rootP p).1, (rootP p).2) q := by
  rcases h with rfl | rfl | rfl <;> decide +kernel
theorem at_m1 (M : List Int) (b l : Int) : atI ((M ++ [b, l]).map D.int) (-1) = some (.int l) := by
  have e : ixN ((M ++ [b, l]).map D.int).length (-1) = some (M.length + 1) := by
    unfold ixN
    rw [if_neg (by decide), if_pos (by simp; omega)]
    congr 1
    simp
    omega
  unfold atI
  rw [e, Option.bind_some, List.getElem?_map, List.getElem?_append_right (by omega)]
  simp
theorem at_m2 (M : List Int) (b l : Int) : atI ((M ++ [b, l]).map D.int) (-2) = some (.int b) := by
  have e : ixN ((M ++ [b, l]).map D.int).length (-2) = some M.length := by
    unfold ixN
    rw [if_neg (by decide), if_pos (by simp; omega)]
    congr 1
    simp
    omega
  unfold atI
  rw [e, Option.bind_some, List.getElem?_map, List.getElem?_append_right (by omega)]
  simp
theorem at_last (M : List Int) (b l n : Int) (k : Int) (hk : k = M.length + 1) : atI ((M ++ [b, l, n]).map D.int) k = some (.int l) := by
  subst hk
  rw [show ((M.length : Int) + 1) = ((M.length + 1 : Nat) : Int) by omega, at_nat _ _ (by simp), List.getElem?_map, List.getElem?_append_right (by omega)]
  simp
theorem rowT_len (t p : Int) (n : Nat) : (rowT t p n).length = n := fcG_len t p n 2 t p
theorem kind_s {A : Cv} {p : Int} (c : ¬ disc A % p = 0) : kindS A p = "smooth" := by unfold kindS; rw [if_neg c]
theorem none_neg (f : List Int) (h : ∀ x ∈ f, 0 ≤ x) : f.filterMap (fun x => if x < 0 then some (wD x) else none) = [] := by
  induction f with
  | nil => rfl
  | cons x f ih =>
    rw [List.filterMap_cons_none (by rw [if_neg]; have := h x List.mem_cons_self; omega)]
    exact ih fun y hy => h y (List.mem_cons_of_mem _ hy)
def GoodP (ds : List D) : Prop := (∀ d ∈ ds, ∃ p, p ∈ PLl ∧ d = .int p) ∧ ds ≠ [] ∧ ds.length < 100
theorem two_pick (c : Bool) {k a : Nat} {X : XT} {s : S} {K : D → S → Prop} (h : ∀ ds, GoodP ds → run prog consts k X f_u_law_of [.ref a, .lv ds] s K) : two c (([.int 2, .int 3, .int 5, .int 7, .int 11, .int 13, .int 17, .int 23, .int 31, .int 47] : List D).length ≤ SL ∧ run prog consts k X f_u_law_of [.ref a, .lv [.int 2, .int 3, .int 5, .int 7, .int 11, .int 13, .int 17, .int 23, .int 31, .int 47]] s K) (run prog consts k X f_u_law_of [.ref a, .lv [.int 2, .int 3, .int 5]] s K) := by
  have g1 : GoodP [.int 2, .int 3, .int 5, .int 7, .int 11, .int 13, .int 17, .int 23, .int 31, .int 47] := by
    refine ⟨fun d hd => ?_, by simp, by simp⟩
    simp only [List.mem_cons, List.not_mem_nil, or_false] at hd
    rcases hd with rfl | rfl | rfl | rfl | rfl | rfl | rfl | rfl | rfl | rfl <;> exact ⟨_, by simp, rfl⟩
  have g2 : GoodP [.int 2, .int 3, .int 5] := by
    refine ⟨fun d hd => ?_, by simp, by simp⟩
    simp only [List.mem_cons, List.not_mem_nil, or_false] at hd
    rcases hd with rfl | rfl | rfl <;> exact ⟨_, by simp, rfl⟩
  cases c
  · rw [two_f]; exact h _ g2
  · rw [two_t]; exact ⟨Nat.le_of_ble_eq_true rfl, h _ g1⟩
set_option maxHeartbeats 0 in
theorem law_by (F : Facts) (ns : List Int) (hns : ns.length ≤ 63) : run prog consts 60 no f_law [.scr ns] (fun _ => none) fun d _ => d = .bl true := by
  refine run_s at_law rfl ?_; simp_arith! [d_law]
  simp_all_arith! [true_and]
  refine ok_law_cells1 ns hns ?_
  intro a0 z ha0
  rw [frz_put ha0]
  simp_all_arith! [true_and]
  refine ok_law_box z ?_
  intro a s1 ha hT hf
  simp_all_arith! [true_and]
  refine ⟨by decide, by decide, ?_⟩
  rw [rngD_map]
  refine fr_map D.int (fun xs r s' => ∃ n, r = [some (.scr ns), some (.ref a), none, none, none, none, none, none, none, none, none, none, none, none, none, none, none, none] ∧ Tn n s' a ∧ n + 100 * xs.length ≤ 500) ?_ ?_ _ _ _ ⟨0, rfl, hT, by rw [rngI_len _ 0]; decide⟩
  · rintro r s2 ⟨n, rfl, hT2, hn⟩
    refine ⟨trivial, ?_⟩
    simp_all_arith! [true_and]
    have hc : SmC ⟨0, 0, 1, -1, 0⟩ := ⟨⟨by decide⟩, ⟨by decide⟩, ⟨by decide⟩, ⟨by decide⟩, ⟨by decide⟩⟩
    refine ok_field_counts ⟨0, 0, 1, -1, 0⟩ (by decide) 2 (by simp [PL]) (by decide) 4 (by decide) _ (.inl rfl) ?_
    rw [F.e1, show fcG (-2) 2 (4 : Int).toNat 2 (-2) 2 = [5, 5, 5, 25] from rfl]
    simp_all_arith! [true_and]
    refine ok_kind_at ⟨0, 0, 1, -1, 0⟩ (by decide) 37 (by simp [PL]) _ (.inl rfl) ?_
    rw [F.e2]
    simp_all_arith! [true_and]
    refine ok_law_same (same_two (same_it [5, 5, 5, 25] (by unfold SL; exact Nat.le_of_ble_eq_true rfl)) (.str _ ⟨by decide +kernel, Nat.le_of_ble_eq_true rfl⟩)) (Nat.le_of_ble_eq_true rfl) ?_
    simp_all_arith! [true_and]
    exact back_same rfl
  · rintro lap laps r s2 nx ⟨n, rfl, hT2, hn⟩ hnx
    refine ⟨trivial, ?_⟩
    rw [List.length_cons] at hn
    simp_all_arith! [true_and]
    refine ok_law_curve hT2 (by omega) 12 (by decide) (by decide) ?_
    intro A s3 m hA hdA hm hT3 hf3
    simp_all_arith! [↓frz_cd]
    refine two_pick _ fun ds hds => ?_
    refine ok_law_of hT3 (by omega) ds hds.2.1 (by have := hds.2.2; omega) ?_
    intro d s4 hd hT4 hf4
    obtain ⟨p, hp, rfl⟩ := hds.1 d hd
    have hP : PL p := by
      simp only [List.mem_cons, List.not_mem_nil, or_false] at hp
      simp only [PL, List.mem_cons, List.not_mem_nil, or_false]
      omega
    have hb := PL_le hP
    have hC := hA.smC
    simp_all_arith! [true_and]
    refine ok_law_places A p hb.1 hb.2 ?_
    intro a2 ha2
    have hx := F.fx A p hp
    have hct := cnt_t hx
    simp_all_arith! [true_and]
    refine ok_law_discriminant A hA ?_
    have hft : p - (((List.map qd (found A p)).length : Nat) : Int) = tF A p := by rw [List.length_map]; rfl
    have hT5 : Tn (m + 1) (put s4 a2 (.lst ((found A p).map qd))) a := by
      obtain ⟨u, v, w, e, h⟩ := hT4
      refine ⟨u, v, w, ?_, h⟩
      rw [put_ne (fun c => by rw [c, ha2] at e; cases e)]
      exact e
    have hlf := foundLen A p hb.2
    have hfq := fine_qds ((found A p).filter fun q => sharp A p q.1 q.2)
    have hone := hx.one
    have hlen := hx.len
    have htri := hx.tri
    have hhas := hx.hasse
    have hcus := hx.cusp
    rw [show ((found A p).filter fun q => sharp A p q.1 q.2) = sharpL A p from rfl] at *
    have hemp : (sharpL A p).isEmpty = !decide (disc A % p = 0) := by
      by_cases c : disc A % p = 0
      · have : sharpL A p ≠ [] := fun z => hone.1 z c
        rw [decide_eq_true c]
        cases e : sharpL A p with
        | nil => exact absurd e this
        | cons _ _ => rfl
      · rw [hone.2 c, decide_eq_false c]; rfl
    generalize hS : sharpL A p = Sh at *
    by_cases c : disc A % p = 0
    · rw [decide_eq_true c] at hemp
      simp_all_arith! [c, decide_true, hft, qds_nil, hemp, ne_b]
      have hany : ([D.int 0, .int 1, .int (-1)].any fun d => eqD d (.int (tF A p))) = true := by
        rcases htri c with e | e | e <;> rw [e] <;> rfl
      refine ⟨by omega, hfq, ⟨rfl, by decide⟩, ?_⟩
      rw [show decide (1 < (((List.map qd Sh).length : Nat) : Int)) = false by
        rw [List.length_map, decide_eq_false_iff_not]
        omega]
      simp_all_arith! [notin_t, hany]
      refine ⟨rfl, rfl, ?_⟩
      simp_all_arith! [disp3, pick_kind c hct (htri c), list_cd, perm10]
      refine ok_count_at A hdA p hP _ (.inr rfl) ?_
      simp_all_arith! [perm10]
      refine ok_count_at A hdA p hP _ (.inl rfl) ?_
      simp_all_arith! [list_cd]
      refine ok_kind_at A hdA p hP _ (.inr rfl) ?_
      simp_all_arith! [perm10]
      refine ok_kind_at A hdA p hP _ (.inl rfl) ?_
      simp_all_arith! [true_and]
      refine ok_points_of A hdA p hP _ (.inl rfl) ?_
      simp_all_arith! [true_and]
      have hSp : ((pts A p).length : Int) = (found A p).length + 1 - Sh.length := by rw [← hS]; exact pts_len A p
      refine ok_law_same (same_five (by rw [hct]; exact .int _) (by rw [hct]; exact .int _) (.str _ (fine_kind A p)) (.str _ (fine_kind A p)) (by
        rw [show (((List.map pd (pts A p)).length : Nat) : Int) = ((List.map qd (found A p)).length : Nat) + 1 - ((List.map qd Sh).length : Nat) by simp only [List.length_map]; exact hSp]
        exact .int _)) (Nat.le_of_ble_eq_true rfl) ?_
      have hks : (kindS A p == ("cusp" : Str)) = decide (c4 A % p = 0) := by
        unfold kindS
        rw [if_pos c, hct]
        by_cases c4z : c4 A % p = 0
        · rw [if_pos ((hcus c).2 c4z), decide_eq_true c4z]
          exact BEq.rfl
        · have tnz : tF A p ≠ 0 := fun z => c4z ((hcus c).1 z)
          rw [if_neg tnz, decide_eq_false c4z]
          split <;> decide +kernel
      simp_all_arith! [hks, ne_b, eq_self]
      refine ⟨fine_kind A p, ⟨by decide +kernel, Nat.le_of_ble_eq_true rfl⟩, ?_⟩
      refine ok_curve_numbers A hdA _ (.inl rfl) ?_
      simp_all_arith! [eq_self, decide_true, hks]
      refine ⟨by omega, ?_⟩
      refine ok_law_take hT5 (by omega) 17 (by decide) (by decide) ?_
      intro d s6 hd1 hd2 hT6 hf6
      simp_all_arith! [true_and]
      refine law_heard_bad A hdA p hP c (1 + d) (by omega) ?_
      simp_all_arith! [true_and]
      refine ok_law_same (same_two (.str _ ⟨by decide +kernel, Nat.le_of_ble_eq_true rfl⟩) (.bl _)) (Nat.le_of_ble_eq_true rfl) ?_
      simp_all_arith! [true_and]
      exact hnx _ _ ⟨m + 1 + 1, rfl, hT6, by omega⟩
    · rw [decide_eq_false c] at hemp
      have hkd := kind_s c
      simp_all_arith! [c, decide_false, decide_true, hft, qds_nil, hemp, ne_b, list_cd]
      have bt : Bd (tF A p) 10000 := by rw [← hct]; exact cnt_bd A p hb.1 hb.2
      have bp : Bd p 97 := bd_of (by omega) (by omega)
      refine ⟨by omega, hfq, ⟨rfl, by decide⟩, ?_⟩
      rw [show decide (1 < (((List.map qd Sh).length : Nat) : Int)) = false by
        rw [List.length_map, decide_eq_false_iff_not]
        omega]
      have hh := hhas c
      simp_all_arith! [show decide (4 * p < tF A p * tF A p) = false by rw [decide_eq_false_iff_not]; omega, list_cd]
      refine ok_count_at A hdA p hP _ (.inr rfl) ?_
      simp_all_arith! [perm10]
      refine ok_count_at A hdA p hP _ (.inl rfl) ?_
      simp_all_arith! [list_cd]
      refine ok_kind_at A hdA p hP _ (.inr rfl) ?_
      simp_all_arith! [perm10]
      refine ok_kind_at A hdA p hP _ (.inl rfl) ?_
      simp_all_arith! [true_and]
      refine ok_points_of A hdA p hP _ (.inl rfl) ?_
      simp_all_arith! [true_and]
      have hSp : ((pts A p).length : Int) = (found A p).length + 1 - Sh.length := by rw [← hS]; exact pts_len A p
      rw [hkd]
      have fsm : fine (.str ("smooth" : Str)) := ⟨by decide +kernel, Nat.le_of_ble_eq_true rfl⟩
      refine ok_law_same (same_five (by rw [hct]; exact .int _) (by rw [hct]; exact .int _) (.str _ fsm) (.str _ fsm) (by
        rw [show (((List.map pd (pts A p)).length : Nat) : Int) = ((List.map qd (found A p)).length : Nat) + 1 - ((List.map qd Sh).length : Nat) by simp only [List.length_map]; exact hSp]
        exact .int _)) (Nat.le_of_ble_eq_true rfl) ?_
      simp_all_arith! [true_and]
      refine ok_law_take hT5 (by omega) 17 (by decide) (by decide) ?_
      intro d s6 hd1 hd2 hT6 hf6
      simp_all_arith! [true_and]
      refine law_heard_good A hdA p hP c (1 + d) (by omega) ?_
      rw [hct]
      rw [show fcG (tF A p) p (1 + d).toNat 2 (tF A p) p = rowT (tF A p) p (1 + d).toNat from rfl]
      generalize hrow : rowT (tF A p) p (1 + d).toNat = row
      simp_all_arith! [true_and]
      intro b hb4 f hf4
      have hbf : b ≠ f := fun z => by rw [z, put_at] at hf4; cases hf4
      have hff : s6 f = none := by rw [put_ne (Ne.symm hbf)] at hf4; exact hf4
      rw [put_comm hbf]
      simp_all_arith! [true_and]
      refine ⟨⟨by omega, by omega, by omega, by omega⟩, ?_⟩
      have hrl : row.length = (1 + d).toNat := by rw [← hrow]; exact rowT_len _ _ _
      have hR := F.rw (tF A p) p hp hh (1 + d).toNat (by omega) (by omega)
      rw [hrow] at hR
      have hRk : RowOk row := ⟨by omega, by omega, hR.bd⟩
      have hT7 : ∀ o1 o2 : Ob, Tn (m + 1 + 1) (put (put s6 b o1) f o2) a := by
        intro o1 o2
        obtain ⟨u, v, w, e, h⟩ := hT6
        refine ⟨u, v, w, ?_, h⟩
        rw [put_ne (fun z => by rw [z, hff] at e; cases e), put_ne (fun z => by rw [z, hb4] at e; cases e)]
        exact e
      rw [rngD_map]
      refine fr_map D.int (fun xs r s2 => ∃ M b' l q acc o16, r = [some (.scr ns), some (.ref a), some (.int lap), some (cd A), some (.int p), some (.ref a2), some (.lv (List.map qd Sh)), some (.int (tF A p)), some (.bl false), some (.str "smooth"), some (.lv [.int (tF A p), .int (tF A p), .str "smooth", .str "smooth", .int ((List.map pd (pts A p)).length : Nat)]), some (.int (1 + d)), some (.tup (List.map D.int row)), some (.ref b), some (.ref f), some (.int q), o16, none] ∧ s2 = put (put s6 f (.lst (acc.map D.int))) b (.lst ((M ++ [b', l]).map D.int)) ∧ acc ++ fcG (tF A p) p xs.length b' l (q * p) = row ∧ M.length = acc.length ∧ acc.length + xs.length ≤ 17 ∧ xs = rngI (M.length + 1) xs.length) ?_ ?_ _ _ _ ⟨[], 2, tF A p, 1, [], none, rfl, rfl, ?_, rfl, ?_, ?_⟩
      · rintro r s' ⟨M, b', l, q, acc, o16, rfl, rfl, e, eM, el, _⟩
        refine ⟨trivial, ?_⟩
        rw [List.length_nil, fcG, List.append_nil] at e
        subst e
        rw [put_comm (Ne.symm hbf)]
        simp_all_arith! [perm210, list_cd]
        refine ok_field_counts A hdA p hP c (1 + d) (by omega) _ (.inr rfl) ?_
        rw [hct, show fcG (tF A p) p (1 + d).toNat 2 (tF A p) p = acc from hrow]
        simp_all_arith! [true_and]
        refine ok_broken_place acc hRk hR.whole (put_at _ _ _) ?_
        simp_all_arith! [true_and]
        have hal : acc.length ≤ SL := by rw [hrl]; unfold SL; omega
        refine ok_law_same (same_three (same_it acc hal) (same_it acc hal) .non) (by
          show max (deps (acc.map D.int) + 1) (max (deps (acc.map D.int) + 1) (max 0 0)) + 1 < 59
          rw [deps_ints]; decide) ?_
        simp_all_arith! [true_and]
        obtain ⟨fr, hfr, hfp⟩ := hR.free
        refine ok_frees_of acc fr hRk hfr (put_at _ _ _) ?_
        simp_all_arith! [true_and]
        have hfl : fr.length ≤ SL := by
          rw [freesF_len _ _ _ hfr, hrl]; unfold SL; simp; omega
        refine lc_map wD (fun x => if x < 0 then some (wD x) else none) fr trivial ?_ hfl ?_
        · intro x _ P hP'
          unfold turnC
          simp_arith [true_and]
          rw [two_d]
          constructor
          · intro z
            rw [if_pos z] at hP'
            exact hP'
          · intro z
            rw [if_neg z] at hP'
            simp_arith [decide_true]
            exact hP'
        rw [none_neg fr hfp]
        simp_all_arith! [show eqD (.lv []) (.lv []) = true from rfl]
        refine ⟨⟨rfl, by decide⟩, ⟨rfl, by decide⟩, ?_⟩
        by_cases p6 : p < 6
        · have p235 : p = 2 ∨ p = 3 ∨ p = 5 := by
            simp only [List.mem_cons, List.not_mem_nil, or_false] at hp
            omega
          by_cases d1 : 1 < 1 + d
          · have h2nd := row_2 (tF A p) p (1 + d).toNat (by omega)
            rw [hrow] at h2nd
            simp_all_arith! [decide_eq_true p6, decide_eq_true d1, h2nd]
            obtain ⟨r1, r2, r3, r4⟩ := root_ok p p235
            refine ok_law_over_pairs A hA p (by omega) (by omega) _ _ r1 r2 _ r3 r4 ?_
            rw [F.ov A p p235 c]
            simp_all_arith! [show decide (p * p + 1 - (tF A p * tF A p - p * 2) = p * p + 1 - (tF A p * tF A p - 2 * p)) = true by rw [decide_eq_true_iff, Int.mul_comm p 2]]
            exact hnx _ _ ⟨m + 1 + 1, rfl, hT7 _ _, by omega⟩
          · simp_all_arith! [decide_eq_true p6, decide_eq_false d1]
            exact hnx _ _ ⟨m + 1 + 1, rfl, hT7 _ _, by omega⟩
        · simp_all_arith! [decide_eq_false p6]
          exact hnx _ _ ⟨m + 1 + 1, rfl, hT7 _ _, by omega⟩
      · rintro i xs r s' nx2 ⟨M, b', l, q, acc, o16, rfl, rfl, e, eM, el, ex⟩ hn2
        refine ⟨trivial, ?_⟩
        rw [List.length_cons] at el ex e
        rw [rngI, List.cons.injEq] at ex
        rw [fcG] at e
        simp_all_arith [true_and]
        rw [ss_c]; simp_all_arith [at_m1, at_m2]
        refine ⟨by simp; unfold SL; omega, ?_⟩
        rw [show (M ++ [b', l]).map D.int ++ [D.int (tF A p * l - p * b')] = (M ++ [b', l, tF A p * l - p * b']).map D.int by simp]
        simp_all_arith! [at_last M b' l (tF A p * l - p * b') i ex.1, app_pp hbf, isl_pp hbf]
        refine ⟨by simp; unfold SL; omega, ?_⟩
        refine hn2 _ _ ⟨M ++ [b'], l, tF A p * l - p * b', q * p, acc ++ [q * p + 1 - l], _, rfl, ?_, ?_, ?_, ?_, ?_⟩
        · simp
        · rw [← e, List.append_assoc]; rfl
        · simp [eM]
        · simp; omega
        · rw [List.length_append, List.length_singleton]
          exact ex.2
      · rw [rngI_len, Int.one_mul, ← hrow]
        unfold rowT
        rw [show (1 + d + 1 - 1).toNat = (1 + d).toNat by omega]
        rfl
      · rw [rngI_len]
        simp
        omega
      · rw [rngI_len]
        rfl
end K71

set_option linter.all false
set_option maxRecDepth 100000
/-! K71_P: the rows of counts come round and have free numbers: plain facts. -/
namespace K71
open IR PySem EC
def rowB (row : List Int) : Bool := wholeB row && (match freesF row [] with
  | some f => f.all fun x => decide (0 ≤ x)
  | none => false) && row.all fun x => decide (x.natAbs ≤ 10 ^ 30)
def rowsB (p : Int) : Bool := (rngI (-14) 29).all fun t => !decide (t * t ≤ 4 * p) || rowB (rowT t p 17)
theorem rowsB2 : rowsB 2 = true := by decide +kernel
theorem rowsB3 : rowsB 3 = true := by decide +kernel
theorem rowsB5 : rowsB 5 = true := by decide +kernel
theorem rowsB7 : rowsB 7 = true := by decide +kernel
theorem rowsB11 : rowsB 11 = true := by decide +kernel
theorem rowsB13 : rowsB 13 = true := by decide +kernel
theorem rowsB17 : rowsB 17 = true := by decide +kernel
theorem rowsB23 : rowsB 23 = true := by decide +kernel
theorem rowsB31 : rowsB 31 = true := by decide +kernel
theorem rowsB47 : rowsB 47 = true := by decide +kernel
theorem fcG_take (t p : Int) : ∀ (n m : Nat) (b l z : Int), n ≤ m → fcG t p n b l z = (fcG t p m b l z).take n
  | 0, _, _, _, _, _ => rfl
  | n + 1, m, b, l, z, h => by
    obtain ⟨k, rfl⟩ : ∃ k, m = k + 1 := ⟨m - 1, by omega⟩
    rw [fcG, fcG, List.take_succ_cons, fcG_take t p n k _ _ _ (by omega)]
theorem atZ_take (row : List Int) (n : Nat) (i : Int) (h : i < n) (h0 : 0 ≤ i) : atZ (row.take n) i = atZ row i := by
  unfold atZ
  rw [List.getD_eq_getElem?_getD, List.getD_eq_getElem?_getD, List.getElem?_take, if_pos (by omega)]
theorem whole_take (row : List Int) (n : Nat) (hn : n ≤ row.length) (h : wholeB row = true) : wholeB (row.take n) = true := by
  unfold wholeB at h ⊢
  rw [List.all_eq_true] at h ⊢
  intro x hx
  rw [mem_rngI, List.length_take] at hx
  have h2 := h x (by rw [mem_rngI]; omega)
  rw [List.all_eq_true] at h2 ⊢
  intro q hq
  have h3 := h2 q hq
  have hq2 := mem_primesI hq
  unfold brkAt at h3 ⊢
  have hd : x / q ≤ x := Int.ediv_le_self _ (by omega)
  have hd1 : 1 ≤ x / q := by
    rw [Int.le_ediv_iff_mul_le (by omega)]
    omega
  rw [atZ_take _ _ _ (by omega) (by omega), atZ_take _ _ _ (by omega) (by omega)]
  exact h3
theorem frees_take : ∀ (ts : List Int) (n : Nat) (fs f : List Int), freesF ts fs = some f → ∃ g, freesF (ts.take n) fs = some g ∧ ∀ x ∈ g, x ∈ f
  | _, 0, fs, f, h => ⟨fs, by rw [List.take_zero, freesF], fun x hx => by
    have mono : ∀ (ts fs f : List Int), freesF ts fs = some f → ∀ x ∈ fs, x ∈ f := by
      intro ts
      induction ts with
      | nil => intro fs f h x hx; rw [freesF] at h; cases h; exact hx
      | cons t ts ih =>
        intro fs f h x hx
        rw [freesF] at h
        split at h
        · exact ih _ _ h x (List.mem_append_left _ hx)
        · cases h
    exact mono _ _ _ h x hx⟩
  | [], n + 1, fs, f, h => ⟨f, by rw [List.take_nil]; exact h, fun _ hx => hx⟩
  | t :: ts, n + 1, fs, f, h => by
    rw [freesF] at h
    rw [List.take_succ_cons, freesF]
    split at h
    · next c =>
      rw [if_pos c]
      exact frees_take ts n _ f h
    · cases h
theorem rw_of {t p : Int} (h : rowB (rowT t p 17) = true) (n : Nat) (hn : n ≤ 17) : RwOk (rowT t p n) := by
  have e : rowT t p n = (rowT t p 17).take n := fcG_take t p n 17 _ _ _ hn
  have hl := rowT_len t p 17
  rw [e]
  generalize rowT t p 17 = row at h hl
  unfold rowB at h
  simp only [Bool.and_eq_true] at h
  obtain ⟨⟨h1, h2⟩, h3⟩ := h
  refine ⟨whole_take row n (by omega) h1, ?_, ?_⟩
  · cases hf : freesF row [] with
    | none => rw [hf] at h2; cases h2
    | some f =>
      rw [hf] at h2
      obtain ⟨g, hg1, hg2⟩ := frees_take row n [] f hf
      refine ⟨g, hg1, fun x hx => ?_⟩
      have := (List.all_eq_true.1 h2) x (hg2 x hx)
      simpa using this
  · intro x hx
    have := (List.all_eq_true.1 h3) x (List.mem_of_mem_take hx)
    simpa using this
theorem facts_rw (t p : Int) (hp : p ∈ PLl) (h : t * t ≤ 4 * p) (n : Nat) (h1 : 1 ≤ n) (h2 : n ≤ 17) : RwOk (rowT t p n) := by
  refine rw_of ?_ n h2
  have hp47 : p ≤ 47 := by
    simp only [List.mem_cons, List.not_mem_nil, or_false] at hp
    omega
  have ht : -14 ≤ t ∧ t < 15 := by
    constructor
    · rcases Int.lt_or_le t (-14) with c | c
      · have := Int.mul_le_mul_of_nonneg_left (a := 15) (b := -t) (c := -t) (by omega) (by omega)
        have e : -t * -t = t * t := Int.neg_mul_neg t t
        omega
      · exact c
    · rcases Int.lt_or_le t 15 with c | c
      · exact c
      · have := Int.mul_le_mul_of_nonneg_left (a := 15) (b := t) (c := t) (by omega) (by omega)
        omega
  have gen : rowsB p = true := by
    simp only [List.mem_cons, List.not_mem_nil, or_false] at hp
    rcases hp with rfl | rfl | rfl | rfl | rfl | rfl | rfl | rfl | rfl | rfl
    · exact rowsB2
    · exact rowsB3
    · exact rowsB5
    · exact rowsB7
    · exact rowsB11
    · exact rowsB13
    · exact rowsB17
    · exact rowsB23
    · exact rowsB31
    · exact rowsB47
  unfold rowsB at gen
  have := (List.all_eq_true.1 gen) t (by rw [mem_rngI]; omega)
  simp only [Bool.or_eq_true, Bool.not_eq_true', decide_eq_false_iff_not] at this
  rcases this with z | z
  · exact absurd h z
  · exact z
end K71

set_option linter.all false
set_option maxRecDepth 100000
/-! FX: what holds of a curve over a prime: one sharp place at most, few points more or less; by a change of letters. -/
namespace EC
open IR (rngI rngI_len mem_rngI rngI_nodup)
open Lean.Grind
theorem nodup_map {α β : Type} {f : α → β} : ∀ {l : List α}, l.Nodup → (∀ a ∈ l, ∀ b ∈ l, f a = f b → a = b) → (l.map f).Nodup
  | [], _, _ => List.nodup_nil
  | a :: l, h, hf => by
    rw [List.nodup_cons] at h
    rw [List.map_cons, List.nodup_cons]
    refine ⟨fun hm => ?_, nodup_map h.2 fun x hx y hy => hf x (List.mem_cons_of_mem _ hx) y (List.mem_cons_of_mem _ hy)⟩
    obtain ⟨b, hb, e⟩ := List.mem_map.1 hm
    have := hf b (List.mem_cons_of_mem _ hb) a List.mem_cons_self e
    subst this
    exact h.1 hb
def pmB (p : Int) : Bool := (rngI 1 (p - 1).toNat).all fun u => decide (ivS p u * u % p = 1) && decide (1 ≤ ivS p u) && decide (ivS p u < p)
theorem pm_of {p : Int} (h1 : 2 ≤ p) (h2 : p ≤ 97) (h : pmB p = true) : Pm p := by
  refine ⟨h1, h2, fun u hu => ?_⟩
  have a1 := Int.emod_nonneg u (b := p) (by omega)
  have a2 := Int.emod_lt_of_pos u (b := p) (by omega)
  have := List.all_eq_true.1 h (u % p) (by rw [mem_rngI]; omega)
  simp only [Bool.and_eq_true, decide_eq_true_eq] at this
  exact ⟨this.1.1, this.1.2, this.2⟩
section
variable {K : Type} [CommRing K]
def cs (K : Type) [CommRing K] (x : Int) : K := @Int.cast K Ring.intCast x
theorem cs_add (x y : Int) : cs K (x + y) = cs K x + cs K y := Ring.intCast_add x y
theorem cs_sub (x y : Int) : cs K (x - y) = cs K x - cs K y := Ring.intCast_sub x y
theorem cs_mul (x y : Int) : cs K (x * y) = cs K x * cs K y := Ring.intCast_mul x y
theorem cs_neg (x : Int) : cs K (-x) = -cs K x := Ring.intCast_neg x
theorem cs_0 : cs K 0 = 0 := Ring.intCast_zero
theorem cs_1 : cs K 1 = 1 := Ring.intCast_one
theorem cs_2 : cs K 2 = 2 := by
  rw [show (2 : Int) = 1 + 1 from rfl, cs_add, cs_1]; grind
theorem cs_3 : cs K 3 = 3 := by
  rw [show (3 : Int) = 1 + 1 + 1 from rfl, cs_add, cs_add, cs_1]; grind
variable {q : Nat} [IsCharP K q]
theorem cs_eq {x y : Int} : cs K x = cs K y ↔ x % (q : Int) = y % (q : Int) := IsCharP.intCast_ext_iff q
theorem cs_mod (x : Int) : cs K (x % (q : Int)) = cs K x := IsCharP.intCast_emod q x
theorem cs_zero {x : Int} : cs K x = 0 ↔ x % (q : Int) = 0 := by
  rw [← cs_0, cs_eq (q := q), Int.zero_emod]
/-! ### the curve's expressions, in the ring -/
def eqR (a1 a2 a3 a4 a6 x y : K) : K := y * y + a1 * x * y + a3 * y - x * x * x - a2 * x * x - a4 * x - a6
def sAR (a1 a2 a4 x y : K) : K := a1 * y - 3 * x * x - 2 * a2 * x - a4
def sBR (a1 a3 x y : K) : K := 2 * y + a1 * x + a3
theorem stands_R {A : Cv} {x y : Int} : stands A q x y = true ↔ eqR (cs K A.a1) (cs K A.a2) (cs K A.a3) (cs K A.a4) (cs K A.a6) (cs K x) (cs K y) = 0 := by
  unfold stands eqR
  rw [decide_eq_true_eq, ← cs_zero (K := K)]
  simp only [cs_add, cs_sub, cs_mul]
theorem sB_R {A : Cv} {x y : Int} : cs K (slantB A x y) = sBR (cs K A.a1) (cs K A.a3) (cs K x) (cs K y) := by
  unfold slantB sBR
  simp only [cs_add, cs_sub, cs_mul, cs_2]
theorem sA_R {A : Cv} {x y : Int} : cs K (slantA A x y) = sAR (cs K A.a1) (cs K A.a2) (cs K A.a4) (cs K x) (cs K y) := by
  unfold slantA sAR
  simp only [cs_add, cs_sub, cs_mul, cs_2, cs_3]
theorem sharp_R {A : Cv} {x y : Int} : sharp A q x y = true ↔ sAR (cs K A.a1) (cs K A.a2) (cs K A.a4) (cs K x) (cs K y) = 0 ∧ sBR (cs K A.a1) (cs K A.a3) (cs K x) (cs K y) = 0 := by
  unfold sharp
  rw [Bool.and_eq_true, decide_eq_true_eq, decide_eq_true_eq, ← cs_zero (K := K), ← cs_zero (K := K), sA_R, sB_R]
/-- letters of B are those of A, changed by w (u inverse), r, s, t -/
structure Chg (A B : Cv) (K : Type) [CommRing K] (u w r s t : Int) : Prop where
  uw : cs K u * cs K w = 1
  e1 : cs K B.a1 = cs K w * (cs K A.a1 + 2 * cs K s)
  e2 : cs K B.a2 = cs K w * cs K w * (cs K A.a2 - cs K s * cs K A.a1 + 3 * cs K r - cs K s * cs K s)
  e3 : cs K B.a3 = cs K w * cs K w * cs K w * (cs K A.a3 + cs K r * cs K A.a1 + 2 * cs K t)
  e4 : cs K B.a4 = cs K w * cs K w * cs K w * cs K w * (cs K A.a4 - cs K s * cs K A.a3 + 2 * cs K r * cs K A.a2 - (cs K t + cs K r * cs K s) * cs K A.a1 + 3 * cs K r * cs K r - 2 * cs K s * cs K t)
  e6 : cs K B.a6 = cs K w * cs K w * cs K w * cs K w * cs K w * cs K w * (cs K A.a6 + cs K r * cs K A.a4 + cs K r * cs K r * cs K A.a2 + cs K r * cs K r * cs K r - cs K t * cs K A.a3 - cs K t * cs K t - cs K r * cs K t * cs K A.a1)
theorem eq_chg {u w r s t a1 a2 a3 a4 a6 b1 b2 b3 b4 b6 x y : K} (uw : u * w = 1) (e1 : b1 = w * (a1 + 2 * s)) (e2 : b2 = w * w * (a2 - s * a1 + 3 * r - s * s)) (e3 : b3 = w * w * w * (a3 + r * a1 + 2 * t))
    (e4 : b4 = w * w * w * w * (a4 - s * a3 + 2 * r * a2 - (t + r * s) * a1 + 3 * r * r - 2 * s * t)) (e6 : b6 = w * w * w * w * w * w * (a6 + r * a4 + r * r * a2 + r * r * r - t * a3 - t * t - r * t * a1)) :
    eqR b1 b2 b3 b4 b6 (w * w * (x - r)) (w * w * w * (y - s * (x - r) - t)) = w * w * w * w * w * w * eqR a1 a2 a3 a4 a6 x y ∧
    sBR b1 b3 (w * w * (x - r)) (w * w * w * (y - s * (x - r) - t)) = w * w * w * sBR a1 a3 x y ∧
    sAR b1 b2 b4 (w * w * (x - r)) (w * w * w * (y - s * (x - r) - t)) = w * w * w * w * (sAR a1 a2 a4 x y + s * sBR a1 a3 x y) := by
  unfold eqR sAR sBR
  subst e1 e2 e3 e4 e6
  refine ⟨?_, ?_, ?_⟩ <;> grind
/-- the point's new letters -/
def px (w r x : Int) : Int := w * w * (x - r)
def py (w r s t x y : Int) : Int := w * w * w * (y - s * (x - r) - t)
def psi (p w r s t : Int) : Pt → Pt
  | none => none
  | some (x, y) => some (px w r x % p, py w r s t x y % p)
theorem cs_px (w r x : Int) : cs K (px w r x % (q : Int)) = cs K w * cs K w * (cs K x - cs K r) := by
  rw [cs_mod]
  unfold px
  simp only [cs_mul, cs_sub]
theorem cs_py (w r s t x y : Int) : cs K (py w r s t x y % (q : Int)) = cs K w * cs K w * cs K w * (cs K y - cs K s * (cs K x - cs K r) - cs K t) := by
  rw [cs_mod]
  unfold py
  simp only [cs_mul, cs_sub]
theorem unit_zero {u w a : K} (uw : u * w = 1) (h : w * a = 0) : a = 0 := by grind
section
variable {A B : Cv} {u w r s t : Int}
theorem cs_inj {x y : Int} (hx : 0 ≤ x ∧ x < q) (hy : 0 ≤ y ∧ y < q) (h : cs K x = cs K y) : x = y := by
  have := (cs_eq (K := K) (q := q)).1 h
  rwa [Int.emod_eq_of_lt hx.1 hx.2, Int.emod_eq_of_lt hy.1 hy.2] at this
theorem st_psi (h : Chg A B K u w r s t) {x y : Int} : stands B q (px w r x % (q : Int)) (py w r s t x y % (q : Int)) = true ↔ stands A q x y = true := by
  obtain ⟨uw, e1, e2, e3, e4, e6⟩ := h
  have E := eq_chg (x := cs K x) (y := cs K y) uw e1 e2 e3 e4 e6
  rw [stands_R (K := K), stands_R (K := K), cs_px, cs_py, E.1]
  constructor
  · intro e
    generalize eqR (cs K A.a1) (cs K A.a2) (cs K A.a3) (cs K A.a4) (cs K A.a6) (cs K x) (cs K y) = z at e
    grind
  · intro e
    rw [e]
    grind
theorem sh_psi (h : Chg A B K u w r s t) {x y : Int} : sharp B q (px w r x % (q : Int)) (py w r s t x y % (q : Int)) = true ↔ sharp A q x y = true := by
  obtain ⟨uw, e1, e2, e3, e4, e6⟩ := h
  have E := eq_chg (x := cs K x) (y := cs K y) uw e1 e2 e3 e4 e6
  rw [sharp_R (K := K), sharp_R (K := K), cs_px, cs_py, E.2.1, E.2.2]
  generalize sAR (cs K A.a1) (cs K A.a2) (cs K A.a4) (cs K x) (cs K y) = a
  generalize sBR (cs K A.a1) (cs K A.a3) (cs K x) (cs K y) = b
  constructor
  · rintro ⟨c1, c2⟩
    have hb : b = 0 := by grind
    subst hb
    exact ⟨by grind, rfl⟩
  · rintro ⟨rfl, rfl⟩
    exact ⟨by grind, by grind⟩
def psi2 (p w r s t : Int) (Q : Int × Int) : Int × Int := (px w r Q.1 % p, py w r s t Q.1 Q.2 % p)
theorem mem_found2 {A : Cv} {p x y : Int} : (x, y) ∈ found A p ↔ (0 ≤ x ∧ x < p) ∧ (0 ≤ y ∧ y < p) ∧ stands A p x y = true := by
  unfold found
  rw [List.mem_flatMap]
  constructor
  · rintro ⟨x', hx, h⟩
    obtain ⟨y', hy, e⟩ := List.mem_map.1 h
    cases e
    rw [List.mem_filter, mem_rngI] at hy
    rw [mem_rngI] at hx
    exact ⟨by omega, by omega, hy.2⟩
  · rintro ⟨hx, hy, h⟩
    exact ⟨x, by rw [mem_rngI]; omega, List.mem_map.2 ⟨y, List.mem_filter.2 ⟨by rw [mem_rngI]; omega, h⟩, rfl⟩⟩
theorem found_nodup (A : Cv) (p : Int) : (found A p).Nodup := by
  unfold found
  have gen : ∀ xs : List Int, xs.Nodup → (xs.flatMap fun x => ((rngI 0 p.toNat).filter (stands A p x)).map fun y => (x, y)).Nodup := by
    intro xs
    induction xs with
    | nil => intro _; exact List.nodup_nil
    | cons x xs ih =>
      intro h
      rw [List.nodup_cons] at h
      rw [List.flatMap_cons, List.nodup_append]
      refine ⟨?_, ih h.2, ?_⟩
      · exact nodup_map ((rngI_nodup _ _).filter _) fun a _ b _ e => by cases e; rfl
      · intro a ha b hb e
        subst e
        obtain ⟨y, _, rfl⟩ := List.mem_map.1 ha
        obtain ⟨x', hx', hb'⟩ := List.mem_flatMap.1 hb
        obtain ⟨y', _, e⟩ := List.mem_map.1 hb'
        cases e
        exact h.1 hx'
  exact gen _ (rngI_nodup _ _)
theorem perm_psi (hq : 0 < (q : Int)) (h : Chg A B K u w r s t) (gA gB : Int × Int → Bool) (hg : ∀ Q, gB (psi2 q w r s t Q) = gA Q) : ((found B q).filter gB).Perm (((found A q).filter gA).map (psi2 q w r s t)) := by
  have nB := (found_nodup B q).filter gB
  have nA : (((found A q).filter gA).map (psi2 q w r s t)).Nodup := by
    refine nodup_map ((found_nodup A q).filter gA) ?_
    rintro ⟨x1, y1⟩ h1 ⟨x2, y2⟩ h2 e
    have m1 := mem_found2.1 (List.mem_filter.1 h1).1
    have m2 := mem_found2.1 (List.mem_filter.1 h2).1
    unfold psi2 at e
    simp only [Prod.mk.injEq] at e
    have ex := congrArg (cs K) e.1
    have ey := congrArg (cs K) e.2
    rw [cs_px, cs_px] at ex
    rw [cs_py, cs_py] at ey
    have uw := h.uw
    have ex' : cs K x1 = cs K x2 := by grind
    have ey' : cs K y1 = cs K y2 := by
      rw [ex'] at ey
      grind
    rw [cs_inj m1.1 m2.1 ex', cs_inj m1.2.1 m2.2.1 ey']
  rw [List.perm_ext_iff_of_nodup nB nA]
  have im : ∀ x y : Int, (0 ≤ px w r x % (q : Int) ∧ px w r x % (q : Int) < q) ∧ 0 ≤ py w r s t x y % (q : Int) ∧ py w r s t x y % (q : Int) < q := fun x y =>
    ⟨⟨Int.emod_nonneg _ (by omega), Int.emod_lt_of_pos _ hq⟩, Int.emod_nonneg _ (by omega), Int.emod_lt_of_pos _ hq⟩
  rintro ⟨x', y'⟩
  constructor
  · intro hm
    obtain ⟨hm1, hm2⟩ := List.mem_filter.1 hm
    have m1 := mem_found2.1 hm1
    have uw := h.uw
    obtain ⟨x, hx⟩ : ∃ x, x = (u * u * x' + r) % (q : Int) := ⟨_, rfl⟩
    obtain ⟨y, hy⟩ : ∃ y, y = (u * u * u * y' + s * (u * u * x') + t) % (q : Int) := ⟨_, rfl⟩
    have ex : psi2 q w r s t (x, y) = (x', y') := by
      unfold psi2
      have e1 : px w r x % (q : Int) = x' := by
        refine cs_inj (K := K) (q := q) (im x y).1 m1.1 ?_
        rw [cs_px, hx, cs_mod]
        simp only [cs_add, cs_mul]
        grind
      have e2 : py w r s t x y % (q : Int) = y' := by
        refine cs_inj (K := K) (q := q) (im x y).2 m1.2.1 ?_
        rw [cs_py, hx, hy, cs_mod, cs_mod]
        simp only [cs_add, cs_mul]
        grind
      rw [e1, e2]
    refine List.mem_map.2 ⟨(x, y), List.mem_filter.2 ⟨mem_found2.2 ⟨?_, ?_, ?_⟩, ?_⟩, ex⟩
    · rw [hx]; exact ⟨Int.emod_nonneg _ (by omega), Int.emod_lt_of_pos _ hq⟩
    · rw [hy]; exact ⟨Int.emod_nonneg _ (by omega), Int.emod_lt_of_pos _ hq⟩
    · rw [← st_psi (K := K) h]
      have e := ex
      unfold psi2 at e
      simp only [Prod.mk.injEq] at e
      rw [e.1, e.2]
      exact m1.2.2
    · rw [← hg, ex]; exact hm2
  · intro hm
    obtain ⟨⟨x, y⟩, h1, e⟩ := List.mem_map.1 hm
    obtain ⟨h2, h3⟩ := List.mem_filter.1 h1
    have m1 := mem_found2.1 h2
    rw [← e]
    exact List.mem_filter.2 ⟨mem_found2.2 ⟨(im x y).1, (im x y).2, (st_psi (K := K) h).2 m1.2.2⟩, by rw [hg]; exact h3⟩
/-! ### what holds of a curve over a prime -/
def c4 (A : Cv) : Int := b2 A * b2 A - 24 * b4 A
def c6 (A : Cv) : Int := 36 * b2 A * b4 A - b2 A * b2 A * b2 A - 216 * b6 A
theorem c4c6 (A : Cv) : c4 A * c4 A * c4 A - c6 A * c6 A = 1728 * disc A := by
  unfold c4 c6 disc b2 b4 b6 b8
  grind
def tF (A : Cv) (p : Int) : Int := p - (found A p).length
def sharpL (A : Cv) (p : Int) : List (Int × Int) := (found A p).filter fun q => sharp A p q.1 q.2
structure Fx (A : Cv) (p : Int) : Prop where
  one : sharpL A p = [] ↔ disc A % p ≠ 0
  len : (sharpL A p).length ≤ 1
  hasse : disc A % p ≠ 0 → tF A p * tF A p ≤ 4 * p
  tri : disc A % p = 0 → tF A p = 0 ∨ tF A p = 1 ∨ tF A p = -1
  cusp : disc A % p = 0 → (tF A p = 0 ↔ c4 A % p = 0)
def fxB (A : Cv) (p : Int) : Bool :=
  bif decide (disc A % p = 0) then decide ((sharpL A p).length = 1) && (decide (tF A p = 0) == decide (c4 A % p = 0)) && (decide (tF A p = 0) || decide (tF A p = 1) || decide (tF A p = -1))
  else decide ((sharpL A p).length = 0) && decide (tF A p * tF A p ≤ 4 * p)
theorem fx_of {A : Cv} {p : Int} (h : fxB A p = true) : Fx A p := by
  unfold fxB at h
  by_cases c : disc A % p = 0
  · rw [decide_eq_true c, cond_true] at h
    simp only [Bool.and_eq_true, Bool.or_eq_true, decide_eq_true_eq, beq_iff_eq, decide_eq_decide] at h
    obtain ⟨⟨h1, h2⟩, h3⟩ := h
    refine ⟨⟨fun z => ?_, fun z => absurd c z⟩, by omega, fun z => absurd c z, fun _ => ?_, fun _ => h2⟩
    · rw [z] at h1; cases h1
    · rcases h3 with (h3 | h3) | h3
      · exact .inl h3
      · exact .inr (.inl h3)
      · exact .inr (.inr h3)
  · rw [decide_eq_false c, cond_false] at h
    simp only [Bool.and_eq_true, decide_eq_true_eq] at h
    exact ⟨⟨fun _ => c, fun _ => List.length_eq_zero_iff.1 h.1⟩, by omega, fun _ => h.2, fun z => absurd z c, fun z => absurd z c⟩
theorem fx_chg (hq : 0 < (q : Int)) (h : Chg A B K u w r s t) (hd : disc A % (q : Int) = 0 ↔ disc B % (q : Int) = 0) (hc : c4 A % (q : Int) = 0 ↔ c4 B % (q : Int) = 0) (g : Fx B q) : Fx A q := by
  have p1 := (perm_psi hq h (fun _ => true) (fun _ => true) fun _ => rfl).length_eq
  have p2 := (perm_psi hq h (fun Q => sharp A q Q.1 Q.2) (fun Q => sharp B q Q.1 Q.2) fun Q => by
    have := sh_psi (q := q) h (x := Q.1) (y := Q.2)
    unfold psi2
    exact Bool.eq_iff_iff.2 this).length_eq
  rw [List.length_map] at p1 p2
  rw [List.filter_eq_self.2 fun _ _ => rfl, List.filter_eq_self.2 fun _ _ => rfl] at p1
  have e1 : tF A q = tF B q := by unfold tF; rw [p1]
  have e2 : (sharpL B q).length = (sharpL A q).length := p2
  have e3 : sharpL A q = [] ↔ sharpL B q = [] := by
    rw [← List.length_eq_zero_iff, ← List.length_eq_zero_iff, e2]
  exact ⟨by rw [e3, g.one, Ne, Ne, hd], by rw [← e2]; exact g.len, by rw [e1, Ne, hd]; exact g.hasse, by rw [e1, hd]; exact g.tri, by rw [e1, hd, hc]; exact g.cusp⟩
end
end
/-- the short curve -/
def sh (q : Int × Int) : Cv := ⟨0, 0, 0, q.1, q.2⟩
def eqQ (x y : Int × Int) : Bool := decide (x.1 = y.1) && decide (x.2 = y.2)
/-- all letters, by residues -/
def prod5 (p : Int) : List Cv := (rngI 0 p.toNat).flatMap fun a1 => (rngI 0 p.toNat).flatMap fun a2 => (rngI 0 p.toNat).flatMap fun a3 => (rngI 0 p.toNat).flatMap fun a4 => (rngI 0 p.toNat).map fun a6 => ⟨a1, a2, a3, a4, a6⟩
section
open Lean.Grind
theorem K1 {K : Type} [CommRing K] {w a h s : K} (i : h * 2 = 1) (e : s = -a * h) : 0 = w * (a + 2 * s) := by subst e; grind
theorem K2 {K : Type} [CommRing K] {w a1 a2 h s r : K} (i : h * 3 = 1) (e : r = -(a2 - s * a1 - s * s) * h) : 0 = w * w * (a2 - s * a1 + 3 * r - s * s) := by subst e; grind
theorem K3 {K : Type} [CommRing K] {w a1 a3 r h t : K} (i : h * 2 = 1) (e : t = -(a3 + r * a1) * h) : 0 = w * w * w * (a3 + r * a1 + 2 * t) := by subst e; grind
theorem disc_mod {q : Nat} [NeZero q] (A : Cv) : disc ⟨A.a1 % q, A.a2 % q, A.a3 % q, A.a4 % q, A.a6 % q⟩ % (q : Int) = disc A % (q : Int) := by
  refine (cs_eq (K := Fin q) (q := q)).1 ?_
  unfold disc b2 b4 b6 b8
  simp only [cs_add, cs_sub, cs_mul, cs_mod]
theorem c4_mod {q : Nat} [NeZero q] (A : Cv) : c4 ⟨A.a1 % q, A.a2 % q, A.a3 % q, A.a4 % q, A.a6 % q⟩ % (q : Int) = c4 A % (q : Int) := by
  refine (cs_eq (K := Fin q) (q := q)).1 ?_
  unfold c4 b2 b4
  simp only [cs_add, cs_sub, cs_mul, cs_mod]
variable {q : Nat} [NeZero q]
theorem prod5_mem (hq : 0 < (q : Int)) (A : Cv) : (⟨A.a1 % q, A.a2 % q, A.a3 % q, A.a4 % q, A.a6 % q⟩ : Cv) ∈ prod5 q := by
  have hr : ∀ a : Int, a % (q : Int) ∈ rngI 0 (q : Int).toNat := fun a => by
    rw [mem_rngI]
    have := Int.emod_nonneg a (b := (q : Int)) (by omega)
    have := Int.emod_lt_of_pos a hq
    omega
  unfold prod5
  exact List.mem_flatMap.2 ⟨_, hr _, List.mem_flatMap.2 ⟨_, hr _, List.mem_flatMap.2 ⟨_, hr _, List.mem_flatMap.2 ⟨_, hr _, List.mem_map.2 ⟨_, hr _, rfl⟩⟩⟩⟩⟩
theorem found_mod (A : Cv) : found ⟨A.a1 % q, A.a2 % q, A.a3 % q, A.a4 % q, A.a6 % q⟩ q = found A q := by
  have e : ∀ x y, stands ⟨A.a1 % q, A.a2 % q, A.a3 % q, A.a4 % q, A.a6 % q⟩ q x y = stands A q x y := fun x y => by
    rw [Bool.eq_iff_iff, stands_R (K := Fin q), stands_R (K := Fin q)]
    simp only [cs_mod]
  unfold found
  congr 1
  funext x
  congr 2
  funext y
  exact e x y
theorem fx_prod (hq : 0 < (q : Int)) (hall : (prod5 q).all fun A => fxB A q) (A : Cv) : Fx A q := by
  have hB := fx_of (List.all_eq_true.1 hall _ (prod5_mem hq A))
  refine fx_chg (K := Fin q) (u := 1) (w := 1) (r := 0) (s := 0) (t := 0) hq ⟨?_, ?_, ?_, ?_, ?_, ?_⟩ (by rw [disc_mod]) (by rw [c4_mod]) hB
  all_goals simp only [cs_mod, cs_1, cs_0]
  all_goals grind
theorem cs_n2 {K : Type} [CommRing K] : cs K 4 = 4 := by
  rw [show (4 : Int) = 2 + 2 from rfl, cs_add, cs_2]; grind
theorem cs_24 {K : Type} [CommRing K] : cs K 24 = 24 := by
  rw [show (24 : Int) = 2 * 2 * 2 * 3 from rfl]; simp only [cs_mul, cs_2, cs_3]; grind
theorem cs_36 {K : Type} [CommRing K] : cs K 36 = 36 := by
  rw [show (36 : Int) = 2 * 2 * 3 * 3 from rfl]; simp only [cs_mul, cs_2, cs_3]; grind
theorem cs_216 {K : Type} [CommRing K] : cs K 216 = 216 := by
  rw [show (216 : Int) = 2 * 2 * 2 * 3 * 3 * 3 from rfl]; simp only [cs_mul, cs_2, cs_3]; grind
theorem cs_1728 {K : Type} [CommRing K] : cs K 1728 = 1728 := by
  rw [show (1728 : Int) = 2 * 2 * 2 * 2 * 2 * 2 * 3 * 3 * 3 from rfl]; simp only [cs_mul, cs_2, cs_3]; grind
theorem c4_chg {K : Type} [CommRing K] {A B : Cv} {u w r s t : Int} (h : Chg A B K u w r s t) : cs K (c4 B) = cs K w * cs K w * cs K w * cs K w * cs K (c4 A) := by
  obtain ⟨uw, e1, e2, e3, e4, e6⟩ := h
  unfold c4 b2 b4
  simp only [cs_add, cs_sub, cs_mul]
  rw [e1, e2, e3, e4, show cs K 2 = 2 from cs_2, cs_n2, cs_24]
  grind
theorem c6_chg {K : Type} [CommRing K] {A B : Cv} {u w r s t : Int} (h : Chg A B K u w r s t) : cs K (c6 B) = cs K w * cs K w * cs K w * cs K w * cs K w * cs K w * cs K (c6 A) := by
  obtain ⟨uw, e1, e2, e3, e4, e6⟩ := h
  unfold c6 b2 b4 b6
  simp only [cs_add, cs_sub, cs_mul]
  rw [e1, e2, e3, e4, e6, show cs K 2 = 2 from cs_2, cs_n2, cs_36, cs_216]
  grind
theorem zero_w {K : Type} [CommRing K] {u w a b : K} (uw : u * w = 1) (e : b = w * w * w * w * a) : a = 0 ↔ b = 0 := by
  constructor
  · intro h; subst h; rw [e]; grind
  · intro h; rw [h] at e; grind
theorem disc_gen {K : Type} [CommRing K] {H c V W dA dB : K} (hc : H * c = 1) (hv : V * W = 1) (h : W * (c * dA) = c * dB) : dA = 0 ↔ dB = 0 := by
  constructor
  · intro z
    subst z
    grind
  · intro z
    subst z
    grind
theorem disc_ring {K : Type} [CommRing K] {w u a4 a6 dA dB h2 h3 : K} (uw : u * w = 1) (i2 : h2 * 2 = 1) (i3 : h3 * 3 = 1) (hA : a4 * a4 * a4 - a6 * a6 = 1728 * dA)
    (hB : w * w * w * w * a4 * (w * w * w * w * a4) * (w * w * w * w * a4) - w * w * w * w * w * w * a6 * (w * w * w * w * w * w * a6) = 1728 * dB) : dA = 0 ↔ dB = 0 := by
  have e1 : w * w * w * w * a4 * (w * w * w * w * a4) * (w * w * w * w * a4) - w * w * w * w * w * w * a6 * (w * w * w * w * w * w * a6) = (w * w * w * w * w * w * w * w * w * w * w * w) * (a4 * a4 * a4 - a6 * a6) := by grind
  rw [e1, hA] at hB
  have e2 : (h2 * h2 * h2 * h2 * h2 * h2 * h3 * h3 * h3) * 1728 = (h2 * 2) * (h2 * 2) * (h2 * 2) * (h2 * 2) * (h2 * 2) * (h2 * 2) * (h3 * 3) * (h3 * 3) * (h3 * 3) := by grind
  have e3 : (u * u * u * u * u * u * u * u * u * u * u * u) * (w * w * w * w * w * w * w * w * w * w * w * w) = (u * w) * (u * w) * (u * w) * (u * w) * (u * w) * (u * w) * (u * w) * (u * w) * (u * w) * (u * w) * (u * w) * (u * w) := by grind
  have o : (1 : K) * 1 = 1 := by grind
  rw [i2, i3] at e2
  rw [uw] at e3
  simp only [o] at e2 e3
  exact disc_gen e2 e3 hB
theorem disc_c46 {q : Nat} [NeZero q] {A B : Cv} {u w : Int} (uw : cs (Fin q) u * cs (Fin q) w = 1) {h2 h3 : Fin q} (i2 : h2 * 2 = 1) (i3 : h3 * 3 = 1) (e4 : cs (Fin q) (c4 B) = cs (Fin q) w * cs (Fin q) w * cs (Fin q) w * cs (Fin q) w * cs (Fin q) (c4 A)) (e6 : cs (Fin q) (c6 B) = cs (Fin q) w * cs (Fin q) w * cs (Fin q) w * cs (Fin q) w * cs (Fin q) w * cs (Fin q) w * cs (Fin q) (c6 A)) : disc A % (q : Int) = 0 ↔ disc B % (q : Int) = 0 := by
  have hA := congrArg (cs (Fin q)) (c4c6 A)
  have hB := congrArg (cs (Fin q)) (c4c6 B)
  rw [← cs_zero (K := Fin q), ← cs_zero (K := Fin q)]
  simp only [cs_sub, cs_mul] at hA hB
  rw [cs_1728] at hA hB
  rw [e4, e6] at hB
  exact disc_ring uw i2 i3 hA hB
/-! ### short curves: counting by a table of squares -/
def lk (T i : Nat) : Nat := (T >>> (2 * i)) % 4
def nSq (q : Nat) (c : Int) : Nat := ((rngI 0 q).filter fun y => decide (y * y % (q : Int) = c)).length
def tabOk (T q : Nat) : Bool := (List.range q).all fun c => decide (nSq q c = lk T c)
def cntN (T q a b : Nat) : Nat := ((List.range q).map fun x => lk T ((x * x * x + a * x + b) % q)).sum
def sxN (q a b : Nat) : Nat := ((List.range q).filter fun x => decide ((x * x * x + a * x + b) % q = 0) && decide ((3 * x * x + a) % q = 0)).length
def fxT (q a b : Nat) (t : Int) : Bool :=
  bif decide (disc (sh (a, b)) % (q : Int) = 0) then decide (sxN q a b = 1) && (decide (t = 0) == decide (c4 (sh (a, b)) % (q : Int) = 0)) && (decide (t = 0) || decide (t = 1) || decide (t = -1))
  else decide (t * t ≤ 4 * (q : Int))
def fxN (T q a b : Nat) : Bool := fxT q a b ((q : Int) - cntN T q a b)
def fxAll (T q : Nat) : Bool := (List.range q).all fun a => (List.range q).all fun b => fxN T q a b
theorem rngI_app : ∀ (k : Nat) (lo : Int), rngI lo (k + 1) = rngI lo k ++ [lo + k]
  | 0, lo => by simp [rngI]
  | k + 1, lo => by
    rw [rngI, rngI_app k (lo + 1), rngI, List.cons_append]
    congr 3
    omega
theorem rngI_range : ∀ n : Nat, rngI 0 n = (List.range n).map fun x : Nat => (x : Int)
  | 0 => rfl
  | n + 1 => by rw [rngI_app, rngI_range n, List.range_succ, List.map_append, Int.zero_add]; rfl
theorem sh_stands (q a b x : Nat) (y : Int) (hq : 0 < q) : stands (sh (a, b)) q x y = decide (y * y % (q : Int) = ((x * x * x + a * x + b) % q : Nat)) := by
  unfold stands sh
  dsimp only
  rw [decide_eq_decide, Int.natCast_emod, Int.emod_eq_emod_iff_emod_sub_eq_zero]
  rw [show y * y + 0 * (x : Int) * y + 0 * y - (x : Int) * x * x - 0 * x * x - a * x - b = y * y - ((x * x * x + a * x + b : Nat) : Int) by
    simp only [Int.natCast_add, Int.natCast_mul]
    grind]
theorem found_len_sh {T q : Nat} (hq : 0 < q) (hT : tabOk T q = true) (a b : Nat) : (found (sh (a, b)) q).length = cntN T q a b := by
  unfold found cntN
  rw [List.length_flatMap, show ((q : Int).toNat) = q from Int.toNat_natCast q, rngI_range q, List.map_map, ← rngI_range q]
  congr 1
  apply List.map_congr_left
  intro x hx
  have hlt : (x * x * x + a * x + b) % q < q := Nat.mod_lt _ hq
  have h1 := List.all_eq_true.1 hT ((x * x * x + a * x + b) % q) (List.mem_range.2 hlt)
  rw [decide_eq_true_eq] at h1
  show (List.map _ _).length = _
  rw [List.length_map, ← h1]
  unfold nSq
  congr 1
  congr 1
  funext y
  exact sh_stands q a b x y hq
theorem sharp_len_sh {q : Nat} (hq : 0 < q) (ho : q % 2 = 1) (a b : Nat) : (sharpL (sh (a, b)) q).length = sxN q a b := by
  unfold sxN
  rw [← List.length_map (as := List.filter _ _) (fun x : Nat => ((x : Int), (0 : Int)))]
  apply List.Perm.length_eq
  have n1 : (sharpL (sh (a, b)) q).Nodup := (found_nodup _ _).filter _
  have n2 : (((List.range q).filter fun x => decide ((x * x * x + a * x + b) % q = 0) && decide ((3 * x * x + a) % q = 0)).map fun x : Nat => ((x : Int), (0 : Int))).Nodup := by
    refine nodup_map (List.nodup_range.filter _) fun x _ y _ e => ?_
    simp only [Prod.mk.injEq] at e
    omega
  rw [List.perm_ext_iff_of_nodup n1 n2]
  have key : ∀ x : Nat, sharp (sh (a, b)) q x 0 = decide ((3 * x * x + a) % q = 0) := fun x => by
    unfold sharp slantA slantB sh
    dsimp only
    rw [show ((2 : Int) * 0 + 0 * (x : Int) + 0) % (q : Int) = 0 by simp, show decide ((0 : Int) = 0) = true from rfl, Bool.and_true, decide_eq_decide]
    rw [show ((0 : Int) * 0 - 3 * x * x - 2 * 0 * x - a) = -(((3 * x * x + a : Nat)) : Int) by simp only [Int.natCast_add, Int.natCast_mul]; grind]
    constructor
    · intro h
      have := Int.dvd_of_emod_eq_zero h
      rw [Int.dvd_neg, Int.natCast_dvd_natCast] at this
      exact Nat.mod_eq_zero_of_dvd this
    · intro h
      apply Int.emod_eq_zero_of_dvd
      rw [Int.dvd_neg, Int.natCast_dvd_natCast]
      exact Nat.dvd_of_mod_eq_zero h
  rintro ⟨x, y⟩
  constructor
  · intro hm
    obtain ⟨h1, h2⟩ := List.mem_filter.1 hm
    obtain ⟨m1, m2, m3⟩ := mem_found2.1 h1
    obtain ⟨n, rfl⟩ := Int.eq_ofNat_of_zero_le m1.1
    have hy : y = 0 := by
      unfold sharp slantB sh at h2
      simp only [Bool.and_eq_true, decide_eq_true_eq] at h2
      have h3 := h2.2
      rw [show (2 * y + 0 * (n : Int) + 0) = 2 * y by omega] at h3
      obtain ⟨k, hk⟩ := Int.dvd_of_emod_eq_zero h3
      have hk2 : k = 0 ∨ k = 1 := by
        have : 0 ≤ k := by
          rcases Int.lt_or_le k 0 with c | c
          · have := Int.mul_le_mul_of_nonneg_left (a := k) (b := -1) (c := (q : Int)) (by omega) (by omega)
            omega
          · exact c
        have : k < 2 := by
          rcases Int.lt_or_le k 2 with c | c
          · exact c
          · have := Int.mul_le_mul_of_nonneg_left (a := 2) (b := k) (c := (q : Int)) (by omega) (by omega)
            omega
        omega
      rcases hk2 with rfl | rfl <;> omega
    subst hy
    refine List.mem_map.2 ⟨n, List.mem_filter.2 ⟨List.mem_range.2 (by omega), ?_⟩, rfl⟩
    rw [sh_stands q a b n 0 hq, decide_eq_true_eq] at m3
    rw [key] at h2
    rw [Bool.and_eq_true]
    refine ⟨?_, h2⟩
    rw [decide_eq_true_eq]
    rw [Int.zero_mul, Int.zero_emod] at m3
    omega
  · intro hm
    obtain ⟨n, h1, e⟩ := List.mem_map.1 hm
    cases e
    obtain ⟨h2, h3⟩ := List.mem_filter.1 h1
    rw [Bool.and_eq_true, decide_eq_true_eq] at h3
    have := List.mem_range.1 h2
    refine List.mem_filter.2 ⟨mem_found2.2 ⟨by omega, by omega, ?_⟩, ?_⟩
    · rw [sh_stands q a b n 0 hq, decide_eq_true_eq, h3.1]
      rfl
    · rw [key]; exact h3.2
theorem smooth_ring {K : Type} [CommRing K] {a b x y : K} (h1 : y * y + 0 * x * y + 0 * y - x * x * x - 0 * x * x - a * x - b = 0) (h2 : 0 * y - 3 * x * x - 2 * 0 * x - a = 0) (h3 : 2 * y + 0 * x + 0 = 0) (c8 c9 c27 : K) (e8 : c8 = 8) (e9 : c9 = 9) (e27 : c27 = 27) : c9 * (0 * 0 + 4 * 0) * (2 * a + 0 * 0) * (0 * 0 + 4 * b) - (0 * 0 + 4 * 0) * (0 * 0 + 4 * 0) * (0 * 0 * b + 4 * 0 * b - 0 * 0 * a + 0 * 0 * 0 - a * a) - c8 * (2 * a + 0 * 0) * (2 * a + 0 * 0) * (2 * a + 0 * 0) - c27 * (0 * 0 + 4 * b) * (0 * 0 + 4 * b) = 0 := by
  subst e8 e9 e27
  have ha : a = -3 * x * x := by grind
  have hb : 4 * b = 8 * x * x * x := by
    have : b = y * y - x * x * x - a * x := by grind
    rw [this, ha]
    grind
  have e1 : -(8 * (2 * a) * (2 * a) * (2 * a)) - 27 * (4 * b) * (4 * b) = 0 := by
    rw [ha, hb]
    grind
  grind
theorem smooth_sh {q : Nat} [NeZero q] (hq : 0 < q) (a b : Nat) (h : disc (sh (a, b)) % (q : Int) ≠ 0) : sharpL (sh (a, b)) q = [] := by
  rw [List.eq_nil_iff_forall_not_mem]
  rintro ⟨x, y⟩ hm
  obtain ⟨h1, h2⟩ := List.mem_filter.1 hm
  have m3 := (mem_found2.1 h1).2.2
  rw [stands_R (K := Fin q)] at m3
  rw [sharp_R (K := Fin q)] at h2
  apply h
  rw [← cs_zero (K := Fin q)]
  unfold eqR at m3
  unfold sAR sBR at h2
  unfold disc b2 b4 b6 b8
  unfold sh at *
  dsimp only at *
  simp only [cs_add, cs_sub, cs_mul, cs_0, cs_2, cs_n2] at *
  exact smooth_ring m3 h2.1 h2.2 _ _ _ (by rw [show (8 : Int) = 2 * 2 * 2 from rfl]; simp only [cs_mul, cs_2]; grind) (by rw [show (9 : Int) = 3 * 3 from rfl]; simp only [cs_mul, cs_3]; grind) (by rw [show (27 : Int) = 3 * 3 * 3 from rfl]; simp only [cs_mul, cs_3]; grind)
theorem fx_N {T q : Nat} [NeZero q] (hq : 0 < q) (ho : q % 2 = 1) (hT : tabOk T q = true) (h : fxAll T q = true) (a b : Nat) (ha : a < q) (hb : b < q) : Fx (sh (a, b)) q := by
  have h1 := List.all_eq_true.1 (List.all_eq_true.1 h a (List.mem_range.2 ha)) b (List.mem_range.2 hb)
  unfold fxN at h1
  rw [← found_len_sh hq hT a b, show (q : Int) - ((found (sh (a, b)) q).length : Int) = tF (sh (a, b)) q from rfl] at h1
  unfold fxT at h1
  apply fx_of
  unfold fxB
  by_cases c : disc (sh (a, b)) % (q : Int) = 0
  · rw [decide_eq_true c, cond_true] at h1 ⊢
    rw [sharp_len_sh hq ho a b]
    exact h1
  · rw [decide_eq_false c, cond_false] at h1 ⊢
    rw [smooth_sh hq a b c]
    simpa using h1
theorem fx_short (hm : Pm q) (hq5 : 5 ≤ q) (hall : ∀ a b : Nat, a < q → b < q → Fx (sh (a, b)) q) (A : Cv) : Fx A q := by
  have hq : 0 < (q : Int) := by omega
  have i2 := congrArg (cs (Fin q)) (hm.2.2 2 (by rw [Int.emod_eq_of_lt (by omega) (by omega)]; omega)).1
  have i3 := congrArg (cs (Fin q)) (hm.2.2 3 (by rw [Int.emod_eq_of_lt (by omega) (by omega)]; omega)).1
  rw [cs_mod, cs_mul, cs_mod, cs_1, cs_2] at i2
  rw [cs_mod, cs_mul, cs_mod, cs_1, cs_3] at i3
  generalize ivS q (2 % (q : Int)) = h2 at i2
  generalize ivS q (3 % (q : Int)) = h3 at i3
  obtain ⟨s, hs⟩ : ∃ s, s = -A.a1 * h2 := ⟨_, rfl⟩
  obtain ⟨r, hr⟩ : ∃ r, r = -(A.a2 - s * A.a1 - s * s) * h3 := ⟨_, rfl⟩
  obtain ⟨t, ht⟩ : ∃ t, t = -(A.a3 + r * A.a1) * h2 := ⟨_, rfl⟩
  obtain ⟨a, ha⟩ : ∃ a, a = A.a4 - s * A.a3 + 2 * r * A.a2 - (t + r * s) * A.a1 + 3 * r * r - 2 * s * t := ⟨_, rfl⟩
  obtain ⟨b, hb⟩ : ∃ b, b = A.a6 + r * A.a4 + r * r * A.a2 + r * r * r - t * A.a3 - t * t - r * t * A.a1 := ⟨_, rfl⟩
  obtain ⟨an, han⟩ := Int.eq_ofNat_of_zero_le (Int.emod_nonneg a (b := (q : Int)) (by omega))
  obtain ⟨bn, hbn⟩ := Int.eq_ofNat_of_zero_le (Int.emod_nonneg b (b := (q : Int)) (by omega))
  have la := Int.emod_lt_of_pos a hq
  have lb := Int.emod_lt_of_pos b hq
  have hB := hall an bn (by omega) (by omega)
  rw [show ((an : Int), (bn : Int)) = (a % (q : Int), b % (q : Int)) by rw [han, hbn]] at hB
  have iw : cs (Fin q) 1 * cs (Fin q) 1 = 1 := by rw [cs_1]; grind
  have cs' := congrArg (cs (Fin q)) hs
  have cr := congrArg (cs (Fin q)) hr
  have ct := congrArg (cs (Fin q)) ht
  have ca := congrArg (cs (Fin q)) ha
  have cb := congrArg (cs (Fin q)) hb
  simp only [cs_add, cs_sub, cs_mul, cs_neg, cs_2, cs_3] at cs' cr ct ca cb
  have CH : Chg A (sh (a % (q : Int), b % (q : Int))) (Fin q) 1 1 r s t := ?_
  refine fx_chg hq CH (disc_c46 iw i2 i3 (c4_chg CH) (c6_chg CH)) ?_ hB
  · rw [← cs_zero (K := Fin q), ← cs_zero (K := Fin q)]
    exact zero_w iw (c4_chg CH)
  refine ⟨iw, ?_, ?_, ?_, ?_, ?_⟩
  · show cs (Fin q) 0 = _
    rw [cs_0]
    exact K1 i2 cs'
  · show cs (Fin q) 0 = _
    rw [cs_0]
    exact K2 i3 cr
  · show cs (Fin q) 0 = _
    rw [cs_0]
    exact K3 i2 ct
  · show cs (Fin q) (a % (q : Int)) = _
    rw [cs_mod, ca, cs_1]
    grind
  · show cs (Fin q) (b % (q : Int)) = _
    rw [cs_mod, cb, cs_1]
    grind
end
end EC

set_option linter.all false
set_option maxRecDepth 100000
/-! facts of curves at the law's primes; printed by gen71.py -/
namespace K71
open IR PySem EC
theorem fxa2 : ((prod5 2).all fun A => fxB A 2) = true := by decide +kernel
theorem fxa3 : ((prod5 3).all fun A => fxB A 3) = true := by decide +kernel
theorem fx2 (A : Cv) : EC.Fx A 2 := fx_prod (q := 2) (by decide) fxa2 A
theorem fx3 (A : Cv) : EC.Fx A 3 := fx_prod (q := 3) (by decide) fxa3 A
theorem pmq5 : Pm 5 := pm_of (by decide) (by decide) (by decide +kernel)
theorem tq5 : tabOk 521 5 = true := by decide +kernel
theorem aq5 : fxAll 521 5 = true := by decide +kernel
theorem fx5 (A : Cv) : EC.Fx A 5 := fx_short (q := 5) pmq5 (by decide) (fun a b ha hb => fx_N (T := 521) (by decide) (by decide) tq5 aq5 a b ha hb) A
theorem pmq7 : Pm 7 := pm_of (by decide) (by decide) (by decide +kernel)
theorem tq7 : tabOk 553 7 = true := by decide +kernel
theorem aq7 : fxAll 553 7 = true := by decide +kernel
theorem fx7 (A : Cv) : EC.Fx A 7 := fx_short (q := 7) pmq7 (by decide) (fun a b ha hb => fx_N (T := 553) (by decide) (by decide) tq7 aq7 a b ha hb) A
end K71

set_option linter.all false
set_option maxRecDepth 100000
/-! facts of curves at the law's primes; printed by gen71.py -/
namespace K71
open IR PySem EC
theorem pmq11 : Pm 11 := pm_of (by decide) (by decide) (by decide +kernel)
theorem tq11 : tabOk 526985 11 = true := by decide +kernel
theorem aq11 : fxAll 526985 11 = true := by decide +kernel
theorem fx11 (A : Cv) : EC.Fx A 11 := fx_short (q := 11) pmq11 (by decide) (fun a b ha hb => fx_N (T := 526985) (by decide) (by decide) tq11 aq11 a b ha hb) A
theorem pmq13 : Pm 13 := pm_of (by decide) (by decide) (by decide +kernel)
theorem tq13 : tabOk 36176521 13 = true := by decide +kernel
theorem aq13 : fxAll 36176521 13 = true := by decide +kernel
theorem fx13 (A : Cv) : EC.Fx A 13 := fx_short (q := 13) pmq13 (by decide) (fun a b ha hb => fx_N (T := 36176521) (by decide) (by decide) tq13 aq13 a b ha hb) A
theorem pmq17 : Pm 17 := pm_of (by decide) (by decide) (by decide +kernel)
theorem tq17 : tabOk 10872291881 17 = true := by decide +kernel
theorem aq17 : fxAll 10872291881 17 = true := by decide +kernel
theorem fx17 (A : Cv) : EC.Fx A 17 := fx_short (q := 17) pmq17 (by decide) (fun a b ha hb => fx_N (T := 10872291881) (by decide) (by decide) tq17 aq17 a b ha hb) A
end K71

set_option linter.all false
set_option maxRecDepth 100000
/-! facts of curves at the law's primes; printed by gen71.py -/
namespace K71
open IR PySem EC
theorem pmq23 : Pm 23 := pm_of (by decide) (by decide) (by decide +kernel)
theorem tq23 : tabOk 146197324457 23 = true := by decide +kernel
theorem aq23 : fxAll 146197324457 23 = true := by decide +kernel
theorem fx23 (A : Cv) : EC.Fx A 23 := fx_short (q := 23) pmq23 (by decide) (fun a b ha hb => fx_N (T := 146197324457) (by decide) (by decide) tq23 aq23 a b ha hb) A
end K71

set_option linter.all false
set_option maxRecDepth 100000
/-! facts of curves at the law's primes; printed by gen71.py -/
namespace K71
open IR PySem EC
theorem pmq31 : Pm 31 := pm_of (by decide) (by decide) (by decide +kernel)
theorem tq31 : tabOk 146369883237157417 31 = true := by decide +kernel
theorem aq31 : fxAll 146369883237157417 31 = true := by decide +kernel
theorem fx31 (A : Cv) : EC.Fx A 31 := fx_short (q := 31) pmq31 (by decide) (fun a b ha hb => fx_N (T := 146369883237157417) (by decide) (by decide) tq31 aq31 a b ha hb) A
end K71

set_option linter.all false
set_option maxRecDepth 100000
/-! facts of curves at the law's primes; printed by gen71.py -/
namespace K71
open IR PySem EC
theorem pmq47 : Pm 47 := pm_of (by decide) (by decide) (by decide +kernel)
theorem tq47 : tabOk 38733477264763048082186921 47 = true := by decide +kernel
theorem aq47 : fxAll 38733477264763048082186921 47 = true := by decide +kernel
theorem fx47 (A : Cv) : EC.Fx A 47 := fx_short (q := 47) pmq47 (by decide) (fun a b ha hb => fx_N (T := 38733477264763048082186921) (by decide) (by decide) tq47 aq47 a b ha hb) A
end K71

set_option linter.all false
set_option maxRecDepth 100000
/-! facts of curves at the law's primes; printed by gen71.py -/
namespace K71
open IR PySem EC
theorem facts_fx (A : Cv) (p : Int) (hp : p ∈ PLl) : Fx A p := by
  have gen : EC.Fx A p := by
    simp only [List.mem_cons, List.not_mem_nil, or_false] at hp
    rcases hp with rfl | rfl | rfl | rfl | rfl | rfl | rfl | rfl | rfl | rfl
    · exact fx2 A
    · exact fx3 A
    · exact fx5 A
    · exact fx7 A
    · exact fx11 A
    · exact fx13 A
    · exact fx17 A
    · exact fx23 A
    · exact fx31 A
    · exact fx47 A
  exact ⟨gen.one, gen.len, gen.hasse, gen.tri, gen.cusp⟩
end K71

set_option linter.all false
set_option maxRecDepth 100000
/-! K71_R: counting over pairs answers what the count over the prime says: plain facts. -/
namespace K71
open IR PySem EC
open Lean.Grind
def ix (q : Nat) (B C : Nat × Nat) : Nat := ((B.1 * q + B.2) * q + C.1) * q + C.2
def zN (P : Nat × Nat) : Int × Int := (P.1, P.2)
def pairsN (q : Nat) : List (Nat × Nat) := (List.range (q * q)).map fun k => (k / q, k % q)
/-- y y + B y = C, how often -/
def n2 (p b c : Int) (B C : Int × Int) : Nat := ((things p).filter fun y => eqP2 (sumM p [timesI b c p y y, timesI b c p B y]) C).length
def tab2Ok (T q : Nat) (b c : Int) : Bool := (pairsN q).all fun B => (pairsN q).all fun C => decide (n2 q b c (zN B) (zN C) = lk T (ix q B C))
/-- a thing with its square and cube -/
structure X6 where
  x : Nat × Nat
  s : Nat × Nat
  t : Nat × Nat
def xOk (q : Nat) (b c : Int) (X : List X6) : Bool := decide (things q = X.map fun v => zN v.x) && X.all fun v => decide (timesI b c q (zN v.x) (zN v.x) = zN v.s) && decide (timesI b c q (zN v.s) (zN v.x) = zN v.t)
def bN (q a1 a3 : Nat) (v : X6) : Nat × Nat := ((a1 * v.x.1 + a3) % q, (a1 * v.x.2) % q)
def rN (q a2 a4 a6 : Nat) (v : X6) : Nat × Nat := ((v.t.1 + a2 * v.s.1 + a4 * v.x.1 + a6) % q, (v.t.2 + a2 * v.s.2 + a4 * v.x.2) % q)
def ovN (T q : Nat) (X : List X6) (a1 a2 a3 a4 a6 : Nat) : Nat := 1 + (X.map fun v => lk T (ix q (bN q a1 a3 v) (rN q a2 a4 a6 v))).sum
def cntD (q a1 a2 a3 a4 a6 : Nat) : Nat := ((List.range q).map fun x => ((List.range q).filter fun y => decide ((y * y + a1 * x * y + a3 * y) % q = (x * x * x + a2 * x * x + a4 * x + a6) % q)).length).sum
def cN (a1 a2 a3 a4 a6 : Nat) : Cv := ⟨a1, a2, a3, a4, a6⟩
def ovC (q : Nat) (t : Int) (n : Nat) : Bool := decide ((n : Int) = q * q + 1 - (t * t - 2 * q))
def ovAll (T q : Nat) (X : List X6) : Bool := (List.range q).all fun a1 => (List.range q).all fun a2 => (List.range q).all fun a3 => (List.range q).all fun a4 => (List.range q).all fun a6 =>
  decide (disc (cN a1 a2 a3 a4 a6) % (q : Int) = 0) || ovC q ((q : Int) - cntD q a1 a2 a3 a4 a6) (ovN T q X a1 a2 a3 a4 a6)
section
variable {q : Nat} [NeZero q]
theorem mod_eq {x y : Int} (h : cs (Fin q) x = cs (Fin q) y) : x % (q : Int) = y % (q : Int) := (cs_eq (K := Fin q) (q := q)).1 h
theorem left_b (A : Cv) (b c : Int) (x y : Int × Int) : leftO A q b c x y = sumM q [timesI b c q y y, timesI b c q (sumM q [timesI b c q (A.a1 % q, 0) x, (A.a3 % q, 0)]) y] := by
  unfold leftO sumM timesI
  simp only [List.map_cons, List.map_nil, List.sum_cons, List.sum_nil]
  rw [Prod.mk.injEq]
  constructor
  · apply mod_eq
    simp only [cs_add, cs_mul, cs_mod, cs_0]
    grind
  · apply mod_eq
    simp only [cs_add, cs_mul, cs_mod, cs_0]
    grind
theorem b_N (a1 a2 a3 a4 a6 : Nat) (b c : Int) (v : X6) : sumM q [timesI b c q ((cN a1 a2 a3 a4 a6).a1 % q, 0) (zN v.x), ((cN a1 a2 a3 a4 a6).a3 % q, 0)] = zN (bN q a1 a3 v) := by
  unfold sumM timesI zN bN cN
  simp only [List.map_cons, List.map_nil, List.sum_cons, List.sum_nil]
  rw [Prod.mk.injEq, Int.natCast_emod, Int.natCast_emod]
  constructor
  · apply mod_eq
    simp only [Int.natCast_add, Int.natCast_mul, cs_add, cs_mul, cs_mod, cs_0]
    grind
  · apply mod_eq
    simp only [Int.natCast_add, Int.natCast_mul, cs_add, cs_mul, cs_mod, cs_0]
    grind
theorem r_N (a1 a2 a3 a4 a6 : Nat) (b c : Int) (v : X6) (h1 : timesI b c q (zN v.x) (zN v.x) = zN v.s) (h2 : timesI b c q (zN v.s) (zN v.x) = zN v.t) : rightO (cN a1 a2 a3 a4 a6) q b c (zN v.x) = zN (rN q a2 a4 a6 v) := by
  unfold rightO
  rw [h1, h2]
  unfold sumM timesI zN rN cN
  simp only [List.map_cons, List.map_nil, List.sum_cons, List.sum_nil]
  rw [Prod.mk.injEq, Int.natCast_emod, Int.natCast_emod]
  constructor
  · apply mod_eq
    simp only [Int.natCast_add, Int.natCast_mul, cs_add, cs_mul, cs_mod, cs_0]
    grind
  · apply mod_eq
    simp only [Int.natCast_add, Int.natCast_mul, cs_add, cs_mul, cs_mod, cs_0]
    grind
theorem sum_map_cast {α : Type} (l : List α) (f : α → Nat) : (l.map fun x => (f x : Int)).sum = ((l.map f).sum : Nat) := by
  induction l with
  | nil => rfl
  | cons a l ih => simp only [List.map_cons, List.sum_cons, ih, Int.natCast_add]
theorem mem_pairsN {P : Nat × Nat} (h1 : P.1 < q) (h2 : P.2 < q) : P ∈ pairsN q := by
  unfold pairsN
  refine List.mem_map.2 ⟨P.1 * q + P.2, List.mem_range.2 ?_, ?_⟩
  · have : (P.1 + 1) * q ≤ q * q := Nat.mul_le_mul_right q h1
    rw [Nat.add_mul] at this
    omega
  · rw [Nat.mul_comm, Nat.mul_add_div (by omega), Nat.div_eq_of_lt h2, Nat.mul_add_mod, Nat.mod_eq_of_lt h2]
    rfl
theorem over_N {T : Nat} {X : List X6} {b c : Int} (hq : 0 < q) (hT : tab2Ok T q b c = true) (hX : xOk q b c X = true) (a1 a2 a3 a4 a6 : Nat) : overI (cN a1 a2 a3 a4 a6) q b c = ovN T q X a1 a2 a3 a4 a6 := by
  unfold xOk at hX
  rw [Bool.and_eq_true, decide_eq_true_eq] at hX
  obtain ⟨hX1, hX2⟩ := hX
  unfold overI ovN
  rw [hX1, List.map_map, Int.natCast_add, ← sum_map_cast]
  congr 2
  apply List.map_congr_left
  intro v hv
  have hv2 := List.all_eq_true.1 hX2 v hv
  rw [Bool.and_eq_true, decide_eq_true_eq, decide_eq_true_eq] at hv2
  show ovX (cN a1 a2 a3 a4 a6) q b c (zN v.x) = _
  unfold ovX
  rw [r_N a1 a2 a3 a4 a6 b c v hv2.1 hv2.2]
  simp only [left_b, b_N]
  have h1 := List.all_eq_true.1 hT (bN q a1 a3 v) (mem_pairsN (Nat.mod_lt _ hq) (Nat.mod_lt _ hq))
  have h2 := List.all_eq_true.1 h1 (rN q a2 a4 a6 v) (mem_pairsN (Nat.mod_lt _ hq) (Nat.mod_lt _ hq))
  rw [decide_eq_true_eq] at h2
  rw [← h2]
  rfl
theorem cN_stands (a1 a2 a3 a4 a6 x y : Nat) : stands (cN a1 a2 a3 a4 a6) q x y = decide ((y * y + a1 * x * y + a3 * y) % q = (x * x * x + a2 * x * x + a4 * x + a6) % q) := by
  unfold stands cN
  dsimp only
  rw [decide_eq_decide, ← Int.natCast_inj, Int.natCast_emod, Int.natCast_emod, Int.emod_eq_emod_iff_emod_sub_eq_zero]
  rw [show (y : Int) * y + a1 * x * y + a3 * y - x * x * x - a2 * x * x - a4 * x - a6 = ((y * y + a1 * x * y + a3 * y : Nat) : Int) - ((x * x * x + a2 * x * x + a4 * x + a6 : Nat) : Int) by
    simp only [Int.natCast_add, Int.natCast_mul]
    grind]
theorem filter_cast (f : Int → Bool) (l : List Nat) : ((l.map fun y : Nat => (y : Int)).filter f).length = (l.filter fun y : Nat => f (y : Int)).length := by
  induction l with
  | nil => rfl
  | cons a l ih =>
    rw [List.map_cons]
    cases c : f a
    · rw [List.filter_cons_of_neg (by simp [c]), List.filter_cons_of_neg (by simp [c]), ih]
    · rw [List.filter_cons_of_pos c, List.filter_cons_of_pos (p := fun y : Nat => f (y : Int)) c, List.length_cons, List.length_cons, ih]
theorem cnt_D (a1 a2 a3 a4 a6 : Nat) : (found (cN a1 a2 a3 a4 a6) q).length = cntD q a1 a2 a3 a4 a6 := by
  unfold found cntD
  rw [List.length_flatMap, show ((q : Int).toNat) = q from Int.toNat_natCast q, rngI_range q, List.map_map]
  congr 1
  apply List.map_congr_left
  intro x hx
  show (List.map _ _).length = _
  rw [List.length_map, filter_cast]
  congr 2
  funext y
  exact cN_stands a1 a2 a3 a4 a6 x y
theorem over_mod (A : Cv) (b c : Int) : overI ⟨A.a1 % q, A.a2 % q, A.a3 % q, A.a4 % q, A.a6 % q⟩ q b c = overI A q b c := by
  unfold overI
  congr 2
  apply List.map_congr_left
  intro x _
  unfold ovX leftO rightO
  simp only [Int.emod_emod_of_dvd _ (Int.dvd_refl (q : Int))]
theorem ov_all {T : Nat} {X : List X6} {b c : Int} (hq : 0 < q) (hT : tab2Ok T q b c = true) (hX : xOk q b c X = true) (hA : ovAll T q X = true) (A : Cv) (hd : disc A % (q : Int) ≠ 0) : overI A q b c = q * q + 1 - (tF A q * tF A q - 2 * q) := by
  have hr : ∀ a : Int, ∃ n : Nat, a % (q : Int) = n ∧ n < q := fun a => by
    obtain ⟨n, hn⟩ := Int.eq_ofNat_of_zero_le (Int.emod_nonneg a (b := (q : Int)) (by omega))
    have := Int.emod_lt_of_pos a (b := (q : Int)) (by omega)
    exact ⟨n, hn, by omega⟩
  obtain ⟨n1, e1, l1⟩ := hr A.a1
  obtain ⟨n2, e2, l2⟩ := hr A.a2
  obtain ⟨n3, e3, l3⟩ := hr A.a3
  obtain ⟨n4, e4, l4⟩ := hr A.a4
  obtain ⟨n6, e6, l6⟩ := hr A.a6
  have hc : (⟨A.a1 % q, A.a2 % q, A.a3 % q, A.a4 % q, A.a6 % q⟩ : Cv) = cN n1 n2 n3 n4 n6 := by rw [e1, e2, e3, e4, e6]; rfl
  have h := List.all_eq_true.1 (List.all_eq_true.1 (List.all_eq_true.1 (List.all_eq_true.1 (List.all_eq_true.1 hA n1 (List.mem_range.2 l1)) n2 (List.mem_range.2 l2)) n3 (List.mem_range.2 l3)) n4 (List.mem_range.2 l4)) n6 (List.mem_range.2 l6)
  have hm := disc_mod (q := q) A
  have hf := found_mod (q := q) A
  have ho := over_mod (q := q) A b c
  rw [hc] at hm hf ho
  rw [Bool.or_eq_true, decide_eq_true_eq, hm] at h
  rcases h with h | h
  · exact absurd h hd
  · unfold ovC at h
    rw [decide_eq_true_eq] at h
    rw [← ho, over_N hq hT hX, h]
    unfold tF
    rw [← cnt_D, hf]
end
end K71

set_option linter.all false
set_option maxRecDepth 100000
/-! facts of curves at the law's primes; printed by gen71.py -/
namespace K71
open IR PySem EC
def tb2 : Nat := 170033749
def xs2 : List X6 := [⟨(0, 0), (0, 0), (0, 0)⟩, ⟨(0, 1), (1, 1), (1, 0)⟩, ⟨(1, 0), (1, 0), (1, 0)⟩, ⟨(1, 1), (0, 1), (1, 0)⟩]
theorem tb2_ok : tab2Ok tb2 2 1 1 = true := by decide +kernel
theorem xs2_ok : xOk 2 1 1 xs2 = true := by decide +kernel
theorem ov2_ok : ovAll tb2 2 xs2 = true := by decide +kernel
theorem root2 : rootP 2 = (1, 1) := by decide +kernel
def tb3 : Nat := 743027555388190515713930094815833261825753358505
def xs3 : List X6 := [⟨(0, 0), (0, 0), (0, 0)⟩, ⟨(0, 1), (2, 0), (0, 2)⟩, ⟨(0, 2), (2, 0), (0, 1)⟩, ⟨(1, 0), (1, 0), (1, 0)⟩, ⟨(1, 1), (0, 2), (1, 2)⟩, ⟨(1, 2), (0, 1), (1, 1)⟩, ⟨(2, 0), (1, 0), (2, 0)⟩, ⟨(2, 1), (0, 1), (2, 2)⟩, ⟨(2, 2), (0, 2), (2, 1)⟩]
theorem tb3_ok : tab2Ok tb3 3 0 2 = true := by decide +kernel
theorem xs3_ok : xOk 3 0 2 xs3 = true := by decide +kernel
theorem ov3_ok : ovAll tb3 3 xs3 = true := by decide +kernel
theorem root3 : rootP 3 = (0, 2) := by decide +kernel
def tb5 : Nat := 3180861141067775730356171164787150869209011857790872649127433036598291795375242606451167761538216536318471615576724865407108498852628177689018260851471835011576615397951889908695482858404649785668536288139865484129493169048757259745284075199397625638903588123908951356226322261329862407126318224219122065182590645069599058956131969825029764502476614194513794613756035544393729
def xs5 : List X6 := [⟨(0, 0), (0, 0), (0, 0)⟩, ⟨(0, 1), (2, 0), (0, 2)⟩, ⟨(0, 2), (3, 0), (0, 1)⟩, ⟨(0, 3), (3, 0), (0, 4)⟩, ⟨(0, 4), (2, 0), (0, 3)⟩, ⟨(1, 0), (1, 0), (1, 0)⟩, ⟨(1, 1), (3, 2), (2, 0)⟩, ⟨(1, 2), (4, 4), (0, 2)⟩, ⟨(1, 3), (4, 1), (0, 3)⟩, ⟨(1, 4), (3, 3), (2, 0)⟩, ⟨(2, 0), (4, 0), (3, 0)⟩, ⟨(2, 1), (1, 4), (0, 4)⟩, ⟨(2, 2), (2, 3), (1, 0)⟩, ⟨(2, 3), (2, 2), (1, 0)⟩, ⟨(2, 4), (1, 1), (0, 1)⟩, ⟨(3, 0), (4, 0), (2, 0)⟩, ⟨(3, 1), (1, 1), (0, 4)⟩, ⟨(3, 2), (2, 2), (4, 0)⟩, ⟨(3, 3), (2, 3), (4, 0)⟩, ⟨(3, 4), (1, 4), (0, 1)⟩, ⟨(4, 0), (1, 0), (4, 0)⟩, ⟨(4, 1), (3, 3), (3, 0)⟩, ⟨(4, 2), (4, 1), (0, 2)⟩, ⟨(4, 3), (4, 4), (0, 3)⟩, ⟨(4, 4), (3, 2), (3, 0)⟩]
theorem tb5_ok : tab2Ok tb5 5 0 2 = true := by decide +kernel
theorem xs5_ok : xOk 5 0 2 xs5 = true := by decide +kernel
theorem ov5_ok : ovAll tb5 5 xs5 = true := by decide +kernel
theorem root5 : rootP 5 = (0, 2) := by decide +kernel
theorem facts_ov (A : Cv) (p : Int) (hp : p = 2 ∨ p = 3 ∨ p = 5) (hd : disc A % p ≠ 0) : overI A p (rootP p).1 (rootP p).2 = p * p + 1 - (tF A p * tF A p - 2 * p) := by
  rcases hp with rfl | rfl | rfl
  · rw [root2]; exact ov_all (q := 2) (by decide) tb2_ok xs2_ok ov2_ok A hd
  · rw [root3]; exact ov_all (q := 3) (by decide) tb3_ok xs3_ok ov3_ok A hd
  · rw [root5]; exact ov_all (q := 5) (by decide) tb5_ok xs5_ok ov5_ok A hd
theorem facts : Facts where
  fx := facts_fx
  rw := facts_rw
  ov := facts_ov
  e1 := by decide +kernel
  e2 := by decide +kernel
theorem law_true (ns : List Int) (h : ns.length ≤ 63) : run prog consts 60 no f_law [.scr ns] (fun _ => none) fun d _ => d = .bl true := law_by facts ns h
end K71


set_option Elab.async false
set_option linter.all false
set_option maxRecDepth 100000
set_option maxHeartbeats 0
/-! K71_End: the end, printed by genx.py. -/
namespace K71
open PySem PySem.Spec PyProof.Rows L2 IR
theorem fact_of {K : PySem.W.Frag} (c : He.SaysD fa fn K) {f : He.Fa} (h : f ∈ fa) : f.ok K = true := by
  obtain ⟨i, hi⟩ := List.getElem?_of_mem h
  exact c.fact i hi
theorem at_of_ {K : PySem.W.Frag} {h : Heap} {mg : Str → Option Value} (X : K.In h) (G : h.Ns mainGlobals mg) (c : He.SaysD fa fn K) : ∀ e ∈ es, EntOk K mg e := fun e he => by
  obtain ⟨i, hi⟩ := List.getElem?_of_mem he
  obtain ⟨fd, F⟩ := c.def_ i (d := dD e) (by show (es.map dD)[i]? = _; rw [List.getElem?_map, hi]; rfl)
  exact ⟨_, fd, F, He.glo_ok X G (fact_of c (List.mem_append_left _ (List.mem_map.mpr ⟨e, he, rfl⟩)))⟩
theorem bl_of {K : PySem.W.Frag} {h : Heap} {mg : Str → Option Value} (X : K.In h) (G : h.Ns mainGlobals mg) (c : He.SaysD fa fn K) : ∀ nm ∈ blts, mg nm = none := fun nm hn =>
  He.free_ok X G (fact_of c (List.mem_append_right _ (List.mem_append_left _ (List.mem_map.mpr ⟨nm, hn, rfl⟩))))
theorem gl_of_ {K : PySem.W.Frag} {h : Heap} {mg : Str → Option Value} (X : K.In h) (G : h.Ns mainGlobals mg) (c : He.SaysD fa fn K) : ∀ nm i, gls.lookup nm = some i → ∃ v u d, mg nm = some u ∧ RelV v u ∧ (∀ F, Rep K F v d) ∧ consts[i]? = some d := fun nm i hl => by
  have one : ∀ (x : Str) (n : Int) (j : Nat), He.Fa.int x n ∈ faI → consts[j]? = some (.int n) → nm = x → i = j → ∃ v u d, mg nm = some u ∧ RelV v u ∧ (∀ F, Rep K F v d) ∧ consts[i]? = some d := fun x n j hm hc e1 e2 => by
    subst e1 e2
    obtain ⟨t, ht⟩ := He.int_ok X G (fact_of c (List.mem_append_right _ (List.mem_append_right _ (List.mem_append_left _ hm))))
    exact ⟨.int n, _, .int n, ht, ⟨t, rfl⟩, fun F => .int n, hc⟩
  unfold gls at hl
  rw [List.lookup_cons] at hl
  cases q0 : nm == "MOST" with
  | true =>
    rw [q0] at hl
    exact one "MOST" 1000000000000000000000000000000 0 (by simp [faI]) rfl (by simpa using q0) (by cases hl; rfl)
  | false =>
  rw [q0] at hl
  rw [List.lookup_cons] at hl
  cases q1 : nm == "MOST_ROW" with
  | true =>
    rw [q1] at hl
    exact one "MOST_ROW" 60 1 (by simp [faI]) rfl (by simpa using q1) (by cases hl; rfl)
  | false =>
  rw [q1] at hl
  rw [List.lookup_cons] at hl
  cases q2 : nm == "MOST_CURVE" with
  | true =>
    rw [q2] at hl
    exact one "MOST_CURVE" 1000000 2 (by simp [faI]) rfl (by simpa using q2) (by cases hl; rfl)
  | false =>
  rw [q2] at hl
  rw [List.lookup_cons] at hl
  cases q3 : nm == "MOST_PRIME" with
  | true =>
    rw [q3] at hl
    exact one "MOST_PRIME" 97 3 (by simp [faI]) rfl (by simpa using q3) (by cases hl; rfl)
  | false =>
  rw [q3] at hl
  cases hl
def clsN (c : Nat) : Str := match c with
  | 0 => "CanNot"
  | 1 => "Unfit"
  | _ => ""
def cv (K : PySem.W.Frag) : CV := ⟨fun c => .ref (He.ga K (clsN c)), fun c => c < 2⟩
theorem facC {K : PySem.W.Frag} (c : He.SaysD fa fn K) {f : He.Fa} (h : f ∈ faC) : f.ok K = true := fact_of c (List.mem_append_right _ (List.mem_append_right _ (List.mem_append_right _ h)))
theorem cl_of {K : PySem.W.Frag} {h : Heap} {mg : Str → Option Value} (X : K.In h) (G : h.Ns mainGlobals mg) (c : He.SaysD fa fn K) : ∀ nm i, cls.lookup nm = some i → (cv K).ok i ∧ mg nm = some ((cv K).val i) := fun nm i hl => by
  unfold cls at hl
  rw [List.lookup_cons] at hl
  cases r0 : nm == "CanNot" with
  | true =>
    rw [r0] at hl
    cases hl
    have e : nm = "CanNot" := by simpa using r0
    subst e
    exact ⟨(by decide : 0 < 2), He.glo_ok X G (facC c (by simp [faC]))⟩
  | false =>
  rw [r0] at hl
  rw [List.lookup_cons] at hl
  cases r1 : nm == "Unfit" with
  | true =>
    rw [r1] at hl
    cases hl
    have e : nm = "Unfit" := by simpa using r1
    subst e
    exact ⟨(by decide : 1 < 2), He.glo_ok X G (facC c (by simp [faC]))⟩
  | false =>
  rw [r1] at hl
  cases hl
theorem ck_of {K : PySem.W.Frag} (c : He.SaysD fa fn K) (hx : ex K = true) : ∀ i, (cv K).ok i → ClsK K ((cv K).val i) := fun i hi => by
  have hi : i < 2 := hi
  have hx : (cls.all fun c => xcB K c.1) = true := hx
  simp only [cls, List.all_cons, List.all_nil, Bool.and_true, Bool.and_eq_true] at hx
  match i, hi with
  | 0, _ => exact xcB_ok (x := "CanNot") (by first | exact hx | exact hx.1 | exact hx.2 | exact hx.2.1 | exact hx.2.2 | exact hx.2.2.1 | exact hx.2.2.2) (facC c (by simp [faC]))
  | 1, _ => exact xcB_ok (x := "Unfit") (by first | exact hx | exact hx.1 | exact hx.2 | exact hx.2.1 | exact hx.2.2 | exact hx.2.2.1 | exact hx.2.2.2) (facC c (by simp [faC]))
theorem cx_of {K : PySem.W.Frag} (c : He.SaysD fa fn K) : ∀ i j, (cv K).ok i → (cv K).ok j → PySem.W.exmOne K ((cv K).val i) ((cv K).val j) = some (decide (i = j)) := fun i j hi hj => by
  have hi : i < 2 := hi
  have hj : j < 2 := hj
  match i, hi, j, hj with
  | 0, _, 0, _ => exact He.exm_ok (x := "CanNot") (y := "CanNot") (b := true) (facC c (by simp [faC]))
  | 0, _, 1, _ => exact He.exm_ok (x := "CanNot") (y := "Unfit") (b := false) (facC c (by simp [faC]))
  | 1, _, 0, _ => exact He.exm_ok (x := "Unfit") (y := "CanNot") (b := false) (facC c (by simp [faC]))
  | 1, _, 1, _ => exact He.exm_ok (x := "Unfit") (y := "Unfit") (b := true) (facC c (by simp [faC]))
theorem law_fn {P : Program} {w : World} {K : PySem.W.Frag} {h : Heap} {mg : Str → Option Value} {f : Addr} (X : K.In h) (G : h.Ns mainGlobals mg) (hfa : mg ("law" : Str) = some (.ref f)) (c : He.SaysD fa fn K) (hx : ex K = true) :
    ∃ fd : FuncData, (∀ (s : Shared) (v : Value), BindsTo s fd ⟨[v], []⟩ [("script", v)]) ∧ ∀ base : Heap, K.In base → base.Ns mainGlobals mg → FnOk P w K mg base CX0 60 f fd ["script"] (fun vs H Q _ => @spD ground K (cv K) 1 (fun Y => run prog consts 60 Y f_law) vs H Q fun _ _ _ => False) := by
  obtain ⟨f', fd, F, hm⟩ := at_of_ X G c e_law (by simp [es])
  have e := hfa.symm.trans hm
  cases e
  have b := FunD.bindsA (ps := ["script"]) F fun _ _ _ _ _ _ us hl => match us, hl with | [_], _ => rfl
  refine ⟨fd, fun s v => b s [v] rfl, fun base _ _ => ?_⟩
  exact IR.FnOk.calm (ent_ok (es := es) (gls := gls) (cls := cls) (cv := cv K) (G := consts) (bl_of X G c) (gl_of_ X G c) (cl_of X G c) (ck_of c hx) (cx_of c) hall hbind (at_of_ X G c) 60 55 e_law rfl f fd F ground)
end K71
open PySem PySem.W PySem.Calls PyProof.Rows
theorem PySem.Challenge.cw_shapelots_k71_main_counts_kinds_and_grea_holds : PySem.Challenge.rw_shapelots_k71_main_counts_kinds_and_grea.Holds := by
  w_on; o_law
  refine HandSHeadRun.head_any (r := OpenLaw.row PySem.Challenge.rw_shapelots_k71_main_counts_kinds_and_grea) (q := view (OpenLaw.row PySem.Challenge.rw_shapelots_k71_main_counts_kinds_and_grea).prog [66]) (H := K71.hk) (ob := K71.ob) (M := 4000) (loose := K71.loose) (d := HandSHeadRun.topDef (OpenLaw.row PySem.Challenge.rw_shapelots_k71_main_counts_kinds_and_grea).prog 66) (kwd := []) K71.ob_eq
    (by kernel_rfl) (fun s => by kernel_rfl) K71.headRun (by kernel_rfl) (by kernel_rfl) (by kernel_rfl) (by rfl) (by first | assumption | decide +kernel) (by decide +kernel) ⟨rfl, rfl, rfl, rfl, rfl, by decide +kernel⟩ ?hw ?hc
  case hw => w_witness2
  case hc =>
    refine L2.walk_ofE (l := PySem.Challenge.rw_shapelots_k71_main_counts_kinds_and_grea) (n := 63) (k := 60) (x := "script") (CX := L2.CX0) rfl (by decide) (by kernel_rfl) ⟨rfl, by decide, by decide⟩ ?F (fun _ _ _ _ z => z)
    intro w mg fa h Y G hmg0
    obtain ⟨K, KX, c, hx⟩ := Y
    have hmg : mg ("law" : PySem.Str) = some (.ref fa) := by
      have e : (HandSHeadRun.topDef (OpenLaw.row PySem.Challenge.rw_shapelots_k71_main_counts_kinds_and_grea).prog 66).name = ("law" : PySem.Str) := by kernel_rfl
      rw [← e]
      exact hmg0
    obtain ⟨fd, hb, hF⟩ := K71.law_fn (P := (PySem.Challenge.rw_shapelots_k71_main_counts_kinds_and_grea).prog) (w := w) KX G hmg c hx
    refine ⟨K, fd, _, KX, hb, ?_, hF⟩
    intro H a ns hl hO hS
    exact IR.law_sp hO hS (K71.law_true ns hl)

