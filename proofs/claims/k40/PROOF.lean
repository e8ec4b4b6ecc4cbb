import PyProof.Rows.All
import Wide.All
import OpenK.AllK
import Wide.FinOn
import PyProof.EqAt
import PyProof.EqKinds
import PyProof.TupleCall
import HandS.Base
import HandS.Call
import HandS.List
import HandS.Comp
import HandS.Ends
import HandS.Dict
import HandS.Iter
import HandS.Text
import HandS.Flow
import HandS.Deep
import HandS.Conv
import HandS.Style
import HandS.TupMul
import HandS.TupAny
import HandS.DictComp
import HandS.IsInst
import HandS.More
import HandS.Exc
import HandS.ExcOwn
import HandS.TryOnly
import HandS.Words
import HandS.WordsExc
import HandS.SortInts
import KE.KDictSum
import HandS.TupLen
import HandS.WordsDict
import KE.KDictCopyH
import KE.GoesMore
import KE.GoesEnum
import KE.GoesZip
import PyProof.Draws
import HandS.ExcInit
import HandS.ClsMeth
import HandS.Defaults
import HandS.Head0
import HandS.Head1
import HandS.Head2
import HandS.HeadEnd
import HandS.HeadHook1
import HandS.HeadHook2
import HandS.HeadHook3
import HandS.HeadHook4
import PySem.Challenge.RW_aheadright_k40_whole_registers_named_ane
import KE.KStateDown
section
set_option Elab.async false
set_option linter.all false
/-! DL1: data values D, cells, the small language (IR), what must hold so that a piece of it ends well (wp). -/
namespace AR
open PySem

/-- a value: tuples are data; lists, dicts, instances are references; kt, kd: a tuple, a dict of the written part; rl: a list that is only read; fn: a def by its name -/
inductive D where
  | non | bl (b : Bool) | int (i : Int) | str (x : Str) | ref (a : Addr) | tup (xs : List D) | kt (xs : List D) | rl (xs : List D) | kd (kvs : List (Str × Str)) | fn (x : Str) | ty (n : String) | exc (c : Str) (fs : List Str) (vs : List D)
  deriving Inhabited
abbrev Ky := Sum Int Str
/-- a cell of the heap -/
inductive Cl where
  | lst (xs : List D) | dK (kvs : List (Ky × D)) | dT (kvs : List (List Ky × D)) | lkK (kvs : List (Ky × D)) | lkT (kvs : List (List Ky × D)) | ins (c : Str) (fs : List (Str × D))
abbrev Hd := Addr → Option Cl
def hup (h : Hd) (a : Addr) (c : Cl) : Hd := fun b => if b = a then some c else h b
theorem hup_same {h : Hd} {a : Addr} {c : Cl} : hup h a c a = some c := by simp [hup]
theorem hup_ne {h : Hd} {a b : Addr} {c : Cl} (e : b ≠ a) : hup h a c b = h b := by simp [hup, e]
theorem hup_hup {h : Hd} {a : Addr} {c d : Cl} : hup (hup h a c) a d = hup h a d := by
  funext b; simp only [hup]; split <;> rfl
abbrev Sg := List (Option D)
/-- what an expression gives: a value, or a new list that has no place yet -/
inductive Res where
  | val (d : D) | new (ds : List D)
abbrev Qd := D → Hd → Prop
abbrev Qr := Res → Hd → Prop
abbrev Xd := D → Sg → Hd → Prop
/-- a def's promise over data -/
abbrev SpD := List D → Hd → Qd → Qd → Prop
structure Ctx where
  fn : Str → Option SpD := fun _ => none
  mt : Str → Str → Option SpD := fun _ _ => none
  new : Str → Option SpD := fun _ => none
  gl : Str → Option D := fun _ => none
def big : Nat := 100000
/-- by a bool -/
def ifB (c : Bool) (A B : Prop) : Prop := match c with
  | true => A
  | false => B
theorem ifB_t {A B : Prop} : ifB true A B = A := rfl
theorem ifB_f {A B : Prop} : ifB false A B = B := rfl
/-- a new list gets its place -/
def place (r : Res) (h : Hd) (Q : Qd) : Prop := match r with
  | .val d => Q d h
  | .new ds => ∀ p, h p = none → Q (.ref p) (hup h p (.lst ds))
/-- what is walked through: the items, what must stay so meanwhile -/
def seqP (r : Res) (h : Hd) (R : List D → (Hd → Prop) → Hd → Prop) : Prop := match r with
  | .new ds => R ds (fun _ => True) h
  | .val (.tup ds) => R ds (fun _ => True) h
  | .val (.kt ds) => R ds (fun _ => True) h
  | .val (.ref a) => match h a with
    | some (.lst ds) => R ds (fun h' => h' a = some (.lst ds)) h
    | _ => False
  | .val (.rl ds) => R ds (fun _ => True) h
  | _ => False

/-! ### data flattened, for == and in -/
inductive Fl where
  | non | num (i : Int) | str (x : Str) | tup (xs : List Fl) | lst (xs : List Fl)
mutual
def Fl.eqb : Fl → Fl → Bool
  | .non, .non => true
  | .num i, .num j => decide (i = j)
  | .str x, .str y => decide (x = y)
  | .tup xs, .tup ys => Fl.eqbs xs ys
  | .lst xs, .lst ys => Fl.eqbs xs ys
  | _, _ => false
def Fl.eqbs : List Fl → List Fl → Bool
  | [], [] => true
  | x :: xs, y :: ys => Fl.eqb x y && Fl.eqbs xs ys
  | _, _ => false
end
mutual
theorem Fl.eqb_iff : ∀ (x y : Fl), Fl.eqb x y = true ↔ x = y
  | .non, y => by cases y <;> simp [Fl.eqb]
  | .num i, y => by cases y <;> simp [Fl.eqb]
  | .str x, y => by cases y <;> simp [Fl.eqb]
  | .tup xs, y => by cases y <;> simp [Fl.eqb, Fl.eqbs_iff xs]
  | .lst xs, y => by cases y <;> simp [Fl.eqb, Fl.eqbs_iff xs]
theorem Fl.eqbs_iff : ∀ (x y : List Fl), Fl.eqbs x y = true ↔ x = y
  | [], y => by cases y <;> simp [Fl.eqbs]
  | x :: xs, y => by cases y <;> simp [Fl.eqbs, Fl.eqb_iff x, Fl.eqbs_iff xs]
end
instance : DecidableEq Fl := fun x y => if h : Fl.eqb x y = true then isTrue ((Fl.eqb_iff x y).mp h) else isFalse fun e => h ((Fl.eqb_iff x y).mpr e)
mutual
/-- n: how deep tuples may lie within one another -/
def fl0 : Nat → D → Option Fl
  | _, .non => some .non
  | _, .bl b => some (.num (if b then 1 else 0))
  | _, .int i => some (.num i)
  | _, .str x => some (.str x)
  | n + 1, .tup xs => (fl0s n xs).map .tup
  | n + 1, .kt xs => (fl0s n xs).map .tup
  | _, _ => none
def fl0s : Nat → List D → Option (List Fl)
  | _, [] => some []
  | n, x :: xs => match fl0 n x, fl0s n xs with
    | some y, some ys => some (y :: ys)
    | _, _ => none
end
def fl1 (h : Hd) (d : D) : Option Fl := match d with
  | .ref a => match h a with
    | some (.lst xs) => (fl0s 8 xs).map .lst
    | _ => none
  | d => fl0 8 d
def fl1s (h : Hd) : List D → Option (List Fl)
  | [] => some []
  | x :: xs => match fl1 h x, fl1s h xs with
    | some y, some ys => some (y :: ys)
    | _, _ => none
def flr (h : Hd) (r : Res) : Option Fl := match r with
  | .new ds => (fl1s h ds).map .lst
  | .val (.ref a) => match h a with
    | some (.lst xs) => (fl1s h xs).map .lst
    | _ => none
  | .val d => fl0 8 d
/-! ### keys -/
def kyD : D → Option Ky
  | .int i => some (.inl i)
  | .str x => some (.inr x)
  | _ => none
def kysD : List D → Option (List Ky)
  | [] => some []
  | x :: xs => match kyD x, kysD xs with
    | some y, some ys => some (y :: ys)
    | _, _ => none
def dKy : Ky → D
  | .inl i => .int i
  | .inr x => .str x
section
variable {κ : Type} [DecidableEq κ]
def look (kvs : List (κ × D)) (k : κ) : Option D := (kvs.find? fun kv => decide (kv.1 = k)).map (·.2)
def putD (kvs : List (κ × D)) (k : κ) (v : D) : List (κ × D) :=
  if kvs.any (fun kv => decide (kv.1 = k)) then kvs.map fun kv => if kv.1 = k then (kv.1, v) else kv else kvs ++ [(k, v)]
def merge (kvs more : List (κ × D)) : List (κ × D) := more.foldl (fun acc kv => putD acc kv.1 kv.2) kvs
end
/-- what a dict holds at a key -/
def getP (h : Hd) (o k : D) (R : Option D → Prop) : Prop := match o with
  | .ref a => match h a with
    | some (.dK kvs) => match kyD k with
      | some y => R (look kvs y)
      | none => False
    | some (.lkK kvs) => match kyD k with
      | some y => R (look kvs y)
      | none => False
    | some (.dT kvs) => match k with
      | .tup xs => match kysD xs with
        | some y => R (look kvs y)
        | none => False
      | _ => False
    | some (.lkT kvs) => match k with
      | .tup xs => match kysD xs with
        | some y => R (look kvs y)
        | none => False
      | _ => False
    | _ => False
  | .kd kvs => match k with
    | .str x => R (((kvs.find? fun kv => decide (kv.1 = x)).map (·.2)).map .str)
    | _ => False
  | _ => False
def putP (h : Hd) (a : Addr) (k v : D) (R : Hd → Prop) : Prop := match h a with
  | some (.dK kvs) => match kyD k with
    | some y => kvs.length < big ∧ R (hup h a (.dK (putD kvs y v)))
    | none => False
  | some (.dT kvs) => match k with
    | .tup xs => match kysD xs with
      | some y => kvs.length < big ∧ R (hup h a (.dT (putD kvs y v)))
      | none => False
    | _ => False
  | _ => False

/-! ### operators -/
def cut {α : Type} (xs : List α) (lo hi : Option Int) : List α :=
  let n := xs.length
  let ix (d : Nat) (o : Option Int) : Nat := match o with
    | none => d
    | some v => if v < 0 then (max (v + (n : Int)) 0).toNat else (min v (n : Int)).toNat
  (xs.drop (ix 0 lo)).take (ix n hi - ix 0 lo)
def atD {α : Type} (xs : List α) (i : Int) : Option α := if 0 ≤ i then xs[i.toNat]? else if -(xs.length : Int) ≤ i then xs[(i + xs.length).toNat]? else none
def ixD (n : Nat) (i : Int) : Option Nat := if 0 ≤ i then (if i < n then some i.toNat else none) else if -(n : Int) ≤ i then some (i + n).toNat else none
inductive BOp where
  | add | sub | mul | mod | fdiv | and | or | xor | pow | shl
  deriving DecidableEq
inductive COp where
  | eq | ne | lt | le | gt | ge | is | isNot | in_ | notIn
  deriving DecidableEq
def lstOf (r : Res) (h : Hd) : Option (List D) := match r with
  | .new ds => some ds
  | .val (.ref a) => match h a with
    | some (.lst ds) => some ds
    | _ => none
  | _ => none
def small (i : Int) : Prop := -(2 ^ 64) < i ∧ i < 2 ^ 64
def tupOf : D → Option (List D)
  | .tup xs => some xs
  | .kt xs => some xs
  | _ => none
def binP (bitAnd bitOr bitXor : Int → Int → Int) (o : BOp) (x y : Res) (h : Hd) (Q : Qr) : Prop := match x, y with
  | .val (.int i), .val (.int j) => match o with
    | .add => Q (.val (.int (i + j))) h
    | .sub => Q (.val (.int (i - j))) h
    | .mul => (small i ∨ small j) ∧ Q (.val (.int (i * j))) h
    | .mod => 0 < j ∧ Q (.val (.int (i % j))) h
    | .fdiv => (0 < j ∧ j < 1073741824) ∧ Q (.val (.int (i / j))) h
    | .and => Q (.val (.int (bitAnd i j))) h
    | .or => Q (.val (.int (bitOr i j))) h
    | .xor => Q (.val (.int (bitXor i j))) h
    | .pow => (0 ≤ j ∧ j ≤ 1000 ∧ i.natAbs < 2 ^ 64) ∧ Q (.val (.int (i ^ j.toNat))) h
    | .shl => (0 ≤ j ∧ j ≤ 1000 ∧ i.natAbs < 2 ^ 64) ∧ Q (.val (.int (i * 2 ^ j.toNat))) h
  | .val (.tup xs), .val (.tup ys) => match o with
    | .add => (xs.length ≤ big ∧ ys.length ≤ big) ∧ Q (.val (.tup (xs ++ ys))) h
    | _ => False
  | .val (.kt xs), .val (.tup ys) => match o with
    | .add => (xs ≠ [] ∧ ys ≠ []) ∧ (xs.length ≤ big ∧ ys.length ≤ big) ∧ Q (.val (.tup (xs ++ ys))) h
    | _ => False
  | .val (.tup xs), .val (.kt ys) => match o with
    | .add => (xs ≠ [] ∧ ys ≠ []) ∧ (xs.length ≤ big ∧ ys.length ≤ big) ∧ Q (.val (.tup (xs ++ ys))) h
    | _ => False
  | .val (.tup xs), .val (.int k) => match o with
    | .mul => (xs ≠ [] ∧ xs.length ≤ 1000 ∧ 2 ≤ k ∧ k ≤ 1000) ∧ Q (.val (.tup (List.replicate k.toNat xs).flatten)) h
    | _ => False
  | x, .val (.int k) => match o, lstOf x h with
    | .mul, some xs => (xs.length ≤ 1000 ∧ k ≤ 1000 ∧ -1000 ≤ k) ∧ Q (.new (List.replicate k.toNat xs).flatten) h
    | _, _ => False
  | x, y => match o, lstOf x h, lstOf y h with
    | .add, some xs, some ys => (xs.length ≤ big ∧ ys.length ≤ big) ∧ Q (.new (xs ++ ys)) h
    | _, _, _ => False
def keyed (x : Res) (R : D → Prop) : Prop := match x with
  | .val k => R k
  | .new _ => False
def inL (p : Fl) (ps : List Fl) : Bool := ps.any fun q => decide (q = p)
def inP (x y : Res) (h : Hd) (R : Bool → Prop) : Prop := match y with
  | .val (.tup ys) => match flr h x, fl1s h ys with
    | some p, some ps => R (inL p ps)
    | _, _ => False
  | .val (.kt ys) => match flr h x, fl1s h ys with
    | some p, some ps => R (inL p ps)
    | _, _ => False
  | .new ys => match flr h x, fl1s h ys with
    | some p, some ps => R (inL p ps)
    | _, _ => False
  | .val (.str z) => match x with
    | .val (.str w) => ∃ c, w = ⟨#[c]⟩ ∧ R (decide (c ∈ z.cps.toList))
    | _ => False
  | .val (.ref a) => match h a with
    | some (.lst ys) => match flr h x, fl1s h ys with
      | some p, some ps => R (inL p ps)
      | _, _ => False
    | _ => keyed x fun k => getP h (.ref a) k fun o => R o.isSome
  | _ => False
def isNon : D → Bool
  | .non => true
  | _ => false
def isP (x y : D) (R : Bool → Prop) : Prop := match y with
  | .non => R (isNon x)
  | .bl b => match x with
    | .bl a => R (decide (a = b))
    | _ => False
  | _ => False
def cmpP (o : COp) (x y : Res) (h : Hd) (R : Bool → Prop) : Prop := match o with
  | .eq => match flr h x, flr h y with
    | some p, some q => R (decide (p = q))
    | _, _ => False
  | .ne => match flr h x, flr h y with
    | some p, some q => R (!decide (p = q))
    | _, _ => False
  | .in_ => inP x y h R
  | .notIn => inP x y h fun b => R (!b)
  | .is => match x, y with
    | .val a, .val b => isP a b R
    | _, _ => False
  | .isNot => match x, y with
    | .val a, .val b => isP a b fun c => R (!c)
    | _, _ => False
  | o => match x, y with
    | .val (.int i), .val (.int j) => match o with
      | .lt => R (decide (i < j))
      | .le => R (decide (i ≤ j))
      | .gt => R (decide (j < i))
      | .ge => R (decide (j ≤ i))
      | _ => False
    | _, _ => False
def tru (r : Res) (h : Hd) : Option Bool := match r with
  | .new ds => some (!ds.isEmpty)
  | .val .non => some false
  | .val (.bl b) => some b
  | .val (.int i) => some (i != 0)
  | .val (.tup xs) => some (!xs.isEmpty)
  | .val (.ref a) => match h a with
    | some (.lst ds) => some (!ds.isEmpty)
    | _ => none
  | _ => none
/-- by a value's truth -/
def truK (r : Res) (h : Hd) (K : Bool → Prop) : Prop := match tru r h with
  | some b => K b
  | none => False
def ixAt (ds : List D) (k : Res) (h : Hd) (Q : Qr) : Prop := match k with
  | .val (.int i) => match atD ds i with
    | some d => Q (.val d) h
    | none => False
  | _ => False
def ixK (k : Res) (o : D) (h : Hd) (Q : Qr) : Prop := keyed k fun k => getP h o k fun r => match r with
  | some d => Q (.val d) h
  | none => False
def ixP (o k : Res) (h : Hd) (Q : Qr) : Prop := match o with
  | .new ds => ixAt ds k h Q
  | .val (.tup ds) => ixAt ds k h Q
  | .val (.kt ds) => ixAt ds k h Q
  | .val (.ref a) => match h a with
    | some (.lst ds) => ixAt ds k h Q
    | _ => ixK k (.ref a) h Q
  | _ => False
def slP (o : Res) (lo hi : Option Int) (h : Hd) (Q : Qr) : Prop := match o with
  | .val (.tup ds) => Q (.val (.tup (cut ds lo hi))) h
  | r => match lstOf r h with
    | some ds => Q (.new (cut ds lo hi)) h
    | none => False
def isiP (r : Res) (T : Str) (h : Hd) (R : Bool → Prop) : Prop := match r with
  | .new _ => R (decide (T = "list"))
  | .val .non => R false
  | .val (.bl _) => R (decide (T = "int") || decide (T = "bool"))
  | .val (.int _) => R (decide (T = "int"))
  | .val (.str _) => R (decide (T = "str"))
  | .val (.tup _) => R (decide (T = "tuple"))
  | .val (.kt _) => R (decide (T = "tuple"))
  | .val (.ref a) => match h a with
    | some (.lst _) => R (decide (T = "list"))
    | some (.dK _) => R (decide (T = "dict"))
    | some (.dT _) => R (decide (T = "dict"))
    | _ => False
  | _ => False
/-! ### built-ins of one argument -/
inductive B1 where
  | len | list | tuple | all | any | sum | min | max | sorted | int | dict | abs
  deriving DecidableEq
def boolsD : List D → Option (List Bool)
  | [] => some []
  | .bl b :: r => (boolsD r).map (b :: ·)
  | _ => none
def intsD : List D → Option (List Int)
  | [] => some []
  | .int i :: r => (intsD r).map (i :: ·)
  | _ => none
def ltKy : Ky → Ky → Bool
  | .inl i, .inl j => decide (i < j)
  | .inr x, .inr y => decide (x.cps.toList < y.cps.toList)
  | .inl _, .inr _ => true
  | .inr _, .inl _ => false
def ltKys : List Ky → List Ky → Bool
  | [], [] => false
  | [], _ :: _ => true
  | _ :: _, [] => false
  | x :: xs, y :: ys => if x = y then ltKys xs ys else ltKy x y
/-- keys of one shape: intsD against intsD, texts against texts -/
def like : List Ky → List Ky → Bool
  | [], [] => true
  | .inl _ :: xs, .inl _ :: ys => like xs ys
  | .inr _ :: xs, .inr _ :: ys => like xs ys
  | _, _ => false
def tups : List D → Option (List (List Ky))
  | [] => some []
  | .tup xs :: r => match kysD xs, tups r with
    | some k, some ks => some (k :: ks)
    | _, _ => none
  | _ => none
def dTup (k : List Ky) : D := .tup (k.map dKy)
/-- a sorted arrangement of items: intsD, or tuples of one shape -/
def sortP (ds : List D) (R : List D → Prop) : Prop := match intsD ds with
  | some is => is.length < big ∧ ∀ js : List Int, js.Perm is → js.Pairwise (· ≤ ·) → R (js.map .int)
  | none => match tups ds with
    | some ks => ks.length < big ∧ (∀ x ∈ ks, x ≠ []) ∧ (∀ x ∈ ks, ∀ y ∈ ks, like x y = true) ∧ ∀ js : List (List Ky), js.Perm ks → js.Pairwise (fun a b => ltKys b a = false) → R (js.map dTup)
    | none => False
def keysOf (r : Res) (h : Hd) : Option (List D) := match r with
  | .val (.ref a) => match h a with
    | some (.dK kvs) => some (kvs.map fun kv => dKy kv.1)
    | some (.dT kvs) => some (kvs.map fun kv => dTup kv.1)
    | _ => none
  | _ => none
def itemsOf (r : Res) (h : Hd) : Option (List D) := match r with
  | .new ds => some ds
  | .val (.tup ds) => some ds
  | .val (.kt ds) => some ds
  | .val (.ref a) => match h a with
    | some (.lst ds) => some ds
    | _ => none
  | .val (.rl ds) => some ds
  | _ => none
def b1P (f : B1) (r : Res) (h : Hd) (Q : Qr) : Prop := match f with
  | .len => match r with
    | .val (.str x) => x.length ≤ big ∧ Q (.val (.int x.length)) h
    | _ => match itemsOf r h with
      | some ds => Q (.val (.int ds.length)) h
      | none => match keysOf r h with
        | some ds => Q (.val (.int ds.length)) h
        | none => False
  | .list => match itemsOf r h with
    | some ds => Q (.new ds) h
    | none => False
  | .tuple => match r with
    | .val (.kt _) => False
    | .val (.rl _) => False
    | _ => match itemsOf r h with
      | some ds => Q (.val (.tup ds)) h
      | none => False
  | .all => match r with
    | .val (.tup _) => False
    | .val (.kt _) => False
    | _ => match itemsOf r h with
      | some ds => match boolsD ds with
        | some bs => Q (.val (.bl (bs.all id))) h
        | none => False
      | none => False
  | .any => match r with
    | .val (.tup _) => False
    | .val (.kt _) => False
    | _ => match itemsOf r h with
      | some ds => match boolsD ds with
        | some bs => Q (.val (.bl (bs.any id))) h
        | none => False
      | none => False
  | .sorted => match itemsOf r h with
    | some ds => sortP ds fun es => Q (.new es) h
    | none => match keysOf r h with
      | some ds => sortP ds fun es => Q (.new es) h
      | none => False
  | .int => match r with
    | .val (.int i) => Q (.val (.int i)) h
    | .val (.bl b) => Q (.val (.int (if b then 1 else 0))) h
    | _ => False
  | .dict => match r with
    | .val (.ref a) => match h a with
      | some (.dK kvs) => ∀ p, h p = none → Q (.val (.ref p)) (hup h p (.dK kvs))
      | _ => False
    | _ => False
  | _ => False
def lstN (m : Str) : Bool := decide (m = "append") || decide (m = "pop") || decide (m = "extend")
def dctN (m : Str) : Bool := decide (m = "get") || decide (m = "update")
/-- methods of lists -/
def lstM (m : Str) (a : Addr) (as : List D) (h : Hd) (Q : Qd) : Prop :=
  if m = "append" then
    match as with
    | [d] => match h a with
      | some (.lst xs) => xs.length < big ∧ Q .non (hup h a (.lst (xs ++ [d])))
      | _ => False
    | _ => False
  else if m = "pop" then
    match as with
    | [] => match h a with
      | some (.lst xs) => match xs.getLast? with
        | some d => Q d (hup h a (.lst xs.dropLast))
        | none => False
      | _ => False
    | [.int i] => match h a with
      | some (.lst xs) => match ixD xs.length i with
        | some k => match xs[k]? with
          | some d => (-(2 ^ 63) ≤ i ∧ i < 2 ^ 63) ∧ Q d (hup h a (.lst (xs.eraseIdx k)))
          | none => False
        | none => False
      | _ => False
    | _ => False
  else if m = "extend" then
    match as with
    | [.ref b] => match h a, h b with
      | some (.lst xs), some (.lst ys) => (xs.length ≤ big ∧ ys.length ≤ big) ∧ Q .non (hup h a (.lst (xs ++ ys)))
      | _, _ => False
    | _ => False
  else False
/-- keys whose hashes differ, whatever the hash of a text: one, or (i, j, x) with small i that differ, one small j, one x -/
def apartK (ks : List (List Ky)) : Prop := ks.length ≤ 1 ∨ ∃ (j : Nat) (x : Str) (is : List Nat), ks = is.map (fun (i : Nat) => [Sum.inl (i : Int), Sum.inl (j : Int), Sum.inr x]) ∧ (∀ i ∈ is, i < 24) ∧ j < 24 ∧ is.Nodup
/-- methods of dicts -/
def dctM (m : Str) (o : D) (as : List D) (h : Hd) (Q : Qd) : Prop :=
  if m = "get" then
    match as with
    | [k] => getP h o k fun r => Q (r.getD .non) h
    | [k, d] => getP h o k fun r => Q (r.getD d) h
    | _ => False
  else if m = "update" then
    match o, as with
    | .ref a, [.ref b] => match h a, h b with
      | some (.dT xs), some (.dT ys) => (a ≠ b ∧ xs.length + ys.length ≤ big ∧ (xs ≠ [] ∨ apartK (ys.map (·.1)))) ∧ Q .non (hup h a (.dT (merge xs ys)))
      | _, _ => False
    | _, _ => False
  else False

/-! ### the language -/
inductive Tg where
  | name (i : Nat) | tup (ts : List Tg)
mutual
def tgSet : Tg → D → Sg → Option Sg
  | .name i, d, σ => some (σ.set i (some d))
  | .tup ts, d, σ => match tupOf d with
    | some ds => tgSets ts ds σ
    | none => none
def tgSets : List Tg → List D → Sg → Option Sg
  | [], [], σ => some σ
  | t :: ts, d :: ds, σ => match tgSet t d σ with
    | some σ' => tgSets ts ds σ'
    | none => none
  | _, _, _ => none
end
mutual
inductive E where
  | var (i : Nat) | int (i : Int) | str (x : Str) | bl (b : Bool) | non | gl (x : Str)
  | neg (a : E) | bin (o : BOp) (a b : E) | cmp (o : COp) (a b : E) | chain (o o' : COp) (a b c : E)
  | and (a b : E) | or (a b : E) | not (a : E) | ite (c a b : E)
  | tup (es : Es) | lst (es : Es) | dct (t : Bool) (kvs : Kvs)
  | ix (o i : E) | sl (o : E) (lo hi : Oe) | rev (o : E)
  | call (x : Str) (es : Es) | callv (i : Nat) (es : Es) | mk (c : Str) (es : Es)
  | b1 (f : B1) (e : E) | min2 (a b : E) | max2 (a b : E) | isi (e : E) (T : Str) | lrange (e : E)
  | meth (m : Str) (o : E) (es : Es) | fld (f : Str) (o : E)
  | lc (e : E) (g : Tg) (it : It) (c : Oe) (own : List Nat)
  | dc (t : Bool) (k v : E) (g : Tg) (it : It) (c : Oe) (own : List Nat)
inductive Es where
  | nil | cons (e : E) (es : Es)
inductive Kvs where
  | nil | cons (k v : E) (r : Kvs)
inductive Oe where
  | none | some (e : E)
inductive It where
  | val (e : E) | keys (e : E) | items (e : E) | values (e : E) | chars (e : E) | range1 (a : E) | range2 (a b : E) | enum (it : It) | zip (a b : It)
end
/-- less is known -/
def SubS (σ' σ : Sg) : Prop := σ'.length = σ.length ∧ ∀ (i : Nat) (d : D), σ'[i]? = some (some d) → σ[i]? = some (some d)
def SubH (h' h : Hd) : Prop := ∀ a c, h' a = some c → h a = some c
theorem SubS.refl (σ : Sg) : SubS σ σ := ⟨rfl, fun _ _ e => e⟩
theorem SubH.refl (h : Hd) : SubH h h := fun _ _ e => e
theorem SubH.trans {a b c : Hd} (x : SubH a b) (y : SubH b c) : SubH a c := fun p q e => y p q (x p q e)
def wipeD (σ : Sg) : List Nat → Sg
  | [] => σ
  | v :: vs => (wipeD σ vs).set v none
/-- the turns of a list comprehension -/
def lcL (G : Hd → Prop) (g : Tg) (σ0 : Sg) (t : Sg → Hd → (Bool → Hd → Prop) → Prop) (e : Sg → Hd → Qd → Prop) : List D → List D → Hd → (List D → Hd → Prop) → Prop
  | [], acc, h, R => G h ∧ R acc h
  | d :: ds, acc, h, R => G h ∧ match tgSet g d σ0 with
    | some σ1 => t σ1 h fun b h1 => ifB b (e σ1 h1 fun v h2 => ∃ h3, SubH h3 h2 ∧ lcL G g σ0 t e ds (acc ++ [v]) h3 R) (∃ h3, SubH h3 h1 ∧ lcL G g σ0 t e ds acc h3 R)
    | none => False
/-- .. of a dict comprehension: keys by pk -/
def dcL {κ : Type} [DecidableEq κ] (pk : D → Option κ) (G : Hd → Prop) (g : Tg) (σ0 : Sg) (t : Sg → Hd → (Bool → Hd → Prop) → Prop) (k v : Sg → Hd → Qd → Prop) : List D → List (κ × D) → Hd → (List (κ × D) → Hd → Prop) → Prop
  | [], acc, h, R => G h ∧ R acc h
  | d :: ds, acc, h, R => G h ∧ match tgSet g d σ0 with
    | some σ1 => t σ1 h fun b h1 => ifB b (k σ1 h1 fun x h2 => v σ1 h2 fun y h3 => match pk x with
        | some z => ∃ h4, SubH h4 h3 ∧ dcL pk G g σ0 t k v ds (putD acc z y) h4 R
        | none => False) (∃ h4, SubH h4 h1 ∧ dcL pk G g σ0 t k v ds acc h4 R)
    | none => False
def kysT : D → Option (List Ky)
  | .tup xs => kysD xs
  | _ => none
def chars (x : Str) : List D := x.cps.toList.map fun c => .str ⟨#[c]⟩
structure Bits where
  and : Int → Int → Int
  or : Int → Int → Int
  xor : Int → Int → Int
section
variable (bt : Bits) (C : Ctx)
mutual
def wpE : E → Xd → Sg → Hd → Qr → Prop
  | .var i, X, σ, h, Q => match σ[i]? with
    | some (some d) => Q (.val d) h
    | _ => False
  | .int i, X, σ, h, Q => Q (.val (.int i)) h
  | .str x, X, σ, h, Q => Q (.val (.str x)) h
  | .bl b, X, σ, h, Q => Q (.val (.bl b)) h
  | .non, X, σ, h, Q => Q (.val .non) h
  | .gl x, X, σ, h, Q => match C.gl x with
    | some d => Q (.val d) h
    | none => False
  | .neg a, X, σ, h, Q => wpE a X σ h fun x h1 => match x with
    | .val (.int i) => Q (.val (.int (-i))) h1
    | _ => False
  | .bin o a b, X, σ, h, Q => wpE a X σ h fun x h1 => wpE b X σ h1 fun y h2 => binP bt.and bt.or bt.xor o x y h2 Q
  | .cmp o a b, X, σ, h, Q => wpE a X σ h fun x h1 => wpE b X σ h1 fun y h2 => cmpP o x y h2 fun c => Q (.val (.bl c)) h2
  | .chain o o' a b c, X, σ, h, Q => wpE a X σ h fun x h1 => wpE b X σ h1 fun y h2 => cmpP o x y h2 fun k => ifB k (wpE c X σ h2 fun z h3 => cmpP o' y z h3 fun c => Q (.val (.bl c)) h3) (Q (.val (.bl false)) h2)
  | .and a b, X, σ, h, Q => wpE a X σ h fun x h1 => truK x h1 fun c => ifB c (wpE b X σ h1 Q) (Q x h1)
  | .or a b, X, σ, h, Q => wpE a X σ h fun x h1 => truK x h1 fun c => ifB c (Q x h1) (wpE b X σ h1 Q)
  | .not a, X, σ, h, Q => wpE a X σ h fun x h1 => truK x h1 fun c => Q (.val (.bl (!c))) h1
  | .ite c a b, X, σ, h, Q => wpE c X σ h fun x h1 => truK x h1 fun c => ifB c (wpE a X σ h1 Q) (wpE b X σ h1 Q)
  | .tup es, X, σ, h, Q => wpEs es X σ h fun ds h1 => Q (.val (.tup ds)) h1
  | .lst es, X, σ, h, Q => wpEs es X σ h fun ds h1 => Q (.new ds) h1
  | .dct t kvs, X, σ, h, Q => wpKvs kvs X σ h fun ps h1 => match t with
    | true => ps = [] ∧ ∀ p, h1 p = none → Q (.val (.ref p)) (hup h1 p (.dT []))
    | false => ∃ ks : List (Ky × D), ps = ks.map (fun kv => (dKy kv.1, kv.2)) ∧ ∀ p, h1 p = none → Q (.val (.ref p)) (hup h1 p (.dK (merge [] ks)))
  | .ix o i, X, σ, h, Q => wpE o X σ h fun x h1 => wpE i X σ h1 fun y h2 => ixP x y h2 Q
  | .sl o lo hi, X, σ, h, Q => wpE o X σ h fun x h1 => wpO lo X σ h1 fun l h2 => wpO hi X σ h2 fun u h3 => slP x l u h3 Q
  | .rev o, X, σ, h, Q => wpE o X σ h fun x h1 => match lstOf x h1 with
    | some ds => Q (.new ds.reverse) h1
    | none => False
  | .call x es, X, σ, h, Q => wpEs es X σ h fun ds h1 => match C.fn x with
    | some S => S ds h1 (fun d h2 => Q (.val d) h2) (fun e h2 => X e σ h2)
    | none => False
  | .callv i es, X, σ, h, Q => match σ[i]? with
    | some (some (.fn x)) => wpEs es X σ h fun ds h1 => match C.fn x with
      | some S => S ds h1 (fun d h2 => Q (.val d) h2) (fun e h2 => X e σ h2)
      | none => False
    | _ => False
  | .mk c es, X, σ, h, Q => wpEs es X σ h fun ds h1 => match C.new c with
    | some S => ∀ p, h1 p = none → S (.ref p :: ds) (hup h1 p (.ins c [])) (fun d h2 => d = .non ∧ Q (.val (.ref p)) h2) (fun e h2 => X e σ h2)
    | none => False
  | .b1 f e, X, σ, h, Q => wpE e X σ h fun x h1 => b1P f x h1 Q
  | .min2 a b, X, σ, h, Q => wpE a X σ h fun x h1 => wpE b X σ h1 fun y h2 => match x, y with
    | .val (.int i), .val (.int j) => Q (.val (.int (if j < i then j else i))) h2
    | _, _ => False
  | .max2 a b, X, σ, h, Q => wpE a X σ h fun x h1 => wpE b X σ h1 fun y h2 => match x, y with
    | .val (.int i), .val (.int j) => Q (.val (.int (if j > i then j else i))) h2
    | _, _ => False
  | .isi e T, X, σ, h, Q => wpE e X σ h fun x h1 => isiP x T h1 fun b => Q (.val (.bl b)) h1
  | .lrange e, X, σ, h, Q => wpE e X σ h fun x h1 => match x with
    | .val (.int n) => (0 ≤ n ∧ n ≤ big) ∧ Q (.new ((List.range n.toNat).map fun (k : Nat) => D.int (k : Int))) h1
    | _ => False
  | .meth m o es, X, σ, h, Q => wpE o X σ h fun x h1 => match x with
    | .val (.ref a) => match h1 a with
      | some (.ins c fs) => (lstN m = false ∧ dctN m = false) ∧ wpEs es X σ h1 fun ds h2 => match C.mt c m with
        | some S => S (.ref a :: ds) h2 (fun d h3 => Q (.val d) h3) (fun e h3 => X e σ h3)
        | none => False
      | some (.lst _) => lstN m = true ∧ wpEs es X σ h1 fun ds h2 => lstM m a ds h2 fun d h3 => Q (.val d) h3
      | some (.dK _) => dctN m = true ∧ wpEs es X σ h1 fun ds h2 => dctM m (.ref a) ds h2 fun d h3 => Q (.val d) h3
      | some (.dT _) => dctN m = true ∧ wpEs es X σ h1 fun ds h2 => dctM m (.ref a) ds h2 fun d h3 => Q (.val d) h3
      | _ => False
    | .val (.kd kvs) => m = "get" ∧ wpEs es X σ h1 fun ds h2 => dctM m (.kd kvs) ds h2 fun d h3 => Q (.val d) h3
    | _ => False
  | .fld f o, X, σ, h, Q => wpE o X σ h fun x h1 => match x with
    | .val (.ref a) => match h1 a with
      | some (.ins c fs) => match fs.lookup f with
        | some d => Q (.val d) h1
        | none => False
      | _ => False
    | _ => False
  | .lc e g it c own, X, σ, h, Q => wpI it X σ h fun ds G h1 => ds.length ≤ big ∧ lcL G g (wipeD σ own) (fun σ h R => wpC c (fun _ _ _ => False) σ h R) (fun σ h R => wpE e (fun _ _ _ => False) σ h fun r h' => place r h' R) ds [] h1 fun acc h2 => Q (.new acc) h2
  | .dc t k v g it c own, X, σ, h, Q => wpI it X σ h fun ds G h1 => ds.length ≤ big ∧ match t with
    | true => dcL kysT G g (wipeD σ own) (fun σ h R => wpC c (fun _ _ _ => False) σ h R) (fun σ h R => wpE k (fun _ _ _ => False) σ h fun r h' => place r h' R) (fun σ h R => wpE v (fun _ _ _ => False) σ h fun r h' => place r h' R) ds [] h1 fun acc h2 => ∀ p, h2 p = none → Q (.val (.ref p)) (hup h2 p (.dT acc))
    | false => dcL kyD G g (wipeD σ own) (fun σ h R => wpC c (fun _ _ _ => False) σ h R) (fun σ h R => wpE k (fun _ _ _ => False) σ h fun r h' => place r h' R) (fun σ h R => wpE v (fun _ _ _ => False) σ h fun r h' => place r h' R) ds [] h1 fun acc h2 => ∀ p, h2 p = none → Q (.val (.ref p)) (hup h2 p (.dK acc))
def wpEs : Es → Xd → Sg → Hd → (List D → Hd → Prop) → Prop
  | .nil, X, σ, h, Q => Q [] h
  | .cons e es, X, σ, h, Q => wpE e X σ h fun r h1 => place r h1 fun d h2 => wpEs es X σ h2 fun ds h3 => Q (d :: ds) h3
def wpKvs : Kvs → Xd → Sg → Hd → (List (D × D) → Hd → Prop) → Prop
  | .nil, X, σ, h, Q => Q [] h
  | .cons k v r, X, σ, h, Q => wpE k X σ h fun x h1 => place x h1 fun dk h2 => wpE v X σ h2 fun y h3 => place y h3 fun dv h4 => wpKvs r X σ h4 fun ps h5 => Q ((dk, dv) :: ps) h5
def wpO : Oe → Xd → Sg → Hd → (Option Int → Hd → Prop) → Prop
  | .none, X, σ, h, Q => Q none h
  | .some e, X, σ, h, Q => wpE e X σ h fun x h1 => match x with
    | .val (.int i) => Q (some i) h1
    | _ => False
/-- a clause's test -/
def wpC : Oe → Xd → Sg → Hd → (Bool → Hd → Prop) → Prop
  | .none, X, σ, h, Q => Q true h
  | .some e, X, σ, h, Q => wpE e X σ h fun x h1 => truK x h1 fun b => Q b h1
def wpI : It → Xd → Sg → Hd → (List D → (Hd → Prop) → Hd → Prop) → Prop
  | .val e, X, σ, h, R => wpE e X σ h fun x h1 => seqP x h1 R
  | .chars e, X, σ, h, R => wpE e X σ h fun x h1 => match x with
    | .val (.str z) => R (chars z) (fun _ => True) h1
    | _ => False
  | .keys e, X, σ, h, R => wpE e X σ h fun x h1 => match keysOf x h1 with
    | some ds => match x with
      | .val (.ref a) => R ds (fun h' => h' a = h1 a) h1
      | _ => False
    | none => False
  | .items e, X, σ, h, R => wpE e X σ h fun x h1 => match x with
    | .val (.ref a) => match h1 a with
      | some (.dK kvs) => R (kvs.map fun kv => .tup [dKy kv.1, kv.2]) (fun h' => h' a = some (.dK kvs)) h1
      | some (.dT kvs) => R (kvs.map fun kv => .tup [dTup kv.1, kv.2]) (fun h' => h' a = some (.dT kvs)) h1
      | _ => False
    | _ => False
  | .values e, X, σ, h, R => wpE e X σ h fun x h1 => match x with
    | .val (.ref a) => match h1 a with
      | some (.dK kvs) => R (kvs.map fun kv => kv.2) (fun h' => h' a = some (.dK kvs)) h1
      | some (.dT kvs) => R (kvs.map fun kv => kv.2) (fun h' => h' a = some (.dT kvs)) h1
      | _ => False
    | _ => False
  | .range1 e, X, σ, h, R => wpE e X σ h fun x h1 => match x with
    | .val (.int n) => (0 ≤ n ∧ n ≤ big) ∧ R ((List.range n.toNat).map fun (k : Nat) => D.int (k : Int)) (fun _ => True) h1
    | _ => False
  | .range2 a b, X, σ, h, R => wpE a X σ h fun x h1 => wpE b X σ h1 fun y h2 => match x, y with
    | .val (.int i), .val (.int j) => (-(big : Int) ≤ i ∧ i ≤ big ∧ -(big : Int) ≤ j ∧ j ≤ big) ∧ R ((List.range (j - i).toNat).map fun (k : Nat) => D.int (i + (k : Int))) (fun _ => True) h2
    | _, _ => False
  | .enum it, X, σ, h, R => wpI it X σ h fun ds G h1 => ds.length ≤ big ∧ R ((List.range ds.length).zip ds |>.map fun p => .tup [.int p.1, p.2]) G h1
  | .zip a b, X, σ, h, R => wpI a X σ h fun ds G h1 => wpI b X σ h1 fun es G' h2 => G h2 ∧ R ((ds.zip es).map fun p => .tup [p.1, p.2]) (fun h => G h ∧ G' h) h2
end
end

/-! ### statements -/
structure Nx where
  nx : Sg → Hd → Prop
  rt : Qd
  bk : Sg → Hd → Prop := fun _ _ => False
  ct : Sg → Hd → Prop := fun _ _ => False
def Nx.put (D : Nx) (k : Sg → Hd → Prop) : Nx := { D with nx := k }
def Nx.turn (D : Nx) (k : Sg → Hd → Prop) : Nx := { D with nx := k, ct := k, bk := D.nx }
inductive Tt where
  | name (i : Nat) | tup (ts : List Tt) | sub (o i : E) | fld (o : E) (f : Str)
mutual
inductive S where
  | asg (t : Tt) (e : E) | par (is : List Nat) (es : Es) | aug (i : Nat) (o : BOp) (e : E) | augF (o : E) (f : Str) (p : BOp) (e : E) | augS (o k : E) (p : BOp) (e : E)
  | ex (e : E) | ret (e : E) | retN | ite (c : E) (a b : Ss) | whl (c : E) (b : Ss) | fr (g : Tg) (it : It) (b : Ss) | pass | brk | cont
  | rse (c : Str) (es : Es) | tryx (b : Ss) (c : Str) (n : Option Nat) (su : Ss) | never
inductive Ss where
  | nil | cons (s : S) (ss : Ss)
end
def excOf (c : Str) (as : List D) : Option D :=
  if c = "BadState" then (match as with | [_] => some (.exc c [] []) | _ => none)
  else if c = "BadPlan" then (match as with | [w] => some (.exc c ["word"] [w]) | _ => none)
  else if c = "BadDesign" then (match as with | [w] => some (.exc c ["word"] [w]) | _ => none)
  else if c = "Refused" then (match as with | [w] => some (.exc c ["word"] [w]) | _ => none)
  else if c = "BadProgram" then (match as with | [p, w] => some (.exc c ["place", "word"] [p, w]) | _ => none)
  else none
def errNames : List Str := ["BadState", "BadPlan", "BadDesign", "Refused", "BadProgram"]
/-- is it caught by `except c`? -/
def excK (c : Str) : D → Option Bool
  | .exc c' _ _ => if c' ∈ errNames then some (decide (c' = c)) else none
  | _ => none
/-- a loop's turns -/
def forL (G : Hd → Prop) (g : Tg) (body : Nx → Sg → Hd → Prop) : List D → Nx → Sg → Hd → Prop
  | [], D, σ, h => G h ∧ D.nx σ h
  | d :: ds, D, σ, h => G h ∧ match tgSet g d σ with
    | some σ1 => body (D.turn fun σ' h' => ∃ σ2 h2, SubS σ2 σ' ∧ SubH h2 h' ∧ forL G g body ds D σ2 h2) σ1 h
    | none => False
def whlL (t : Sg → Hd → (Bool → Hd → Prop) → Prop) (body : Nx → Sg → Hd → Prop) : Nat → Nx → Sg → Hd → Prop
  | 0, D, σ, h => False
  | n + 1, D, σ, h => t σ h fun b h1 => ifB b (body (D.turn fun σ' h' => ∃ σ2 h2, SubS σ2 σ' ∧ SubH h2 h' ∧ whlL t body n D σ2 h2) σ h1) (D.nx σ h1)
section
variable (bt : Bits) (C : Ctx)
def wpV (e : E) (X : Xd) (σ : Sg) (h : Hd) (Q : Qd) : Prop := wpE bt C e X σ h fun r h1 => place r h1 Q
def wpT (e : E) (X : Xd) (σ : Sg) (h : Hd) (Q : Bool → Hd → Prop) : Prop := wpE bt C e X σ h fun r h1 => truK r h1 fun b => Q b h1
def subLst (xs : List D) (a : Addr) (y d : D) (h : Hd) (R : Hd → Prop) : Prop := match y with
  | .int i => match ixD xs.length i with
    | some k => R (hup h a (.lst (xs.set k d)))
    | none => False
  | _ => False
def subSet (x y d : D) (h : Hd) (R : Hd → Prop) : Prop := match x with
  | .ref a => match h a with
    | some (.lst xs) => subLst xs a y d h R
    | _ => putP h a y d R
  | _ => False
def putFd (f : Str) (v : D) : List (Str × D) → List (Str × D)
  | [] => [(f, v)]
  | (g, w) :: r => if g = f then (f, v) :: r else (g, w) :: putFd f v r
mutual
def wpTt : Tt → D → Xd → Sg → Hd → (Sg → Hd → Prop) → Prop
  | .name i, d, X, σ, h, R => R (σ.set i (some d)) h
  | .tup ts, d, X, σ, h, R => match tupOf d with
    | some ds => ds.length = ts.length ∧ wpTts ts ds X σ h R
    | none => False
  | .sub o i, d, X, σ, h, R => wpV bt C o X σ h fun x h1 => wpV bt C i X σ h1 fun y h2 => subSet x y d h2 fun h3 => R σ h3
  | .fld o f, d, X, σ, h, R => wpV bt C o X σ h fun x h1 => match x with
    | .ref a => match h1 a with
      | some (.ins c fs) => fs.length < 100 ∧ R σ (hup h1 a (.ins c (putFd f d fs)))
      | _ => False
    | _ => False
def wpTts : List Tt → List D → Xd → Sg → Hd → (Sg → Hd → Prop) → Prop
  | [], [], X, σ, h, R => R σ h
  | t :: ts, d :: ds, X, σ, h, R => wpTt t d X σ h fun σ' h' => wpTts ts ds X σ' h' R
  | _, _, X, σ, h, R => False
end
def parSet : List Nat → List D → Sg → Option Sg
  | [], [], σ => some σ
  | i :: is, d :: ds, σ => parSet is ds (σ.set i (some d))
  | _, _, _ => none
mutual
def wpS : S → Xd → Nx → Sg → Hd → Prop
  | .asg t e, X, D, σ, h => wpV bt C e X σ h fun d h1 => wpTt bt C t d X σ h1 D.nx
  | .par is es, X, D, σ, h => wpEs bt C es X σ h fun ds h1 => match parSet is ds σ with
    | some σ' => D.nx σ' h1
    | none => False
  | .aug i o e, X, D, σ, h => match σ[i]? with
    | some (some x) => wpV bt C e X σ h fun y h1 => match x, y with
      | .int a, .int b => match o with
        | .add => D.nx (σ.set i (some (.int (a + b)))) h1
        | .sub => D.nx (σ.set i (some (.int (a - b)))) h1
        | _ => False
      | _, _ => False
    | _ => False
  | .augF o f p e, X, D, σ, h => wpV bt C o X σ h fun x h1 => match x with
    | .ref a => match h1 a with
      | some (.ins c fs) => match fs.lookup f with
        | some (.int u) => wpV bt C e X σ h1 fun y h2 => match y with
          | .int v => match h2 a with
            | some (.ins c' fs') => fs'.length < 100 ∧ match p with
              | .add => D.nx σ (hup h2 a (.ins c' (putFd f (.int (u + v)) fs')))
              | .sub => D.nx σ (hup h2 a (.ins c' (putFd f (.int (u - v)) fs')))
              | _ => False
            | _ => False
          | _ => False
        | _ => False
      | _ => False
    | _ => False
  | .augS o k p e, X, D, σ, h => False
  | .ex e, X, D, σ, h => wpE bt C e X σ h fun r h1 => place r h1 fun _ h2 => D.nx σ h2
  | .ret e, X, D, σ, h => wpV bt C e X σ h D.rt
  | .retN, X, D, σ, h => D.rt .non h
  | .ite c a b, X, D, σ, h => wpT bt C c X σ h fun k h1 => ifB k (wpSs a X D σ h1) (wpSs b X D σ h1)
  | .whl c b, X, D, σ, h => ∃ n, whlL (fun σ h R => wpT bt C c X σ h R) (fun D σ h => wpSs b X D σ h) n D σ h
  | .fr g it b, X, D, σ, h => wpI bt C it X σ h fun ds G h1 => ds.length ≤ big ∧ forL G g (fun D σ h => wpSs b X D σ h) ds D σ h1
  | .pass, X, D, σ, h => D.nx σ h
  | .brk, X, D, σ, h => D.bk σ h
  | .cont, X, D, σ, h => D.ct σ h
  | .rse c es, X, D, σ, h => wpEs bt C es X σ h fun ds h1 => match excOf c ds with
    | some x => X x σ h1
    | none => False
  | .tryx b c n su, X, D, σ, h => wpSs b (fun x σ' h' => match excK c x with
    | some true => (match n with
      | some i => wpSs su (fun _ _ _ => False) (D.put fun σ2 h2 => D.nx (σ2.set i none) h2) (σ'.set i (some x)) h'
      | none => wpSs su (fun _ _ _ => False) D σ' h')
    | some false => X x σ' h'
    | none => False) D σ h
  | .never, X, D, σ, h => False
def wpSs : Ss → Xd → Nx → Sg → Hd → Prop
  | .nil, X, D, σ, h => D.nx σ h
  | .cons s ss, X, D, σ, h => wpS s X (D.put fun σ' h' => wpSs ss X D σ' h') σ h
end
end
end AR
end

section
set_option Elab.async false
set_option linter.all false
set_option maxRecDepth 100000
set_option maxHeartbeats 2000000
/-! DL2: what data stand for what values, over the abstract heap of HandS; frames. -/
namespace AR
open PySem PySem.Spec PyProof.Rows L2
abbrev Fg := PySem.W.Frag
def KTup (K : Fg) (a : Addr) (xs : List V) : Prop :=
  ∃ (o : Obj) (its : Array Value) (n : Nat), K.lookup a = some o ∧ o.cls = .type "tuple" ∧ o.data = .seq its n ∧ its.size ≤ sizeLine ∧ Vals xs its.toList
structure Wd where
  K : Fg
  mg : Str → Option Value
  w : World
def KDic (W : Wd) (a : Addr) (kvs : List (Str × Str)) : Prop :=
  (∀ kv ∈ kvs, PyData.strOk kv.2 = true) ∧ ∃ es n, L2.KDict W.K W.w a es n ∧ ∀ z : Str, ∃ r, PySem.W.nsIn W.K a z = some r ∧ L2.RelO (((kvs.find? fun kv => decide (kv.1 = z)).map (·.2)).map V.str) r
mutual
inductive Rep (W : Wd) (H : Hp) : D → V → Prop where
  | non : Rep W H .non .non
  | bl (b : Bool) : Rep W H (.bl b) (.bl b)
  | int (i : Int) : Rep W H (.int i) (.int i)
  | str (x : Str) (k : PyData.strOk x = true) : Rep W H (.str x) (.str x)
  | ref (a : Addr) : Rep W H (.ref a) (.ref a)
  | tup {ds : List D} {vs : List V} {a : Addr} (e : H a = some (.tup vs)) (r : Reps W H ds vs) : Rep W H (.tup ds) (.ref a)
  | kt {ds : List D} {vs : List V} {a : Addr} (e : KTup W.K a vs) (r : Reps W H ds vs) : Rep W H (.kt ds) (.ref a)
  | rl {ds : List D} {vs : List V} {a : Addr} (e : (∃ o, H a = some (.frz o (.lst vs))) ∨ ∀ H', SqL W.K H' a vs) (r : Reps W H ds vs) : Rep W H (.rl ds) (.ref a)
  | kd {kvs : List (Str × Str)} {a : Addr} (e : KDic W a kvs) : Rep W H (.kd kvs) (.ref a)
  | fn {x : Str} {f : Addr} (e : W.mg x = some (.ref f)) : Rep W H (.fn x) (.ref f)
  | ty {x : Str} {n : String} (e : x = Str.ofString n) : Rep W H (.ty n) (.ty n)
  | exc {c : Str} {fs : List Str} {vs : List D} (a : Addr) : Rep W H (.exc c fs vs) (.ref a)
inductive Reps (W : Wd) (H : Hp) : List D → List V → Prop where
  | nil : Reps W H [] []
  | cons {d : D} {v : V} {ds : List D} {vs : List V} (h : Rep W H d v) (t : Reps W H ds vs) : Reps W H (d :: ds) (v :: vs)
end
section
variable {W : Wd} {H H' : Hp}
theorem Reps.length : ∀ {ds : List D} {vs : List V}, Reps W H ds vs → ds.length = vs.length
  | _, _, .nil => rfl
  | _, _, .cons _ t => by simp [Reps.length t]
/-- what never changes -/
def Fx : HO → Prop
  | .tup _ => True
  | .frz _ (.lst _) => True
  | _ => False
mutual
theorem Rep.mono (k : ∀ a o, Fx o → H a = some o → H' a = some o) : ∀ {d : D} {v : V}, Rep W H d v → Rep W H' d v
  | _, _, .non => .non
  | _, _, .bl b => .bl b
  | _, _, .int i => .int i
  | _, _, .str x k => .str x k
  | _, _, .ref a => .ref a
  | _, _, .tup e r => .tup (k _ _ trivial e) (Reps.mono k r)
  | _, _, .rl (.inl ⟨o, e⟩) r => .rl (.inl ⟨o, k _ _ trivial e⟩) (Reps.mono k r)
  | _, _, .rl (.inr e) r => .rl (.inr e) (Reps.mono k r)
  | _, _, .kt e r => .kt e (Reps.mono k r)
  | _, _, .kd e => .kd e
  | _, _, .fn e => .fn e
  | _, _, .ty e => .ty e
  | _, _, .exc a => .exc a
theorem Reps.mono (k : ∀ a o, Fx o → H a = some o → H' a = some o) : ∀ {ds : List D} {vs : List V}, Reps W H ds vs → Reps W H' ds vs
  | _, _, .nil => .nil
  | _, _, .cons h t => .cons (Rep.mono k h) (Reps.mono k t)
end
theorem Reps.get : ∀ {ds : List D} {vs : List V} {i : Nat} {d : D}, Reps W H ds vs → ds[i]? = some d → ∃ v, vs[i]? = some v ∧ Rep W H d v
  | _, _, _, _, .nil, e => by simp at e
  | _, _, 0, _, .cons r _, e => by simp at e; subst e; exact ⟨_, rfl, r⟩
  | _, _, i + 1, d, .cons _ t, e => by
    obtain ⟨u, h1, h2⟩ := Reps.get (i := i) (d := d) t (by simpa using e)
    exact ⟨u, by simpa using h1, h2⟩
theorem Reps.append : ∀ {ds es : List D} {vs ws : List V}, Reps W H ds vs → Reps W H es ws → Reps W H (ds ++ es) (vs ++ ws)
  | _, _, _, _, .nil, s => s
  | _, _, _, _, .cons r t, s => .cons r (Reps.append t s)
theorem Reps.take : ∀ {ds : List D} {vs : List V} (n : Nat), Reps W H ds vs → Reps W H (ds.take n) (vs.take n)
  | _, _, 0, _ => .nil
  | _, _, _ + 1, .nil => .nil
  | _, _, n + 1, .cons r t => .cons r (Reps.take n t)
theorem Reps.drop : ∀ {ds : List D} {vs : List V} (n : Nat), Reps W H ds vs → Reps W H (ds.drop n) (vs.drop n)
  | _, _, 0, r => r
  | _, _, _ + 1, .nil => .nil
  | _, _, n + 1, .cons _ t => Reps.drop n t
theorem Reps.set {d : D} {v : V} (r : Rep W H d v) : ∀ {ds : List D} {vs : List V} (i : Nat), Reps W H ds vs → Reps W H (ds.set i d) (vs.set i v)
  | _, _, _, .nil => .nil
  | _, _, 0, .cons _ t => .cons r t
  | _, _, i + 1, .cons q t => .cons q (Reps.set r i t)
theorem Reps.eraseIdx : ∀ {ds : List D} {vs : List V} (i : Nat), Reps W H ds vs → Reps W H (ds.eraseIdx i) (vs.eraseIdx i)
  | _, _, _, .nil => .nil
  | _, _, 0, .cons _ t => t
  | _, _, i + 1, .cons q t => .cons q (Reps.eraseIdx i t)
theorem Reps.reverse : ∀ {ds : List D} {vs : List V}, Reps W H ds vs → Reps W H ds.reverse vs.reverse
  | _, _, .nil => .nil
  | _, _, .cons q t => by
    rw [List.reverse_cons, List.reverse_cons]
    exact (Reps.reverse t).append (.cons q .nil)
theorem Reps.dropLast : ∀ {ds : List D} {vs : List V}, Reps W H ds vs → Reps W H ds.dropLast vs.dropLast
  | _, _, .nil => .nil
  | _, _, .cons q .nil => .nil
  | _, _, .cons q (.cons r t) => .cons q (Reps.dropLast (.cons r t))
theorem Reps.rep {ds : List D} {vs : List V} (r : Reps W H ds vs) : ∀ k : Nat, Reps W H (List.replicate k ds).flatten (List.replicate k vs).flatten
  | 0 => .nil
  | k + 1 => by
    rw [List.replicate_succ, List.replicate_succ, List.flatten_cons, List.flatten_cons]
    exact r.append (Reps.rep r k)
theorem Reps.nil_iff {ds : List D} {vs : List V} (r : Reps W H ds vs) : vs = [] ↔ ds = [] := by
  cases r <;> simp

/-! ### cells -/
/-- keys whose texts are whole -/
class KOk (κ : Type) where
  ok : κ → Prop
instance : KOk Ky := ⟨fun k => match k with
  | .inl _ => True
  | .inr x => PyData.strOk x = true⟩
instance : KOk (List Ky) := ⟨fun ks => ∀ x, Sum.inr x ∈ ks → PyData.strOk x = true⟩
instance : KOk Str := ⟨fun _ => True⟩
inductive RepKV {κ : Type} [KOk κ] (W : Wd) (H : Hp) : List (κ × D) → List (κ × V) → Prop where
  | nil : RepKV W H [] []
  | cons {k : κ} {d : D} {v : V} {ds : List (κ × D)} {vs : List (κ × V)} (o : KOk.ok k) (h : Rep W H d v) (t : RepKV W H ds vs) : RepKV W H ((k, d) :: ds) ((k, v) :: vs)
theorem RepKV.mono {κ : Type} [KOk κ] (k : ∀ a o, Fx o → H a = some o → H' a = some o) : ∀ {ds : List (κ × D)} {vs : List (κ × V)}, RepKV W H ds vs → RepKV W H' ds vs
  | _, _, .nil => .nil
  | _, _, .cons o h t => .cons o (Rep.mono k h) (RepKV.mono k t)
theorem RepKV.length {κ : Type} [KOk κ] : ∀ {ds : List (κ × D)} {vs : List (κ × V)}, RepKV W H ds vs → ds.length = vs.length
  | _, _, .nil => rfl
  | _, _, .cons _ _ t => by simp [RepKV.length t]
def RepC (W : Wd) (H : Hp) (a : Addr) : Cl → Prop
  | .lst ds => ∃ vs, H a = some (.lst vs) ∧ Reps W H ds vs
  | .dK kvs => ∃ vs, H a = some (.dK vs) ∧ RepKV W H kvs vs
  | .dT kvs => ∃ vs, H a = some (.dT vs) ∧ RepKV W H kvs vs
  | .lkK kvs => ∃ o vs, H a = some (.frz o (.dK vs)) ∧ RepKV W H kvs vs
  | .lkT kvs => ∃ o vs, H a = some (.frz o (.dT vs)) ∧ RepKV W H kvs vs
  | .ins c fs => ∃ C dx vs, W.mg c = some (.ref C) ∧ H a = some (.ins C dx vs) ∧ RepKV W H fs vs
def RepH (W : Wd) (h : Hd) (H : Hp) : Prop := ∀ a c, h a = some c → RepC W H a c
theorem RepC.there {a : Addr} {c : Cl} (r : RepC W H a c) : ∃ o, H a = some o ∧ ¬ Fx o := by
  cases c with
  | lst ds => obtain ⟨vs, e1, _⟩ := r; exact ⟨_, e1, fun z => z⟩
  | dK ds => obtain ⟨vs, e1, _⟩ := r; exact ⟨_, e1, fun z => z⟩
  | dT ds => obtain ⟨vs, e1, _⟩ := r; exact ⟨_, e1, fun z => z⟩
  | lkK ds => obtain ⟨o, vs, e1, _⟩ := r; exact ⟨_, e1, fun z => z⟩
  | lkT ds => obtain ⟨o, vs, e1, _⟩ := r; exact ⟨_, e1, fun z => z⟩
  | ins c fs => obtain ⟨C, dx, vs, _, e1, _⟩ := r; exact ⟨_, e1, fun z => z⟩
/-- a cell's meaning leans on its own address and on what never changes -/
theorem RepC.mono {a : Addr} {c : Cl} (k : ∀ b o, Fx o → H b = some o → H' b = some o) (ka : H' a = H a) (r : RepC W H a c) : RepC W H' a c := by
  cases c with
  | lst ds => obtain ⟨vs, e1, q⟩ := r; exact ⟨vs, ka.trans e1, q.mono k⟩
  | dK ds => obtain ⟨vs, e1, q⟩ := r; exact ⟨vs, ka.trans e1, q.mono k⟩
  | dT ds => obtain ⟨vs, e1, q⟩ := r; exact ⟨vs, ka.trans e1, q.mono k⟩
  | lkK ds => obtain ⟨o, vs, e1, q⟩ := r; exact ⟨o, vs, ka.trans e1, q.mono k⟩
  | lkT ds => obtain ⟨o, vs, e1, q⟩ := r; exact ⟨o, vs, ka.trans e1, q.mono k⟩
  | ins c fs => obtain ⟨C, dx, vs, m, e1, q⟩ := r; exact ⟨C, dx, vs, m, ka.trans e1, q.mono k⟩
theorem RepH.fx {h : Hd} (r : RepH W h H) {a : Addr} {o : HO} (f : Fx o) (e : H a = some o) : h a = none := by
  cases q : h a with
  | none => rfl
  | some c =>
    obtain ⟨o', e', n⟩ := (r a c q).there
    rw [e] at e'; cases e'
    exact absurd f n
theorem RepH.free {h : Hd} (r : RepH W h H) {a : Addr} (e : H a = none) : h a = none := by
  cases q : h a with
  | none => rfl
  | some c =>
    obtain ⟨o', e', n⟩ := (r a c q).there
    rw [e] at e'; cases e'

/-! ### frames -/
/-- what the data do not hold stays, and stays unheld -/
structure Fr (h : Hd) (H : Hp) (h' : Hd) (H' : Hp) : Prop where
  st : ∀ a o, h a = none → H a = some o → H' a = some o ∧ h' a = none
  th : ∀ a o, H a = some o → ∃ o', H' a = some o'
theorem Fr.refl {h : Hd} : Fr h H h H := ⟨fun _ _ e1 e2 => ⟨e2, e1⟩, fun _ o e => ⟨o, e⟩⟩
theorem Fr.trans {h h1 h2 : Hd} {H1 H2 : Hp} (a : Fr h H h1 H1) (b : Fr h1 H1 h2 H2) : Fr h H h2 H2 := ⟨fun x o e1 e2 =>
  let ⟨q1, q2⟩ := a.st x o e1 e2
  b.st x o q2 q1, fun x o e => let ⟨o1, e1⟩ := a.th x o e; b.th x o1 e1⟩
theorem Fr.fx {h h' : Hd} (f : Fr h H h' H') (r : RepH W h H) : ∀ a o, Fx o → H a = some o → H' a = some o := fun a o z e => (f.st a o (r.fx z e) e).1
theorem Fr.free {h h' : Hd} (f : Fr h H h' H') {a : Addr} (e : H' a = none) : H a = none := by
  cases q : H a with
  | none => rfl
  | some o => obtain ⟨o', e'⟩ := f.th a o q; rw [e] at e'; cases e'
theorem upd_th {p : Addr} {o : HO} : ∀ a u, H a = some u → ∃ o', upd H p o a = some o' := fun a u e => by
  by_cases h : a = p
  · exact ⟨o, by rw [h, upd_same]⟩
  · exact ⟨u, by rw [upd_ne h]; exact e⟩
/-- a new object, not held | held -/
theorem Fr.new {h : Hd} {p : Addr} {o : HO} (n : H p = none) : Fr h H h (upd H p o) := ⟨fun a u e1 e2 => ⟨by rw [upd_ne (ne_of_none e2 n)]; exact e2, e1⟩, upd_th⟩
theorem Fr.newH {h : Hd} {p : Addr} {o : HO} {c : Cl} (n : H p = none) : Fr h H (hup h p c) (upd H p o) := ⟨fun a u e1 e2 =>
  ⟨by rw [upd_ne (ne_of_none e2 n)]; exact e2, by rw [hup_ne (ne_of_none e2 n)]; exact e1⟩, upd_th⟩
/-- a held cell changes -/
theorem Fr.set {h : Hd} {p : Addr} {o : HO} {c d : Cl} (e : h p = some d) : Fr h H (hup h p c) (upd H p o) := ⟨fun a u e1 e2 => by
  have ne : a ≠ p := fun z => by rw [z, e] at e1; cases e1
  exact ⟨by rw [upd_ne ne]; exact e2, by rw [hup_ne ne]; exact e1⟩, upd_th⟩
theorem fx_new {p : Addr} {o : HO} (n : H p = none) : ∀ b u, Fx u → H b = some u → upd H p o b = some u := fun b u _ e => by rw [upd_ne (ne_of_none e n)]; exact e
theorem fx_set {p : Addr} {o o' : HO} (e : H p = some o') (nf : ¬ Fx o') : ∀ b u, Fx u → H b = some u → upd H p o b = some u := fun b u f e' => by
  rw [upd_ne (fun z => by rw [z, e] at e'; cases e'; exact nf f)]; exact e'
theorem RepH.new {h : Hd} {p : Addr} {o : HO} (r : RepH W h H) (n : H p = none) : RepH W h (upd H p o) := fun a c e => by
  have ne : a ≠ p := fun z => by rw [z, r.free n] at e; cases e
  exact (r a c e).mono (fx_new n) (upd_ne ne)
theorem RepH.newH {h : Hd} {p : Addr} {o : HO} {c : Cl} (r : RepH W h H) (n : H p = none) (rc : RepC W (upd H p o) p c) : RepH W (hup h p c) (upd H p o) := fun a d e => by
  by_cases hp : a = p
  · subst hp; rw [hup_same] at e; cases e; exact rc
  · rw [hup_ne hp] at e
    exact (r a d e).mono (fx_new n) (upd_ne hp)
/-- an unheld object becomes held -/
theorem RepH.hold {h : Hd} {p : Addr} {c : Cl} (r : RepH W h H) (rc : RepC W H p c) : RepH W (hup h p c) H := fun a d e => by
  by_cases hp : a = p
  · subst hp; rw [hup_same] at e; cases e; exact rc
  · rw [hup_ne hp] at e; exact r a d e
theorem RepH.set {h : Hd} {p : Addr} {o : HO} {c d : Cl} (r : RepH W h H) (e0 : h p = some d) (rc : RepC W (upd H p o) p c) : RepH W (hup h p c) (upd H p o) := fun a d' e => by
  obtain ⟨o', e', nf⟩ := (r p d e0).there
  by_cases hp : a = p
  · subst hp; rw [hup_same] at e; cases e; exact rc
  · rw [hup_ne hp] at e
    exact (r a d' e).mono (fx_set e' nf) (upd_ne hp)
theorem RepH.sub {h h' : Hd} (r : RepH W h' H) (s : ∀ a c, h a = some c → h' a = some c) : RepH W h H := fun a c e => r a c (s a c e)
/-- slots -/
def RepS (W : Wd) (H : Hp) (σ : Sg) (τ : L2.St) : Prop := σ.length = τ.length ∧ ∀ (i : Nat) (d : D), σ[i]? = some (some d) → ∃ v, τ[i]? = some (some v) ∧ Rep W H d v
theorem RepS.mono {σ : Sg} {τ : L2.St} (k : ∀ b o, Fx o → H b = some o → H' b = some o) (r : RepS W H σ τ) : RepS W H' σ τ := ⟨r.1, fun i d e => let ⟨v, e1, q⟩ := r.2 i d e; ⟨v, e1, q.mono k⟩⟩
theorem RepS.set {σ : Sg} {τ : L2.St} {i : Nat} {d : D} {v : V} (r : RepS W H σ τ) (q : Rep W H d v) : RepS W H (σ.set i (some d)) (τ.set i (some v)) := by
  refine ⟨by simp [r.1], fun j e he => ?_⟩
  by_cases hj : i = j
  · subst hj
    by_cases hl : i < σ.length
    · rw [List.getElem?_set_self hl] at he; cases he
      exact ⟨v, by rw [List.getElem?_set_self (by rw [← r.1]; exact hl)], q⟩
    · rw [List.getElem?_eq_none (by simpa using hl)] at he; cases he
  · rw [List.getElem?_set_ne hj] at he
    obtain ⟨w, e1, q1⟩ := r.2 j e he
    exact ⟨w, by rw [List.getElem?_set_ne hj]; exact e1, q1⟩
theorem RepS.unset {σ : Sg} {τ : L2.St} {i : Nat} (r : RepS W H σ τ) : RepS W H (σ.set i none) (τ.set i none) := by
  refine ⟨by simp [r.1], fun j e he => ?_⟩
  by_cases hj : i = j
  · subst hj
    by_cases hl : i < σ.length
    · rw [List.getElem?_set_self hl] at he; cases he
    · rw [List.getElem?_eq_none (by simpa using hl)] at he; cases he
  · rw [List.getElem?_set_ne hj] at he
    obtain ⟨w, e1, q1⟩ := r.2 j e he
    exact ⟨w, by rw [List.getElem?_set_ne hj]; exact e1, q1⟩
theorem RepS.wipe {σ : Sg} {τ : L2.St} (r : RepS W H σ τ) : ∀ vs : List Nat, RepS W H (wipeD σ vs) (L2.wipe τ vs)
  | [] => r
  | v :: vs => by
    unfold wipeD L2.wipe
    exact (RepS.wipe r vs).unset
/-- a result: from the heap H on -/
def RepR (W : Wd) (H : Hp) (h' : Hd) (H' : Hp) : Res → V → Prop
  | .val d, v => Rep W H' d v
  | .new ds, v => ∃ a vs, v = .ref a ∧ H a = none ∧ h' a = none ∧ H' a = some (.lst vs) ∧ Reps W H' ds vs
theorem RepR.mono {H0 : Hp} {h h' : Hd} {r : Res} {v : V} (q : RepR W H0 h H r v) (f : Fr h H h' H') (rh : RepH W h H) : RepR W H0 h' H' r v := by
  cases r with
  | val d => exact Rep.mono (f.fx rh) q
  | new ds =>
    obtain ⟨a, vs, e, n, n', l, r⟩ := q
    obtain ⟨l', n2⟩ := f.st a _ n' l
    exact ⟨a, vs, e, n, n2, l', r.mono (f.fx rh)⟩
theorem RepR.base {H0 H1 : Hp} {h0 h1 h : Hd} {r : Res} {v : V} (q : RepR W H1 h H r v) (f : Fr h0 H0 h1 H1) : RepR W H0 h H r v := by
  cases r with
  | val d => exact q
  | new ds =>
    obtain ⟨a, vs, e, n, r⟩ := q
    exact ⟨a, vs, e, f.free n, r⟩
/-- the new list gets its place -/
theorem place_ok {H0 : Hp} {h0 h : Hd} {r : Res} {v : V} {Q : Qd} (p : place r h Q) (q : RepR W H0 h H r v) (f : Fr h0 H0 h H) (rh : RepH W h H) : ∃ d h', Rep W H d v ∧ RepH W h' H ∧ Fr h0 H0 h' H ∧ Q d h' := by
  cases r with
  | val d => exact ⟨d, h, q, rh, f, p⟩
  | new ds =>
    obtain ⟨a, vs, e, n, n', l, r⟩ := q
    subst e
    refine ⟨.ref a, hup h a (.lst ds), .ref a, rh.hold ⟨vs, l, r⟩, ⟨fun b o e1 e2 => ?_, f.th⟩, p a n'⟩
    obtain ⟨q1, q2⟩ := f.st b o e1 e2
    exact ⟨q1, by rw [hup_ne (ne_of_none e2 n)]; exact q2⟩
/-- an exception -/
def RepX (W : Wd) (H : Hp) : D → Value → Option Addr → Prop
  | .exc c fs vs, cls, d => ∃ C, W.mg c = some (.ref C) ∧ cls = .ref C ∧ ((fs = [] ∧ d = none) ∨ ∃ dd ws, d = some dd ∧ H dd = some (.xd (fs.zip ws)) ∧ Reps W H vs ws ∧ fs.length = vs.length)
  | _, _, _ => False
end
end AR
end

section
set_option Elab.async false
set_option linter.all false
set_option maxRecDepth 100000
set_option maxHeartbeats 4000000
/-! DL3: the lifting; operators by values. -/
namespace AR
open PySem PySem.Spec PyProof.Rows L2
def bt : Bits := ⟨Builtin.bitAnd, Builtin.bitOr, Builtin.bitXor⟩
def wd (X : Cx) : Wd := ⟨X.K, X.mg, X.w⟩
/-- what is wished of exceptions, over data, is so over values -/
def XW (W : Wd) (h : Hd) (H : Hp) (Xd : Xd) (Wx : WX) : Prop := ∀ x σ h' cls d τ H', Fr h H h' H' → RepH W h' H' → RepS W H' σ τ → RepX W H' x cls d → Xd x σ h' → Wx cls d τ H'
structure At (W : Wd) (Wx : WX) (Xd : Xd) (σ : Sg) (τ : L2.St) (h : Hd) (H : Hp) : Prop where
  s : RepS W H σ τ
  hh : RepH W h H
  x : XW W h H Xd Wx
section
variable {W : Wd} {Wx : WX} {Xd : Xd} {σ : Sg} {τ : L2.St} {h h' : Hd} {H H' : Hp} {C : Ctx}
theorem At.go (a : At W Wx Xd σ τ h H) (f : Fr h H h' H') (r : RepH W h' H') : At W Wx Xd σ τ h' H' :=
  ⟨a.s.mono (f.fx a.hh), r, fun x σ h2 cls d τ H2 f2 r2 s2 rx q => a.x x σ h2 cls d τ H2 (f.trans f2) r2 s2 rx q⟩
def TE (W : Wd) (C : Ctx) (Wx : WX) (e : E) : L2.TE := fun τ H QV => ∃ σ h X Q, At W Wx X σ τ h H ∧ wpE bt C e X σ h Q ∧ ∀ r h' v H', Fr h H h' H' → RepH W h' H' → RepR W H h' H' r v → Q r h' → QV v H'
def TV (W : Wd) (C : Ctx) (Wx : WX) (e : E) : L2.TE := fun τ H QV => ∃ σ h X Q, At W Wx X σ τ h H ∧ wpV bt C e X σ h Q ∧ ∀ d h' v H', Fr h H h' H' → RepH W h' H' → Rep W H' d v → Q d h' → QV v H'
def TT (W : Wd) (C : Ctx) (Wx : WX) (e : E) : L2.TT := fun τ H QV => ∃ σ h X Q, At W Wx X σ τ h H ∧ wpT bt C e X σ h Q ∧ ∀ b h' H', Fr h H h' H' → RepH W h' H' → Q b h' → QV b H'
def TA (W : Wd) (C : Ctx) (Wx : WX) (es : Es) : L2.TA := fun τ H QV => ∃ σ h X Q, At W Wx X σ τ h H ∧ wpEs bt C es X σ h Q ∧ ∀ ds h' vs H', Fr h H h' H' → RepH W h' H' → Reps W H' ds vs → Q ds h' → QV vs H'
def TO (W : Wd) (C : Ctx) (Wx : WX) (e : Oe) : L2.TO := fun τ H QV => ∃ σ h X Q, At W Wx X σ τ h H ∧ wpO bt C e X σ h Q ∧ ∀ o h' H', Fr h H h' H' → RepH W h' H' → Q o h' → QV o H'
theorem PE.imp {X : Cx} {e : Expr} {t t' : L2.TE} (h : PE X e t) (i : ∀ σ H Q, t' σ H Q → t σ H Q) : PE X e t' := ⟨fun pins s σ H Q I q => h.run pins s σ H Q I (i _ _ _ q)⟩
theorem PT.imp {X : Cx} {e : Expr} {t t' : L2.TT} (h : PT X e t) (i : ∀ σ H Q, t' σ H Q → t σ H Q) : PT X e t' := ⟨fun pins s σ H Q I q => h.run pins s σ H Q I (i _ _ _ q)⟩
theorem PW.imp {X : Cx} {e : Expr} {t t' : L2.TT} (h : PW X e t) (i : ∀ σ H Q, t' σ H Q → t σ H Q) : PW X e t' := ⟨fun wh pins s σ H Q I q => h.run wh pins s σ H Q I (i _ _ _ q)⟩
theorem PA.imp {X : Cx} {e : List Expr} {t t' : L2.TA} (h : PA X e t) (i : ∀ σ H Q, t' σ H Q → t σ H Q) : PA X e t' := ⟨fun pos pins s σ H Q I q => h.run pos pins s σ H Q I (i _ _ _ q)⟩
theorem one {a : E} {P : Res → Hd → Prop} {R : VK} (at_ : At W Wx Xd σ τ h H) (hw : wpE bt C a Xd σ h P) (k : ∀ x h1 vx H1, Fr h H h1 H1 → RepH W h1 H1 → RepR W H h1 H1 x vx → P x h1 → R vx H1) : TE W C Wx a τ H R := ⟨σ, h, Xd, P, at_, hw, k⟩
theorem oneV {a : E} {P : Qd} {R : VK} (at_ : At W Wx Xd σ τ h H) (hw : wpE bt C a Xd σ h fun r h1 => place r h1 P) (k : ∀ x h1 vx H1, Fr h H h1 H1 → RepH W h1 H1 → Rep W H1 x vx → P x h1 → R vx H1) : TE W C Wx a τ H R :=
  ⟨σ, h, Xd, _, at_, hw, fun r h1 v H1 f rh rr p => by
    obtain ⟨d, h2, q, rh2, f2, p2⟩ := place_ok p rr f rh
    exact k d h2 v H1 f2 rh2 q p2⟩
theorem two {a b : E} {P : Res → Res → Hd → Prop} {R : V → V → Hp → Prop} (at_ : At W Wx Xd σ τ h H) (hw : wpE bt C a Xd σ h fun x h1 => wpE bt C b Xd σ h1 fun y h2 => P x y h2)
    (k : ∀ x y h2 vx vy H2, Fr h H h2 H2 → RepH W h2 H2 → RepR W H h2 H2 x vx → RepR W H h2 H2 y vy → P x y h2 → R vx vy H2) : TE W C Wx a τ H fun vx H1 => TE W C Wx b τ H1 fun vy H2 => R vx vy H2 :=
  one at_ hw fun x h1 vx H1 f rh rr p => one (at_.go f rh) p fun y h2 vy H2 f2 rh2 rr2 p2 => k x y h2 vx vy H2 (f.trans f2) rh2 (rr.mono f2 rh) (rr2.base f) p2

/-! ### operators -/
def rD (W : Wd) (f : Res → Res → Hd → Qr → Prop) : R2 := fun vx vy H QV => ∃ h x y H0 Q, RepH W h H ∧ RepR W H0 h H x vx ∧ RepR W H0 h H y vy ∧ f x y h Q ∧ ∀ r h' v H', Fr h H h' H' → RepH W h' H' → RepR W H h' H' r v → Q r h' → QV v H'
/-- a fresh tuple, a fresh list -/
theorem fin_tup {ds : List D} {vs : List V} {Q : Qr} {QV : VK} {p : Addr} (n : H p = none) (rh : RepH W h H) (r : Reps W H ds vs) (q : Q (.val (.tup ds)) h) (k : ∀ r h' v H', Fr h H h' H' → RepH W h' H' → RepR W H h' H' r v → Q r h' → QV v H') : QV (.ref p) (upd H p (.tup vs)) :=
  k (.val (.tup ds)) h _ _ (Fr.new n) (rh.new n) (.tup upd_same (r.mono (fx_new n))) q
theorem fin_new {ds : List D} {vs : List V} {Q : Qr} {QV : VK} {p : Addr} (n : H p = none) (rh : RepH W h H) (r : Reps W H ds vs) (q : Q (.new ds) h) (k : ∀ r h' v H', Fr h H h' H' → RepH W h' H' → RepR W H h' H' r v → Q r h' → QV v H') : QV (.ref p) (upd H p (.lst vs)) :=
  k (.new ds) h _ _ (Fr.new n) (rh.new n) ⟨p, vs, rfl, n, rh.free n, upd_same, r.mono (fx_new n)⟩ q
theorem fin_val {d : D} {v : V} {Q : Qr} {QV : VK} (rh : RepH W h H) (r : Rep W H d v) (q : Q (.val d) h) (k : ∀ r h' v H', Fr h H h' H' → RepH W h' H' → RepR W H h' H' r v → Q r h' → QV v H') : QV v H := k (.val d) h v H Fr.refl rh r q
theorem lstOf_ok {r : Res} {v : V} {H0 : Hp} {ds : List D} (rh : RepH W h H) (rr : RepR W H0 h H r v) (e : lstOf r h = some ds) : ∃ a vs, v = .ref a ∧ H a = some (.lst vs) ∧ Reps W H ds vs := by
  cases r with
  | new es =>
    cases e
    obtain ⟨a, vs, e1, _, _, e2, q⟩ := rr
    exact ⟨a, vs, e1, e2, q⟩
  | val d =>
    cases d with
    | ref a =>
      have rr : Rep W H (.ref a) v := rr
      cases rr
      have e1 : (match h a with
        | some (.lst ds) => some ds
        | _ => none) = some ds := e
      split at e1
      · rename_i es he
        cases e1
        obtain ⟨vs, e2, q⟩ := rh a _ he
        exact ⟨a, vs, rfl, e2, q⟩
      · cases e1
    | _ => cases e
theorem tupOf_ok {d : D} {v : V} {ds : List D} (r : Rep W H d v) (e : tupOf d = some ds) : ∃ a vs, v = .ref a ∧ SqT W.K H a vs ∧ Reps W H ds vs := by
  cases r with
  | tup e1 q => cases e; exact ⟨_, _, rfl, .inl (.inl e1), q⟩
  | kt e1 q => cases e; exact ⟨_, _, rfl, .inr e1, q⟩
  | _ => cases e
theorem big_line {n : Nat} (h : n ≤ big) : n ≤ sizeLine := Nat.le_trans h (by rw [sizeLine_eq]; decide)
theorem big2_line {n m : Nat} (h : n ≤ big) (g : m ≤ big) : n + m ≤ sizeLine := Nat.le_trans (Nat.add_le_add h g) (by rw [sizeLine_eq]; decide)
theorem big_lt {n : Nat} (h : n < big) : n < sizeLine := Nat.lt_of_lt_of_le h (by rw [sizeLine_eq]; decide)
end
section
variable {X : Cx}
abbrev bP (o : BOp) (x y : Res) (h : Hd) (Q : Qr) : Prop := binP bt.and bt.or bt.xor o x y h Q
def astB : BOp → Operator
  | .add => .Add | .sub => .Sub | .mul => .Mult | .mod => .Mod | .fdiv => .FloorDiv | .and => .BitAnd | .or => .BitOr | .xor => .BitXor | .pow => .Pow | .shl => .LShift
theorem op_bin (o : BOp) : OpR X (binaryOp (astB o)) (rD (wd X) (bP o)) := by
  intro pins s σ H vx vy v u QV I rx ry hh
  obtain ⟨h, x, y, H0, Q, rh, r1, r2, hb, k⟩ := hh
  -- ints
  have hInt : ∀ i j : Int, x = .val (.int i) → y = .val (.int j) → wpAny (model X.prog X.w) X.A (binaryOp (astB o) v u) (EP X pins σ QV) X.xe s := by
    rintro i j rfl rfl
    obtain rfl : vx = .int i := by cases r1; rfl
    obtain rfl : vy = .int j := by cases r2; rfl
    cases o with
    | add => exact op_add pins s σ H _ _ v u QV I rx ry ⟨i, j, rfl, rfl, fin_val rh (.int _) hb k⟩
    | sub => exact op_sub pins s σ H _ _ v u QV I rx ry ⟨i, j, rfl, rfl, fin_val rh (.int _) hb k⟩
    | mul => exact op_mul pins s σ H _ _ v u QV I rx ry ⟨i, j, rfl, rfl, hb.1, fin_val rh (.int _) hb.2 k⟩
    | mod => exact op_mod pins s σ H _ _ v u QV I rx ry ⟨i, j, rfl, rfl, hb.1, fin_val rh (.int _) hb.2 k⟩
    | fdiv => exact op_fdiv pins s σ H _ _ v u QV I rx ry ⟨i, j, rfl, rfl, hb.1, fin_val rh (.int _) hb.2 k⟩
    | and => exact op_and pins s σ H _ _ v u QV I rx ry ⟨i, j, rfl, rfl, fin_val rh (.int _) hb k⟩
    | or => exact op_or pins s σ H _ _ v u QV I rx ry ⟨i, j, rfl, rfl, fin_val rh (.int _) hb k⟩
    | xor => exact op_xor pins s σ H _ _ v u QV I rx ry ⟨i, j, rfl, rfl, fin_val rh (.int _) hb k⟩
    | pow => exact op_pow pins s σ H _ _ v u QV I rx ry ⟨i, j, rfl, rfl, ⟨hb.1.1, by have := hb.1.2.1; omega, hb.1.2.2⟩, fin_val rh (.int _) hb.2 k⟩
    | shl => exact op_shl pins s σ H _ _ v u QV I rx ry ⟨i, j, rfl, rfl, ⟨hb.1.1, by have := hb.1.2.1; omega, hb.1.2.2⟩, fin_val rh (.int _) hb.2 k⟩
  have tcat : ∀ (ds es : List D), o = .add → (∃ a vs, vx = .ref a ∧ SqT X.K H a vs ∧ Reps (wd X) H ds vs) → (∃ a vs, vy = .ref a ∧ SqT X.K H a vs ∧ Reps (wd X) H es vs) → ds.length ≤ big → es.length ≤ big → Q (.val (.tup (ds ++ es))) h →
      (ds = [] → x = .val (.tup []) ∧ y = .val (.tup es)) → (es = [] → x = .val (.tup ds) ∧ y = .val (.tup [])) → wpAny (model X.prog X.w) X.A (binaryOp (astB o) v u) (EP X pins σ QV) X.xe s := by
    rintro ds es rfl ⟨a, vs, rfl, h1, q1⟩ ⟨b, ws, rfl, h2, q2⟩ l1 l2 q n1 n2
    have e1 := q1.length
    have e2 := q2.length
    refine op_catA pins s σ H _ _ v u QV I rx ry ⟨a, b, vs, ws, rfl, rfl, h1, h2, by rw [← e1, ← e2]; exact big2_line l1 l2, fun z => ?_, fun _ z => ?_, fun _ _ p np => ?_⟩
    · have zd : ds = [] := q1.nil_iff.mp z
      obtain ⟨_, hy⟩ := n1 zd
      subst hy
      subst zd
      exact fin_val rh r2 q k
    · have zd : es = [] := q2.nil_iff.mp z
      obtain ⟨hx, _⟩ := n2 zd
      subst hx
      subst zd
      rw [List.append_nil] at q
      exact fin_val rh r1 q k
    · exact fin_tup np rh (q1.append q2) q k
  unfold bP binP at hb
  split at hb
  · exact hInt _ _ rfl rfl
  · split at hb
    · rename_i xs ys o
      exact tcat xs ys rfl (tupOf_ok (W := wd X) r1 rfl) (tupOf_ok (W := wd X) r2 rfl) hb.1.1 hb.1.2 hb.2 (fun e => by subst e; exact ⟨rfl, rfl⟩) (fun e => by subst e; exact ⟨rfl, rfl⟩)
    · exact hb.elim
  · split at hb
    · rename_i xs ys o
      exact tcat xs ys rfl (tupOf_ok (W := wd X) r1 rfl) (tupOf_ok (W := wd X) r2 rfl) hb.2.1.1 hb.2.1.2 hb.2.2 (fun e => absurd e hb.1.1) (fun e => absurd e hb.1.2)
    · exact hb.elim
  · split at hb
    · rename_i xs ys o
      exact tcat xs ys rfl (tupOf_ok (W := wd X) r1 rfl) (tupOf_ok (W := wd X) r2 rfl) hb.2.1.1 hb.2.1.2 hb.2.2 (fun e => absurd e hb.1.1) (fun e => absurd e hb.1.2)
    · exact hb.elim
  · split at hb
    · rename_i xs j o
      obtain ⟨a, vs, rfl, h1, q1⟩ := tupOf_ok (W := wd X) (ds := xs) r1 rfl
      obtain rfl : vy = .int j := by cases r2; rfl
      have e1 := q1.length
      obtain ⟨⟨c1, c2, c3, c4⟩, q⟩ := hb
      exact op_repT pins s σ H _ _ v u QV I rx ry ⟨a, j, vs, rfl, rfl, h1, fun z => c1 (q1.nil_iff.mp z), c3, c4, by rw [← e1]; exact c2, fun p np => fin_tup np rh (q1.rep j.toNat) q k⟩
    · exact hb.elim
  · split at hb
    · rename_i xs he
      obtain ⟨a, vs, rfl, h1, q1⟩ := lstOf_ok rh r1 he
      have r2' : Rep (wd X) H (.int _) vy := r2
      cases r2'
      have e1 := q1.length
      obtain ⟨⟨c1, c2, c3⟩, q⟩ := hb
      refine op_rep pins s σ H _ _ v u QV I rx ry ⟨a, _, vs, rfl, rfl, h1, by omega, by omega, ?_, fun p np => fin_new np rh (q1.rep _) q k⟩
      refine Nat.le_trans (Nat.mul_le_mul (show vs.length ≤ 1000 by omega) (show Int.toNat _ ≤ 1000 by omega)) (by rw [sizeLine_eq]; decide)
    · exact hb.elim
  · split at hb
    · rename_i xs ys h1 h2
      obtain ⟨a, vs, rfl, h1, q1⟩ := lstOf_ok rh r1 h1
      obtain ⟨b, ws, rfl, h2, q2⟩ := lstOf_ok rh r2 h2
      have e1 := q1.length
      have e2 := q2.length
      exact op_cat pins s σ H _ _ v u QV I rx ry ⟨a, b, vs, ws, rfl, rfl, h1, h2, by rw [← e1, ← e2]; exact big2_line hb.1.1 hb.1.2, fun p np => fin_new np rh (q1.append q2) hb.2 k⟩
    · exact hb.elim
theorem je_bin {Wx : WX} {C : Ctx} {o : BOp} {a b : E} {ea eb : Expr} {pos : Pos} (ha : PE X ea (TE (wd X) C Wx a)) (hb : PE X eb (TE (wd X) C Wx b)) : PE X (.BinOp ea (astB o) eb pos) (TE (wd X) C Wx (.bin o a b)) :=
  PE.imp (pe_op (op_bin o) ha hb) fun τ H QV ⟨σ, h, Xd, Q, at_, hw, k⟩ => two at_ hw fun x y h2 vx vy H2 f rh r1 r2 p =>
    ⟨h2, x, y, H, Q, rh, r1, r2, p, fun r h' v H' f' rh' rr q => k r h' v H' (f.trans f') rh' (rr.base f) q⟩
end
end AR
end

section
set_option Elab.async false
set_option linter.all false
set_option maxRecDepth 100000
set_option maxHeartbeats 4000000
/-! DL4: comparisons by values. -/
namespace AR
open PySem PySem.Spec PyProof.Rows L2
mutual
def toFl : PyData → Fl
  | .none => .non
  | .bool b => .num (if b then 1 else 0)
  | .int i => .num i
  | .str x => .str x
  | .tuple xs => .tup (toFls xs)
  | .list xs => .lst (toFls xs)
  | .dict _ => .non
def toFls : List PyData → List Fl
  | [] => []
  | x :: xs => toFl x :: toFls xs
end
mutual
theorem eqv_iff : ∀ (a b : PyData), a.canLay0 = true → b.canLay0 = true → (PyData.eqv a b = true ↔ toFl a = toFl b)
  | .none, b, _, hb => by cases b <;> simp [PyData.eqv, toFl, PyData.canLay0] at hb ⊢
  | .bool x, b, _, hb => by
    cases b with
    | dict => simp [PyData.canLay0] at hb
    | bool y => cases x <;> cases y <;> simp [PyData.eqv, toFl]
    | _ => simp [PyData.eqv, toFl]
  | .int i, b, _, hb => by
    cases b with
    | dict => simp [PyData.canLay0] at hb
    | _ => simp [PyData.eqv, toFl]
  | .str x, b, _, hb => by
    cases b with
    | dict => simp [PyData.canLay0] at hb
    | _ => simp [PyData.eqv, toFl]
  | .list xs, b, ha, hb => by
    cases b with
    | dict => simp [PyData.canLay0] at hb
    | list ys =>
      simp only [PyData.canLay0] at ha hb
      simp [PyData.eqv, toFl, eqvs_iff xs ys ha hb]
    | _ => simp [PyData.eqv, toFl]
  | .tuple xs, b, ha, hb => by
    cases b with
    | dict => simp [PyData.canLay0] at hb
    | tuple ys =>
      simp only [PyData.canLay0] at ha hb
      simp [PyData.eqv, toFl, eqvs_iff xs ys ha hb]
    | _ => simp [PyData.eqv, toFl]
  | .dict _, _, ha, _ => by simp [PyData.canLay0] at ha
theorem eqvs_iff : ∀ (a b : List PyData), PyData.canLayAll0 a = true → PyData.canLayAll0 b = true → (PyData.eqvAll a b = true ↔ toFls a = toFls b)
  | [], [], _, _ => by simp [PyData.eqvAll, toFls]
  | [], _ :: _, _, _ => by simp [PyData.eqvAll, toFls]
  | _ :: _, [], _, _ => by simp [PyData.eqvAll, toFls]
  | x :: xs, y :: ys, ha, hb => by
    simp only [PyData.canLayAll0, Bool.and_eq_true] at ha hb
    simp [PyData.eqvAll, toFls, eqv_iff x y ha.1 hb.1, eqvs_iff xs ys ha.2 hb.2]
end
theorem eqv_dec {a b : PyData} {p q : Fl} (ha : a.canLay0 = true) (hb : b.canLay0 = true) (e1 : toFl a = p) (e2 : toFl b = q) : PyData.eqv a b = decide (p = q) := by
  rw [Bool.eq_iff_iff, eqv_iff a b ha hb, decide_eq_true_iff, e1, e2]
section
variable {W : Wd} {h : Hd} {H H0 : Hp}
mutual
theorem fl0_ok : ∀ {n : Nat} {d : D} {p : Fl} {v : V}, Rep W H d v → fl0 n d = some p → ∃ q : PyData, Dp W.K H v q ∧ toFl q = p ∧ q.canLay0 = true ∧ q.depth ≤ n
  | n, _, p, _, .non, e => by
    have e1 : some Fl.non = some p := by cases n <;> exact e
    cases e1; exact ⟨.none, .non, rfl, rfl, Nat.zero_le _⟩
  | n, _, p, _, .bl b, e => by
    have e1 : some (Fl.num (if b then 1 else 0)) = some p := by cases n <;> exact e
    cases e1; exact ⟨.bool b, .bl b, rfl, rfl, Nat.zero_le _⟩
  | n, _, p, _, .int i, e => by
    have e1 : some (Fl.num i) = some p := by cases n <;> exact e
    cases e1; exact ⟨.int i, .int i, rfl, rfl, Nat.zero_le _⟩
  | n, _, p, _, .str x k, e => by
    have e1 : some (Fl.str x) = some p := by cases n <;> exact e
    cases e1; exact ⟨.str x, .str x, rfl, k, Nat.zero_le _⟩
  | 0, _, p, _, .tup e1 r, e => by cases e
  | n + 1, .tup ds, p, _, .tup e1 r, e => by
    have e2 : (fl0s n ds).map Fl.tup = some p := e
    obtain ⟨ps, e3, rfl⟩ := Option.map_eq_some_iff.mp e2
    obtain ⟨qs, h1, h2, h3, h4⟩ := fl0s_ok r e3
    exact ⟨.tuple qs, .tup (.inl (.inl e1)) h1, by simp [toFl, h2], by simpa [PyData.canLay0] using h3, by simp [PyData.depth]; exact h4⟩
  | 0, _, p, _, .kt e1 r, e => by cases e
  | n + 1, .kt ds, p, _, .kt e1 r, e => by
    have e2 : (fl0s n ds).map Fl.tup = some p := e
    obtain ⟨ps, e3, rfl⟩ := Option.map_eq_some_iff.mp e2
    obtain ⟨qs, h1, h2, h3, h4⟩ := fl0s_ok r e3
    exact ⟨.tuple qs, .tup (.inr e1) h1, by simp [toFl, h2], by simpa [PyData.canLay0] using h3, by simp [PyData.depth]; exact h4⟩
  | n, _, p, _, .ref a, e => by cases n <;> cases e
  | n, _, p, _, .rl _ _, e => by cases n <;> cases e
  | n, _, p, _, .kd _, e => by cases n <;> cases e
  | n, _, p, _, .fn _, e => by cases n <;> cases e
  | n, _, p, _, .ty _, e => by cases n <;> cases e
  | n, _, p, _, .exc _, e => by cases n <;> cases e
theorem fl0s_ok : ∀ {n : Nat} {ds : List D} {ps : List Fl} {vs : List V}, Reps W H ds vs → fl0s n ds = some ps → ∃ qs : List PyData, DpAll W.K H vs qs ∧ toFls qs = ps ∧ PyData.canLayAll0 qs = true ∧ PyData.depthAll qs ≤ n
  | n, _, ps, _, .nil, e => by
    have e1 : some ([] : List Fl) = some ps := by cases n <;> exact e
    cases e1
    exact ⟨[], .nil, rfl, rfl, Nat.zero_le _⟩
  | n, d :: ds, ps, _, .cons r t, e => by
    have e1 : (match fl0 n d, fl0s n ds with
      | some y, some ys => some (y :: ys)
      | _, _ => none) = some ps := by cases n <;> exact e
    split at e1
    · rename_i y ys h1 h2
      cases e1
      obtain ⟨q, a1, a2, a3, a4⟩ := fl0_ok r h1
      obtain ⟨qs, b1, b2, b3, b4⟩ := fl0s_ok t h2
      exact ⟨q :: qs, .cons a1 b1, by simp [toFls, a2, b2], by simp [PyData.canLayAll0, a3, b3], by simp [PyData.depthAll]; omega⟩
    · cases e1
end
theorem fl1_ok {d : D} {p : Fl} {v : V} (rh : RepH W h H) (r : Rep W H d v) (e : fl1 h d = some p) : ∃ q : PyData, Dp W.K H v q ∧ toFl q = p ∧ q.canLay0 = true ∧ q.depth ≤ 9 := by
  have other : fl0 8 d = some p → ∃ q : PyData, Dp W.K H v q ∧ toFl q = p ∧ q.canLay0 = true ∧ q.depth ≤ 9 := fun e => by
    obtain ⟨q, a1, a2, a3, a4⟩ := fl0_ok r e
    exact ⟨q, a1, a2, a3, by omega⟩
  cases d with
  | ref a =>
    cases r
    have e1 : (match h a with
      | some (.lst xs) => (fl0s 8 xs).map Fl.lst
      | _ => none) = some p := e
    split at e1
    · rename_i xs hx
      obtain ⟨ps, e3, rfl⟩ := Option.map_eq_some_iff.mp e1
      obtain ⟨vs, e2, q⟩ := rh a _ hx
      obtain ⟨qs, h1, h2, h3, h4⟩ := fl0s_ok q e3
      exact ⟨.list qs, .lst (.inl (.inl e2)) h1, by simp [toFl, h2], by simpa [PyData.canLay0] using h3, by simp [PyData.depth]; exact h4⟩
    · cases e1
  | _ => exact other e
theorem fl1s_ok (rh : RepH W h H) : ∀ {ds : List D} {ps : List Fl} {vs : List V}, Reps W H ds vs → fl1s h ds = some ps → ∃ qs : List PyData, DpAll W.K H vs qs ∧ toFls qs = ps ∧ PyData.canLayAll0 qs = true ∧ PyData.depthAll qs ≤ 9
  | _, ps, _, .nil, e => by
    cases e
    exact ⟨[], .nil, rfl, rfl, Nat.zero_le _⟩
  | d :: ds, ps, _, .cons r t, e => by
    have e1 : (match fl1 h d, fl1s h ds with
      | some y, some ys => some (y :: ys)
      | _, _ => none) = some ps := e
    split at e1
    · rename_i y ys h1 h2
      cases e1
      obtain ⟨q, a1, a2, a3, a4⟩ := fl1_ok rh r h1
      obtain ⟨qs, b1, b2, b3, b4⟩ := fl1s_ok rh t h2
      exact ⟨q :: qs, .cons a1 b1, by simp [toFls, a2, b2], by simp [PyData.canLayAll0, a3, b3], by simp [PyData.depthAll]; omega⟩
    · cases e1
theorem flr_ok {r : Res} {p : Fl} {v : V} (rh : RepH W h H) (rr : RepR W H0 h H r v) (e : flr h r = some p) : ∃ q : PyData, Dp W.K H v q ∧ toFl q = p ∧ SeqAt.shaped q = true := by
  have fin : (∃ q : PyData, Dp W.K H v q ∧ toFl q = p ∧ q.canLay0 = true ∧ q.depth ≤ 10) → ∃ q : PyData, Dp W.K H v q ∧ toFl q = p ∧ SeqAt.shaped q = true := fun ⟨q, a1, a2, a3, a4⟩ =>
    ⟨q, a1, a2, by unfold SeqAt.shaped; rw [a3, Bool.true_and]; exact decide_eq_true (by omega)⟩
  refine fin ?_
  cases r with
  | new ds =>
    obtain ⟨a, vs, rfl, _, _, e2, q⟩ := rr
    have e1 : (fl1s h ds).map Fl.lst = some p := e
    obtain ⟨ps, e3, rfl⟩ := Option.map_eq_some_iff.mp e1
    obtain ⟨qs, h1, h2, h3, h4⟩ := fl1s_ok rh q e3
    exact ⟨.list qs, .lst (.inl (.inl e2)) h1, by simp [toFl, h2], by simpa [PyData.canLay0] using h3, by simp [PyData.depth]; exact h4⟩
  | val d =>
    have rr : Rep W H d v := rr
    have other : fl0 8 d = some p → ∃ q : PyData, Dp W.K H v q ∧ toFl q = p ∧ q.canLay0 = true ∧ q.depth ≤ 10 := fun e => by
      obtain ⟨q, a1, a2, a3, a4⟩ := fl0_ok rr e
      exact ⟨q, a1, a2, a3, by omega⟩
    cases d with
    | ref a =>
      cases rr
      have e1 : (match h a with
        | some (.lst xs) => (fl1s h xs).map Fl.lst
        | _ => none) = some p := e
      split at e1
      · rename_i xs hx
        obtain ⟨ps, e3, rfl⟩ := Option.map_eq_some_iff.mp e1
        obtain ⟨vs, e2, q⟩ := rh a _ hx
        obtain ⟨qs, h1, h2, h3, h4⟩ := fl1s_ok rh q e3
        exact ⟨.list qs, .lst (.inl (.inl e2)) h1, by simp [toFl, h2], by simpa [PyData.canLay0] using h3, by simp [PyData.depth]; exact h4⟩
      · cases e1
    | _ => exact other e
end

/-! ### comparisons -/
def astC : COp → CmpOp
  | .eq => .Eq | .ne => .NotEq | .lt => .Lt | .le => .LtE | .gt => .Gt | .ge => .GtE | .is => .Is | .isNot => .IsNot | .in_ => .In | .notIn => .NotIn
def rCm (W : Wd) (f : Res → Res → Hd → (Bool → Prop) → Prop) : R2 := fun vx vy H QV => ∃ h x y H0 R, RepH W h H ∧ RepR W H0 h H x vx ∧ RepR W H0 h H y vy ∧ f x y h R ∧ ∀ b, R b → QV (.bl b) H
section
variable {X : Cx}
def RoomE (X : Cx) : Prop := X.A.units + 100 < cLine
theorem op_is : OpR X (compareOp .Is) (rCm (wd X) (cmpP .is)) := by
  intro pins s σ H vx vy v u QV I rx ry hh
  obtain ⟨h, x, y, H0, R, rh, r1, r2, hb, k⟩ := hh
  cases x with
  | new ds => exact hb.elim
  | val a =>
    cases y with
    | new ds => exact hb.elim
    | val b =>
      have hb : isP a b R := hb
      have r1 : Rep (wd X) H a vx := r1
      have r2 : Rep (wd X) H b vy := r2
      cases b with
      | non =>
        cases r2
        refine op_isN pins s σ H _ _ v u QV I rx ry ⟨rfl, ?_⟩
        have e : isNon a = decide (vx = .non) := by cases r1 <;> rfl
        rw [← e]
        exact k _ hb
      | bl c =>
        cases r2
        cases a with
        | bl d =>
          cases r1
          exact op_isBl pins s σ H _ _ v u QV I rx ry ⟨d, c, rfl, rfl, k _ hb⟩
        | _ => exact hb.elim
      | _ => exact hb.elim
theorem op_isNot : OpR X (compareOp .IsNot) (rCm (wd X) (cmpP .isNot)) := by
  intro pins s σ H vx vy v u QV I rx ry hh
  obtain ⟨h, x, y, H0, R, rh, r1, r2, hb, k⟩ := hh
  cases x with
  | new ds => exact hb.elim
  | val a =>
    cases y with
    | new ds => exact hb.elim
    | val b =>
      have hb : isP a b (fun c => R (!c)) := hb
      have r1 : Rep (wd X) H a vx := r1
      have r2 : Rep (wd X) H b vy := r2
      cases b with
      | non =>
        cases r2
        refine op_notN pins s σ H _ _ v u QV I rx ry ⟨rfl, ?_⟩
        have e : isNon a = decide (vx = .non) := by cases r1 <;> rfl
        rw [← e]
        exact k _ hb
      | bl c =>
        cases r2
        cases a with
        | bl d =>
          cases r1
          exact op_notBl pins s σ H _ _ v u QV I rx ry ⟨d, c, rfl, rfl, k _ hb⟩
        | _ => exact hb.elim
      | _ => exact hb.elim
theorem op_eqF (hu : RoomE X) : OpR X (compareOp .Eq) (rCm (wd X) (cmpP .eq)) := by
  intro pins s σ H vx vy v u QV I rx ry hh
  obtain ⟨h, x, y, H0, R, rh, r1, r2, hb, k⟩ := hh
  have hb : (match flr h x, flr h y with
    | some p, some q => R (decide (p = q))
    | _, _ => False) := hb
  split at hb
  · rename_i p q e1 e2
    obtain ⟨a, a1, a2, a3⟩ := flr_ok rh r1 e1
    obtain ⟨b, b1, b2, b3⟩ := flr_ok rh r2 e2
    refine op_eqD (by unfold RoomE at hu; omega) pins s σ H _ _ v u QV I rx ry ⟨a, b, a1, b1, a3, b3, ?_⟩
    rw [eqv_dec (SeqAt.canLay_of_shaped a3) (SeqAt.canLay_of_shaped b3) a2 b2]
    exact k _ hb
  · exact hb.elim
theorem op_neF (hu : RoomE X) : OpR X (compareOp .NotEq) (rCm (wd X) (cmpP .ne)) := by
  intro pins s σ H vx vy v u QV I rx ry hh
  obtain ⟨h, x, y, H0, R, rh, r1, r2, hb, k⟩ := hh
  have hb : (match flr h x, flr h y with
    | some p, some q => R (!decide (p = q))
    | _, _ => False) := hb
  split at hb
  · rename_i p q e1 e2
    obtain ⟨a, a1, a2, a3⟩ := flr_ok rh r1 e1
    obtain ⟨b, b1, b2, b3⟩ := flr_ok rh r2 e2
    refine op_neD (by unfold RoomE at hu; omega) pins s σ H _ _ v u QV I rx ry ⟨a, b, a1, b1, a3, b3, ?_⟩
    rw [eqv_dec (SeqAt.canLay_of_shaped a3) (SeqAt.canLay_of_shaped b3) a2 b2]
    exact k _ hb
  · exact hb.elim
/-- ints -/
theorem cm_ints {x y : Res} {h : Hd} {R : Bool → Prop} {o : COp} (h1 : o ≠ .eq) (h2 : o ≠ .ne) (h3 : o ≠ .in_) (h4 : o ≠ .notIn) (h5 : o ≠ .is) (h6 : o ≠ .isNot) (hb : cmpP o x y h R) : ∃ i j, x = .val (.int i) ∧ y = .val (.int j) := by
  unfold cmpP at hb
  split at hb
  all_goals first | contradiction | skip
  split at hb
  · exact ⟨_, _, rfl, rfl⟩
  · exact hb.elim
theorem op_ltF : OpR X (compareOp .Lt) (rCm (wd X) (cmpP .lt)) := by
  intro pins s σ H vx vy v u QV I rx ry hh
  obtain ⟨h, x, y, H0, R, rh, r1, r2, hb, k⟩ := hh
  obtain ⟨i, j, rfl, rfl⟩ := cm_ints (by decide) (by decide) (by decide) (by decide) (by decide) (by decide) hb
  have r1 : Rep (wd X) H (.int i) vx := r1
  have r2 : Rep (wd X) H (.int j) vy := r2
  cases r1; cases r2
  exact op_lt pins s σ H _ _ v u QV I rx ry ⟨i, j, rfl, rfl, k _ hb⟩
theorem op_leF : OpR X (compareOp .LtE) (rCm (wd X) (cmpP .le)) := by
  intro pins s σ H vx vy v u QV I rx ry hh
  obtain ⟨h, x, y, H0, R, rh, r1, r2, hb, k⟩ := hh
  obtain ⟨i, j, rfl, rfl⟩ := cm_ints (by decide) (by decide) (by decide) (by decide) (by decide) (by decide) hb
  have r1 : Rep (wd X) H (.int i) vx := r1
  have r2 : Rep (wd X) H (.int j) vy := r2
  cases r1; cases r2
  exact op_le pins s σ H _ _ v u QV I rx ry ⟨i, j, rfl, rfl, k _ hb⟩
theorem op_gtF : OpR X (compareOp .Gt) (rCm (wd X) (cmpP .gt)) := by
  intro pins s σ H vx vy v u QV I rx ry hh
  obtain ⟨h, x, y, H0, R, rh, r1, r2, hb, k⟩ := hh
  obtain ⟨i, j, rfl, rfl⟩ := cm_ints (by decide) (by decide) (by decide) (by decide) (by decide) (by decide) hb
  have r1 : Rep (wd X) H (.int i) vx := r1
  have r2 : Rep (wd X) H (.int j) vy := r2
  cases r1; cases r2
  exact op_gt pins s σ H _ _ v u QV I rx ry ⟨i, j, rfl, rfl, k _ hb⟩
theorem op_geF : OpR X (compareOp .GtE) (rCm (wd X) (cmpP .ge)) := by
  intro pins s σ H vx vy v u QV I rx ry hh
  obtain ⟨h, x, y, H0, R, rh, r1, r2, hb, k⟩ := hh
  obtain ⟨i, j, rfl, rfl⟩ := cm_ints (by decide) (by decide) (by decide) (by decide) (by decide) (by decide) hb
  have r1 : Rep (wd X) H (.int i) vx := r1
  have r2 : Rep (wd X) H (.int j) vy := r2
  cases r1; cases r2
  exact op_ge pins s σ H _ _ v u QV I rx ry ⟨i, j, rfl, rfl, k _ hb⟩
end
end AR
end

section
set_option Elab.async false
set_option linter.all false
set_option maxRecDepth 100000
set_option maxHeartbeats 4000000
/-! DL5: membership, dicts read; tests, and, or, not. -/
namespace AR
open PySem PySem.Spec PyProof.Rows L2
def RepO (W : Wd) (H : Hp) : Option D → Option V → Prop
  | some d, some v => Rep W H d v
  | none, none => True
  | _, _ => False
section
variable {W : Wd} {h : Hd} {H H0 : Hp}
theorem RepO.isSome {o : Option D} {v : Option V} (r : RepO W H o v) : o.isSome = v.isSome := by
  cases o <;> cases v <;> first | rfl | exact r.elim
theorem RepO.some_of {d : D} {v : Option V} (r : RepO W H (some d) v) : ∃ u, v = some u ∧ Rep W H d u := by
  cases v with
  | none => exact r.elim
  | some u => exact ⟨u, rfl, r⟩
theorem RepO.getD {o : Option D} {v : Option V} {d : D} {u : V} (r : RepO W H o v) (q : Rep W H d u) : Rep W H (o.getD d) (v.getD u) := by
  cases o <;> cases v <;> first | exact q | exact r | exact r.elim
section
variable {κ : Type} [DecidableEq κ]
theorem look_cons (p : κ × D) (r : List (κ × D)) (k : κ) : look (p :: r) k = if p.1 = k then some p.2 else look r k := by
  unfold look
  rw [List.find?_cons]
  by_cases e : p.1 = k <;> simp [e]
theorem RepKV.look [KOk κ] {k : κ} : ∀ {ds : List (κ × D)} {vs : List (κ × V)}, RepKV W H ds vs → RepO W H (look ds k) (valV vs k)
  | _, _, .nil => trivial
  | _, _, .cons (k := k') o r t => by
    rw [look_cons]
    by_cases e : k' = k
    · rw [if_pos e, valV_pos e]; exact r
    · rw [if_neg e, valV_neg e]; exact RepKV.look t
theorem RepKV.any [KOk κ] {k : κ} : ∀ {ds : List (κ × D)} {vs : List (κ × V)}, RepKV W H ds vs → (ds.any fun kv => decide (kv.1 = k)) = vs.any fun kv => decide (kv.1 = k)
  | _, _, .nil => rfl
  | _, _, .cons o r t => by simp only [List.any_cons]; rw [RepKV.any t]
theorem RepKV.append [KOk κ] {ds : List (κ × D)} {vs : List (κ × V)} {es : List (κ × D)} {ws : List (κ × V)} (a : RepKV W H ds vs) (b : RepKV W H es ws) : RepKV W H (ds ++ es) (vs ++ ws) := by
  induction a with
  | nil => exact b
  | cons o r t ih => exact .cons o r ih
theorem RepKV.repl [KOk κ] {k : κ} {d : D} {v : V} (q : Rep W H d v) : ∀ {ds : List (κ × D)} {vs : List (κ × V)}, RepKV W H ds vs →
    RepKV W H (ds.map fun kv => if kv.1 = k then (kv.1, d) else kv) (vs.map fun kv => if kv.1 = k then (kv.1, v) else kv)
  | _, _, .nil => .nil
  | _, _, .cons (k := k') o r t => by
    simp only [List.map_cons]
    by_cases e : k' = k
    · rw [if_pos e, if_pos e]; exact .cons o q (RepKV.repl q t)
    · rw [if_neg e, if_neg e]; exact .cons o r (RepKV.repl q t)
theorem RepKV.put [KOk κ] {k : κ} {d : D} {v : V} {ds : List (κ × D)} {vs : List (κ × V)} (r : RepKV W H ds vs) (o : KOk.ok k) (q : Rep W H d v) : RepKV W H (putD ds k d) (putK vs k v) := by
  unfold putD putK
  rw [r.any (k := k)]
  by_cases e : (vs.any fun kv => decide (kv.1 = k)) = true
  · rw [if_pos e, if_pos e]; exact r.repl q
  · rw [if_neg e, if_neg e]; exact r.append (.cons o q .nil)
end
theorem kyD_ok {k : D} {y : Ky} {v : V} (r : Rep W H k v) (e : kyD k = some y) : v = kV y := by
  cases r <;> cases e <;> rfl
theorem kysD_ok : ∀ {ks : List D} {ys : List Ky} {vs : List V}, Reps W H ks vs → kysD ks = some ys → vs = ys.map kV
  | _, ys, _, .nil, e => by cases e; rfl
  | k :: ks, ys, _, .cons r t, e => by
    have e1 : (match kyD k, kysD ks with
      | some y, some ys => some (y :: ys)
      | _, _ => none) = some ys := e
    split at e1
    · rename_i y zs h1 h2
      cases e1
      rw [kyD_ok r h1, kysD_ok t h2]; rfl
    · cases e1
theorem rep_key {k : Ky} : Rep W H (dKy k) (kV k) ∨ ∃ x, k = .inr x ∧ PyData.strOk x = false := by
  cases k with
  | inl i => exact .inl (.int i)
  | inr x =>
    cases e : PyData.strOk x with
    | true => exact .inl (.str x e)
    | false => exact .inr ⟨x, rfl, e⟩
/-- a dict of the heap, asked -/
theorem getP_ok {a : Addr} {k : D} {R : Option D → Prop} {vk : V} (rh : RepH W h H) (rk : Rep W H k vk) (g : getP h (.ref a) k R) : ∃ o v, DGet H a vk v ∧ RepO W H o v ∧ R o := by
  unfold getP at g
  dsimp only at g
  split at g
  · rename_i kvs e
    split at g
    · rename_i y ey
      obtain ⟨vs, e1, q⟩ := rh a _ e
      rw [kyD_ok rk ey]
      exact ⟨_, _, DGet.k e1, q.look, g⟩
    · exact g.elim
  · rename_i kvs e
    split at g
    · rename_i y ey
      obtain ⟨o, vs, e1, q⟩ := rh a _ e
      rw [kyD_ok rk ey]
      exact ⟨_, _, .inl ⟨vs, y, .inr ⟨o, e1⟩, rfl, rfl⟩, q.look, g⟩
    · exact g.elim
  · rename_i kvs e
    split at g
    · rename_i xs
      split at g
      · rename_i y ey
        obtain ⟨vs, e1, q⟩ := rh a _ e
        cases rk with
        | tup e2 r2 =>
          rw [kysD_ok r2 ey] at e2
          exact ⟨_, _, DGet.t e1 e2, q.look, g⟩
      · exact g.elim
    · exact g.elim
  · rename_i kvs e
    split at g
    · rename_i xs
      split at g
      · rename_i y ey
        obtain ⟨o, vs, e1, q⟩ := rh a _ e
        cases rk with
        | tup e2 r2 =>
          rw [kysD_ok r2 ey] at e2
          exact ⟨_, _, .inr ⟨vs, y, _, .inr ⟨o, e1⟩, rfl, e2, rfl⟩, q.look, g⟩
      · exact g.elim
    · exact g.elim
  · exact g.elim
end
section
variable {X : Cx} {C : Ctx} {Wx : WX}
theorem any_in {p : Fl} {ps : List Fl} {d : PyData} {ds : List PyData} (hd : d.canLay0 = true) (hds : PyData.canLayAll0 ds = true) (e1 : toFl d = p) (e2 : toFls ds = ps) : (ds.any fun z => PyData.eqv z d) = inL p ps := by
  induction ds generalizing ps with
  | nil => subst e2; rfl
  | cons x xs ih =>
    simp only [PyData.canLayAll0, Bool.and_eq_true] at hds
    subst e2
    show (PyData.eqv x d || xs.any fun z => PyData.eqv z d) = _
    rw [ih hds.2 rfl, eqv_dec hds.1 hd rfl e1]
    rfl
theorem op_inT (hu : X.A.units + 65 < cLine) {neg : Bool} : OpR X (compareOp (if neg then .NotIn else .In)) (fun x y H Q => ∃ d ds, Dp X.K H x d ∧ Dp X.K H y (.tuple ds) ∧ SeqAt.shaped d = true ∧ PyData.canLayAll0 ds = true ∧ Q (.bl (if neg then !(ds.any fun z => PyData.eqv z d) else ds.any fun z => PyData.eqv z d)) H) := by
  intro pins s σ H x y v u Q I rx ry h
  obtain ⟨d, ds, hd, he, sd, se, q⟩ := h
  obtain ⟨as, r1⟩ := Dp.reads I d x v hd rx
  obtain ⟨bs, r2⟩ := Dp.reads I (.tuple ds) y u he ry
  cases neg with
  | false => exact SeqAt.in_tuple_reads r2 r1 se (SeqAt.canLay_of_shaped sd) (room_in_shaped sd hu) ⟨.bl _, H, I, rfl, q⟩
  | true => exact SeqAt.notIn_tuple_reads r2 r1 se (SeqAt.canLay_of_shaped sd) (room_in_shaped sd hu) ⟨.bl _, H, I, rfl, q⟩
theorem op_inLs (hu : X.A.units + 65 < cLine) {neg : Bool} : OpR X (compareOp (if neg then .NotIn else .In)) (fun x y H Q => ∃ d ds, Dp X.K H x d ∧ Dp X.K H y (.list ds) ∧ SeqAt.shaped d = true ∧ PyData.canLayAll0 ds = true ∧ Q (.bl (if neg then !(ds.any fun z => PyData.eqv z d) else ds.any fun z => PyData.eqv z d)) H) := by
  intro pins s σ H x y v u Q I rx ry h
  obtain ⟨d, ds, hd, he, sd, se, q⟩ := h
  obtain ⟨as, r1⟩ := Dp.reads I d x v hd rx
  obtain ⟨bs, r2⟩ := Dp.reads I (.list ds) y u he ry
  cases neg with
  | false => exact SeqAt.in_list_reads r2 r1 se (SeqAt.canLay_of_shaped sd) (room_in_shaped sd hu) ⟨.bl _, H, I, rfl, q⟩
  | true => exact SeqAt.notIn_list_reads r2 r1 se (SeqAt.canLay_of_shaped sd) (room_in_shaped sd hu) ⟨.bl _, H, I, rfl, q⟩
theorem op_inF (hu : RoomE X) {neg : Bool} : OpR X (compareOp (if neg then .NotIn else .In)) (rCm (wd X) (fun x y h R => inP x y h fun b => R (if neg then !b else b))) := by
  intro pins s σ H vx vy v u QV I rx ry hh
  obtain ⟨h, x, y, H0, R, rh, r1, r2, hb, k⟩ := hh
  have hu' : X.A.units + 65 < cLine := by unfold RoomE at hu; omega
  -- a sequence
  have seq : ∀ (ys : List D) (vs : List V) (a : Addr), vy = .ref a → Reps (wd X) H ys vs → (SqT X.K H a vs ∨ SqL X.K H a vs) → (match flr h x, fl1s h ys with
      | some p, some ps => R (if neg then !inL p ps else inL p ps)
      | _, _ => False) → wpAny (model X.prog X.w) X.A (compareOp (if neg then .NotIn else .In) v u) (EP X pins σ QV) X.xe s := by
    intro ys vs a ea q sq hm
    subst ea
    split at hm
    · rename_i p ps e1 e2
      obtain ⟨d, a1, a2, a3⟩ := flr_ok rh r1 e1
      obtain ⟨ds, b1, b2, b3, b4⟩ := fl1s_ok rh q e2
      have e3 := any_in (SeqAt.canLay_of_shaped a3) b3 a2 b2
      rcases sq with sq | sq
      · exact op_inT hu' pins s σ H _ _ v u QV I rx ry ⟨d, ds, a1, .tup sq b1, a3, b3, by rw [e3]; exact k _ hm⟩
      · exact op_inLs hu' pins s σ H _ _ v u QV I rx ry ⟨d, ds, a1, .lst sq b1, a3, b3, by rw [e3]; exact k _ hm⟩
    · exact hm.elim
  cases y with
  | new ys =>
    obtain ⟨a, vs, ea, _, _, e2, q⟩ := r2
    exact seq ys vs a ea q (.inr (.inl (.inl e2))) hb
  | val d =>
    have r2 : Rep (wd X) H d vy := r2
    cases d with
    | tup ys => cases r2 with
      | tup e q => exact seq ys _ _ rfl q (.inl (.inl (.inl e))) hb
    | kt ys => cases r2 with
      | kt e q => exact seq ys _ _ rfl q (.inl (.inr e)) hb
    | str z =>
      cases x with
      | new ds => exact hb.elim
      | val e =>
        cases e with
        | str w =>
          obtain ⟨c, ew, q⟩ := hb
          subst ew
          have r1 : Rep (wd X) H (.str ⟨#[c]⟩) vx := r1
          cases r1
          cases r2
          cases neg with
          | false => exact op_in_sign pins s σ H _ _ v u QV I rx ry ⟨c, z, rfl, rfl, k _ q⟩
          | true => exact op_notIn_sign pins s σ H _ _ v u QV I rx ry ⟨c, z, rfl, rfl, k _ q⟩
        | _ => exact hb.elim
    | ref a =>
      cases r2
      have dict : (keyed x fun k => getP h (.ref a) k fun o => R (if neg then !o.isSome else o.isSome)) → wpAny (model X.prog X.w) X.A (compareOp (if neg then .NotIn else .In) v u) (EP X pins σ QV) X.xe s := by
        intro hm
        cases x with
        | new ds => exact hm.elim
        | val kd =>
          have r1 : Rep (wd X) H kd vx := r1
          have hm : getP h (.ref a) kd fun o => R (if neg then !o.isSome else o.isSome) := hm
          obtain ⟨o, ov, g, ro, q⟩ := getP_ok (W := wd X) rh r1 hm
          obtain rfl : u = Value.ref a := ry
          rw [ro.isSome] at q
          cases neg with
          | false => exact d_in (by unfold RoomE at hu; omega) I g rx fun s3 I3 => ⟨.bl ov.isSome, H, I3, rfl, k _ q⟩
          | true => exact d_notIn (by unfold RoomE at hu; omega) I g rx fun s3 I3 => ⟨.bl (!ov.isSome), H, I3, rfl, k _ q⟩
      have hb1 : (match h a with
        | some (.lst ys) => match flr h x, fl1s h ys with
          | some p, some ps => R (if neg then !inL p ps else inL p ps)
          | _, _ => False
        | _ => keyed x fun k => getP h (.ref a) k fun o => R (if neg then !o.isSome else o.isSome)) := hb
      split at hb1
      · rename_i ys e
        obtain ⟨vs, e1, q⟩ := rh a _ e
        exact seq ys vs a rfl q (.inr (.inl (.inl e1))) hb1
      · exact dict hb1
    | _ => exact hb.elim
theorem op_cmp (hu : RoomE X) (o : COp) : OpR X (compareOp (astC o)) (rCm (wd X) (cmpP o)) := by
  cases o with
  | eq => exact op_eqF hu
  | ne => exact op_neF hu
  | lt => exact op_ltF
  | le => exact op_leF
  | gt => exact op_gtF
  | ge => exact op_geF
  | is => exact op_is
  | isNot => exact op_isNot
  | in_ =>
    have z := op_inF hu (neg := false)
    simp only [Bool.false_eq_true, if_false] at z
    exact z
  | notIn =>
    have z := op_inF hu (neg := true)
    simp only [if_true] at z
    exact z
/-- the marks of 'in' -/
def markOk (o : COp) (b : Expr) : Bool := match o with
  | .in_ => !behindInMarks .In b
  | .notIn => !behindInMarks .NotIn b
  | _ => true
theorem mark_ok {o : COp} {b : Expr} (h : markOk o b = true) : behindInMarks (astC o) b = false := by
  cases o with
  | in_ => show behindInMarks .In b = false; simpa [markOk] using h
  | notIn => show behindInMarks .NotIn b = false; simpa [markOk] using h
  | _ => exact nomark b (by decide) (by decide)
theorem je_cmp (hu : RoomE X) {o : COp} {a b : E} {ea eb : Expr} {pos : Pos} (hm : markOk o eb = true) (ha : PE X ea (TE (wd X) C Wx a)) (hb : PE X eb (TE (wd X) C Wx b)) : PE X (.Compare ea [astC o] [eb] pos) (TE (wd X) C Wx (.cmp o a b)) :=
  PE.imp (pe_cmpR (op_cmp hu o) ha hb (mark_ok hm)) fun τ H QV ⟨σ, h, Xd, Q, at_, hw, k⟩ => two at_ hw fun x y h2 vx vy H2 f rh r1 r2 p =>
    ⟨h2, x, y, H, _, rh, r1, r2, p, fun b q => k (.val (.bl b)) h2 _ H2 f rh (.bl b) q⟩
theorem TT.of {e : E} {τ : L2.St} {H : Hp} {QV : Bool → Hp → Prop} : TT (wd X) C Wx e τ H QV → ∃ σ h Xd Q, At (wd X) Wx Xd σ τ h H ∧ wpT bt C e Xd σ h Q ∧ ∀ b h' H', Fr h H h' H' → RepH (wd X) h' H' → Q b h' → QV b H' := fun h => h
theorem jt_cmp (hu : RoomE X) {o : COp} {a b : E} {ea eb : Expr} {pos : Pos} (hm : markOk o eb = true) (ha : PE X ea (TE (wd X) C Wx a)) (hb : PE X eb (TE (wd X) C Wx b)) : PT X (.Compare ea [astC o] [eb] pos) (TT (wd X) C Wx (.cmp o a b)) :=
  PT.imp (pt_cmpR (op_cmp hu o) ha hb (mark_ok hm)) fun τ H QV ⟨σ, h, Xd, Q, at_, hw, k⟩ => two at_ hw fun x y h2 vx vy H2 f rh r1 r2 p =>
    ⟨h2, x, y, H, _, rh, r1, r2, p, fun b q => ⟨b, rfl, k b h2 H2 f rh q⟩⟩
/-! ### truth -/
theorem tru_ok' {h : Hd} {H H0 : Hp} {r : Res} {v : V} {b : Bool} (rh : RepH (wd X) h H) (rr : RepR (wd X) H0 h H r v) (e : tru r h = some b) : TruV X.K v H b := by
  cases r with
  | new ds =>
    cases e
    obtain ⟨a, vs, rfl, _, _, e2, q⟩ := rr
    refine .inl ⟨vs, .inl (.inl e2), ?_⟩
    cases q <;> rfl
  | val d =>
    have rr : Rep (wd X) H d v := rr
    cases d with
    | non => cases e; cases rr; rfl
    | bl c => cases e; cases rr; rfl
    | int i => cases e; cases rr; rfl
    | tup xs =>
      cases e
      cases rr with
      | tup e1 q => refine .inr (.inl ⟨_, .inl (.inl e1), ?_⟩); cases q <;> rfl
    | ref a =>
      cases rr
      have e1 : (match h a with
        | some (.lst ds) => some (!ds.isEmpty)
        | _ => none) = some b := e
      split at e1
      · rename_i ds ea
        cases e1
        obtain ⟨vs, e2, q⟩ := rh a _ ea
        refine .inl ⟨vs, .inl (.inl e2), ?_⟩
        cases q <;> rfl
      · cases e1
    | _ => cases e
theorem truK_ok {h : Hd} {H H0 : Hp} {r : Res} {v : V} {K : Bool → Prop} (rh : RepH (wd X) h H) (rr : RepR (wd X) H0 h H r v) (p : truK r h K) : ∃ b, TruV X.K v H b ∧ K b := by
  unfold truK at p
  cases e : tru r h with
  | none => rw [e] at p; exact p.elim
  | some b => rw [e] at p; exact ⟨b, tru_ok' rh rr e, p⟩
theorem truK_eq {r : Res} {h : Hd} {K K' : Bool → Prop} (e : ∀ b, tru r h = some b → K b = K' b) : truK r h K = truK r h K' := by
  unfold truK
  cases q : tru r h with
  | none => rfl
  | some b => exact e b q
theorem truK_some {r : Res} {h : Hd} {K : Bool → Prop} {b : Bool} (e : tru r h = some b) : truK r h K = K b := by
  unfold truK; rw [e]
theorem je_and {a b : E} {ea eb : Expr} {rest : List Expr} {pos : Pos} (ha : PE X ea (TE (wd X) C Wx a)) (hb : PE X (.BoolOp .And (eb :: rest) pos) (TE (wd X) C Wx b)) : PE X (.BoolOp .And (ea :: eb :: rest) pos) (TE (wd X) C Wx (.and a b)) :=
  PE.imp (pe_andT ha hb) fun τ H QV ⟨σ, h, Xd, Q, at_, hw, k⟩ => one at_ hw fun x h1 vx H1 f rh r1 p => by
    obtain ⟨c, e, p⟩ := truK_ok rh r1 p
    refine ⟨c, e, ?_⟩
    cases c with
    | true =>
      rw [ifB_t] at p
      rw [if_pos rfl]
      exact one (at_.go f rh) p fun y h2 vy H2 f2 rh2 r2 p2 => k y h2 vy H2 (f.trans f2) rh2 (r2.base f) p2
    | false =>
      rw [ifB_f] at p
      rw [if_neg Bool.false_ne_true]
      exact k x h1 vx H1 f rh r1 p
theorem je_or {a b : E} {ea eb : Expr} {rest : List Expr} {pos : Pos} (ha : PE X ea (TE (wd X) C Wx a)) (hb : PE X (.BoolOp .Or (eb :: rest) pos) (TE (wd X) C Wx b)) : PE X (.BoolOp .Or (ea :: eb :: rest) pos) (TE (wd X) C Wx (.or a b)) :=
  PE.imp (pe_orT ha hb) fun τ H QV ⟨σ, h, Xd, Q, at_, hw, k⟩ => one at_ hw fun x h1 vx H1 f rh r1 p => by
    obtain ⟨c, e, p⟩ := truK_ok rh r1 p
    refine ⟨c, e, ?_⟩
    cases c with
    | false =>
      rw [ifB_f] at p
      rw [if_neg Bool.false_ne_true]
      exact one (at_.go f rh) p fun y h2 vy H2 f2 rh2 r2 p2 => k y h2 vy H2 (f.trans f2) rh2 (r2.base f) p2
    | true =>
      rw [ifB_t] at p
      rw [if_pos rfl]
      exact k x h1 vx H1 f rh r1 p
theorem je_not {a : E} {ea : Expr} {pos : Pos} (ha : PE X ea (TE (wd X) C Wx a)) : PE X (.UnaryOp .Not ea pos) (TE (wd X) C Wx (.not a)) :=
  PE.imp (pe_notT ha) fun τ H QV ⟨σ, h, Xd, Q, at_, hw, k⟩ => one at_ hw fun x h1 vx H1 f rh r1 p => by
    obtain ⟨c, e, p⟩ := truK_ok rh r1 p
    exact ⟨c, e, k (.val (.bl (!c))) h1 _ H1 f rh (.bl _) p⟩
theorem je_ite {c a b : E} {ec ea eb : Expr} {pos : Pos} (hc : PT X ec (TT (wd X) C Wx c)) (ha : PE X ea (TE (wd X) C Wx a)) (hb : PE X eb (TE (wd X) C Wx b)) : PE X (.IfExp ec ea eb pos) (TE (wd X) C Wx (.ite c a b)) :=
  PE.imp (pe_ifExp hc ha hb) fun τ H QV ⟨σ, h, Xd, Q, at_, hw, k⟩ => by
    refine ⟨σ, h, Xd, fun k h1 => ifB k (wpE bt C a Xd σ h1 Q) (wpE bt C b Xd σ h1 Q), at_, hw, fun t h1 H1 f rh q => ?_⟩
    cases t with
    | true =>
      rw [ifB_t] at q
      rw [if_pos rfl]
      exact one (at_.go f rh) q fun y h2 vy H2 f2 rh2 r2 p2 => k y h2 vy H2 (f.trans f2) rh2 (r2.base f) p2
    | false =>
      rw [ifB_f] at q
      rw [if_neg Bool.false_ne_true]
      exact one (at_.go f rh) q fun y h2 vy H2 f2 rh2 r2 p2 => k y h2 vy H2 (f.trans f2) rh2 (r2.base f) p2
/-! ### tests -/
/-- a plain test: a value's truth -/
theorem jt_val {a : E} {ea : Expr} (he : ∀ whole, isTrue ea X.env whole = (do let v ← whole; standAt ea.pos; holding [v] (truthy v))) (ha : PE X ea (TE (wd X) C Wx a)) : PT X ea (TT (wd X) C Wx a) :=
  PT.imp (pt_truth ha he) fun τ H QV ⟨σ, h, Xd, Q, at_, hw, k⟩ => one at_ hw fun x h1 vx H1 f rh r1 p => by
    obtain ⟨c, e, p⟩ := truK_ok rh r1 p
    exact ⟨c, e, k c h1 H1 f rh p⟩
theorem jt_not {a : E} {ea : Expr} {pos : Pos} (ha : PT X ea (TT (wd X) C Wx a)) : PT X (.UnaryOp .Not ea pos) (TT (wd X) C Wx (.not a)) :=
  PT.imp (pt_not ha) fun τ H QV ⟨σ, h, Xd, Q, at_, hw, k⟩ =>
    ⟨σ, h, Xd, fun b h1 => Q (!b) h1, at_, hw, fun b h1 H1 f rh q => k (!b) h1 H1 f rh q⟩
theorem pw_andF {a b : E} {ea eb : Expr} {rest : List Expr} {pos : Pos} (ha : PT X ea (TT (wd X) C Wx a)) (hb : PW X (.BoolOp .And (eb :: rest) pos) (TT (wd X) C Wx b)) : PW X (.BoolOp .And (ea :: eb :: rest) pos) (TT (wd X) C Wx (.and a b)) :=
  PW.imp (pw_and ha hb) fun τ H QV ⟨σ, h, Xd, Q, at_, hw, k⟩ => by
    refine ⟨σ, h, Xd, fun c h1 => ifB c (wpT bt C b Xd σ h1 Q) (Q false h1), at_, ?_, fun c h1 H1 f rh q => ?_⟩
    · have hw : wpE bt C a Xd σ h fun x h1 => truK x h1 fun c => ifB c (wpT bt C b Xd σ h1 Q) (truK x h1 fun b => Q b h1) := hw
      have e : (fun x h1 => truK x h1 fun c => ifB c (wpT bt C b Xd σ h1 Q) (truK x h1 fun b => Q b h1)) = fun x h1 => truK x h1 fun c => ifB c (wpT bt C b Xd σ h1 Q) (Q false h1) := by
        funext x h1
        refine truK_eq fun c e => ?_
        cases c with
        | true => rfl
        | false => rw [ifB_f, ifB_f, truK_some e]
      rw [e] at hw
      exact hw
    · cases c with
      | true =>
        rw [ifB_t] at q
        rw [if_pos rfl]
        exact ⟨σ, h1, Xd, Q, at_.go f rh, q, fun b h2 H2 f2 rh2 q2 => k b h2 H2 (f.trans f2) rh2 q2⟩
      | false =>
        rw [ifB_f] at q
        rw [if_neg Bool.false_ne_true]
        exact k false h1 H1 f rh q
theorem pw_orF {a b : E} {ea eb : Expr} {rest : List Expr} {pos : Pos} (ha : PT X ea (TT (wd X) C Wx a)) (hb : PW X (.BoolOp .Or (eb :: rest) pos) (TT (wd X) C Wx b)) : PW X (.BoolOp .Or (ea :: eb :: rest) pos) (TT (wd X) C Wx (.or a b)) :=
  PW.imp (pw_or ha hb) fun τ H QV ⟨σ, h, Xd, Q, at_, hw, k⟩ => by
    refine ⟨σ, h, Xd, fun c h1 => ifB c (Q true h1) (wpT bt C b Xd σ h1 Q), at_, ?_, fun c h1 H1 f rh q => ?_⟩
    · have hw : wpE bt C a Xd σ h fun x h1 => truK x h1 fun c => ifB c (truK x h1 fun b => Q b h1) (wpT bt C b Xd σ h1 Q) := hw
      have e : (fun x h1 => truK x h1 fun c => ifB c (truK x h1 fun b => Q b h1) (wpT bt C b Xd σ h1 Q)) = fun x h1 => truK x h1 fun c => ifB c (Q true h1) (wpT bt C b Xd σ h1 Q) := by
        funext x h1
        refine truK_eq fun c e => ?_
        cases c with
        | true => rw [ifB_t, ifB_t, truK_some e]
        | false => rfl
      rw [e] at hw
      exact hw
    · cases c with
      | true =>
        rw [ifB_t] at q
        rw [if_pos rfl]
        exact k true h1 H1 f rh q
      | false =>
        rw [ifB_f] at q
        rw [if_neg Bool.false_ne_true]
        exact ⟨σ, h1, Xd, Q, at_.go f rh, q, fun b h2 H2 f2 rh2 q2 => k b h2 H2 (f.trans f2) rh2 q2⟩
end
end AR
end

section
set_option Elab.async false
set_option linter.all false
set_option maxRecDepth 100000
set_option maxHeartbeats 4000000
/-! DL6: names, constants, chains, displays, subscripts, slices. -/
namespace AR
open PySem PySem.Spec PyProof.Rows L2
section
variable {X : Cx} {C : Ctx} {Wx : WX}
theorem je_var {i : Nat} {x : Str} {pos : Pos} (hN : X.N[i]? = some x) (hv : Vis X.env.scope x) (hd : (x == ("__debug__" : Str)) = false) (hcd : (x == ("__classdict__" : Str)) = false) : PE X (.Name x pos) (TE (wd X) C Wx (.var i)) :=
  PE.imp (pe_var hN hv hd hcd) fun τ H QV ⟨σ, h, Xd, Q, at_, hw, k⟩ => by
    unfold wpE at hw
    split at hw
    · rename_i d e
      obtain ⟨v, e1, r⟩ := at_.s.2 i d e
      exact ⟨v, e1, fin_val at_.hh r hw k⟩
    · exact hw.elim
theorem je_const {e : E} {ea : Expr} {d : D} {v : V} (hp : PE X ea (tC v)) (hr : ∀ H, Rep (wd X) H d v) (hw : ∀ Xd σ h Q, wpE bt C e Xd σ h Q → Q (.val d) h) : PE X ea (TE (wd X) C Wx e) :=
  PE.imp hp fun τ H QV ⟨σ, h, Xd, Q, at_, w, k⟩ => fin_val at_.hh (hr H) (hw _ _ _ _ w) k
theorem je_int {i : Int} {j pos} : PE X (.Constant (.int i) j pos) (TE (wd X) C Wx (.int i)) := je_const pe_int (fun _ => .int i) fun _ _ _ _ w => w
theorem je_bl {b : Bool} {j pos} : PE X (.Constant (.bool b) j pos) (TE (wd X) C Wx (.bl b)) := je_const pe_bl (fun _ => .bl b) fun _ _ _ _ w => w
theorem je_non {j pos} : PE X (.Constant .none j pos) (TE (wd X) C Wx .non) := je_const pe_non (fun _ => .non) fun _ _ _ _ w => w
theorem je_str {x : Str} {j pos} (hx : PyData.strOk x = true) : PE X (.Constant (.str x) j pos) (TE (wd X) C Wx (.str x)) := je_const pe_str (fun _ => .str x hx) fun _ _ _ _ w => w
/-- what the module holds at names -/
def GlOk (W : Wd) (C : Ctx) : Prop := ∀ x d, C.gl x = some d → ∃ u v, W.mg x = some u ∧ RelV v u ∧ ∀ H, Rep W H d v
theorem je_gl {x : Str} {pos : Pos} (hG : GlOk (wd X) C) (hg : Gl X x) (hd : (x == ("__debug__" : Str)) = false) : PE X (.Name x pos) (TE (wd X) C Wx (.gl x)) := by
  cases e : C.gl x with
  | none =>
    refine ⟨fun pins s τ H QV I ⟨σ, h, Xd, Q, at_, hw, k⟩ => ?_⟩
    unfold wpE at hw
    rw [e] at hw
    exact hw.elim
  | some d =>
    obtain ⟨u, v, m, r, q⟩ := hG x d e
    exact je_const (pe_glob hg m r hd) q fun Xd σ h Q w => by
      unfold wpE at w
      rw [e] at w
      exact w
theorem je_neg {a : E} {ea : Expr} {pos : Pos} (ha : PE X ea (TE (wd X) C Wx a)) : PE X (.UnaryOp .USub ea pos) (TE (wd X) C Wx (.neg a)) :=
  PE.imp (pe_un un_neg ha) fun τ H QV ⟨σ, h, Xd, Q, at_, hw, k⟩ => one at_ hw fun x h1 vx H1 f rh r1 p => by
    cases x with
    | new ds => exact p.elim
    | val d =>
      cases d with
      | int i =>
        have r1 : Rep (wd X) H1 (.int i) vx := r1
        cases r1
        exact ⟨i, rfl, k (.val (.int (-i))) h1 _ H1 f rh (Rep.int (-i)) p⟩
      | _ => exact p.elim
theorem rChain {W : Wd} {Wx : WX} {o o' : COp} {a b c : E} {r r' : R2} (hr : r = rCm W (cmpP o)) (hr' : r' = rCm W (cmpP o')) : ∀ τ H QV, TE W C Wx (.chain o o' a b c) τ H QV → tChain r r' (TE W C Wx a) (TE W C Wx b) (TE W C Wx c) τ H QV := by
  subst hr hr'
  rintro τ H QV ⟨σ, h, Xd, Q, at_, hw, k⟩
  refine two at_ hw fun x y h2 vx vy H2 f rh r1 r2 p => ⟨h2, x, y, H, _, rh, r1, r2, p, fun t q => ?_⟩
  refine ⟨t, rfl, ?_⟩
  cases t with
  | true =>
    rw [if_pos rfl]
    have q : wpE bt C c Xd σ h2 fun z h3 => cmpP o' y z h3 fun c => Q (.val (.bl c)) h3 := q
    exact one (at_.go f rh) q fun z h3 vz H3 f3 rh3 r3 p3 => ⟨h3, y, z, H, _, rh3, r2.mono f3 rh, r3.base f, p3, fun b q => k (.val (.bl b)) h3 _ H3 (f.trans f3) rh3 (.bl b) q⟩
  | false =>
    rw [if_neg Bool.false_ne_true]
    have q : Q (.val (.bl false)) h2 := q
    exact k (.val (.bl false)) h2 _ H2 f rh (.bl false) q
theorem lastMarks_ok {o o' : COp} {b c : Expr} (h : markOk o' c = true) : lastMarks [astC o, astC o'] [b, c] = false := mark_ok h
theorem je_chain (hu : RoomE X) {o o' : COp} {a b c : E} {ea eb ec : Expr} {pos : Pos} (hm : markOk o' ec = true) (ha : PE X ea (TE (wd X) C Wx a)) (hb : PE X eb (TE (wd X) C Wx b)) (hc : PE X ec (TE (wd X) C Wx c)) :
    PE X (.Compare ea [astC o, astC o'] [eb, ec] pos) (TE (wd X) C Wx (.chain o o' a b c)) :=
  PE.imp (pe_chain (op_cmp hu o) (op_cmp hu o') ha hb hc (lastMarks_ok hm)) (rChain rfl rfl)
theorem chain_bl {W : Wd} {Wx : WX} {o o' : COp} {a b c : E} {τ : L2.St} {H : Hp} {QV : Bool → Hp → Prop} : TT W C Wx (.chain o o' a b c) τ H QV → TE W C Wx (.chain o o' a b c) τ H fun v H1 => ∃ k, v = .bl k ∧ QV k H1 := by
  rintro ⟨σ, h, Xd, Q, at_, hw, k⟩
  exact ⟨σ, h, Xd, fun r h1 => truK r h1 fun b => (∃ c, r = .val (.bl c)) ∧ Q b h1, at_, by
    have hw : wpE bt C a Xd σ h fun x h1 => wpE bt C b Xd σ h1 fun y h2 => cmpP o x y h2 fun k => ifB k (wpE bt C c Xd σ h2 fun z h3 => cmpP o' y z h3 fun c => truK (.val (.bl c)) h3 fun b => Q b h3) (truK (.val (.bl false)) h2 fun b => Q b h2) := hw
    have e : ∀ (c : Bool) (h : Hd), (truK (.val (.bl c)) h fun b => (∃ d, (Res.val (.bl c)) = .val (.bl d)) ∧ Q b h) = truK (.val (.bl c)) h fun b => Q b h := fun c h => by
      rw [truK_some (b := c) rfl, truK_some (b := c) rfl]
      exact propext ⟨fun z => z.2, fun z => ⟨⟨c, rfl⟩, z⟩⟩
    show wpE bt C a Xd σ h fun x h1 => wpE bt C b Xd σ h1 fun y h2 => cmpP o x y h2 fun k => ifB k (wpE bt C c Xd σ h2 fun z h3 => cmpP o' y z h3 fun c => truK (.val (.bl c)) h3 fun b => (∃ d, (Res.val (.bl c)) = .val (.bl d)) ∧ Q b h3) (truK (.val (.bl false)) h2 fun b => (∃ d, (Res.val (.bl false)) = .val (.bl d)) ∧ Q b h2)
    simp only [e]
    exact hw, fun r h1 v H1 f rh rr p => by
      have p : truK r h1 fun b => (∃ c, r = .val (.bl c)) ∧ Q b h1 := p
      unfold truK at p
      dsimp only at p
      split at p
      · rename_i b e
        obtain ⟨⟨c, rfl⟩, q⟩ := p
        cases e
        have rr : Rep W H1 (.bl b) v := rr
        cases rr
        exact ⟨b, rfl, k b h1 H1 f rh q⟩
      · exact p.elim⟩
theorem jt_chain (hu : RoomE X) {o o' : COp} {a b c : E} {ea eb ec : Expr} {pos : Pos} (hm : markOk o' ec = true) (ha : PE X ea (TE (wd X) C Wx a)) (hb : PE X eb (TE (wd X) C Wx b)) (hc : PE X ec (TE (wd X) C Wx c)) :
    PT X (.Compare ea [astC o, astC o'] [eb, ec] pos) (TT (wd X) C Wx (.chain o o' a b c)) :=
  PT.imp (pt_chain (op_cmp hu o) (op_cmp hu o') ha hb hc (lastMarks_ok hm)) fun τ H QV z => rChain (o := o) (o' := o') rfl rfl τ H _ (chain_bl z)

/-! ### arguments, displays -/
def noStar : Expr → Bool
  | .Starred .. => false
  | _ => true
theorem star_cons {e : Expr} {es : List Expr} {env : Env} (h : noStar e = true) : starEach (e :: es) env = (false, eval e env) :: starEach es env := by
  cases e <;> first | rfl | simp [noStar] at h
theorem star_plain {pos : Pos} {env : Env} : ∀ {es : List Expr}, es.all noStar = true → (backTo pos (starEach es env)).any (·.1) = false
  | [], _ => rfl
  | e :: es, h => by
    rw [List.all_cons, Bool.and_eq_true] at h
    have ih := star_plain (pos := pos) (env := env) h.2
    rw [star_cons h.1]
    show (false || (backTo pos (starEach es env)).any (·.1)) = false
    rw [ih]
    rfl
theorem ja_nil : PA X [] (TA (wd X) C Wx .nil) := PA.imp pa_nil fun τ H QV ⟨σ, h, Xd, Q, at_, hw, k⟩ => k [] h [] H Fr.refl at_.hh .nil hw
theorem ja_cons {e : E} {es : Es} {ea : Expr} {eas : List Expr} (hs : noStar ea = true) (ha : PE X ea (TE (wd X) C Wx e)) (hb : PA X eas (TA (wd X) C Wx es)) : PA X (ea :: eas) (TA (wd X) C Wx (.cons e es)) :=
  PA.imp (pa_cons ha hb (star_cons hs)) fun τ H QV ⟨σ, h, Xd, Q, at_, hw, k⟩ => oneV at_ hw fun x h1 vx H1 f rh r1 p =>
    ⟨σ, h1, Xd, _, at_.go f rh, p, fun ds h2 vs H2 f2 rh2 r2 p2 => k _ h2 _ H2 (f.trans f2) rh2 (.cons (r1.mono (f2.fx rh)) r2) p2⟩
def Es.len : Es → Nat
  | .nil => 0
  | .cons _ es => es.len + 1
theorem wpEs_len {bt : Bits} {C : Ctx} {Xd : Xd} {σ : Sg} : ∀ (es : Es) (h : Hd) (Q : List D → Hd → Prop), wpEs bt C es Xd σ h Q = wpEs bt C es Xd σ h fun ds h1 => ds.length = es.len ∧ Q ds h1
  | .nil, h, Q => propext ⟨fun z => ⟨rfl, z⟩, fun z => z.2⟩
  | .cons e es, h, Q => by
    have e1 : ∀ d h2, (wpEs bt C es Xd σ h2 fun ds h3 => Q (d :: ds) h3) = wpEs bt C es Xd σ h2 fun ds h3 => (d :: ds).length = (Es.cons e es).len ∧ Q (d :: ds) h3 := fun d h2 => by
      rw [wpEs_len es h2, wpEs_len es h2 (fun ds h3 => (d :: ds).length = (Es.cons e es).len ∧ Q (d :: ds) h3)]
      congr 1
      funext ds h3
      exact propext ⟨fun z => ⟨z.1, by simp [Es.len, z.1], z.2⟩, fun z => ⟨z.1, z.2.2⟩⟩
    show (wpE bt C e Xd σ h fun r h1 => place r h1 fun d h2 => wpEs bt C es Xd σ h2 fun ds h3 => Q (d :: ds) h3) = wpE bt C e Xd σ h fun r h1 => place r h1 fun d h2 => wpEs bt C es Xd σ h2 fun ds h3 => (d :: ds).length = (Es.cons e es).len ∧ Q (d :: ds) h3
    simp only [e1]
theorem je_tup {es : Es} {eas : List Expr} {x1 pos} (hz : es.len ≤ big) (ha : PA X eas (TA (wd X) C Wx es)) : PE X (.Tuple eas x1 pos) (TE (wd X) C Wx (.tup es)) :=
  PE.imp (pe_tup ha) fun τ H QV ⟨σ, h, Xd, Q, at_, hw, k⟩ => ⟨σ, h, Xd, fun ds h1 => ds.length = es.len ∧ Q (.val (.tup ds)) h1, at_, by
    have hw : wpEs bt C es Xd σ h fun ds h1 => Q (.val (.tup ds)) h1 := hw
    rw [wpEs_len] at hw
    exact hw, fun ds h1 vs H1 f rh r1 p => ⟨by rw [← r1.length, p.1]; exact big_line hz, fun q nq => fin_tup nq rh r1 p.2 fun r h' v H' f' rh' rr z => k r h' v H' (f.trans f') rh' (rr.base f) z⟩⟩
theorem je_lst {es : Es} {eas : List Expr} {pos} (hz : es.len ≤ big) (ha : PA X eas (TA (wd X) C Wx es)) : PE X (.List eas pos) (TE (wd X) C Wx (.lst es)) :=
  PE.imp (pe_lst ha) fun τ H QV ⟨σ, h, Xd, Q, at_, hw, k⟩ => ⟨σ, h, Xd, fun ds h1 => ds.length = es.len ∧ Q (.new ds) h1, at_, by
    have hw : wpEs bt C es Xd σ h fun ds h1 => Q (.new ds) h1 := hw
    rw [wpEs_len] at hw
    exact hw, fun ds h1 vs H1 f rh r1 p => ⟨by rw [← r1.length, p.1]; exact big_line hz, fun q nq => fin_new nq rh r1 p.2 fun r h' v H' f' rh' rr z => k r h' v H' (f.trans f') rh' (rr.base f) z⟩⟩

/-! ### subscripts -/
theorem atD_ok {W : Wd} {H : Hp} {ds : List D} {vs : List V} {i : Int} {d : D} (r : Reps W H ds vs) (e : atD ds i = some d) : ∃ v, atI vs i = some v ∧ Rep W H d v := by
  have hl := r.length
  have key : ∀ j : Nat, ds[j]? = some d → ixN vs.length i = some j → ∃ v, atI vs i = some v ∧ Rep W H d v := fun j e1 e2 => by
    obtain ⟨v, e3, q⟩ := r.get e1
    exact ⟨v, by unfold atI; rw [e2]; exact e3, q⟩
  unfold atD at e
  split at e
  · rename_i h0
    have hj : i.toNat < ds.length := (List.getElem?_eq_some_iff.mp e).1
    exact key _ e (by unfold ixN; rw [if_pos h0, if_pos (by omega)])
  · rename_i h0
    split at e
    · rename_i h1
      exact key _ e (by unfold ixN; rw [if_neg h0, if_pos (by omega), ← hl])
    · cases e
theorem ix_dict (hu : X.A.units + 1 < cLine) : IxR X (fun x y H Q => ∃ a v, x = .ref a ∧ DGet H a y (some v) ∧ Q v H) := by
  intro value slice pins s σ H x y v u Q I rx ry h hs
  obtain ⟨a, w, rfl, g, q⟩ := h
  obtain rfl : v = Value.ref a := rx
  exact tail_any (dict_typeIs I g) PySem.F.slot_dict_getitem.lookup (d_getItem hu I g ry fun w' s3 I3 rw' => ⟨w, H, I3, rw', q⟩) hs
def rIxD (W : Wd) : R2 := fun vx vy H QV => ∃ h x y H0 Q, RepH W h H ∧ RepR W H0 h H x vx ∧ RepR W H0 h H y vy ∧ ixP x y h Q ∧ ∀ r h' v H', Fr h H h' H' → RepH W h' H' → RepR W H h' H' r v → Q r h' → QV v H'
theorem ix_all (hu : RoomE X) : IxR X (rIxD (wd X)) := by
  intro value slice pins s σ H vx vy v u QV I rx ry hh hs
  obtain ⟨h, x, y, H0, Q, rh, r1, r2, hb, k⟩ := hh
  have sq : ∀ (ds : List D) (vs : List V) (a : Addr), vx = .ref a → Reps (wd X) H ds vs → (SqT X.K H a vs ∨ SqL X.K H a vs) → ixAt ds y h Q → wpAny (model X.prog X.w) X.A (subscriptTail value slice v u) (EP X pins σ QV) X.xe s := by
    rintro ds vs a rfl q st hm
    cases y with
    | new es => exact hm.elim
    | val dy =>
      cases dy with
      | int i =>
        have hm : (match atD ds i with
          | some d => Q (.val d) h
          | none => False) := hm
        split at hm
        · rename_i d e
          obtain ⟨w, e1, q1⟩ := atD_ok q e
          have r2 : Rep (wd X) H (.int i) vy := r2
          cases r2
          rcases st with st | st
          · exact ix_tup value slice pins s σ H _ _ v u QV I rx ry ⟨a, vs, i, w, rfl, rfl, st, e1, fin_val rh q1 hm k⟩ hs
          · exact ix_list value slice pins s σ H _ _ v u QV I rx ry ⟨a, vs, i, w, rfl, rfl, st, e1, fin_val rh q1 hm k⟩ hs
        · exact hm.elim
      | _ => exact hm.elim
  cases x with
  | new ds =>
    obtain ⟨a, vs, e, _, _, l, q⟩ := r1
    exact sq ds vs a e q (.inr (.inl (.inl l))) hb
  | val d =>
    have r1 : Rep (wd X) H d vx := r1
    cases d with
    | tup ds => cases r1 with
      | tup e q => exact sq ds _ _ rfl q (.inl (.inl (.inl e))) hb
    | kt ds => cases r1 with
      | kt e q => exact sq ds _ _ rfl q (.inl (.inr e)) hb
    | ref a =>
      cases r1
      have hb : (match h a with
        | some (.lst ds) => ixAt ds y h Q
        | _ => ixK y (.ref a) h Q) := hb
      split at hb
      · rename_i ds ea
        obtain ⟨vs, e2, q⟩ := rh a _ ea
        exact sq ds vs a rfl q (.inr (.inl (.inl e2))) hb
      · cases y with
        | new ds => exact hb.elim
        | val kd =>
          have r2 : Rep (wd X) H kd vy := r2
          have hb : getP h (.ref a) kd (fun r => match r with
            | some d => Q (.val d) h
            | none => False) := hb
          obtain ⟨o, ov, g, ro, q⟩ := getP_ok (W := wd X) rh r2 hb
          cases o with
          | none => exact q.elim
          | some d =>
            obtain ⟨w, e, rw⟩ := ro.some_of
            subst e
            exact ix_dict (by unfold RoomE at hu; omega) value slice pins s σ H _ _ v u QV I rx ry ⟨a, w, rfl, g, fin_val rh rw q k⟩ hs
    | _ => exact hb.elim
/-- what stands as an index -/
def plainIx : Expr → Bool
  | .Slice .. => false
  | _ => true
theorem plainIx_ok {b : Expr} (h : plainIx b = true) : PlainIx b := fun o i => by
  cases b <;> first | rfl | simp [plainIx] at h
theorem je_ix (hu : RoomE X) {a b : E} {ea eb : Expr} {pos : Pos} (hp : plainIx eb = true) (ha : PE X ea (TE (wd X) C Wx a)) (hb : PE X eb (TE (wd X) C Wx b)) : PE X (.Subscript ea eb pos) (TE (wd X) C Wx (.ix a b)) :=
  PE.imp (pe_ix (ix_all hu) ha hb (plainIx_ok hp)) fun τ H QV ⟨σ, h, Xd, Q, at_, hw, k⟩ => two at_ hw fun x y h2 vx vy H2 f rh r1 r2 p =>
    ⟨h2, x, y, H, Q, rh, r1, r2, p, fun r h' v H' f' rh' rr q => k r h' v H' (f.trans f') rh' (rr.base f) q⟩
/-! ### slices -/
theorem ixc {n d : Nat} : ∀ o : Option Int, HT.sIx n d o = (match o with
    | none => d
    | some v => if v < 0 then (max (v + (n : Int)) 0).toNat else (min v (n : Int)).toNat)
  | none => rfl
  | some v => by
    show (if v < 0 then (v + (n : Int)).toNat else min v.toNat n) = (if v < 0 then (max (v + (n : Int)) 0).toNat else (min v (n : Int)).toNat)
    split <;> omega
theorem cut_sIx {α : Type} (ds : List α) (lo hi : Option Int) : cut ds lo hi = (ds.drop (HT.sIx ds.length 0 lo)).take (HT.sIx ds.length ds.length hi - HT.sIx ds.length 0 lo) := by
  cases lo <;> cases hi <;> (simp only [ixc]; rfl)
theorem cut_ok {W : Wd} {H : Hp} {ds : List D} {vs : List V} (r : Reps W H ds vs) (lo hi : Option Int) : Reps W H (cut ds lo hi) (cutV vs lo hi) := by
  rw [cut_sIx, r.length]
  exact (r.drop _).take _
def rSlD (W : Wd) : V → Option Int → Option Int → Hp → VK → Prop := fun vx lo hi H QV => ∃ h x H0 Q, RepH W h H ∧ RepR W H0 h H x vx ∧ slP x lo hi h Q ∧ ∀ r h' v H', Fr h H h' H' → RepH W h' H' → RepR W H h' H' r v → Q r h' → QV v H'
theorem cut_whole {α : Type} {ds : List α} {lo hi : Option Int} (h1 : HT.sIx ds.length 0 lo = 0) (h2 : HT.sIx ds.length ds.length hi = ds.length) : cut ds lo hi = ds := by
  rw [cut_sIx, h1, h2]
  simp
theorem sl_all : SlR X (rSlD (wd X)) := by
  intro pins s σ H vx v vl vu lo hi sl QV I rx hs pl pu hh
  obtain ⟨h, x, H0, Q, rh, r1, hb, k⟩ := hh
  have other : ∀ ds, lstOf x h = some ds → Q (.new (cut ds lo hi)) h → ∃ T id, typeLookup (.type T) "__getitem__" = pure (some (.builtin id)) ∧ s.TypeIs v T ∧ wpAny (model X.prog X.w) X.A (getItem v (.ref sl)) (EP X pins σ QV) X.xe s := fun ds e q => by
    obtain ⟨a, vs, rfl, l, r⟩ := lstOf_ok rh r1 e
    exact sl_list pins s σ H _ v vl vu lo hi sl QV I rx hs pl pu ⟨a, vs, rfl, .inl (.inl l), fun p np => fin_new np rh (cut_ok r lo hi) q k⟩
  have hb' : (match lstOf x h with
    | some ds => Q (.new (cut ds lo hi)) h
    | none => False) → ∃ T id, typeLookup (.type T) "__getitem__" = pure (some (.builtin id)) ∧ s.TypeIs v T ∧ wpAny (model X.prog X.w) X.A (getItem v (.ref sl)) (EP X pins σ QV) X.xe s := fun q => by
    split at q
    · rename_i ds e; exact other ds e q
    · exact q.elim
  cases x with
  | new ds => exact hb' hb
  | val d =>
    cases d with
    | tup ds =>
      have r1 : Rep (wd X) H (.tup ds) vx := r1
      have hb : Q (.val (.tup (cut ds lo hi))) h := hb
      cases r1 with
      | tup e q =>
        rename_i vs a
        have hl := q.length
        refine sl_tupA pins s σ H _ v vl vu lo hi sl QV I rx hs pl pu ⟨a, vs, rfl, .inl (.inl e), fun hw => ?_, fun hw p np => fin_tup np rh (cut_ok q lo hi) hb k⟩
        rw [cut_whole (ds := ds) (by rw [hl]; exact hw.1) (by rw [hl]; exact hw.2)] at hb
        exact fin_val rh (.tup e q) hb k
    | _ => exact hb' hb
theorem jo_none : PO X none (TO (wd X) C Wx .none) := ⟨fun pins s σ H Q I h => thn (po_none.run pins s σ H (fun o H' => o = none ∧ H' = H) I ⟨rfl, rfl⟩) fun u s' ⟨o, H', I', p, e1, e2⟩ => by
  subst e1 e2
  obtain ⟨σ, h, Xd, Q, at_, hw, k⟩ := h
  exact ⟨none, H', I', p, k none h H' Fr.refl at_.hh hw⟩⟩
theorem jo_some {e : E} {ea : Expr} (he : PE X ea (TE (wd X) C Wx e)) : PO X (some ea) (TO (wd X) C Wx (.some e)) :=
  ⟨fun pins s τ H QV I z => (po_some he).run pins s τ H QV I (by
    obtain ⟨σ, h, Xd, Q, at_, hw, k⟩ := z
    refine one at_ hw fun x h1 vx H1 f rh r1 p => ?_
    cases x with
    | new ds => exact p.elim
    | val d =>
      cases d with
      | int i =>
        have r1 : Rep (wd X) H1 (.int i) vx := r1
        cases r1
        exact ⟨i, rfl, k (some i) h1 H1 f rh p⟩
      | _ => exact p.elim)⟩
theorem je_sl {o : E} {lo hi : Oe} {ea : Expr} {el eh : Option Expr} {p2 pos : Pos} (he : PE X ea (TE (wd X) C Wx o)) (hl : PO X el (TO (wd X) C Wx lo)) (hh : PO X eh (TO (wd X) C Wx hi)) :
    PE X (.Subscript ea (.Slice el eh none p2) pos) (TE (wd X) C Wx (.sl o lo hi)) :=
  PE.imp (pe_slice sl_all he hl hh) fun τ H QV ⟨σ, h, Xd, Q, at_, hw, k⟩ => one at_ hw fun x h1 vx H1 f rh r1 p =>
    ⟨σ, h1, Xd, _, at_.go f rh, p, fun l h2 H2 f2 rh2 p2 => ⟨σ, h2, Xd, _, (at_.go f rh).go f2 rh2, p2, fun u h3 H3 f3 rh3 p3 =>
      ⟨h3, x, H, Q, rh3, (r1.mono f2 rh).mono f3 rh2, p3, fun r h' v H' f' rh' rr q => k r h' v H' (((f.trans f2).trans f3).trans f') rh' (rr.base ((f.trans f2).trans f3)) q⟩⟩⟩
theorem je_rev {o : E} {ea : Expr} {kk : Nat} {p1 p2 p3 pos : Pos} (he : PE X ea (TE (wd X) C Wx o)) : PE X (.Subscript ea (.Slice none none (some (.UnaryOp .USub (.Constant (.int 1) kk p1) p2)) p3) pos) (TE (wd X) C Wx (.rev o)) :=
  PE.imp (pe_revL he) fun τ H QV ⟨σ, h, Xd, Q, at_, hw, k⟩ => one at_ hw fun x h1 vx H1 f rh r1 p => by
    have p : (match lstOf x h1 with
      | some ds => Q (.new ds.reverse) h1
      | none => False) := p
    split at p
    · rename_i ds e
      obtain ⟨a, vs, rfl, l, r⟩ := lstOf_ok rh r1 e
      exact ⟨a, vs, rfl, .inl (.inl l), fun q nq => fin_new nq rh r.reverse p fun r h' v H' f' rh' rr z => k r h' v H' (f.trans f') rh' (rr.base f) z⟩
    · exact p.elim
end
end AR
end

section
set_option Elab.async false
set_option linter.all false
set_option maxRecDepth 100000
set_option maxHeartbeats 4000000
/-! DLS: sorted over lists, tuples, dicts: ints, and tuples of ints and texts. -/
namespace AR
open PySem PySem.Spec PyProof.Rows L2 SrtO
/-! ### the order -/
theorem str_ext {x y : Str} (h : x.cps.toList = y.cps.toList) : x = y := by
  cases x; cases y; simp at h; simp [h]
theorem ltKy_irrefl (x : Ky) : ltKy x x = false := by
  cases x with
  | inl i => simp [ltKy]
  | inr x => simp [ltKy]
theorem ltKy_asym {x y : Ky} (h : ltKy x y = true) : ltKy y x = false := by
  cases x <;> cases y <;> simp [ltKy] at h ⊢
  · omega
  · exact Std.le_of_lt h
theorem ltKy_total {x y : Ky} (h1 : ltKy x y = false) (h2 : ltKy y x = false) : x = y := by
  cases x <;> cases y <;> simp [ltKy] at h1 h2 ⊢
  · omega
  · exact str_ext (List.le_antisymm h2 h1)
theorem ltKy_trans {x y z : Ky} (h1 : ltKy x y = true) (h2 : ltKy y z = true) : ltKy x z = true := by
  cases x <;> cases y <;> cases z <;> simp [ltKy] at h1 h2 ⊢
  · omega
  · exact List.lt_trans h1 h2
theorem ltKys_irrefl : ∀ x : List Ky, ltKys x x = false
  | [] => rfl
  | x :: xs => by simp [ltKys, ltKys_irrefl xs]
theorem ltKys_asym : ∀ {x y : List Ky}, ltKys x y = true → ltKys y x = false
  | [], [], h => by cases h
  | [], _ :: _, _ => rfl
  | _ :: _, [], h => by cases h
  | x :: xs, y :: ys, h => by
    unfold ltKys at h ⊢
    by_cases e : x = y
    · rw [if_pos e] at h; rw [if_pos e.symm]; exact ltKys_asym h
    · rw [if_neg e] at h; rw [if_neg (Ne.symm e)]; exact ltKy_asym h
theorem ltKys_total : ∀ {x y : List Ky}, ltKys x y = false → ltKys y x = false → x = y
  | [], [], _, _ => rfl
  | [], _ :: _, h, _ => by cases h
  | _ :: _, [], _, h => by cases h
  | x :: xs, y :: ys, h1, h2 => by
    unfold ltKys at h1 h2
    by_cases e : x = y
    · rw [if_pos e] at h1; rw [if_pos e.symm] at h2
      rw [e, ltKys_total h1 h2]
    · rw [if_neg e] at h1; rw [if_neg (Ne.symm e)] at h2
      exact absurd (ltKy_total h1 h2) e
theorem ltKys_trans : ∀ {x y z : List Ky}, ltKys x y = true → ltKys y z = true → ltKys x z = true
  | [], [], _, h, _ => by cases h
  | [], _ :: _, [], _, h => by cases h
  | [], _ :: _, _ :: _, _, _ => rfl
  | _ :: _, [], _, h, _ => by cases h
  | _ :: _, _ :: _, [], _, h => by cases h
  | x :: xs, y :: ys, z :: zs, h1, h2 => by
    unfold ltKys at h1 h2 ⊢
    by_cases e : x = y
    · rw [if_pos e] at h1
      by_cases e2 : y = z
      · rw [if_pos e2] at h2
        rw [if_pos (e.trans e2)]
        exact ltKys_trans h1 h2
      · rw [if_neg e2] at h2
        rw [if_neg (fun q => e2 (e.symm.trans q)), e]
        exact h2
    · rw [if_neg e] at h1
      by_cases e2 : y = z
      · rw [if_pos e2] at h2
        rw [if_neg (fun q => e (q.trans e2.symm)), ← e2]
        exact h1
      · rw [if_neg e2] at h2
        have h3 := ltKy_trans h1 h2
        rw [if_neg (fun q => by rw [q, ltKy_irrefl] at h3; cases h3)]
        exact h3
theorem swo_kys {α : Type} (f : α → List Ky) : Swo fun x y => ltKys (f x) (f y) := by
  refine ⟨fun x y h => ltKys_asym h, fun x y z h1 h2 => ?_⟩
  rcases bcase (ltKys (f z) (f x)) with h | h
  · rcases bcase (ltKys (f x) (f y)) with q | q
    · have := ltKys_trans h q
      rw [h2] at this; cases this
    · have e := ltKys_total q h1
      rw [e, h2] at h; cases h
  · exact h
/-! ### the comparison of two such tuples -/
section
variable {prog : Program} {w : World} {A : Around} {E : Value → Shared → Prop} {s : Shared}
theorem like_len : ∀ {x y : List Ky}, like x y = true → x.length = y.length
  | [], [], _ => rfl
  | [], _ :: _, h => by simp [like] at h
  | _ :: _, [], h => by simp [like] at h
  | .inl _ :: xs, .inl _ :: ys, h => by simp [like] at h; simp [like_len h]
  | .inr _ :: xs, .inr _ :: ys, h => by simp [like] at h; simp [like_len h]
  | .inl _ :: xs, .inr _ :: ys, h => by simp [like] at h
  | .inr _ :: xs, .inl _ :: ys, h => by simp [like] at h
theorem katLex_kys {Q : Bool → Shared → Prop} : ∀ {x y : List Ky} {us vs : List Value} {i : Nat}, Vals (x.map kV) us → Vals (y.map kV) vs → like x y = true → Q (ltKys x y) s →
    PySem.W.KatLex prog w A true false Q (us.zip vs) i s
  | [], [], us, vs, i, r1, r2, _, q => by
    cases r1; cases r2
    exact PySem.W.kat_nil q
  | .inl a :: xs, .inl b :: ys, us, vs, i, r1, r2, l, q => by
    cases r1 with
    | cons ra ta =>
      cases r2 with
      | cons rb tb =>
        obtain ⟨t, rfl⟩ := ra
        obtain ⟨u, rfl⟩ := rb
        rename_i us vs
        show PySem.W.KatLex prog w A true false Q ((.int a t, .int b u) :: us.zip vs) i s
        refine PySem.W.kat_cons (SeqAt.EqAt.int_int a t b u prog w _ _ (PySem.W.kat_go (fun e => ?_) fun e => ?_))
        · have ea : a = b := by simpa using e
          subst ea
          have q' : Q (ltKys xs ys) s := by simpa [ltKys] using q
          exact PySem.W.kat_yes (katLex_kys ta tb (by simpa [like] using l) q')
        · have ea : a ≠ b := by simpa using e
          have q' : Q (decide (a < b)) s := by
            have e2 : ¬ ((Sum.inl a : Ky) = Sum.inl b) := fun z => ea (Sum.inl.inj z)
            unfold ltKys at q
            rw [if_neg e2] at q
            exact q
          exact PySem.W.kat_no (TS.oneLt_ints _ q')
  | .inr a :: xs, .inr b :: ys, us, vs, i, r1, r2, l, q => by
    cases r1 with
    | cons ra ta =>
      cases r2 with
      | cons rb tb =>
        obtain ⟨t, rfl⟩ := ra
        obtain ⟨u, rfl⟩ := rb
        rename_i us vs
        show PySem.W.KatLex prog w A true false Q ((.str a t, .str b u) :: us.zip vs) i s
        refine PySem.W.kat_cons (SeqAt.EqAt.str_str a t b u prog w _ _ (PySem.W.kat_go (fun e => ?_) fun e => ?_))
        · have ea : a = b := by simpa using e
          subst ea
          have q' : Q (ltKys xs ys) s := by simpa [ltKys] using q
          exact PySem.W.kat_yes (katLex_kys ta tb (by simpa [like] using l) q')
        · have ea : a ≠ b := by simpa using e
          have q' : Q (decide (a.cps.toList < b.cps.toList)) s := by
            have e2 : ¬ ((Sum.inr a : Ky) = Sum.inr b) := fun z => ea (Sum.inr.inj z)
            unfold ltKys at q
            rw [if_neg e2] at q
            exact q
          refine PySem.W.kat_no ?_
          cases hi : (true && i == 0) with
          | true => exact oneLt_str q'
          | false => exact PySem.W.kat_one _ _ (PyProof.Rows.lt_str q')
  | [], _ :: _, _, _, _, _, _, l, _ => by simp [like] at l
  | _ :: _, [], _, _, _, _, _, l, _ => by simp [like] at l
  | .inl _ :: xs, .inr _ :: ys, _, _, _, _, _, l, _ => by simp [like] at l
  | .inr _ :: xs, .inl _ :: ys, _, _, _, _, _, l, _ => by simp [like] at l
/-- v is a tuple of the heap with the parts k -/
def IsK (h : Heap) (v : Value) (k : List Ky) : Prop := ∃ a its, v = .ref a ∧ Vals (k.map kV) its ∧ IsTup h a its.toArray
theorem IsK.keeps {h h' : Heap} {v : Value} {k : List Ky} (x : IsK h v k) (keep : ∀ b o, h.get? b = some o → o.cls = .type "tuple" → h'.get? b = some o) : IsK h' v k := by
  obtain ⟨a, its, e, r, o, h1, h2, h3⟩ := x
  exact ⟨a, its, e, r, o, keep a o h1 h2, h2, h3⟩
theorem kys_cmp {vs : List Value} {k : Value → List Ky} (hp : ∀ v ∈ vs, IsK s.heap v (k v)) (hl : ∀ v ∈ vs, ∀ u ∈ vs, like (k v) (k u) = true) : Cmp prog w A s (tuples' true) (fun p => p.1 ∈ vs) (lt2 fun v u => ltKys (k v) (k u)) := by
  intro p q hm hm'
  show wpAny (model prog w) A (keyLt' (tuples' true) p.1 q.1) (fun r s' => s' = s ∧ r = ltKys (k p.1) (k q.1)) (fun _ _ => False) s
  obtain ⟨a, us, e, r, o, h1, h2, n, h3⟩ := hp _ hm
  obtain ⟨b, ws, e', r', o', h1', h2', n', h3'⟩ := hp _ hm'
  rw [e, e']
  refine PySem.W.kat_lt h1 h3 h1' h3' ?_
  have l := hl _ hm _ hm'
  have l1 := r.length
  have l2 := r'.length
  rw [List.length_map] at l1 l2
  have l3 := like_len l
  have e1 : decide (us.toArray.size < ws.toArray.size) = false := decide_eq_false (by simp; omega)
  rw [e1, ← e, ← e']
  exact katLex_kys (Q := fun r s' => s' = s ∧ r = ltKys (k p.1) (k q.1)) r r' l ⟨rfl, rfl⟩
theorem tups_firsts {h : Heap} : ∀ {vs : List Value} {k : Value → List Ky}, (∀ v ∈ vs, IsK h v (k v)) → (∀ v ∈ vs, k v ≠ []) → ∃ fs, PySem.W.KatTups h vs fs ∧ fs.length = vs.length ∧
    ∀ f ∈ fs, ∃ v ∈ vs, ∃ y r, k v = y :: r ∧ RelV (kV y) f
  | [], _, _, _ => ⟨[], trivial, rfl, fun _ h => absurd h (by simp)⟩
  | v :: vs, k, h1, h2 => by
    obtain ⟨fs, t1, t2, t3⟩ := tups_firsts (vs := vs) (k := k) (fun u hu => h1 u (List.mem_cons_of_mem _ hu)) fun u hu => h2 u (List.mem_cons_of_mem _ hu)
    obtain ⟨a, its, e, r, o, g1, g2, n, g3⟩ := h1 v List.mem_cons_self
    have n0 := h2 v List.mem_cons_self
    cases ek : k v with
    | nil => exact absurd ek n0
    | cons y ys =>
      rw [ek] at r
      cases r with
      | cons ry rys =>
        rename_i f its
        subst e
        refine ⟨f :: fs, PySem.W.KatTups.cons g1 g2 g3 (by simp) t1, by simp [t2], fun g hg => ?_⟩
        rcases List.mem_cons.mp hg with e | hg
        · subst e
          exact ⟨_, List.mem_cons_self, y, ys, ek, ry⟩
        · obtain ⟨v', m, z⟩ := t3 g hg
          exact ⟨v', List.mem_cons_of_mem _ m, z⟩
theorem kys_sortable {a : Addr} {vs : List Value} {k : Value → List Ky} (h0 : 0 < vs.length) (hp : ∀ v ∈ vs, IsK s.heap v (k v)) (hn : ∀ v ∈ vs, k v ≠ []) (hl : ∀ v ∈ vs, ∀ u ∈ vs, like (k v) (k u) = true)
    (ha : ∀ o, s.heap.get? a = some o → o.cls ≠ .type "tuple") : SortableO prog w A s a vs fun v u => ltKys (k v) (k u) := by
  intro h' keep
  have hp' : ∀ v ∈ vs, IsK h' v (k v) := fun v hm => (hp v hm).keeps fun b o e c => keep b o (fun z => by subst z; exact ha o e c) e
  obtain ⟨fs, h1, h2, h3⟩ := tups_firsts hp' hn
  refine ⟨tuples' true, fun Q E hq => ?_, kys_cmp hp' hl⟩
  -- one type
  obtain ⟨v0, hv0⟩ : ∃ v0, v0 ∈ vs := by
    cases vs with
    | nil => exact absurd h0 (by simp)
    | cons v _ => exact ⟨v, List.mem_cons_self⟩
  cases ek : k v0 with
  | nil => exact absurd ek (hn v0 hv0)
  | cons y0 r0 =>
    cases y0 with
    | inl i0 =>
      refine PySem.W.kat_kind (T := .type "int") h1 (by omega) (fun f hm => ?_) (by rfl) ?_
      · obtain ⟨v, m, y, r, e, ry⟩ := h3 f hm
        have l := hl v0 hv0 v m
        rw [ek, e] at l
        cases y with
        | inl i => obtain ⟨t, rfl⟩ := ry; exact PySem.W.Looks.now
        | inr x => simp [like] at l
      · have e : (Value.type "int" != Value.type "tuple") = true := by first | decide +kernel | rfl | decide
        rw [e]
        exact hq
    | inr x0 =>
      refine PySem.W.kat_kind (T := .type "str") h1 (by omega) (fun f hm => ?_) (by rfl) ?_
      · obtain ⟨v, m, y, r, e, ry⟩ := h3 f hm
        have l := hl v0 hv0 v m
        rw [ek, e] at l
        cases y with
        | inr x => obtain ⟨t, rfl⟩ := ry; exact PySem.W.Looks.now
        | inl i => simp [like] at l
      · have e : (Value.type "str" != Value.type "tuple") = true := by first | decide +kernel | rfl | decide
        rw [e]
        exact hq
/-! ### sorted, of whatever may be collected -/
theorem sorted_src {r : Addr} {P : List Value → Prop} {ltv : Value → Value → Bool} {Q : Value → Shared → Prop} (O : Swo ltv)
    (hcol : ∀ (R : List Value → Shared → Prop), (∀ h' tk vs, P vs → vs.length ≤ sizeLine → (∀ b o, s.heap.get? b = some o → h'.get? b = some o) → R vs { s with heap := h', toks := tk }) → wpAny (model prog w) A.in1 (collect (.ref r)) R E s)
    (hS : ∀ vs, P vs → 2 ≤ vs.length → ∀ (s₁ : Shared) (a : Addr), s₁.heap.get? a = some (seqObj "list" vs.toArray 0) → (∀ b o, s.heap.get? b = some o → b ≠ a ∧ s₁.heap.get? b = some o) → SortableO prog w A.in1.in1 s₁ a vs ltv)
    (h : ∀ (vs out : List Value) (h1 h' : Heap) (d : Addr) (tk : Nat), P vs → Srtd ltv out → Stb ltv out vs → vs.length ≤ sizeLine → (∀ b o, s.heap.get? b = some o → h1.get? b = some o) → (∀ b o, h1.get? b = some o → h'.get? b = some o) → h1.objs.size ≤ d → (∃ n, h'.get? d = some (seqObj "list" out.toArray n)) → Q (.ref d) { s with heap := h', toks := tk }) :
    wpAny (model prog w) A (call (.builtin "sorted") [.ref r]) Q E s := by
  refine Calls.call_function_entry kind_sorted plain_sorted entry_sorted (args_sorted1 _) ?_
  unfold Builtin.«sorted»
  refine wpAny_bind (m := checkCount "sorted" 1 1 _) (wpAny_pure ?_)
  refine wpAny_bind (hcol _ fun h' tk vs hP hz kp => ?_)
  refine wpAny_bind (wpAny_newList ?_ hz)
  have hoL : (h'.push (seqObj "list" vs.toArray 0)).get? h'.objs.size = some (seqObj "list" vs.toArray 0) := Heap.get?_push_size _ rfl
  have keep : ∀ b o, s.heap.get? b = some o → b ≠ h'.objs.size ∧ (h'.push (seqObj "list" vs.toArray 0)).get? b = some o := fun b o q =>
    ⟨Nat.ne_of_lt (Heap.lt_size (kp b o q)), Heap.get?_push_of_some _ (kp b o q)⟩
  show wpAny _ _ _ _ _ { s with heap := h'.push (seqObj "list" vs.toArray 0), toks := tk }
  refine wpAny_bind (wpAny_holding (wpAny_call_entry slot_list_sort ⟨_, hoL, rfl⟩ entry_list_sort (list_sort_ord O hoL hz (fun h2 => hS vs hP h2 { s with heap := h'.push (seqObj "list" vs.toArray 0), toks := tk } _ hoL keep) fun out hs hb => ⟨_, rfl, ?_⟩) (args_list_sort _)))
  refine wpAny_pure ⟨_, rfl, h vs out h' _ _ _ hP hs hb hz kp (fun b o q => ?_) (Nat.le_refl _) (sortedHeap_at (vs := vs) (out := out.toArray) hoL)⟩
  have q2 : (h'.push (seqObj "list" vs.toArray 0)).get? b = some o := Heap.get?_push_of_some _ q
  rw [sortedHeap_old (Nat.ne_of_lt (Heap.lt_size q)) (Heap.lt_size q2)]
  exact q2

/-! ### what is collected -/
theorem collect_tuple {l : Addr} {vs : List Value} {Q : List Value → Shared → Prop} (hl : IsTup s.heap l vs.toArray)
    (h : Q vs { s with heap := (s.heap.push (seqObj "list" #[] 0)).update s.heap.objs.size (Obj.mapSeq (· ++ vs.toArray)) }) (hsz : vs.length ≤ sizeLine) :
    wpAny (model prog w) A (collect (.ref l)) Q E s := by
  obtain ⟨o, ho, hc, n, hd⟩ := id hl
  unfold collect
  refine wpAny_bind (wpAny_runValue (codeAny_builtin entry_proto_collect' ?_))
  show wpAny _ _ (do again (.builtin "list.__iadd__" ⟨[← newList [], .ref l], []⟩)) _ _ s
  refine wpAny_bind (wpAny_newList (wpAny_pure ⟨Code.quiet_builtin _ (by decide +kernel), codeAny_builtin entry_list_iadd' ?_⟩))
  show wpAny _ _ (Builtin.List.listExtendWith (.ref s.heap.objs.size) (.ref l) (.ref s.heap.objs.size)) _ _ { s with heap := s.heap.push (seqObj "list" #[] 0) }
  unfold Builtin.List.listExtendWith
  have ho' : (s.heap.push (seqObj "list" #[] 0)).get? l = some o := Heap.get?_push_of_some _ ho
  refine wpAny_bind (wpAny_typeOf (T := "tuple") ⟨o, ho', hc⟩ ?_)
  have ht : (Value.type "tuple" == Value.type "tuple") = true := by rfl
  rw [if_pos (by rw [ht]; simp)]
  refine wpAny_bind (listItems_at ho' hd ?_)
  refine wpAny_bind (listItems_at (xs := #[]) (n := 0) (Heap.get?_push_size _ rfl) rfl ?_)
  rw [if_neg (by simp)]
  refine wpAny_bind (listUpdate_at (xs := #[]) (n := 0) (Heap.get?_push_size _ rfl) rfl ?_ (Nat.zero_le _) (by show (#[] ++ vs.toArray).size ≤ sizeLine + 1; simp only [Array.size_append, List.size_toArray, List.length_nil]; omega))
  refine wpAny_pure ?_
  show wpAny (model prog w) A (do
      let o ← load s.heap.objs.size
      match o.data with
      | .seq xs _ => pure xs.toList
      | _ => unsupported "internal:collect") Q E { s with heap := (s.heap.push (seqObj "list" #[] 0)).update s.heap.objs.size (Obj.mapSeq (· ++ vs.toArray)) }
  refine wpAny_bind (wpAny_load (get?_update_seq (Heap.get?_push_size _ rfl) _) ?_)
  show wpAny _ _ (pure ((#[] : Array Value) ++ vs.toArray).toList) Q E _
  rw [show ((#[] : Array Value) ++ vs.toArray).toList = vs by simp]
  exact wpAny_pure h
theorem push_keep {vs : Array Value} (h : Heap) : ∀ b o, h.get? b = some o → ((h.push (seqObj "list" #[] 0)).update h.objs.size (Obj.mapSeq (· ++ vs))).get? b = some o := fun b o q => by
  rw [Heap.get?_update_ne _ _ _ _ (Nat.ne_of_lt (Heap.lt_size q))]
  exact Heap.get?_push_of_some _ q
end
section
variable {X : Cx} {pins : List (Addr × Obj)} {σ : L2.St} {H : Hp} {s : Shared} {E : Value → Shared → Prop} {a : Addr}
theorem col_l {R : List Value → Shared → Prop} {vs : List V} (I : L2.Inv X pins σ H s) (e : SqL X.K H a vs) (h : ∀ (h' : Heap) (tk : Nat) (us : List Value), Vals vs us → us.length ≤ sizeLine → (∀ b o, s.heap.get? b = some o → h'.get? b = some o) → R us { s with heap := h', toks := tk }) :
    wpAny (model X.prog X.w) X.A.in1 (collect (.ref a)) R E s := by
  obtain ⟨its, rv, p, hz⟩ := I.list e
  exact collect_list p.isList (h _ s.toks its rv (by rw [← rv.length]; exact hz) (push_keep _)) (by rw [← rv.length]; exact hz)
theorem col_t {R : List Value → Shared → Prop} {vs : List V} (I : L2.Inv X pins σ H s) (e : SqT X.K H a vs) (h : ∀ (h' : Heap) (tk : Nat) (us : List Value), Vals vs us → us.length ≤ sizeLine → (∀ b o, s.heap.get? b = some o → h'.get? b = some o) → R us { s with heap := h', toks := tk }) :
    wpAny (model X.prog X.w) X.A.in1 (collect (.ref a)) R E s := by
  obtain ⟨its, rv, p, hz⟩ := I.tuple e
  exact collect_tuple p (h _ s.toks its rv (by rw [← rv.length]; exact hz) (push_keep _)) (by rw [← rv.length]; exact hz)
theorem keyIs_rel {k : Key} {v : Value} (h : keyIs k v = true) : RelV (kV k) v := by
  rcases keyIs_shape h with ⟨i, t, rfl, rfl⟩ | ⟨x, t, rfl, rfl⟩
  · exact ⟨t, rfl⟩
  · exact ⟨t, rfl⟩
theorem vals_each : ∀ {vs : List V} {us : List Value}, us.length = vs.length → (∀ (j : Nat) (u : Value), us[j]? = some u → ∃ v, vs[j]? = some v ∧ RelV v u) → Vals vs us
  | [], [], _, _ => .nil
  | v :: vs, u :: us, hl, h => by
    obtain ⟨v', e, r⟩ := h 0 u rfl
    have e' : v = v' := by simpa using e
    subst e'
    exact .cons r (vals_each (by simpa using hl) fun j w e => by
      obtain ⟨v2, e2, r2⟩ := h (j + 1) w (by simpa using e)
      exact ⟨v2, by simpa using e2, r2⟩)
  | [], _ :: _, hl, _ => by simp at hl
  | _ :: _, [], hl, _ => by simp at hl
theorem col_dK {R : List Value → Shared → Prop} {kvs : List (Key × V)} (hc : X.calm = true) (I : L2.Inv X pins σ H s) (e : H a = some (.dK kvs)) (h : ∀ (h' : Heap) (tk : Nat) (us : List Value), Vals (kvs.map fun kv => kV kv.1) us → us.length ≤ sizeLine → (∀ b o, s.heap.get? b = some o → h'.get? b = some o) → R us { s with heap := h', toks := tk }) :
    wpAny (model X.prog X.w) X.A.in1 (collect (.ref a)) R E s := by
  obtain ⟨z, lo, vs, rel, dd⟩ := dk_rd I.hok (.inl e)
  obtain ⟨ep, hat⟩ := dd.dictAt
  have hl : kvs.length = vs.length := Paired.length rel
  refine PySem.W.kdu_collect (A := X.A.in1) (PySem.W.kdl_dict (knd := mixKind X.prog X.w) (kvs := vs) (ep := ep) lo) (I.ok.hd hc) hat (by rw [← hl]; exact z) fun h' tk acc hk hacc => ?_
  have hal : acc.toList.length = kvs.length := by rw [Array.length_toList, hacc.1, hl]
  refine h h' tk acc.toList (vals_each (by rw [List.length_map]; exact hal) fun j u e => ?_) (by rw [hal]; exact z) hk
  obtain ⟨k, x, e1, e2⟩ := hacc.2 j u (by rw [← Array.getElem?_toList]; exact e)
  have e3 : (kvs.map (·.1))[j]? = some k := by rw [rel.keys, List.getElem?_map, e1]; rfl
  rw [List.getElem?_map] at e3
  obtain ⟨kv, e4, e5⟩ := Option.map_eq_some_iff.mp e3
  refine ⟨kV kv.1, by rw [List.getElem?_map, e4]; rfl, ?_⟩
  rw [e5]
  exact keyIs_rel e2
theorem col_dT {R : List Value → Shared → Prop} {kvs : List (List Key × V)} (hc : X.calm = true) (I : L2.Inv X pins σ H s) (e : H a = some (.dT kvs)) (h : ∀ (h' : Heap) (tk : Nat) (bs : List Addr), IsKeys H kvs bs → bs.length ≤ sizeLine → (∀ b o, s.heap.get? b = some o → h'.get? b = some o) → R (bs.map Value.ref) { s with heap := h', toks := tk }) :
    wpAny (model X.prog X.w) X.A.in1 (collect (.ref a)) R E s := by
  obtain ⟨z, hs, ks, pr, o, es, ep, ho, hx, hdt, he, hn⟩ := (show ObjOk X.prog X.w H s.heap a (.dT kvs) from I.hok a _ e)
  have l1 : es.size = ks.length := size_of_entries he
  have l2 : kvs.length = ks.length := Paired.length pr
  refine PySem.W.kdu_collect (A := X.A.in1) (kdl_raw hs hx hdt) (I.ok.hd hc) ho (by omega) fun h' tk acc' kp it => ?_
  have ea : acc'.toList = ks.map fun x => Value.ref x.2.1 := by
    have hl : acc'.toList.length = ks.length := by rw [Array.length_toList, it.1]; exact l1
    apply List.ext_getElem?
    intro j
    rw [List.getElem?_map]
    cases hj : acc'.toList[j]? with
    | none =>
      have h1 := List.getElem?_eq_none_iff.mp hj
      rw [List.getElem?_eq_none (by omega)]
      all_goals rfl
    | some v =>
      obtain ⟨en, hen, hv⟩ := it.2 j v (by rw [← Array.getElem?_toList]; exact hj)
      have qe := entry_at he j
      rw [hen] at qe
      cases hb : ks[j]? with
      | none =>
        rw [hb] at qe
        exact nomatch (show some en = none from qe)
      | some b =>
        rw [hb] at qe
        have e2 : en = entryOfKey (tupleKind (mixKind X.prog X.w)) b := Option.some.inj qe
        rw [hv, e2]
        all_goals rfl
  have eb : acc'.toList = (ks.map fun x => x.2.1).map Value.ref := by rw [ea, List.map_map]; all_goals rfl
  rw [eb]
  exact h h' tk _ (isKeys_of pr) (by rw [List.length_map]; omega) kp
/-- ints -/
theorem sorted_I {is : List Int} {Q : VK} (I : L2.Inv X pins σ H s)
    (hcol : ∀ (R : List Value → Shared → Prop), (∀ (h' : Heap) (tk : Nat) (us : List Value), Vals (is.map V.int) us → us.length ≤ sizeLine → (∀ b o, s.heap.get? b = some o → h'.get? b = some o) → R us { s with heap := h', toks := tk }) → wpAny (model X.prog X.w) X.A.in1 (collect (.ref a)) R E s)
    (q : ∀ (js : List Int) (p : Addr), js.Perm is → js.Pairwise (· ≤ ·) → H p = none → Q (.ref p) (upd H p (.lst (js.map V.int)))) :
    wpAny (model X.prog X.w) X.A (call (.builtin "sorted") [.ref a]) (EP X pins σ Q) E s := by
  refine sorted_src (P := fun us => Vals (is.map V.int) us) swo_int hcol (fun vs hP h2 s₁ a' _ _ => ints_sortable (intsAre_of hP) h2) fun vs out h1 h' d tk hP hs hb hz k1 k2 hd ⟨n, hn⟩ => ?_
  obtain ⟨g1, g2, g3⟩ := ints_out (intsAre_of hP) hs hb
  have I1 : L2.Inv X pins σ H { s with heap := h1, toks := tk } := I.kept k1
  have hlen : ((out.map iv).map V.int).length ≤ sizeLine := by
    rw [List.length_map, List.length_map, hb.len]; exact hz
  exact ⟨.ref d, upd H d (.lst ((out.map iv).map V.int)), I1.laid (t' := tk) k2 hd ⟨hlen, out, n, vals_of_ints g1, hn⟩, rfl, q _ _ g2 g3 (I1.hok.fresh hd)⟩
def kyV : V → Option Ky
  | .int i => some (.inl i)
  | .str x => some (.inr x)
  | _ => none
def kysV : List V → List Ky
  | [] => []
  | v :: vs => (match kyV v with
    | some k => [k]
    | none => []) ++ kysV vs
theorem kysV_kV : ∀ ks : List Ky, kysV (ks.map kV) = ks
  | [] => rfl
  | .inl i :: ks => by show [Sum.inl i] ++ kysV (ks.map kV) = _; rw [kysV_kV ks]; rfl
  | .inr x :: ks => by show [Sum.inr x] ++ kysV (ks.map kV) = _; rw [kysV_kV ks]; rfl
/-- the parts of the tuple at a value -/
def keyAt (H : Hp) : Value → List Ky
  | .ref a => match H a with
    | some (.tup vs) => kysV vs
    | _ => []
  | _ => []
theorem keyAt_ok {H : Hp} {a : Addr} {k : List Ky} (e : H a = some (.tup (k.map kV))) : keyAt H (.ref a) = k := by
  show (match H a with
    | some (.tup vs) => kysV vs
    | _ => []) = k
  rw [e]
  exact kysV_kV k
theorem sorted_K {ks : List (List Ky)} {Q : VK} (I : L2.Inv X pins σ H s) (hn : ∀ k ∈ ks, k ≠ []) (hl : ∀ x ∈ ks, ∀ y ∈ ks, like x y = true)
    (hcol : ∀ (R : List Value → Shared → Prop), (∀ (h' : Heap) (tk : Nat) (bs : List Addr), Paired (fun k b => H b = some (.tup (k.map kV))) ks bs → bs.length ≤ sizeLine → (∀ b o, s.heap.get? b = some o → h'.get? b = some o) → R (bs.map Value.ref) { s with heap := h', toks := tk }) → wpAny (model X.prog X.w) X.A.in1 (collect (.ref a)) R E s)
    (q : ∀ (js : List (List Ky)) (bs : List Addr) (p : Addr), js.Perm ks → js.Pairwise (fun a b => ltKys b a = false) → Paired (fun k b => H b = some (.tup (k.map kV))) js bs → H p = none → Q (.ref p) (upd H p (.lst (bs.map V.ref)))) :
    wpAny (model X.prog X.w) X.A (call (.builtin "sorted") [.ref a]) (EP X pins σ Q) E s := by
  have mem : ∀ {ks : List (List Ky)} {bs : List Addr}, Paired (fun k b => H b = some (.tup (k.map kV))) ks bs → ∀ v ∈ bs.map Value.ref, ∃ b, v = .ref b ∧ keyAt H v ∈ ks ∧ H b = some (.tup ((keyAt H v).map kV)) := fun {ks bs} r => by
    induction r with
    | nil => intro v hv; exact absurd hv (by simp)
    | @cons k b ks bs h t ih =>
      intro v hv
      rcases List.mem_cons.mp hv with e | hv
      · subst e
        refine ⟨b, rfl, ?_, ?_⟩
        · rw [keyAt_ok h]; exact List.mem_cons_self
        · rw [keyAt_ok h]; exact h
      · obtain ⟨b', e1, e2, e3⟩ := ih v hv
        exact ⟨b', e1, List.mem_cons_of_mem _ e2, e3⟩
  have keys : ∀ {ks : List (List Ky)} {bs : List Addr}, Paired (fun k b => H b = some (.tup (k.map kV))) ks bs → (bs.map Value.ref).map (keyAt H) = ks := fun {ks bs} r => by
    induction r with
    | nil => rfl
    | @cons k b ks bs h t ih =>
      show keyAt H (.ref b) :: (bs.map Value.ref).map (keyAt H) = _
      rw [keyAt_ok h, ih]
  refine sorted_src (P := fun us => ∃ bs : List Addr, us = bs.map Value.ref ∧ Paired (fun k b => H b = some (.tup (k.map kV))) ks bs) (swo_kys (keyAt H)) (fun R hR => hcol R fun h' tk bs p hz kp => hR h' tk _ ⟨bs, rfl, p⟩ (by rw [List.length_map]; exact hz) kp)
    (fun vs hP h2 s₁ a' ha kk => ?_) fun vs out h1 h' d tk hP hs hb hz k1 k2 hd ⟨n, hn'⟩ => ?_
  · obtain ⟨bs, rfl, pr⟩ := hP
    refine kys_sortable (by omega) (fun v hv => ?_) (fun v hv => ?_) (fun v hv u hu => ?_) fun o e => ?_
    · obtain ⟨b, e1, _, e3⟩ := mem pr v hv
      obtain ⟨_, its, rv, ob, g1, g2, g3⟩ := (show ObjOk X.prog X.w H s.heap b (.tup _) from I.hok b _ e3)
      exact ⟨b, its, e1, rv, ob, (kk b ob g1).2, g2, g3⟩
    · obtain ⟨b, _, e2, _⟩ := mem pr v hv
      exact hn _ e2
    · obtain ⟨b, _, e2, _⟩ := mem pr v hv
      obtain ⟨b', _, e2', _⟩ := mem pr u hu
      exact hl _ e2 _ e2'
    · rw [ha] at e
      cases e
      intro c
      exact absurd (Value.type.inj c) (by decide)
  · obtain ⟨bs, rfl, pr⟩ := hP
    have I1 : L2.Inv X pins σ H { s with heap := h1, toks := tk } := I.kept k1
    have hm : ∀ v ∈ out, ∃ b, v = .ref b ∧ keyAt H v ∈ ks ∧ H b = some (.tup ((keyAt H v).map kV)) := fun v hv => mem pr v (hb.perm.mem_iff.mp hv)
    have hout : ∀ {l : List Value}, (∀ v ∈ l, ∃ b, v = .ref b ∧ keyAt H v ∈ ks ∧ H b = some (.tup ((keyAt H v).map kV))) → ∃ cs : List Addr, l = cs.map Value.ref ∧ Paired (fun k b => H b = some (.tup (k.map kV))) (l.map (keyAt H)) cs := fun {l} => by
      induction l with
      | nil => intro _; exact ⟨[], rfl, .nil⟩
      | cons v l ih =>
        intro h
        obtain ⟨b, e1, e2, e3⟩ := h v List.mem_cons_self
        obtain ⟨cs, e4, e5⟩ := ih fun u hu => h u (List.mem_cons_of_mem _ hu)
        refine ⟨b :: cs, by rw [e1, e4]; rfl, .cons e3 e5⟩
    obtain ⟨cs, e1, e2⟩ := hout hm
    have hp : (out.map (keyAt H)).Perm ks := by
      have := hb.perm.map (keyAt H)
      rw [keys pr] at this
      exact this
    have hlen : (cs.map V.ref).length ≤ sizeLine := by
      have l1 := hb.len
      rw [e1] at l1
      rw [List.length_map] at l1 ⊢
      rw [l1]; exact hz
    exact ⟨.ref d, upd H d (.lst (cs.map V.ref)), I1.laid (t' := tk) k2 hd ⟨hlen, out, n, by rw [e1]; exact vals_refs cs, hn'⟩, rfl, q _ cs d hp (List.pairwise_map.mpr hs) e2 (I1.hok.fresh hd)⟩
end
end AR
end

section
set_option Elab.async false
set_option linter.all false
set_option maxRecDepth 100000
set_option maxHeartbeats 4000000
/-! DL7: built-ins of one argument, dict displays, calls. -/
namespace AR
open PySem PySem.Spec PyProof.Rows L2
section
variable {X : Cx} {C : Ctx} {Wx : WX}
/-- a built-in of one argument, by values -/
def rB1 (W : Wd) (f : B1) : List V → Hp → VK → Prop := fun vs H QV => ∃ vx h x H0 Q, vs = [vx] ∧ RepH W h H ∧ RepR W H0 h H x vx ∧ b1P f x h Q ∧ ∀ r h' v H', Fr h H h' H' → RepH W h' H' → RepR W H h' H' r v → Q r h' → QV v H'
theorem itemsOf_ok {W : Wd} {h : Hd} {H H0 : Hp} {r : Res} {v : V} {ds : List D} (rh : RepH W h H) (rr : RepR W H0 h H r v) (e : itemsOf r h = some ds) : ∃ a vs, v = .ref a ∧ (SqL W.K H a vs ∨ SqT W.K H a vs) ∧ Reps W H ds vs := by
  cases r with
  | new es =>
    cases e
    obtain ⟨a, vs, e1, _, _, e2, q⟩ := rr
    exact ⟨a, vs, e1, .inl (.inl (.inl e2)), q⟩
  | val d =>
    have rr : Rep W H d v := rr
    cases d with
    | tup xs => cases e; cases rr with
      | tup e1 q => exact ⟨_, _, rfl, .inr (.inl (.inl e1)), q⟩
    | kt xs => cases e; cases rr with
      | kt e1 q => exact ⟨_, _, rfl, .inr (.inr e1), q⟩
    | rl xs => cases e; cases rr with
      | rl e1 q =>
        rcases e1 with ⟨o, e1⟩ | e1
        · exact ⟨_, _, rfl, .inl (.inl (.inr ⟨o, e1⟩)), q⟩
        · exact ⟨_, _, rfl, .inl (e1 H), q⟩
    | ref a =>
      cases rr
      have e1 : (match h a with
        | some (.lst ds) => some ds
        | _ => none) = some ds := e
      split at e1
      · rename_i es he
        cases e1
        obtain ⟨vs, e2, q⟩ := rh a _ he
        exact ⟨a, vs, rfl, .inl (.inl (.inl e2)), q⟩
      · cases e1
    | _ => cases e
theorem bools_ok {W : Wd} {H : Hp} : ∀ {ds : List D} {vs : List V} {bs : List Bool}, Reps W H ds vs → boolsD ds = some bs → vs = bs.map V.bl
  | _, _, bs, .nil, e => by cases e; rfl
  | d :: ds, _, bs, .cons r t, e => by
    cases d with
    | bl b =>
      have e1 : (boolsD ds).map (b :: ·) = some bs := e
      obtain ⟨cs, e2, rfl⟩ := Option.map_eq_some_iff.mp e1
      cases r
      rw [bools_ok t e2]
      rfl
    | _ => cases e
theorem ints_ok {W : Wd} {H : Hp} : ∀ {ds : List D} {vs : List V} {bs : List Int}, Reps W H ds vs → intsD ds = some bs → vs = bs.map V.int
  | _, _, bs, .nil, e => by cases e; rfl
  | d :: ds, _, bs, .cons r t, e => by
    cases d with
    | int b =>
      have e1 : (intsD ds).map (b :: ·) = some bs := e
      obtain ⟨cs, e2, rfl⟩ := Option.map_eq_some_iff.mp e1
      cases r
      rw [ints_ok t e2]
      rfl
    | _ => cases e
theorem reps_ints {W : Wd} {H : Hp} : ∀ is : List Int, Reps W H (is.map D.int) (is.map V.int)
  | [] => .nil
  | i :: is => .cons (.int i) (reps_ints is)
theorem RepKV.keys {κ : Type} [KOk κ] {W : Wd} {H : Hp} : ∀ {ds : List (κ × D)} {vs : List (κ × V)}, RepKV W H ds vs → ds.map (·.1) = vs.map (·.1)
  | _, _, .nil => rfl
  | _, _, .cons _ _ t => by simp only [List.map_cons]; rw [RepKV.keys t]
theorem keysOf_ok {h : Hd} {r : Res} {ds : List D} (e : keysOf r h = some ds) : ∃ a, r = .val (.ref a) ∧ ((∃ kvs, h a = some (.dK kvs) ∧ ds = kvs.map fun kv => dKy kv.1) ∨ ∃ kvs, h a = some (.dT kvs) ∧ ds = kvs.map fun kv => dTup kv.1) := by
  cases r with
  | new _ => cases e
  | val d =>
    cases d with
    | ref a =>
      refine ⟨a, rfl, ?_⟩
      have e : (match h a with
        | some (.dK kvs) => some (kvs.map fun kv => dKy kv.1)
        | some (.dT kvs) => some (kvs.map fun kv => dTup kv.1)
        | _ => none) = some ds := e
      split at e
      · rename_i kvs ea; cases e; exact .inl ⟨kvs, ea, rfl⟩
      · rename_i kvs ea; cases e; exact .inr ⟨kvs, ea, rfl⟩
      · cases e
    | _ => cases e
theorem cb_len : CallR X (.builtin "len") (rB1 (wd X) .len) := by
  intro pins s σ H xs us QV I rx hh
  obtain ⟨vx, h, x, H0, Q, rfl, rh, r1, hb, k⟩ := hh
  have other : (match itemsOf x h with
    | some ds => Q (.val (.int ds.length)) h
    | none => match keysOf x h with
      | some ds => Q (.val (.int ds.length)) h
      | none => False) → wpAny (model X.prog X.w) X.A (call (.builtin "len") us) (EP X pins σ QV) X.xe s := fun hb => by
    split at hb
    · rename_i ds e
      obtain ⟨a, vs, rfl, sq, q⟩ := itemsOf_ok rh r1 e
      rw [q.length] at hb
      refine call_len_seq pins s σ H _ us QV I rx ⟨a, vs, rfl, ?_, fin_val rh (.int _) hb k⟩
      exact sq
    · split at hb
      · rename_i ds e
        obtain ⟨a, rfl, ⟨kvs, ea, rfl⟩ | ⟨kvs, ea, rfl⟩⟩ := keysOf_ok e
        · have r1 : Rep (wd X) H (.ref a) vx := r1
          cases r1
          obtain ⟨vs, e2, q⟩ := rh a _ ea
          rw [List.length_map, q.length] at hb
          exact call_lenD pins s σ H _ us QV I rx ⟨a, vs, rfl, e2, fin_val rh (.int _) hb k⟩
        · have r1 : Rep (wd X) H (.ref a) vx := r1
          cases r1
          obtain ⟨vs, e2, q⟩ := rh a _ ea
          rw [List.length_map, q.length] at hb
          exact call_len_dT pins s σ H _ us QV I rx ⟨a, vs, rfl, e2, fin_val rh (.int _) hb k⟩
      · exact hb.elim
  cases x with
  | new ds => exact other hb
  | val d =>
    cases d with
    | str z =>
      have r1 : Rep (wd X) H (.str z) vx := r1
      cases r1
      have hb : z.length ≤ big ∧ Q (.val (.int z.length)) h := hb
      exact call_len_str pins s σ H _ us QV I rx ⟨z, rfl, big_line hb.1, fin_val rh (.int _) hb.2 k⟩
    | _ => exact other hb
theorem cb_list : CallR X (.type "list") (rB1 (wd X) .list) := by
  intro pins s σ H xs us QV I rx hh
  obtain ⟨vx, h, x, H0, Q, rfl, rh, r1, hb, k⟩ := hh
  have hb : (match itemsOf x h with
    | some ds => Q (.new ds) h
    | none => False) := hb
  split at hb
  · rename_i ds e
    obtain ⟨a, vs, rfl, sq, q⟩ := itemsOf_ok rh r1 e
    exact call_list_of pins s σ H _ us QV I rx ⟨a, vs, rfl, sq, fun p np => fin_new np rh q hb k⟩
  · exact hb.elim
theorem cb_tuple : CallR X (.type "tuple") (rB1 (wd X) .tuple) := by
  intro pins s σ H xs us QV I rx hh
  obtain ⟨vx, h, x, H0, Q, rfl, rh, r1, hb, k⟩ := hh
  have lists : ∀ ds a vs, vx = .ref a → SqL X.K H a vs → Reps (wd X) H ds vs → Q (.val (.tup ds)) h → wpAny (model X.prog X.w) X.A (call (.type "tuple") us) (EP X pins σ QV) X.xe s := by
    rintro ds a vs rfl sq q hb
    exact call_tuple_of pins s σ H _ us QV I rx ⟨a, vs, rfl, .inl ⟨sq, fun p np => fin_tup np rh q hb k⟩⟩
  cases x with
  | new ds =>
    obtain ⟨a, vs, e1, _, _, e2, q⟩ := r1
    exact lists ds a vs e1 (.inl (.inl e2)) q hb
  | val d =>
    have r1 : Rep (wd X) H d vx := r1
    cases d with
    | tup xs =>
      cases r1 with
      | tup e q => exact call_tuple_of pins s σ H _ us QV I rx ⟨_, _, rfl, .inr ⟨.inl (.inl e), fin_val rh (.tup e q) hb k⟩⟩
    | kt xs => exact hb.elim
    | rl xs => exact hb.elim
    | ref a =>
      have hb : (match itemsOf (.val (.ref a)) h with
        | some ds => Q (.val (.tup ds)) h
        | none => False) := hb
      split at hb
      · rename_i ds e
        obtain ⟨a, vs, e1, e2, q⟩ := lstOf_ok (W := wd X) (H0 := H) (r := .val (.ref a)) rh r1 (ds := ds) (by
          have e1 : (match h a with
            | some (.lst ds) => some ds
            | _ => none) = some ds := e
          exact e1)
        exact lists ds a vs e1 (.inl (.inl e2)) q hb
      · exact hb.elim
    | _ => exact hb.elim

theorem cb_all (hc : X.calm = true) : CallR X (.builtin "all") (rB1 (wd X) .all) := by
  intro pins s σ H xs us QV I rx hh
  obtain ⟨vx, h, x, H0, Q, rfl, rh, r1, hb, k⟩ := hh
  have fin : ∀ ds bs a vs, vx = .ref a → SqL X.K H a vs → Reps (wd X) H ds vs → boolsD ds = some bs → Q (.val (.bl (bs.all id))) h → wpAny (model X.prog X.w) X.A (call (.builtin "all") us) (EP X pins σ QV) X.xe s := by
    rintro ds bs a vs rfl sq q e hb
    rw [bools_ok q e] at sq
    exact cr_all hc pins s σ H _ us QV I rx ⟨a, bs, rfl, sq, fin_val rh (.bl _) hb k⟩
  have other : ∀ ds, lstOf x h = some ds → (match boolsD ds with
        | some bs => Q (.val (.bl (bs.all id))) h
        | none => False) → wpAny (model X.prog X.w) X.A (call (.builtin "all") us) (EP X pins σ QV) X.xe s := fun ds e hb => by
    split at hb
    · rename_i bs eb
      obtain ⟨a, vs, e1, e2, q⟩ := lstOf_ok rh r1 e
      exact fin ds bs a vs e1 (.inl (.inl e2)) q eb hb
    · exact hb.elim
  cases x with
  | new ds => exact other ds rfl hb
  | val d =>
    cases d with
    | tup _ => exact hb.elim
    | kt _ => exact hb.elim
    | ref a =>
      have hb : (match (match h a with
        | some (.lst ds) => some ds
        | _ => none : Option (List D)) with
        | some ds => match boolsD ds with
          | some bs => Q (.val (.bl (bs.all id))) h
          | none => False
        | none => False) := hb
      split at hb
      · rename_i ds e; exact other ds e hb
      · exact hb.elim
    | rl ds =>
      have hb : (match boolsD ds with
        | some bs => Q (.val (.bl (bs.all id))) h
        | none => False) := hb
      split at hb
      · rename_i bs e
        obtain ⟨a, vs, e1, sq, q⟩ := itemsOf_ok (ds := ds) rh r1 rfl
        have r1' : Rep (wd X) H (.rl ds) vx := r1
        cases r1' with
        | rl e2 q2 =>
          rename_i vs' a'
          refine fin ds bs a' vs' rfl ?_ q2 e hb
          rcases e2 with ⟨o, e2⟩ | e2
          · exact .inl (.inr ⟨o, e2⟩)
          · exact e2 H
      · exact hb.elim
    | _ => exact hb.elim
theorem cb_any (hc : X.calm = true) : CallR X (.builtin "any") (rB1 (wd X) .any) := by
  intro pins s σ H xs us QV I rx hh
  obtain ⟨vx, h, x, H0, Q, rfl, rh, r1, hb, k⟩ := hh
  have fin : ∀ ds bs a vs, vx = .ref a → SqL X.K H a vs → Reps (wd X) H ds vs → boolsD ds = some bs → Q (.val (.bl (bs.any id))) h → wpAny (model X.prog X.w) X.A (call (.builtin "any") us) (EP X pins σ QV) X.xe s := by
    rintro ds bs a vs rfl sq q e hb
    rw [bools_ok q e] at sq
    exact cr_any hc pins s σ H _ us QV I rx ⟨a, bs, rfl, sq, fin_val rh (.bl _) hb k⟩
  have other : ∀ ds, lstOf x h = some ds → (match boolsD ds with
        | some bs => Q (.val (.bl (bs.any id))) h
        | none => False) → wpAny (model X.prog X.w) X.A (call (.builtin "any") us) (EP X pins σ QV) X.xe s := fun ds e hb => by
    split at hb
    · rename_i bs eb
      obtain ⟨a, vs, e1, e2, q⟩ := lstOf_ok rh r1 e
      exact fin ds bs a vs e1 (.inl (.inl e2)) q eb hb
    · exact hb.elim
  cases x with
  | new ds => exact other ds rfl hb
  | val d =>
    cases d with
    | tup _ => exact hb.elim
    | kt _ => exact hb.elim
    | ref a =>
      have hb : (match (match h a with
        | some (.lst ds) => some ds
        | _ => none : Option (List D)) with
        | some ds => match boolsD ds with
          | some bs => Q (.val (.bl (bs.any id))) h
          | none => False
        | none => False) := hb
      split at hb
      · rename_i ds e; exact other ds e hb
      · exact hb.elim
    | rl ds =>
      have hb : (match boolsD ds with
        | some bs => Q (.val (.bl (bs.any id))) h
        | none => False) := hb
      split at hb
      · rename_i bs e
        have r1' : Rep (wd X) H (.rl ds) vx := r1
        cases r1' with
        | rl e2 q2 =>
          rename_i vs' a'
          refine fin ds bs a' vs' rfl ?_ q2 e hb
          rcases e2 with ⟨o, e2⟩ | e2
          · exact .inl (.inr ⟨o, e2⟩)
          · exact e2 H
      · exact hb.elim
    | _ => exact hb.elim
theorem cb_int : CallR X (.type "int") (rB1 (wd X) .int) := by
  intro pins s σ H xs us QV I rx hh
  obtain ⟨vx, h, x, H0, Q, rfl, rh, r1, hb, k⟩ := hh
  cases x with
  | new ds => exact hb.elim
  | val d =>
    have r1 : Rep (wd X) H d vx := r1
    cases d with
    | int i =>
      cases r1
      exact call_int1 pins s σ H _ us QV I rx (.inl ⟨i, rfl, fin_val rh (.int i) hb k⟩)
    | bl b =>
      cases r1
      exact call_int1 pins s σ H _ us QV I rx (.inr ⟨b, rfl, fin_val rh (.int _) hb k⟩)
    | _ => exact hb.elim
theorem cb_dict : CallR X (.type "dict") (rB1 (wd X) .dict) := by
  intro pins s σ H xs us QV I rx hh
  obtain ⟨vx, h, x, H0, Q, rfl, rh, r1, hb, k⟩ := hh
  cases x with
  | new ds => exact hb.elim
  | val d =>
    have r1 : Rep (wd X) H d vx := r1
    cases d with
    | ref a =>
      cases r1
      have hb : (match h a with
        | some (.dK kvs) => ∀ p, h p = none → Q (.val (.ref p)) (hup h p (.dK kvs))
        | _ => False) := hb
      split at hb
      · rename_i kvs e
        obtain ⟨vs, e2, q⟩ := rh a _ e
        refine call_dictD pins s σ H _ us QV I rx ⟨a, vs, rfl, .inl e2, fun p np => ?_⟩
        exact k (.val (.ref p)) (hup h p (.dK kvs)) (.ref p) (upd H p (.dK vs)) (Fr.newH np) (rh.newH np ⟨vs, upd_same, q.mono (fx_new np)⟩) (Rep.ref p) (hb p (rh.free np))
      · exact hb.elim
    | _ => exact hb.elim
theorem tups_ok {W : Wd} {H : Hp} : ∀ {ds : List D} {vs : List V} {ks : List (List Ky)}, Reps W H ds vs → tups ds = some ks → ∃ bs : List Addr, vs = bs.map V.ref ∧ Paired (fun k b => H b = some (.tup (k.map kV))) ks bs
  | _, _, ks, .nil, e => by cases e; exact ⟨[], rfl, .nil⟩
  | d :: ds, _, ks, .cons r t, e => by
    cases d with
    | tup xs =>
      have e1 : (match kysD xs, tups ds with
        | some k, some ks => some (k :: ks)
        | _, _ => none) = some ks := e
      split at e1
      · rename_i k ks' h1 h2
        cases e1
        obtain ⟨bs, e2, p⟩ := tups_ok t h2
        cases r with
        | tup e3 q =>
          rename_i ws a
          rw [kysD_ok q h1] at e3
          exact ⟨a :: bs, by rw [e2]; rfl, .cons e3 p⟩
      · cases e1
    | _ => cases e
theorem rep_dTup {W : Wd} {H : Hp} {k : List Ky} {b : Addr} (e : H b = some (.tup (k.map kV))) (ok : ∀ x, Sum.inr x ∈ k → PyData.strOk x = true) : Rep W H (dTup k) (.ref b) := by
  refine .tup e ?_
  have all : ∀ k : List Ky, (∀ x, Sum.inr x ∈ k → PyData.strOk x = true) → Reps W H (k.map dKy) (k.map kV) := fun k => by
    induction k with
    | nil => intro _; exact .nil
    | cons y ys ih =>
      intro h
      refine .cons ?_ (ih fun x hx => h x (List.mem_cons_of_mem _ hx))
      cases y with
      | inl i => exact .int i
      | inr x => exact .str x (h x List.mem_cons_self)
  exact all k ok
theorem reps_dTup {W : Wd} {H : Hp} {ks : List (List Ky)} {bs : List Addr} (r : Paired (fun k b => H b = some (.tup (k.map kV))) ks bs) (ok : ∀ k ∈ ks, ∀ x, Sum.inr x ∈ k → PyData.strOk x = true) : Reps W H (ks.map dTup) (bs.map V.ref) := by
  induction r with
  | nil => exact .nil
  | cons h t ih => exact .cons (rep_dTup h (ok _ List.mem_cons_self)) (ih fun k hk => ok k (List.mem_cons_of_mem _ hk))
theorem kysD_strOk {W : Wd} {H : Hp} : ∀ {ds : List D} {vs : List V} {k : List Ky}, Reps W H ds vs → kysD ds = some k → ∀ x, Sum.inr x ∈ k → PyData.strOk x = true
  | _, _, k, .nil, e => by cases e; intro x hx; exact absurd hx (by simp)
  | d :: ds, _, k, .cons r t, e => by
    have e1 : (match kyD d, kysD ds with
      | some y, some ys => some (y :: ys)
      | _, _ => none) = some k := e
    split at e1
    · rename_i y ys h1 h2
      cases e1
      intro x hx
      rcases List.mem_cons.mp hx with q | q
      · subst q
        cases r with
        | str z ok => cases h1; exact ok
        | _ => cases h1
      · exact kysD_strOk t h2 x q
    · cases e1
theorem tups_strOk {W : Wd} {H : Hp} : ∀ {ds : List D} {vs : List V} {ks : List (List Ky)}, Reps W H ds vs → tups ds = some ks → ∀ k ∈ ks, ∀ x, Sum.inr x ∈ k → PyData.strOk x = true
  | _, _, ks, .nil, e => by cases e; intro x hx; exact absurd hx (by simp)
  | d :: ds, _, ks, .cons r t, e => by
    cases d with
    | tup xs =>
      have e1 : (match kysD xs, tups ds with
        | some k, some ks => some (k :: ks)
        | _, _ => none) = some ks := e
      split at e1
      · rename_i k ks' h1 h2
        cases e1
        intro k' hk'
        rcases List.mem_cons.mp hk' with q | q
        · subst q
          cases r with
          | tup _ q => exact kysD_strOk q h1
        · exact tups_strOk t h2 k' q
      · cases e1
    | _ => cases e

theorem RepKV.kok {κ : Type} [KOk κ] {W : Wd} {H : Hp} : ∀ {ds : List (κ × D)} {vs : List (κ × V)}, RepKV W H ds vs → ∀ kv ∈ ds, KOk.ok kv.1
  | _, _, .nil => fun _ h => absurd h (by simp)
  | _, _, .cons o _ t => fun kv h => by
    rcases List.mem_cons.mp h with q | q
    · subst q; exact o
    · exact RepKV.kok t kv q
theorem ints_keys : ∀ {kvs : List (Ky × D)} {is : List Int}, intsD (kvs.map fun kv => dKy kv.1) = some is → kvs.map (fun kv => kV kv.1) = is.map V.int
  | [], is, e => by cases e; rfl
  | (.inl i, d) :: r, is, e => by
    have e1 : (intsD (r.map fun kv => dKy kv.1)).map (i :: ·) = some is := e
    obtain ⟨cs, e2, rfl⟩ := Option.map_eq_some_iff.mp e1
    show V.int i :: _ = V.int i :: _
    rw [ints_keys e2]
  | (.inr i, d) :: r, is, e => by cases e
theorem tups_keys : ∀ {kvs : List (List Ky × D)} {ks : List (List Ky)}, tups (kvs.map fun kv => dTup kv.1) = some ks → kvs.map (fun kv => kv.1) = ks
  | [], is, e => by cases e; rfl
  | (k, d) :: r, ks, e => by
    have hk : ∀ k : List Ky, kysD (k.map dKy) = some k := fun k => by
      induction k with
      | nil => rfl
      | cons y ys ih =>
        show (match kyD (dKy y), kysD (ys.map dKy) with
          | some y, some ys => some (y :: ys)
          | _, _ => none) = _
        rw [ih]
        cases y <;> rfl
    have e1 : (match kysD (k.map dKy), tups (r.map fun kv => dTup kv.1) with
        | some k, some ks => some (k :: ks)
        | _, _ => none) = some ks := e
    rw [hk] at e1
    split at e1
    · rename_i k' ks' h1 h2
      cases h1
      cases e1
      rw [List.map_cons, tups_keys h2]
    · cases e1
theorem isKeys_ks {H : Hp} {W : Wd} : ∀ {kvs : List (List Ky × D)} {vs : List (List Ky × V)} {bs : List Addr}, RepKV W H kvs vs → IsKeys H vs bs → Paired (fun k b => H b = some (.tup (k.map kV))) (kvs.map fun kv => kv.1) bs
  | _, _, _, .nil, .nil => .nil
  | _, _, _, .cons _ _ t, .cons h t' => .cons h (isKeys_ks t t')
theorem tups_none {W : Wd} {H : Hp} {ds : List D} {vs : List V} : ∀ (ks : List (List Ky)), True := fun _ => trivial
theorem cb_sorted (hc : X.calm = true) : CallR X (.builtin "sorted") (rB1 (wd X) .sorted) := by
  intro pins s σ H xs us QV I rx hh
  obtain ⟨vx, h, x, H0, Q, rfl, rh, r1, hb, k⟩ := hh
  have finI : ∀ (js : List Int) (p : Addr), Q (.new (js.map D.int)) h → H p = none → QV (.ref p) (upd H p (.lst (js.map V.int))) := fun js p q np => fin_new np rh (reps_ints js) q k
  have finK : ∀ (js : List (List Ky)) (bs : List Addr) (p : Addr), (∀ k ∈ js, ∀ x, Sum.inr x ∈ k → PyData.strOk x = true) → Paired (fun k b => H b = some (.tup (k.map kV))) js bs → Q (.new (js.map dTup)) h → H p = none → QV (.ref p) (upd H p (.lst (bs.map V.ref))) :=
    fun js bs p ok pr q np => fin_new np rh (reps_dTup pr ok) q k
  have hb : (match itemsOf x h with
    | some ds => sortP ds fun es => Q (.new es) h
    | none => match keysOf x h with
      | some ds => sortP ds fun es => Q (.new es) h
      | none => False) := hb
  obtain ⟨u, rfl, ru⟩ := vals1 rx
  split at hb
  · rename_i ds e
    obtain ⟨a, vs, rfl, sq, q⟩ := itemsOf_ok rh r1 e
    obtain rfl : u = Value.ref a := ru
    have col : ∀ (R : List Value → Shared → Prop), (∀ (h' : Heap) (tk : Nat) (us : List Value), Vals vs us → us.length ≤ sizeLine → (∀ b o, s.heap.get? b = some o → h'.get? b = some o) → R us { s with heap := h', toks := tk }) → wpAny (model X.prog X.w) X.A.in1 (collect (.ref a)) R X.xe s := fun R hR => by
      rcases sq with sq | sq
      · exact col_l I sq hR
      · exact col_t I sq hR
    unfold sortP at hb
    split at hb
    · rename_i is ei
      obtain ⟨_, hb⟩ := hb
      have ev := ints_ok q ei
      subst ev
      exact sorted_I I col fun js p hp hs np => finI js p (hb js hp hs) np
    · split at hb
      · rename_i ks ek
        obtain ⟨_, h1, h2, hb⟩ := hb
        obtain ⟨bs, ev, pr⟩ := tups_ok q ek
        subst ev
        have ok := tups_strOk q ek
        refine sorted_K I h1 h2 (fun R hR => col R fun h' tk us r hz kp => ?_) fun js cs p hp hs pr' np => finK js cs p (fun k hk => ok k (hp.mem_iff.mp hk)) pr' (hb js hp hs) np
        have eu : us = bs.map Value.ref := by
          have all : ∀ {bs : List Addr} {us : List Value}, Vals (bs.map V.ref) us → us = bs.map Value.ref := fun {bs us} => by
            induction bs generalizing us with
            | nil => intro r; cases r; rfl
            | cons b bs ih =>
              intro r
              cases r with
              | cons r t =>
                cases r
                rw [ih t]
                rfl
          exact all r
        rw [eu]
        rw [eu] at hz
        exact hR h' tk bs pr (by rw [List.length_map] at hz; exact hz) kp
      · exact hb.elim
  · split at hb
    · rename_i ds e
      obtain ⟨a, rfl, ⟨kvs, ea, rfl⟩ | ⟨kvs, ea, rfl⟩⟩ := keysOf_ok e
      · have r1 : Rep (wd X) H (.ref a) vx := r1
        cases r1
        obtain rfl : u = Value.ref a := ru
        obtain ⟨vs, e2, q⟩ := rh a _ ea
        unfold sortP at hb
        split at hb
        · rename_i is ei
          obtain ⟨_, hb⟩ := hb
          have ev := ints_keys ei
          have ek : (vs.map fun kv => kV kv.1) = is.map V.int := by
            rw [← ev]
            have := congrArg (List.map kV) q.keys
            rw [List.map_map, List.map_map] at this
            exact this.symm
          refine sorted_I I (fun R hR => ?_) fun js p hp hs np => finI js p (hb js hp hs) np
          rw [← ek] at hR
          exact col_dK hc I e2 hR
        · rename_i en
          split at hb
          · rename_i ks ek
            exfalso
            cases kvs with
            | nil => cases en
            | cons kv r =>
              obtain ⟨y, d⟩ := kv
              cases y <;> cases ek
          · exact hb.elim
      · have r1 : Rep (wd X) H (.ref a) vx := r1
        cases r1
        obtain rfl : u = Value.ref a := ru
        obtain ⟨vs, e2, q⟩ := rh a _ ea
        unfold sortP at hb
        split at hb
        · rename_i is ei
          obtain ⟨_, hb⟩ := hb
          -- only the empty one
          cases kvs with
          | nil =>
            cases ei
            cases q
            refine sorted_I (is := []) I (fun R hR => ?_) fun js p hp hs np => finI js p (hb js hp hs) np
            refine col_dT hc I e2 fun h' tk bs hk hz kp => ?_
            cases hk
            exact hR h' tk [] .nil hz kp
          | cons kv r => cases ei
        · split at hb
          · rename_i ks ek
            obtain ⟨_, h1, h2, hb⟩ := hb
            have ev := tups_keys ek
            have ok : ∀ k ∈ ks, ∀ x, Sum.inr x ∈ k → PyData.strOk x = true := fun k hk x hx => by
              rw [← ev] at hk
              obtain ⟨kv, m, e3⟩ := List.mem_map.mp hk
              subst e3
              exact q.kok kv m x hx
            refine sorted_K I h1 h2 (fun R hR => ?_) fun js cs p hp hs pr' np => finK js cs p (fun k hk => ok k (hp.mem_iff.mp hk)) pr' (hb js hp hs) np
            refine col_dT hc I e2 fun h' tk bs hk hz kp => hR h' tk bs ?_ hz kp
            rw [← ev]
            exact isKeys_ks q hk
          · exact hb.elim
    · exact hb.elim
end
end AR
end

section
set_option Elab.async false
set_option linter.all false
set_option maxRecDepth 100000
set_option maxHeartbeats 4000000
/-! DL8: calls of built-ins, of defs, methods, dict displays. -/
namespace AR
open PySem PySem.Spec PyProof.Rows L2
section
variable {X : Cx} {C : Ctx} {Wx : WX}
theorem boot_lenA : bootBuiltins "len" = some (.builtin "len") := by decide +kernel
theorem nm (x : Str) (h : x ≠ "__debug__") : (x == ("__debug__" : Str)) = false := beq_eq_false_iff_ne.mpr h
theorem b1_imp {f : B1} {e : E} : ∀ (τ : L2.St) (H : Hp) (QV : VK), TE (wd X) C Wx (.b1 f e) τ H QV → tCB (rB1 (wd X) f) (tCons (TE (wd X) C Wx e) tNil) τ H QV := by
  rintro τ H QV ⟨σ, h, Xd, Q, at_, hw, k⟩
  exact one at_ hw fun x h1 vx H1 f rh r1 p => ⟨vx, h1, x, H, Q, rfl, rh, r1, p, fun r h' v H' f' rh' rr q => k r h' v H' (f.trans f') rh' (rr.base f) q⟩
theorem je_b1f {f : B1} {id : String} {x : Str} {e : E} {ea : Expr} {p pos : Pos} (hcr : CallR X (.builtin id) (rB1 (wd X) f)) (hg : Gl X x) (hm : X.mg x = none) (hv : bootBuiltins x = some (.builtin id)) (hn : x ≠ "__name__") (hd : (x == ("__debug__" : Str)) = false)
    (hs : noStar ea = true) (ha : PE X ea (TE (wd X) C Wx e)) : PE X (.Call (.Name x p) [ea] [] pos) (TE (wd X) C Wx (.b1 f e)) :=
  PE.imp (pe_callB hcr hg hm hv (pa_cons ha pa_nil (star_cons hs)) hn hd (star_cons hs) rfl) b1_imp
theorem je_b1t {f : B1} {T : String} {x : Str} {e : E} {ea : Expr} {p pos : Pos} (hcr : CallR X (.type T) (rB1 (wd X) f)) (hg : Gl X x) (hm : X.mg x = none) (hv : bootBuiltins x = some (.type T)) (hn : x ≠ "__name__") (hd : (x == ("__debug__" : Str)) = false)
    (hs : noStar ea = true) (ha : PE X ea (TE (wd X) C Wx e)) : PE X (.Call (.Name x p) [ea] [] pos) (TE (wd X) C Wx (.b1 f e)) :=
  PE.imp (pe_callTy hcr hg hm hv (pa_cons ha pa_nil (star_cons hs)) hn hd (star_cons hs) rfl) b1_imp
def b1S : B1 → Str
  | .len => "len" | .list => "list" | .tuple => "tuple" | .all => "all" | .any => "any" | .sum => "sum" | .min => "min" | .max => "max" | .sorted => "sorted" | .int => "int" | .dict => "dict" | .abs => "abs"
def b1Ok : B1 → Bool
  | .sum => false | .min => false | .max => false | .abs => false
  | _ => true
theorem je_b1 (hc : X.calm = true) {f : B1} {e : E} {ea : Expr} {p pos : Pos} (hf : b1Ok f = true) (hg : Gl X (b1S f)) (hm : X.mg (b1S f) = none) (hs : noStar ea = true) (ha : PE X ea (TE (wd X) C Wx e)) :
    PE X (.Call (.Name (b1S f) p) [ea] [] pos) (TE (wd X) C Wx (.b1 f e)) := by
  cases f with
  | len => exact je_b1f cb_len hg hm boot_lenA (by decide) (by decide) hs ha
  | list => exact je_b1t cb_list hg hm boot_list (by decide) (by decide) hs ha
  | tuple => exact je_b1t cb_tuple hg hm boot_tuple (by decide) (by decide) hs ha
  | all => exact je_b1f (cb_all hc) hg hm boot_all (by decide) (by decide) hs ha
  | any => exact je_b1f (cb_any hc) hg hm boot_any (by decide) (by decide) hs ha
  | sorted => exact je_b1f (cb_sorted hc) hg hm boot_sorted (by decide) (by decide) hs ha
  | int => exact je_b1t cb_int hg hm boot_int (by decide) (by decide) hs ha
  | dict => exact je_b1t cb_dict hg hm boot_dict (by decide) (by decide) hs ha
  | _ => cases hf
/-! ### isinstance -/
inductive TyN where
  | int | bool | str | tuple | list | dict
  deriving DecidableEq
def tyS : TyN → Str
  | .int => "int" | .bool => "bool" | .str => "str" | .tuple => "tuple" | .list => "list" | .dict => "dict"
def tyT : TyN → String
  | .int => "int" | .bool => "bool" | .str => "str" | .tuple => "tuple" | .list => "list" | .dict => "dict"
theorem boot_ty (T : TyN) : bootBuiltins (tyS T) = some (.type (tyT T)) := by cases T <;> decide +kernel
theorem kitAll (T : TyN) : kitB "list" (tyT T) = some (decide (tyS T = "list")) ∧ kitB "NoneType" (tyT T) = some false ∧ kitB "bool" (tyT T) = some (decide (tyS T = "int") || decide (tyS T = "bool")) ∧
    kitB "int" (tyT T) = some (decide (tyS T = "int")) ∧ kitB "str" (tyT T) = some (decide (tyS T = "str")) ∧ kitB "tuple" (tyT T) = some (decide (tyS T = "tuple")) ∧ kitB "dict" (tyT T) = some (decide (tyS T = "dict")) := by
  cases T <;> decide +kernel
theorem isi_ok {T : TyN} {h : Hd} {H H0 : Hp} {r : Res} {v : V} {R : Bool → Prop} (rh : RepH (wd X) h H) (rr : RepR (wd X) H0 h H r v) (p : isiP r (tyS T) h R) : ∃ t b, TyX X.K H v t ∧ PySem.W.kitOne X.K t (.type (tyT T)) = some b ∧ R b := by
  obtain ⟨k1, k2, k3, k4, k5, k6, k7⟩ := kitAll T
  cases r with
  | new ds =>
    obtain ⟨a, vs, rfl, _, _, l, _⟩ := rr
    exact ⟨_, _, .base (.lst l), kit_ty k1, p⟩
  | val d =>
    have rr : Rep (wd X) H d v := rr
    cases d with
    | non => cases rr; exact ⟨_, _, .base .non, kit_ty k2, p⟩
    | bl b => cases rr; exact ⟨_, _, .base (.bl b), kit_ty k3, p⟩
    | int i => cases rr; exact ⟨_, _, .base (.int i), kit_ty k4, p⟩
    | str x => cases rr; exact ⟨_, _, .base (.str x), kit_ty k5, p⟩
    | tup ds => cases rr with
      | tup e q => exact ⟨_, _, .base (.tup e), kit_ty k6, p⟩
    | kt ds => cases rr with
      | kt e q =>
        obtain ⟨o, its, n, e1, e2, e3, _, _⟩ := e
        exact ⟨_, _, .kTuple e1 e2, kit_ty k6, p⟩
    | ref a =>
      cases rr
      have p : (match h a with
        | some (.lst _) => R (decide (tyS T = "list"))
        | some (.dK _) => R (decide (tyS T = "dict"))
        | some (.dT _) => R (decide (tyS T = "dict"))
        | _ => False) := p
      split at p
      · rename_i ds e
        obtain ⟨vs, e2, q⟩ := rh a _ e
        exact ⟨_, _, .base (.lst e2), kit_ty k1, p⟩
      · rename_i ds e
        obtain ⟨vs, e2, q⟩ := rh a _ e
        exact ⟨_, _, .base (.dK e2), kit_ty k7, p⟩
      · rename_i ds e
        obtain ⟨vs, e2, q⟩ := rh a _ e
        exact ⟨_, _, .base (.dT e2), kit_ty k7, p⟩
      · exact p.elim
    | _ => exact p.elim
theorem je_isi {T : TyN} {e : E} {ea : Expr} {p p2 pos : Pos} (hg : Gl X "isinstance") (hm : X.mg "isinstance" = none) (hg2 : Gl X (tyS T)) (hm2 : X.mg (tyS T) = none) (hs : noStar ea = true) (ha : PE X ea (TE (wd X) C Wx e)) :
    PE X (.Call (.Name "isinstance" p) [ea, .Name (tyS T) p2] [] pos) (TE (wd X) C Wx (.isi e (tyS T))) := by
  have hn : tyS T ≠ "__name__" := by cases T <;> decide
  have hd : (tyS T == ("__debug__" : Str)) = false := by cases T <;> decide
  have pT : PE X (.Name (tyS T) p2) (tC (.ty (tyT T))) := pe_bltn hg2 hm2 (boot_ty T) rfl hn hd
  refine PE.imp (pe_callB call_isi hg hm boot_isinstance (pa_cons ha (pa_cons pT pa_nil (star_cons rfl)) (star_cons hs)) (by decide) (by decide) (star_cons hs) rfl) fun τ H QV ⟨σ, h, Xd, Q, at_, hw, k⟩ => one at_ hw fun x h1 vx H1 f rh r1 q => ?_
  obtain ⟨t, b, ty, e, q⟩ := isi_ok rh r1 q
  exact ⟨vx, .ty (tyT T), t, .type (tyT T), b, rfl, .ty _, ty, e, k (.val (.bl b)) h1 _ H1 f rh (Rep.bl b) q⟩
/-! ### list(range(n)) -/
theorem rgV_map {W : Wd} {H : Hp} (n : Int) : Reps W H ((List.range n.toNat).map fun (k : Nat) => D.int (k : Int)) (rgV 0 n) := by
  have e : rgV 0 n = ((List.range n.toNat).map fun (k : Nat) => (k : Int)).map V.int := by
    unfold rgV
    rw [List.map_map]
    have : (n - 0).toNat = n.toNat := by omega
    rw [this]
    apply List.map_congr_left
    intro k _
    simp
  have e2 : ((List.range n.toNat).map fun (k : Nat) => D.int (k : Int)) = ((List.range n.toNat).map fun (k : Nat) => (k : Int)).map D.int := by rw [List.map_map]; rfl
  rw [e, e2]
  exact reps_ints _
theorem rgOk_big {n : Int} (h : n ≤ big) : RgOk 0 n ∨ n < 0 := by
  unfold big at h
  by_cases h0 : n < 0
  · exact .inr h0
  · exact .inl ⟨by omega, by omega, by omega, by omega, by omega⟩
theorem je_lrange (hc : X.calm = true) {e : E} {ea : Expr} {p p2 pos pos2 : Pos} (hg : Gl X "list") (hm : X.mg "list" = none) (hg2 : Gl X "range") (hm2 : X.mg "range" = none) (hs : noStar ea = true) (ha : PE X ea (TE (wd X) C Wx e)) :
    PE X (.Call (.Name "list" p) [.Call (.Name "range" p2) [ea] [] pos2] [] pos) (TE (wd X) C Wx (.lrange e)) :=
  PE.imp (pe_listRg hc hg hm (prg_1 hg2 hm2 ha (star_cons hs)) rfl) fun τ H QV ⟨σ, h, Xd, Q, at_, hw, k⟩ => one at_ hw fun x h1 vx H1 f rh r1 q => by
    cases x with
    | new ds => exact q.elim
    | val d =>
      cases d with
      | int n =>
        have r1 : Rep (wd X) H1 (.int n) vx := r1
        cases r1
        have q : (0 ≤ n ∧ n ≤ big) ∧ Q (.new ((List.range n.toNat).map fun (k : Nat) => D.int (k : Int))) h1 := q
        refine ⟨n, rfl, ?_, fun p np => fin_new np rh (rgV_map n) q.2 fun r h' v H' f' rh' rr z => k r h' v H' (f.trans f') rh' (rr.base f) z⟩
        have := q.1
        unfold big at this
        exact ⟨by omega, by omega, by omega, by omega, by omega⟩
      | _ => exact q.elim
/-! ### dict displays -/
theorem je_dct0 {t : Bool} {pos : Pos} : PE X (.Dict [] [] pos) (TE (wd X) C Wx (.dct t .nil)) := by
  cases t with
  | true =>
    exact PE.imp pe_dnewT fun τ H QV ⟨σ, h, Xd, Q, at_, hw, k⟩ p np => by
      have hw : ([] : List (D × D)) = [] ∧ ∀ p, h p = none → Q (.val (.ref p)) (hup h p (.dT [])) := hw
      exact k (.val (.ref p)) _ (.ref p) _ (Fr.newH np) (at_.hh.newH (c := .dT []) np ⟨[], upd_same, .nil⟩) (Rep.ref p) (hw.2 p (at_.hh.free np))
  | false =>
    exact PE.imp pe_dnewK fun τ H QV ⟨σ, h, Xd, Q, at_, hw, k⟩ p np => by
      have hw : ∃ ks : List (Ky × D), ([] : List (D × D)) = ks.map (fun kv => (dKy kv.1, kv.2)) ∧ ∀ p, h p = none → Q (.val (.ref p)) (hup h p (.dK (merge [] ks))) := hw
      obtain ⟨ks, e, q⟩ := hw
      cases ks with
      | nil => exact k (.val (.ref p)) _ (.ref p) _ (Fr.newH np) (at_.hh.newH (c := .dK []) np ⟨[], upd_same, .nil⟩) (Rep.ref p) (q p (at_.hh.free np))
      | cons _ _ => cases e
def trsOf (W : Wd) (C : Ctx) (Wx : WX) : Kvs → List (L2.TE × L2.TE)
  | .nil => []
  | .cons k v r => (TE W C Wx k, TE W C Wx v) :: trsOf W C Wx r
inductive RepPs (W : Wd) (H : Hp) : List (D × D) → List (V × V) → Prop where
  | nil : RepPs W H [] []
  | cons {k v : D} {vk vv : V} {ps : List (D × D)} {qs : List (V × V)} (a : Rep W H k vk) (b : Rep W H v vv) (t : RepPs W H ps qs) : RepPs W H ((k, v) :: ps) ((vk, vv) :: qs)
theorem RepPs.mono {W : Wd} {H H' : Hp} (k : ∀ a o, Fx o → H a = some o → H' a = some o) {ps : List (D × D)} {qs : List (V × V)} (r : RepPs W H ps qs) : RepPs W H' ps qs := by
  induction r with
  | nil => exact .nil
  | cons a b t ih => exact .cons (a.mono k) (b.mono k) ih
theorem kvs_ok {W : Wd} {kvs : Kvs} : ∀ {τ : L2.St} {H : Hp} {σ : Sg} {h : Hd} {Xd : Xd} {Q : List (D × D) → Hd → Prop} {QV : List (V × V) → Hp → Prop}, At W Wx Xd σ τ h H → wpKvs bt C kvs Xd σ h Q →
    (∀ ps h' qs H', Fr h H h' H' → RepH W h' H' → RepPs W H' ps qs → Q ps h' → QV qs H') → tPairs (trsOf W C Wx kvs) τ H QV := by
  match kvs with
  | .nil => intro τ H σ h Xd Q QV at_ hw k; exact k [] h [] H Fr.refl at_.hh .nil hw
  | .cons e e' r =>
    intro τ H σ h Xd Q QV at_ hw k
    refine oneV at_ hw fun x h1 vx H1 f rh r1 p => oneV (at_.go f rh) p fun y h2 vy H2 f2 rh2 r2 p2 => ?_
    exact kvs_ok ((at_.go f rh).go f2 rh2) p2 fun ps h3 qs H3 f3 rh3 rp q => k _ h3 _ H3 ((f.trans f2).trans f3) rh3 (.cons ((r1.mono (f2.fx rh)).mono (f3.fx rh2)) (r2.mono (f3.fx rh2)) rp) q
theorem ps_keys {W : Wd} {H : Hp} : ∀ {ks : List (Ky × D)} {qs : List (V × V)}, RepPs W H (ks.map fun kv => (dKy kv.1, kv.2)) qs → ∃ kvs : List (Key × V), qs = kvs.map (fun kv => (kV kv.1, kv.2)) ∧ RepKV W H ks kvs
  | [], _, r => by cases r; exact ⟨[], rfl, .nil⟩
  | (k, d) :: ks, _, r => by
    cases r with
    | cons a b t =>
      obtain ⟨kvs, e, q⟩ := ps_keys t
      rename_i vk vv qs
      cases k with
      | inl i => cases a; exact ⟨(.inl i, vv) :: kvs, by rw [e]; rfl, .cons trivial b q⟩
      | inr x =>
        cases a with
        | str _ ok => exact ⟨(.inr x, vv) :: kvs, by rw [e]; rfl, .cons ok b q⟩
theorem RepKV.mergeK' {W : Wd} {H : Hp} {ks : List (Ky × D)} {kvs : List (Key × V)} (r : RepKV W H ks kvs) : ∀ {acc : List (Ky × D)} {acc' : List (Key × V)}, RepKV W H acc acc' → RepKV W H (merge acc ks) (mergeK acc' kvs) := by
  induction r with
  | nil => intro acc acc' q; exact q
  | cons o h t ih =>
    intro acc acc' q
    exact ih (q.put o h)
def Kvs.len : Kvs → Nat
  | .nil => 0
  | .cons _ _ r => r.len + 1
def trsLen {W : Wd} : ∀ kvs : Kvs, (trsOf W C Wx kvs).length = kvs.len
  | .nil => rfl
  | .cons _ _ r => by simp [trsOf, Kvs.len, trsLen r]
theorem wpKvs_len {bt : Bits} {Xd : Xd} {σ : Sg} : ∀ (kvs : Kvs) (h : Hd) (Q : List (D × D) → Hd → Prop), wpKvs bt C kvs Xd σ h Q = wpKvs bt C kvs Xd σ h fun ps h1 => ps.length = kvs.len ∧ Q ps h1
  | .nil, h, Q => propext ⟨fun z => ⟨rfl, z⟩, fun z => z.2⟩
  | .cons k v r, h, Q => by
    have e1 : ∀ d d' h2, (wpKvs bt C r Xd σ h2 fun ds h3 => Q ((d, d') :: ds) h3) = wpKvs bt C r Xd σ h2 fun ds h3 => ((d, d') :: ds).length = (Kvs.cons k v r).len ∧ Q ((d, d') :: ds) h3 := fun d d' h2 => by
      rw [wpKvs_len r h2, wpKvs_len r h2 (fun ds h3 => ((d, d') :: ds).length = (Kvs.cons k v r).len ∧ Q ((d, d') :: ds) h3)]
      congr 1
      funext ds h3
      exact propext ⟨fun z => ⟨z.1, by simp [Kvs.len, z.1], z.2⟩, fun z => ⟨z.1, z.2.2⟩⟩
    show (wpE bt C k Xd σ h fun x h1 => place x h1 fun dk h2 => wpE bt C v Xd σ h2 fun y h3 => place y h3 fun dv h4 => wpKvs bt C r Xd σ h4 fun ps h5 => Q ((dk, dv) :: ps) h5) =
      wpE bt C k Xd σ h fun x h1 => place x h1 fun dk h2 => wpE bt C v Xd σ h2 fun y h3 => place y h3 fun dv h4 => wpKvs bt C r Xd σ h4 fun ps h5 => ((dk, dv) :: ps).length = (Kvs.cons k v r).len ∧ Q ((dk, dv) :: ps) h5
    simp only [e1]
theorem je_dct {k v : E} {r : Kvs} {keys : List (Option Expr)} {values : List Expr} {pos : Pos} (h : PPs X pos keys values (trsOf (wd X) C Wx (.cons k v r))) (hall : keys.all (·.isSome) = true) (hl : keys.length = values.length) (h0 : keys ≠ []) (h15 : keys.length ≤ 15)
    (hlen : (Kvs.cons k v r).len ≤ 15) : PE X (.Dict keys values pos) (TE (wd X) C Wx (.dct false (.cons k v r))) :=
  PE.imp (pe_disp h hall hl h0 h15) fun τ H QV ⟨σ, h, Xd, Q, at_, hw, kk⟩ p np => by
    have hw : wpKvs bt C (.cons k v r) Xd σ h fun ps h1 => ∃ ks : List (Ky × D), ps = ks.map (fun kv => (dKy kv.1, kv.2)) ∧ ∀ p, h1 p = none → Q (.val (.ref p)) (hup h1 p (.dK (merge [] ks))) := hw
    rw [wpKvs_len] at hw
    have np' := at_.hh.free np
    have f0 : Fr h H h (upd H p (.dK [])) := Fr.new np
    refine kvs_ok (at_.go f0 (at_.hh.new np)) hw fun ps h1 qs H1 f rh rp q => ?_
    obtain ⟨l, ks, e, q⟩ := q
    subst e
    obtain ⟨kvs, e2, rk⟩ := ps_keys rp
    obtain ⟨e3, n3⟩ := f.st p _ np' upd_same
    have lk := rk.length
    rw [List.length_map] at l
    refine ⟨e3, kvs, e2, by omega, ?_⟩
    have rc : RepC (wd X) (upd H1 p (.dK (mergeK [] kvs))) p (.dK (merge [] ks)) := ⟨_, upd_same, (rk.mergeK' .nil).mono (fx_set e3 fun z => z)⟩
    have rh2 : RepH (wd X) (hup h1 p (.dK (merge [] ks))) (upd H1 p (.dK (mergeK [] kvs))) := fun a c e => by
      by_cases ha : a = p
      · subst ha; rw [hup_same] at e; cases e; exact rc
      · rw [hup_ne ha] at e
        exact (rh a c e).mono (fx_set e3 fun z => z) (upd_ne ha)
    refine kk (.val (.ref p)) (hup h1 p (.dK (merge [] ks))) (.ref p) (upd H1 p (.dK (mergeK [] kvs))) ⟨fun a o e1 e2 => ?_, fun a o e => ?_⟩ rh2 (Rep.ref p) (q p n3)
    · have ne : a ≠ p := ne_of_none e2 np
      obtain ⟨g1, g2⟩ := (f0.trans f).st a o e1 e2
      exact ⟨by rw [upd_ne ne]; exact g1, by rw [hup_ne ne]; exact g2⟩
    · obtain ⟨o', g⟩ := (f0.trans f).th a o e
      by_cases ha : a = p
      · exact ⟨_, by rw [ha, upd_same]⟩
      · exact ⟨o', by rw [upd_ne ha]; exact g⟩
end
end AR
end

section
set_option Elab.async false
set_option linter.all false
set_option maxRecDepth 100000
set_option maxHeartbeats 4000000
/-! DL9: calls of defs; methods of lists and dicts. -/
namespace AR
open PySem PySem.Spec PyProof.Rows L2
/-- a promise over data as a promise over values -/
def lift (W : Wd) (S : SpD) : Sp := fun vs H QV EV => ∃ ds h Q E, RepH W h H ∧ Reps W H ds vs ∧ S ds h Q E ∧ (∀ d h' v H', Fr h H h' H' → RepH W h' H' → Rep W H' d v → Q d h' → QV v H') ∧
  (∀ x h' cls d H', Fr h H h' H' → RepH W h' H' → RepX W H' x cls d → E x h' → EV cls d H')
/-- the def x keeps the promise S -/
def FnAt (X : Cx) (x : Str) (S : SpD) : Prop := ∃ f fd ps k, FnOk X.prog X.w X.K X.mg X.base (L2.CX X.prog X.w) k f fd ps (lift (wd X) S) ∧ Room k X.A ∧ X.mg x = some (.ref f) ∧ PySem.W.keepIn X.K (.ref f) = true ∧ Binds X.K fd ps []
def FnsOk (X : Cx) (C : Ctx) : Prop := ∀ x S, C.fn x = some S → FnAt X x S
section
variable {X : Cx} {C : Ctx} {Wx : WX}
theorem je_call {x : Str} {e : E} {es : Es} {ea : Expr} {eas : List Expr} {p pos : Pos} (hx : ∃ S, C.fn x = some S ∧ FnAt X x S) (tk : Takes X Wx) (hg : Gl X x) (hd : (x == ("__debug__" : Str)) = false) (hs : (ea :: eas).all noStar = true) (ha : PA X (ea :: eas) (TA (wd X) C Wx (.cons e es))) :
    PE X (.Call (.Name x p) (ea :: eas) [] pos) (TE (wd X) C Wx (.call x (.cons e es))) := by
  rw [List.all_cons, Bool.and_eq_true] at hs
  obtain ⟨S, hC, f, fd, ps, k0, F, hr, hm, hk, hb⟩ := hx
  refine PE.imp (pe_callS (E := WE Wx) F hr hg hm hk hb (passAt tk) ha hd (star_cons hs.1) (star_plain hs.2)) fun τ H QV ⟨σ, h, Xd, Q, at_, hw, k⟩ => ?_
  have hw : wpEs bt C (.cons e es) Xd σ h fun ds h1 => match C.fn x with
    | some S => S ds h1 (fun d h2 => Q (.val d) h2) (fun e h2 => Xd e σ h2)
    | none => False := hw
  rw [hC] at hw
  refine ⟨σ, h, Xd, _, at_, hw, fun ds h1 vs H1 f rh r q => ⟨ds, h1, _, _, rh, r, q, fun d h' v H' f' rh' rr z => k (.val d) h' v H' (f.trans f') rh' rr z, fun y h' cls d H' f' rh' rx z => ?_⟩⟩
  exact at_.x y σ h' cls d τ H' (f.trans f') rh' (at_.s.mono ((f.trans f').fx at_.hh)) rx z
/-! ### methods -/
def noSuper : Expr → Bool
  | .Call (.Name ..) [] [] _ => false
  | _ => true
theorem base_ok {o : Expr} {m : Str} {env : Env} (h : noSuper o = true) : attributeBase o m env (eval o env) = eval o env := by
  unfold attributeBase
  split
  · simp [noSuper] at h
  · rfl
theorem few_ok {es : List Expr} {env : Env} {pos : Pos} (h : es.all noStar = true) (hl : es.length < 29) : ((backTo pos (starEach es env)).all (fun x => !x.1) && (backToKw pos (keywordEach [] env)).all (fun x => x.1.isSome)
    && decide (es.length + ([] : List Keyword).length + (if ([] : List Keyword).isEmpty then 0 else 1) < 30)) = true := by
  have h1 : (backTo pos (starEach es env)).all (fun x => !x.1) = true := by
    have h2 := star_plain (pos := pos) (env := env) h
    rw [List.all_eq_true]
    intro x hx
    rw [List.any_eq_false] at h2
    simpa using h2 x hx
  rw [h1]
  simp only [Bool.true_and]
  have : (backToKw pos (keywordEach [] env)).all (fun x => x.1.isSome) = true := rfl
  rw [this, Bool.true_and]
  exact decide_eq_true (by simp; omega)
/-- the method of a list, by values -/
def rLm (W : Wd) (m : Str) : V → List V → Hp → VK → Prop := fun vx vs H QV => ∃ a ds h Q, vx = .ref a ∧ RepH W h H ∧ Reps W H ds vs ∧ lstM m a ds h Q ∧ ∀ d h' v H', Fr h H h' H' → RepH W h' H' → Rep W H' d v → Q d h' → QV v H'
theorem set_cell {W : Wd} {h : Hd} {H : Hp} {a : Addr} {ds ds' : List D} {vs' : List V} (rh : RepH W h H) (e : h a = some (.lst ds)) (q : Reps W H ds' vs') : Fr h H (hup h a (.lst ds')) (upd H a (.lst vs')) ∧ RepH W (hup h a (.lst ds')) (upd H a (.lst vs')) := by
  obtain ⟨vs, e1, _⟩ := rh a _ e
  exact ⟨Fr.set e, rh.set e ⟨vs', upd_same, q.mono (fx_set e1 fun z => z)⟩⟩
theorem ixD_ok {n k : Nat} {i : Int} (h : ixD n i = some k) : seqIndex? i n = some k := by
  have e : ixN n i = some k := h
  exact (ixN_seq e).1
theorem mt_lapp : MtR X "list.append" (rLm (wd X) "append") := by
  intro pins s σ H x xs v us QV I rx rs hh
  obtain ⟨a, ds, h, Q, rfl, rh, r, hm, k⟩ := hh
  unfold lstM at hm
  rw [if_pos rfl] at hm
  split at hm
  · rename_i d
    split at hm
    · rename_i ys ea
      obtain ⟨vs, e2, q⟩ := rh a _ ea
      cases r with
      | cons rd t =>
        cases t
        rename_i vd
        obtain ⟨f, rh'⟩ := set_cell rh ea (q.append (.cons rd .nil))
        exact mt_append pins s σ H _ _ v us QV I rx rs ⟨a, vs, vd, rfl, rfl, e2, by rw [← q.length]; exact big_lt hm.1, k .non _ .non _ f rh' .non hm.2⟩
    · exact hm.elim
  · exact hm.elim
theorem mt_lpop : MtR X "list.pop" (rLm (wd X) "pop") := by
  intro pins s σ H x xs v us QV I rx rs hh
  obtain ⟨a, ds, h, Q, rfl, rh, r, hm, k⟩ := hh
  unfold lstM at hm
  rw [if_neg (by decide), if_pos rfl] at hm
  split at hm
  · split at hm
    · rename_i ys ea
      obtain ⟨vs, e2, q⟩ := rh a _ ea
      split at hm
      · rename_i d ed
        cases r
        have ed' : ys[ys.length - 1]? = some d := by rw [← List.getLast?_eq_getElem?]; exact ed
        obtain ⟨vd, ev, rd⟩ := q.get ed'
        obtain ⟨f, rh'⟩ := set_cell rh ea q.dropLast
        obtain ⟨vs0, e0, _⟩ := rh a _ ea
        exact mt_pop pins s σ H _ _ v us QV I rx rs ⟨a, vs, vd, rfl, rfl, e2, by rw [← q.length]; exact ev, k d _ vd _ f rh' (rd.mono (fx_set e2 fun z => z)) hm⟩
      · exact hm.elim
    · exact hm.elim
  · split at hm
    · rename_i i _ ys ea
      obtain ⟨vs, e2, q⟩ := rh a _ ea
      split at hm
      · rename_i kk ek
        split at hm
        · rename_i d ed
          obtain ⟨vd, ev, rd⟩ := q.get ed
          obtain ⟨f, rh'⟩ := set_cell rh ea (q.eraseIdx kk)
          cases r with
          | cons r1 t =>
            cases t
            cases r1
            exact mt_popAt pins s σ H _ _ v us QV I rx rs ⟨a, vs, i, kk, vd, rfl, rfl, e2, hm.1.1, hm.1.2, by rw [← q.length]; exact ixD_ok ek, ev, k d _ vd _ f rh' (rd.mono (fx_set e2 fun z => z)) hm.2⟩
        · exact hm.elim
      · exact hm.elim
    · exact hm.elim
  · exact hm.elim
theorem mt_lext : MtR X "list.extend" (rLm (wd X) "extend") := by
  intro pins s σ H x xs v us QV I rx rs hh
  obtain ⟨a, ds, h, Q, rfl, rh, r, hm, k⟩ := hh
  unfold lstM at hm
  rw [if_neg (by decide), if_neg (by decide), if_pos rfl] at hm
  split at hm
  · rename_i b
    split at hm
    · rename_i ys zs ea eb
      obtain ⟨vs, e2, q⟩ := rh a _ ea
      obtain ⟨ws, e3, q3⟩ := rh b _ eb
      cases r with
      | cons rd t =>
        cases t
        cases rd
        obtain ⟨f, rh'⟩ := set_cell rh ea (q.append q3)
        exact mt_extend pins s σ H _ _ v us QV I rx rs ⟨a, b, vs, ws, rfl, rfl, e2, e3, by rw [← q.length, ← q3.length]; exact big2_line hm.1.1 hm.1.2, k .non _ .non _ f rh' .non hm.2⟩
    · exact hm.elim
  · exact hm.elim

/-- what is asked of a receiver -/
theorem recv_l {m : Str} {o : E} {es : Es} {τ : L2.St} {H : Hp} {QV : VK} (hm : lstN m = true) (z : TE (wd X) C Wx (.meth m o es) τ H QV) : TE (wd X) C Wx o τ H fun vx H1 => tyV X.K "list" vx H1 ∧ ∃ a, vx = .ref a ∧ ∃ (σ : Sg) (h1 : Hd) (Xd : Xd) (Q : Qr), At (wd X) Wx Xd σ τ h1 H1 ∧ (wpEs bt C es Xd σ h1 fun ds h2 => lstM m a ds h2 fun d h3 => Q (.val d) h3) ∧
    ∀ r h' v H', Fr h1 H1 h' H' → RepH (wd X) h' H' → RepR (wd X) H1 h' H' r v → Q r h' → QV v H' := by
  have hd : dctN m = false := by
    cases q : dctN m with
    | false => rfl
    | true =>
      unfold lstN at hm
      unfold dctN at q
      simp only [Bool.or_eq_true, decide_eq_true_eq] at hm q
      rcases hm with (rfl | rfl) | rfl <;> rcases q with q | q <;> exact absurd q (by decide)
  obtain ⟨σ, h, Xd, Q, at_, hw, k⟩ := z
  refine one at_ hw fun x h1 vx H1 f rh r1 p => ?_
  cases x with
  | new ds => exact p.elim
  | val d =>
    have r1 : Rep (wd X) H1 d vx := r1
    cases d with
    | ref a =>
      cases r1
      have p : (match h1 a with
        | some (.ins c fs) => (lstN m = false ∧ dctN m = false) ∧ wpEs bt C es Xd σ h1 fun ds h2 => match C.mt c m with
          | some S => S (.ref a :: ds) h2 (fun d h3 => Q (.val d) h3) (fun e h3 => Xd e σ h3)
          | none => False
        | some (.lst _) => lstN m = true ∧ wpEs bt C es Xd σ h1 fun ds h2 => lstM m a ds h2 fun d h3 => Q (.val d) h3
        | some (.dK _) => dctN m = true ∧ wpEs bt C es Xd σ h1 fun ds h2 => dctM m (.ref a) ds h2 fun d h3 => Q (.val d) h3
        | some (.dT _) => dctN m = true ∧ wpEs bt C es Xd σ h1 fun ds h2 => dctM m (.ref a) ds h2 fun d h3 => Q (.val d) h3
        | _ => False) := p
      split at p
      · rw [hm] at p; cases p.1.1
      · rename_i ys ea
        obtain ⟨vs, e2, q⟩ := rh a _ ea
        exact ⟨.inl ⟨rfl, vs, .inl (.inl e2)⟩, a, rfl, σ, h1, Xd, Q, at_.go f rh, p.2, fun r h' v H' f' rh' rr z => k r h' v H' (f.trans f') rh' (rr.base f) z⟩
      · rw [hd] at p; cases p.1
      · rw [hd] at p; cases p.1
      · exact p.elim
    | kd kvs =>
      have p : m = "get" ∧ _ := p
      obtain ⟨e, _⟩ := p
      subst e
      exact absurd hm (by decide)
    | _ => exact p.elim
theorem lm_imp {m : Str} {o : E} {es : Es} (hm : lstN m = true) : ∀ (τ : L2.St) (H : Hp) (QV : VK), TE (wd X) C Wx (.meth m o es) τ H QV → tBM X.K "list" (rLm (wd X) m) (TE (wd X) C Wx o) (TA (wd X) C Wx es) τ H QV := by
  intro τ H QV z
  obtain ⟨σ, h, Xd, Q, at_, hw, k⟩ := recv_l hm z
  refine ⟨σ, h, Xd, Q, at_, hw, fun r h' v H' f rh rr q => ?_⟩
  obtain ⟨ty, a, rfl, σ1, h1, Xd1, Q1, at1, w1, k1⟩ := k r h' v H' f rh rr q
  exact ⟨ty, σ1, h1, Xd1, _, at1, w1, fun ds h2 vs H2 f2 rh2 r2 p2 => ⟨a, ds, h2, _, rfl, rh2, r2, p2, fun d h3 v H3 f3 rh3 r3 z => k1 (.val d) h3 v H3 (f2.trans f3) rh3 r3 z⟩⟩
theorem lm_imp0 {m : Str} {o : E} (hm : lstN m = true) : ∀ (τ : L2.St) (H : Hp) (QV : VK), TE (wd X) C Wx (.meth m o .nil) τ H QV → tBM0 X.K "list" (rLm (wd X) m) (TE (wd X) C Wx o) τ H QV := by
  intro τ H QV z
  obtain ⟨σ, h, Xd, Q, at_, hw, k⟩ := recv_l hm z
  refine ⟨σ, h, Xd, Q, at_, hw, fun r h' v H' f rh rr q => ?_⟩
  obtain ⟨ty, a, rfl, σ1, h1, Xd1, Q1, at1, w1, k1⟩ := k r h' v H' f rh rr q
  exact ⟨ty, a, [], h1, fun d h3 => Q1 (.val d) h3, rfl, at1.hh, .nil, w1, fun d h3 v H3 f3 rh3 r3 z => k1 (.val d) h3 v H3 f3 rh3 r3 z⟩
theorem je_lmeth {m : Str} {id : String} {o e : E} {es : Es} {oa ea : Expr} {eas : List Expr} {apos cpos : Pos} (hm : lstN m = true) (slot : Slot "list" m id) (hty : typeOf (.builtin id) = pure (.type "method_descriptor")) (hmt : MtR X id (rLm (wd X) m))
    (ho : PE X oa (TE (wd X) C Wx o)) (hb : noSuper oa = true) (hline : (apos.endLine == cpos.line) = true) (hs : (ea :: eas).all noStar = true) (hl : (ea :: eas).length < 29) (ha : PA X (ea :: eas) (TA (wd X) C Wx (.cons e es))) :
    PE X (.Call (.Attribute oa m apos) (ea :: eas) [] cpos) (TE (wd X) C Wx (.meth m o (.cons e es))) := by
  have hs' := hs
  rw [List.all_cons, Bool.and_eq_true] at hs'
  exact PE.imp (pe_bm PySem.F.plainAttrs_list slot hty hmt ho ha (base_ok hb) (few_ok hs hl) hline (star_cons hs'.1) (star_plain hs'.2)) (lm_imp hm)
theorem je_lpop0 {o : E} {oa : Expr} {apos cpos : Pos} (ho : PE X oa (TE (wd X) C Wx o)) (hb : noSuper oa = true) (hline : (apos.endLine == cpos.line) = true) : PE X (.Call (.Attribute oa "pop" apos) [] [] cpos) (TE (wd X) C Wx (.meth "pop" o .nil)) :=
  PE.imp (pe_bm0 PySem.F.plainAttrs_list PySem.F.slot_list_pop PySem.F.type_list_pop mt_lpop ho (base_ok hb) hline) (lm_imp0 (by decide))
theorem je_lapp {o e : E} {oa ea : Expr} {apos cpos : Pos} (ho : PE X oa (TE (wd X) C Wx o)) (hb : noSuper oa = true) (hline : (apos.endLine == cpos.line) = true) (hs : noStar ea = true) (ha : PA X [ea] (TA (wd X) C Wx (.cons e .nil))) :
    PE X (.Call (.Attribute oa "append" apos) [ea] [] cpos) (TE (wd X) C Wx (.meth "append" o (.cons e .nil))) :=
  je_lmeth (by decide) PySem.F.slot_list_append PySem.F.type_list_append mt_lapp ho hb hline (by simp [hs]) (by simp) ha
theorem je_lpop {o e : E} {oa ea : Expr} {apos cpos : Pos} (ho : PE X oa (TE (wd X) C Wx o)) (hb : noSuper oa = true) (hline : (apos.endLine == cpos.line) = true) (hs : noStar ea = true) (ha : PA X [ea] (TA (wd X) C Wx (.cons e .nil))) :
    PE X (.Call (.Attribute oa "pop" apos) [ea] [] cpos) (TE (wd X) C Wx (.meth "pop" o (.cons e .nil))) :=
  je_lmeth (by decide) PySem.F.slot_list_pop PySem.F.type_list_pop mt_lpop ho hb hline (by simp [hs]) (by simp) ha
theorem je_lext {o e : E} {oa ea : Expr} {apos cpos : Pos} (ho : PE X oa (TE (wd X) C Wx o)) (hb : noSuper oa = true) (hline : (apos.endLine == cpos.line) = true) (hs : noStar ea = true) (ha : PA X [ea] (TA (wd X) C Wx (.cons e .nil))) :
    PE X (.Call (.Attribute oa "extend" apos) [ea] [] cpos) (TE (wd X) C Wx (.meth "extend" o (.cons e .nil))) :=
  je_lmeth (by decide) PySem.F.slot_list_extend PySem.F.type_list_extend mt_lext ho hb hline (by simp [hs]) (by simp) ha

/-! ### methods of dicts -/
theorem RepKV.merge' {W : Wd} {H : Hp} {ks : List (List Ky × D)} {kvs : List (List Key × V)} (r : RepKV W H ks kvs) : ∀ {acc : List (List Ky × D)} {acc' : List (List Key × V)}, RepKV W H acc acc' → RepKV W H (merge acc ks) (kvs.foldl (fun acc kv => putK acc kv.1 kv.2) acc') := by
  induction r with
  | nil => intro acc acc' q; exact q
  | cons o h t ih =>
    intro acc acc' q
    exact ih (q.put o h)
/-- d.get(k), d.get(k, x) where d is a dict of the heap or of the written part -/
theorem kd_get {pins : List (Addr × Obj)} {τ : L2.St} {H : Hp} {s : Shared} {W : Wd} (eW : W = wd X) {kvs : List (Str × Str)} {a : Addr} {x : Str} {u : Value} {Q : Value → Shared → Prop} {E : Value → Shared → Prop} (I : L2.Inv X pins τ H s) (D : KDic W a kvs) (ru : RelV (.str x) u)
    (h : ∀ w' s', L2.Inv X pins τ H s' → RelV ((((kvs.find? fun kv => decide (kv.1 = x)).map (·.2)).map V.str).getD .non) w' → Q w' s') : wpAny (model X.prog X.w) X.A (call (.builtin "dict.get") [.ref a, u]) Q E s := by
  subst eW
  obtain ⟨_, es, n, KD, hx⟩ := D
  obtain ⟨r, e, ro⟩ := hx x
  obtain ⟨t, rfl⟩ := ru
  have M := PySem.W.mapOf_K (prog := X.prog) (w := X.w) I.kIn KD.at_ KD.lit
  refine call_meetsIn PySem.F.slot_dict_get M.typeIs PySem.F.entry_dict_get (PySem.F.args_dict_get_2 _ _) (meets_dict_get (PySem.strKind X.prog X.w) a (PySem.strKind_is X.prog X.w x t) KD.low) ⟨_, M, h _ _ (I.tok _) ?_⟩
  rw [PySem.W.find_K KD.at_ e]
  exact ro.getD rfl
theorem kd_get2 {pins : List (Addr × Obj)} {τ : L2.St} {H : Hp} {s : Shared} {W : Wd} (eW : W = wd X) {kvs : List (Str × Str)} {a : Addr} {x : Str} {u w0 : Value} {d : V} {Q : Value → Shared → Prop} {E : Value → Shared → Prop} (I : L2.Inv X pins τ H s) (D : KDic W a kvs) (ru : RelV (.str x) u) (rd : RelV d w0)
    (h : ∀ w' s', L2.Inv X pins τ H s' → RelV ((((kvs.find? fun kv => decide (kv.1 = x)).map (·.2)).map V.str).getD d) w' → Q w' s') : wpAny (model X.prog X.w) X.A (call (.builtin "dict.get") [.ref a, u, w0]) Q E s := by
  subst eW
  obtain ⟨_, es, n, KD, hx⟩ := D
  obtain ⟨r, e, ro⟩ := hx x
  obtain ⟨t, rfl⟩ := ru
  have M := PySem.W.mapOf_K (prog := X.prog) (w := X.w) I.kIn KD.at_ KD.lit
  refine call_meetsIn PySem.F.slot_dict_get M.typeIs PySem.F.entry_dict_get (PySem.F.args_dict_get_3 _ _ _) (meets_dict_get_default (PySem.strKind X.prog X.w) a (PySem.strKind_is X.prog X.w x t) KD.low w0) ⟨_, M, h _ _ (I.tok _) ?_⟩
  rw [PySem.W.find_K KD.at_ e]
  exact ro.getD rd
theorem find_ok {kvs : List (Str × Str)} {x : Str} (h : ∀ kv ∈ kvs, PyData.strOk kv.2 = true) {W : Wd} {H : Hp} {d : D} {v : V} (r : Rep W H d v) :
    Rep W H ((((kvs.find? fun kv => decide (kv.1 = x)).map (·.2)).map D.str).getD d) ((((kvs.find? fun kv => decide (kv.1 = x)).map (·.2)).map V.str).getD v) := by
  cases e : kvs.find? fun kv => decide (kv.1 = x) with
  | none => exact r
  | some kv => exact .str _ (h kv (List.mem_of_find?_eq_some e))
/-- d.get of the receiver dr at a -/
def Recv (H : Hp) (W : Wd) (a : Addr) (dr : D) : Prop := (dr = .ref a ∧ IsD H a) ∨ ∃ kvs, dr = .kd kvs ∧ KDic W a kvs
theorem recv_at {pins : List (Addr × Obj)} {τ : L2.St} {H : Hp} {s : Shared} {a : Addr} {dr : D} (I : L2.Inv X pins τ H s) (r : Recv H (wd X) a dr) : s.TypeIs (.ref a) "dict" ∧ ∀ b, Value.ref a = .ref b → ∃ ob, s.heap.get? b = some ob ∧ ob.dict = none := by
  rcases r with ⟨_, d⟩ | ⟨kvs, _, _, es, n, KD, _⟩
  · obtain ⟨t1, t2, _⟩ := isD_at I d
    exact ⟨t1, t2⟩
  · exact ⟨kd_type KD I, fun b e => by cases e; exact ⟨_, I.kIn _ _ KD.at_, rfl⟩⟩
theorem recv_d {m : Str} {o : E} {es : Es} {τ : L2.St} {H : Hp} {QV : VK} (hm : dctN m = true) (z : TE (wd X) C Wx (.meth m o es) τ H QV) : TE (wd X) C Wx o τ H fun vx H1 => ∃ a dr, vx = .ref a ∧ Recv H1 (wd X) a dr ∧ (m ≠ "get" → dr = .ref a) ∧ ∃ (σ : Sg) (h1 : Hd) (Xd : Xd) (Q : Qr), At (wd X) Wx Xd σ τ h1 H1 ∧ (wpEs bt C es Xd σ h1 fun ds h2 => dctM m dr ds h2 fun d h3 => Q (.val d) h3) ∧
    ∀ r h' v H', Fr h1 H1 h' H' → RepH (wd X) h' H' → RepR (wd X) H1 h' H' r v → Q r h' → QV v H' := by
  have hd : lstN m = false := by
    cases q : lstN m with
    | false => rfl
    | true =>
      unfold lstN at q
      unfold dctN at hm
      simp only [Bool.or_eq_true, decide_eq_true_eq] at hm q
      rcases q with (rfl | rfl) | rfl <;> rcases hm with q | q <;> exact absurd q (by decide)
  obtain ⟨σ, h, Xd, Q, at_, hw, k⟩ := z
  refine one at_ hw fun x h1 vx H1 f rh r1 p => ?_
  cases x with
  | new ds => exact p.elim
  | val d =>
    have r1 : Rep (wd X) H1 d vx := r1
    cases d with
    | ref a =>
      cases r1
      have p : (match h1 a with
        | some (.ins c fs) => (lstN m = false ∧ dctN m = false) ∧ wpEs bt C es Xd σ h1 fun ds h2 => match C.mt c m with
          | some S => S (.ref a :: ds) h2 (fun d h3 => Q (.val d) h3) (fun e h3 => Xd e σ h3)
          | none => False
        | some (.lst _) => lstN m = true ∧ wpEs bt C es Xd σ h1 fun ds h2 => lstM m a ds h2 fun d h3 => Q (.val d) h3
        | some (.dK _) => dctN m = true ∧ wpEs bt C es Xd σ h1 fun ds h2 => dctM m (.ref a) ds h2 fun d h3 => Q (.val d) h3
        | some (.dT _) => dctN m = true ∧ wpEs bt C es Xd σ h1 fun ds h2 => dctM m (.ref a) ds h2 fun d h3 => Q (.val d) h3
        | _ => False) := p
      split at p
      · rw [hm] at p; cases p.1.2
      · rw [hd] at p; cases p.1
      · rename_i ys ea
        obtain ⟨vs, e2, q⟩ := rh a _ ea
        exact ⟨a, .ref a, rfl, .inl ⟨rfl, .inl ⟨vs, .inl e2⟩⟩, fun _ => rfl, σ, h1, Xd, Q, at_.go f rh, p.2, fun r h' v H' f' rh' rr z => k r h' v H' (f.trans f') rh' (rr.base f) z⟩
      · rename_i ys ea
        obtain ⟨vs, e2, q⟩ := rh a _ ea
        exact ⟨a, .ref a, rfl, .inl ⟨rfl, .inr ⟨vs, .inl e2⟩⟩, fun _ => rfl, σ, h1, Xd, Q, at_.go f rh, p.2, fun r h' v H' f' rh' rr z => k r h' v H' (f.trans f') rh' (rr.base f) z⟩
      · exact p.elim
    | kd kvs =>
      have p : m = "get" ∧ wpEs bt C es Xd σ h1 fun ds h2 => dctM m (.kd kvs) ds h2 fun d h3 => Q (.val d) h3 := p
      cases r1 with
      | kd D =>
        rename_i a
        exact ⟨a, .kd kvs, rfl, .inr ⟨kvs, rfl, D⟩, fun ne => absurd p.1 ne, σ, h1, Xd, Q, at_.go f rh, p.2, fun r h' v H' f' rh' rr z => k r h' v H' (f.trans f') rh' (rr.base f) z⟩
    | _ => exact p.elim
theorem M1_ok {o e : Expr} {m : Str} {apos cpos : Pos} (hb : noSuper o = true) (hline : (apos.endLine == cpos.line) = true) (hs : noStar e = true) : M1 X o m apos e cpos :=
  ⟨base_ok hb, few_ok (by simp [hs]) (by simp), hline, by rw [star_cons hs]; rfl⟩
theorem M2_ok {o e f : Expr} {m : Str} {apos cpos : Pos} (hb : noSuper o = true) (hline : (apos.endLine == cpos.line) = true) (hs : noStar e = true) (hs2 : noStar f = true) : M2 X o m apos e f cpos :=
  ⟨base_ok hb, few_ok (by simp [hs, hs2]) (by simp), hline, by rw [star_cons hs, star_cons hs2]; rfl⟩
/-- the dict asked, by values -/
theorem get_fin {pins : List (Addr × Obj)} {τ : L2.St} {h : Hd} {H : Hp} {s : Shared} {a : Addr} {dr dk : D} {vk : V} {u : Value} {R : Option D → Prop} {QV : VK} (hu : RoomE X) (I : L2.Inv X pins τ H s) (rh : RepH (wd X) h H) (rv : ∃ H0, Recv H0 (wd X) a dr) (rk : Rep (wd X) H dk vk) (ru : RelV vk u) (g : getP h dr dk R)
    (k : ∀ o v, R o → Rep (wd X) H (o.getD .non) v → QV v H) : wpAny (model X.prog X.w) X.A (call (.builtin "dict.get") [.ref a, u]) (EP X pins τ QV) X.xe s := by
  obtain ⟨H0, rv⟩ := rv
  rcases rv with ⟨rfl, _⟩ | ⟨kvs, rfl, KD⟩
  · obtain ⟨o, ov, g', ro, q⟩ := getP_ok rh rk g
    exact d_get1 (by unfold RoomE at hu; omega) I g' ru fun w' s' I' r' => ⟨_, H, I', r', k o _ q (ro.getD .non)⟩
  · cases dk with
    | str x =>
      cases rk
      exact kd_get rfl I KD ru fun w' s' I' r' => ⟨_, H, I', r', k _ _ g (find_ok KD.1 .non)⟩
    | _ => exact g.elim
theorem get_fin2 {pins : List (Addr × Obj)} {τ : L2.St} {h : Hd} {H : Hp} {s : Shared} {a : Addr} {dr dk dd : D} {vk vd : V} {u ud : Value} {R : Option D → Prop} {QV : VK} (hu : RoomE X) (I : L2.Inv X pins τ H s) (rh : RepH (wd X) h H) (rv : ∃ H0, Recv H0 (wd X) a dr) (rk : Rep (wd X) H dk vk) (ru : RelV vk u) (rd : Rep (wd X) H dd vd) (rud : RelV vd ud) (g : getP h dr dk R)
    (k : ∀ o v, R o → Rep (wd X) H (o.getD dd) v → QV v H) : wpAny (model X.prog X.w) X.A (call (.builtin "dict.get") [.ref a, u, ud]) (EP X pins τ QV) X.xe s := by
  obtain ⟨H0, rv⟩ := rv
  rcases rv with ⟨rfl, _⟩ | ⟨kvs, rfl, KD⟩
  · obtain ⟨o, ov, g', ro, q⟩ := getP_ok rh rk g
    exact d_get2 (by unfold RoomE at hu; omega) I g' ru rud fun w' s' I' r' => ⟨_, H, I', r', k o _ q (ro.getD rd)⟩
  · cases dk with
    | str x =>
      cases rk
      exact kd_get2 rfl I KD ru rud fun w' s' I' r' => ⟨_, H, I', r', k _ _ g (find_ok KD.1 rd)⟩
    | _ => exact g.elim
theorem je_get1 (hu : RoomE X) {o e : E} {oa ea : Expr} {apos cpos : Pos} (ho : PE X oa (TE (wd X) C Wx o)) (he : PE X ea (TE (wd X) C Wx e)) (hb : noSuper oa = true) (hline : (apos.endLine == cpos.line) = true) (hs : noStar ea = true) :
    PE X (.Call (.Attribute oa "get" apos) [ea] [] cpos) (TE (wd X) C Wx (.meth "get" o (.cons e .nil))) := by
  refine ⟨fun pins s τ H QV I z => ?_⟩
  have m : M1 X oa "get" apos ea cpos := M1_ok hb hline hs
  refine wpAny_Call_method m.base m.few m.line PySem.F.plainAttrs_dict PySem.F.slot_dict_get PySem.F.type_dict_get (thn (ho.run pins s τ H _ I (recv_d (by decide) z)) fun u s1 ⟨x, H1, I1, rx, a, dr, ex, rv, _, σ, h1, Xd, Q, at_, hw, k⟩ => ?_)
  subst ex
  obtain rfl : u = Value.ref a := rx
  obtain ⟨t1, t2⟩ := recv_at I1 rv
  refine ⟨t1, t2, ?_⟩
  rw [m.trees]
  have hw' : wpE bt C e Xd σ h1 fun r h2 => place r h2 fun d h3 => dctM "get" dr [d] h3 fun d h4 => Q (.val d) h4 := hw
  refine Calls.callWith_builtin rfl (Calls.evalArgs_plain (Calls.spliced_cons (thn (he.run pins s1 τ H1 (fun vk H2 => ∃ h2 dk, Fr h1 H1 h2 H2 ∧ RepH (wd X) h2 H2 ∧ Rep (wd X) H2 dk vk ∧ dctM "get" dr [dk] h2 fun d h4 => Q (.val d) h4) I1 (oneV at_ hw' fun d h3 v H3 f rh r q => ⟨h3, d, f, rh, r, q⟩))
    fun iv s2 ⟨y, H2, I2, ry, h2, dk, f, rh, rk, q⟩ => Calls.spliced_nil ?_)))
  have q : getP h2 dr dk fun r => Q (.val (r.getD .non)) h2 := q
  exact get_fin hu I2 rh ⟨_, rv⟩ rk ry q fun ov v q r => k (.val (ov.getD .non)) h2 v H2 f rh r q
theorem je_get2 (hu : RoomE X) {o e e2 : E} {oa ea fa : Expr} {apos cpos : Pos} (ho : PE X oa (TE (wd X) C Wx o)) (he : PE X ea (TE (wd X) C Wx e)) (hf : PE X fa (TE (wd X) C Wx e2)) (hb : noSuper oa = true) (hline : (apos.endLine == cpos.line) = true) (hs : noStar ea = true) (hs2 : noStar fa = true) :
    PE X (.Call (.Attribute oa "get" apos) [ea, fa] [] cpos) (TE (wd X) C Wx (.meth "get" o (.cons e (.cons e2 .nil)))) := by
  refine ⟨fun pins s τ H QV I z => ?_⟩
  have m : M2 X oa "get" apos ea fa cpos := M2_ok hb hline hs hs2
  refine wpAny_Call_method m.base m.few m.line PySem.F.plainAttrs_dict PySem.F.slot_dict_get PySem.F.type_dict_get (thn (ho.run pins s τ H _ I (recv_d (by decide) z)) fun u s1 ⟨x, H1, I1, rx, a, dr, ex, rv, _, σ, h1, Xd, Q, at_, hw, k⟩ => ?_)
  subst ex
  obtain rfl : u = Value.ref a := rx
  obtain ⟨t1, t2⟩ := recv_at I1 rv
  refine ⟨t1, t2, ?_⟩
  rw [m.trees]
  have hw' : wpE bt C e Xd σ h1 fun r h2 => place r h2 fun d h3 => wpE bt C e2 Xd σ h3 fun r h4 => place r h4 fun d2 h5 => dctM "get" dr [d, d2] h5 fun d h4 => Q (.val d) h4 := hw
  refine Calls.callWith_builtin rfl (Calls.evalArgs_plain (Calls.spliced_cons (thn (he.run pins s1 τ H1 (fun vk H2 => ∃ h2 dk, Fr h1 H1 h2 H2 ∧ RepH (wd X) h2 H2 ∧ Rep (wd X) H2 dk vk ∧ wpE bt C e2 Xd σ h2 fun r h4 => place r h4 fun d2 h5 => dctM "get" dr [dk, d2] h5 fun d h4 => Q (.val d) h4) I1 (oneV at_ hw' fun d h3 v H3 f rh r q => ⟨h3, d, f, rh, r, q⟩))
    fun iv s2 ⟨y, H2, I2, ry, h2, dk, f, rh, rk, q⟩ => Calls.spliced_cons (thn (hf.run pins s2 τ H2 (fun vd H3 => ∃ h3 dd, Fr h2 H2 h3 H3 ∧ RepH (wd X) h3 H3 ∧ Rep (wd X) H3 dd vd ∧ dctM "get" dr [dk, dd] h3 fun d h4 => Q (.val d) h4) I2 (oneV (at_.go f rh) q fun d h3 v H3 f rh r q => ⟨h3, d, f, rh, r, q⟩))
      fun fv s3 ⟨z, H3, I3, rz, h3, dd, f3, rh3, rd, q⟩ => Calls.spliced_nil ?_))))
  have q : getP h3 dr dk fun r => Q (.val (r.getD dd)) h3 := q
  exact get_fin2 hu I3 rh3 ⟨_, rv⟩ (rk.mono (f3.fx rh)) ry rd rz q fun ov v q r => k (.val (ov.getD dd)) h3 v H3 (f.trans f3) rh3 r q
end
end AR
end

section
set_option Elab.async false
set_option linter.all false
set_option maxRecDepth 100000
set_option maxHeartbeats 4000000
/-! DLU: d.update(d2) with tuple keys: hashes that differ. -/
namespace AR
open PySem PySem.Spec PyProof.Rows L2
/-! ### the hash of a tuple of three -/
def rotm (a : Nat) : Nat := ((a * 2147483648) % 18446744073709551616 + a / 8589934592) * 11400714785074694791 % 18446744073709551616
def stepH (acc h : Nat) : Nat := rotm ((acc + h * 14029467366897019727) % 18446744073709551616)
theorem unmul {x : Nat} (hx : x < 18446744073709551616) : (x * 11400714785074694791 % 18446744073709551616) * 614540362697595703 % 18446744073709551616 = x := by
  rw [Nat.mod_mul_mod, Nat.mul_assoc]
  have e : 11400714785074694791 * 614540362697595703 = 18446744073709551616 * 379806830464837242 + 1 := by decide
  rw [e, Nat.mul_add, Nat.mul_one, Nat.mul_left_comm, Nat.mul_add_mod]
  exact Nat.mod_eq_of_lt hx
theorem rotE (a : Nat) : (a * 2147483648) % 18446744073709551616 = (a % 8589934592) * 2147483648 := by
  have e : 18446744073709551616 = 8589934592 * 2147483648 := by decide
  rw [e]
  exact Nat.mul_mod_mul_right 2147483648 a 8589934592
theorem rotQ {a b : Nat} (ha : a < 18446744073709551616) (hb : b < 18446744073709551616) (h : (a % 8589934592) * 2147483648 + a / 8589934592 = (b % 8589934592) * 2147483648 + b / 8589934592) : a = b := by
  have h1 : a / 8589934592 < 2147483648 := by omega
  have h2 : b / 8589934592 < 2147483648 := by omega
  have e1 := Nat.div_add_mod a 8589934592
  have e2 := Nat.div_add_mod b 8589934592
  generalize a / 8589934592 = q1 at *
  generalize b / 8589934592 = q2 at *
  generalize a % 8589934592 = r1 at *
  generalize b % 8589934592 = r2 at *
  omega
theorem rotLt {a : Nat} (ha : a < 18446744073709551616) : (a % 8589934592) * 2147483648 + a / 8589934592 < 18446744073709551616 := by omega
theorem rotm_inj {a b : Nat} (ha : a < 18446744073709551616) (hb : b < 18446744073709551616) (h : rotm a = rotm b) : a = b := by
  have hx := rotLt ha
  have hy := rotLt hb
  have ea : rotm a = ((a % 8589934592) * 2147483648 + a / 8589934592) * 11400714785074694791 % 18446744073709551616 := congrArg (fun z => (z + a / 8589934592) * 11400714785074694791 % 18446744073709551616) (rotE a)
  have eb : rotm b = ((b % 8589934592) * 2147483648 + b / 8589934592) * 11400714785074694791 % 18446744073709551616   := congrArg (fun z => (z + b / 8589934592) * 11400714785074694791 % 18446744073709551616) (rotE b)
  rw [ea, eb] at h
  have h2 := unmul hx
  rw [h, unmul hy] at h2
  exact rotQ ha hb h2.symm
theorem rotm_lt (a : Nat) : rotm a < 18446744073709551616 := Nat.mod_lt _ (by decide)
def g2 (i j : Nat) : Nat := stepH (stepH 2870177450012600261 i) j
/-- what keeps two such hashes apart -/
def gOk (i1 i2 j : Nat) : Bool := decide (i1 = i2) || (!decide (g2 i1 j = g2 i2 j) && !decide ((g2 i1 j + 8570342753019038081) % 18446744073709551616 = (g2 i2 j + 1837738906727985164) % 18446744073709551616))
theorem gOk_all : ∀ j < 24, ∀ i1 < 24, ∀ i2 < 24, gOk i1 i2 j = true := by decide +kernel
/-- the end of it: by the last state -/
def finH (acc : Nat) : Int :=
  let a := (acc + 2870177450013471925) % 18446744073709551616
  if a = 18446744073709551615 then 1546275796 else if a < 9223372036854775808 then a else (a : Int) - 18446744073709551616
theorem finH_inj {a b : Nat} (ha : a < 18446744073709551616) (hb : b < 18446744073709551616) (h : finH a = finH b) : a = b ∨ (a = 15576566623696079690 ∧ b = 15576566625242355487) ∨ (b = 15576566623696079690 ∧ a = 15576566625242355487) := by
  unfold finH at h
  simp only at h
  split at h <;> split at h <;> (try split at h) <;> (try split at h) <;> omega
theorem fin3 {i1 i2 j t : Nat} (h1 : i1 < 24) (h2 : i2 < 24) (hj : j < 24) (hne : i1 ≠ i2) : finH (stepH (g2 i1 j) t) ≠ finH (stepH (g2 i2 j) t) := by
  intro h
  have ok := gOk_all j hj i1 h1 i2 h2
  have ok' := gOk_all j hj i2 h2 i1 h1
  unfold gOk at ok ok'
  rw [decide_eq_false hne, Bool.false_or, Bool.and_eq_true, Bool.not_eq_true', Bool.not_eq_true', decide_eq_false_iff_not, decide_eq_false_iff_not] at ok
  rw [decide_eq_false (Ne.symm hne), Bool.false_or, Bool.and_eq_true, Bool.not_eq_true', Bool.not_eq_true', decide_eq_false_iff_not, decide_eq_false_iff_not] at ok'
  have hg1 : g2 i1 j < 18446744073709551616 := rotm_lt _
  have hg2 : g2 i2 j < 18446744073709551616 := rotm_lt _
  generalize ht : t * 14029467366897019727 = u at *
  have hs : ∀ g, stepH g t = rotm ((g + u) % 18446744073709551616) := fun g => by unfold stepH; rw [ht]
  rw [hs, hs] at h
  have z1 : rotm 1837738906727985164 = 15576566623696079690 := by decide
  have z2 : rotm 8570342753019038081 = 15576566625242355487 := by decide
  rcases finH_inj (rotm_lt _) (rotm_lt _) h with e | ⟨e1, e2⟩ | ⟨e1, e2⟩
  · have e3 := rotm_inj (Nat.mod_lt _ (by decide)) (Nat.mod_lt _ (by decide)) e
    omega
  · rw [← z1] at e1
    rw [← z2] at e2
    have e3 := rotm_inj (Nat.mod_lt _ (by decide)) (by decide) e1
    have e4 := rotm_inj (Nat.mod_lt _ (by decide)) (by decide) e2
    omega
  · rw [← z1] at e1
    rw [← z2] at e2
    have e3 := rotm_inj (Nat.mod_lt _ (by decide)) (by decide) e1
    have e4 := rotm_inj (Nat.mod_lt _ (by decide)) (by decide) e2
    omega
theorem finH_range (a : Nat) : -(2 ^ 63 : Int) ≤ finH a ∧ finH a < 2 ^ 63 ∧ finH a ≠ -1 := by
  unfold finH
  simp only
  have := Nat.mod_lt (a + 2870177450013471925) (show 18446744073709551616 > 0 by decide)
  split
  · exact ⟨by decide, by decide, by decide⟩
  · split <;> omega
def stepS (acc : Nat) (h : Int) : Nat :=
  let m : Nat := 2 ^ 64
  let acc := (acc + (h % (m : Int)).toNat * 14029467366897019727) % m
  let acc := (acc * 2 ^ 31) % m + acc / 2 ^ 33
  (acc * 11400714785074694791) % m
def finS (acc n : Nat) : Int :=
  let m : Nat := 2 ^ 64
  let acc := (acc + (n ^^^ (2870177450012600261 ^^^ 3527539))) % m
  if acc == m - 1 then 1546275796 else if acc < 2 ^ 63 then acc else (acc : Int) - m
theorem tho (hs : List Int) : Builtin.Tuple.tupleHashOf hs = finS (hs.foldl stepS 2870177450012600261) hs.length := rfl
theorem p64 : (2 : Nat) ^ 64 = 18446744073709551616 := by decide
theorem p63 : (2 : Nat) ^ 63 = 9223372036854775808 := by decide
theorem p31 : (2 : Nat) ^ 31 = 2147483648 := by decide
theorem p33 : (2 : Nat) ^ 33 = 8589934592 := by decide
theorem stepS_eq (acc : Nat) (h : Int) : stepS acc h = stepH acc (h % 18446744073709551616).toNat := by
  unfold stepS stepH rotm
  rw [p64, p31, p33]
  rfl
end AR
end

section
set_option Elab.async false
set_option linter.all false
set_option maxRecDepth 100000
set_option maxHeartbeats 4000000
/-! DLU: d.update(d2) with tuple keys. -/
namespace AR
open PySem PySem.Spec PyProof.Rows L2
theorem finS_eq (acc : Nat) : finS acc 3 = finH acc := by
  have e : (3 ^^^ (2870177450012600261 ^^^ 3527539) : Nat) = 2870177450013471925 := by decide
  unfold finS finH
  rw [p64, p63, e]
  dsimp only
  generalize (acc + 2870177450013471925) % 18446744073709551616 = x
  have e2 : (18446744073709551616 - 1 : Nat) = 18446744073709551615 := by decide
  rw [e2]
  by_cases h : x = 18446744073709551615
  · rw [if_pos (by simpa using h), if_pos h]
  · rw [if_neg (by simpa using h), if_neg h]
    rfl
theorem hashInt_small : ∀ i : Nat, i < 24 → hashInt (i : Int) = i := by decide +kernel
theorem toNat_small {k : Nat} (hk : k < 24) : ((k : Int) % 18446744073709551616).toNat = k := by omega
theorem fold3 {α : Type} {β : Type} (f : α → β → α) (z : α) (a b c : β) : List.foldl f z [a, b, c] = f (f (f z a) b) c := rfl
theorem len3 {β : Type} (a b c : β) : [a, b, c].length = 3 := rfl
theorem st2 {i j : Nat} (hi : i < 24) (hj : j < 24) : stepS (stepS 2870177450012600261 (hashInt i)) (hashInt j) = g2 i j := by
  rw [hashInt_small i hi, hashInt_small j hj, stepS_eq, stepS_eq, toNat_small hi, toNat_small hj, g2]
theorem tupleHash3 {i j : Nat} (hi : i < 24) (hj : j < 24) (h3 : Int) : Builtin.Tuple.tupleHashOf [hashInt i, hashInt j, h3] = finH (stepH (g2 i j) (h3 % 18446744073709551616).toNat) := by
  rw [tho, fold3, len3, st2 hi hj, finS_eq, stepS_eq]
theorem reduce_fin (a : Nat) : reduceHash (finH a) = finH a := by
  obtain ⟨h1, h2, h3⟩ := finH_range a
  unfold reduceHash
  generalize finH a = x at *
  rw [if_pos (by simp; exact ⟨h1, h2⟩), if_neg (by simpa using h3)]
theorem keyHash3 {prog : Program} {w : World} (i j : Int) (x : Str) : tupleKeyHash (mixKind prog w) [Sum.inl i, Sum.inl j, Sum.inr x] = reduceHash (Builtin.Tuple.tupleHashOf [hashInt i, hashInt j, hashStr w x]) := rfl
theorem nodup_map_of {α β : Type} (f : α → β) : ∀ l : List α, l.Nodup → (∀ a ∈ l, ∀ b ∈ l, a ≠ b → f a ≠ f b) → (l.map f).Nodup
  | [], _, _ => List.nodup_nil
  | a :: r, hn, h => by
    rw [List.nodup_cons] at hn
    rw [List.map_cons, List.nodup_cons]
    refine ⟨fun hc => ?_, nodup_map_of f r hn.2 fun x hx y hy => h x (List.mem_cons_of_mem _ hx) y (List.mem_cons_of_mem _ hy)⟩
    obtain ⟨b, hb, e⟩ := List.mem_map.mp hc
    exact h a List.mem_cons_self b (List.mem_cons_of_mem _ hb) (fun z => hn.1 (by rw [z]; exact hb)) e.symm
theorem key3_ne {prog : Program} {w : World} {i1 i2 j : Nat} {x : Str} (h1 : i1 < 24) (h2 : i2 < 24) (hj : j < 24) (ne : i1 ≠ i2) : tupleKeyHash (mixKind prog w) [Sum.inl (i1 : Int), Sum.inl (j : Int), Sum.inr x] ≠ tupleKeyHash (mixKind prog w) [Sum.inl (i2 : Int), Sum.inl (j : Int), Sum.inr x] := by
  rw [keyHash3, keyHash3, tupleHash3 h1 hj, tupleHash3 h2 hj, reduce_fin, reduce_fin]
  exact fin3 h1 h2 hj ne
/-- the hashes of such keys differ -/
theorem apart_ok {prog : Program} {w : World} {ks : List (List Ky)} (h : apartK ks) : (ks.map (tupleKeyHash (mixKind prog w))).Nodup := by
  rcases h with h | ⟨j, x, is, rfl, h1, h2, h3⟩
  · match ks, h with
    | [], _ => exact List.nodup_nil
    | [k], _ => exact List.nodup_cons.mpr ⟨List.not_mem_nil, List.nodup_nil⟩
    | _ :: _ :: _, h => simp at h
  · rw [List.map_map]
    show (is.map fun (i : Nat) => tupleKeyHash (mixKind prog w) [Sum.inl (i : Int), Sum.inl (j : Int), Sum.inr x]).Nodup
    refine nodup_map_of (fun (i : Nat) => tupleKeyHash (mixKind prog w) [Sum.inl (i : Int), Sum.inl (j : Int), Sum.inr x]) is h3 fun i1 m1 i2 m2 ne => ?_
    have k := key3_ne (prog := prog) (w := w) (x := x) (h1 i1 m1) (h1 i2 m2) h2 ne
    exact k
/-! ### the rule -/
theorem KT_update {H : Hp} {kvs more : List (List Key × V)} {xs ys : List (List Key × Addr × Value)} (r : KT H kvs xs) (q : KT H more ys) : KT H (more.foldl (fun acc kv => putK acc kv.1 kv.2) kvs) (storedAllH xs ys) := by
  induction q generalizing kvs xs with
  | nil => exact r
  | @cons p z ps zs h t ih =>
    obtain ⟨h1, h2, h3⟩ := h
    have e : storedAllH xs (z :: zs) = storedAllH (storedH xs p.1 z.2.1 z.2.2) zs := by
      show zs.foldl _ _ = zs.foldl _ _
      rw [h1]
    rw [e]
    exact ih (r.put p.1 h2 h3)
theorem putAll_length (more : List (List Key × V)) : ∀ kvs : List (List Key × V), (more.foldl (fun acc kv => putK acc kv.1 kv.2) kvs).length ≤ kvs.length + more.length := by
  induction more with
  | nil => intro kvs; simp
  | cons p r ih =>
    intro kvs
    have h1 := ih (putK kvs p.1 p.2)
    have h2 := length_putK kvs p.1 p.2
    show (r.foldl _ (putK kvs p.1 p.2)).length ≤ _
    rw [List.length_cons]
    omega
section
variable {X : Cx} {C : Ctx} {Wx : WX}
theorem d_update {pins : List (Addr × Obj)} {τ : L2.St} {H : Hp} {s : Shared} {a b : Addr} {kvs more : List (List Key × V)} {Q : Value → Shared → Prop} {E : Value → Shared → Prop} (hu : X.A.units + 1 < cLine) (I : L2.Inv X pins τ H s) (ha : H a = some (.dT kvs)) (hb : H b = some (.dT more)) (hne : a ≠ b)
    (hap : kvs ≠ [] ∨ apartK (more.map (·.1))) (hsz : kvs.length + more.length ≤ sizeLine) (h : ∀ s', L2.Inv X pins τ (upd H a (.dT (more.foldl (fun acc kv => putK acc kv.1 kv.2) kvs))) s' → Q .none s') :
    wpAny (model X.prog X.w) X.A (call (.builtin "dict.update") [.ref a, .ref b]) Q E s := by
  obtain ⟨z, lo, xs, r, d1⟩ := dt_of I.hok ha
  obtain ⟨z2, lo2, ys, q, d2⟩ := dt_of I.hok hb
  have l1 : kvs.length = xs.length := Paired.length r
  have l2 : more.length = ys.length := Paired.length q
  have keysE : ys.map (fun x => (tupleKind (mixKind X.prog X.w)).hash x.1) = (more.map (·.1)).map (tupleKeyHash (mixKind X.prog X.w)) := by
    have e : ys.map (fun x => x.1) = more.map (·.1) := by
      clear d2 l2 hap hsz h hb z2
      induction q with
      | nil => rfl
      | cons h t ih => rw [List.map_cons, List.map_cons, ih, h.1]
    rw [← e, List.map_map]
    rfl
  have tyE : ∀ x ∈ ys, s.TypeIs (.ref x.2.1) "tuple" := fun x hx => by
    have all : ∀ {l : List (List Key × V)} {m : List (List Key × Addr × Value)}, KT H l m → ∀ x ∈ m, ∃ k, H x.2.1 = some (.tup k) := by
      intro l m q
      induction q with
      | nil => intro x hx; exact nomatch hx
      | @cons p q ps qs hq t ih =>
        intro x hx
        rcases List.mem_cons.mp hx with e | hx
        · subst e; exact ⟨_, hq.2.1⟩
        · exact ih x hx
    obtain ⟨k, e⟩ := all q x hx
    obtain ⟨_, _, _, o, h1, h2, _⟩ := (show ObjOk X.prog X.w H s.heap x.2.1 (.tup k) from I.hok _ _ e)
    exact ⟨o, h1, h2⟩
  refine PySem.call_update_dictH (knd := tupleKind (mixKind X.prog X.w)) (tupleKind_room_in1 hu) hne lo2 d1 d2 ?_ (by rw [← l1, ← l2]; exact hsz) fun h' d1' d2' sb => ?_
  · rcases hap with h | h
    · exact .inl fun e => h (by rw [e] at r; cases r; rfl)
    · refine .inr ⟨tyE, ?_⟩
      rw [keysE]
      exact apart_ok h
  · obtain ⟨o, es, ep, hq, h2, h3, h4, _, h5⟩ := id d1'
    refine h { s with heap := h' } ?_
    refine d_write (t' := s.toks) I (by rw [ha]; exact True.intro) sb ⟨o, hq⟩ ⟨Nat.le_trans (putAll_length more kvs) hsz, lo, _, (KT_update r q).keeps (fun c ys ec => by rw [upd_ne (ne_of ec ha (fun z => nomatch z))]; exact ec), o, es, ep, hq, h2, h3, h4, h5⟩
theorem je_upd (hu : RoomE X) {o e : E} {oa ea : Expr} {apos cpos : Pos} (ho : PE X oa (TE (wd X) C Wx o)) (he : PE X ea (TE (wd X) C Wx e)) (hb : noSuper oa = true) (hline : (apos.endLine == cpos.line) = true) (hs : noStar ea = true) :
    PE X (.Call (.Attribute oa "update" apos) [ea] [] cpos) (TE (wd X) C Wx (.meth "update" o (.cons e .nil))) := by
  refine ⟨fun pins s τ H QV I z => ?_⟩
  have m : M1 X oa "update" apos ea cpos := M1_ok hb hline hs
  refine wpAny_Call_method m.base m.few m.line PySem.F.plainAttrs_dict PySem.F.slot_dict_update PySem.F.type_dict_update (thn (ho.run pins s τ H _ I (recv_d (by decide) z)) fun u s1 ⟨x, H1, I1, rx, a, dr, ex, rv, hdr, σ, h1, Xd, Q, at_, hw, k⟩ => ?_)
  subst ex
  obtain rfl : dr = .ref a := hdr (by decide)
  obtain rfl : u = Value.ref a := rx
  obtain ⟨t1, t2⟩ := recv_at I1 rv
  refine ⟨t1, t2, ?_⟩
  rw [m.trees]
  have hw' : wpE bt C e Xd σ h1 fun r h2 => place r h2 fun d h3 => dctM "update" (.ref a) [d] h3 fun d h4 => Q (.val d) h4 := hw
  refine Calls.callWith_builtin rfl (Calls.evalArgs_plain (Calls.spliced_cons (thn (he.run pins s1 τ H1 (fun vk H2 => ∃ h2 dk, Fr h1 H1 h2 H2 ∧ RepH (wd X) h2 H2 ∧ Rep (wd X) H2 dk vk ∧ dctM "update" (.ref a) [dk] h2 fun d h4 => Q (.val d) h4) I1 (oneV at_ hw' fun d h3 v H3 f rh r q => ⟨h3, d, f, rh, r, q⟩))
    fun iv s2 ⟨y, H2, I2, ry, h2, dk, f, rh, rk, q⟩ => Calls.spliced_nil ?_)))
  unfold dctM at q
  rw [if_neg (by decide), if_pos rfl] at q
  cases dk with
  | ref b =>
    have q : (match h2 a, h2 b with
      | some (.dT xs), some (.dT ys) => (a ≠ b ∧ xs.length + ys.length ≤ big ∧ (xs ≠ [] ∨ apartK (ys.map (·.1)))) ∧ Q (.val .non) (hup h2 a (.dT (merge xs ys)))
      | _, _ => False) := q
    split at q
    · rename_i xs ys ea eb
      obtain ⟨vs, e2, q2⟩ := rh a _ ea
      obtain ⟨ws, e3, q3⟩ := rh b _ eb
      cases rk
      obtain rfl : iv = Value.ref b := ry
      have l2 := q2.length
      have l3 := q3.length
      refine d_update (by unfold RoomE at hu; omega) I2 e2 e3 q.1.1 ?_ (by rw [← l2, ← l3]; exact big_line q.1.2.1) fun s' I' => ⟨.non, _, I', rfl, ?_⟩
      · rcases q.1.2.2 with h | h
        · exact .inl fun e => h (by rw [e] at q2; cases q2; rfl)
        · exact .inr (by rw [← q3.keys]; exact h)
      · have rc : RepC (wd X) (upd H2 a (.dT (ws.foldl (fun acc kv => putK acc kv.1 kv.2) vs))) a (.dT (merge xs ys)) := ⟨_, upd_same, (q3.merge' q2).mono (fx_set e2 fun z => z)⟩
        exact k (.val .non) _ .non _ (f.trans (Fr.set ea)) (rh.set ea rc) Rep.non q.2
    · exact q.elim
  | _ => exact q.elim
end
end AR
end

section
set_option Elab.async false
set_option linter.all false
set_option maxRecDepth 100000
set_option maxHeartbeats 4000000
/-! DL10: what is walked through; for. -/
namespace AR
open PySem PySem.Spec PyProof.Rows L2
/-- J walks the items ds, as long as G holds; from (h0, H0) on -/
structure Walk (W : Wd) (J : L2.It) (ds : List D) (G : Hd → Prop) (h0 : Hd) (H0 : Hp) : Prop where
  go : ∀ i h H, i < ds.length → Fr h0 H0 h H → RepH W h H → G h → J.go i H
  yld : ∀ i h H x H', i < ds.length → Fr h0 H0 h H → RepH W h H → G h → J.yld i H x H' → ∃ d, ds[i]? = some d ∧ Fr h H h H' ∧ RepH W h H' ∧ Rep W H' d x
  stop : ∀ h H, Fr h0 H0 h H → RepH W h H → G h → J.stop ds.length H
def TIt (W : Wd) (C : Ctx) (Wx : WX) (it : It) : L2.TI := fun τ H R => ∃ σ h Xd Q, At W Wx Xd σ τ h H ∧ wpI bt C it Xd σ h Q ∧ ∀ ds G h' J H', Fr h H h' H' → RepH W h' H' → Walk W J ds G h' H' → Q ds G h' → R J H'
theorem PI.imp {X : Cx} {tg e : Expr} {t t' : L2.TI} (h : PI X tg e t) (i : ∀ σ H Q, t' σ H Q → t σ H Q) : PI X tg e t' := ⟨fun pins s σ H R I q => h.run pins s σ H R I (i _ _ _ q)⟩
section
variable {W : Wd} {h : Hd} {H : Hp} {ds : List D} {vs : List V} {a : Addr}
theorem getE {α : Type} {l : List α} {i : Nat} (h : i < l.length) : ∃ x, l[i]? = some x := ⟨l[i], List.getElem?_eq_getElem h⟩
/-- a list or a tuple that stays -/
theorem walk_l {G : Hd → Prop} {h0 : Hd} {H0 : Hp} (e : ∀ h H, Fr h0 H0 h H → RepH W h H → G h → ∃ vs, SqL W.K H a vs ∧ Reps W H ds vs) : Walk W (Itl W.K a) ds G h0 H0 where
  go := fun i h H hi f rh g => by
    obtain ⟨vs, sq, r⟩ := e h H f rh g
    obtain ⟨v, ev⟩ := getE (l := vs) (i := i) (by rw [← r.length]; exact hi)
    exact ⟨vs, v, sq, ev⟩
  yld := fun i h H x H' hi f rh g y => by
    obtain ⟨vs, sq, r⟩ := e h H f rh g
    obtain ⟨rfl, y⟩ := y
    have ev := y vs sq
    obtain ⟨d, ed⟩ := getE (l := ds) (i := i) hi
    obtain ⟨v, e2, rd⟩ := r.get ed
    rw [ev] at e2
    cases e2
    exact ⟨d, ed, Fr.refl, rh, rd⟩
  stop := fun h H f rh g => by
    obtain ⟨vs, sq, r⟩ := e h H f rh g
    exact ⟨vs, sq, by rw [r.length]; exact Nat.le_refl _⟩
theorem walk_t {G : Hd → Prop} {h0 : Hd} {H0 : Hp} (e : ∀ h H, Fr h0 H0 h H → RepH W h H → G h → ∃ vs, SqT W.K H a vs ∧ Reps W H ds vs) : Walk W (Itt W.K a) ds G h0 H0 where
  go := fun i h H hi f rh g => by
    obtain ⟨vs, sq, r⟩ := e h H f rh g
    obtain ⟨v, ev⟩ := getE (l := vs) (i := i) (by rw [← r.length]; exact hi)
    exact ⟨vs, v, sq, ev⟩
  yld := fun i h H x H' hi f rh g y => by
    obtain ⟨vs, sq, r⟩ := e h H f rh g
    obtain ⟨rfl, y⟩ := y
    have ev := y vs sq
    obtain ⟨d, ed⟩ := getE (l := ds) (i := i) hi
    obtain ⟨v, e2, rd⟩ := r.get ed
    rw [ev] at e2
    cases e2
    exact ⟨d, ed, Fr.refl, rh, rd⟩
  stop := fun h H f rh g => by
    obtain ⟨vs, sq, r⟩ := e h H f rh g
    exact ⟨vs, sq, by rw [r.length]; exact Nat.le_refl _⟩
theorem walk_r {lo : Int} {n : Nat} {h0 : Hd} {H0 : Hp} {G : Hd → Prop} : Walk W (Itr lo n) ((List.range n).map fun (k : Nat) => D.int (lo + (k : Int))) G h0 H0 where
  go := fun i h H hi f rh g => by
    show i < n
    simpa using hi
  yld := fun i h H x H' hi f rh g y => by
    obtain ⟨rfl, rfl⟩ := y
    have hi : i < n := by simpa using hi
    exact ⟨.int (lo + i), by rw [List.getElem?_map, List.getElem?_range hi]; rfl, Fr.refl, rh, .int _⟩
  stop := fun h H f rh g => by
    show n ≤ _
    simp
theorem walk_s {x : Str} (ok : ∀ c ∈ x.cps.toList, PyData.strOk ⟨#[c]⟩ = true) {h0 : Hd} {H0 : Hp} {G : Hd → Prop} : Walk W (Its x) (chars x) G h0 H0 where
  go := fun i h H hi f rh g => by
    show i < x.cps.size
    simpa [chars] using hi
  yld := fun i h H v H' hi f rh g y => by
    obtain ⟨rfl, c, ec, rfl⟩ := y
    refine ⟨.str ⟨#[c]⟩, by unfold chars; rw [List.getElem?_map, Array.getElem?_toList, ec]; rfl, Fr.refl, rh, .str _ (ok c ?_)⟩
    rw [← Array.getElem?_toList] at ec
    exact List.mem_of_getElem? ec
  stop := fun h H f rh g => by
    show x.cps.size ≤ _
    simp [chars]
end
theorem sign_ok {z : Str} (ok : PyData.strOk z = true) : ∀ c ∈ z.cps.toList, PyData.strOk ⟨#[c]⟩ = true := fun c hc => by
  unfold PyData.strOk at ok ⊢
  rw [Array.all_eq_true_iff_forall_mem] at ok
  have := ok c (Array.mem_toList_iff.mp hc)
  simpa using this
section
variable {X : Cx} {C : Ctx} {Wx : WX} {tg : Expr}
def iSeq (K : PySem.W.Frag) (tl : L2.TE) : L2.TI := fun σ H R => tl σ H fun x H1 => ∃ a, x = .ref a ∧ ((∃ xs, SqL K H1 a xs ∧ R (Itl K a) H1) ∨ ∃ xs, SqT K H1 a xs ∧ R (Itt K a) H1)
theorem pi_seq {l : Expr} {tl : L2.TE} (hl : PE X l tl) : PI X tg l (iSeq X.K tl) := by
  refine ⟨fun pins s σ H R I h => ?_⟩
  refine thn (hl.run pins s σ H _ I h) fun v s1 ⟨x, H1, I1, r1, q1⟩ => ?_
  obtain ⟨a, e, q⟩ := q1
  subst e
  cases r1
  rcases q with ⟨xs, hq, q⟩ | ⟨xs, hq, q⟩
  · obtain ⟨its, rv, p, hz⟩ := I1.list hq
    refine wpAny_pyIter_list p.isList ?_
    refine ⟨s1.heap.objs.size, [s1.heap.objs.size], _, _, H1, rfl, I1.kept (t' := s1.toks) fun b o e => Heap.get?_push_of_some _ e, turn_list a _, ⟨_, Heap.get?_push_size _ rfl, rfl, rfl⟩, fun b hb => ?_, q⟩
    have e : b = s1.heap.objs.size := by simpa using hb
    subst e
    exact I1.fpOk (Nat.le_refl _) (I1.hok.fresh (Nat.le_refl _))
  · obtain ⟨its, rv, p, hz⟩ := I1.tuple hq
    refine wpAny_pyIter_tuple (show s1.heap.IsTuple a its.toArray from p) ?_
    refine ⟨s1.heap.objs.size, [s1.heap.objs.size], _, _, H1, rfl, I1.kept (t' := s1.toks) fun b o e => Heap.get?_push_of_some _ e, turn_tuple a _, ⟨_, Heap.get?_push_size _ rfl, rfl, rfl⟩, fun b hb => ?_, q⟩
    have e : b = s1.heap.objs.size := by simpa using hb
    subst e
    exact I1.fpOk (Nat.le_refl _) (I1.hok.fresh (Nat.le_refl _))

theorem ji_val {e : E} {ea : Expr} (he : PE X ea (TE (wd X) C Wx e)) : PI X tg ea (TIt (wd X) C Wx (.val e)) :=
  PI.imp (pi_seq he) fun τ H R ⟨σ, h, Xd, Q, at_, hw, k⟩ => one at_ hw fun x h1 vx H1 f rh r1 p => by
    cases x with
    | new ds =>
      obtain ⟨a, vs, rfl, n1, n2, l, r⟩ := r1
      exact ⟨a, rfl, .inl ⟨vs, .inl (.inl l), k ds (fun _ => True) h1 _ H1 f rh (walk_l fun h H f' rh' _ => ⟨vs, .inl (.inl (f'.st a _ n2 l).1), r.mono (f'.fx rh)⟩) p⟩⟩
    | val d =>
      have r1 : Rep (wd X) H1 d vx := r1
      cases d with
      | tup ds => cases r1 with
        | tup e q =>
          rename_i vs a
          exact ⟨a, rfl, .inr ⟨vs, .inl (.inl e), k ds (fun _ => True) h1 _ H1 f rh (walk_t fun h H f' rh' _ => ⟨vs, .inl (.inl (f'.fx rh _ _ trivial e)), q.mono (f'.fx rh)⟩) p⟩⟩
      | kt ds => cases r1 with
        | kt e q =>
          rename_i vs a
          exact ⟨a, rfl, .inr ⟨vs, .inr e, k ds (fun _ => True) h1 _ H1 f rh (walk_t fun h H f' rh' _ => ⟨vs, .inr e, q.mono (f'.fx rh)⟩) p⟩⟩
      | rl ds => cases r1 with
        | rl e q =>
          rename_i vs a
          have sq : ∀ {h : Hd} {H : Hp}, Fr h1 H1 h H → SqL X.K H a vs := fun {h H} f' => by
            rcases e with ⟨o, e⟩ | e
            · exact .inl (.inr ⟨o, f'.fx rh _ _ trivial e⟩)
            · exact e H
          exact ⟨a, rfl, .inl ⟨vs, sq Fr.refl, k ds (fun _ => True) h1 _ H1 f rh (walk_l fun h H f' rh' _ => ⟨vs, sq f', q.mono (f'.fx rh)⟩) p⟩⟩
      | ref a =>
        cases r1
        have p : (match h1 a with
          | some (.lst ds) => Q ds (fun h' => h' a = some (.lst ds)) h1
          | _ => False) := p
        split at p
        · rename_i ds ea
          obtain ⟨vs, e2, q⟩ := rh a _ ea
          exact ⟨a, rfl, .inl ⟨vs, .inl (.inl e2), k ds _ h1 _ H1 f rh (walk_l fun h H f' rh' g => by
            obtain ⟨vs', e3, q'⟩ := rh' a _ g
            exact ⟨vs', .inl (.inl e3), q'⟩) p⟩⟩
        · exact p.elim
      | _ => exact p.elim
theorem ji_chars {e : E} {ea : Expr} (he : PE X ea (TE (wd X) C Wx e)) : PI X tg ea (TIt (wd X) C Wx (.chars e)) :=
  PI.imp (pi_str he) fun τ H R ⟨σ, h, Xd, Q, at_, hw, k⟩ => one at_ hw fun x h1 vx H1 f rh r1 p => by
    cases x with
    | new ds => exact p.elim
    | val d =>
      have r1 : Rep (wd X) H1 d vx := r1
      cases d with
      | str z =>
        cases r1 with
        | str _ ok => exact ⟨z, rfl, k (chars z) (fun _ => True) h1 _ H1 f rh (walk_s (sign_ok ok)) p⟩
      | _ => exact p.elim
theorem ji_range1 {e : E} {ea : Expr} {p pos : Pos} (hg : Gl X "range") (hm : X.mg "range" = none) (hs : noStar ea = true) (he : PE X ea (TE (wd X) C Wx e)) : PI X tg (.Call (.Name "range" p) [ea] [] pos) (TIt (wd X) C Wx (.range1 e)) :=
  PI.imp (pi_range1 hg hm (pa_cons he pa_nil (star_cons hs)) (by rw [star_cons hs]; rfl)) fun τ H R ⟨σ, h, Xd, Q, at_, hw, k⟩ => one at_ hw fun x h1 vx H1 f rh r1 p => by
    cases x with
    | new ds => exact p.elim
    | val d =>
      have r1 : Rep (wd X) H1 d vx := r1
      cases d with
      | int n =>
        cases r1
        have p : (0 ≤ n ∧ n ≤ big) ∧ Q ((List.range n.toNat).map fun (k : Nat) => D.int (k : Int)) (fun _ => True) h1 := p
        have e : ((List.range n.toNat).map fun (k : Nat) => D.int (k : Int)) = (List.range n.toNat).map fun (k : Nat) => D.int (0 + (k : Int)) := by simp
        have hb := p.1
        unfold big at hb
        refine ⟨n, rfl, by omega, by omega, k _ (fun _ => True) h1 _ H1 f rh ?_ p.2⟩
        rw [e]
        exact walk_r
      | _ => exact p.elim
theorem ji_range2 {e e2 : E} {ea eb : Expr} {p pos : Pos} (hg : Gl X "range") (hm : X.mg "range" = none) (hs : noStar ea = true) (hs2 : noStar eb = true) (he : PE X ea (TE (wd X) C Wx e)) (he2 : PE X eb (TE (wd X) C Wx e2)) : PI X tg (.Call (.Name "range" p) [ea, eb] [] pos) (TIt (wd X) C Wx (.range2 e e2)) :=
  PI.imp (pi_range2 hg hm (pa_cons he (pa_cons he2 pa_nil (star_cons hs2)) (star_cons hs)) (by rw [star_cons hs, star_cons hs2]; rfl) (by rw [star_cons hs2]; rfl)) fun τ H R ⟨σ, h, Xd, Q, at_, hw, k⟩ => two at_ hw fun x y h2 vx vy H2 f rh r1 r2 p => by
    cases x with
    | new ds => exact p.elim
    | val d =>
      cases y with
      | new ds => cases d <;> exact p.elim
      | val d2 =>
        have r1 : Rep (wd X) H2 d vx := r1
        have r2 : Rep (wd X) H2 d2 vy := r2
        cases d with
        | int i =>
          cases d2 with
          | int j =>
            cases r1
            cases r2
            have p : (-(big : Int) ≤ i ∧ i ≤ big ∧ -(big : Int) ≤ j ∧ j ≤ big) ∧ Q ((List.range (j - i).toNat).map fun (k : Nat) => D.int (i + (k : Int))) (fun _ => True) h2 := p
            have hb := p.1
            unfold big at hb
            exact ⟨i, j, rfl, ⟨by omega, by omega, by omega, by omega⟩, k _ (fun _ => True) h2 _ H2 f rh walk_r p.2⟩
          | _ => exact p.elim
        | _ => exact p.elim
end
end AR
end

section
set_option Elab.async false
set_option linter.all false
set_option maxRecDepth 100000
set_option maxHeartbeats 4000000
/-! DL11: targets, statements, loops. -/
namespace AR
open PySem PySem.Spec PyProof.Rows L2
/-! ### targets -/
/-- names may be stored -/
def StOk (X : Cx) : Prop := ∀ x, X.env.scope.names.lookup x = some .cell → X.fn x = true
mutual
def Tg.ids : Tg → List Nat
  | .name i => [i]
  | .tup ts => Tg.idss ts
def Tg.idss : List Tg → List Nat
  | [] => []
  | t :: ts => Tg.ids t ++ Tg.idss ts
end
/-- but for the slots ids -/
def SameBut (ids : List Nat) (τ τ1 : L2.St) : Prop := ∀ vs : List Nat, (∀ i ∈ ids, i ∈ vs) → L2.wipe τ1 vs = L2.wipe τ vs
theorem wipe_get {σ : L2.St} {j : Nat} : ∀ {vs : List Nat}, (L2.wipe σ vs)[j]? = if j ∈ vs then (if j < σ.length then some none else none) else σ[j]?
  | [] => by simp [L2.wipe]
  | v :: vs => by
    unfold L2.wipe
    by_cases h : v = j
    · subst h
      by_cases hl : v < σ.length
      · rw [List.getElem?_set_self (by rw [L2.wipe_length]; exact hl)]
        simp [hl]
      · rw [List.getElem?_eq_none (by rw [List.length_set, L2.wipe_length]; omega)]
        simp [hl]
    · rw [List.getElem?_set_ne h, wipe_get (vs := vs)]
      have : (j ∈ v :: vs) ↔ j ∈ vs := by simp [Ne.symm h]
      simp only [this]
theorem wipe_set {σ : L2.St} {i : Nat} {x : Option V} {vs : List Nat} (h : i ∈ vs) : L2.wipe (σ.set i x) vs = L2.wipe σ vs := by
  apply List.ext_getElem?
  intro j
  rw [wipe_get, wipe_get, List.length_set]
  by_cases hj : j ∈ vs
  · simp [hj]
  · simp only [hj, if_false]
    rw [List.getElem?_set_ne (fun e => hj (by rw [← e]; exact h))]
theorem wipe_wipe {σ : L2.St} {vs : List Nat} : L2.wipe (L2.wipe σ vs) vs = L2.wipe σ vs := by
  apply List.ext_getElem?
  intro j
  rw [wipe_get (σ := L2.wipe σ vs), wipe_get, L2.wipe_length]
  by_cases hj : j ∈ vs <;> simp [hj]
def TGd (W : Wd) (g : Tg) : L2.TG := fun v τ H Q => ∃ d σ σ1, Rep W H d v ∧ RepS W H σ τ ∧ tgSet g d σ = some σ1 ∧ ∀ τ1, SameBut g.ids τ τ1 → RepS W H σ1 τ1 → Q τ1 H
def TGds (W : Wd) (gs : List Tg) : L2.TGs := fun vs τ H Q => ∃ ds σ σ1, Reps W H ds vs ∧ RepS W H σ τ ∧ tgSets gs ds σ = some σ1 ∧ ∀ τ1, SameBut (Tg.idss gs) τ τ1 → RepS W H σ1 τ1 → Q τ1 H
theorem PG.imp {X : Cx} {e : Expr} {t t' : L2.TG} (h : PG X e t) (i : ∀ v σ H Q, t' v σ H Q → t v σ H Q) : PG X e t' := ⟨fun pins s σ H v u Q I r q => h.run pins s σ H v u Q I r (i _ _ _ _ q)⟩
theorem PGs.imp {X : Cx} {e : List Expr} {t t' : L2.TGs} (h : PGs X e t) (i : ∀ v σ H Q, t' v σ H Q → t v σ H Q) : PGs X e t' := ⟨fun pins s σ H v u Q I r q => h.run pins s σ H v u Q I r (i _ _ _ _ q)⟩
section
variable {X : Cx} {C : Ctx} {Wx : WX}
theorem st_fn (hS : StOk X) {x : Str} (hx : Loc X.env.scope x) : X.fn x = true ∨ X.env.scope.names.lookup x = some .local := by
  rcases hx with h | h
  · exact .inr h
  · exact .inl (hS x h)
theorem jg_name (hS : StOk X) {i : Nat} {x : Str} {pos : Pos} (hN : X.N.Nodup) (hi : X.N[i]? = some x) (hx : Loc X.env.scope x) : PG X (.Name x pos) (TGd (wd X) (.name i)) :=
  PG.imp (pg_name hN hi hx (st_fn hS hx)) fun v τ H Q ⟨d, σ, σ1, r, s, e, k⟩ => by
    have e : some (σ.set i (some d)) = some σ1 := by rw [← e]; unfold tgSet; rfl
    cases e
    exact k _ (fun vs h => wipe_set (h i (by simp [Tg.ids]))) (s.set r)
theorem jgs_nil : PGs X [] (TGds (wd X) []) := PGs.imp pgs_nil fun v τ H Q ⟨ds, σ, σ1, r, s, e, k⟩ => by
  cases ds with
  | nil =>
    have e : some σ = some σ1 := by rw [← e]; unfold tgSets; rfl
    cases e
    cases r
    exact ⟨rfl, k _ (fun _ _ => rfl) s⟩
  | cons _ _ => unfold tgSets at e; cases e
theorem assign_star {e : Expr} {es : List Expr} {env : Env} (h : noStar e = true) : (assignEach (e :: es) env) = (false, assign e env) :: assignEach es env := by
  cases e <;> first | rfl | simp [noStar] at h
theorem jgs_cons {g : Tg} {gs : List Tg} {e : Expr} {es : List Expr} (hs : noStar e = true) (h1 : PG X e (TGd (wd X) g)) (h2 : PGs X es (TGds (wd X) gs)) : PGs X (e :: es) (TGds (wd X) (g :: gs)) :=
  PGs.imp (pgs_cons h1 h2 (by rw [assign_star hs]; rfl)) fun v τ H Q ⟨ds, σ, σ1, r, s, e, k⟩ => by
    cases r with
    | nil => unfold tgSets at e; cases e
    | cons rd t =>
      rename_i d vd ds vs _
      unfold tgSets at e
      split at e
      · rename_i σ' e1
        exact ⟨vd, vs, rfl, d, σ, σ', rd, s, e1, fun τ1 sb s1 => ⟨ds, σ', σ1, t, s1, e, fun τ2 sb2 => k τ2 fun ws h => (sb2 ws fun i hi => h i (by simp [Tg.idss, hi])).trans (sb ws fun i hi => h i (by simp [Tg.idss, hi]))⟩⟩
      · cases e
theorem assign_len {env : Env} : ∀ {es : List Expr}, es.all noStar = true → (assignEach es env).length = es.length ∧ (assignEach es env).findIdx? (·.1) = none
  | [], _ => ⟨rfl, rfl⟩
  | e :: es, h => by
    rw [List.all_cons, Bool.and_eq_true] at h
    obtain ⟨h1, h2⟩ := assign_len (env := env) h.2
    rw [assign_star h.1]
    refine ⟨by rw [List.length_cons, List.length_cons, h1], ?_⟩
    rw [List.findIdx?_cons]
    simp [h2]
theorem tgSets_len : ∀ {gs : List Tg} {ds : List D} {σ σ1 : Sg}, tgSets gs ds σ = some σ1 → ds.length = gs.length
  | [], [], _, _, _ => rfl
  | g :: gs, d :: ds, σ, σ1, e => by
    unfold tgSets at e
    split at e
    · rename_i σ' e1
      simp [tgSets_len e]
    · cases e
  | [], _ :: _, _, _, e => by unfold tgSets at e; cases e
  | _ :: _, [], _, _, e => by unfold tgSets at e; cases e
theorem jg_tup (hc : X.calm = true) {gs : List Tg} {es : List Expr} {k : Nat} {pos : Pos} (hs : es.all noStar = true) (hl : gs.length = es.length) (h : PGs X es (TGds (wd X) gs)) : PG X (.Tuple es k pos) (TGd (wd X) (.tup gs)) :=
  PG.imp (pg_tup (n := es.length) hc h (assign_len hs).1 (assign_len hs).2) fun v τ H Q ⟨d, σ, σ1, r, s, e, kk⟩ => by
    unfold tgSet at e
    split at e
    · rename_i ds e1
      obtain ⟨a, vs, rfl, sq, q⟩ := tupOf_ok r e1
      exact ⟨a, vs, rfl, sq, by rw [← q.length, tgSets_len e, hl], ds, σ, σ1, q, s, e, fun τ1 sb => kk τ1 fun ws h => sb ws fun i hi => h i (by simpa [Tg.ids] using hi)⟩
    · cases e
/-! ### statements -/
structure EndsOk (W : Wd) (D : Nx) (Dv : Ends) (h : Hd) (H : Hp) : Prop where
  nx : ∀ σ' h' τ' H', Fr h H h' H' → RepH W h' H' → RepS W H' σ' τ' → D.nx σ' h' → Dv.nx τ' H'
  rt : ∀ d h' v H', Fr h H h' H' → RepH W h' H' → Rep W H' d v → D.rt d h' → Dv.rt v H'
  bk : ∀ σ' h' τ' H', Fr h H h' H' → RepH W h' H' → RepS W H' σ' τ' → D.bk σ' h' → Dv.bk τ' H'
  ct : ∀ σ' h' τ' H', Fr h H h' H' → RepH W h' H' → RepS W H' σ' τ' → D.ct σ' h' → Dv.ct τ' H'
theorem EndsOk.go {W : Wd} {D : Nx} {Dv : Ends} {h h' : Hd} {H H' : Hp} (e : EndsOk W D Dv h H) (f : Fr h H h' H') : EndsOk W D Dv h' H' :=
  ⟨fun σ h2 τ H2 f2 => e.nx σ h2 τ H2 (f.trans f2), fun d h2 v H2 f2 => e.rt d h2 v H2 (f.trans f2), fun σ h2 τ H2 f2 => e.bk σ h2 τ H2 (f.trans f2), fun σ h2 τ H2 f2 => e.ct σ h2 τ H2 (f.trans f2)⟩
def TS1 (W : Wd) (C : Ctx) (Wx : WX) (s : S) : L2.TS := fun Dv τ H => ∃ σ h Xd D, At W Wx Xd σ τ h H ∧ wpS bt C s Xd D σ h ∧ EndsOk W D Dv h H
def TSs (W : Wd) (C : Ctx) (Wx : WX) (s : Ss) : L2.TS := fun Dv τ H => ∃ σ h Xd D, At W Wx Xd σ τ h H ∧ wpSs bt C s Xd D σ h ∧ EndsOk W D Dv h H
theorem PS.imp {X : Cx} {st : Stmt} {t t' : L2.TS} (h : PS X st t) (i : ∀ D σ H, t' D σ H → t D σ H) : PS X st t' := ⟨fun pins s σ H D I q => h.run pins s σ H D I (i _ _ _ q)⟩
theorem PSs.imp {X : Cx} {st : List Stmt} {t t' : L2.TS} (h : PSs X st t) (i : ∀ D σ H, t' D σ H → t D σ H) : PSs X st t' := ⟨fun pins s σ H D I q => h.run pins s σ H D I (i _ _ _ q)⟩
theorem At.goS {W : Wd} {Xd : Xd} {σ σ' : Sg} {τ τ' : L2.St} {h h' : Hd} {H H' : Hp} (a : At W Wx Xd σ τ h H) (f : Fr h H h' H') (r : RepH W h' H') (s : RepS W H' σ' τ') : At W Wx Xd σ' τ' h' H' :=
  ⟨s, r, fun x σ h2 cls d τ H2 f2 r2 s2 rx q => a.x x σ h2 cls d τ H2 (f.trans f2) r2 s2 rx q⟩
theorem js_nil : PSs X [] (TSs (wd X) C Wx .nil) := PSs.imp pss_nil fun Dv τ H ⟨σ, h, Xd, D, at_, hw, k⟩ => k.nx σ h τ H Fr.refl at_.hh at_.s hw
theorem js_cons {s : S} {ss : Ss} {st : Stmt} {sts : List Stmt} (h1 : PS X st (TS1 (wd X) C Wx s)) (h2 : PSs X sts (TSs (wd X) C Wx ss)) : PSs X (st :: sts) (TSs (wd X) C Wx (.cons s ss)) :=
  PSs.imp (pss_cons h1 h2) fun Dv τ H ⟨σ, h, Xd, D, at_, hw, k⟩ => ⟨σ, h, Xd, { D with nx := fun σ' h' => wpSs bt C ss Xd D σ' h' }, at_, hw,
    ⟨fun σ' h' τ' H' f rh rs q => ⟨σ', h', Xd, D, at_.goS f rh rs, q, k.go f⟩, k.rt, k.bk, k.ct⟩⟩
theorem js_pass {pos : Pos} : PS X (.Pass pos) (TS1 (wd X) C Wx .pass) := PS.imp ps_pass fun Dv τ H ⟨σ, h, Xd, D, at_, hw, k⟩ => k.nx σ h τ H Fr.refl at_.hh at_.s hw
theorem js_brk {pos : Pos} : PS X (.Break pos) (TS1 (wd X) C Wx .brk) := PS.imp ps_break fun Dv τ H ⟨σ, h, Xd, D, at_, hw, k⟩ => k.bk σ h τ H Fr.refl at_.hh at_.s hw
theorem js_cont {pos : Pos} : PS X (.Continue pos) (TS1 (wd X) C Wx .cont) := PS.imp ps_continue fun Dv τ H ⟨σ, h, Xd, D, at_, hw, k⟩ => k.ct σ h τ H Fr.refl at_.hh at_.s hw
theorem js_never {st : Stmt} : PS X st (TS1 (wd X) C Wx .never) := PS.imp ps_never fun Dv τ H ⟨σ, h, Xd, D, at_, hw, k⟩ => hw
theorem js_retN {pos : Pos} : PS X (.Return none pos) (TS1 (wd X) C Wx .retN) := PS.imp ps_retN fun Dv τ H ⟨σ, h, Xd, D, at_, hw, k⟩ => k.rt .non h .non H Fr.refl at_.hh .non hw
theorem js_ret {e : E} {ea : Expr} {pos : Pos} (he : PE X ea (TE (wd X) C Wx e)) : PS X (.Return (some ea) pos) (TS1 (wd X) C Wx (.ret e)) :=
  PS.imp (ps_ret he) fun Dv τ H ⟨σ, h, Xd, D, at_, hw, k⟩ => oneV at_ hw fun x h1 vx H1 f rh r p => k.rt x h1 vx H1 f rh r p
def noComp : Expr → Bool
  | .ListComp .. => false
  | .SetComp .. => false
  | .DictComp .. => false
  | _ => true
theorem swap_no {e : Expr} {t : Option Expr} {l : Nat} {env : Env} (h : noComp e = true) : swapsWith e t l env = pure false := by
  unfold swapsWith
  cases e <;> first | rfl | simp [noComp] at h
theorem js_ex {e : E} {ea : Expr} {pos : Pos} (hn : noComp ea = true) (he : PE X ea (TE (wd X) C Wx e)) : PS X (.Expr ea pos) (TS1 (wd X) C Wx (.ex e)) :=
  PS.imp (ps_expr he (swap_no hn)) fun Dv τ H ⟨σ, h, Xd, D, at_, hw, k⟩ => oneV at_ hw fun x h1 vx H1 f rh r p => k.nx σ h1 τ H1 f rh (at_.s.mono (f.fx at_.hh)) p
theorem js_ite {c : E} {a b : Ss} {ec : Expr} {as bs : List Stmt} {pos : Pos} (hc : PT X ec (TT (wd X) C Wx c)) (ha : PSs X as (TSs (wd X) C Wx a)) (hb : PSs X bs (TSs (wd X) C Wx b)) : PS X (.If ec as bs pos) (TS1 (wd X) C Wx (.ite c a b)) :=
  PS.imp (ps_if hc ha hb) fun Dv τ H ⟨σ, h, Xd, D, at_, hw, k⟩ => ⟨σ, h, Xd, _, at_, hw, fun t h1 H1 f rh q => by
    cases t with
    | true =>
      rw [ifB_t] at q
      rw [if_pos rfl]
      exact ⟨σ, h1, Xd, D, at_.go f rh, q, k.go f⟩
    | false =>
      rw [ifB_f] at q
      rw [if_neg Bool.false_ne_true]
      exact ⟨σ, h1, Xd, D, at_.go f rh, q, k.go f⟩⟩
/-! ### stores -/
theorem js_set (hS : StOk X) {i : Nat} {x : Str} {e : E} {ea : Expr} {pos pos' : Pos} (hN : X.N.Nodup) (hi : X.N[i]? = some x) (hx : Loc X.env.scope x) (hn : noComp ea = true) (he : PE X ea (TE (wd X) C Wx e)) : PS X (.Assign [.Name x pos'] ea pos) (TS1 (wd X) C Wx (.asg (.name i) e)) :=
  PS.imp (ps_set hN hi hx he (swap_no hn) (st_fn hS hx)) fun Dv τ H ⟨σ, h, Xd, D, at_, hw, k⟩ => oneV at_ hw fun d h1 v H1 f rh r p => by
    have p : D.nx (σ.set i (some d)) h1 := by
      have p : wpTt bt C (.name i) d Xd σ h1 D.nx := p
      unfold wpTt at p
      exact p
    exact k.nx _ h1 _ H1 f rh ((at_.s.mono (f.fx at_.hh)).set r) p

def TGt (W : Wd) (C : Ctx) (Wx : WX) (t : Tt) : L2.TG := fun v τ H Q => ∃ d σ h Xd R, Rep W H d v ∧ At W Wx Xd σ τ h H ∧ wpTt bt C t d Xd σ h R ∧ ∀ σ' h' τ' H', Fr h H h' H' → RepH W h' H' → RepS W H' σ' τ' → R σ' h' → Q τ' H'
def TGts (W : Wd) (C : Ctx) (Wx : WX) (ts : List Tt) : L2.TGs := fun vs τ H Q => ∃ ds σ h Xd R, Reps W H ds vs ∧ At W Wx Xd σ τ h H ∧ wpTts bt C ts ds Xd σ h R ∧ ∀ σ' h' τ' H', Fr h H h' H' → RepH W h' H' → RepS W H' σ' τ' → R σ' h' → Q τ' H'
theorem jt_name (hS : StOk X) {i : Nat} {x : Str} {pos : Pos} (hN : X.N.Nodup) (hi : X.N[i]? = some x) (hx : Loc X.env.scope x) : PG X (.Name x pos) (TGt (wd X) C Wx (.name i)) :=
  PG.imp (pg_name hN hi hx (st_fn hS hx)) fun v τ H Q ⟨d, σ, h, Xd, R, r, at_, hw, k⟩ => by
    unfold wpTt at hw
    exact k _ h _ H Fr.refl at_.hh (at_.s.set r) hw
theorem jts_nil : PGs X [] (TGts (wd X) C Wx []) := PGs.imp pgs_nil fun v τ H Q ⟨ds, σ, h, Xd, R, r, at_, hw, k⟩ => by
  cases ds with
  | nil =>
    unfold wpTts at hw
    cases r
    exact ⟨rfl, k _ h _ H Fr.refl at_.hh at_.s hw⟩
  | cons _ _ => unfold wpTts at hw; exact hw.elim
theorem jts_cons {g : Tt} {gs : List Tt} {e : Expr} {es : List Expr} (hs : noStar e = true) (h1 : PG X e (TGt (wd X) C Wx g)) (h2 : PGs X es (TGts (wd X) C Wx gs)) : PGs X (e :: es) (TGts (wd X) C Wx (g :: gs)) :=
  PGs.imp (pgs_cons h1 h2 (by rw [assign_star hs]; rfl)) fun v τ H Q ⟨ds, σ, h, Xd, R, r, at_, hw, k⟩ => by
    cases r with
    | nil => unfold wpTts at hw; exact hw.elim
    | cons rd t =>
      rename_i d vd ds vs _
      unfold wpTts at hw
      exact ⟨vd, vs, rfl, d, σ, h, Xd, _, rd, at_, hw, fun σ' h' τ' H' f rh rs q => ⟨ds, σ', h', Xd, R, t.mono (f.fx at_.hh), at_.goS f rh rs, q, fun σ2 h2 τ2 H2 f2 rh2 rs2 q2 => k σ2 h2 τ2 H2 (f.trans f2) rh2 rs2 q2⟩⟩
theorem wpTts_len {C : Ctx} : ∀ {gs : List Tt} {ds : List D} {Xd : Xd} {σ : Sg} {h : Hd} {R : Sg → Hd → Prop}, wpTts bt C gs ds Xd σ h R → gs.length ≤ 1 ∨ True
  | _, _, _, _, _, _, _ => .inr trivial
theorem jt_tup (hc : X.calm = true) {gs : List Tt} {es : List Expr} {k : Nat} {pos : Pos} (hs : es.all noStar = true) (hl : gs.length = es.length) (h : PGs X es (TGts (wd X) C Wx gs)) : PG X (.Tuple es k pos) (TGt (wd X) C Wx (.tup gs)) :=
  PG.imp (pg_tup (n := es.length) hc h (assign_len hs).1 (assign_len hs).2) fun v τ H Q ⟨d, σ, h, Xd, R, r, at_, hw, kk⟩ => by
    unfold wpTt at hw
    split at hw
    · rename_i ds e1
      obtain ⟨a, vs, rfl, sq, q⟩ := tupOf_ok r e1
      exact ⟨a, vs, rfl, sq, by rw [← q.length, hw.1, hl], ds, σ, h, Xd, R, q, at_, hw.2, kk⟩
    · exact hw.elim
/-! x[i] = v -/
def rSubD (W : Wd) : L2.TSet := fun vo vi vv H Q => ∃ h o i d R, RepH W h H ∧ Rep W H o vo ∧ Rep W H i vi ∧ Rep W H d vv ∧ subSet o i d h R ∧ ∀ h' H', Fr h H h' H' → RepH W h' H' → R h' → Q H'
theorem pset_all (hu : RoomE X) : PSet X (rSubD (wd X)) := by
  intro pins s σ H vo vi vv ov iv u Q I ro ri rv hh
  obtain ⟨h, o, i, d, R, rh, r1, r2, r3, hs, k⟩ := hh
  cases o with
  | ref a =>
    cases r1
    have hs : (match h a with
      | some (.lst xs) => subLst xs a i d h R
      | _ => putP h a i d R) := hs
    split at hs
    · rename_i xs ea
      obtain ⟨vs, e2, q⟩ := rh a _ ea
      cases i with
      | int i =>
        have hs : (match ixD xs.length i with
          | some k => R (hup h a (.lst (xs.set k d)))
          | none => False) := hs
        split at hs
        · rename_i j ej
          cases r2
          obtain ⟨f, rh'⟩ := set_cell rh ea (q.set r3 j)
          exact set_list pins s σ H _ _ vv ov iv u Q I ro ri rv ⟨a, vs, i, j, rfl, rfl, e2, by rw [← q.length]; exact ej, k _ _ f rh' hs⟩
        · exact hs.elim
      | _ => exact hs.elim
    · obtain rfl : ov = Value.ref a := ro
      have fin : ∀ {c : Cl} {o : HO} {c0 : Cl}, h a = some c0 → (RepC (wd X) (upd H a o) a c) → Fr h H (hup h a c) (upd H a o) ∧ RepH (wd X) (hup h a c) (upd H a o) := fun {c o c0} e rc => ⟨Fr.set e, rh.set e rc⟩
      unfold putP at hs
      split at hs
      · rename_i kvs ea
        obtain ⟨vs, e2, q⟩ := rh a _ ea
        split at hs
        · rename_i y ey
          have ok : KOk.ok y := by
            cases y with
            | inl _ => trivial
            | inr x => cases r2 <;> cases ey; assumption
          obtain ⟨f, rh'⟩ := fin (c := .dK (putD kvs y d)) (o := .dK (putK vs y vv)) ea ⟨_, upd_same, (q.put ok r3).mono (fx_set e2 fun z => z)⟩
          rw [kyD_ok r2 ey] at ri
          exact d_setItem (by unfold RoomE at hu; omega) I (DPut.k e2 (by rw [← q.length]; exact big_lt hs.1)) ri rv fun s' I' => ⟨_, I', k _ _ f rh' hs.2⟩
        · exact hs.elim
      · rename_i kvs ea
        obtain ⟨vs, e2, q⟩ := rh a _ ea
        split at hs
        · rename_i ds
          split at hs
          · rename_i y ey
            cases r2 with
            | tup e3 q3 =>
              have ok : KOk.ok y := kysD_strOk q3 ey
              rw [kysD_ok q3 ey] at e3
              obtain ⟨f, rh'⟩ := fin (c := .dT (putD kvs y d)) (o := .dT (putK vs y vv)) ea ⟨_, upd_same, (q.put ok r3).mono (fx_set e2 fun z => z)⟩
              exact d_setItem (by unfold RoomE at hu; omega) I (DPut.t e2 e3 (by rw [← q.length]; exact big_lt hs.1)) ri rv fun s' I' => ⟨_, I', k _ _ f rh' hs.2⟩
          · exact hs.elim
        · exact hs.elim
      · exact hs.elim
  | _ => exact hs.elim
theorem sub_assign {o i : Expr} {env : Env} {pos : Pos} (h : plainIx i = true) (v : Value) : assign (.Subscript o i pos) env v = (do
      let ov ← holding [v] (eval o env)
      let iv ← holding [v, ov] (eval i env)
      standAt pos
      holding [v, ov, iv] (setItem ov iv v)
      release [v, ov, iv] []) := by
  cases i <;> first | rfl | simp [plainIx] at h
theorem jt_sub (hu : RoomE X) {o i : E} {oa ia : Expr} {pos : Pos} (hp : plainIx ia = true) (ho : PE X oa (TE (wd X) C Wx o)) (hi : PE X ia (TE (wd X) C Wx i)) : PG X (.Subscript oa ia pos) (TGt (wd X) C Wx (.sub o i)) :=
  PG.imp (pg_sub ho hi (pset_all hu) (sub_assign hp)) fun v τ H Q ⟨d, σ, h, Xd, R, r, at_, hw, k⟩ => by
    unfold wpTt at hw
    refine oneV at_ hw fun x h1 vx H1 f rh r1 p => oneV (at_.go f rh) p fun y h2 vy H2 f2 rh2 r2 p2 => ?_
    exact ⟨h2, x, y, d, fun h3 => R σ h3, rh2, r1.mono (f2.fx rh), r2, r.mono ((f.trans f2).fx at_.hh), p2, fun h3 H3 f3 rh3 q => k σ h3 τ H3 ((f.trans f2).trans f3) rh3 (at_.s.mono (((f.trans f2).trans f3).fx at_.hh)) q⟩
/-- what no stores of names from the right are -/
def noSwap : Expr → Expr → Bool
  | .Tuple _ _ _, .Tuple _ _ _ => false
  | .List _ _, .Tuple _ _ _ => false
  | _, _ => true
theorem noSwap_ok {t e : Expr} {env : Env} (h : noSwap t e = true) : swappedStores [t] e env = pure none := by
  unfold swappedStores
  cases t <;> first | rfl | (cases e <;> first | rfl | simp [noSwap] at h)
theorem js_asg {t : Tt} {e : E} {ta ea : Expr} {pos : Pos} (hn : noComp ea = true) (hs : noStar ta = true) (hw : swappedStores [ta] ea X.env = pure none) (ht : PG X ta (TGt (wd X) C Wx t)) (he : PE X ea (TE (wd X) C Wx e)) : PS X (.Assign [ta] ea pos) (TS1 (wd X) C Wx (.asg t e)) :=
  PS.imp (ps_asg he ht (swap_no hn) hw (by rw [assign_star hs]; rfl)) fun Dv τ H ⟨σ, h, Xd, D, at_, hw, k⟩ => oneV at_ hw fun d h1 v H1 f rh r p =>
    ⟨d, σ, h1, Xd, D.nx, r, at_.go f rh, p, fun σ' h' τ' H' f' rh' rs q => k.nx σ' h' τ' H' (f.trans f') rh' rs q⟩
end
end AR
end

section
set_option Elab.async false
set_option linter.all false
set_option maxRecDepth 100000
set_option maxHeartbeats 4000000
/-! DL12: a, b = x, y; op=; for, while. -/
namespace AR
open PySem PySem.Spec PyProof.Rows L2
section
variable {X : Cx} {C : Ctx} {Wx : WX}
theorem two_list {α : Type} {l : List α} (h : l.length = 2) : ∃ a b, l = [a, b] := by
  match l, h with
  | [a, b], _ => exact ⟨a, b, rfl⟩
theorem js_par (hc : X.calm = true) {i j : Nat} {x y : Str} {a b : E} {ea eb : Expr} {px py pt pos : Pos} {kt k2 pt2} (hN : X.N.Nodup) (hi : X.N[i]? = some x) (hj : X.N[j]? = some y) (hij : i ≠ j)
    (hx : X.env.scope.names.lookup x = some .local) (hy : X.env.scope.names.lookup y = some .local) (hw : swappedStores [.Tuple [.Name x px, .Name y py] kt pt] (.Tuple [ea, eb] k2 pt2) X.env = pure (some [x, y]))
    (ha : PA X [ea, eb] (TA (wd X) C Wx (.cons a (.cons b .nil)))) : PS X (.Assign [.Tuple [.Name x px, .Name y py] kt pt] (.Tuple [ea, eb] k2 pt2) pos) (TS1 (wd X) C Wx (.par [i, j] (.cons a (.cons b .nil)))) :=
  PS.imp (ps_par hc hN hi hj hij hx hy ha hw) fun Dv τ H ⟨σ, h, Xd, D, at_, hw, k⟩ => by
    have hw : wpEs bt C (.cons a (.cons b .nil)) Xd σ h fun ds h1 => match parSet [i, j] ds σ with
      | some σ' => D.nx σ' h1
      | none => False := hw
    rw [wpEs_len] at hw
    refine ⟨σ, h, Xd, _, at_, hw, fun ds h1 vs H1 f rh r p => ?_⟩
    obtain ⟨l, p⟩ := p
    obtain ⟨d1, d2, rfl⟩ := two_list (show ds.length = 2 from l)
    cases r with
    | cons r1 t =>
      cases t with
      | cons r2 t =>
        cases t
        rename_i v1 v2
        refine ⟨v1, v2, rfl, k.nx _ h1 _ H1 f rh (((at_.s.mono (f.fx at_.hh)).set r1).set r2) p⟩
theorem swapped_par {x y : Str} {ea eb : Expr} {px py pt pt2 : Pos} {kt k2 : Nat} {env : Env} (h1 : env.blockKind = .function) (hx : env.scope.names.lookup x = some .local) (hy : env.scope.names.lookup y = some .local) (hxy : x ≠ y) (hl : (py.line == px.line) = true)
    (hs : noStar ea = true) (hs2 : noStar eb = true) (hf : (foldedForSure 8 ea && foldedForSure 8 eb) = false) (hc : (constantsAlone 8 ea && constantsAlone 8 eb) = false) :
    swappedStores [.Tuple [.Name x px, .Name y py] kt pt] (.Tuple [ea, eb] k2 pt2) env = pure (some [x, y]) := by
  have kx : env.kindOf x = some .local := hx
  have ky : env.kindOf y = some .local := hy
  have e1 : (px.line == px.line) = true := by simp
  have st : ∀ e : Expr, noStar e = true → (match e with | .Starred .. => true | _ => false) = false := fun e h => by cases e <;> first | rfl | simp [noStar] at h
  have ed : [x, y].eraseDups = [x, y] := by
    have : (y == x) = false := beq_eq_false_iff_ne.mpr (Ne.symm hxy)
    simp [List.eraseDups_cons, this]
  unfold swappedStores
  simp only [List.length_cons, List.length_nil, h1, List.any_cons, List.any_nil, st ea hs, st eb hs2, List.head?_cons, Option.map_some, Option.getD_some, List.filterMap_cons, List.filterMap_nil, Expr.pos, kx, ky, hl, e1, beq_self_eq_true, Bool.and_self, if_true, List.all_cons, List.all_nil, Bool.and_true, hf, hc, ed]
  rw [if_neg (by decide), if_neg, if_neg (by decide), if_neg Bool.false_ne_true, if_neg Bool.false_ne_true]
  intro hcon
  rw [Bool.or_eq_true, Bool.or_eq_true] at hcon
  rcases hcon with h | h | h
  · cases ea <;> first | (cases h; done) | simp [noStar] at hs
  · cases eb <;> first | (cases h; done) | simp [noStar] at hs2
  · cases h
/-- name += e, name -= e -/
def augOk : BOp → Bool
  | .add => true
  | .sub => true
  | _ => false
theorem js_aug (hS : StOk X) {i : Nat} {x : Str} {o : BOp} {e : E} {ea : Expr} {pos pos' : Pos} (ho : augOk o = true) (hN : X.N.Nodup) (hi : X.N[i]? = some x) (hx : Loc X.env.scope x) (he : PE X ea (TE (wd X) C Wx e)) : PS X (.AugAssign (.Name x pos') (astB o) ea pos) (TS1 (wd X) C Wx (.aug i o e)) := by
  have core : ∀ {ti : L2.TIp}, (∀ (a b : Int) H Q, (match o with
      | .add => Q (.int (a + b)) H
      | .sub => Q (.int (a - b)) H
      | _ => False) → ti (.int a) (.int b) H Q) → ∀ Dv τ H, TS1 (wd X) C Wx (.aug i o e) Dv τ H → tAug i (TE (wd X) C Wx e) ti Dv τ H := by
    rintro ti hti Dv τ H ⟨σ, h, Xd, D, at_, hw, k⟩
    unfold wpS at hw
    split at hw
    · rename_i d ed
      obtain ⟨v, ev, rv⟩ := at_.s.2 i d ed
      refine ⟨v, ev, oneV at_ hw fun y h1 vy H1 f rh r p => ?_⟩
      cases d with
      | int a =>
        cases y with
        | int b =>
          cases rv
          cases r
          have p : (match o with
            | .add => D.nx (σ.set i (some (.int (a + b)))) h1
            | .sub => D.nx (σ.set i (some (.int (a - b)))) h1
            | _ => False) := p
          refine hti a b H1 _ ?_
          cases o with
          | add => exact k.nx _ h1 _ H1 f rh ((at_.s.mono (f.fx at_.hh)).set (.int (a + b))) p
          | sub => exact k.nx _ h1 _ H1 f rh ((at_.s.mono (f.fx at_.hh)).set (.int (a - b))) p
          | _ => exact p.elim
        | _ => exact p.elim
      | _ => exact p.elim
    · exact hw.elim
  cases o with
  | add => exact PS.imp (ps_aug hN hi hx he ip_add (st_fn hS hx)) (core fun a b H Q q => ⟨a, b, rfl, rfl, q⟩)
  | sub => exact PS.imp (ps_aug hN hi hx he ip_sub (st_fn hS hx)) (core fun a b H Q q => ⟨a, b, rfl, rfl, q⟩)
  | _ => cases ho
/-! ### loops -/
theorem RepS.sub {W : Wd} {H : Hp} {σ σ' : Sg} {τ : L2.St} (r : RepS W H σ τ) (s : SubS σ' σ) : RepS W H σ' τ := ⟨s.1.trans r.1, fun i d e => r.2 i d (s.2 i d e)⟩
theorem Fr.sub {h h' h2 : Hd} {H H' : Hp} (f : Fr h H h' H') (s : SubH h2 h') : Fr h H h2 H' where
  st := fun a o e1 e2 => by
    obtain ⟨q1, q2⟩ := f.st a o e1 e2
    refine ⟨q1, ?_⟩
    cases e : h2 a with
    | none => rfl
    | some c => rw [s a c e] at q2; cases q2
  th := f.th
theorem At.sub {W : Wd} {Xd : Xd} {σ σ' σ2 : Sg} {τ τ' : L2.St} {h h' h2 : Hd} {H H' : Hp} (a : At W Wx Xd σ τ h H) (f : Fr h H h' H') (r : RepH W h' H') (s : RepS W H' σ' τ') (u : SubS σ2 σ') (v : SubH h2 h') : At W Wx Xd σ2 τ' h2 H' :=
  a.goS (f.sub v) (r.sub v) (s.sub u)
def foldSet : Expr → Bool
  | .Set .. => false
  | _ => true
theorem fold_ok {e : Expr} (h : foldSet e = true) {env : Env} (x : Value) : foldedSetIterable e env x = pure x := by
  unfold foldedSetIterable
  cases e <;> first | rfl | simp [foldSet] at h
theorem js_for (hc : X.calm = true) (hp : PassesOwn (model X.prog X.w) X.A X.env X.xe) {g : Tg} {it : It} {b : Ss} {ta ia : Expr} {ba : List Stmt} {pos : Pos} (hf : foldSet ia = true) (hi : PI X ta ia (TIt (wd X) C Wx it)) (hg : PG X ta (TGd (wd X) g)) (hb : PSs X ba (TSs (wd X) C Wx b)) :
    PS X (.For ta ia ba [] pos) (TS1 (wd X) C Wx (.fr g it b)) :=
  PS.imp (ps_for hp hc hi hg hb (fun x => fold_ok hf x)) fun Dv τ H ⟨σ, h, Xd, D, at_, hw, k⟩ => by
    refine ⟨σ, h, Xd, _, at_, hw, fun ds G h1 J H1 f1 rh1 wk q => ?_⟩
    obtain ⟨_, q⟩ := q
    refine ⟨fun i m τ H => m = ds.length - i ∧ i ≤ ds.length ∧ ∃ σ h, At (wd X) Wx Xd σ τ h H ∧ Fr h1 H1 h H ∧ forL G g (fun D σ h => wpSs bt C b Xd D σ h) (ds.drop i) D σ h, ⟨ds.length, by simp, Nat.zero_le _, σ, h1, at_.go f1 rh1, Fr.refl, by simpa using q⟩, ?_⟩
    rintro i m τ2 H2 ⟨rfl, hi2, σ2, h2, at2, f2, q2⟩
    by_cases hlt : i < ds.length
    · obtain ⟨d, ed⟩ := getE (l := ds) (i := i) hlt
      have e : ds.drop i = d :: ds.drop (i + 1) := by
        rw [List.drop_eq_getElem_cons hlt]
        rw [List.getElem?_eq_getElem hlt] at ed
        cases ed
        rfl
      rw [e] at q2
      unfold forL at q2
      obtain ⟨g2, q2⟩ := q2
      refine .inr ⟨wk.go i h2 H2 hlt f2 at2.hh g2, fun τ' H' => ∃ σ' h', At (wd X) Wx Xd σ' τ' h' H' ∧ Fr h1 H1 h' H' ∧ forL G g (fun D σ h => wpSs bt C b Xd D σ h) (ds.drop (i + 1)) D σ' h',
        fun τ' H' ⟨σ', h', a', f', q'⟩ => ⟨ds.length - (i + 1), by omega, rfl, hlt, σ', h', a', f', q'⟩, fun x H3 y => ?_⟩
      obtain ⟨d', ed', f3, rh3, rx⟩ := wk.yld i h2 H2 x H3 hlt f2 at2.hh g2 y
      rw [ed] at ed'
      cases ed'
      split at q2
      · rename_i σ3 e3
        refine ⟨d, σ2, σ3, rx, at2.s.mono (f3.fx at2.hh), e3, fun τ3 _ rs3 => ?_⟩
        refine ⟨σ3, h2, Xd, _, at2.goS f3 rh3 rs3, q2, ?_, ?_, ?_, ?_⟩
        · rintro σ4 h4 τ4 H4 f4 rh4 rs4 ⟨σ5, h5, u, v, q5⟩
          exact ⟨σ5, h5, at2.sub (f3.trans f4) rh4 rs4 u v, (((f2.trans f3).trans f4).sub v), q5⟩
        · exact fun d4 h4 v4 H4 f4 rh4 r4 q4 => k.rt d4 h4 v4 H4 (((f1.trans f2).trans f3).trans f4) rh4 r4 q4
        · exact fun σ4 h4 τ4 H4 f4 rh4 r4 q4 => k.nx σ4 h4 τ4 H4 (((f1.trans f2).trans f3).trans f4) rh4 r4 q4
        · rintro σ4 h4 τ4 H4 f4 rh4 rs4 ⟨σ5, h5, u, v, q5⟩
          exact ⟨σ5, h5, at2.sub (f3.trans f4) rh4 rs4 u v, (((f2.trans f3).trans f4).sub v), q5⟩
      · exact q2.elim
    · have e : i = ds.length := by omega
      subst e
      rw [List.drop_length] at q2
      unfold forL at q2
      exact .inl ⟨wk.stop h2 H2 f2 at2.hh q2.1, k.nx σ2 h2 τ2 H2 (f1.trans f2) at2.hh at2.s q2.2⟩
theorem js_whl (hp : PassesOwn (model X.prog X.w) X.A X.env X.xe) {c : E} {b : Ss} {ca : Expr} {ba : List Stmt} {pos : Pos} (hc : PT X ca (TT (wd X) C Wx c)) (hb : PSs X ba (TSs (wd X) C Wx b)) :
    PS X (.While ca ba [] pos) (TS1 (wd X) C Wx (.whl c b)) :=
  PS.imp (ps_while hp hc hb) fun Dv τ H ⟨σ, h, Xd, D, at_, hw, k⟩ => by
    have hw : ∃ n, whlL (fun σ h R => wpT bt C c Xd σ h R) (fun D σ h => wpSs bt C b Xd D σ h) n D σ h := hw
    obtain ⟨n, q⟩ := hw
    refine ⟨fun m τ H1 => ∃ σ1 h1, At (wd X) Wx Xd σ1 τ h1 H1 ∧ Fr h H h1 H1 ∧ whlL (fun σ h R => wpT bt C c Xd σ h R) (fun D σ h => wpSs bt C b Xd D σ h) m D σ1 h1, ⟨n, σ, h, at_, Fr.refl, q⟩, ?_⟩
    rintro m τ1 H1 ⟨σ1, h1, at1, f1, q1⟩
    cases m with
    | zero => exact q1.elim
    | succ m =>
      unfold whlL at q1
      refine ⟨σ1, h1, Xd, _, at1, q1, fun t h2 H2 f2 rh2 q2 => ?_⟩
      cases t with
      | true =>
        rw [ifB_t] at q2
        rw [if_pos rfl]
        refine ⟨fun τ' H' => ∃ σ' h', At (wd X) Wx Xd σ' τ' h' H' ∧ Fr h H h' H' ∧ whlL (fun σ h R => wpT bt C c Xd σ h R) (fun D σ h => wpSs bt C b Xd D σ h) m D σ' h', fun τ' H' z => ⟨m, Nat.lt_succ_self _, z⟩, ?_⟩
        refine ⟨σ1, h2, Xd, _, at1.go f2 rh2, q2, ?_, ?_, ?_, ?_⟩
        · rintro σ4 h4 τ4 H4 f4 rh4 rs4 ⟨σ5, h5, u, v, q5⟩
          exact ⟨σ5, h5, at1.sub (f2.trans f4) rh4 rs4 u v, (((f1.trans f2).trans f4).sub v), q5⟩
        · exact fun d4 h4 v4 H4 f4 rh4 r4 q4 => k.rt d4 h4 v4 H4 ((f1.trans f2).trans f4) rh4 r4 q4
        · exact fun σ4 h4 τ4 H4 f4 rh4 r4 q4 => k.nx σ4 h4 τ4 H4 ((f1.trans f2).trans f4) rh4 r4 q4
        · rintro σ4 h4 τ4 H4 f4 rh4 rs4 ⟨σ5, h5, u, v, q5⟩
          exact ⟨σ5, h5, at1.sub (f2.trans f4) rh4 rs4 u v, (((f1.trans f2).trans f4).sub v), q5⟩
      | false =>
        rw [ifB_f] at q2
        rw [if_neg Bool.false_ne_true]
        exact k.nx σ1 h2 τ1 H2 (f1.trans f2) rh2 (at1.s.mono (f2.fx at1.hh)) q2
end
end AR
end

section
set_option Elab.async false
set_option linter.all false
set_option maxRecDepth 100000
set_option maxHeartbeats 4000000
/-! DL13: comprehensions. -/
namespace AR
open PySem PySem.Spec PyProof.Rows L2
abbrev Wx0 : WX := fun _ _ _ _ => False
abbrev X0 : Xd := fun _ _ _ => False
def TCd (W : Wd) (C : Ctx) (Wx : WX) (c : Oe) : L2.TT := fun τ H QV => ∃ σ h Xd Q, At W Wx Xd σ τ h H ∧ wpC bt C c Xd σ h Q ∧ ∀ b h' H', Fr h H h' H' → RepH W h' H' → Q b h' → QV b H'
section
variable {X : Cx} {C : Ctx} {Wx : WX}
theorem PTs.imp {X : Cx} {e : List Expr} {t t' : L2.TT} (h : PTs X e t) (i : ∀ σ H Q, t' σ H Q → t σ H Q) : PTs X e t' := ⟨fun pins s σ H Q I q => h.run pins s σ H Q I (i _ _ _ q)⟩
theorem jc_none : PTs X [] (TCd (wd X) C Wx .none) := PTs.imp pts_nil fun τ H QV ⟨σ, h, Xd, Q, at_, hw, k⟩ => k true h H Fr.refl at_.hh hw
theorem jc_some {e : E} {ea : Expr} (he : PT X ea (TT (wd X) C Wx e)) : PTs X [ea] (TCd (wd X) C Wx (.some e)) := PTs.imp (pts_one he) fun τ H QV ⟨σ, h, Xd, Q, at_, hw, k⟩ => ⟨σ, h, Xd, Q, at_, hw, k⟩
theorem wipeD_of {W : Wd} {H : Hp} {σ : Sg} {τ : L2.St} (r : RepS W H σ τ) (vs : List Nat) : RepS W H (wipeD σ vs) (L2.wipe τ vs) := r.wipe vs
theorem at0 {W : Wd} {σ : Sg} {τ : L2.St} {h : Hd} {H : Hp} (s : RepS W H σ τ) (rh : RepH W h H) : At W Wx0 X0 σ τ h H := ⟨s, rh, fun _ _ _ _ _ _ _ _ _ _ _ z => z⟩
/-- a list grows aside -/
theorem grow {W : Wd} {h : Hd} {H : Hp} {Dp : Addr} {vs : List V} {ds : List D} {v : V} {d : D} (rh : RepH W h H) (n : h Dp = none) (e : H Dp = some (.lst vs)) (r : Reps W H ds vs) (q : Rep W H d v) :
    RepH W h (upd H Dp (.lst (vs ++ [v]))) ∧ Reps W (upd H Dp (.lst (vs ++ [v]))) (ds ++ [d]) (vs ++ [v]) := by
  have fx := fx_set (H := H) (o := .lst (vs ++ [v])) e (fun z => z)
  refine ⟨fun a c e2 => ?_, (r.append (.cons q .nil)).mono fx⟩
  have ne : a ≠ Dp := fun z => by rw [z, n] at e2; cases e2
  exact (rh a c e2).mono fx (upd_ne ne)
theorem Fr.aside {W : Wd} {h h' : Hd} {H H' : Hp} {p : Addr} {o : HO} (f : Fr h H h' H') (n : H p = none) : Fr h H h' (upd H' p o) := ⟨fun a u e1 e2 => by
  obtain ⟨q1, q2⟩ := f.st a u e1 e2
  exact ⟨by rw [upd_ne (ne_of_none e2 n)]; exact q1, q2⟩, fun a u e => by
  obtain ⟨o', q⟩ := f.th a u e
  rw [upd_ne (ne_of_none e n)]
  exact ⟨o', q⟩⟩
/-- the turns of a list comprehension, by values -/
theorem lc_turns {W : Wd} {g : Tg} {c : Oe} {e : E} {own : List Nat} {G : Hd → Prop} {J : L2.It} {ds : List D} {σ : Sg} {τ : L2.St} {h1 : Hd} {H1 : Hp} {Q : List D → Hd → Prop} {QV : VK} {Dp : Addr}
    (hids : ∀ i ∈ g.ids, i ∈ own) (rs : RepS W H1 σ τ) (rh : RepH W h1 H1) (hlen : ds.length ≤ big) (wk : Walk W J ds G h1 H1) (np : H1 Dp = none)
    (q : lcL G g (wipeD σ own) (fun σ h R => wpC bt C c X0 σ h R) (fun σ h R => wpE bt C e X0 σ h fun r h' => place r h' R) ds [] h1 Q)
    (k : ∀ acc h H vs, Fr h1 H1 h H → RepH W h H → h Dp = none → H Dp = some (.lst vs) → Reps W H acc vs → Q acc h → QV (.ref Dp) H) :
    ∃ Wt : Nat → Nat → Hp → Prop, (∃ m, Wt 0 m (upd H1 Dp (.lst []))) ∧ ∀ i m H, Wt i m H → (J.stop i H ∧ QV (.ref Dp) H) ∨ (J.go i H ∧ ∃ Nx : Hp → Prop, (∀ H', Nx H' → ∃ m', m' < m ∧ Wt (i + 1) m' H') ∧
      ∀ x H', J.yld i H x H' → TGd W g x (L2.wipe τ own) H' fun τ2 H2 => L2.wipe τ2 own = L2.wipe τ own ∧ TCd W C Wx0 c τ2 H2 fun b H3 =>
        if b = true then TE W C Wx0 e τ2 H3 fun y H4 => ∃ acc, H4 Dp = some (.lst acc) ∧ acc.length < sizeLine ∧ Nx (upd H4 Dp (.lst (acc ++ [y]))) else Nx H3) := by
  refine ⟨fun i m H => m = ds.length - i ∧ i ≤ ds.length ∧ ∃ h acc vs, Fr h1 H1 h H ∧ RepH W h H ∧ h Dp = none ∧ H Dp = some (.lst vs) ∧ Reps W H acc vs ∧ acc.length ≤ i ∧
      lcL G g (wipeD σ own) (fun σ h R => wpC bt C c X0 σ h R) (fun σ h R => wpE bt C e X0 σ h fun r h' => place r h' R) (ds.drop i) acc h Q,
    ⟨ds.length, by simp, Nat.zero_le _, h1, [], [], Fr.refl.aside (W := W) np, rh.new np, rh.free np, upd_same, .nil, Nat.le_refl _, by simpa using q⟩, ?_⟩
  rintro i m H ⟨rfl, hi, h, acc, vs, f, rh2, nD, eD, ra, la, q2⟩
  by_cases hlt : i < ds.length
  · obtain ⟨d, ed⟩ := getE (l := ds) (i := i) hlt
    have e0 : ds.drop i = d :: ds.drop (i + 1) := by
      rw [List.drop_eq_getElem_cons hlt]
      rw [List.getElem?_eq_getElem hlt] at ed
      cases ed
      rfl
    rw [e0] at q2
    unfold lcL at q2
    obtain ⟨g2, q2⟩ := q2
    refine .inr ⟨wk.go i h H hlt f rh2 g2, fun H' => ∃ h acc vs, Fr h1 H1 h H' ∧ RepH W h H' ∧ h Dp = none ∧ H' Dp = some (.lst vs) ∧ Reps W H' acc vs ∧ acc.length ≤ i + 1 ∧
      lcL G g (wipeD σ own) (fun σ h R => wpC bt C c X0 σ h R) (fun σ h R => wpE bt C e X0 σ h fun r h' => place r h' R) (ds.drop (i + 1)) acc h Q,
      fun H' z => ⟨ds.length - (i + 1), by omega, rfl, hlt, z⟩, fun x H3 y => ?_⟩
    obtain ⟨d', ed', f3, rh3, rx⟩ := wk.yld i h H x H3 hlt f rh2 g2 y
    rw [ed] at ed'
    cases ed'
    split at q2
    · rename_i σ3 e3
      refine ⟨d, wipeD σ own, σ3, rx, (rs.wipe own).mono ((f.trans f3).fx rh), e3, fun τ3 sb rs3 => ⟨(sb own hids).trans wipe_wipe, ?_⟩⟩
      refine ⟨σ3, h, X0, _, at0 rs3 rh3, q2, fun b h4 H4 f4 rh4 q4 => ?_⟩
      have fx34 := (f3.trans f4).fx rh2
      obtain ⟨eD4, nD4⟩ := (f3.trans f4).st Dp _ nD eD
      cases b with
      | true =>
        rw [ifB_t] at q4
        simp only [↓reduceIte]
        refine oneV (at0 (rs3.mono (f4.fx rh3)) rh4) q4 fun d5 h5 v5 H5 f5 rh5 r5 q5 => ?_
        obtain ⟨h6, u6, q6⟩ := q5
        obtain ⟨eD5, nD5⟩ := f5.st Dp _ nD4 eD4
        have ra5 : Reps W H5 acc vs := ra.mono (((f3.trans f4).trans f5).fx rh2)
        obtain ⟨rh7, ra7⟩ := grow rh5 nD5 eD5 ra5 r5
        have nD6 : h6 Dp = none := by
          cases z : h6 Dp with
          | none => rfl
          | some c => rw [u6 _ c z] at nD5; cases nD5
        refine ⟨vs, eD5, ?_, h6, acc ++ [d5], vs ++ [v5], ?_, rh7.sub u6, nD6, upd_same, ra7, by simp; omega, q6⟩
        · rw [← ra.length]
          exact big_lt (by omega)
        · exact ((((f.trans f3).trans f4).trans f5).aside (W := W) np).sub u6
      | false =>
        rw [ifB_f] at q4
        simp only [Bool.false_eq_true, ↓reduceIte]
        obtain ⟨h6, u6, q6⟩ := q4
        have nD6 : h6 Dp = none := by
          cases z : h6 Dp with
          | none => rfl
          | some c => rw [u6 _ c z] at nD4; cases nD4
        exact ⟨h6, acc, vs, ((f.trans f3).trans f4).sub u6, rh4.sub u6, nD6, eD4, ra.mono fx34, by omega, q6⟩
    · exact q2.elim
  · have e1 : i = ds.length := by omega
    subst e1
    rw [List.drop_length] at q2
    unfold lcL at q2
    exact .inl ⟨wk.stop h H f rh2 q2.1, k acc h H vs f rh2 nD eD ra q2.2⟩
theorem lc_imp {g : Tg} {it : It} {c : Oe} {e : E} {own : List Nat} (hids : ∀ i ∈ g.ids, i ∈ own) : ∀ (τ : L2.St) (H : Hp) (QV : VK), TE (wd X) C Wx (.lc e g it c own) τ H QV → tLc (TIt (wd X) C Wx it) (TGd (wd X) g) (TCd (wd X) C Wx0 c) (TE (wd X) C Wx0 e) own τ H QV := by
  rintro τ H QV ⟨σ, h, Xd, Q, at_, hw, k⟩
  refine ⟨σ, h, Xd, _, at_, hw, fun ds G h1 J H1 f rh wk q => fun Dp np => ?_⟩
  obtain ⟨hlen, q⟩ := q
  refine lc_turns hids (at_.s.mono (f.fx at_.hh)) rh hlen wk np q fun acc h2 H2 vs f2 rh2 nD eD ra q2 => ?_
  refine k (.new acc) h2 (.ref Dp) H2 (f.trans f2) rh2 ⟨Dp, vs, rfl, ?_, nD, eD, ra⟩ q2
  exact f.free np
theorem je_lc (hc : X.calm = true) (hN : X.N.Nodup) {g : Tg} {it : It} {c : Oe} {e : E} {elt ta ia : Expr} {ifs : List Expr} {scope : Scope} {own : List (Str × Nat)} {pos : Pos} (hids : ∀ i ∈ g.ids, i ∈ own.map (·.2)) (hf : foldSet ia = true) (hi : PI X ta ia (TIt (wd X) C Wx it)) (ok : BlkOk X.N X.env.scope scope own)
    (hg : ∀ (s : Shared) (H : Hp) (C' : Addr) (cl : List (Str × Addr)) (fp : List Addr), PG (X.blk s H scope (compEnvC scope cl C' X.env) fp) ta (TGd (wd X) g))
    (ht : ∀ (s : Shared) (H : Hp) (C' : Addr) (cl : List (Str × Addr)) (fp : List Addr), PTs (X.blk s H scope (compEnvC scope cl C' X.env) fp) ifs (TCd (wd X) C Wx0 c))
    (he : ∀ (s : Shared) (H : Hp) (C' : Addr) (cl : List (Str × Addr)) (fp : List Addr), PE (X.blk s H scope (compEnvC scope cl C' X.env) fp) elt (TE (wd X) C Wx0 e)) :
    PE X (.ListComp elt [⟨ta, ia, ifs, 0⟩] scope pos) (TE (wd X) C Wx (.lc e g it c (own.map (·.2)))) :=
  PE.imp (pe_lc hc hN hi ok hg ht he (fun x => fold_ok hf x)) (lc_imp hids)
theorem js_setLc (hc : X.calm = true) (hN : X.N.Nodup) {i : Nat} {y : Str} {py : Pos} {g : Tg} {it : It} {c : Oe} {e : E} {elt ta ia : Expr} {ifs : List Expr} {scope : Scope} {own : List (Str × Nat)} {pos spos : Pos} (hy : X.N[i]? = some y) (hyl : X.env.scope.names.lookup y = some .local)
    (hsw : swapsWith (.ListComp elt [⟨ta, ia, ifs, 0⟩] scope pos) (some (.Name y py)) spos.line X.env = pure true) (hids : ∀ i ∈ g.ids, i ∈ own.map (·.2)) (hf : foldSet ia = true) (hi : PI X ta ia (TIt (wd X) C Wx it)) (ok : BlkOk X.N X.env.scope scope own)
    (hg : ∀ (s : Shared) (H : Hp) (C' : Addr) (cl : List (Str × Addr)) (fp : List Addr), PG (X.blk s H scope (compEnvC scope cl C' X.env) fp) ta (TGd (wd X) g))
    (ht : ∀ (s : Shared) (H : Hp) (C' : Addr) (cl : List (Str × Addr)) (fp : List Addr), PTs (X.blk s H scope (compEnvC scope cl C' X.env) fp) ifs (TCd (wd X) C Wx0 c))
    (he : ∀ (s : Shared) (H : Hp) (C' : Addr) (cl : List (Str × Addr)) (fp : List Addr), PE (X.blk s H scope (compEnvC scope cl C' X.env) fp) elt (TE (wd X) C Wx0 e)) :
    PS X (.Assign [.Name y py] (.ListComp elt [⟨ta, ia, ifs, 0⟩] scope pos) spos) (TS1 (wd X) C Wx (.asg (.name i) (.lc e g it c (own.map (·.2))))) :=
  PS.imp (ps_setLc hc hN hy hyl hsw hi ok hg ht he (fun x => fold_ok hf x)) fun Dv τ H ⟨σ, h, Xd, D, at_, hw, k⟩ => lc_imp hids τ H _ (oneV at_ hw fun d h1 v H1 f rh r p => by
    have p : wpTt bt C (.name i) d Xd σ h1 D.nx := p
    unfold wpTt at p
    exact k.nx _ h1 _ H1 f rh ((at_.s.mono (f.fx at_.hh)).set r) p)
end
end AR
end

section
set_option Elab.async false
set_option linter.all false
set_option maxRecDepth 100000
set_option maxHeartbeats 4000000
/-! DLC: dict comprehensions whose keys are ints, texts or tuples of them (the library's rule for the former, turned to both). -/
namespace AR
open PySem PySem.Spec PyProof.Rows L2
theorem d_dictSetG {X : Cx} {pins : List (Addr × Obj)} {σ : L2.St} {H H' : Hp} {s : Shared} {E : Value → Shared → Prop} {a : Addr} {y v : V} {u r : Value} {Q : Unit → Shared → Prop} (hu : X.A.units + 1 < cLine) (I : L2.Inv X pins σ H s) (g : DPut H a y v H')
    (ry : RelV y u) (rv : RelV v r) (h : ∀ s', L2.Inv X pins σ H' s' → Q () s') : wpAny (model X.prog X.w) X.A (dictSet a u r) Q E s := by
  rcases g with ⟨kvs, k, e, ey, l, eH⟩ | ⟨kvs, k, b, e, ey, eb, l, eH⟩
  · subst ey eH
    exact d_dictSet I e l ry rv h
  · subst ey eH
    cases (show u = Value.ref b from ry)
    obtain ⟨z, hd, xs, rel, dd⟩ := dt_of I.hok e
    have hz : xs.length ≤ sizeLine := by rw [← Paired.length rel]; exact z
    have hl : (putK kvs k v).length ≤ sizeLine := by have := length_putK kvs k v; omega
    have room : (tupleKind (mixKind X.prog X.w)).room X.A := by
      show X.A.units < cLine
      omega
    refine wpAny_dictSet_heap (hsz := hz) room (key_of I.hok eb) dd fun h' dd' hs => h _ ?_
    obtain ⟨q, es, ep, hq, h2, h3, h4, _, h5⟩ := dd'
    refine d_write I (by rw [e]; exact True.intro) hs ⟨q, hq⟩ ⟨hl, hd, _, (rel.put k eb rv).keeps fun c ys ec => ?_, q, es, ep, hq, h2, h3, h4, h5⟩
    rw [upd_ne (ne_of ec e (fun z => nomatch z))]
    exact ec
section
variable {X : Cx}
/-- {k: v for ..}: Dp the new dict, o0 as it begins -/
def tDcG (o0 : HO) (wi : L2.TI) (g : L2.TG) (tt : L2.TT) (tk tv : L2.TE) (vs : List Nat) : L2.TE := fun σ H Q => wi σ H fun J H1 => ∀ Dp, H1 Dp = none → ∃ W : Nat → Nat → Hp → Prop, (∃ m, W 0 m (upd H1 Dp o0)) ∧ ∀ i m H, W i m H →
  (J.stop i H ∧ Q (.ref Dp) H) ∨ (J.go i H ∧ ∃ Nx : Hp → Prop, (∀ H', Nx H' → ∃ m', m' < m ∧ W (i + 1) m' H') ∧ ∀ x H', J.yld i H x H' → g x (L2.wipe σ vs) H' fun σ2 H2 => L2.wipe σ2 vs = L2.wipe σ vs ∧ tt σ2 H2 fun b H3 =>
    if b = true then tk σ2 H3 fun y H4 => tv σ2 H4 fun z H5 => ∃ H6, DPut H5 Dp y z H6 ∧ Nx H6 else Nx H3)
theorem dcg_core {o0 : HO} (ho0 : o0 = .dK [] ∨ o0 = .dT []) (hu : X.A.units + 1 < cLine) {pins : List (Addr × Obj)} {s : Shared} {σ : L2.St} {H : Hp} {Q : VK} {kx vx tg iter : Expr} {ifs : List Expr} {scope : Scope} {own : List (Str × Nat)} {pos pos' : Pos} {wi : L2.TI} {g : L2.TG} {tt : L2.TT} {tk tv : L2.TE} {use : Option (Value → Sem Unit)} {Qf : Value → Shared → Prop}
    (hc : X.calm = true) (hN : X.N.Nodup) (I : L2.Inv X pins σ H s) (hi : PI X tg iter wi) (ok : BlkOk X.N X.env.scope scope own)
    (hg : ∀ (s : Shared) (H : Hp) (C : Addr) (cl : List (Str × Addr)) (fp : List Addr), PG (X.blk s H scope (compEnvC scope cl C X.env) fp) tg g) (ht : ∀ (s : Shared) (H : Hp) (C : Addr) (cl : List (Str × Addr)) (fp : List Addr), PTs (X.blk s H scope (compEnvC scope cl C X.env) fp) ifs tt)
    (hk : ∀ (s : Shared) (H : Hp) (C : Addr) (cl : List (Str × Addr)) (fp : List Addr), PE (X.blk s H scope (compEnvC scope cl C X.env) fp) kx tk)
    (he : ∀ (s : Shared) (H : Hp) (C : Addr) (cl : List (Str × Addr)) (fp : List Addr), PE (X.blk s H scope (compEnvC scope cl C X.env) fp) vx tv) (hs : ∀ x, foldedSetIterable iter X.env x = pure x)
    (h : tDcG o0 wi g tt tk tv (own.map (·.2)) σ H Q)
    (hRR : ∀ D C s' m H', Inv X pins σ H' s' → Q (.ref D) H' → s'.heap.Ns C m → FpOk X pins H' C → compPost (model X.prog X.w) X.A X.xe use Qf (.ref D) C (.ok .next) s') :
    wpAny (model X.prog X.w) X.A (comprehension (.DictComp kx vx [⟨tg, iter, ifs, 0⟩] scope pos) scope X.env pos' newDict false (eval iter X.env) use) Qf X.xe s := by
  have hfree : ∀ y ∈ scope.names, y.2 = .free → ∃ c, X.env.cells.lookup y.1 = some c := fun y hy e => by
    rcases ok.free y hy e with k | k
    · exact I.ok.has _ (.inl k)
    · exact I.ok.has _ (.inr k)
  refine wpAny_comprehension_free (use := use) rfl hs (closure_ok hfree) ok.kind (fun y hy e => by rw [ok.uniq y hy, e])
    (thn (hi.run pins s σ H _ I h) fun xv s1 hx => thn hx fun itv s2 h2 => ?_)
  obtain ⟨it, fp, tn, J, H2, e, I2, T, st2, f2, q⟩ := h2
  subst e
  refine wpAny_newObj_type (newEnv_comp ?_)
  generalize hD : s2.heap.objs.size = D
  have hDn : H2 D = none := I2.hok.fresh (Nat.le_of_eq hD)
  obtain ⟨W, ⟨m0, w0⟩, turn⟩ := q D hDn
  -- the new list
  generalize hs3 : ({ s2 with heap := s2.heap.push { cls := .type "dict", data := .dict #[] } } : Shared) = s3
  have I3 : Inv X pins σ (upd H2 D o0) s3 := by
    rw [← hs3]
    refine I2.laid (t' := s2.toks) (fun b o e => Heap.get?_push_of_some _ e) (Nat.le_of_eq hD) ?_
    rw [← hD]
    rcases ho0 with e | e
    · rw [e]; exact dk_empty s2.heap I2.big
    · rw [e]; exact dt_empty s2.heap I2.big
  have h3 : s3.heap = s2.heap.push { cls := .type "dict", data := .dict #[] } := by rw [← hs3]
  have sz : ∀ b ∈ fp, b < s2.heap.objs.size := fun b hb => by
    obtain ⟨o, e, _⟩ := T.obj _ _ st2 b hb
    exact Heap.lt_size e
  have f3 : ∀ b ∈ fp, FpOk X pins (upd H2 D o0) b ∧ b < s3.heap.objs.size := fun b hb => by
    have hlt := sz b hb
    refine ⟨⟨?_, (f2 b hb).2⟩, by rw [h3, Heap.size_push]; exact Nat.lt_succ_of_lt hlt⟩
    rw [upd_ne (by rw [← hD]; exact Nat.ne_of_lt hlt)]
    exact (f2 b hb).1
  have st3 : tn 0 s3.heap := T.keep _ _ _ st2 fun b _ o e => by rw [h3]; exact Heap.get?_push_of_some _ e
  have I4 := block_start I3 ok hN f3
  have pg := hg s3 (upd H2 D o0) s3.heap.objs.size (cellsFrom (s3.heap.objs.size + 1) scope.names (cloFrom X.env.cells scope.names [])) fp
  have pt := ht s3 (upd H2 D o0) s3.heap.objs.size (cellsFrom (s3.heap.objs.size + 1) scope.names (cloFrom X.env.cells scope.names [])) fp
  have pk := hk s3 (upd H2 D o0) s3.heap.objs.size (cellsFrom (s3.heap.objs.size + 1) scope.names (cloFrom X.env.cells scope.names [])) fp
  have pe := he s3 (upd H2 D o0) s3.heap.objs.size (cellsFrom (s3.heap.objs.size + 1) scope.names (cloFrom X.env.cells scope.names [])) fp
  show codeAny _ _ (.compStart (.DictComp kx vx [⟨tg, iter, ifs, 0⟩] scope pos) 0 (.ref it) (.ref D) (compEnvC scope (cellsFrom (s3.heap.objs.size + 1) scope.names (cloFrom X.env.cells scope.names [])) s3.heap.objs.size X.env)) (compPost (model X.prog X.w) X.A X.xe use Qf (.ref D) s3.heap.objs.size) { s3 with heap := pushCells (s3.heap.push { cls := .type "dict", data := .dict #[] }) scope.names }
  have nfp : ∀ b ∈ fp, (upd H2 D o0) b = none := fun b hb => (f3 b hb).1.1
  generalize hce : compEnvC scope (cellsFrom (s3.heap.objs.size + 1) scope.names (cloFrom X.env.cells scope.names [])) s3.heap.objs.size X.env = ce at I4 pg pt pk pe ⊢
  have cL : ce.locals = s3.heap.objs.size := by subst hce; rfl
  generalize hH3 : upd H2 D o0 = H3 at I3 I4 pg pt pk pe w0 nfp f3
  generalize hs4 : ({ s3 with heap := pushCells (s3.heap.push { cls := .type "dict", data := .dict #[] }) scope.names } : Shared) = s4 at I4 ⊢
  have st4 : tn 0 s4.heap := T.keep _ _ _ st3 fun b _ o e => by rw [← hs4]; exact pushCells_keeps _ _ _ _ (Heap.get?_push_of_some _ e)
  have stat : ∀ {σ' : L2.St} {H' : Hp} {s' : Shared}, Inv (X.blk s3 H3 scope ce fp) [] σ' H' s' → (∀ b ∈ fp, H' b = none) → ∀ b ∈ fp, FpOk (X.blk s3 H3 scope ce fp) [] H' b := fun {σ' H' s'} I' hn b hb =>
    ⟨hn b hb, (I'.ok.exf b hb).1, I'.ok.exfs b hb, .inl hb, fun x c e => (I'.ok.exf b hb).2 x c e, fun p hp => absurd (show p ∈ ([] : List (Addr × Obj)) ++ [] from hp) (by simp)⟩
  have loop : codeAny (model X.prog X.w) X.A (.compLoop (.DictComp kx vx [⟨tg, iter, ifs, 0⟩] scope pos) 0 (.ref it) (.ref D) ce) (compPost (model X.prog X.w) X.A X.xe use Qf (.ref D) s3.heap.objs.size) s4 := by
    refine compLoop_anyD (fun n s' => ∃ i H', Inv (X.blk s3 H3 scope ce fp) [] (wipe σ (own.map (·.2))) H' s' ∧ tn i s'.heap ∧ (∀ b ∈ fp, H' b = none) ∧ W i n H') ?_ m0 ⟨0, H3, I4, st4, nfp, w0⟩
    rintro n s5 ⟨i, H5, I5, st5, n5, w5⟩
    rcases turn i n H5 w5 with ⟨stop, qq⟩ | ⟨go, Nx, hNx, step⟩
    · have td := T.done (X.blk s3 H3 scope ce fp) rfl rfl rfl hc i [] s5 _ H5 (fun _ _ => False) I5 (stat I5 n5) st5 stop
      refine thnF td fun r s6 ⟨hr, I6⟩ => ?_
      subst hr
      -- back in the def's context
      have I7 : Inv X pins σ H5 s6 := I3.call' (ch := fp) I6.os I6.base I6.hok I6.bare fun b hb => ⟨(f3 b hb).1.2.2.2.1, (f3 b hb).1.2.1, (f3 b hb).1.2.2.2.2.1, (f3 b hb).1.2.2.2.2.2⟩
      have nC : H5 s3.heap.objs.size = none := by
        have z : H5 ce.locals = none := I6.free
        rw [cL] at z
        exact z
      obtain ⟨m, hn, _⟩ := I6.loc
      have hn : s6.heap.Ns ce.locals m := hn
      rw [cL] at hn
      exact hRR D s3.heap.objs.size s6 m H5 I7 qq hn (I3.fpOk (Nat.le_refl _) nC)
    · have ti := T.item (X.blk s3 H3 scope ce fp) rfl rfl rfl hc i [] s5 _ H5 (fun _ _ => False) I5 (stat I5 n5) st5 go
      refine thnF ti fun r s6 ⟨u, hr, h6⟩ => ?_
      subst hr
      refine thnF h6 fun _ s7 ⟨x, H7, I7, r7, y7, st7, n7⟩ => ?_
      have I7' := I7.pinned (stat I7 n7) (T.obj _ _ st7)
      refine thnF (pg.run _ s7 _ H7 x u _ I7' r7 (step x H7 y7)) fun _ s8 ⟨σ8, H8, I8, hw8, q8⟩ => ?_
      refine thnF (pt.run _ s8 σ8 H8 _ I8 q8) fun b s9 ⟨H9, I9, q9⟩ => ?_
      -- the turn's end
      have fin : ∀ {s' : Shared} {H' : Hp}, Inv (X.blk s3 H3 scope ce fp) ([] ++ pinsAt fp s7.heap) σ8 H' s' → Nx H' → ∃ m, m < n ∧ ∃ i H', Inv (X.blk s3 H3 scope ce fp) [] (wipe σ (own.map (·.2))) H' s' ∧ tn i s'.heap ∧ (∀ b ∈ fp, H' b = none) ∧ W i m H' := fun {s' H'} I' nx => by
        obtain ⟨m', hm, w'⟩ := hNx H' nx
        have pin' : ∀ b ∈ fp, ∀ o, s7.heap.get? b = some o → s'.heap.get? b = some o ∧ H' b = none := fun b hb o e =>
          let z := I'.pin (b, o) (List.mem_append_right _ (List.mem_append_right _ (mem_pinsAt hb e)))
          ⟨z.1, z.2.1⟩
        have hl : (wipe σ (own.map (·.2))).length = σ8.length := by rw [← hw8, wipe_length]
        refine ⟨m', hm, i + 1, H', (I'.unpinned (pins := [])).weak hl (fun j v e => ?_), T.keep _ _ _ st7 fun b hb o e => (pin' b hb o e).1, fun b hb => ?_, w'⟩
        · rw [← hw8] at e
          exact (wipe_some e).1
        · obtain ⟨o, e, _⟩ := T.obj _ _ st7 b hb
          exact (pin' b hb o e).2
      cases b with
      | false =>
        simp only [Bool.false_eq_true, if_false] at q9 ⊢
        exact fin I9 q9
      | true =>
        simp only [if_true] at q9 ⊢
        refine thnF (pk.run _ s9 σ8 H9 _ I9 q9) fun z s10 ⟨yk, H10, I10, r10, q10⟩ => ?_
        refine thnF (pe.run _ s10 σ8 H10 _ I10 q10) fun z2 s11 ⟨yv, H11, I11, r11, H12, hp, nx⟩ => ?_
        exact d_dictSetG (X := X.blk s3 H3 scope ce fp) hu I11 hp r10 r11 fun s12 I12 => fin I12 nx
  exact codeAny_compStart_dict loop (T.self X.A 0 _ _ _ st4 loop)
/-- as a value -/
theorem pe_dcG {o0 : HO} (ho0 : o0 = .dK [] ∨ o0 = .dT []) (hu : X.A.units + 1 < cLine) {kx vx tg iter : Expr} {ifs : List Expr} {scope : Scope} {own : List (Str × Nat)} {pos : Pos} {wi : L2.TI} {g : L2.TG} {tt : L2.TT} {tk tv : L2.TE} (hc : X.calm = true) (hN : X.N.Nodup) (hi : PI X tg iter wi) (ok : BlkOk X.N X.env.scope scope own)
    (hg : ∀ (s : Shared) (H : Hp) (C : Addr) (cl : List (Str × Addr)) (fp : List Addr), PG (X.blk s H scope (compEnvC scope cl C X.env) fp) tg g) (ht : ∀ (s : Shared) (H : Hp) (C : Addr) (cl : List (Str × Addr)) (fp : List Addr), PTs (X.blk s H scope (compEnvC scope cl C X.env) fp) ifs tt)
    (hk : ∀ (s : Shared) (H : Hp) (C : Addr) (cl : List (Str × Addr)) (fp : List Addr), PE (X.blk s H scope (compEnvC scope cl C X.env) fp) kx tk)
    (he : ∀ (s : Shared) (H : Hp) (C : Addr) (cl : List (Str × Addr)) (fp : List Addr), PE (X.blk s H scope (compEnvC scope cl C X.env) fp) vx tv) (hs : ∀ x, foldedSetIterable iter X.env x = pure x := by intro _; rfl) :
    PE X (.DictComp kx vx [⟨tg, iter, ifs, 0⟩] scope pos) (tDcG o0 wi g tt tk tv (own.map (·.2))) := by
  refine ⟨fun pins s σ H Q I h => ?_⟩
  rw [arm_eval_DictComp]
  refine dcg_core ho0 hu hc hN I hi ok hg ht hk he hs h fun D C s' m H' I' q hn f => ⟨m, hn, fun h'' sb => ?_⟩
  obtain ⟨f0, f1, f2, f3, f4, f5⟩ := f
  exact ⟨.ref D, H', I'.turned (t' := s'.toks) (fun b o hb e => (sb.2 b hb).trans e) f0 f1 f3 f4 f5, rfl, q⟩
end
end AR
end

section
set_option Elab.async false
set_option linter.all false
set_option maxRecDepth 100000
set_option maxHeartbeats 4000000
/-! DL14: dict comprehensions. -/
namespace AR
open PySem PySem.Spec PyProof.Rows L2
/-- a kind of dict -/
structure DKd (κ : Type) [DecidableEq κ] [KOk κ] where
  pk : D → Option κ
  cl : List (κ × D) → Cl
  mkV : List (κ × V) → HO
  nfx : ∀ vs, ¬ Fx (mkV vs)
  inj : ∀ {vs ws}, mkV vs = mkV ws → vs = ws
  cell : ∀ {W : Wd} {H : Hp} {a : Addr} {kvs vs}, H a = some (mkV vs) → RepKV W H kvs vs → RepC W H a (cl kvs)
  put : ∀ {W : Wd} {H : Hp} {a : Addr} {kvs : List (κ × V)} {dk : D} {vk v : V} {k : κ}, pk dk = some k → Rep W H dk vk → H a = some (mkV kvs) → kvs.length < sizeLine → DPut H a vk v (upd H a (mkV (putK kvs k v))) ∧ KOk.ok k
def kdK : DKd Ky where
  pk := kyD
  cl := .dK
  mkV := .dK
  nfx := fun _ z => z
  inj := fun h => by cases h; rfl
  cell := fun e r => ⟨_, e, r⟩
  put := fun {W H a kvs dk vk v k} e r ea hl => by
    rw [kyD_ok r e]
    refine ⟨.k ea hl, ?_⟩
    cases k with
    | inl _ => trivial
    | inr x => cases r <;> cases e; assumption
def kdT : DKd (List Ky) where
  pk := kysT
  cl := .dT
  mkV := .dT
  nfx := fun _ z => z
  inj := fun h => by cases h; rfl
  cell := fun e r => ⟨_, e, r⟩
  put := fun {W H a kvs dk vk v k} e r ea hl => by
    cases dk with
    | tup ds =>
      cases r with
      | tup e3 q3 =>
        have e : kysD ds = some k := e
        have ok : KOk.ok k := kysD_strOk q3 e
        rw [kysD_ok q3 e] at e3
        exact ⟨.t ea e3 hl, ok⟩
    | _ => cases e
section
variable {X : Cx} {C : Ctx} {Wx : WX} {κ : Type} [DecidableEq κ] [KOk κ]
theorem growK {K : DKd κ} {W : Wd} {h : Hd} {H : Hp} {Dp : Addr} {vs : List (κ × V)} {ds : List (κ × D)} {v : V} {d : D} {k : κ} (rh : RepH W h H) (n : h Dp = none) (e : H Dp = some (K.mkV vs)) (r : RepKV W H ds vs) (ok : KOk.ok k) (q : Rep W H d v) :
    RepH W h (upd H Dp (K.mkV (putK vs k v))) ∧ RepKV W (upd H Dp (K.mkV (putK vs k v))) (putD ds k d) (putK vs k v) := by
  have fx := fx_set (H := H) (o := K.mkV (putK vs k v)) e (K.nfx vs)
  refine ⟨fun a c e2 => ?_, (r.put ok q).mono fx⟩
  have ne : a ≠ Dp := fun z => by rw [z, n] at e2; cases e2
  exact (rh a c e2).mono fx (upd_ne ne)
theorem putD_length {kvs : List (κ × D)} {k : κ} {v : D} : (putD kvs k v).length ≤ kvs.length + 1 := by
  unfold putD
  split
  · simp
  · simp
theorem dc_turns (K : DKd κ) {W : Wd} {g : Tg} {c : Oe} {k e : E} {own : List Nat} {G : Hd → Prop} {J : L2.It} {ds : List D} {σ : Sg} {τ : L2.St} {h1 : Hd} {H1 : Hp} {Q : List (κ × D) → Hd → Prop} {QV : VK} {Dp : Addr}
    (hids : ∀ i ∈ g.ids, i ∈ own) (rs : RepS W H1 σ τ) (rh : RepH W h1 H1) (hlen : ds.length ≤ big) (wk : Walk W J ds G h1 H1) (np : H1 Dp = none)
    (q : dcL K.pk G g (wipeD σ own) (fun σ h R => wpC bt C c X0 σ h R) (fun σ h R => wpE bt C k X0 σ h fun r h' => place r h' R) (fun σ h R => wpE bt C e X0 σ h fun r h' => place r h' R) ds [] h1 Q)
    (kk : ∀ acc h H vs, Fr h1 H1 h H → RepH W h H → h Dp = none → H Dp = some (K.mkV vs) → RepKV W H acc vs → Q acc h → QV (.ref Dp) H) :
    ∃ Wt : Nat → Nat → Hp → Prop, (∃ m, Wt 0 m (upd H1 Dp (K.mkV []))) ∧ ∀ i m H, Wt i m H → (J.stop i H ∧ QV (.ref Dp) H) ∨ (J.go i H ∧ ∃ Nx : Hp → Prop, (∀ H', Nx H' → ∃ m', m' < m ∧ Wt (i + 1) m' H') ∧
      ∀ x H', J.yld i H x H' → TGd W g x (L2.wipe τ own) H' fun τ2 H2 => L2.wipe τ2 own = L2.wipe τ own ∧ TCd W C Wx0 c τ2 H2 fun b H3 =>
        if b = true then TE W C Wx0 k τ2 H3 fun y H4 => TE W C Wx0 e τ2 H4 fun z H5 => ∃ H6, DPut H5 Dp y z H6 ∧ Nx H6 else Nx H3) := by
  refine ⟨fun i m H => m = ds.length - i ∧ i ≤ ds.length ∧ ∃ h acc vs, Fr h1 H1 h H ∧ RepH W h H ∧ h Dp = none ∧ H Dp = some (K.mkV vs) ∧ RepKV W H acc vs ∧ acc.length ≤ i ∧
      dcL K.pk G g (wipeD σ own) (fun σ h R => wpC bt C c X0 σ h R) (fun σ h R => wpE bt C k X0 σ h fun r h' => place r h' R) (fun σ h R => wpE bt C e X0 σ h fun r h' => place r h' R) (ds.drop i) acc h Q,
    ⟨ds.length, by simp, Nat.zero_le _, h1, [], [], Fr.refl.aside (W := W) np, rh.new np, rh.free np, upd_same, .nil, Nat.le_refl _, by simpa using q⟩, ?_⟩
  rintro i m H ⟨rfl, hi, h, acc, vs, f, rh2, nD, eD, ra, la, q2⟩
  by_cases hlt : i < ds.length
  · obtain ⟨d, ed⟩ := getE (l := ds) (i := i) hlt
    have e0 : ds.drop i = d :: ds.drop (i + 1) := by
      rw [List.drop_eq_getElem_cons hlt]
      rw [List.getElem?_eq_getElem hlt] at ed
      cases ed
      rfl
    rw [e0] at q2
    unfold dcL at q2
    obtain ⟨g2, q2⟩ := q2
    refine .inr ⟨wk.go i h H hlt f rh2 g2, fun H' => ∃ h acc vs, Fr h1 H1 h H' ∧ RepH W h H' ∧ h Dp = none ∧ H' Dp = some (K.mkV vs) ∧ RepKV W H' acc vs ∧ acc.length ≤ i + 1 ∧
      dcL K.pk G g (wipeD σ own) (fun σ h R => wpC bt C c X0 σ h R) (fun σ h R => wpE bt C k X0 σ h fun r h' => place r h' R) (fun σ h R => wpE bt C e X0 σ h fun r h' => place r h' R) (ds.drop (i + 1)) acc h Q,
      fun H' z => ⟨ds.length - (i + 1), by omega, rfl, hlt, z⟩, fun x H3 y => ?_⟩
    obtain ⟨d', ed', f3, rh3, rx⟩ := wk.yld i h H x H3 hlt f rh2 g2 y
    rw [ed] at ed'
    cases ed'
    split at q2
    · rename_i σ3 e3
      refine ⟨d, wipeD σ own, σ3, rx, (rs.wipe own).mono ((f.trans f3).fx rh), e3, fun τ3 sb rs3 => ⟨(sb own hids).trans wipe_wipe, ?_⟩⟩
      refine ⟨σ3, h, X0, _, at0 rs3 rh3, q2, fun b h4 H4 f4 rh4 q4 => ?_⟩
      have fx34 := (f3.trans f4).fx rh2
      obtain ⟨eD4, nD4⟩ := (f3.trans f4).st Dp _ nD eD
      cases b with
      | true =>
        rw [ifB_t] at q4
        simp only [↓reduceIte]
        have rs4 : RepS W H4 σ3 τ3 := rs3.mono (f4.fx rh3)
        refine oneV (at0 rs4 rh4) q4 fun d5 h5 v5 H5 f5 rh5 r5 q5 => oneV (at0 (rs4.mono (f5.fx rh4)) rh5) q5 fun d6 h6 v6 H6 f6 rh6 r6 q6 => ?_
        split at q6
        · rename_i kz ez
          obtain ⟨h7, u7, q7⟩ := q6
          obtain ⟨eD6, nD6⟩ := (f5.trans f6).st Dp _ nD4 eD4
          have ra6 : RepKV W H6 acc vs := ra.mono ((((f3.trans f4).trans f5).trans f6).fx rh2)
          have lv : vs.length < sizeLine := by
            rw [← ra.length]
            exact big_lt (by omega)
          obtain ⟨dp, ok⟩ := K.put (v := v6) ez (r5.mono (f6.fx rh5)) eD6 lv
          obtain ⟨rh8, ra8⟩ := growK (K := K) rh6 nD6 eD6 ra6 ok r6
          have nD7 : h7 Dp = none := by
            cases z : h7 Dp with
            | none => rfl
            | some c => rw [u7 _ c z] at nD6; cases nD6
          refine ⟨_, dp, h7, putD acc kz d6, _, ?_, rh8.sub u7, nD7, upd_same, ra8, ?_, q7⟩
          · exact (((((f.trans f3).trans f4).trans f5).trans f6).aside (W := W) np).sub u7
          · exact Nat.le_trans putD_length (by omega)
        · exact q6.elim
      | false =>
        rw [ifB_f] at q4
        simp only [Bool.false_eq_true, ↓reduceIte]
        obtain ⟨h6, u6, q6⟩ := q4
        have nD6 : h6 Dp = none := by
          cases z : h6 Dp with
          | none => rfl
          | some c => rw [u6 _ c z] at nD4; cases nD4
        exact ⟨h6, acc, vs, ((f.trans f3).trans f4).sub u6, rh4.sub u6, nD6, eD4, ra.mono fx34, by omega, q6⟩
    · exact q2.elim
  · have e1 : i = ds.length := by omega
    subst e1
    rw [List.drop_length] at q2
    unfold dcL at q2
    exact .inl ⟨wk.stop h H f rh2 q2.1, kk acc h H vs f rh2 nD eD ra q2.2⟩
theorem dc_fin (K : DKd κ) {W : Wd} {h h1 h2 : Hd} {H H1 H2 : Hp} {acc : List (κ × D)} {vs : List (κ × V)} {Dp : Addr} {Q : Qr} {QV : VK} (f : Fr h H h1 H1) (f2 : Fr h1 H1 h2 H2) (np : H1 Dp = none) (rh2 : RepH W h2 H2) (nD : h2 Dp = none) (eD : H2 Dp = some (K.mkV vs)) (ra : RepKV W H2 acc vs)
    (q : ∀ p, h2 p = none → Q (.val (.ref p)) (hup h2 p (K.cl acc))) (k : ∀ r h' v H', Fr h H h' H' → RepH W h' H' → RepR W H h' H' r v → Q r h' → QV v H') : QV (.ref Dp) H2 := by
  refine k (.val (.ref Dp)) (hup h2 Dp (K.cl acc)) (.ref Dp) H2 ⟨fun a o e1 e2 => ?_, (f.trans f2).th⟩ (rh2.hold (K.cell eD ra)) (Rep.ref Dp) (q Dp nD)
  obtain ⟨g1, g2⟩ := (f.trans f2).st a o e1 e2
  refine ⟨g1, ?_⟩
  rw [hup_ne]
  · exact g2
  · intro z
    obtain ⟨o', e3⟩ := f.th a o e2
    rw [z, np] at e3
    cases e3
theorem dc_imp {t : Bool} {g : Tg} {it : It} {c : Oe} {k e : E} {own : List Nat} (hids : ∀ i ∈ g.ids, i ∈ own) : ∀ (τ : L2.St) (H : Hp) (QV : VK), TE (wd X) C Wx (.dc t k e g it c own) τ H QV →
    tDcG (if t = true then .dT [] else .dK []) (TIt (wd X) C Wx it) (TGd (wd X) g) (TCd (wd X) C Wx0 c) (TE (wd X) C Wx0 k) (TE (wd X) C Wx0 e) own τ H QV := by
  rintro τ H QV ⟨σ, h, Xd, Q, at_, hw, kk⟩
  refine ⟨σ, h, Xd, _, at_, hw, fun ds G h1 J H1 f rh wk q => fun Dp np => ?_⟩
  obtain ⟨hlen, q⟩ := q
  cases t with
  | true => exact dc_turns kdT hids (at_.s.mono (f.fx at_.hh)) rh hlen wk np q fun acc h2 H2 vs f2 rh2 nD eD ra q2 => dc_fin kdT f f2 np rh2 nD eD ra q2 kk
  | false => exact dc_turns kdK hids (at_.s.mono (f.fx at_.hh)) rh hlen wk np q fun acc h2 H2 vs f2 rh2 nD eD ra q2 => dc_fin kdK f f2 np rh2 nD eD ra q2 kk
theorem je_dc (hc : X.calm = true) (hu : RoomE X) (hN : X.N.Nodup) {t : Bool} {g : Tg} {it : It} {c : Oe} {k e : E} {ka elt ta ia : Expr} {ifs : List Expr} {scope : Scope} {own : List (Str × Nat)} {pos : Pos} (hids : ∀ i ∈ g.ids, i ∈ own.map (·.2)) (hf : foldSet ia = true) (hi : PI X ta ia (TIt (wd X) C Wx it)) (ok : BlkOk X.N X.env.scope scope own)
    (hg : ∀ (s : Shared) (H : Hp) (C' : Addr) (cl : List (Str × Addr)) (fp : List Addr), PG (X.blk s H scope (compEnvC scope cl C' X.env) fp) ta (TGd (wd X) g))
    (ht : ∀ (s : Shared) (H : Hp) (C' : Addr) (cl : List (Str × Addr)) (fp : List Addr), PTs (X.blk s H scope (compEnvC scope cl C' X.env) fp) ifs (TCd (wd X) C Wx0 c))
    (hk : ∀ (s : Shared) (H : Hp) (C' : Addr) (cl : List (Str × Addr)) (fp : List Addr), PE (X.blk s H scope (compEnvC scope cl C' X.env) fp) ka (TE (wd X) C Wx0 k))
    (he : ∀ (s : Shared) (H : Hp) (C' : Addr) (cl : List (Str × Addr)) (fp : List Addr), PE (X.blk s H scope (compEnvC scope cl C' X.env) fp) elt (TE (wd X) C Wx0 e)) :
    PE X (.DictComp ka elt [⟨ta, ia, ifs, 0⟩] scope pos) (TE (wd X) C Wx (.dc t k e g it c (own.map (·.2)))) :=
  PE.imp (pe_dcG (o0 := if t = true then .dT [] else .dK []) (by cases t <;> simp) (by unfold RoomE at hu; omega) hc hN hi ok hg ht hk he (fun x => fold_ok hf x)) (dc_imp hids)
end
end AR
end

section
set_option Elab.async false
set_option linter.all false
set_option maxRecDepth 100000
set_option maxHeartbeats 4000000
/-! DL15: a comprehension stored under a name. -/
namespace AR
open PySem PySem.Spec PyProof.Rows L2
section
variable {X : Cx} {C : Ctx} {Wx : WX}
theorem js_setF (hS : StOk X) {i : Nat} {x : Str} {e : E} {ea : Expr} {pos pos' : Pos} (hN : X.N.Nodup) (hi : X.N[i]? = some x) (hx : Loc X.env.scope x) (hsw : swapsWith ea (some (.Name x pos')) pos.line X.env = pure false) (he : PE X ea (TE (wd X) C Wx e)) : PS X (.Assign [.Name x pos'] ea pos) (TS1 (wd X) C Wx (.asg (.name i) e)) :=
  PS.imp (ps_set hN hi hx he hsw (st_fn hS hx)) fun Dv τ H ⟨σ, h, Xd, D, at_, hw, k⟩ => oneV at_ hw fun d h1 v H1 f rh r p => by
    have p : wpTt bt C (.name i) d Xd σ h1 D.nx := p
    unfold wpTt at p
    exact k.nx _ h1 _ H1 f rh ((at_.s.mono (f.fx at_.hh)).set r) p
/-- which of the two ways a comprehension is stored -/
def swB (sc scope : Scope) (y : Str) (pl el : Nat) : Bool := (match sc.names.lookup y with | some .local => true | _ => false) && (pl == el) && !(scope.names.any fun (n, k) => n == y && (k == .local || k == .cell))
theorem sw_lc {elt : Expr} {gs : List Comprehension} {scope : Scope} {pos py : Pos} {y : Str} {l : Nat} {env : Env} (hk : env.scope.kind = .function) : swapsWith (.ListComp elt gs scope pos) (some (.Name y py)) l env = pure (swB env.scope scope y py.line pos.line) := by
  have hb : env.blockKind = .function := by unfold Env.blockKind; rw [hk]; rfl
  unfold swapsWith swB
  simp only [hb, Expr.pos]
  unfold Env.kindOf
  cases env.scope.names.lookup y with
  | none => rfl
  | some k => cases k <;> rfl
theorem sw_dc {ka elt : Expr} {gs : List Comprehension} {scope : Scope} {pos py : Pos} {y : Str} {l : Nat} {env : Env} (hk : env.scope.kind = .function) : swapsWith (.DictComp ka elt gs scope pos) (some (.Name y py)) l env = pure (swB env.scope scope y py.line pos.line) := by
  have hb : env.blockKind = .function := by unfold Env.blockKind; rw [hk]; rfl
  unfold swapsWith swB
  simp only [hb, Expr.pos]
  unfold Env.kindOf
  cases env.scope.names.lookup y with
  | none => rfl
  | some k => cases k <;> rfl
theorem swB_loc {sc scope : Scope} {y : Str} {a b : Nat} (h : swB sc scope y a b = true) : sc.names.lookup y = some .local := by
  unfold swB at h
  simp only [Bool.and_eq_true] at h
  have h := h.1.1
  split at h
  · assumption
  · cases h
theorem js_setDc (hc : X.calm = true) (hu : RoomE X) (hN : X.N.Nodup) {i : Nat} {y : Str} {py : Pos} {t : Bool} {g : Tg} {it : It} {c : Oe} {k e : E} {ka elt ta ia : Expr} {ifs : List Expr} {scope : Scope} {own : List (Str × Nat)} {pos spos : Pos} (hy : X.N[i]? = some y) (hyl : X.env.scope.names.lookup y = some .local)
    (hsw : swapsWith (.DictComp ka elt [⟨ta, ia, ifs, 0⟩] scope pos) (some (.Name y py)) spos.line X.env = pure true) (hids : ∀ i ∈ g.ids, i ∈ own.map (·.2)) (hf : foldSet ia = true) (hi : PI X ta ia (TIt (wd X) C Wx it)) (ok : BlkOk X.N X.env.scope scope own)
    (hg : ∀ (s : Shared) (H : Hp) (C' : Addr) (cl : List (Str × Addr)) (fp : List Addr), PG (X.blk s H scope (compEnvC scope cl C' X.env) fp) ta (TGd (wd X) g))
    (ht : ∀ (s : Shared) (H : Hp) (C' : Addr) (cl : List (Str × Addr)) (fp : List Addr), PTs (X.blk s H scope (compEnvC scope cl C' X.env) fp) ifs (TCd (wd X) C Wx0 c))
    (hk : ∀ (s : Shared) (H : Hp) (C' : Addr) (cl : List (Str × Addr)) (fp : List Addr), PE (X.blk s H scope (compEnvC scope cl C' X.env) fp) ka (TE (wd X) C Wx0 k))
    (he : ∀ (s : Shared) (H : Hp) (C' : Addr) (cl : List (Str × Addr)) (fp : List Addr), PE (X.blk s H scope (compEnvC scope cl C' X.env) fp) elt (TE (wd X) C Wx0 e)) :
    PS X (.Assign [.Name y py] (.DictComp ka elt [⟨ta, ia, ifs, 0⟩] scope pos) spos) (TS1 (wd X) C Wx (.asg (.name i) (.dc t k e g it c (own.map (·.2))))) := by
  refine ⟨fun pins s τ H Dv I z => ?_⟩
  obtain ⟨σ, h, Xd, D, at_, hw, kk⟩ := z
  have hq := dc_imp (X := X) (C := C) (Wx := Wx) (t := t) (it := it) (c := c) (k := k) (e := e) hids τ H (fun x H1 => gName i x τ H1 Dv.nx) (oneV at_ hw fun d h1 v H1 f rh r p => by
    have p : wpTt bt C (.name i) d Xd σ h1 D.nx := p
    unfold wpTt at p
    exact kk.nx _ h1 _ H1 f rh ((at_.s.mono (f.fx at_.hh)).set r) p)
  rw [exec_Assign_Name_used _ _ _ _ hsw]
  refine wpAny_bind (wpAny_standAt (wpAny_bind ?_))
  show wpAny _ X.A (do let _ ← comprehension (.DictComp ka elt [⟨ta, ia, ifs, 0⟩] scope pos) scope X.env (firstIterPos [⟨ta, ia, ifs, 0⟩] pos) newDict false (eval ia X.env) (some (assign (.Name y py) X.env))) _ _ s
  refine wpAny_bind (thn (dcg_core (o0 := if t = true then .dT [] else .dK []) (by cases t <;> simp) (by unfold RoomE at hu; omega) (Qf := fun _ s' => SP X pins Dv .next s') hc hN I hi ok hg ht hk he (fun x => fold_ok hf x) hq fun L C' s' m H' I' q hn f => ?_) fun _ s' hq => wpAny_pure (wpAny_pure hq))
  show wpAny _ _ (assign (.Name y py) X.env (.ref L)) _ _ _
  refine wpAny_assign_Name (store_ok2 (v := V.ref L) I' hN hy (.inl hyl) rfl (fun s2 I2 ⟨a, sb, ha⟩ => ?_) (.inr hyl))
  obtain ⟨f0, f1, f2, f3, f4, f5⟩ := f
  have haC : C' ≠ a := by
    rcases ha with z | z
    · rw [z]; exact f1
    · exact fun e => f4 y a z e.symm
  exact ⟨m, hn.sameBut sb haC, fun h3 sb3 => ⟨_, H', I2.turned (t' := s2.toks) (fun b o hb e => (sb3.2 b hb).trans e) f0 f1 f3 f4 f5, q⟩⟩
end
end AR
end

section
set_option Elab.async false
set_option linter.all false
set_option maxRecDepth 100000
set_option maxHeartbeats 4000000
/-! DLE: enumerate and zip over lists, tuples, texts. -/
namespace AR
open PySem PySem.Spec PyProof.Rows L2
/-- a value that is drawn from -/
structure SeqV (K : PySem.W.Frag) (u : Value) where
  o : Obj
  itAt : Addr → Nat → Heap → Prop
  fpx : List Addr
  its : Hp → List V → Prop
  Hc0 : Heap → Prop
  beg : Begins u o Hc0
  begOk : ∀ {X : Cx} {pins σ H s xs}, X.K = K → L2.Inv X pins σ H s → its H xs → Hc0 s.heap
  start : ∀ {h : Heap} {it : Addr}, h.get? it = some o → itAt it 0 h
  obj : ∀ {h : Heap} {it : Addr} {i : Nat}, itAt it i h → ∃ ob, h.get? it = some ob ∧ ∀ v, ob.data ≠ .cell v
  keep : ∀ {h h' : Heap} {it : Addr} {i : Nat}, itAt it i h → (∀ o, h.get? it = some o → h'.get? it = some o) → itAt it i h'
  inj : ∀ {X : Cx} {pins σ H s xs ys}, X.K = K → L2.Inv X pins σ H s → its H xs → its H ys → xs = ys
  draws : ∀ {X : Cx} {pins σ H s xs}, X.K = K → L2.Inv X pins σ H s → its H xs → ∃ Hc : Heap → Prop, Hc s.heap ∧ ∀ (A : Around) (it : Addr), A.handled = none → it ∉ fpx →
    Draws X.prog X.w A it (it :: fpx) xs.length (fun i v => ∃ x, xs[i]? = some x ∧ RelV x v) (fun i h => itAt it i h ∧ Hc h)
  lt : ∀ {X : Cx} {pins σ H s xs}, X.K = K → L2.Inv X pins σ H s → its H xs → ∀ b ∈ fpx, b < s.heap.objs.size
theorem Draws.imp {prog : Program} {w : World} {A : Around} {it : Addr} {fp : List Addr} {n m : Nat} {P P' : Nat → Value → Prop} {St : Nat → Heap → Prop} (D : Draws prog w A it fp n P St) (e : n = m) (h : ∀ i v, P i v → P' i v) : Draws prog w A it fp m P' St := by
  subst e
  exact ⟨D.live, D.frame, fun i s Q E hi st k => D.item i s Q E hi st fun x h' tk p => k x h' tk (h i x p), D.done⟩
def seqList (K : PySem.W.Frag) (a : Addr) : SeqV K (.ref a) where
  o := { cls := .type "list_iterator", data := .fields #[.ref a, .int 0 0] }
  itAt := fun it i h => h.IsListIter it a i
  fpx := [a]
  its := fun H xs => SqL K H a xs
  Hc0 := fun h => ∃ items, h.IsList a items
  beg := ⟨fun prog w A E s Q ⟨items, hl⟩ h => (begins_list a items).iter prog w A E s Q hl h, fun h h' ⟨items, x⟩ hk => ⟨items, (begins_list a items).keeps h h' x hk⟩, rfl⟩
  begOk := fun {X pins σ H s xs} e I h => by
    subst e
    obtain ⟨its, rv, p, hz⟩ := I.list h
    exact ⟨_, p.isList⟩
  start := fun {h it} e => ⟨_, e, rfl, rfl⟩
  obj := fun {h it i} st => by
    obtain ⟨o, e, c, d⟩ := st
    exact ⟨o, e, fun v z => by rw [d] at z; cases z⟩
  keep := fun st k => st.at fun o e => k o e
  inj := fun {X pins σ H s xs ys} e I h1 h2 => by subst e; exact I.list_inj h1 h2
  draws := fun {X pins σ H s xs} e I h => by
    subst e
    obtain ⟨its, rv, p, hz⟩ := I.list h
    refine ⟨fun h => h.IsList a its.toArray, p.isList, fun A it hh hne => ?_⟩
    refine Draws.imp (Draws.list hh it a (fun z => hne (by simp [z])) its.toArray) (by simp [rv.length]) fun i v e => ?_
    have e' : its[i]? = some v := by simpa using e
    obtain ⟨x, ex⟩ : ∃ x, xs[i]? = some x := by
      have hl := (List.getElem?_eq_some_iff.mp e').1
      exact getE (by rw [rv.length]; exact hl)
    obtain ⟨u, e2, r⟩ := rv.get ex
    rw [e'] at e2
    cases e2
    exact ⟨x, ex, r⟩
  lt := fun {X pins σ H s xs} e I h b hb => by
    subst e
    obtain ⟨its, rv, p, hz⟩ := I.list h
    have : b = a := by simpa using hb
    subst this
    exact p.lt
def seqTup (K : PySem.W.Frag) (a : Addr) : SeqV K (.ref a) where
  o := { cls := .type "tuple_iterator", data := .fields #[.ref a, .int 0 0] }
  itAt := fun it i h => h.IsTupleIter it a i
  fpx := [a]
  its := fun H xs => SqT K H a xs
  Hc0 := fun h => ∃ items, h.IsTuple a items
  beg := ⟨fun prog w A E s Q ⟨items, hl⟩ h => (begins_tuple a items).iter prog w A E s Q hl h, fun h h' ⟨items, x⟩ hk => ⟨items, (begins_tuple a items).keeps h h' x hk⟩, rfl⟩
  begOk := fun {X pins σ H s xs} e I h => by
    subst e
    obtain ⟨its, rv, p, hz⟩ := I.tuple h
    exact ⟨_, p⟩
  start := fun {h it} e => ⟨_, e, rfl, rfl⟩
  obj := fun {h it i} st => by
    obtain ⟨o, e, c, d⟩ := st
    exact ⟨o, e, fun v z => by rw [d] at z; cases z⟩
  keep := fun st k => st.at fun o e => k o e
  inj := fun {X pins σ H s xs ys} e I h1 h2 => by subst e; exact I.tuple_inj h1 h2
  draws := fun {X pins σ H s xs} e I h => by
    subst e
    obtain ⟨its, rv, p, hz⟩ := I.tuple h
    refine ⟨fun h => h.IsTuple a its.toArray, p, fun A it hh hne => ?_⟩
    refine Draws.imp (Draws.tuple hh it a (fun z => hne (by simp [z])) its.toArray) (by simp [rv.length]) fun i v e => ?_
    have e' : its[i]? = some v := by simpa using e
    obtain ⟨x, ex⟩ : ∃ x, xs[i]? = some x := by
      have hl := (List.getElem?_eq_some_iff.mp e').1
      exact getE (by rw [rv.length]; exact hl)
    obtain ⟨u, e2, r⟩ := rv.get ex
    rw [e'] at e2
    cases e2
    exact ⟨x, ex, r⟩
  lt := fun {X pins σ H s xs} e I h b hb => by
    subst e
    obtain ⟨its, rv, p, hz⟩ := I.tuple h
    have : b = a := by simpa using hb
    subst this
    exact p.lt
def seqText (K : PySem.W.Frag) (x : Str) (t : Tok) : SeqV K (.str x t) where
  o := { cls := .type (strIterType x), data := .fields #[.str x t, .int 0 0] }
  itAt := fun it i h => h.IsStrIter it (strIterType x) x t i
  fpx := []
  its := fun H xs => xs = x.cps.toList.map fun c => V.str ⟨#[c]⟩
  Hc0 := fun _ => True
  beg := begins_text x t
  begOk := fun _ _ _ => trivial
  start := fun {h it} e => ⟨_, e, rfl, rfl⟩
  obj := fun {h it i} st => by
    obtain ⟨o, e, c, d⟩ := st
    exact ⟨o, e, fun v z => by rw [d] at z; cases z⟩
  keep := fun st k => let ⟨o, e, r⟩ := st; ⟨o, k o e, r⟩
  inj := fun _ _ h1 h2 => h1.trans h2.symm
  draws := fun {X pins σ H s xs} e I h => by
    subst h
    refine ⟨fun _ => True, trivial, fun A it hh hne => ?_⟩
    have D := Draws.imp (P' := fun i v => ∃ y, (x.cps.toList.map fun c => V.str ⟨#[c]⟩)[i]? = some y ∧ RelV y v) (Draws.text (prog := X.prog) (w := X.w) hh it x t) (m := (x.cps.toList.map fun c => V.str ⟨#[c]⟩).length) (by simp) fun i v ⟨c, u, e1, e2⟩ => ⟨.str ⟨#[c]⟩, by rw [List.getElem?_map, Array.getElem?_toList, e1]; rfl, u, e2⟩
    exact ⟨fun i h st => D.live i h st.1, fun i h h' st k => ⟨D.frame i h h' st.1 k, trivial⟩, fun i s Q E hi st k => D.item i s Q E hi st.1 fun y h' tk p s1 => k y h' tk p ⟨s1, trivial⟩, fun s Q E st k => D.done s Q E st.1 k⟩
  lt := fun _ _ _ b hb => absurd hb (by simp)
end AR
end

section
set_option Elab.async false
set_option linter.all false
set_option maxRecDepth 100000
set_option maxHeartbeats 4000000
/-! DLE2: enumerate over what is drawn from. -/
namespace AR
open PySem PySem.Spec PyProof.Rows L2
theorem meets_enum1 {v : Value} {o : Obj} {H : Heap → Prop} (B : Begins v o H) :
    Meets (Builtin.«enumerate.__new__» ⟨[.type "enumerate", v], []⟩) (fun _ R s => H s.heap ∧
      R (.ok (.ret (.ref (s.heap.push o).objs.size))) { s with heap := (s.heap.push o).push { cls := .type "enumerate", data := .fields #[.none, .bool false, .ref s.heap.objs.size, rawInt 0, .none, .none] } }) :=
  .of_wp fun prog w A R s h => by
    obtain ⟨hp, g, d, tk, os⟩ := s; obtain ⟨h1, h⟩ := h
    have hsub := sub_enumerate
    have q1 : ∀ {A' : Around} {E : Value → Shared → Prop} {Q : Value → Shared → Prop}, Q (.ref hp.objs.size) ⟨hp.push o, g, d, tk, os⟩ → wpAny (model prog w) A' (pyIter v) Q E ⟨hp, g, d, tk, os⟩ :=
      fun q => B.iter prog w _ _ ⟨hp, g, d, tk, os⟩ _ h1 q
    wp_walk using q1
    refine wpAny_stack_any fun st => wpAny_pure ?_
    split
    · rename_i c _ _ _ _ _
      cases (c == Value.type "enumerate")
      · wp_walk using q1
        exact ⟨_, rfl, h⟩
      · wp_walk using q1
        exact ⟨_, rfl, h⟩
    · wp_walk using q1
      exact ⟨_, rfl, h⟩
theorem enum1 {prog : Program} {w : World} {A : Around} {E : Value → Shared → Prop} {s : Shared} {v : Value} {o : Obj} {H : Heap → Prop} {Q : Value → Shared → Prop} (B : Begins v o H) (h1 : H s.heap)
    (h : ∀ h', IsEnum h' (s.heap.objs.size + 1) s.heap.objs.size 0 .none → h'.get? s.heap.objs.size = some o → (∀ b o, s.heap.get? b = some o → h'.get? b = some o) → Q (.ref (s.heap.objs.size + 1)) { s with heap := h' }) :
    wpAny (model prog w) A (call (.type "enumerate") [v]) Q E s := by
  refine callType_new F.called_enumerate (by decide) (F.typeCall_enumerate_1 _) (F.newCall_enumerate_1 _) (fun obj => F.args_object_init_2 obj _) F.entry_enumerate_new
    (meets_enum1 B) ⟨h1, ?_⟩
  have hz : (s.heap.push o).objs.size = s.heap.objs.size + 1 := Heap.size_push ..
  show _ ∧ _
  rw [hz]
  have he := Heap.get?_push_size (s.heap.push o) (o := { cls := .type "enumerate", data := .fields #[.none, .bool false, .ref s.heap.objs.size, rawInt 0, .none, .none] }) rfl
  rw [hz] at he
  exact ⟨⟨_, he, rfl⟩, h _ he (Heap.get?_push_of_some _ (Heap.get?_push_size _ B.free)) fun b o x => Heap.get?_push_of_some _ (Heap.get?_push_of_some _ x)⟩
/-- pairs of a number and an item -/
def ItE (its : Hp → List V → Prop) : L2.It :=
  ⟨fun i H => ∃ xs x, its H xs ∧ xs[i]? = some x, fun i H v H' => ∃ T x, v = .ref T ∧ H T = none ∧ H' = upd H T (.tup [.int (i : Nat), x]) ∧ ∀ xs, its H xs → xs[i]? = some x, fun i H => ∃ xs, its H xs ∧ xs.length = i⟩
theorem turn_enumG {P : Program} {w : World} {K : PySem.W.Frag} {u : Value} (S : SeqV K u) {elts : List Expr} {kk : Nat} {tpos : Pos} (e it : Addr) (hne : e ≠ it) (h1 : e ∉ S.fpx) (h2 : it ∉ S.fpx) :
    Turn P w K (.Tuple elts kk tpos) (ItE S.its) [e, it] e (fun i h => (∃ old, IsEnum h e it ((i : Nat) : Int) old) ∧ S.itAt it i h) where
  mem := by simp
  obj := fun i h st b hb => by
    obtain ⟨⟨old, he⟩, hi⟩ := st
    rcases (by simpa using hb : b = e ∨ b = it) with z | z
    · rw [z]; exact ⟨_, he, fun v q => nomatch q⟩
    · rw [z]; exact S.obj hi
  keep := fun i h h' st k => let ⟨⟨old, he⟩, hi⟩ := st; ⟨⟨old, k e (by simp) _ he⟩, S.keep hi (k it (by simp))⟩
  item := by
    intro X hP hw hK hc i pins s σ H E I hf st hg
    subst hP hw
    obtain ⟨⟨old, he⟩, hit⟩ := st
    obtain ⟨xs, x, hq, hx⟩ := hg
    obtain ⟨Hc, hc0, D⟩ := S.draws hK I hq
    have hlt : i < xs.length := (List.getElem?_eq_some_iff.mp hx).1
    have hel : e < s.heap.objs.size := Heap.lt_size he
    have hil : it < s.heap.objs.size := by obtain ⟨ob, q, _⟩ := S.obj hit; exact Heap.lt_size q
    have hef : e ∉ it :: S.fpx := fun z => by
      rcases List.mem_cons.mp z with z | z
      · exact hne z
      · exact h1 z
    refine wpAny_pyNext_enum_itemD (D X.A.in1 it (I.ok.hd hc) h2) he ⟨hit, hc0⟩ hlt hne hef fun y h' tk hy ho hst hT hsz hk => ?_
    obtain ⟨x', ex', ry⟩ := hy
    rw [hx] at ex'
    cases ex'
    refine ⟨_, rfl, wpAny_letOwnedTupleGo_enum (s := { s with heap := h', toks := tk + 1 }) ho fun h'' he' sb => ?_⟩
    have hT2 : h''.get? s.heap.objs.size = some { cls := .type "tuple", data := .seq #[.int i tk, y] } := (sb.2 _ (Nat.ne_of_gt hel)).trans hT
    have new : ObjOk X.prog X.w (upd H s.heap.objs.size (.tup [.int (i : Nat), x])) h'' s.heap.objs.size (.tup [.int (i : Nat), x]) :=
      ⟨by show 2 ≤ sizeLine; decide, [.int i tk, y], .cons ⟨_, rfl⟩ (.cons ry .nil), ⟨_, hT2, rfl, _, rfl⟩⟩
    have I1 : L2.Inv X pins σ (upd H s.heap.objs.size (.tup [.int (i : Nat), x])) { s with heap := h'', toks := tk + 1 } :=
      I.turnedNew (ch := [e, it]) (fun b ob hb q => (sb.2 b (fun z => hb (by simp [z]))).trans (hk b ob (fun z => hb (by simp [z])) (fun z => hb (by simp [z])) q)) hf (Nat.le_refl _) new
    refine ⟨.ref s.heap.objs.size, _, I1, rfl, ⟨_, x, rfl, I.hok.fresh (Nat.le_refl _), rfl, fun ys hy => by rw [S.inj hK I hy hq]; exact hx⟩, ⟨⟨y, ?_⟩, S.keep hst.1 fun o q => (sb.2 it (Ne.symm hne)).trans q⟩, fun b hb => ?_⟩
    · have e1 : ((i + 1 : Nat) : Int) = (i : Int) + 1 := by omega
      rw [e1]; exact he'
    · have hb' : b < s.heap.objs.size := by
        rcases (by simpa using hb : b = e ∨ b = it) with z | z
        · rw [z]; exact hel
        · rw [z]; exact hil
      rw [upd_ne (Nat.ne_of_lt hb')]
      exact (hf b hb).1
  done := by
    intro X hP hw hK hc i pins s σ H E I hf st hg
    subst hP hw
    obtain ⟨⟨old, he⟩, hit⟩ := st
    obtain ⟨xs, hq, hx⟩ := hg
    obtain ⟨Hc, hc0, D⟩ := S.draws hK I hq
    obtain ⟨f0, f1, f2, f3, f4, f5⟩ := hf it (by simp)
    subst hx
    exact wpAny_pyNext_enum_endD (D X.A.in1 it (I.ok.hd hc) h2) he ⟨hit, hc0⟩ fun h' eb => ⟨rfl, I.turned (t' := s.toks) (fun b o hb q => eb b o hb q) f0 f1 f3 f4 f5⟩
  self := fun A i s Q E st h => let ⟨⟨_, he⟩, _⟩ := st; wpAny_pyIter_enum he h
/-- what is drawn from: a list, a tuple, a text -/
def SrcK (K : PySem.W.Frag) (v : V) (its : Hp → List V → Prop) : Prop := ∀ u, RelV v u → ∃ S : SeqV K u, S.its = its
theorem srcList {K : PySem.W.Frag} {a : Addr} : SrcK K (.ref a) (SqL K · a) := fun u r => by
  cases r
  exact ⟨seqList K a, rfl⟩
theorem srcTup {K : PySem.W.Frag} {a : Addr} : SrcK K (.ref a) (SqT K · a) := fun u r => by
  cases r
  exact ⟨seqTup K a, rfl⟩
theorem srcText {K : PySem.W.Frag} {x : Str} : SrcK K (.str x) (fun _ xs => xs = x.cps.toList.map fun c => V.str ⟨#[c]⟩) := fun u r => by
  obtain ⟨t, rfl⟩ := r
  exact ⟨seqText K x t, rfl⟩
section
variable {X : Cx} {C : Ctx} {Wx : WX}
def oneQ (Q : V → Hp → Prop) : List V → Hp → Prop
  | [v], H => Q v H
  | _, _ => False
theorem oneQ_of {Q : V → Hp → Prop} {vs : List V} {H : Hp} (h : oneQ Q vs H) : ∃ v, vs = [v] ∧ Q v H := by
  match vs, h with
  | [v], h => exact ⟨v, rfl, h⟩
def iEnumG (K : PySem.W.Frag) (te : L2.TE) : L2.TI := fun σ H R => te σ H fun v H1 => ∃ its xs, SrcK K v its ∧ its H1 xs ∧ R (ItE its) H1
theorem pi_enumG {e : Expr} {te : L2.TE} {p pos tpos : Pos} {elts : List Expr} {kk : Nat} (hg : Gl X "enumerate") (hm : X.mg "enumerate" = none) (hs : noStar e = true) (he : PE X e te) :
    PI X (.Tuple elts kk tpos) (.Call (.Name "enumerate" p) [e] [] pos) (iEnumG X.K te) := by
  refine ⟨fun pins s σ H R I h => ?_⟩
  have ha := pa_cons he pa_nil (star_cons (es := []) (env := X.env) hs)
  refine Call_ (ld_blt I hg hm boot_enumerate (PyProof.Rows.callWith_type1 (thn (ha.run pos pins s σ H (oneQ fun v H1 => ∃ its xs, SrcK X.K v its ∧ its H1 xs ∧ R (ItE its) H1) I h) fun us s1 ⟨vs, H1, I1, r1, q1⟩ => ?_) (star_cons hs) rfl))
  obtain ⟨v, rfl, q1⟩ := oneQ_of q1
  obtain ⟨its, xs, src, hq, q⟩ := q1
  obtain ⟨u, rfl, ru⟩ := vals1 r1
  obtain ⟨S, rfl⟩ := src u ru
  refine enum1 S.beg (S.begOk rfl I1 hq) fun h' he ho hk => wpAny_pyIter_enum he ?_
  have I2 : L2.Inv X pins σ H1 { s1 with heap := h' } := I1.kept (t' := s1.toks) hk
  have n1 : ∀ k, s1.heap.objs.size + k ∉ S.fpx := fun k z => by
    exact absurd (Nat.lt_of_le_of_lt (Nat.le_add_right _ k) (S.lt rfl I1 hq _ z)) (Nat.lt_irrefl _)
  refine ⟨s1.heap.objs.size + 1, [s1.heap.objs.size + 1, s1.heap.objs.size], _, _, H1, rfl, I2, turn_enumG S (s1.heap.objs.size + 1) s1.heap.objs.size (Nat.succ_ne_self _) (n1 1) (n1 0), ⟨⟨.none, he⟩, S.start ho⟩, fun b hb => ?_, q⟩
  have hle : s1.heap.objs.size ≤ b := by
    rcases (by simpa using hb : b = s1.heap.objs.size + 1 ∨ b = s1.heap.objs.size) with z | z
    · rw [z]; exact Nat.le_add_right _ _
    · rw [z]; exact Nat.le_refl _
  exact I1.fpOk hle (I1.hok.fresh hle)
end
end AR
end

section
set_option Elab.async false
set_option linter.all false
set_option maxRecDepth 100000
set_option maxHeartbeats 4000000
/-! DLE3: enumerate, zip as what is walked through. -/
namespace AR
open PySem PySem.Spec PyProof.Rows L2
def SrcD (W : Wd) (its : Hp → List V → Prop) (ds : List D) (G : Hd → Prop) (h0 : Hd) (H0 : Hp) : Prop := ∀ h H, Fr h0 H0 h H → RepH W h H → G h → ∃ vs, its H vs ∧ Reps W H ds vs
theorem SrcD.later {W : Wd} {its : Hp → List V → Prop} {ds : List D} {G : Hd → Prop} {h0 h1 : Hd} {H0 H1 : Hp} (s : SrcD W its ds G h0 H0) (f : Fr h0 H0 h1 H1) : SrcD W its ds G h1 H1 := fun h H f' => s h H (f.trans f')
def enumD (ds : List D) : List D := ((List.range ds.length).zip ds).map fun p => .tup [.int (p.1 : Nat), p.2]
theorem enumD_get {ds : List D} {i : Nat} {d : D} (h : ds[i]? = some d) : (enumD ds)[i]? = some (.tup [.int (i : Nat), d]) := by
  have hl := (List.getElem?_eq_some_iff.mp h).1
  unfold enumD
  have e : ((List.range ds.length).zip ds)[i]? = some (i, d) := List.getElem?_zip_eq_some.mpr ⟨List.getElem?_range hl, h⟩
  rw [List.getElem?_map, e]
  rfl
theorem enumD_length {ds : List D} : (enumD ds).length = ds.length := by unfold enumD; simp
/-- two at once in a new tuple -/
theorem rep_pair {W : Wd} {h : Hd} {H : Hp} {T : Addr} {d1 d2 : D} {v1 v2 : V} (n : H T = none) (r1 : Rep W H d1 v1) (r2 : Rep W H d2 v2) : Rep W (upd H T (.tup [v1, v2])) (.tup [d1, d2]) (.ref T) :=
  .tup upd_same (.cons (r1.mono (fx_new n)) (.cons (r2.mono (fx_new n)) .nil))
theorem walk_e {W : Wd} {its : Hp → List V → Prop} {ds : List D} {G : Hd → Prop} {h0 : Hd} {H0 : Hp} (s : SrcD W its ds G h0 H0) : Walk W (ItE its) (enumD ds) G h0 H0 where
  go := fun i h H hi f rh g => by
    rw [enumD_length] at hi
    obtain ⟨vs, e, r⟩ := s h H f rh g
    obtain ⟨v, ev⟩ := getE (l := vs) (i := i) (by rw [← r.length]; exact hi)
    exact ⟨vs, v, e, ev⟩
  yld := fun i h H x H' hi f rh g y => by
    rw [enumD_length] at hi
    obtain ⟨vs, e, r⟩ := s h H f rh g
    obtain ⟨T, v, rfl, n, rfl, hv⟩ := y
    have ev := hv vs e
    obtain ⟨d, ed⟩ := getE (l := ds) (i := i) hi
    obtain ⟨v', e2, rd⟩ := r.get ed
    rw [ev] at e2
    cases e2
    exact ⟨_, enumD_get ed, Fr.new n, rh.new n, rep_pair (h := h) n (.int _) rd⟩
  stop := fun h H f rh g => by
    obtain ⟨vs, e, r⟩ := s h H f rh g
    exact ⟨vs, e, by rw [enumD_length, r.length]⟩
theorem src_of {X : Cx} {x : Res} {vx : V} {h1 : Hd} {H0 H1 : Hp} {R : List D → (Hd → Prop) → Hd → Prop} (rh : RepH (wd X) h1 H1) (r1 : RepR (wd X) H0 h1 H1 x vx) (p : seqP x h1 R) :
    ∃ its ds G, SrcK X.K vx its ∧ SrcD (wd X) its ds G h1 H1 ∧ G h1 ∧ R ds G h1 := by
  cases x with
  | new ds =>
    obtain ⟨a, vs, rfl, n1, n2, l, r⟩ := r1
    exact ⟨_, ds, fun _ => True, srcList, fun h H f' rh' _ => ⟨vs, .inl (.inl (f'.st a _ n2 l).1), r.mono (f'.fx rh)⟩, trivial, p⟩
  | val d =>
    have r1 : Rep (wd X) H1 d vx := r1
    cases d with
    | tup ds => cases r1 with
      | tup e q =>
        rename_i vs a
        exact ⟨_, ds, fun _ => True, srcTup, fun h H f' rh' _ => ⟨vs, .inl (.inl (f'.fx rh _ _ trivial e)), q.mono (f'.fx rh)⟩, trivial, p⟩
    | kt ds => cases r1 with
      | kt e q =>
        rename_i vs a
        exact ⟨_, ds, fun _ => True, srcTup, fun h H f' rh' _ => ⟨vs, .inr e, q.mono (f'.fx rh)⟩, trivial, p⟩
    | rl ds => cases r1 with
      | rl e q =>
        rename_i vs a
        refine ⟨_, ds, fun _ => True, srcList, fun h H f' rh' _ => ⟨vs, ?_, q.mono (f'.fx rh)⟩, trivial, p⟩
        rcases e with ⟨o, e⟩ | e
        · exact .inl (.inr ⟨o, f'.fx rh _ _ trivial e⟩)
        · exact e H
    | ref a =>
      cases r1
      have p : (match h1 a with
        | some (.lst ds) => R ds (fun h' => h' a = some (.lst ds)) h1
        | _ => False) := p
      split at p
      · rename_i ds ea
        exact ⟨_, ds, _, srcList, fun h H f' rh' g => by
          obtain ⟨vs', e3, q'⟩ := rh' a _ g
          exact ⟨vs', .inl (.inl e3), q'⟩, ea, p⟩
      · exact p.elim
    | _ => exact p.elim
theorem src_text {X : Cx} {z : Str} (ok : PyData.strOk z = true) {h1 : Hd} {H1 : Hp} : SrcD (wd X) (fun _ xs => xs = z.cps.toList.map fun c => V.str ⟨#[c]⟩) (chars z) (fun _ => True) h1 H1 := fun h H _ _ _ => by
  refine ⟨_, rfl, ?_⟩
  have all : ∀ l : List Nat, (∀ c ∈ l, PyData.strOk ⟨#[c]⟩ = true) → Reps (wd X) H (l.map fun c => D.str ⟨#[c]⟩) (l.map fun c => V.str ⟨#[c]⟩) := fun l => by
    induction l with
    | nil => intro _; exact .nil
    | cons c l ih => intro h; exact .cons (.str _ (h c List.mem_cons_self)) (ih fun x hx => h x (List.mem_cons_of_mem _ hx))
  exact all _ (sign_ok ok)
section
variable {X : Cx} {C : Ctx} {Wx : WX}
/-- a plain source: a sequence or a text -/
inductive Ps where
  | val (e : E) | chars (e : E)
def Ps.it : Ps → It
  | .val e => .val e
  | .chars e => .chars e
def Ps.e : Ps → E
  | .val e => e
  | .chars e => e
theorem src_ps {s : Ps} {τ : L2.St} {H : Hp} {QV : V → Hp → Prop} {σ : Sg} {h : Hd} {Xd : Xd} {R : List D → (Hd → Prop) → Hd → Prop} (at_ : At (wd X) Wx Xd σ τ h H) (hw : wpI bt C s.it Xd σ h R)
    (k : ∀ its ds G v h1 H1, Fr h H h1 H1 → RepH (wd X) h1 H1 → SrcK X.K v its → SrcD (wd X) its ds G h1 H1 → G h1 → R ds G h1 → QV v H1) : TE (wd X) C Wx s.e τ H QV := by
  cases s with
  | val e =>
    exact one at_ hw fun x h1 vx H1 f rh r1 p => by
      obtain ⟨its, ds, G, a, b, c, d⟩ := src_of rh r1 p
      exact k its ds G vx h1 H1 f rh a b c d
  | chars e =>
    exact one at_ hw fun x h1 vx H1 f rh r1 p => by
      cases x with
      | new ds => exact p.elim
      | val d =>
        have r1 : Rep (wd X) H1 d vx := r1
        cases d with
        | str z =>
          cases r1 with
          | str _ ok => exact k _ (chars z) (fun _ => True) _ h1 H1 f rh srcText (src_text ok) trivial p
        | _ => exact p.elim
theorem ji_enum {s : Ps} {ea : Expr} {p pos tpos : Pos} {elts : List Expr} {kk : Nat} (hg : Gl X "enumerate") (hm : X.mg "enumerate" = none) (hs : noStar ea = true) (he : PE X ea (TE (wd X) C Wx s.e)) :
    PI X (.Tuple elts kk tpos) (.Call (.Name "enumerate" p) [ea] [] pos) (TIt (wd X) C Wx (.enum s.it)) :=
  PI.imp (pi_enumG hg hm hs he) fun τ H R ⟨σ, h, Xd, Q, at_, hw, k⟩ => by
    have hw : wpI bt C s.it Xd σ h fun ds G h1 => ds.length ≤ big ∧ Q (enumD ds) G h1 := hw
    refine src_ps at_ hw fun its ds G v h1 H1 f rh src sd g q => ?_
    obtain ⟨vs, e, r⟩ := sd h1 H1 Fr.refl rh g
    exact ⟨its, vs, src, e, k _ G h1 _ H1 f rh (walk_e sd) q.2⟩
end
end AR
end

section
set_option Elab.async false
set_option linter.all false
set_option maxRecDepth 100000
set_option maxHeartbeats 4000000
/-! DLE4: zip of two. -/
namespace AR
open PySem PySem.Spec PyProof.Rows L2
def ItZ (i1 i2 : Hp → List V → Prop) : L2.It :=
  ⟨fun i H => ∃ xs ys x y, i1 H xs ∧ i2 H ys ∧ xs[i]? = some x ∧ ys[i]? = some y,
    fun i H v H' => ∃ T x y, v = .ref T ∧ H T = none ∧ H' = upd H T (.tup [x, y]) ∧ (∀ xs, i1 H xs → xs[i]? = some x) ∧ ∀ ys, i2 H ys → ys[i]? = some y,
    fun i H => ∃ xs ys, i1 H xs ∧ i2 H ys ∧ i ≤ xs.length ∧ i ≤ ys.length ∧ (i = xs.length ∨ i = ys.length)⟩
theorem turn_zipG {P : Program} {w : World} {K : PySem.W.Frag} {u1 u2 : Value} (S1 : SeqV K u1) (S2 : SeqV K u2) {elts : List Expr} {kk : Nat} {tpos : Pos} {z TI TO i1 i2 : Addr} (Sp : ZipSep2 z TI TO i1 i2 (i1 :: S1.fpx) (i2 :: S2.fpx)) (n1 : i1 ∉ S1.fpx) (n2 : i2 ∉ S2.fpx) (zTO : TO ≠ z) :
    Turn P w K (.Tuple elts kk tpos) (ItZ S1.its S2.its) [z, TI, TO, i1, i2] z (fun i h => IsZip h z TI TO .none ∧ IsTupOf2 h TI (.ref i1) (.ref i2) ∧ (∃ x y, IsTupOf2 h TO x y) ∧ S1.itAt i1 i h ∧ S2.itAt i2 i h) where
  mem := by simp
  obj := fun i h st c hc => by
    obtain ⟨hz, hTI, ⟨x, y, hTO⟩, h1, h2⟩ := st
    rcases (by simpa using hc : c = z ∨ c = TI ∨ c = TO ∨ c = i1 ∨ c = i2) with q | q | q | q | q
    · rw [q]; exact ⟨_, hz, fun v q => nomatch q⟩
    · rw [q]; exact ⟨_, hTI, fun v q => nomatch q⟩
    · rw [q]; exact ⟨_, hTO, fun v q => nomatch q⟩
    · rw [q]; exact S1.obj h1
    · rw [q]; exact S2.obj h2
  keep := fun i h h' st k => by
    obtain ⟨hz, hTI, ⟨x, y, hTO⟩, h1, h2⟩ := st
    exact ⟨k z (by simp) _ hz, k TI (by simp) _ hTI, ⟨x, y, k TO (by simp) _ hTO⟩, S1.keep h1 (k i1 (by simp)), S2.keep h2 (k i2 (by simp))⟩
  item := by
    intro X hP hw hK hc i pins s σ H E I hf st hg
    subst hP hw
    obtain ⟨hz, hTI, ⟨x0, y0, hTO⟩, h1, h2⟩ := st
    obtain ⟨xs, ys, x, y, hqx, hqy, hx, hy⟩ := hg
    obtain ⟨Hc1, c1, D1⟩ := S1.draws hK I hqx
    obtain ⟨Hc2, c2, D2⟩ := S2.draws hK I hqy
    have hl1 : i < xs.length := (List.getElem?_eq_some_iff.mp hx).1
    have hl2 : i < ys.length := (List.getElem?_eq_some_iff.mp hy).1
    have lt : ∀ c, c ∈ [z, TI, TO, i1, i2] → c < s.heap.objs.size := fun c hcm => by
      rcases (by simpa using hcm : c = z ∨ c = TI ∨ c = TO ∨ c = i1 ∨ c = i2) with q | q | q | q | q
      · rw [q]; exact Heap.lt_size hz
      · rw [q]; exact Heap.lt_size hTI
      · rw [q]; exact Heap.lt_size hTO
      · rw [q]; obtain ⟨ob, e, _⟩ := S1.obj h1; exact Heap.lt_size e
      · rw [q]; obtain ⟨ob, e, _⟩ := S2.obj h2; exact Heap.lt_size e
    refine wpAny_pyNext_zipD2_item Sp (D1 X.A.in1 i1 (I.ok.hd hc) n1) (D2 X.A.in1 i2 (I.ok.hd hc) n2) hz hTI hTO ⟨h1, c1⟩ ⟨h2, c2⟩ hl1 hl2 fun v1 v2 h' tk p1 p2 z' TO' s1 s2 hT hsz hk => ?_
    obtain ⟨x', ex, r1⟩ := p1
    obtain ⟨y', ey, r2⟩ := p2
    rw [hx] at ex
    cases ex
    rw [hy] at ey
    cases ey
    refine ⟨_, rfl, wpAny_letOwnedTupleGo_zip (s := { s with heap := h', toks := tk }) z' fun h'' z'' sb => ?_⟩
    have hzl := lt z (by simp)
    have hT2 : h''.get? s.heap.objs.size = some { cls := .type "tuple", data := .seq #[v1, v2] } := (sb.2 _ (Nat.ne_of_gt hzl)).trans hT
    have new : ObjOk X.prog X.w (upd H s.heap.objs.size (.tup [x, y])) h'' s.heap.objs.size (.tup [x, y]) :=
      ⟨by show 2 ≤ sizeLine; decide, [v1, v2], .cons r1 (.cons r2 .nil), ⟨_, hT2, rfl, _, rfl⟩⟩
    have I1 : L2.Inv X pins σ (upd H s.heap.objs.size (.tup [x, y])) { s with heap := h'', toks := tk } :=
      I.turnedNew (ch := [z, TI, TO, i1, i2]) (fun c o hb q => (sb.2 c (fun q' => hb (by simp [q']))).trans (hk c o (fun q' => hb (by simp [q'])) (fun q' => hb (by simp [q'])) (fun q' => hb (by simp [q'])) (fun q' => hb (by simp [q'])) q)) hf (Nat.le_refl _) new
    refine ⟨.ref s.heap.objs.size, _, I1, rfl, ⟨_, x, y, rfl, I.hok.fresh (Nat.le_refl _), rfl, fun l hl => by rw [S1.inj hK I hl hqx]; exact hx, fun l hl => by rw [S2.inj hK I hl hqy]; exact hy⟩, ⟨z'', ?_, ⟨v1, v2, ?_⟩, ?_, ?_⟩, fun c hcm => ?_⟩
    · exact (sb.2 _ Sp.TIz).trans (hk _ _ Sp.TIz Sp.TITO Sp.TIi1 Sp.TIi2 hTI)
    · exact (sb.2 _ Sp.TOz).trans TO'
    · exact S1.keep s1.1 fun o q => (sb.2 _ (Ne.symm Sp.zi1)).trans q
    · exact S2.keep s2.1 fun o q => (sb.2 _ (Ne.symm Sp.zi2)).trans q
    · rw [upd_ne (Nat.ne_of_lt (lt c hcm))]
      exact (hf c hcm).1
  done := by
    intro X hP hw hK hc i pins s σ H E I hf st hg
    subst hP hw
    obtain ⟨hz, hTI, ⟨x0, y0, hTO⟩, h1, h2⟩ := st
    obtain ⟨xs, ys, hqx, hqy, l1, l2, hend⟩ := hg
    obtain ⟨Hc1, c1, D1⟩ := S1.draws hK I hqx
    obtain ⟨Hc2, c2, D2⟩ := S2.draws hK I hqy
    exact wpAny_pyNext_zipD2_end Sp (D1 X.A.in1 i1 (I.ok.hd hc) n1) (D2 X.A.in1 i2 (I.ok.hd hc) n2) hz hTI hTO ⟨h1, c1⟩ ⟨h2, c2⟩ l1 l2 hend fun h' tk hk => ⟨rfl, I.turnedL (t' := tk) (ch := [z, TI, TO, i1, i2]) (fun c o hb q =>
      hk c o (fun q' => hb (by simp [q'])) (fun q' => hb (by simp [q'])) (fun q' => hb (by simp [q'])) (fun q' => hb (by simp [q'])) q) hf⟩
  self := fun A i s Q E st h => wpAny_pyIter_zip st.1 h
section
variable {X : Cx} {C : Ctx} {Wx : WX}
def iZipG (K : PySem.W.Frag) (te tf : L2.TE) : L2.TI := fun σ H R => te σ H fun v H1 => tf σ H1 fun u H2 => ∃ i1 i2 xs ys, SrcK K v i1 ∧ SrcK K u i2 ∧ i1 H2 xs ∧ i2 H2 ys ∧ R (ItZ i1 i2) H2
def twoQ (Q : V → V → Hp → Prop) : List V → Hp → Prop
  | [v, u], H => Q v u H
  | _, _ => False
theorem twoQ_of {Q : V → V → Hp → Prop} {vs : List V} {H : Hp} (h : twoQ Q vs H) : ∃ v u, vs = [v, u] ∧ Q v u H := by
  match vs, h with
  | [v, u], h => exact ⟨v, u, rfl, h⟩
theorem pi_zipG {e f : Expr} {te tf : L2.TE} {p pos tpos : Pos} {elts : List Expr} {kk : Nat} (hg : Gl X "zip") (hm : X.mg "zip" = none) (hs : noStar e = true) (hs2 : noStar f = true) (he : PE X e te) (hf : PE X f tf) :
    PI X (.Tuple elts kk tpos) (.Call (.Name "zip" p) [e, f] [] pos) (iZipG X.K te tf) := by
  refine ⟨fun pins s σ H R I h => ?_⟩
  have ha := pa_cons he (pa_cons hf pa_nil (star_cons (es := []) (env := X.env) hs2)) (star_cons (es := [f]) (env := X.env) hs)
  refine Call_ (ld_blt I hg hm boot_zip (PyProof.Rows.callWith_type1 (thn (ha.run pos pins s σ H (twoQ fun v u H2 => ∃ i1 i2 xs ys, SrcK X.K v i1 ∧ SrcK X.K u i2 ∧ i1 H2 xs ∧ i2 H2 ys ∧ R (ItZ i1 i2) H2) I h) fun us s1 ⟨vs, H1, I1, r1, q1⟩ => ?_) (star_cons hs) (star_plain (by simp [hs2]))))
  obtain ⟨v, u, rfl, q1⟩ := twoQ_of q1
  obtain ⟨i1, i2, xs, ys, src1, src2, hq1, hq2, q⟩ := q1
  obtain ⟨w1, w2, rfl, ru1, ru2⟩ := vals2 r1
  obtain ⟨S1, rfl⟩ := src1 w1 ru1
  obtain ⟨S2, rfl⟩ := src2 w2 ru2
  have n1 : ∀ k, s1.heap.objs.size + k ∉ S1.fpx := fun k z => absurd (Nat.lt_of_le_of_lt (Nat.le_add_right _ k) (S1.lt rfl I1 hq1 _ z)) (Nat.lt_irrefl _)
  have n2 : ∀ k, s1.heap.objs.size + k ∉ S2.fpx := fun k z => absurd (Nat.lt_of_le_of_lt (Nat.le_add_right _ k) (S2.lt rfl I1 hq2 _ z)) (Nat.lt_irrefl _)
  refine zip_begins2 S1.beg S2.beg (S1.begOk rfl I1 hq1) (S2.begOk rfl I1 hq2) fun h' hz hTI hTO ho1 ho2 hsz hk => wpAny_pyIter_zip hz ?_
  have I2 : L2.Inv X pins σ H1 { s1 with heap := h' } := I1.kept (t' := s1.toks) hk
  have ne : ∀ a b : Nat, a ≠ b → s1.heap.objs.size + a ≠ s1.heap.objs.size + b := fun a b h e => h (Nat.add_left_cancel e)
  have mem : ∀ {a b : Nat} {l : List Addr}, a ≠ b → s1.heap.objs.size + a ∉ l → s1.heap.objs.size + a ∉ (s1.heap.objs.size + b) :: l := fun h n z => by
    rcases List.mem_cons.mp z with z | z
    · exact ne _ _ h z
    · exact n z
  have sep : ZipSep2 (s1.heap.objs.size + 4) (s1.heap.objs.size + 2) (s1.heap.objs.size + 3) (s1.heap.objs.size + 0) (s1.heap.objs.size + 1) ((s1.heap.objs.size + 0) :: S1.fpx) ((s1.heap.objs.size + 1) :: S2.fpx) :=
    ⟨ne _ _ (by decide), ne _ _ (by decide), ne _ _ (by decide), ne _ _ (by decide), List.mem_cons_self, mem (by decide) (n1 4), mem (by decide) (n1 3), ne _ _ (by decide), List.mem_cons_self, mem (by decide) (n2 4), mem (by decide) (n2 3), mem (by decide) (n2 0), mem (by decide) (n1 1)⟩
  refine ⟨s1.heap.objs.size + 4, [s1.heap.objs.size + 4, s1.heap.objs.size + 2, s1.heap.objs.size + 3, s1.heap.objs.size, s1.heap.objs.size + 1], _, _, H1, rfl, I2, turn_zipG S1 S2 sep (n1 0) (n2 1) (ne _ _ (by decide)), ⟨hz, hTI, ⟨_, _, hTO⟩, S1.start ho1, S2.start ho2⟩, fun c hcm => ?_, q⟩
  have hle : s1.heap.objs.size ≤ c := by
    rcases (by simpa using hcm : c = s1.heap.objs.size + 4 ∨ c = s1.heap.objs.size + 2 ∨ c = s1.heap.objs.size + 3 ∨ c = s1.heap.objs.size ∨ c = s1.heap.objs.size + 1) with z | z | z | z | z
    · rw [z]; exact Nat.le_add_right _ _
    · rw [z]; exact Nat.le_add_right _ _
    · rw [z]; exact Nat.le_add_right _ _
    · rw [z]; exact Nat.le_refl _
    · rw [z]; exact Nat.le_add_right _ _
  exact I1.fpOk hle (I1.hok.fresh hle)
end
end AR
end

section
set_option Elab.async false
set_option linter.all false
set_option maxRecDepth 100000
set_option maxHeartbeats 4000000
/-! DLE5: zip of two plain sources. -/
namespace AR
open PySem PySem.Spec PyProof.Rows L2
def zipD (ds es : List D) : List D := (ds.zip es).map fun p => .tup [p.1, p.2]
theorem zipD_get {ds es : List D} {i : Nat} {d e : D} (h : ds[i]? = some d) (h2 : es[i]? = some e) : (zipD ds es)[i]? = some (.tup [d, e]) := by
  unfold zipD
  have z : (ds.zip es)[i]? = some (d, e) := List.getElem?_zip_eq_some.mpr ⟨h, h2⟩
  rw [List.getElem?_map, z]
  rfl
theorem zipD_length {ds es : List D} : (zipD ds es).length = min ds.length es.length := by simp [zipD]
theorem walk_z {W : Wd} {i1 i2 : Hp → List V → Prop} {ds es : List D} {G G' : Hd → Prop} {h0 : Hd} {H0 : Hp} (s : SrcD W i1 ds G h0 H0) (s2 : SrcD W i2 es G' h0 H0) : Walk W (ItZ i1 i2) (zipD ds es) (fun h => G h ∧ G' h) h0 H0 where
  go := fun i h H hi f rh g => by
    obtain ⟨vs, e, r⟩ := s h H f rh g.1
    obtain ⟨ws, e2, r2⟩ := s2 h H f rh g.2
    rw [zipD_length] at hi
    obtain ⟨x, ex⟩ := getE (l := vs) (i := i) (by rw [← r.length]; omega)
    obtain ⟨y, ey⟩ := getE (l := ws) (i := i) (by rw [← r2.length]; omega)
    exact ⟨vs, ws, x, y, e, e2, ex, ey⟩
  yld := fun i h H x H' hi f rh g y => by
    obtain ⟨vs, e, r⟩ := s h H f rh g.1
    obtain ⟨ws, e2, r2⟩ := s2 h H f rh g.2
    rw [zipD_length] at hi
    obtain ⟨T, v, u, rfl, n, rfl, hv, hu⟩ := y
    have ev := hv vs e
    have eu := hu ws e2
    obtain ⟨d, ed⟩ := getE (l := ds) (i := i) (by omega)
    obtain ⟨d2, ed2⟩ := getE (l := es) (i := i) (by omega)
    obtain ⟨v', e3, rd⟩ := r.get ed
    obtain ⟨u', e4, rd2⟩ := r2.get ed2
    rw [ev] at e3
    cases e3
    rw [eu] at e4
    cases e4
    exact ⟨_, zipD_get ed ed2, Fr.new n, rh.new n, rep_pair (h := h) n rd rd2⟩
  stop := fun h H f rh g => by
    obtain ⟨vs, e, r⟩ := s h H f rh g.1
    obtain ⟨ws, e2, r2⟩ := s2 h H f rh g.2
    have l1 := r.length
    have l2 := r2.length
    rw [zipD_length]
    exact ⟨vs, ws, e, e2, by omega, by omega, by omega⟩
section
variable {X : Cx} {C : Ctx} {Wx : WX}
theorem ji_zip {s s2 : Ps} {ea eb : Expr} {p pos tpos : Pos} {elts : List Expr} {kk : Nat} (hg : Gl X "zip") (hm : X.mg "zip" = none) (hs : noStar ea = true) (hs2 : noStar eb = true) (he : PE X ea (TE (wd X) C Wx s.e)) (he2 : PE X eb (TE (wd X) C Wx s2.e)) :
    PI X (.Tuple elts kk tpos) (.Call (.Name "zip" p) [ea, eb] [] pos) (TIt (wd X) C Wx (.zip s.it s2.it)) :=
  PI.imp (pi_zipG hg hm hs hs2 he he2) fun τ H R ⟨σ, h, Xd, Q, at_, hw, k⟩ => by
    have hw : wpI bt C s.it Xd σ h fun ds G h1 => wpI bt C s2.it Xd σ h1 fun es G' h2 => G h2 ∧ Q (zipD ds es) (fun h => G h ∧ G' h) h2 := hw
    refine src_ps at_ hw fun its ds G v h1 H1 f rh src sd g q => ?_
    refine src_ps (at_.go f rh) q fun its2 es G' u h2 H2 f2 rh2 src2 sd2 g2 q2 => ?_
    obtain ⟨vs, e, r⟩ := sd h2 H2 f2 rh2 q2.1
    obtain ⟨ws, e2, r2⟩ := sd2 h2 H2 Fr.refl rh2 g2
    exact ⟨its, its2, vs, ws, src, src2, e, e2, k _ _ h2 _ H2 (f.trans f2) rh2 (walk_z (sd.later f2) sd2) q2.2⟩
end
end AR
end

section
set_option Elab.async false
set_option linter.all false
set_option maxRecDepth 100000
set_option maxHeartbeats 4000000
/-! DLF: zip within enumerate: the zip's own tuple may still be out. -/
namespace AR
open PySem PySem.Spec PyProof.Rows L2
/-- a zip: f0 its own tuple's number or none -/
def ZObj (TI TO : Addr) (f0 : Value) (f : Bool) : Obj := { cls := .type "zip", data := .fields #[f0, .bool f, .bool false, .ref TI, .ref TO] }
def ZAt (h : Heap) (z TI TO : Addr) (f0 : Value) (f : Bool) : Prop := h.get? z = some (ZObj TI TO f0 f)
def F0 (f0 : Value) : Prop := f0 = .none ∨ ∃ T : Nat, f0 = rawInt T
section
variable {prog : Program} {w : World} {A : Around} {E : Value → Shared → Prop} {s : Shared} {z TI TO i1 i2 : Addr} {fp1 fp2 : List Addr} {n1 n2 i : Nat} {P1 P2 : Nat → Value → Prop} {St1 St2 : Nat → Heap → Prop} {a1 a2 : Value} {f0 : Value} {f : Bool}
theorem zfree {Q : Bool → Shared → Prop} (hf : F0 f0) (hz : ZAt s.heap z TI TO f0 f) (h1 : Q true s) (h2 : ∀ h' f', ZAt h' z TI TO f0 f' → Heap.SameBut z s.heap h' → Q false { s with heap := h' }) :
    wpAny (model prog w) A (Builtin.SmallTypes.ownedTupleIsFree (.ref z)) Q E s := by
  unfold Builtin.SmallTypes.ownedTupleIsFree
  rcases hf with rfl | ⟨T, rfl⟩
  · exact wpAny_bind (wpAny_field hz rfl (x := .none) rfl (wpAny_pure h1))
  refine wpAny_bind (wpAny_field hz rfl (x := rawInt T) rfl ?_)
  show wpAny _ _ (loadIfAlive ((T : Int).toNat) >>= _) _ _ _
  rw [Int.toNat_natCast]
  cases hT : s.heap.get? T with
  | none =>
    refine wpAny_bind ?_
    have : ∀ {Q' : Option Obj → Shared → Prop}, Q' (s.heap.get? T) s → wpAny (model prog w) A (loadIfAlive T) Q' E s := fun h => fun _ _ _ => h
    refine this ?_
    rw [hT]
    simp only [Option.isNone_none, if_true]
    exact wpAny_pure h1
  | some oT =>
    refine wpAny_bind ?_
    have : ∀ {Q' : Option Obj → Shared → Prop}, Q' (s.heap.get? T) s → wpAny (model prog w) A (loadIfAlive T) Q' E s := fun h => fun _ _ _ => h
    refine this ?_
    rw [hT]
    simp only [Option.isNone_some, Bool.false_eq_true, if_false]
    refine wpAny_bind (wpAny_field hz rfl (x := .bool f) rfl ?_)
    cases f with
    | true =>
      rw [if_neg (show ¬ ((Value.bool true != Value.bool true) = true) from Bool.false_ne_true)]
      exact wpAny_pure (h2 s.heap _ hz (Heap.SameBut.refl _ _))
    | false =>
      rw [if_pos (show (Value.bool false != Value.bool true) = true from rfl)]
      exact wpAny_bind (wpAny_setField_rec hz (by simp) fun h₁ hz₁ hs₁ => wpAny_pure (h2 h₁ true hz₁ hs₁))
theorem zip_item {Q : Value → Shared → Prop} (S : ZipSep2 z TI TO i1 i2 fp1 fp2) (D1 : Draws prog w A i1 fp1 n1 P1 St1) (D2 : Draws prog w A i2 fp2 n2 P2 St2) (hf : F0 f0)
    (hz : ZAt s.heap z TI TO f0 f) (hTI : IsTupOf2 s.heap TI (.ref i1) (.ref i2)) (hTO : IsTupOf2 s.heap TO a1 a2) (st1 : St1 i s.heap) (st2 : St2 i s.heap) (hlt1 : i < n1) (hlt2 : i < n2)
    (hQ : ∀ x1 x2 h' tk f0' f', P1 i x1 → P2 i x2 → F0 f0' → ZAt h' z TI TO f0' f' → (∃ b1 b2, IsTupOf2 h' TO b1 b2) → St1 (i + 1) h' → St2 (i + 1) h' → IsTupOf2 h' s.heap.objs.size x1 x2 → h'.objs.size = s.heap.objs.size + 1 →
      (∀ c o, c ≠ z → c ≠ TO → c ≠ i1 → c ≠ i2 → s.heap.get? c = some o → h'.get? c = some o) → Q (.ref s.heap.objs.size) { s with heap := h', toks := tk }) :
    wpAny (model prog w) A (Builtin.«zip.__next__» ⟨[.ref z], []⟩) (fun fin s' => ∃ v, fin = .done (.ret v) ∧ Q v s') E s := by
  obtain ⟨hp, g, d, tk0, os⟩ := s
  show wpAny _ _ (field (.ref z) 2 >>= _) _ _ _
  refine wpAny_bind (wpAny_field hz rfl (x := .bool false) rfl ?_)
  show wpAny _ _ (field (.ref z) 3 >>= _) _ _ _
  refine wpAny_bind (wpAny_field hz rfl (x := .ref TI) rfl ?_)
  refine wpAny_bind (wpAny_seqItems hTI rfl ?_)
  show wpAny _ _ (Builtin.SmallTypes.ownedTupleIsFree (.ref z) >>= _) _ _ _
  refine wpAny_bind (zfree hf hz ?_ fun h₁ f₁ hz₁ hs₁ => ?_)
  · simp only [if_true]
    refine wpAny_bind (wpAny_rule ?_)
    refine wpAny_bind (wpAny_field hz rfl (x := .ref TO) rfl ?_)
    refine wpAny_bind (wpAny_setField_rec hz (by simp) fun g0 hz0 hs0 => ?_)
    replace hz0 : ZAt g0 z TI TO .ellipsis f := hz0
    replace hs0 : Heap.SameBut z hp g0 := hs0
    refine wpAny_bind ?_
    simp only [List.zipIdx_cons, List.zipIdx_nil, List.forIn_cons, List.forIn_nil]
    refine wpAny_bind (wpAny_bind (wpAny_onRaise ?_))
    show wpAny _ _ (Builtin.SmallTypes.nextOf (.ref i1) >>= _) _ _ ⟨g0, g, d, tk0, os⟩
    refine wpAny_bind (D1.item i _ _ _ hlt1 (D1.over st1 hs0 S.zf1) fun x1 p1 tk1 hx1 sn1 hp1 => wpAny_pure ?_)
    replace hp1 : Heap.SameBut i1 g0 p1 := hp1
    have hU1 : IsTupOf2 p1 TO a1 a2 := hp1.extBut _ _ S.Ti1 (hs0.extBut _ _ S.TOz hTO)
    refine wpAny_bind (wpAny_seqItems (s := ⟨p1, g, d, tk1, os⟩) hU1 rfl ?_)
    refine wpAny_bind (updateSeq_IsTupOf2 (s := ⟨p1, g, d, tk1, os⟩) hU1 fun g1 hT1 hs1 => ?_)
    replace hT1 : IsTupOf2 g1 TO x1 a2 := hT1
    replace hs1 : Heap.SameBut TO p1 g1 := hs1
    refine wpAny_bind (wpAny_letGo (wpAny_pure ?_))
    refine wpAny_bind (wpAny_bind (wpAny_onRaise ?_))
    show wpAny _ _ (Builtin.SmallTypes.nextOf (.ref i2) >>= _) _ _ ⟨g1, g, d, tk1, os⟩
    refine wpAny_bind (D2.item i _ _ _ hlt2 (D2.over (D2.over (D2.over st2 hs0 S.zf2) hp1 S.sep1_2) hs1 S.Tf2) fun x2 p2 tk2 hx2 sn2 hp2 => wpAny_pure ?_)
    replace hp2 : Heap.SameBut i2 g1 p2 := hp2
    have hU2 : IsTupOf2 p2 TO x1 a2 := hp2.extBut _ _ S.Ti2 hT1
    refine wpAny_bind (wpAny_seqItems (s := ⟨p2, g, d, tk2, os⟩) hU2 rfl ?_)
    refine wpAny_bind (updateSeq_IsTupOf2 (s := ⟨p2, g, d, tk2, os⟩) hU2 fun g2 hT2 hs2 => ?_)
    replace hT2 : IsTupOf2 g2 TO x1 x2 := hT2
    replace hs2 : Heap.SameBut TO p2 g2 := hs2
    refine wpAny_bind (wpAny_letGo (wpAny_pure (wpAny_pure ?_)))
    refine wpAny_bind (wpAny_seqItems (s := ⟨g2, g, d, tk2, os⟩) hT2 rfl ?_)
    refine wpAny_bind (wpAny_newTuple ?_)
    have hsz : g2.objs.size = hp.objs.size := by rw [hs2.1, hp2.1, hs1.1, hp1.1, hs0.1]
    have hzz : ZAt g2 z TI TO .ellipsis f := (hs2.extBut _ _ S.TOz.symm (hp2.extBut _ _ S.zi2 (hs1.extBut _ _ S.TOz.symm (hp1.extBut _ _ S.zi1 hz0))))
    have hkk : ∀ c o, c ≠ z → c ≠ TO → c ≠ i1 → c ≠ i2 → hp.get? c = some o → g2.get? c = some o := fun c o cz cT c1 c2 e =>
      (hs2.extBut _ _ cT (hp2.extBut _ _ c2 (hs1.extBut _ _ cT (hp1.extBut _ _ c1 (hs0.extBut _ _ cz e)))))
    have hj1 : St1 (i + 1) g2 := (D1.over (D1.over (D1.over sn1 hs1 S.Tf1) hp2 S.sep2_1) hs2 S.Tf1)
    have hj2 : St2 (i + 1) g2 := (D2.over sn2 hs2 S.Tf2)
    have hzlt : z < g2.objs.size := Heap.lt_size hzz
    show wpAny _ _ (Builtin.SmallTypes.ownedTupleHandOut (.ref z) (.ref g2.objs.size) >>= _) _ _ ⟨g2.push { cls := .type "tuple", data := .seq #[x1, x2] }, g, d, tk2, os⟩
    refine wpAny_bind ?_
    unfold Builtin.SmallTypes.ownedTupleHandOut
    have hz₆ : ZAt (g2.push { cls := .type "tuple", data := .seq #[x1, x2] }) z TI TO .ellipsis f := Heap.get?_push_of_some _ hzz
    refine wpAny_bind (wpAny_setField_rec hz₆ (by simp) fun h₇ hz₇ hs₇ => ?_)
    replace hz₇ : ZAt h₇ z TI TO (rawInt g2.objs.size) f := hz₇
    refine wpAny_setField_rec hz₇ (by simp) fun h₈ hz₈ hs₈ => ?_
    replace hz₈ : ZAt h₈ z TI TO (rawInt g2.objs.size) false := hz₈
    replace hs₇ : Heap.SameBut z (g2.push { cls := .type "tuple", data := .seq #[x1, x2] }) h₇ := hs₇
    replace hs₈ : Heap.SameBut z h₇ h₈ := hs₈
    have up : ∀ c o, c ≠ z → g2.get? c = some o → h₈.get? c = some o := fun c o c1 e => hs₈.extBut _ _ c1 (hs₇.extBut _ _ c1 (Heap.get?_push_of_some _ e))
    have hT₈ : IsTupOf2 h₈ g2.objs.size x1 x2 := hs₈.extBut _ _ (Nat.ne_of_gt hzlt) (hs₇.extBut _ _ (Nat.ne_of_gt hzlt) (Heap.get?_push_size _ rfl))
    have hz8 : h₈.objs.size = g2.objs.size + 1 := by rw [hs₈.1, hs₇.1, Heap.size_push]
    rw [hsz] at hz₈ hT₈ hz8
    refine wpAny_pure ⟨_, rfl, ?_⟩
    show Q (.ref g2.objs.size) ⟨h₈, g, d, tk2, os⟩
    rw [hsz]
    exact hQ x1 x2 h₈ tk2 _ _ hx1 hx2 (.inr ⟨_, rfl⟩) hz₈ ⟨_, _, up _ _ S.TOz hT2⟩ (D1.frame _ _ _ hj1 fun b hb o e => up b o (fun q => S.zf1 (q ▸ hb)) e) (D2.frame _ _ _ hj2 fun b hb o e => up b o (fun q => S.zf2 (q ▸ hb)) e) hT₈ hz8 fun c o cz cT c1 c2 e => up c o cz (hkk c o cz cT c1 c2 e)
  · replace hs₁ : Heap.SameBut z hp h₁ := hs₁
    simp only [Bool.false_eq_true, if_false]
    refine wpAny_bind ?_
    rw [← Array.forIn_toList]
    simp only [List.forIn_cons, List.forIn_nil]
    refine wpAny_bind (wpAny_bind (wpAny_holding ?_))
    show wpAny _ _ (Builtin.SmallTypes.nextOf (.ref i1) >>= _) _ _ ⟨h₁, g, d, tk0, os⟩
    refine wpAny_bind (D1.item i _ _ _ hlt1 (D1.over st1 hs₁ S.zf1) fun x1 p1 tk1 hx1 sn1 hp1 => wpAny_pure ?_)
    replace hp1 : Heap.SameBut i1 h₁ p1 := hp1
    refine wpAny_pure ?_
    refine wpAny_bind (wpAny_bind (wpAny_holding ?_))
    show wpAny _ _ (Builtin.SmallTypes.nextOf (.ref i2) >>= _) _ _ ⟨p1, g, d, tk1, os⟩
    refine wpAny_bind (D2.item i _ _ _ hlt2 (D2.over (D2.over st2 hs₁ S.zf2) hp1 S.sep1_2) fun x2 p2 tk2 hx2 sn2 hp2 => wpAny_pure ?_)
    replace hp2 : Heap.SameBut i2 p1 p2 := hp2
    refine wpAny_pure (wpAny_pure ?_)
    show wpAny _ _ (newTuple [x1, x2] >>= _) _ _ ⟨p2, g, d, tk2, os⟩
    refine wpAny_bind (wpAny_newTuple ?_)
    have hsz : p2.objs.size = hp.objs.size := by rw [hp2.1, hp1.1, hs₁.1]
    have hzz : ZAt p2 z TI TO f0 f₁ := hp2.extBut _ _ S.zi2 (hp1.extBut _ _ S.zi1 hz₁)
    have hkk : ∀ c o, c ≠ z → c ≠ TO → c ≠ i1 → c ≠ i2 → hp.get? c = some o → p2.get? c = some o := fun c o cz cT c1 c2 e => hp2.extBut _ _ c2 (hp1.extBut _ _ c1 (hs₁.extBut _ _ cz e))
    have hj1 : St1 (i + 1) p2 := D1.over sn1 hp2 S.sep2_1
    have hTO2 : IsTupOf2 p2 TO a1 a2 := hp2.extBut _ _ S.Ti2 (hp1.extBut _ _ S.Ti1 (hs₁.extBut _ _ S.TOz hTO))
    refine wpAny_pure ⟨_, rfl, ?_⟩
    show Q (.ref p2.objs.size) ⟨p2.push { cls := .type "tuple", data := .seq #[x1, x2] }, g, d, tk2, os⟩
    have hp4 : IsTupOf2 (p2.push { cls := .type "tuple", data := .seq #[x1, x2] }) p2.objs.size x1 x2 := Heap.get?_push_size _ rfl
    have hz4 : (p2.push { cls := .type "tuple", data := .seq #[x1, x2] }).objs.size = p2.objs.size + 1 := Heap.size_push ..
    rw [hsz] at hp4 hz4 ⊢
    exact hQ x1 x2 _ tk2 _ _ hx1 hx2 hf (Heap.get?_push_of_some _ hzz) ⟨_, _, Heap.get?_push_of_some _ hTO2⟩ (D1.frame _ _ _ hj1 fun b hb o e => Heap.get?_push_of_some _ e) (D2.frame _ _ _ sn2 fun b hb o e => Heap.get?_push_of_some _ e) hp4 hz4 fun c o cz cT c1 c2 e => Heap.get?_push_of_some _ (hkk c o cz cT c1 c2 e)
theorem zip_end {Q : Fin → Shared → Prop} (S : ZipSep2 z TI TO i1 i2 fp1 fp2) (D1 : Draws prog w A i1 fp1 n1 P1 St1) (D2 : Draws prog w A i2 fp2 n2 P2 St2) (hf : F0 f0)
    (hz : ZAt s.heap z TI TO f0 f) (hTI : IsTupOf2 s.heap TI (.ref i1) (.ref i2)) (hTO : IsTupOf2 s.heap TO a1 a2) (st1 : St1 i s.heap) (st2 : St2 i s.heap) (hle1 : i ≤ n1) (hle2 : i ≤ n2) (hend : i = n1 ∨ i = n2)
    (hE : ∀ h' tk e, (∀ c o, c ≠ z → c ≠ TO → c ≠ i1 → c ≠ i2 → s.heap.get? c = some o → h'.get? c = some o) → (∃ o, h'.get? e = some o ∧ o.cls = .type "StopIteration") → E (.ref e) { s with heap := h', toks := tk }) :
    wpAny (model prog w) A (Builtin.«zip.__next__» ⟨[.ref z], []⟩) Q E s := by
  obtain ⟨hp, g, d, tk0, os⟩ := s
  show wpAny _ _ (field (.ref z) 2 >>= _) _ _ _
  refine wpAny_bind (wpAny_field hz rfl (x := .bool false) rfl ?_)
  show wpAny _ _ (field (.ref z) 3 >>= _) _ _ _
  refine wpAny_bind (wpAny_field hz rfl (x := .ref TI) rfl ?_)
  refine wpAny_bind (wpAny_seqItems hTI rfl ?_)
  show wpAny _ _ (Builtin.SmallTypes.ownedTupleIsFree (.ref z) >>= _) _ _ _
  refine wpAny_bind (zfree hf hz ?_ fun h₁ f₁ hz₁ hs₁ => ?_)
  · simp only [if_true]
    refine wpAny_bind (wpAny_rule ?_)
    refine wpAny_bind (wpAny_field hz rfl (x := .ref TO) rfl ?_)
    refine wpAny_bind (wpAny_setField_rec hz (by simp) fun g0 hz0 hs0 => ?_)
    replace hz0 : ZAt g0 z TI TO .ellipsis f := hz0
    replace hs0 : Heap.SameBut z hp g0 := hs0
    refine wpAny_bind ?_
    simp only [List.zipIdx_cons, List.zipIdx_nil, List.forIn_cons, List.forIn_nil]
    refine wpAny_bind (wpAny_bind (wpAny_onRaise ?_))
    show wpAny _ _ (Builtin.SmallTypes.nextOf (.ref i1) >>= _) _ _ ⟨g0, g, d, tk0, os⟩
    by_cases hlt1 : i < n1
    · refine wpAny_bind (D1.item i _ _ _ hlt1 (D1.over st1 hs0 S.zf1) fun x1 p1 tk1 hx1 sn1 hp1 => wpAny_pure ?_)
      replace hp1 : Heap.SameBut i1 g0 p1 := hp1
      have hU1 : IsTupOf2 p1 TO a1 a2 := hp1.extBut _ _ S.Ti1 (hs0.extBut _ _ S.TOz hTO)
      refine wpAny_bind (wpAny_seqItems (s := ⟨p1, g, d, tk1, os⟩) hU1 rfl ?_)
      refine wpAny_bind (updateSeq_IsTupOf2 (s := ⟨p1, g, d, tk1, os⟩) hU1 fun g1 hT1 hs1 => ?_)
      replace hT1 : IsTupOf2 g1 TO x1 a2 := hT1
      replace hs1 : Heap.SameBut TO p1 g1 := hs1
      refine wpAny_bind (wpAny_letGo (wpAny_pure ?_))
      have hi2 : i = n2 := by omega
      refine wpAny_bind (wpAny_bind (wpAny_onRaise ?_))
      show wpAny _ _ (Builtin.SmallTypes.nextOf (.ref i2) >>= _) _ _ ⟨g1, g, d, tk1, os⟩
      refine wpAny_bind (D2.done ⟨g1, g, d, tk1, os⟩ _ _ (by rw [← hi2]; exact (D2.over (D2.over (D2.over st2 hs0 S.zf2) hp1 S.sep1_2) hs1 S.Tf2)) fun q e hq he => ?_)
      replace hq : Heap.ExtBut i2 g1 q := hq
      obtain ⟨oe, hoe, hce⟩ := he
      replace hoe : q.get? e = some oe := hoe
      have hzq : ZAt q z TI TO .ellipsis f := hq _ _ S.zi2 (hs1.extBut _ _ S.TOz.symm (hp1.extBut _ _ S.zi1 hz0))
      have hez : e ≠ z := fun x => by subst x; rw [show q.get? e = _ from hzq] at hoe; cases hoe; simp [ZObj] at hce
      refine wpAny_setField_rec (s := ⟨q, g, d, tk1, os⟩) hzq (by simp) fun q' _ hq' => ?_
      replace hq' : Heap.SameBut z q q' := hq'
      exact hE q' tk1 e (fun c o cz cT c1 c2 x => hq'.extBut _ _ cz (hq _ _ c2 (hs1.extBut _ _ cT (hp1.extBut _ _ c1 (hs0.extBut _ _ cz x))))) ⟨oe, hq'.extBut _ _ hez hoe, hce⟩
    · have hi1 : i = n1 := by omega
      refine wpAny_bind (D1.done ⟨g0, g, d, tk0, os⟩ _ _ (by rw [← hi1]; exact (D1.over st1 hs0 S.zf1)) fun q e hq he => ?_)
      replace hq : Heap.ExtBut i1 g0 q := hq
      obtain ⟨oe, hoe, hce⟩ := he
      replace hoe : q.get? e = some oe := hoe
      have hzq : ZAt q z TI TO .ellipsis f := hq _ _ S.zi1 hz0
      have hez : e ≠ z := fun x => by subst x; rw [show q.get? e = _ from hzq] at hoe; cases hoe; simp [ZObj] at hce
      refine wpAny_setField_rec (s := ⟨q, g, d, tk0, os⟩) hzq (by simp) fun q' _ hq' => ?_
      replace hq' : Heap.SameBut z q q' := hq'
      exact hE q' tk0 e (fun c o cz cT c1 c2 x => hq'.extBut _ _ cz (hq _ _ c1 (hs0.extBut _ _ cz x))) ⟨oe, hq'.extBut _ _ hez hoe, hce⟩
  · replace hs₁ : Heap.SameBut z hp h₁ := hs₁
    simp only [Bool.false_eq_true, if_false]
    refine wpAny_bind ?_
    rw [← Array.forIn_toList]
    simp only [List.forIn_cons, List.forIn_nil]
    refine wpAny_bind (wpAny_bind (wpAny_holding ?_))
    show wpAny _ _ (Builtin.SmallTypes.nextOf (.ref i1) >>= _) _ _ ⟨h₁, g, d, tk0, os⟩
    by_cases hlt1 : i < n1
    · refine wpAny_bind (D1.item i _ _ _ hlt1 (D1.over st1 hs₁ S.zf1) fun x1 p1 tk1 hx1 sn1 hp1 => wpAny_pure ?_)
      replace hp1 : Heap.SameBut i1 h₁ p1 := hp1
      refine wpAny_pure ?_
      have hi2 : i = n2 := by omega
      refine wpAny_bind (wpAny_bind (wpAny_holding ?_))
      show wpAny _ _ (Builtin.SmallTypes.nextOf (.ref i2) >>= _) _ _ ⟨p1, g, d, tk1, os⟩
      refine wpAny_bind (D2.done ⟨p1, g, d, tk1, os⟩ _ _ (by rw [← hi2]; exact D2.over (D2.over st2 hs₁ S.zf2) hp1 S.sep1_2) fun q e hq he => ?_)
      replace hq : Heap.ExtBut i2 p1 q := hq
      exact hE q tk1 e (fun c o cz cT c1 c2 x => hq _ _ c2 (hp1.extBut _ _ c1 (hs₁.extBut _ _ cz x))) he
    · have hi1 : i = n1 := by omega
      refine wpAny_bind (D1.done ⟨h₁, g, d, tk0, os⟩ _ _ (by rw [← hi1]; exact D1.over st1 hs₁ S.zf1) fun q e hq he => ?_)
      replace hq : Heap.ExtBut i1 h₁ q := hq
      exact hE q tk0 e (fun c o cz cT c1 c2 x => hq _ _ c1 (hs₁.extBut _ _ cz x)) he
end
end AR
end

section
set_option Elab.async false
set_option linter.all false
set_option maxRecDepth 100000
set_option maxHeartbeats 4000000
/-! DLF2: enumerate over a zip. -/
namespace AR
open PySem PySem.Spec PyProof.Rows L2
section
variable {prog : Program} {w : World} {A : Around} {E : Value → Shared → Prop} {s : Shared} {e z TI TO i1 i2 : Addr} {fp1 fp2 : List Addr} {n1 n2 i : Nat} {P1 P2 : Nat → Value → Prop} {St1 St2 : Nat → Heap → Prop} {a1 a2 : Value} {f0 : Value} {f : Bool}
theorem next_zip_item {Q : Value → Shared → Prop} (S : ZipSep2 z TI TO i1 i2 fp1 fp2) (D1 : Draws prog w A.in1 i1 fp1 n1 P1 St1) (D2 : Draws prog w A.in1 i2 fp2 n2 P2 St2) (hf : F0 f0)
    (hz : ZAt s.heap z TI TO f0 f) (hTI : IsTupOf2 s.heap TI (.ref i1) (.ref i2)) (hTO : IsTupOf2 s.heap TO a1 a2) (st1 : St1 i s.heap) (st2 : St2 i s.heap) (hlt1 : i < n1) (hlt2 : i < n2)
    (hQ : ∀ x1 x2 h' tk f0' f', P1 i x1 → P2 i x2 → F0 f0' → ZAt h' z TI TO f0' f' → (∃ b1 b2, IsTupOf2 h' TO b1 b2) → St1 (i + 1) h' → St2 (i + 1) h' → IsTupOf2 h' s.heap.objs.size x1 x2 → h'.objs.size = s.heap.objs.size + 1 →
      (∀ c o, c ≠ z → c ≠ TO → c ≠ i1 → c ≠ i2 → s.heap.get? c = some o → h'.get? c = some o) → Q (.ref s.heap.objs.size) { s with heap := h', toks := tk }) :
    wpAny (model prog w) A (Builtin.SmallTypes.nextOf (.ref z)) Q E s := by
  have hT : s.TypeIs (.ref z) "zip" := ⟨_, hz, rfl⟩
  unfold Builtin.SmallTypes.nextOf
  exact wpAny_bind (wpAny_callSpecial?_slot (name := Str.ofString "__next__") hT F.slot_zip_next
    (wpAny_call_entry F.slot_zip_next hT F.entry_zip_next (zip_item S D1 D2 hf hz hTI hTO st1 st2 hlt1 hlt2 fun x1 x2 h' tk f0' f' y1 y2 b0 b1 b2 d1 d2 b5 b6 b7 => wpAny_pure (hQ x1 x2 h' tk f0' f' y1 y2 b0 b1 b2 d1 d2 b5 b6 b7)) (F.args_zip_next_1 _)))
theorem next_zip_end {Q : Value → Shared → Prop} (S : ZipSep2 z TI TO i1 i2 fp1 fp2) (D1 : Draws prog w A.in1 i1 fp1 n1 P1 St1) (D2 : Draws prog w A.in1 i2 fp2 n2 P2 St2) (hf : F0 f0)
    (hz : ZAt s.heap z TI TO f0 f) (hTI : IsTupOf2 s.heap TI (.ref i1) (.ref i2)) (hTO : IsTupOf2 s.heap TO a1 a2) (st1 : St1 i s.heap) (st2 : St2 i s.heap) (hle1 : i ≤ n1) (hle2 : i ≤ n2) (hend : i = n1 ∨ i = n2)
    (hE : ∀ h' tk e, (∀ c o, c ≠ z → c ≠ TO → c ≠ i1 → c ≠ i2 → s.heap.get? c = some o → h'.get? c = some o) → (∃ o, h'.get? e = some o ∧ o.cls = .type "StopIteration") → E (.ref e) { s with heap := h', toks := tk }) :
    wpAny (model prog w) A (Builtin.SmallTypes.nextOf (.ref z)) Q E s := by
  have hT : s.TypeIs (.ref z) "zip" := ⟨_, hz, rfl⟩
  unfold Builtin.SmallTypes.nextOf
  exact wpAny_bind (wpAny_callSpecial?_slot (name := Str.ofString "__next__") hT F.slot_zip_next
    (wpAny_call_entry F.slot_zip_next hT F.entry_zip_next (zip_end S D1 D2 hf hz hTI hTO st1 st2 hle1 hle2 hend hE) (F.args_zip_next_1 _)))
theorem ez_item {old : Value} {Q : Value → Shared → Prop} (S : ZipSep2 z TI TO i1 i2 fp1 fp2) (D1 : Draws prog w A.in1 i1 fp1 n1 P1 St1) (D2 : Draws prog w A.in1 i2 fp2 n2 P2 St2) (hf : F0 f0)
    (he : IsEnum s.heap e z i old) (ez : e ≠ z) (eTO : e ≠ TO) (e1 : e ∉ fp1) (e2 : e ∉ fp2)
    (hz : ZAt s.heap z TI TO f0 f) (hTI : IsTupOf2 s.heap TI (.ref i1) (.ref i2)) (hTO : IsTupOf2 s.heap TO a1 a2) (st1 : St1 i s.heap) (st2 : St2 i s.heap) (hlt1 : i < n1) (hlt2 : i < n2)
    (hQ : ∀ x1 x2 h' tk f0' f', P1 i x1 → P2 i x2 → F0 f0' → IsEnumOut h' e z ((i : Int) + 1) (.ref s.heap.objs.size) (s.heap.objs.size + 1) → ZAt h' z TI TO f0' f' → (∃ b1 b2, IsTupOf2 h' TO b1 b2) → St1 (i + 1) h' → St2 (i + 1) h' → IsTupOf2 h' s.heap.objs.size x1 x2 →
      IsTupOf2 h' (s.heap.objs.size + 1) (.int i tk) (.ref s.heap.objs.size) → h'.objs.size = s.heap.objs.size + 2 →
      (∀ c o, c ≠ e → c ≠ z → c ≠ TO → c ≠ i1 → c ≠ i2 → s.heap.get? c = some o → h'.get? c = some o) → Q (.ref (s.heap.objs.size + 1)) { s with heap := h', toks := tk + 1 }) :
    wpAny (model prog w) A (Builtin.«enumerate.__next__» ⟨[.ref e], []⟩) (fun fin s' => ∃ v, fin = .done (.ret v) ∧ Q v s') E s := by
  obtain ⟨hp, g, d, tk₀, os⟩ := s
  have ei1 : e ≠ i1 := fun q => e1 (q ▸ S.mem1)
  have ei2 : e ≠ i2 := fun q => e2 (q ▸ S.mem2)
  show wpAny _ _ (field (.ref e) 2 >>= _) _ _ _
  refine wpAny_bind (wpAny_field he rfl (x := .ref z) rfl ?_)
  refine wpAny_bind (next_zip_item S D1 D2 hf hz hTI hTO st1 st2 hlt1 hlt2 fun x1 x2 h₁ tk f0' f' hx1 hx2 hf' hz₁ hTO₁ st1' st2' hT₁ hsz₁ hk₁ => ?_)
  replace hk₁ : ∀ c o, c ≠ z → c ≠ TO → c ≠ i1 → c ≠ i2 → hp.get? c = some o → h₁.get? c = some o := hk₁
  replace hT₁ : IsTupOf2 h₁ hp.objs.size x1 x2 := hT₁
  replace hsz₁ : h₁.objs.size = hp.objs.size + 1 := hsz₁
  have he₁ : IsEnum h₁ e z i old := hk₁ _ _ ez eTO ei1 ei2 he
  have hel : e < hp.objs.size := Heap.lt_size he
  show wpAny _ _ (field (.ref e) 3 >>= _) _ _ ⟨h₁, g, d, tk, os⟩
  refine wpAny_bind (wpAny_field he₁ rfl (x := rawInt i) rfl ?_)
  show wpAny _ _ (field (.ref e) 4 >>= _) _ _ ⟨h₁, g, d, tk, os⟩
  refine wpAny_bind (wpAny_field he₁ rfl (x := .none) rfl ?_)
  show wpAny _ _ (mkInt i >>= _) _ _ ⟨h₁, g, d, tk, os⟩
  refine wpAny_bind (wpAny_mkInt ?_)
  show wpAny _ _ (setField (.ref e) 3 (rawInt ((i : Int) + 1)) >>= _) _ _ ⟨h₁, g, d, tk + 1, os⟩
  refine wpAny_bind (wpAny_setField_rec he₁ (by simp) fun h₂ he₂ hs₂ => ?_)
  replace hs₂ : Heap.SameBut e h₁ h₂ := hs₂
  replace he₂ : IsEnum h₂ e z ((i : Int) + 1) old := he₂
  show wpAny _ _ (setField (.ref e) 4 .none >>= _) _ _ ⟨h₂, g, d, tk + 1, os⟩
  refine wpAny_bind (wpAny_setField_rec he₂ (by simp) fun h₃ he₃ hs₃ => ?_)
  replace hs₃ : Heap.SameBut e h₂ h₃ := hs₃
  replace he₃ : IsEnum h₃ e z ((i : Int) + 1) old := he₃
  show wpAny _ _ (newTuple [.int i tk, .ref hp.objs.size] >>= _) _ _ ⟨h₃, g, d, tk + 1, os⟩
  refine wpAny_bind (wpAny_newTuple ?_)
  have he₄ : IsEnum (h₃.push { cls := .type "tuple", data := .seq #[.int i tk, .ref hp.objs.size] }) e z ((i : Int) + 1) old := Heap.get?_push_of_some _ he₃
  generalize hh₄ : h₃.push { cls := .type "tuple", data := .seq #[.int i tk, .ref hp.objs.size] } = h₄ at he₄
  have hsz : h₃.objs.size = hp.objs.size + 1 := by rw [hs₃.1, hs₂.1, hsz₁]
  have ht₄ : IsTupOf2 h₄ (hp.objs.size + 1) (.int i tk) (.ref hp.objs.size) := by rw [← hh₄, ← hsz]; exact Heap.get?_push_size _ rfl
  have hz₄ : h₄.objs.size = hp.objs.size + 2 := by rw [← hh₄, Heap.size_push, hsz]
  have up4 : ∀ c o, c ≠ e → h₁.get? c = some o → h₄.get? c = some o := fun c o ce x => by
    rw [← hh₄]; exact Heap.get?_push_of_some _ (hs₃.extBut c o ce (hs₂.extBut c o ce x))
  show wpAny _ _ (Builtin.SmallTypes.ownedTupleIsFree (.ref e) >>= _) _ _ ⟨h₄, g, d, tk + 1, os⟩
  rw [hsz]
  clear hh₄ he₃ hs₃ he₂ hs₂ he₁ hsz h₃ h₂
  refine wpAny_bind ?_
  · unfold Builtin.SmallTypes.ownedTupleIsFree
    refine wpAny_bind (wpAny_field he₄ rfl (x := .none) rfl (wpAny_pure ?_))
    simp only [if_true]
    refine wpAny_bind (wpAny_rule ?_)
    refine wpAny_bind (wpAny_field he₄ rfl (x := old) rfl ?_)
    refine wpAny_bind (wpAny_setField_rec he₄ (by simp) fun h₅ he₅ hs₅ => ?_)
    replace hs₅ : Heap.SameBut e h₄ h₅ := hs₅
    replace he₅ : IsEnum h₅ e z ((i : Int) + 1) (.ref hp.objs.size) := he₅
    show wpAny _ _ (Builtin.SmallTypes.ownedTupleHandOut (.ref e) (.ref (hp.objs.size + 1)) >>= _) _ _ ⟨h₅, g, d, tk + 1, os⟩
    refine wpAny_bind ?_
    · unfold Builtin.SmallTypes.ownedTupleHandOut
      refine wpAny_bind (wpAny_setField_rec he₅ (by simp) fun h₆ he₆ hs₆ => ?_)
      replace hs₆ : Heap.SameBut e h₅ h₆ := hs₆
      replace he₆ : IsEnumOut h₆ e z ((i : Int) + 1) (.ref hp.objs.size) (hp.objs.size + 1) := he₆
      refine wpAny_setField_rec he₆ (by simp) fun h₇ he₇ hs₇ => ?_
      replace hs₇ : Heap.SameBut e h₆ h₇ := hs₇
      replace he₇ : IsEnumOut h₇ e z ((i : Int) + 1) (.ref hp.objs.size) (hp.objs.size + 1) := he₇
      have up47 : ∀ c o, c ≠ e → h₄.get? c = some o → h₇.get? c = some o := fun c o ce x => hs₇.extBut c o ce (hs₆.extBut c o ce (hs₅.extBut c o ce x))
      have up : ∀ c o, c ≠ e → h₁.get? c = some o → h₇.get? c = some o := fun c o ce x => up47 c o ce (up4 c o ce x)
      have zl : hp.objs.size ≠ e := Nat.ne_of_gt hel
      have zl1 : hp.objs.size + 1 ≠ e := Nat.ne_of_gt (Nat.lt_succ_of_lt hel)
      have b1 : ZAt h₇ z TI TO f0' f' := up _ _ (Ne.symm ez) hz₁
      have b2 : ∃ b1 b2, IsTupOf2 h₇ TO b1 b2 := hTO₁.elim fun x y => y.elim fun y z => ⟨x, y, up _ _ (Ne.symm eTO) z⟩
      have b3 : St1 (i + 1) h₇ := D1.frame _ _ _ st1' fun b hb o y => up b o (fun q => e1 (q ▸ hb)) y
      have b4 : St2 (i + 1) h₇ := D2.frame _ _ _ st2' fun b hb o y => up b o (fun q => e2 (q ▸ hb)) y
      have b5 : IsTupOf2 h₇ hp.objs.size x1 x2 := up _ _ zl hT₁
      have b6 : IsTupOf2 h₇ (hp.objs.size + 1) (.int i tk) (.ref hp.objs.size) := up47 _ _ zl1 ht₄
      have b7 : h₇.objs.size = hp.objs.size + 2 := by rw [hs₇.1, hs₆.1, hs₅.1, hz₄]
      have b8 : ∀ c o, c ≠ e → c ≠ z → c ≠ TO → c ≠ i1 → c ≠ i2 → hp.get? c = some o → h₇.get? c = some o := fun c o ce cz cT c1 c2 x => up c o ce (hk₁ c o cz cT c1 c2 x)
      exact wpAny_bind (wpAny_letGo (wpAny_pure ⟨_, rfl, hQ x1 x2 h₇ tk f0' f' hx1 hx2 hf' he₇ b1 b2 b3 b4 b5 b6 b7 b8⟩))
theorem pyNext_ez_item {old : Value} {Q : Option Value → Shared → Prop} (S : ZipSep2 z TI TO i1 i2 fp1 fp2) (D1 : Draws prog w A.in1.in1 i1 fp1 n1 P1 St1) (D2 : Draws prog w A.in1.in1 i2 fp2 n2 P2 St2) (hf : F0 f0)
    (he : IsEnum s.heap e z i old) (ez : e ≠ z) (eTO : e ≠ TO) (e1 : e ∉ fp1) (e2 : e ∉ fp2)
    (hz : ZAt s.heap z TI TO f0 f) (hTI : IsTupOf2 s.heap TI (.ref i1) (.ref i2)) (hTO : IsTupOf2 s.heap TO a1 a2) (st1 : St1 i s.heap) (st2 : St2 i s.heap) (hlt1 : i < n1) (hlt2 : i < n2)
    (hQ : ∀ x1 x2 h' tk f0' f', P1 i x1 → P2 i x2 → F0 f0' → IsEnumOut h' e z ((i : Int) + 1) (.ref s.heap.objs.size) (s.heap.objs.size + 1) → ZAt h' z TI TO f0' f' → (∃ b1 b2, IsTupOf2 h' TO b1 b2) → St1 (i + 1) h' → St2 (i + 1) h' → IsTupOf2 h' s.heap.objs.size x1 x2 →
      IsTupOf2 h' (s.heap.objs.size + 1) (.int i tk) (.ref s.heap.objs.size) → h'.objs.size = s.heap.objs.size + 2 →
      (∀ c o, c ≠ e → c ≠ z → c ≠ TO → c ≠ i1 → c ≠ i2 → s.heap.get? c = some o → h'.get? c = some o) → Q (some (.ref (s.heap.objs.size + 1))) { s with heap := h', toks := tk + 1 }) :
    wpAny (model prog w) A (pyNext (.ref e)) Q E s := by
  have hT : s.TypeIs (.ref e) "enumerate" := ⟨_, he, rfl⟩
  unfold pyNext
  exact wpAny_bind (wpAny_attempt (wpAny_callSpecial?_slot (name := Str.ofString "__next__") hT F.slot_enumerate_next
    (wpAny_call_entry F.slot_enumerate_next hT F.entry_enumerate_next
      (ez_item S D1 D2 hf he ez eTO e1 e2 hz hTI hTO st1 st2 hlt1 hlt2 fun x1 x2 h' tk f0' f' y1 y2 b0 b1 b2 b3 d1 d2 b5 b6 b7 b8 => wpAny_pure (hQ x1 x2 h' tk f0' f' y1 y2 b0 b1 b2 b3 d1 d2 b5 b6 b7 b8)) (F.args_enumerate_next_1 _))))
theorem pyNext_ez_end {old : Value} {k : Int} {Q : Option Value → Shared → Prop} (S : ZipSep2 z TI TO i1 i2 fp1 fp2) (D1 : Draws prog w A.in1.in1 i1 fp1 n1 P1 St1) (D2 : Draws prog w A.in1.in1 i2 fp2 n2 P2 St2) (hf : F0 f0)
    (he : IsEnum s.heap e z k old) (hz : ZAt s.heap z TI TO f0 f) (hTI : IsTupOf2 s.heap TI (.ref i1) (.ref i2)) (hTO : IsTupOf2 s.heap TO a1 a2) (st1 : St1 i s.heap) (st2 : St2 i s.heap) (hle1 : i ≤ n1) (hle2 : i ≤ n2) (hend : i = n1 ∨ i = n2)
    (hQ : ∀ h' tk, (∀ c o, c ≠ z → c ≠ TO → c ≠ i1 → c ≠ i2 → s.heap.get? c = some o → h'.get? c = some o) → Q none { s with heap := h', toks := tk }) : wpAny (model prog w) A (pyNext (.ref e)) Q E s := by
  have hT : s.TypeIs (.ref e) "enumerate" := ⟨_, he, rfl⟩
  unfold pyNext
  refine wpAny_bind (wpAny_attempt (wpAny_callSpecial?_slot (name := Str.ofString "__next__") hT F.slot_enumerate_next
    (wpAny_call_entry F.slot_enumerate_next hT F.entry_enumerate_next ?_ (F.args_enumerate_next_1 _))))
  show wpAny _ _ (field (.ref e) 2 >>= _) _ _ _
  refine wpAny_bind (wpAny_field he rfl (x := .ref z) rfl ?_)
  refine wpAny_bind (next_zip_end S D1 D2 hf hz hTI hTO st1 st2 hle1 hle2 hend fun h' tk x hk hx' => ?_)
  obtain ⟨o, ho, hc⟩ := hx'
  refine wpAny_bind (wpAny_isInstance (T := "StopIteration") (b := true) ⟨o, ho, hc⟩ isSubtype_stop ?_)
  exact wpAny_pure (hQ _ _ hk)
end
end AR
end

section
set_option Elab.async false
set_option linter.all false
set_option maxRecDepth 100000
set_option maxHeartbeats 4000000
/-! DLF3: enumerate(zip(..)): its turns. -/
namespace AR
open PySem PySem.Spec PyProof.Rows L2
theorem meets_enumZ {z TI TO : Addr} :
    Meets (Builtin.«enumerate.__new__» ⟨[.type "enumerate", .ref z], []⟩) (fun _ R s => IsZip s.heap z TI TO .none ∧
      R (.ok (.ret (.ref s.heap.objs.size))) { s with heap := s.heap.push { cls := .type "enumerate", data := .fields #[.none, .bool false, .ref z, rawInt 0, .none, .none] } }) :=
  .of_wp fun prog w A R s h => by
    obtain ⟨hp, g, d, tk, os⟩ := s; obtain ⟨h1, h⟩ := h
    have hsub := sub_enumerate
    have q1 : ∀ {A' : Around} {E : Value → Shared → Prop} {Q : Value → Shared → Prop}, Q (.ref z) ⟨hp, g, d, tk, os⟩ → wpAny (model prog w) A' (pyIter (.ref z)) Q E ⟨hp, g, d, tk, os⟩ :=
      fun q => wpAny_pyIter_zip h1 q
    wp_walk using q1
    refine wpAny_stack_any fun st => wpAny_pure ?_
    split
    · rename_i c _ _ _ _ _
      cases (c == Value.type "enumerate")
      · wp_walk using q1
        exact ⟨_, rfl, h⟩
      · wp_walk using q1
        exact ⟨_, rfl, h⟩
    · wp_walk using q1
      exact ⟨_, rfl, h⟩
theorem enumZ {prog : Program} {w : World} {A : Around} {E : Value → Shared → Prop} {s : Shared} {z TI TO : Addr} {Q : Value → Shared → Prop} (h1 : IsZip s.heap z TI TO .none)
    (h : ∀ h', IsEnum h' s.heap.objs.size z 0 .none → (∀ b o, s.heap.get? b = some o → h'.get? b = some o) → Q (.ref s.heap.objs.size) { s with heap := h' }) :
    wpAny (model prog w) A (call (.type "enumerate") [.ref z]) Q E s := by
  refine callType_new F.called_enumerate (by decide) (F.typeCall_enumerate_1 _) (F.newCall_enumerate_1 _) (fun obj => F.args_object_init_2 obj _) F.entry_enumerate_new
    (meets_enumZ (TI := TI) (TO := TO)) ⟨h1, ?_⟩
  have he := Heap.get?_push_size s.heap (o := { cls := .type "enumerate", data := .fields #[.none, .bool false, .ref z, rawInt 0, .none, .none] }) rfl
  exact ⟨⟨_, he, rfl⟩, h _ he fun b o x => Heap.get?_push_of_some _ x⟩
def ItEZ (i1 i2 : Hp → List V → Prop) : L2.It :=
  ⟨fun i H => ∃ xs ys x y, i1 H xs ∧ i2 H ys ∧ xs[i]? = some x ∧ ys[i]? = some y,
    fun i H v H' => ∃ T U x y, v = .ref U ∧ H T = none ∧ upd H T (.tup [x, y]) U = none ∧ H' = upd (upd H T (.tup [x, y])) U (.tup [.int (i : Nat), .ref T]) ∧ (∀ xs, i1 H xs → xs[i]? = some x) ∧ ∀ ys, i2 H ys → ys[i]? = some y,
    fun i H => ∃ xs ys, i1 H xs ∧ i2 H ys ∧ i ≤ xs.length ∧ i ≤ ys.length ∧ (i = xs.length ∨ i = ys.length)⟩
theorem turn_ez {P : Program} {w : World} {K : PySem.W.Frag} {u1 u2 : Value} (S1 : SeqV K u1) (S2 : SeqV K u2) {elts : List Expr} {kk : Nat} {tpos : Pos} {e z TI TO i1 i2 : Addr} (Sp : ZipSep2 z TI TO i1 i2 (i1 :: S1.fpx) (i2 :: S2.fpx)) (n1 : i1 ∉ S1.fpx) (n2 : i2 ∉ S2.fpx)
    (ez : e ≠ z) (eTI : e ≠ TI) (eTO : e ≠ TO) (e1 : e ∉ i1 :: S1.fpx) (e2 : e ∉ i2 :: S2.fpx) :
    Turn P w K (.Tuple elts kk tpos) (ItEZ S1.its S2.its) [e, z, TI, TO, i1, i2] e (fun i h => (∃ old, IsEnum h e z ((i : Nat) : Int) old) ∧ (∃ f0 f, F0 f0 ∧ ZAt h z TI TO f0 f) ∧ IsTupOf2 h TI (.ref i1) (.ref i2) ∧ (∃ x y, IsTupOf2 h TO x y) ∧ S1.itAt i1 i h ∧ S2.itAt i2 i h) where
  mem := by simp
  obj := fun i h st c hc => by
    obtain ⟨⟨old, he⟩, ⟨f0, f, hf0, hz⟩, hTI, ⟨x, y, hTO⟩, h1, h2⟩ := st
    rcases (by simpa using hc : c = e ∨ c = z ∨ c = TI ∨ c = TO ∨ c = i1 ∨ c = i2) with q | q | q | q | q | q
    · rw [q]; exact ⟨_, he, fun v q => nomatch q⟩
    · rw [q]; exact ⟨_, hz, fun v q => nomatch q⟩
    · rw [q]; exact ⟨_, hTI, fun v q => nomatch q⟩
    · rw [q]; exact ⟨_, hTO, fun v q => nomatch q⟩
    · rw [q]; exact S1.obj h1
    · rw [q]; exact S2.obj h2
  keep := fun i h h' st k => by
    obtain ⟨⟨old, he⟩, ⟨f0, f, hf0, hz⟩, hTI, ⟨x, y, hTO⟩, h1, h2⟩ := st
    exact ⟨⟨old, k e (by simp) _ he⟩, ⟨f0, f, hf0, k z (by simp) _ hz⟩, k TI (by simp) _ hTI, ⟨x, y, k TO (by simp) _ hTO⟩, S1.keep h1 (k i1 (by simp)), S2.keep h2 (k i2 (by simp))⟩
  item := by
    intro X hP hw hK hc i pins s σ H E I hf st hg
    subst hP hw
    obtain ⟨⟨old, he⟩, ⟨f0, f, hf0, hz⟩, hTI, ⟨x0, y0, hTO⟩, h1, h2⟩ := st
    obtain ⟨xs, ys, x, y, hqx, hqy, hx, hy⟩ := hg
    obtain ⟨Hc1, c1, D1⟩ := S1.draws hK I hqx
    obtain ⟨Hc2, c2, D2⟩ := S2.draws hK I hqy
    have hl1 : i < xs.length := (List.getElem?_eq_some_iff.mp hx).1
    have hl2 : i < ys.length := (List.getElem?_eq_some_iff.mp hy).1
    have lt : ∀ c, c ∈ [e, z, TI, TO, i1, i2] → c < s.heap.objs.size := fun c hcm => by
      rcases (by simpa using hcm : c = e ∨ c = z ∨ c = TI ∨ c = TO ∨ c = i1 ∨ c = i2) with q | q | q | q | q | q
      · rw [q]; exact Heap.lt_size he
      · rw [q]; exact Heap.lt_size hz
      · rw [q]; exact Heap.lt_size hTI
      · rw [q]; exact Heap.lt_size hTO
      · rw [q]; obtain ⟨ob, e, _⟩ := S1.obj h1; exact Heap.lt_size e
      · rw [q]; obtain ⟨ob, e, _⟩ := S2.obj h2; exact Heap.lt_size e
    refine pyNext_ez_item Sp (D1 X.A.in1.in1 i1 (I.ok.hd hc) n1) (D2 X.A.in1.in1 i2 (I.ok.hd hc) n2) hf0 he ez eTO e1 e2 hz hTI hTO ⟨h1, c1⟩ ⟨h2, c2⟩ hl1 hl2 fun v1 v2 h' tk f0' f' p1 p2 hf0' ho z' TO' s1 s2 hT hU hsz hk => ?_
    obtain ⟨x', ex, r1⟩ := p1
    obtain ⟨y', ey, r2⟩ := p2
    rw [hx] at ex
    cases ex
    rw [hy] at ey
    cases ey
    refine ⟨_, rfl, wpAny_letOwnedTupleGo_enum (s := { s with heap := h', toks := tk + 1 }) ho fun h'' he' sb => ?_⟩
    have hel := lt e (by simp)
    have up : ∀ c o, c ≠ e → h'.get? c = some o → h''.get? c = some o := fun c o ce q => (sb.2 c ce).trans q
    have hT2 : h''.get? s.heap.objs.size = some { cls := .type "tuple", data := .seq #[v1, v2] } := up _ _ (Nat.ne_of_gt hel) hT
    have hU2 : h''.get? (s.heap.objs.size + 1) = some { cls := .type "tuple", data := .seq #[.int i tk, .ref s.heap.objs.size] } := up _ _ (Nat.ne_of_gt (Nat.lt_succ_of_lt hel)) hU
    have hm : (s.heap.push { cls := .type "tuple", data := .seq #[v1, v2] }).objs.size = s.heap.objs.size + 1 := Heap.size_push ..
    have new : ObjOk X.prog X.w (upd H s.heap.objs.size (.tup [x, y])) (s.heap.push { cls := .type "tuple", data := .seq #[v1, v2] }) s.heap.objs.size (.tup [x, y]) :=
      ⟨by show 2 ≤ sizeLine; decide, [v1, v2], .cons r1 (.cons r2 .nil), ⟨_, Heap.get?_push_size _ rfl, rfl, _, rfl⟩⟩
    have I1 : L2.Inv X pins σ (upd H s.heap.objs.size (.tup [x, y])) { s with heap := s.heap.push { cls := .type "tuple", data := .seq #[v1, v2] } } :=
      I.laid (t' := s.toks) (fun b o q => Heap.get?_push_of_some _ q) (Nat.le_refl _) new
    have fr1 : H s.heap.objs.size = none := I.hok.fresh (Nat.le_refl _)
    have fr2 : upd H s.heap.objs.size (.tup [x, y]) (s.heap.objs.size + 1) = none := by rw [← hm]; exact I1.hok.fresh (Nat.le_refl _)
    have new2 : ObjOk X.prog X.w (upd (upd H s.heap.objs.size (.tup [x, y])) (s.heap.objs.size + 1) (.tup [.int (i : Nat), .ref s.heap.objs.size])) h'' (s.heap.objs.size + 1) (.tup [.int (i : Nat), .ref s.heap.objs.size]) :=
      ⟨by show 2 ≤ sizeLine; decide, [.int i tk, .ref s.heap.objs.size], .cons ⟨_, rfl⟩ (.cons rfl .nil), ⟨_, hU2, rfl, _, rfl⟩⟩
    have I2 : L2.Inv X pins σ (upd (upd H s.heap.objs.size (.tup [x, y])) (s.heap.objs.size + 1) (.tup [.int (i : Nat), .ref s.heap.objs.size])) { s with heap := h'', toks := tk + 1 } := by
      refine I1.turnedNew (t' := tk + 1) (ch := [e, z, TI, TO, i1, i2]) (fun c o hb q => ?_) (fun c hcm => ?_) (Nat.le_of_eq hm) new2
      · by_cases hcs : c = s.heap.objs.size
        · subst hcs
          rw [show (s.heap.push { cls := .type "tuple", data := .seq #[v1, v2] }).get? s.heap.objs.size = _ from Heap.get?_push_size _ rfl] at q
          rw [hT2]
          exact q
        · have q' : s.heap.get? c = some o := by
            rw [← q]
            exact (Heap.get?_push_ne _ _ _ hcs).symm
          exact up _ _ (fun q' => hb (by simp [q'])) (hk c o (fun q' => hb (by simp [q'])) (fun q' => hb (by simp [q'])) (fun q' => hb (by simp [q'])) (fun q' => hb (by simp [q'])) (fun q' => hb (by simp [q'])) q')
      · obtain ⟨g0, gr⟩ := hf c hcm
        exact ⟨by rw [upd_ne (Nat.ne_of_lt (lt c hcm))]; exact g0, gr⟩
    refine ⟨.ref (s.heap.objs.size + 1), _, I2, rfl, ⟨_, _, x, y, rfl, fr1, fr2, rfl, fun l hl => by rw [S1.inj hK I hl hqx]; exact hx, fun l hl => by rw [S2.inj hK I hl hqy]; exact hy⟩, ⟨⟨.ref s.heap.objs.size, ?_⟩, ⟨f0', f', hf0', ?_⟩, ?_, ?_, ?_, ?_⟩, fun c hcm => ?_⟩
    · have e1 : ((i + 1 : Nat) : Int) = (i : Int) + 1 := by omega
      rw [e1]; exact he'
    · exact up _ _ (Ne.symm ez) z'
    · exact up _ _ (Ne.symm eTI) (hk _ _ (Ne.symm eTI) Sp.TIz Sp.TITO Sp.TIi1 Sp.TIi2 hTI)
    · obtain ⟨b1, b2, q⟩ := TO'
      exact ⟨b1, b2, up _ _ (Ne.symm eTO) q⟩
    · exact S1.keep s1.1 fun o q => up _ _ (fun q' => e1 (by simp [q'])) q
    · exact S2.keep s2.1 fun o q => up _ _ (fun q' => e2 (by simp [q'])) q
    · have hl := lt c hcm
      rw [upd_ne (Nat.ne_of_lt (Nat.lt_succ_of_lt hl)), upd_ne (Nat.ne_of_lt hl)]
      exact (hf c hcm).1
  done := by
    intro X hP hw hK hc i pins s σ H E I hf st hg
    subst hP hw
    obtain ⟨⟨old, he⟩, ⟨f0, f, hf0, hz⟩, hTI, ⟨x0, y0, hTO⟩, h1, h2⟩ := st
    obtain ⟨xs, ys, hqx, hqy, l1, l2, hend⟩ := hg
    obtain ⟨Hc1, c1, D1⟩ := S1.draws hK I hqx
    obtain ⟨Hc2, c2, D2⟩ := S2.draws hK I hqy
    exact pyNext_ez_end Sp (D1 X.A.in1.in1 i1 (I.ok.hd hc) n1) (D2 X.A.in1.in1 i2 (I.ok.hd hc) n2) hf0 he hz hTI hTO ⟨h1, c1⟩ ⟨h2, c2⟩ l1 l2 hend fun h' tk hk => ⟨rfl, I.turnedL (t' := tk) (ch := [e, z, TI, TO, i1, i2]) (fun c o hb q =>
      hk c o (fun q' => hb (by simp [q'])) (fun q' => hb (by simp [q'])) (fun q' => hb (by simp [q'])) (fun q' => hb (by simp [q'])) q) hf⟩
  self := fun A i s Q E st h => let ⟨⟨_, he⟩, _⟩ := st; wpAny_pyIter_enum he h
end AR
end

section
set_option Elab.async false
set_option linter.all false
set_option maxRecDepth 100000
set_option maxHeartbeats 4000000
/-! DLF4: enumerate(zip(..)) as an iterable. -/
namespace AR
open PySem PySem.Spec PyProof.Rows L2
theorem walk_ez {W : Wd} {i1 i2 : Hp → List V → Prop} {ds es : List D} {G G' : Hd → Prop} {h0 : Hd} {H0 : Hp} (s : SrcD W i1 ds G h0 H0) (s2 : SrcD W i2 es G' h0 H0) : Walk W (ItEZ i1 i2) (enumD (zipD ds es)) (fun h => G h ∧ G' h) h0 H0 where
  go := fun i h H hi f rh g => by
    obtain ⟨vs, e, r⟩ := s h H f rh g.1
    obtain ⟨ws, e2, r2⟩ := s2 h H f rh g.2
    rw [enumD_length, zipD_length] at hi
    obtain ⟨x, ex⟩ := getE (l := vs) (i := i) (by rw [← r.length]; omega)
    obtain ⟨y, ey⟩ := getE (l := ws) (i := i) (by rw [← r2.length]; omega)
    exact ⟨vs, ws, x, y, e, e2, ex, ey⟩
  yld := fun i h H x H' hi f rh g y => by
    obtain ⟨vs, e, r⟩ := s h H f rh g.1
    obtain ⟨ws, e2, r2⟩ := s2 h H f rh g.2
    rw [enumD_length, zipD_length] at hi
    obtain ⟨T, U, v, u, rfl, n, n2, rfl, hv, hu⟩ := y
    have ev := hv vs e
    have eu := hu ws e2
    obtain ⟨d, ed⟩ := getE (l := ds) (i := i) (by omega)
    obtain ⟨d2, ed2⟩ := getE (l := es) (i := i) (by omega)
    obtain ⟨v', e3, rd⟩ := r.get ed
    obtain ⟨u', e4, rd2⟩ := r2.get ed2
    rw [ev] at e3
    cases e3
    rw [eu] at e4
    cases e4
    have q1 : Rep W (upd H T (.tup [v, u])) (.tup [d, d2]) (.ref T) := rep_pair (h := h) n rd rd2
    have rh1 : RepH W h (upd H T (.tup [v, u])) := rh.new n
    exact ⟨_, enumD_get (zipD_get ed ed2), (Fr.new n).trans (Fr.new n2), rh1.new n2, rep_pair (h := h) n2 (.int _) q1⟩
  stop := fun h H f rh g => by
    obtain ⟨vs, e, r⟩ := s h H f rh g.1
    obtain ⟨ws, e2, r2⟩ := s2 h H f rh g.2
    have l1 := r.length
    have l2 := r2.length
    rw [enumD_length, zipD_length]
    exact ⟨vs, ws, e, e2, by omega, by omega, by omega⟩
section
variable {X : Cx} {C : Ctx} {Wx : WX}
def iEZ (K : PySem.W.Frag) (te tf : L2.TE) : L2.TI := fun σ H R => te σ H fun v H1 => tf σ H1 fun u H2 => ∃ i1 i2 xs ys, SrcK K v i1 ∧ SrcK K u i2 ∧ i1 H2 xs ∧ i2 H2 ys ∧ R (ItEZ i1 i2) H2
theorem pi_ez {e f : Expr} {te tf : L2.TE} {p p2 pos pos2 tpos : Pos} {elts : List Expr} {kk : Nat} (hg : Gl X "enumerate") (hm : X.mg "enumerate" = none) (hg2 : Gl X "zip") (hm2 : X.mg "zip" = none) (hs : noStar e = true) (hs2 : noStar f = true) (he : PE X e te) (hf : PE X f tf) :
    PI X (.Tuple elts kk tpos) (.Call (.Name "enumerate" p) [.Call (.Name "zip" p2) [e, f] [] pos2] [] pos) (iEZ X.K te tf) := by
  refine ⟨fun pins s σ H R I h => ?_⟩
  have ha := pa_cons he (pa_cons hf pa_nil (star_cons (es := []) (env := X.env) hs2)) (star_cons (es := [f]) (env := X.env) hs)
  refine Call_ (ld_blt I hg hm boot_enumerate (PyProof.Rows.callWith_type1 (args_cons ?_ rfl) rfl))
  refine Call_ (ld_blt I hg2 hm2 boot_zip (PyProof.Rows.callWith_type1 (thn (ha.run pos2 pins s σ H (twoQ fun v u H2 => ∃ i1 i2 xs ys, SrcK X.K v i1 ∧ SrcK X.K u i2 ∧ i1 H2 xs ∧ i2 H2 ys ∧ R (ItEZ i1 i2) H2) I h) fun us s1 ⟨vs, H1, I1, r1, q1⟩ => ?_) (star_cons hs) (star_plain (by simp [hs2]))))
  obtain ⟨v, u, rfl, q1⟩ := twoQ_of q1
  obtain ⟨i1, i2, xs, ys, src1, src2, hq1, hq2, q⟩ := q1
  obtain ⟨w1, w2, rfl, ru1, ru2⟩ := vals2 r1
  obtain ⟨S1, rfl⟩ := src1 w1 ru1
  obtain ⟨S2, rfl⟩ := src2 w2 ru2
  have n1 : ∀ k, s1.heap.objs.size + k ∉ S1.fpx := fun k z => absurd (Nat.lt_of_le_of_lt (Nat.le_add_right _ k) (S1.lt rfl I1 hq1 _ z)) (Nat.lt_irrefl _)
  have n2 : ∀ k, s1.heap.objs.size + k ∉ S2.fpx := fun k z => absurd (Nat.lt_of_le_of_lt (Nat.le_add_right _ k) (S2.lt rfl I1 hq2 _ z)) (Nat.lt_irrefl _)
  refine zip_begins2 S1.beg S2.beg (S1.begOk rfl I1 hq1) (S2.begOk rfl I1 hq2) fun h' hz hTI hTO ho1 ho2 hsz hk => args_nil ?_
  refine enumZ hz fun h2 he2 hk2 => wpAny_pyIter_enum he2 ?_
  replace he2 : IsEnum h2 h'.objs.size (s1.heap.objs.size + 4) 0 .none := he2
  replace hk2 : ∀ b o, h'.get? b = some o → h2.get? b = some o := hk2
  have I2 : L2.Inv X pins σ H1 { s1 with heap := h2 } := I1.kept (t' := s1.toks) fun b o z => hk2 b o (hk b o z)
  have ne : ∀ a b : Nat, a ≠ b → s1.heap.objs.size + a ≠ s1.heap.objs.size + b := fun a b h e => h (Nat.add_left_cancel e)
  have mem : ∀ {a b : Nat} {l : List Addr}, a ≠ b → s1.heap.objs.size + a ∉ l → s1.heap.objs.size + a ∉ (s1.heap.objs.size + b) :: l := fun h n z => by
    rcases List.mem_cons.mp z with z | z
    · exact ne _ _ h z
    · exact n z
  have sep : ZipSep2 (s1.heap.objs.size + 4) (s1.heap.objs.size + 2) (s1.heap.objs.size + 3) (s1.heap.objs.size + 0) (s1.heap.objs.size + 1) ((s1.heap.objs.size + 0) :: S1.fpx) ((s1.heap.objs.size + 1) :: S2.fpx) :=
    ⟨ne _ _ (by decide), ne _ _ (by decide), ne _ _ (by decide), ne _ _ (by decide), List.mem_cons_self, mem (by decide) (n1 4), mem (by decide) (n1 3), ne _ _ (by decide), List.mem_cons_self, mem (by decide) (n2 4), mem (by decide) (n2 3), mem (by decide) (n2 0), mem (by decide) (n1 1)⟩
  have hsz : h'.objs.size = s1.heap.objs.size + 5 := hsz
  have q51 : s1.heap.objs.size + 5 ∉ (s1.heap.objs.size + 0) :: S1.fpx := mem (by decide) (n1 5)
  have q52 : s1.heap.objs.size + 5 ∉ (s1.heap.objs.size + 1) :: S2.fpx := mem (by decide) (n2 5)
  rw [hsz] at he2 ⊢
  refine ⟨s1.heap.objs.size + 5, [s1.heap.objs.size + 5, s1.heap.objs.size + 4, s1.heap.objs.size + 2, s1.heap.objs.size + 3, s1.heap.objs.size, s1.heap.objs.size + 1], _, _, H1, rfl, I2,
    turn_ez S1 S2 sep (n1 0) (n2 1) (ne 5 4 (by decide)) (ne 5 2 (by decide)) (ne 5 3 (by decide)) q51 q52, ⟨⟨.none, he2⟩, ⟨.none, false, .inl rfl, hk2 _ _ hz⟩, hk2 _ _ hTI, ⟨_, _, hk2 _ _ hTO⟩, S1.start (hk2 _ _ ho1), S2.start (hk2 _ _ ho2)⟩, fun c hcm => ?_, q⟩
  have hle : s1.heap.objs.size ≤ c := by
    rcases (by simpa using hcm : c = s1.heap.objs.size + 5 ∨ c = s1.heap.objs.size + 4 ∨ c = s1.heap.objs.size + 2 ∨ c = s1.heap.objs.size + 3 ∨ c = s1.heap.objs.size ∨ c = s1.heap.objs.size + 1) with z | z | z | z | z | z
    · rw [z]; exact Nat.le_add_right _ _
    · rw [z]; exact Nat.le_add_right _ _
    · rw [z]; exact Nat.le_add_right _ _
    · rw [z]; exact Nat.le_add_right _ _
    · rw [z]; exact Nat.le_refl _
    · rw [z]; exact Nat.le_add_right _ _
  exact I1.fpOk hle (I1.hok.fresh hle)
theorem ji_enumzip {s s2 : Ps} {ea eb : Expr} {p p2 pos pos2 tpos : Pos} {elts : List Expr} {kk : Nat} (hg : Gl X "enumerate") (hm : X.mg "enumerate" = none) (hg2 : Gl X "zip") (hm2 : X.mg "zip" = none) (hs : noStar ea = true) (hs2 : noStar eb = true) (he : PE X ea (TE (wd X) C Wx s.e)) (he2 : PE X eb (TE (wd X) C Wx s2.e)) :
    PI X (.Tuple elts kk tpos) (.Call (.Name "enumerate" p) [.Call (.Name "zip" p2) [ea, eb] [] pos2] [] pos) (TIt (wd X) C Wx (.enum (.zip s.it s2.it))) :=
  PI.imp (pi_ez hg hm hg2 hm2 hs hs2 he he2) fun τ H R ⟨σ, h, Xd, Q, at_, hw, k⟩ => by
    have hw : wpI bt C s.it Xd σ h fun ds G h1 => wpI bt C s2.it Xd σ h1 fun es G' h2 => G h2 ∧ ((zipD ds es).length ≤ big ∧ Q (enumD (zipD ds es)) (fun h => G h ∧ G' h) h2) := hw
    refine src_ps at_ hw fun its ds G v h1 H1 f rh src sd g q => ?_
    refine src_ps (at_.go f rh) q fun its2 es G' u h2 H2 f2 rh2 src2 sd2 g2 q2 => ?_
    obtain ⟨vs, e, r⟩ := sd h2 H2 f2 rh2 q2.1
    obtain ⟨ws, e2, r2⟩ := sd2 h2 H2 Fr.refl rh2 g2
    exact ⟨its, its2, vs, ws, src, src2, e, e2, k _ _ h2 _ H2 (f.trans f2) rh2 (walk_ez (sd.later f2) sd2) q2.2.2⟩
end
end AR
end

section
set_option Elab.async false
set_option linter.all false
set_option maxRecDepth 100000
set_option maxHeartbeats 4000000
/-! DLX: errors with one word: raise C(word), C.__init__(self, word) of a class whose base's __init__ is called by its name. -/
namespace AR
open PySem PySem.Spec PyProof.Rows L2
section
variable {X : Cx} {CA : Addr} {mc : Value} {xC : Str} {e : Expr} {es : List Expr} {ta : L2.TA} {p1 p2 pos : Pos}
theorem pe_clsinit {pl : Sem Bool} (hg : Gl X xC) (hm : X.mg xC = some (.ref CA)) (hd : (xC == ("__debug__" : Str)) = false) (rd : ClX.CRead X.K CA mc) (vV : PySem.W.findCls X.K (.ref CA) mc "__init__" = some (.val (.builtin "ValueError.__init__"))) (ha : PA X (e :: es) ta)
    (hc : eval (.Call (.Attribute (.Name xC p1) "__init__" p2) (e :: es) [] pos) X.env = (do
      let ov ← eval (.Name xC p1) X.env
      standAt p2.atName
      let (f, first) ← holding [ov] (getMethod ov "__init__" pl)
      callWith pos f first (backTo pos (starEach (e :: es) X.env)) (backToKw pos (keywordEach [] X.env))))
    (he : starEach (e :: es) X.env = (false, eval e X.env) :: starEach es X.env) (hpl : (backTo pos (starEach es X.env)).any (·.1) = false) :
    PE X (.Call (.Attribute (.Name xC p1) "__init__" p2) (e :: es) [] pos) (tVeI X.K ta) := by
  refine ⟨fun pins s σ H Q I h => ?_⟩
  refine PySem.W.methodCall_KW (ld_glob I hg hm ?_ hd) hc
  refine PySem.W.method_cls I.kIn rd.ga (PySem.W.cls_value I.kIn rd.rd vV (by decide +kernel) ?_)
  show wpAny _ _ (callWith pos (Value.builtin "ValueError.__init__") [] (backTo pos (starEach (e :: es) X.env)) []) _ _ _
  refine PyProof.Rows.callWith_method1 (thn (ha.run pos pins _ σ H _ (I.tok _) h) fun us s1 ⟨vs, H1, I1, r1, a, C, ws, ev, hl, T, ea, q⟩ => ?_) he hpl
  subst ev
  cases r1 with
  | @cons _ u0 _ ur ra rw' =>
    obtain rfl : u0 = Value.ref a := ra
    have hlen : ur.length ≤ sizeLine := by
      rw [← Paired.length rw', sizeLine_eq]
      omega
    exact oinit_ok T I1 ea hlen fun s' J => ⟨.non, H1, J, rfl, q⟩
end
/-- C.__init__(self, word) -/
def spInit (K : PySem.W.Frag) (C : Addr) (f : Str) : Sp := fun vs H Q E => ∃ (a : Addr) (y : V), vs = [.ref a, y] ∧ H a = some (exo a C none) ∧ ∀ dx, H dx = none → dx ≠ a → Q .non (upd (upd H dx (exd dx [(f, y)])) a (exo a C (some dx)))
/-- what of the text the class and its base must have -/
structure ErrC (K : PySem.W.Frag) (mg : Str → Option Value) (c xC : Str) (C CA : Addr) (mc : Value) : Prop where
  mgC : mg c = some (.ref C)
  mgA : mg xC = some (.ref CA)
  ox : OexC K C
  rd : ClX.CRead K CA mc
  vV : PySem.W.findCls K (.ref CA) mc "__init__" = some (.val (.builtin "ValueError.__init__"))
  noW : PySem.W.findIn K (.ref C) "word" = some none
section
variable {P : Program} {w : World} {K : PySem.W.Frag} {mg : Str → Option Value} {base : Heap}
theorem init_ok {x qual c xC : Str} {st : Stmt} {f C CA : Addr} {fd : FuncData} {mc : Value} {k : Nat} (F : L2.Fun K x qual st f fd) (S : FnScope ["self", "word"] ["self", "word"] (defScope st)) (T : ErrC K mg c xC C CA mc)
    {p1 p2 p3 p4 p5 p6 p7 p8 p9 p10 : Pos} (hb : defBody st = [.Expr (.Call (.Attribute (.Name xC p1) "__init__" p2) [.Name "self" p3, .Name "word" p4] [] p5) p6, .Assign [.Attribute (.Name "self" p7) "word" p8] (.Name "word" p9) p10])
    (hs : (defScope st).names.lookup (Str.ofString "self") = some .local) (hw : (defScope st).names.lookup (Str.ofString "word") = some .local) (hxn : (defScope st).names.lookup xC = some .globalImplicit) (hd : (xC == ("__debug__" : Str)) = false)
    {pl : Env → Sem Bool} (hcall : ∀ env : Env, eval (.Call (.Attribute (.Name xC p1) "__init__" p2) [.Name "self" p3, .Name "word" p4] [] p5) env = (do
      let ov ← eval (.Name xC p1) env
      standAt p2.atName
      let (f, first) ← holding [ov] (getMethod ov "__init__" (pl env))
      callWith p5 f first (backTo p5 (starEach [.Name "self" p3, .Name "word" p4] env)) (backToKw p5 (keywordEach [] env)))) :
    FnOk P w K mg base (L2.CX P w) (k + 1) f fd ["self", "word"] (spInit K C "word") := by
  refine Fun.okX F S (fun vs H Q E ⟨a, y, e, _⟩ => by rw [e]; rfl) fun cdv A outer s H vs Q E hr hsp => ?_
  obtain ⟨a, y, rfl, ha, hq⟩ := hsp
  rw [hb]
  have v0 : PE (cxOf (L2.CX P w) P w K mg base ["self", "word"] qual (defScope st) f cdv A outer s H E) (.Name "self" p3) (tVar 0) := pe_var rfl (.inl hs)
  have v1 : PE (cxOf (L2.CX P w) P w K mg base ["self", "word"] qual (defScope st) f cdv A outer s H E) (.Name "word" p4) (tVar 1) := pe_var rfl (.inl hw)
  have v2 : PE (cxOf (L2.CX P w) P w K mg base ["self", "word"] qual (defScope st) f cdv A outer s H E) (.Name "self" p7) (tVar 0) := pe_var rfl (.inl hs)
  have v3 : PE (cxOf (L2.CX P w) P w K mg base ["self", "word"] qual (defScope st) f cdv A outer s H E) (.Name "word" p9) (tVar 1) := pe_var rfl (.inl hw)
  have hc := pe_clsinit (p1 := p1) (p2 := p2) (pos := p5) (X := cxOf (L2.CX P w) P w K mg base ["self", "word"] qual (defScope st) f cdv A outer s H E) hxn T.mgA hd T.rd T.vV (pa_cons v0 (pa_cons v1 pa_nil)) (hcall _) rfl rfl
  refine ⟨_, pss_cons (ps_expr hc) (pss_cons (ps_ost v2 v3) pss_nil), ?_⟩
  refine ⟨.ref a, rfl, y, rfl, a, C, [y], rfl, (by simp), T.ox, ha, ?_⟩
  refine ⟨y, rfl, .ref a, rfl, a, C, rfl, T.ox, T.noW, .inl ⟨ha, fun dx n d => ?_⟩⟩
  exact hq dx n d
end
end AR
end

section
set_option Elab.async false
set_option linter.all false
set_option maxRecDepth 100000
set_option maxHeartbeats 4000000
/-! DLX2: raise C(word). -/
namespace AR
open PySem PySem.Spec PyProof.Rows L2
/-- the class c, one word its own -/
def ErrAt (X : Cx) (c : Str) : Prop := ∃ xC C CA mc fI fd ps k, ErrC X.K X.mg c xC C CA mc ∧ PySem.W.findIn X.K (.ref C) "__init__" = some (some (.ref fI)) ∧ PySem.W.typeIn X.K (.ref fI) = some (.type "function") ∧
  FnOk X.prog X.w X.K X.mg X.base (L2.CX X.prog X.w) k fI fd ps (spInit X.K C "word") ∧ Room (k + 1) X.A ∧ Binds X.K fd ps []
def oneWord (c : Str) : Bool := decide (c = "BadPlan") || decide (c = "BadDesign") || decide (c = "Refused")
theorem oneWord_exc {c : Str} (h : oneWord c = true) (w : D) : excOf c [w] = some (.exc c ["word"] [w]) := by
  simp only [oneWord, Bool.or_eq_true, decide_eq_true_eq] at h
  rcases h with (rfl | rfl) | rfl <;> rfl
section
variable {X : Cx} {C : Ctx} {Wx : WX}
theorem js_rse (hc : X.calm = true) (tk : Takes X Wx) {c : Str} {e : E} {ea : Expr} {p pos pos' : Pos} (hE : ErrAt X c) (h1 : oneWord c = true) (hg : Gl X c) (hd : (c == ("__debug__" : Str)) = false) (hs : noStar ea = true) (he : PE X ea (TE (wd X) C Wx e)) :
    PS X (.Raise (some (.Call (.Name c p) [ea] [] pos)) none pos') (TS1 (wd X) C Wx (.rse c (.cons e .nil))) := by
  obtain ⟨xC, C', CA, mc, fI, fd, ps, k, T, iC, tI, F1, hr, hb⟩ := hE
  have ha : PA X [ea] (TA (wd X) C Wx (.cons e .nil)) := ja_cons hs he ja_nil
  refine PS.imp (ps_raise hc tk (pmk_oex (ds := []) (dvs := []) T.ox iC tI F1 hr hb .nil passL hg T.mgC ha hd (star_cons hs) rfl)) fun D τ H ⟨σ, h, Xd, D', at_, hw, ends⟩ => ?_
  have hw : wpEs bt C (.cons e .nil) Xd σ h fun ds h1 => match excOf c ds with
    | some x => Xd x σ h1
    | none => False := hw
  rw [wpEs_len] at hw
  refine ⟨σ, h, Xd, _, at_, hw, fun ds h' vs H' f rh r q => ?_⟩
  obtain ⟨hl, q⟩ := q
  obtain ⟨d, rfl⟩ : ∃ d, ds = [d] := by
    match ds, hl with
    | [d], _ => exact ⟨d, rfl⟩
  cases r with
  | cons rd t =>
    cases t
    rename_i v
    rw [oneWord_exc h1] at q
    have q : Xd (.exc c ["word"] [d]) σ h' := q
    refine ⟨by simp, fun a na => ⟨a, v, rfl, upd_same, fun dx n nd => ⟨rfl, dx, [("word", v)], upd_same, ?_, ?_, ?_⟩⟩⟩
    · rw [upd_ne nd, upd_same]
    · rw [upd_ne nd] at n; exact n
    · have n' : H' dx = none := by rw [upd_ne nd] at n; exact n
      have eH : upd (del (upd (upd (upd H' a (exo a C' none)) dx (exd dx [("word", v)])) a (exo a C' (some dx))) a) dx (.xd [("word", v)]) = upd H' dx (.xd [("word", v)]) := by
        funext b
        by_cases e1 : b = dx
        · subst e1; rw [upd_same, upd_same]
        · rw [upd_ne e1, upd_ne e1]
          by_cases e2 : b = a
          · subst e2; rw [del_same, na]
          · rw [del_ne e2, upd_ne e2, upd_ne e1, upd_ne e2]
      show Wx (.ref C') (some dx) τ _
      rw [eH]
      exact at_.x (.exc c ["word"] [d]) σ h' (.ref C') (some dx) τ _ (f.trans (Fr.new n')) (rh.new n') (at_.s.mono ((f.trans (Fr.new n')).fx at_.hh)) ⟨C', T.mgC, rfl, .inr ⟨dx, [v], rfl, upd_same, .cons (rd.mono (fx_new n')) .nil, rfl⟩⟩ q
end
end AR
end

section
set_option Elab.async false
set_option linter.all false
set_option maxRecDepth 100000
set_option maxHeartbeats 4000000
/-! DLX3: try: .. except C: .. -/
namespace AR
open PySem PySem.Spec PyProof.Rows L2
/-- which classes of errors `except c` takes -/
def CatchOk (K : PySem.W.Frag) (mg : Str → Option Value) (c : Str) : Prop := ∃ cV, mg c = some cV ∧ ∀ c' ∈ errNames, ∀ C', mg c' = some (.ref C') → PySem.W.exmOne K (.ref C') cV = some (decide (c' = c))
section
variable {X : Cx} {C : Ctx} {Wx : WX}
theorem js_try (hs : X.stack = X.env :: X.outer) (hf : X.env.frame = some X.env.locals) (tk : Takes X Wx) {c : Str} {b su : Ss} {ba : List Stmt} {b₀ : Stmt} {sa : List Stmt} {np pos pos' : Pos} (hC : CatchOk X.K X.mg c) (hg : Gl X c) (hd : (c == ("__debug__" : Str)) = false)
    (hb : ∀ (W : WX) (pn : List (Addr × Obj)) (xe : Value → Shared → Prop), Takes (X.tr pn xe) W → PassesOwn (model X.prog X.w) X.A X.env xe → PSs (X.tr pn xe) ba (TSs (wd X) C W b))
    (hsu : ∀ (a : Addr) (pn : List (Addr × Obj)), PSs (X.suite a pn) (b₀ :: sa) (TSs (wd X) C Wx0 su)) :
    PS X (.Try ba [.ExceptHandler (some (.Name c np)) none (b₀ :: sa) pos'] [] [] pos) (TS1 (wd X) C Wx (.tryx b c none su)) := by
  obtain ⟨cV, hm, hcat⟩ := hC
  refine PS.imp (ps_try_only (c := cV) (tb := fun W => TSs (wd X) C W b) (ts := fun _ _ _ => TSs (wd X) C Wx0 su) hs hf ⟨hg, hd, .inl hm⟩ tk hb fun a oe cls d pn _ _ => hsu a _) fun Dv τ H ⟨σ, h, Xd, D, at_, hw, ends⟩ => ?_
  have hw : wpSs bt C b (fun x σ' h' => match excK c x with
    | some true => wpSs bt C su (fun _ _ _ => False) D σ' h'
    | some false => Xd x σ' h'
    | none => False) D σ h := hw
  refine ⟨σ, h, _, D, ⟨at_.s, at_.hh, fun x σ' h' cls d τ' H' f rh rs rx q => ?_⟩, hw, ends⟩
  cases x with
  | exc c' fs vs =>
    have rx0 := rx
    obtain ⟨C', m', rfl, _⟩ := rx
    by_cases hin : c' ∈ errNames
    · have ek : excK c (.exc c' fs vs) = some (decide (c' = c)) := if_pos hin
      rw [ek] at q
      refine ⟨_, hcat c' hin C' m', fun hb' a na => ?_, fun hb' => ?_⟩
      · rw [hb'] at q
        exact ⟨σ', h', X0, D, ⟨rs, rh, fun _ _ _ _ _ _ _ _ _ _ _ z => z.elim⟩, q, ends.go f⟩
      · rw [hb'] at q
        exact at_.x _ σ' h' _ d τ' H' f rh rs rx0 q
    · have ek : excK c (.exc c' fs vs) = none := if_neg hin
      rw [ek] at q
      exact q.elim
  | _ => exact rx.elim
end
end AR
end

section
set_option Elab.async false
set_option linter.all false
set_option maxRecDepth 100000
set_option maxHeartbeats 4000000
/-! DLK1: the checker: is the IR that of the text? -/
namespace AR
open PySem PySem.Spec PyProof.Rows L2
structure Kx where
  N : List Str
  sc : Scope
  calm : Bool
  fb : Str → Bool
  fns : List Str
  cats : List Str
  errs : List Str
def bltN : List Str := ["len", "list", "tuple", "all", "any", "sorted", "int", "dict", "isinstance", "range", "enumerate", "zip", "bool", "str"]
def glB (K : Kx) (x : Str) : Bool := decide (K.sc.names.lookup x = some .globalImplicit)
def ndb (x : Str) : Bool := !(x == ("__debug__" : Str))
def bltB (K : Kx) (x : Str) : Bool := glB K x && decide (x ∈ bltN)
def visB (K : Kx) (x : Str) : Bool := decide (K.sc.names.lookup x = some .local) || (decide (K.sc.names.lookup x = some .cell) || decide (K.sc.names.lookup x = some .free))
def isVar (K : Kx) (i : Nat) (x : Str) : Bool := decide (K.N[i]? = some x) && (visB K x && (ndb x && !(x == ("__classdict__" : Str))))
def stB (K : Kx) (x : Str) : Bool := decide (K.sc.names.lookup x = some .local) || (decide (K.sc.names.lookup x = some .cell) && K.fb x)
def blkK (K : Kx) (scope : Scope) : Kx := { K with sc := relS scope K.sc, fb := fun x => scope.names.lookup x == some .cell }
def plainT : Expr → Bool
  | .UnaryOp .Not _ _ => false
  | .BoolOp .. => false
  | .IfExp .. => false
  | .Compare .. => false
  | _ => true
def isBool : Expr → Bool
  | .BoolOp .. => true
  | _ => false
def ownL (K : Kx) (own : List Nat) : List (Str × Nat) := own.map fun i => (K.N.getD i "", i)
theorem ownL_snd (K : Kx) (own : List Nat) : (ownL K own).map (·.2) = own := by
  unfold ownL
  rw [List.map_map]
  exact List.map_id _
def allTy : List TyN := [.int, .bool, .str, .tuple, .list, .dict]
def tyFind (T : Str) : Option TyN := allTy.find? fun t => decide (tyS t = T)
theorem tyFind_ok {T : Str} {t : TyN} (h : tyFind T = some t) : tyS t = T := by
  have := List.find?_some h
  exact of_decide_eq_true this
mutual
def ckG (K : Kx) : Tg → Expr → Bool
  | .name i, e => match e with
    | .Name x _ => decide (K.N[i]? = some x) && stB K x
    | _ => false
  | .tup ts, e => match e with
    | .Tuple es _ _ => K.calm && (es.all noStar && (decide (ts.length = es.length) && ckGs K ts es))
    | _ => false
def ckGs (K : Kx) : List Tg → List Expr → Bool
  | [], es => es.isEmpty
  | t :: ts, es => match es with
    | e :: r => noStar e && (ckG K t e && ckGs K ts r)
    | [] => false
end
def idsIn (own : List Nat) (g : Tg) : Bool := g.ids.all fun i => decide (i ∈ own)
mutual
/-- t: the place is a test's -/
def ck (K : Kx) (t : Bool) : E → Expr → Bool
  | .var i, ea => match ea with
    | .Name x _ => isVar K i x
    | _ => false
  | .int i, ea => match ea with
    | .Constant (.int j) _ _ => decide (i = j)
    | _ => false
  | .str x, ea => match ea with
    | .Constant (.str y) _ _ => decide (x = y) && PyData.strOk x
    | _ => false
  | .bl b, ea => match ea with
    | .Constant (.bool c) _ _ => decide (b = c)
    | _ => false
  | .non, ea => match ea with
    | .Constant .none _ _ => true
    | _ => false
  | .gl x, ea => match ea with
    | .Name y _ => decide (x = y) && (glB K x && ndb x)
    | _ => false
  | .neg a, ea => match ea with
    | .UnaryOp .USub b _ => ck K false a b
    | _ => false
  | .bin o a b, ea => match ea with
    | .BinOp l op r _ => decide (op = astB o) && (ck K false a l && ck K false b r)
    | _ => false
  | .cmp o a b, ea => match ea with
    | .Compare l [op] [r] _ => decide (op = astC o) && (markOk o r && (ck K false a l && ck K false b r))
    | _ => false
  | .chain o o' a b c, ea => match ea with
    | .Compare l [op, op'] [r, r'] _ => (decide (op = astC o) && decide (op' = astC o')) && (markOk o' r' && (ck K false a l && (ck K false b r && ck K false c r')))
    | _ => false
  | .and a b, ea => match ea with
    | .BoolOp .And [x, y] _ => ck K t a x && ck K t b y
    | .BoolOp .And (x :: y :: z :: rest) pos => ck K t a x && ck K t b (.BoolOp .And (y :: z :: rest) pos)
    | _ => false
  | .or a b, ea => match ea with
    | .BoolOp .Or [x, y] _ => ck K t a x && ck K t b y
    | .BoolOp .Or (x :: y :: z :: rest) pos => ck K t a x && ck K t b (.BoolOp .Or (y :: z :: rest) pos)
    | _ => false
  | .not a, ea => match ea with
    | .UnaryOp .Not b _ => ck K t a b
    | _ => false
  | .ite c a b, ea => match ea with
    | .IfExp x y z _ => !t && (ck K true c x && (ck K false a y && ck K false b z))
    | _ => false
  | .tup es, ea => match ea with
    | .Tuple eas _ _ => decide (es.len ≤ big) && ckEs K es eas
    | _ => false
  | .lst es, ea => match ea with
    | .List eas _ => decide (es.len ≤ big) && ckEs K es eas
    | _ => false
  | .dct d kvs, ea => match ea with
    | .Dict ks vs _ => match kvs with
      | .nil => ks.isEmpty && vs.isEmpty
      | .cons k v r => (!d && decide (ks.length = vs.length)) && (decide (ks.length ≤ 15) && (decide (r.len ≤ 14) && (match ks with
        | some kx :: ks' => match vs with
          | vx :: vs' => ck K false k kx && (ck K false v vx && ckKvs K r ks' vs')
          | [] => false
        | _ => false)))
    | _ => false
  | .ix o i, ea => match ea with
    | .Subscript x y _ => plainIx y && (ck K false o x && ck K false i y)
    | _ => false
  | .sl o lo hi, ea => match ea with
    | .Subscript x (.Slice l h none _) _ => ck K false o x && (ckO K lo l && ckO K hi h)
    | _ => false
  | .rev o, ea => match ea with
    | .Subscript x (.Slice none none (some (.UnaryOp .USub (.Constant (.int j) _ _) _)) _) _ => decide (j = 1) && ck K false o x
    | _ => false
  | .call x es, ea => match ea with
    | .Call (.Name y _) args [] _ => (decide (x = y) && (decide (x ∈ K.fns) && (glB K x && ndb x))) && (!args.isEmpty && ckEs K es args)
    | _ => false
  | .b1 f e, ea => match ea with
    | .Call (.Name y _) [a] [] _ => (decide (y = b1S f) && (b1Ok f && (K.calm && bltB K y))) && (noStar a && ck K false e a)
    | _ => false
  | .isi e T, ea => match ea with
    | .Call (.Name y _) [a, .Name z _] [] _ => (decide (y = "isinstance") && (decide (z = T) && (bltB K y && (bltB K z && (tyFind T).isSome)))) && (noStar a && ck K false e a)
    | _ => false
  | .lrange e, ea => match ea with
    | .Call (.Name y _) [.Call (.Name z _) [a] [] _] [] _ => (decide (y = "list") && (decide (z = "range") && (K.calm && (bltB K y && bltB K z)))) && (noStar a && ck K false e a)
    | _ => false
  | .meth m o es, ea => match ea with
    | .Call (.Attribute oa m' apos) args [] cpos => (decide (m = m') && (noSuper oa && (apos.endLine == cpos.line))) && (ck K false o oa && (match es with
      | .nil => decide (m = "pop") && args.isEmpty
      | .cons e .nil => (match args with
        | [a] => (decide (m = "append") || (decide (m = "pop") || (decide (m = "extend") || (decide (m = "get") || decide (m = "update"))))) && (noStar a && ck K false e a)
        | _ => false)
      | .cons e (.cons e2 .nil) => (match args with
        | [a, b] => decide (m = "get") && ((noStar a && noStar b) && (ck K false e a && ck K false e2 b))
        | _ => false)
      | _ => false))
    | _ => false
  | .lc e g it c own, ea => match ea with
    | .ListComp elt [⟨ta, ia, ifs, 0⟩] scope _ => (K.calm && (idsIn own g && (foldSet ia && (blkC K.N K.sc scope (ownL K own) && ckG (blkK K scope) g ta)))) && (ckI K it ta ia && (ckC (blkK K scope) c ifs && ck (blkK K scope) false e elt))
    | _ => false
  | .dc d k v g it c own, ea => match ea with
    | .DictComp kx elt [⟨ta, ia, ifs, 0⟩] scope _ => (K.calm && (idsIn own g && (foldSet ia && (blkC K.N K.sc scope (ownL K own) && ckG (blkK K scope) g ta)))) && (ckI K it ta ia && (ckC (blkK K scope) c ifs && (ck (blkK K scope) false k kx && ck (blkK K scope) false v elt)))
    | _ => false
  | .callv _ _, _ => false
  | .mk _ _, _ => false
  | .min2 _ _, _ => false
  | .max2 _ _, _ => false
  | .fld _ _, _ => false
def ckEs (K : Kx) : Es → List Expr → Bool
  | .nil, l => l.isEmpty
  | .cons e es, l => match l with
    | a :: r => noStar a && (ck K false e a && ckEs K es r)
    | [] => false
def ckKvs (K : Kx) : Kvs → List (Option Expr) → List Expr → Bool
  | .nil, ks, vs => ks.isEmpty && vs.isEmpty
  | .cons k v r, ks, vs => match ks with
    | some kx :: ks' => match vs with
      | vx :: vs' => ck K false k kx && (ck K false v vx && ckKvs K r ks' vs')
      | [] => false
    | _ => false
def ckO (K : Kx) : Oe → Option Expr → Bool
  | .none, a => a.isNone
  | .some e, a => match a with
    | some x => ck K false e x
    | none => false
def ckC (K : Kx) : Oe → List Expr → Bool
  | .none, a => a.isEmpty
  | .some e, a => match a with
    | [x] => ck K true e x
    | _ => false
/-- a plain source -/
def ckP (K : Kx) : It → Expr → Bool
  | .val e, ia => ck K false e ia
  | .chars e, ia => ck K false e ia
  | _, _ => false
def ckZ (K : Kx) : It → Expr → Bool
  | .zip a b, ia => match ia with
    | .Call (.Name y _) [x, z] [] _ => (decide (y = "zip") && (bltB K y && (noStar x && noStar z))) && (ckP K a x && ckP K b z)
    | _ => false
  | _, _ => false
def ckI (K : Kx) : It → Expr → Expr → Bool
  | .val e, ta, ia => ck K false e ia
  | .chars e, ta, ia => ck K false e ia
  | .range1 e, ta, ia => match ia with
    | .Call (.Name y _) [a] [] _ => (decide (y = "range") && (bltB K y && noStar a)) && ck K false e a
    | _ => false
  | .range2 e e2, ta, ia => match ia with
    | .Call (.Name y _) [a, b] [] _ => (decide (y = "range") && (bltB K y && (noStar a && noStar b))) && (ck K false e a && ck K false e2 b)
    | _ => false
  | .enum it, ta, ia => match ta with
    | .Tuple _ _ _ => (match ia with
      | .Call (.Name y _) [a] [] _ => (decide (y = "enumerate") && (bltB K y && noStar a)) && (ckP K it a || ckZ K it a)
      | _ => false)
    | _ => false
  | .zip a b, ta, ia => match ta with
    | .Tuple _ _ _ => (match ia with
      | .Call (.Name y _) [x, z] [] _ => (decide (y = "zip") && (bltB K y && (noStar x && noStar z))) && (ckP K a x && ckP K b z)
      | _ => false)
    | _ => false
  | .keys _, _, _ => false
  | .items _, _, _ => false
  | .values _, _, _ => false
end
end AR
end

section
set_option Elab.async false
set_option linter.all false
set_option maxRecDepth 100000
set_option maxHeartbeats 4000000
/-! DLK2: the checker is sound: expressions. -/
namespace AR
open PySem PySem.Spec PyProof.Rows L2
structure GdE (X : Cx) (C : Ctx) (K : Kx) : Prop where
  n : X.N = K.N
  nd : X.N.Nodup
  sc : X.env.scope = K.sc
  ru : RoomE X
  cm : K.calm = true → X.calm = true
  fo : ∀ x ∈ K.fns, ∃ S, C.fn x = some S ∧ FnAt X x S
  gl : GlOk (wd X) C
  bl : ∀ x ∈ bltN, X.mg x = none
  fb : ∀ x, K.fb x = true → X.fn x = true
theorem GdE.blk {X : Cx} {C : Ctx} {K : Kx} (g : GdE X C K) (scope : Scope) (s : Shared) (H : Hp) (C' : Addr) (cl : List (Str × Addr)) (fp : List Addr) : GdE (X.blk s H scope (compEnvC scope cl C' X.env) fp) C (blkK K scope) where
  n := g.n
  nd := g.nd
  sc := by
    show relS scope X.env.scope = relS scope K.sc
    rw [g.sc]
  ru := g.ru
  cm := g.cm
  fo := fun x e => g.fo x e
  gl := g.gl
  bl := g.bl
  fb := fun x e => e
section
variable {X : Cx} {C : Ctx} {K : Kx}
theorem GdE.glb (g : GdE X C K) {x : Str} (h : glB K x = true) : Gl X x := by
  show X.env.scope.names.lookup x = some .globalImplicit
  rw [g.sc]
  exact of_decide_eq_true h
theorem ndb_ok {x : Str} (h : ndb x = true) : (x == ("__debug__" : Str)) = false := by
  unfold ndb at h
  simpa using h
theorem GdE.blt (g : GdE X C K) {x : Str} (h : bltB K x = true) : Gl X x ∧ X.mg x = none := by
  simp only [bltB, Bool.and_eq_true, decide_eq_true_eq] at h
  exact ⟨g.glb h.1, g.bl x h.2⟩
theorem GdE.vis (g : GdE X C K) {x : Str} (h : visB K x = true) : Vis X.env.scope x := by
  simp only [visB, Bool.or_eq_true, decide_eq_true_eq] at h
  show X.env.scope.names.lookup x = some .local ∨ X.env.scope.names.lookup x = some .cell ∨ X.env.scope.names.lookup x = some .free
  rw [g.sc]
  exact h
theorem GdE.st (g : GdE X C K) {x : Str} (h : stB K x = true) : Loc X.env.scope x ∧ (X.fn x = true ∨ X.env.scope.names.lookup x = some .local) := by
  simp only [stB, Bool.or_eq_true, Bool.and_eq_true, decide_eq_true_eq] at h
  show (X.env.scope.names.lookup x = some .local ∨ X.env.scope.names.lookup x = some .cell) ∧ _
  rw [g.sc]
  rcases h with h | ⟨h, f⟩
  · exact ⟨.inl h, .inr h⟩
  · exact ⟨.inr h, .inl (g.fb x f)⟩
theorem plain_ok {ea : Expr} (h : plainT ea = true) (env : Env) : ∀ whole, isTrue ea env whole = (do let v ← whole; standAt ea.pos; holding [v] (truthy v)) := fun whole => by
  cases ea with
  | UnaryOp op b p => cases op <;> first | rfl | (cases h)
  | _ => first | rfl | (cases h)
theorem plain_nb {ea : Expr} (hp : plainT ea = true) : isBool ea = false := by
  cases ea <;> first | rfl | (simp [plainT] at hp)
/-- what is shown of an expression at its place -/
structure Snd (X : Cx) (C : Ctx) (Wx : WX) (t : Bool) (e : E) (ea : Expr) : Prop where
  pe : t = false → PE X ea (TE (wd X) C Wx e)
  pt : t = true → PT X ea (TT (wd X) C Wx e)
  pw : t = true → isBool ea = true → PW X ea (TT (wd X) C Wx e)
variable {Wx : WX} {t : Bool}
theorem Snd.val {e : E} {ea : Expr} (hp : plainT ea = true) (h : PE X ea (TE (wd X) C Wx e)) : Snd X C Wx t e ea :=
  ⟨fun _ => h, fun _ => jt_val (plain_ok hp X.env) h, fun _ b => by rw [plain_nb hp] at b; cases b⟩
theorem Snd.two {e : E} {ea : Expr} (h : PE X ea (TE (wd X) C Wx e)) (h2 : PT X ea (TT (wd X) C Wx e)) (n : isBool ea = false) : Snd X C Wx t e ea :=
  ⟨fun _ => h, fun _ => h2, fun _ b => by rw [n] at b; cases b⟩
/-! ### targets -/
theorem jg_nameL {i : Nat} {x : Str} {pos : Pos} (hN : X.N.Nodup) (hi : X.N[i]? = some x) (hx : Loc X.env.scope x) (hf : X.fn x = true ∨ X.env.scope.names.lookup x = some .local) : PG X (.Name x pos) (TGd (wd X) (.name i)) :=
  PG.imp (pg_name hN hi hx hf) fun v τ H Q ⟨d, σ, σ1, r, s, e, k⟩ => by
    have e : some (σ.set i (some d)) = some σ1 := by rw [← e]; unfold tgSet; rfl
    cases e
    exact k _ (fun vs h => wipe_set (h i (by simp [Tg.ids]))) (s.set r)
mutual
theorem snd_g (g : GdE X C K) : ∀ (tg : Tg) (ta : Expr), ckG K tg ta = true → PG X ta (TGd (wd X) tg)
  | .name i, ta, h => by
    unfold ckG at h
    split at h
    · simp only [Bool.and_eq_true, decide_eq_true_eq] at h
      obtain ⟨a, b⟩ := g.st h.2
      exact jg_nameL g.nd (by rw [g.n]; exact h.1) a b
    · cases h
  | .tup ts, ta, h => by
    unfold ckG at h
    split at h
    · simp only [Bool.and_eq_true, decide_eq_true_eq] at h
      exact jg_tup (g.cm h.1) h.2.1 h.2.2.1 (snd_gs g ts _ h.2.2.2)
    · cases h
theorem snd_gs (g : GdE X C K) : ∀ (ts : List Tg) (es : List Expr), ckGs K ts es = true → PGs X es (TGds (wd X) ts)
  | [], es, h => by
    have h : es.isEmpty = true := h
    cases es with
    | nil => exact jgs_nil
    | cons a b => cases h
  | t :: ts, es, h => by
    unfold ckGs at h
    split at h
    · simp only [Bool.and_eq_true] at h
      exact jgs_cons h.1 (snd_g g t _ h.2.1) (snd_gs g ts _ h.2.2)
    · cases h
end
end
end AR
end

section
set_option Elab.async false
set_option linter.all false
set_option maxRecDepth 100000
set_option maxHeartbeats 4000000
/-! DLK3: the checker is sound: expressions. -/
namespace AR
open PySem PySem.Spec PyProof.Rows L2
section
variable {C : Ctx}
theorem ids_ok {own : List Nat} {g : Tg} {K : Kx} (h : idsIn own g = true) : ∀ i ∈ g.ids, i ∈ (ownL K own).map (·.2) := fun i hi => by
  rw [ownL_snd]
  unfold idsIn at h
  exact of_decide_eq_true (List.all_eq_true.mp h i hi)
theorem pps_len {X : Cx} {pos : Pos} : True := trivial
mutual
theorem snd_e : ∀ (e : E) {K : Kx} {X : Cx} {Wx : WX} {t : Bool} {ea : Expr}, GdE X C K → Takes X Wx → ck K t e ea = true → Snd X C Wx t e ea
  | .var i, K, X, Wx, t, ea, g, tk, h => by
    unfold ck at h
    split at h
    · simp only [isVar, Bool.and_eq_true, decide_eq_true_eq, Bool.not_eq_true'] at h
      exact .val rfl (je_var (by rw [g.n]; exact h.1) (g.vis h.2.1) (ndb_ok h.2.2.1) h.2.2.2)
    · cases h
  | .int i, K, X, Wx, t, ea, g, tk, h => by
    unfold ck at h
    split at h
    · simp only [decide_eq_true_eq] at h
      subst h
      exact .val rfl je_int
    · cases h
  | .str x, K, X, Wx, t, ea, g, tk, h => by
    unfold ck at h
    split at h
    · simp only [Bool.and_eq_true, decide_eq_true_eq] at h
      obtain ⟨h1, h2⟩ := h
      subst h1
      exact .val rfl (je_str h2)
    · cases h
  | .bl b, K, X, Wx, t, ea, g, tk, h => by
    unfold ck at h
    split at h
    · simp only [decide_eq_true_eq] at h
      subst h
      exact .val rfl je_bl
    · cases h
  | .non, K, X, Wx, t, ea, g, tk, h => by
    unfold ck at h
    split at h
    · exact .val rfl je_non
    · cases h
  | .gl x, K, X, Wx, t, ea, g, tk, h => by
    unfold ck at h
    split at h
    · simp only [Bool.and_eq_true, decide_eq_true_eq] at h
      obtain ⟨h1, h2, h3⟩ := h
      subst h1
      exact .val rfl (je_gl g.gl (g.glb h2) (ndb_ok h3))
    · cases h
  | .neg a, K, X, Wx, t, ea, g, tk, h => by
    unfold ck at h
    split at h
    · exact .val rfl (je_neg ((snd_e a g tk h).pe rfl))
    · cases h
  | .bin o a b, K, X, Wx, t, ea, g, tk, h => by
    unfold ck at h
    split at h
    · simp only [Bool.and_eq_true, decide_eq_true_eq] at h
      obtain ⟨h1, h2, h3⟩ := h
      subst h1
      exact .val rfl (je_bin ((snd_e a g tk h2).pe rfl) ((snd_e b g tk h3).pe rfl))
    · cases h
  | .cmp o a b, K, X, Wx, t, ea, g, tk, h => by
    unfold ck at h
    split at h
    · simp only [Bool.and_eq_true, decide_eq_true_eq] at h
      obtain ⟨h1, h2, h3, h4⟩ := h
      subst h1
      have ha := (snd_e a g tk h3).pe rfl
      have hb := (snd_e b g tk h4).pe rfl
      exact .two (je_cmp g.ru h2 ha hb) (jt_cmp g.ru h2 ha hb) rfl
    · cases h
  | .chain o o' a b c, K, X, Wx, t, ea, g, tk, h => by
    unfold ck at h
    split at h
    · simp only [Bool.and_eq_true, decide_eq_true_eq] at h
      obtain ⟨⟨h1, h1'⟩, h2, h3, h4, h5⟩ := h
      subst h1 h1'
      have ha := (snd_e a g tk h3).pe rfl
      have hb := (snd_e b g tk h4).pe rfl
      have hc := (snd_e c g tk h5).pe rfl
      exact .two (je_chain g.ru h2 ha hb hc) (jt_chain g.ru h2 ha hb hc) rfl
    · cases h
  | .and a b, K, X, Wx, t, ea, g, tk, h => by
    unfold ck at h
    split at h
    · simp only [Bool.and_eq_true] at h
      have ha := snd_e a g tk h.1
      have hb := snd_e b g tk h.2
      exact ⟨fun e => je_and (ha.pe e) (pe_one (hb.pe e)), fun e => (pw_andF (ha.pt e) (pw_and1 (hb.pt e))).pt, fun e _ => pw_andF (ha.pt e) (pw_and1 (hb.pt e))⟩
    · simp only [Bool.and_eq_true] at h
      have ha := snd_e a g tk h.1
      have hb := snd_e b g tk h.2
      exact ⟨fun e => je_and (ha.pe e) (hb.pe e), fun e => (pw_andF (ha.pt e) (hb.pw e rfl)).pt, fun e _ => pw_andF (ha.pt e) (hb.pw e rfl)⟩
    · cases h
  | .or a b, K, X, Wx, t, ea, g, tk, h => by
    unfold ck at h
    split at h
    · simp only [Bool.and_eq_true] at h
      have ha := snd_e a g tk h.1
      have hb := snd_e b g tk h.2
      exact ⟨fun e => je_or (ha.pe e) (pe_one (hb.pe e)), fun e => (pw_orF (ha.pt e) (pw_or1 (hb.pt e))).pt, fun e _ => pw_orF (ha.pt e) (pw_or1 (hb.pt e))⟩
    · simp only [Bool.and_eq_true] at h
      have ha := snd_e a g tk h.1
      have hb := snd_e b g tk h.2
      exact ⟨fun e => je_or (ha.pe e) (hb.pe e), fun e => (pw_orF (ha.pt e) (hb.pw e rfl)).pt, fun e _ => pw_orF (ha.pt e) (hb.pw e rfl)⟩
    · cases h
  | .not a, K, X, Wx, t, ea, g, tk, h => by
    unfold ck at h
    split at h
    · have ha := snd_e a g tk h
      exact ⟨fun e => je_not (ha.pe e), fun e => jt_not (ha.pt e), fun _ b => by cases b⟩
    · cases h
  | .ite c a b, K, X, Wx, t, ea, g, tk, h => by
    unfold ck at h
    split at h
    · simp only [Bool.and_eq_true, Bool.not_eq_true'] at h
      obtain ⟨h1, h2, h3, h4⟩ := h
      subst h1
      exact ⟨fun _ => je_ite ((snd_e c g tk h2).pt rfl) ((snd_e a g tk h3).pe rfl) ((snd_e b g tk h4).pe rfl), fun e => Bool.noConfusion e, fun e => Bool.noConfusion e⟩
    · cases h
  | .tup es, K, X, Wx, t, ea, g, tk, h => by
    unfold ck at h
    split at h
    · simp only [Bool.and_eq_true, decide_eq_true_eq] at h
      exact .val rfl (je_tup h.1 (snd_es es g tk h.2))
    · cases h
  | .lst es, K, X, Wx, t, ea, g, tk, h => by
    unfold ck at h
    split at h
    · simp only [Bool.and_eq_true, decide_eq_true_eq] at h
      exact .val rfl (je_lst h.1 (snd_es es g tk h.2))
    · cases h
  | .dct d .nil, K, X, Wx, t, ea, g, tk, h => by
    unfold ck at h
    split at h
    · rename_i ks vs p
      simp only [Bool.and_eq_true, List.isEmpty_iff] at h
      obtain ⟨h1, h2⟩ := h
      subst h1 h2
      exact .val rfl je_dct0
    · cases h
  | .dct d (.cons k v r), K, X, Wx, t, ea, g, tk, h => by
    unfold ck at h
    split at h
    · rename_i ks vs p
      simp only [Bool.and_eq_true, Bool.not_eq_true', decide_eq_true_eq] at h
      obtain ⟨⟨h0, h1⟩, h2, h3, h4⟩ := h
      split at h4
      · split at h4
        · simp only [Bool.and_eq_true] at h4
          subst h0
          obtain ⟨hp, hall⟩ := snd_kvs r g tk h4.2.2 p
          exact .val rfl (je_dct (pps_cons ((snd_e k g tk h4.1).pe rfl) ((snd_e v g tk h4.2.1).pe rfl) hp) (by rw [List.all_cons, hall]; rfl) h1 (by simp) h2 (by simp only [Kvs.len]; omega))
        · cases h4
      · cases h4
    · cases h
  | .ix o i, K, X, Wx, t, ea, g, tk, h => by
    unfold ck at h
    split at h
    · simp only [Bool.and_eq_true] at h
      exact .val rfl (je_ix g.ru h.1 ((snd_e o g tk h.2.1).pe rfl) ((snd_e i g tk h.2.2).pe rfl))
    · cases h
  | .sl o lo hi, K, X, Wx, t, ea, g, tk, h => by
    unfold ck at h
    split at h
    · simp only [Bool.and_eq_true] at h
      exact .val rfl (je_sl ((snd_e o g tk h.1).pe rfl) (snd_o lo g tk h.2.1) (snd_o hi g tk h.2.2))
    · cases h
  | .rev o, K, X, Wx, t, ea, g, tk, h => by
    unfold ck at h
    split at h
    · simp only [Bool.and_eq_true, decide_eq_true_eq] at h
      obtain ⟨h1, h2⟩ := h
      subst h1
      exact .val rfl (je_rev ((snd_e o g tk h2).pe rfl))
    · cases h
  | .call x es, K, X, Wx, t, ea, g, tk, h => by
    unfold ck at h
    split at h
    · simp only [Bool.and_eq_true, decide_eq_true_eq, Bool.not_eq_true'] at h
      obtain ⟨⟨h1, h2, h3, h4⟩, h5, h6⟩ := h
      subst h1
      have hs := es_star es h6
      have ha := snd_es es g tk h6
      rename_i args _
      cases args with
      | nil => cases h5
      | cons a as =>
        cases es with
        | nil => exact absurd h6 (by unfold ckEs; simp)
        | cons e0 es0 => exact .val rfl (je_call (g.fo _ h2) tk (g.glb h3) (ndb_ok h4) hs ha)
    · cases h
  | .b1 f e, K, X, Wx, t, ea, g, tk, h => by
    unfold ck at h
    split at h
    · simp only [Bool.and_eq_true, decide_eq_true_eq] at h
      obtain ⟨⟨h1, h2, h3, h4⟩, h5, h6⟩ := h
      subst h1
      exact .val rfl (je_b1 (g.cm h3) h2 (g.blt h4).1 (g.blt h4).2 h5 ((snd_e e g tk h6).pe rfl))
    · cases h
  | .isi e T, K, X, Wx, t, ea, g, tk, h => by
    unfold ck at h
    split at h
    · simp only [Bool.and_eq_true, decide_eq_true_eq] at h
      obtain ⟨⟨h1, h2, h3, h4, h5⟩, h6, h7⟩ := h
      subst h1 h2
      obtain ⟨T', eT⟩ := Option.isSome_iff_exists.mp h5
      have q := tyFind_ok eT
      rw [← q] at h4 ⊢
      exact .val rfl (je_isi (g.blt h3).1 (g.blt h3).2 (g.blt h4).1 (g.blt h4).2 h6 ((snd_e e g tk h7).pe rfl))
    · cases h
  | .lrange e, K, X, Wx, t, ea, g, tk, h => by
    unfold ck at h
    split at h
    · simp only [Bool.and_eq_true, decide_eq_true_eq] at h
      obtain ⟨⟨h1, h2, h3, h4, h5⟩, h6, h7⟩ := h
      subst h1 h2
      exact .val rfl (je_lrange (g.cm h3) (g.blt h4).1 (g.blt h4).2 (g.blt h5).1 (g.blt h5).2 h6 ((snd_e e g tk h7).pe rfl))
    · cases h
  | .meth m o .nil, K, X, Wx, t, ea, g, tk, h => by
    unfold ck at h
    split at h
    · simp only [Bool.and_eq_true, decide_eq_true_eq, List.isEmpty_iff] at h
      obtain ⟨⟨h1, h2, h3⟩, h4, h5, h6⟩ := h
      subst h1 h5 h6
      exact .val rfl (je_lpop0 ((snd_e o g tk h4).pe rfl) h2 h3)
    · cases h
  | .meth m o (.cons e .nil), K, X, Wx, t, ea, g, tk, h => by
    unfold ck at h
    split at h
    · simp only [Bool.and_eq_true, decide_eq_true_eq] at h
      obtain ⟨⟨h1, h2, h3⟩, h4, h5⟩ := h
      subst h1
      split at h5
      · simp only [Bool.and_eq_true, decide_eq_true_eq, Bool.or_eq_true] at h5
        obtain ⟨h5, h6, h7⟩ := h5
        have ho := (snd_e o g tk h4).pe rfl
        have he := (snd_e e g tk h7).pe rfl
        have ha : PA X _ (TA (wd X) C Wx (.cons e .nil)) := ja_cons h6 he ja_nil
        rcases h5 with h5 | h5 | h5 | h5 | h5 <;> subst h5
        · exact .val rfl (je_lapp ho h2 h3 h6 ha)
        · exact .val rfl (je_lpop ho h2 h3 h6 ha)
        · exact .val rfl (je_lext ho h2 h3 h6 ha)
        · exact .val rfl (je_get1 g.ru ho he h2 h3 h6)
        · exact .val rfl (je_upd g.ru ho he h2 h3 h6)
      · cases h5
    · cases h
  | .meth m o (.cons e (.cons e2 .nil)), K, X, Wx, t, ea, g, tk, h => by
    unfold ck at h
    split at h
    · simp only [Bool.and_eq_true, decide_eq_true_eq] at h
      obtain ⟨⟨h1, h2, h3⟩, h4, h5⟩ := h
      subst h1
      split at h5
      · simp only [Bool.and_eq_true, decide_eq_true_eq] at h5
        obtain ⟨h5, ⟨h6, h6'⟩, h7, h8⟩ := h5
        subst h5
        exact .val rfl (je_get2 g.ru ((snd_e o g tk h4).pe rfl) ((snd_e e g tk h7).pe rfl) ((snd_e e2 g tk h8).pe rfl) h2 h3 h6 h6')
      · cases h5
    · cases h
  | .meth m o (.cons e (.cons e2 (.cons e3 r))), K, X, Wx, t, ea, g, tk, h => by
    unfold ck at h
    split at h
    · simp only [Bool.and_eq_true] at h
      exact Bool.noConfusion h.2.2
    · cases h
  | .lc e gt it c own, K, X, Wx, t, ea, g, tk, h => by
    unfold ck at h
    split at h
    · rename_i elt ta ia ifs scope pos
      simp only [Bool.and_eq_true] at h
      obtain ⟨⟨h1, h2, h3, h4, h5⟩, h6, h7, h8⟩ := h
      have q := je_lc (C := C) (Wx := Wx) (pos := pos) (g.cm h1) g.nd (ids_ok h2) h3 (snd_i it g tk h6) (by rw [g.n, g.sc]; exact blkOk_by h4) (fun s H C' cl fp => snd_g (g.blk scope s H C' cl fp) gt _ h5)
        (fun s H C' cl fp => snd_c c (g.blk scope s H C' cl fp) takes0 h7) (fun s H C' cl fp => (snd_e e (g.blk scope s H C' cl fp) takes0 h8).pe rfl)
      rw [ownL_snd] at q
      exact .val rfl q
    · cases h
  | .dc d k v gt it c own, K, X, Wx, t, ea, g, tk, h => by
    unfold ck at h
    split at h
    · rename_i kx elt ta ia ifs scope pos
      simp only [Bool.and_eq_true] at h
      obtain ⟨⟨h1, h2, h3, h4, h5⟩, h6, h7, h8, h9⟩ := h
      have q := je_dc (C := C) (Wx := Wx) (pos := pos) (t := d) (g.cm h1) g.ru g.nd (ids_ok h2) h3 (snd_i it g tk h6) (by rw [g.n, g.sc]; exact blkOk_by h4) (fun s H C' cl fp => snd_g (g.blk scope s H C' cl fp) gt _ h5)
        (fun s H C' cl fp => snd_c c (g.blk scope s H C' cl fp) takes0 h7) (fun s H C' cl fp => (snd_e k (g.blk scope s H C' cl fp) takes0 h8).pe rfl) (fun s H C' cl fp => (snd_e v (g.blk scope s H C' cl fp) takes0 h9).pe rfl)
      rw [ownL_snd] at q
      exact .val rfl q
    · cases h
  | .callv _ _, K, X, Wx, t, ea, g, tk, h => by unfold ck at h; cases h
  | .mk _ _, K, X, Wx, t, ea, g, tk, h => by unfold ck at h; cases h
  | .min2 _ _, K, X, Wx, t, ea, g, tk, h => by unfold ck at h; cases h
  | .max2 _ _, K, X, Wx, t, ea, g, tk, h => by unfold ck at h; cases h
  | .fld _ _, K, X, Wx, t, ea, g, tk, h => by unfold ck at h; cases h
theorem snd_es : ∀ (es : Es) {K : Kx} {X : Cx} {Wx : WX} {l : List Expr}, GdE X C K → Takes X Wx → ckEs K es l = true → PA X l (TA (wd X) C Wx es)
  | .nil, K, X, Wx, l, g, tk, h => by
    unfold ckEs at h
    rw [List.isEmpty_iff] at h
    subst h
    exact ja_nil
  | .cons e es, K, X, Wx, l, g, tk, h => by
    unfold ckEs at h
    split at h
    · simp only [Bool.and_eq_true] at h
      exact ja_cons h.1 ((snd_e e g tk h.2.1).pe rfl) (snd_es es g tk h.2.2)
    · cases h
theorem snd_kvs : ∀ (kvs : Kvs) {K : Kx} {X : Cx} {Wx : WX} {ks : List (Option Expr)} {vs : List Expr}, GdE X C K → Takes X Wx → ckKvs K kvs ks vs = true → ∀ pos, PPs X pos ks vs (trsOf (wd X) C Wx kvs) ∧ ks.all (·.isSome) = true
  | .nil, K, X, Wx, ks, vs, g, tk, h => by
    unfold ckKvs at h
    simp only [Bool.and_eq_true, List.isEmpty_iff] at h
    obtain ⟨h1, h2⟩ := h
    subst h1 h2
    exact fun pos => ⟨pps_nil, rfl⟩
  | .cons k v r, K, X, Wx, ks, vs, g, tk, h => by
    unfold ckKvs at h
    split at h
    · split at h
      · simp only [Bool.and_eq_true] at h
        intro pos
        obtain ⟨hp, hall⟩ := snd_kvs r g tk h.2.2 pos
        exact ⟨pps_cons ((snd_e k g tk h.1).pe rfl) ((snd_e v g tk h.2.1).pe rfl) hp, by rw [List.all_cons, hall]; rfl⟩
      · cases h
    · cases h
theorem snd_o : ∀ (o : Oe) {K : Kx} {X : Cx} {Wx : WX} {a : Option Expr}, GdE X C K → Takes X Wx → ckO K o a = true → PO X a (TO (wd X) C Wx o)
  | .none, K, X, Wx, a, g, tk, h => by
    unfold ckO at h
    cases a with
    | none => exact jo_none
    | some x => cases h
  | .some e, K, X, Wx, a, g, tk, h => by
    unfold ckO at h
    split at h
    · exact jo_some ((snd_e e g tk h).pe rfl)
    · cases h
theorem snd_c : ∀ (o : Oe) {K : Kx} {X : Cx} {Wx : WX} {a : List Expr}, GdE X C K → Takes X Wx → ckC K o a = true → PTs X a (TCd (wd X) C Wx o)
  | .none, K, X, Wx, a, g, tk, h => by
    unfold ckC at h
    rw [List.isEmpty_iff] at h
    subst h
    exact jc_none
  | .some e, K, X, Wx, a, g, tk, h => by
    unfold ckC at h
    split at h
    · exact jc_some ((snd_e e g tk h).pt rfl)
    · cases h
theorem snd_p : ∀ (it : It) {K : Kx} {X : Cx} {Wx : WX} {ia : Expr}, GdE X C K → Takes X Wx → ckP K it ia = true → ∃ s : Ps, s.it = it ∧ PE X ia (TE (wd X) C Wx s.e)
  | .val e, K, X, Wx, ia, g, tk, h => by
    unfold ckP at h
    exact ⟨.val e, rfl, (snd_e e g tk h).pe rfl⟩
  | .chars e, K, X, Wx, ia, g, tk, h => by
    unfold ckP at h
    exact ⟨.chars e, rfl, (snd_e e g tk h).pe rfl⟩
  | .keys _, K, X, Wx, ia, g, tk, h => by unfold ckP at h; cases h
  | .items _, K, X, Wx, ia, g, tk, h => by unfold ckP at h; cases h
  | .values _, K, X, Wx, ia, g, tk, h => by unfold ckP at h; cases h
  | .range1 _, K, X, Wx, ia, g, tk, h => by unfold ckP at h; cases h
  | .range2 _ _, K, X, Wx, ia, g, tk, h => by unfold ckP at h; cases h
  | .enum _, K, X, Wx, ia, g, tk, h => by unfold ckP at h; cases h
  | .zip _ _, K, X, Wx, ia, g, tk, h => by unfold ckP at h; cases h
theorem snd_z : ∀ (it : It) {K : Kx} {X : Cx} {Wx : WX} {ia : Expr}, GdE X C K → Takes X Wx → ckZ K it ia = true → ∃ (s s2 : Ps) (p pos : Pos) (x z : Expr), it = .zip s.it s2.it ∧ ia = .Call (.Name "zip" p) [x, z] [] pos ∧ (bltB K "zip" = true ∧ noStar x = true ∧ noStar z = true) ∧ PE X x (TE (wd X) C Wx s.e) ∧ PE X z (TE (wd X) C Wx s2.e)
  | .zip a b, K, X, Wx, ia, g, tk, h => by
    unfold ckZ at h
    split at h
    · simp only [Bool.and_eq_true, decide_eq_true_eq] at h
      obtain ⟨⟨h1, h2, h3, h4⟩, h5, h6⟩ := h
      subst h1
      obtain ⟨s, e1, q1⟩ := snd_p a g tk h5
      obtain ⟨s2, e2, q2⟩ := snd_p b g tk h6
      exact ⟨s, s2, _, _, _, _, by rw [e1, e2], rfl, ⟨h2, h3, h4⟩, q1, q2⟩
    · cases h
  | .val _, K, X, Wx, ia, g, tk, h => by unfold ckZ at h; cases h
  | .chars _, K, X, Wx, ia, g, tk, h => by unfold ckZ at h; cases h
  | .keys _, K, X, Wx, ia, g, tk, h => by unfold ckZ at h; cases h
  | .items _, K, X, Wx, ia, g, tk, h => by unfold ckZ at h; cases h
  | .values _, K, X, Wx, ia, g, tk, h => by unfold ckZ at h; cases h
  | .range1 _, K, X, Wx, ia, g, tk, h => by unfold ckZ at h; cases h
  | .range2 _ _, K, X, Wx, ia, g, tk, h => by unfold ckZ at h; cases h
  | .enum _, K, X, Wx, ia, g, tk, h => by unfold ckZ at h; cases h
theorem snd_i : ∀ (it : It) {K : Kx} {X : Cx} {Wx : WX} {ta ia : Expr}, GdE X C K → Takes X Wx → ckI K it ta ia = true → PI X ta ia (TIt (wd X) C Wx it)
  | .val e, K, X, Wx, ta, ia, g, tk, h => by
    unfold ckI at h
    exact ji_val ((snd_e e g tk h).pe rfl)
  | .chars e, K, X, Wx, ta, ia, g, tk, h => by
    unfold ckI at h
    exact ji_chars ((snd_e e g tk h).pe rfl)
  | .range1 e, K, X, Wx, ta, ia, g, tk, h => by
    unfold ckI at h
    split at h
    · simp only [Bool.and_eq_true, decide_eq_true_eq] at h
      obtain ⟨⟨h1, h2, h3⟩, h4⟩ := h
      subst h1
      exact ji_range1 (g.blt h2).1 (g.blt h2).2 h3 ((snd_e e g tk h4).pe rfl)
    · cases h
  | .range2 e e2, K, X, Wx, ta, ia, g, tk, h => by
    unfold ckI at h
    split at h
    · simp only [Bool.and_eq_true, decide_eq_true_eq] at h
      obtain ⟨⟨h1, h2, h3, h4⟩, h5, h6⟩ := h
      subst h1
      exact ji_range2 (g.blt h2).1 (g.blt h2).2 h3 h4 ((snd_e e g tk h5).pe rfl) ((snd_e e2 g tk h6).pe rfl)
    · cases h
  | .enum it, K, X, Wx, ta, ia, g, tk, h => by
    unfold ckI at h
    split at h
    · split at h
      · simp only [Bool.and_eq_true, decide_eq_true_eq, Bool.or_eq_true] at h
        obtain ⟨⟨h1, h2, h3⟩, h4⟩ := h
        subst h1
        rcases h4 with h4 | h4
        · obtain ⟨s, e1, q1⟩ := snd_p it g tk h4
          rw [← e1]
          exact ji_enum (g.blt h2).1 (g.blt h2).2 h3 q1
        · obtain ⟨s, s2, p, pos, x, z, rfl, rfl, ⟨b1, b2, b3⟩, q1, q2⟩ := snd_z it g tk h4
          exact ji_enumzip (g.blt h2).1 (g.blt h2).2 (g.blt b1).1 (g.blt b1).2 b2 b3 q1 q2
      · cases h
    · cases h
  | .zip a b, K, X, Wx, ta, ia, g, tk, h => by
    unfold ckI at h
    split at h
    · split at h
      · simp only [Bool.and_eq_true, decide_eq_true_eq] at h
        obtain ⟨⟨h1, h2, h3, h4⟩, h5, h6⟩ := h
        subst h1
        obtain ⟨s, e1, q1⟩ := snd_p a g tk h5
        obtain ⟨s2, e2, q2⟩ := snd_p b g tk h6
        rw [← e1, ← e2]
        exact ji_zip (g.blt h2).1 (g.blt h2).2 h3 h4 q1 q2
      · cases h
    · cases h
  | .keys _, K, X, Wx, ta, ia, g, tk, h => by unfold ckI at h; cases h
  | .items _, K, X, Wx, ta, ia, g, tk, h => by unfold ckI at h; cases h
  | .values _, K, X, Wx, ta, ia, g, tk, h => by unfold ckI at h; cases h
theorem es_star : ∀ (es : Es) {K : Kx} {l : List Expr}, ckEs K es l = true → l.all noStar = true
  | .nil, K, l, h => by
    unfold ckEs at h
    rw [List.isEmpty_iff] at h
    subst h
    rfl
  | .cons e es, K, l, h => by
    unfold ckEs at h
    split at h
    · simp only [Bool.and_eq_true] at h
      rw [List.all_cons, h.1, es_star es h.2.2]
      rfl
    · cases h
end
end
end AR
end

section
set_option Elab.async false
set_option linter.all false
set_option maxRecDepth 100000
set_option maxHeartbeats 4000000
/-! DLK4: the checker of statements, and its soundness. -/
namespace AR
open PySem PySem.Spec PyProof.Rows L2
def swName (sc : Scope) : Expr → Bool
  | .Name id _ => sc.names.lookup id == some .local
  | _ => false
def noSwap2 (sc : Scope) (ta ea : Expr) : Bool := noSwap ta ea || (match ta, ea with
  | .Tuple ts _ _, .Tuple vs _ _ => !(ts.length == 2 || ts.length == 3) || ((ts.any fun t => !swName sc t) || vs.all (foldedForSure 8))
  | _, _ => false)
theorem fm_short {α β : Type} {f : α → Option β} : ∀ {ts : List α}, (ts.filterMap f).length ≤ ts.length ∧ ((∃ t ∈ ts, f t = none) → (ts.filterMap f).length < ts.length)
  | [] => ⟨Nat.le_refl _, fun ⟨t, h, _⟩ => by cases h⟩
  | a :: ts => by
    obtain ⟨h1, h2⟩ := fm_short (f := f) (ts := ts)
    refine ⟨?_, ?_⟩
    · rw [List.filterMap_cons]; split <;> simp <;> omega
    · rintro ⟨t, ht, e⟩
      rw [List.filterMap_cons]
      split
      · rw [List.length_cons]; exact Nat.lt_succ_of_le h1
      · rename_i b eb
        rcases List.mem_cons.mp ht with rfl | ht
        · rw [eb] at e; cases e
        · have := h2 ⟨t, ht, e⟩
          rw [List.length_cons, List.length_cons]; omega
theorem noSwap2_ok {t e : Expr} {env : Env} (h : noSwap2 env.scope t e = true) : swappedStores [t] e env = pure none := by
  unfold noSwap2 at h
  rw [Bool.or_eq_true] at h
  rcases h with h | h
  · exact noSwap_ok h
  · split at h
    · rename_i ts k p vs k2 p2
      simp only [Bool.or_eq_true] at h
      unfold swappedStores
      dsimp only
      split
      · rfl
      · rename_i c1
        split
        · rfl
        · split
          · rfl
          · rename_i c3
            split
            · rfl
            · rename_i c4
              rcases h with h | h | h
              · exfalso
                apply c1
                simp only [h, Bool.true_or]
              · exfalso
                apply c3
                rw [List.any_eq_true] at h
                obtain ⟨t, ht, hn⟩ := h
                refine Bool.or_eq_true_iff.mpr (.inl ?_)
                refine bne_iff_ne.mpr (Nat.ne_of_lt (fm_short.2 ⟨t, ht, ?_⟩))
                cases t with
                | Name id pos =>
                  have q : (env.scope.names.lookup id == some .local) = false := by simpa [swName] using hn
                  show (if (env.kindOf id == some .local && _) = true then some id else none) = none
                  have : (env.kindOf id == some .local) = false := q
                  rw [this, Bool.false_and]; rfl
                | _ => rfl
              · exact absurd h c4
    · cases h
mutual
def ckTt (K : Kx) : Tt → Expr → Bool
  | .name i, e => match e with
    | .Name x _ => decide (K.N[i]? = some x) && (decide (K.sc.names.lookup x = some .local) || decide (K.sc.names.lookup x = some .cell))
    | _ => false
  | .tup ts, e => match e with
    | .Tuple es _ _ => K.calm && (es.all noStar && (decide (ts.length = es.length) && ckTts K ts es))
    | _ => false
  | .sub o i, e => match e with
    | .Subscript x y _ => plainIx y && (ck K false o x && ck K false i y)
    | _ => false
  | .fld _ _, _ => false
def ckTts (K : Kx) : List Tt → List Expr → Bool
  | [], es => es.isEmpty
  | t :: ts, es => match es with
    | e :: r => noStar e && (ckTt K t e && ckTts K ts r)
    | [] => false
end
def nmL : Tt → E → Bool
  | .name _, .lc .. => true
  | .name _, .dc .. => true
  | _, _ => false
mutual
def ckS (K : Kx) : S → Stmt → Bool
  | .asg t e, st => match st with
    | .Assign [ta] ea _ => (ck K false e ea && ckTt K t ta) && (if noComp ea = true then noStar ta && noSwap2 K.sc ta ea else nmL t e)
    | _ => false
  | .par is es, st => match st with
    | .Assign [.Tuple [.Name x px, .Name y py] _ _] (.Tuple [ea, eb] _ _) _ => (match is with
      | [i, j] => (K.calm && ((decide (K.N[i]? = some x) && decide (K.N[j]? = some y)) && (decide (i ≠ j) && (decide (K.sc.names.lookup x = some .local) && decide (K.sc.names.lookup y = some .local))))) &&
        (((py.line == px.line) && (!(foldedForSure 8 ea && foldedForSure 8 eb) && !(constantsAlone 8 ea && constantsAlone 8 eb))) && ckEs K es [ea, eb])
      | _ => false)
    | _ => false
  | .aug i o e, st => match st with
    | .AugAssign (.Name x _) op ea _ => (augOk o && (decide (op = astB o) && (decide (K.N[i]? = some x) && (decide (K.sc.names.lookup x = some .local) || decide (K.sc.names.lookup x = some .cell))))) && ck K false e ea
    | _ => false
  | .augF .., _ => false
  | .augS .., _ => false
  | .ex e, st => match st with
    | .Expr ea _ => noComp ea && ck K false e ea
    | _ => false
  | .ret e, st => match st with
    | .Return (some ea) _ => ck K false e ea
    | _ => false
  | .retN, st => match st with
    | .Return none _ => true
    | _ => false
  | .ite c a b, st => match st with
    | .If ca as bs _ => ck K true c ca && (ckSs K a as && ckSs K b bs)
    | _ => false
  | .whl c b, st => match st with
    | .While ca ba [] _ => ck K true c ca && ckSs K b ba
    | _ => false
  | .fr g it b, st => match st with
    | .For ta ia ba [] _ => (K.calm && foldSet ia) && (ckI K it ta ia && (ckG K g ta && ckSs K b ba))
    | _ => false
  | .pass, st => match st with
    | .Pass _ => true
    | _ => false
  | .brk, st => match st with
    | .Break _ => true
    | _ => false
  | .cont, st => match st with
    | .Continue _ => true
    | _ => false
  | .rse c es, st => match st with
    | .Raise (some (.Call (.Name x _) [ea] [] _)) none _ => (K.calm && (decide (x = c) && (oneWord c && (decide (c ∈ K.errs) && (glB K c && ndb c))))) && (match es with
      | .cons e .nil => noStar ea && ck K false e ea
      | _ => false)
    | _ => false
  | .tryx b c n su, st => match st with
    | .Try ba [.ExceptHandler (some (.Name x _)) none (b0 :: sa) _] [] [] _ => (n.isNone && (decide (x = c) && (decide (c ∈ K.cats) && (glB K c && ndb c)))) && (ckSs K b ba && ckSs { K with calm := false, fns := [], errs := [] } su (b0 :: sa))
    | _ => false
  | .never, _ => true
def ckSs (K : Kx) : Ss → List Stmt → Bool
  | .nil, l => l.isEmpty
  | .cons s ss, l => match l with
    | st :: r => ckS K s st && ckSs K ss r
    | [] => false
end
structure GdS (X : Cx) (C : Ctx) (K : Kx) (Wx : WX) : Prop where
  e : GdE X C K
  tk : Takes X Wx
  po : PassesOwn (model X.prog X.w) X.A X.env X.xe
  so : StOk X
  kd : X.env.scope.kind = .function
  st : X.stack = X.env :: X.outer
  fr : X.env.frame = some X.env.locals
  er : ∀ c ∈ K.errs, ErrAt X c
  ca : ∀ c ∈ K.cats, CatchOk X.K X.mg c
section
variable {X : Cx} {C : Ctx} {K : Kx} {Wx : WX}
theorem GdS.bk (g : GdS X C K Wx) : X.env.blockKind = .function := by unfold Env.blockKind; rw [g.kd]; rfl
theorem GdE.tr (g : GdE X C K) (pn : List (Addr × Obj)) (xe : Value → Shared → Prop) : GdE (X.tr pn xe) C K where
  n := g.n
  nd := g.nd
  sc := g.sc
  ru := g.ru
  cm := g.cm
  fo := fun x e => g.fo x e
  gl := g.gl
  bl := g.bl
  fb := g.fb
theorem GdS.tr (g : GdS X C K Wx) {W : WX} (pn : List (Addr × Obj)) {xe : Value → Shared → Prop} (tk : Takes (X.tr pn xe) W) (po : PassesOwn (model X.prog X.w) X.A X.env xe) : GdS (X.tr pn xe) C K W where
  e := g.e.tr pn xe
  tk := tk
  po := po
  so := g.so
  kd := g.kd
  st := g.st
  fr := g.fr
  er := fun c h => g.er c h
  ca := g.ca
theorem GdS.suite (g : GdS X C K Wx) (a : Addr) (pn : List (Addr × Obj)) : GdS (X.suite a pn) C { K with calm := false, fns := [], errs := [] } Wx0 where
  e := {
    n := g.e.n
    nd := g.e.nd
    sc := g.e.sc
    ru := g.e.ru
    cm := fun z => by cases z
    fo := fun x e => by cases e
    gl := g.e.gl
    bl := g.e.bl
    fb := g.e.fb }
  tk := takes0
  po := PassesOwn.never
  so := g.so
  kd := g.kd
  st := g.st
  fr := g.fr
  er := fun c h => by cases h
  ca := g.ca
theorem GdE.loc (g : GdE X C K) {x : Str} (h : K.sc.names.lookup x = some .local ∨ K.sc.names.lookup x = some .cell) : Loc X.env.scope x := by
  show X.env.scope.names.lookup x = some .local ∨ X.env.scope.names.lookup x = some .cell
  rw [g.sc]; exact h
mutual
theorem snd_tt (g : GdS X C K Wx) : ∀ (t : Tt) (ta : Expr), ckTt K t ta = true → PG X ta (TGt (wd X) C Wx t)
  | .name i, ta, h => by
    unfold ckTt at h
    split at h
    · simp only [Bool.and_eq_true, Bool.or_eq_true, decide_eq_true_eq] at h
      exact jt_name g.so g.e.nd (by rw [g.e.n]; exact h.1) (g.e.loc h.2)
    · cases h
  | .tup ts, ta, h => by
    unfold ckTt at h
    split at h
    · simp only [Bool.and_eq_true, decide_eq_true_eq] at h
      exact jt_tup (g.e.cm h.1) h.2.1 h.2.2.1 (snd_tts g ts _ h.2.2.2)
    · cases h
  | .sub o i, ta, h => by
    unfold ckTt at h
    split at h
    · simp only [Bool.and_eq_true] at h
      exact jt_sub g.e.ru h.1 ((snd_e o g.e g.tk h.2.1).pe rfl) ((snd_e i g.e g.tk h.2.2).pe rfl)
    · cases h
  | .fld _ _, ta, h => by unfold ckTt at h; cases h
theorem snd_tts (g : GdS X C K Wx) : ∀ (ts : List Tt) (es : List Expr), ckTts K ts es = true → PGs X es (TGts (wd X) C Wx ts)
  | [], es, h => by
    have h : es.isEmpty = true := h
    cases es with
    | nil => exact jts_nil
    | cons a b => cases h
  | t :: ts, es, h => by
    unfold ckTts at h
    split at h
    · simp only [Bool.and_eq_true] at h
      exact jts_cons h.1 (snd_tt g t _ h.2.1) (snd_tts g ts _ h.2.2)
    · cases h
end
theorem snd_lcs (g : GdS X C K Wx) {i : Nat} {y : Str} {py spos : Pos} {e : E} {gt : Tg} {it : It} {c : Oe} {own : List Nat} {ea : Expr} (hi : K.N[i]? = some y) (hl : Loc X.env.scope y) (h : ck K false (.lc e gt it c own) ea = true) :
    PS X (.Assign [.Name y py] ea spos) (TS1 (wd X) C Wx (.asg (.name i) (.lc e gt it c own))) := by
  have h0 := h
  unfold ck at h
  split at h
  · rename_i elt ta ia ifs scope pos
    by_cases hs : swB X.env.scope scope y py.line pos.line = true
    · simp only [Bool.and_eq_true] at h
      obtain ⟨⟨h1, h2, h3, h4, h5⟩, h6, h7, h8⟩ := h
      have q := js_setLc (C := C) (Wx := Wx) (pos := pos) (spos := spos) (py := py) (i := i) (y := y) (g.e.cm h1) g.e.nd (by rw [g.e.n]; exact hi) (swB_loc hs) (by rw [sw_lc g.kd, hs]) (ids_ok h2) h3 (snd_i it g.e g.tk h6) (by rw [g.e.n, g.e.sc]; exact blkOk_by h4) (fun s H C' cl fp => snd_g (g.e.blk scope s H C' cl fp) gt _ h5)
        (fun s H C' cl fp => snd_c c (g.e.blk scope s H C' cl fp) takes0 h7) (fun s H C' cl fp => (snd_e e (g.e.blk scope s H C' cl fp) takes0 h8).pe rfl)
      rw [ownL_snd] at q
      exact q
    · exact js_setF g.so g.e.nd (by rw [g.e.n]; exact hi) hl (by rw [sw_lc g.kd, Bool.eq_false_iff.mpr hs]) ((snd_e _ g.e g.tk h0).pe rfl)
  · cases h
theorem snd_dcs (g : GdS X C K Wx) {i : Nat} {y : Str} {py spos : Pos} {d : Bool} {k v : E} {gt : Tg} {it : It} {c : Oe} {own : List Nat} {ea : Expr} (hi : K.N[i]? = some y) (hl : Loc X.env.scope y) (h : ck K false (.dc d k v gt it c own) ea = true) :
    PS X (.Assign [.Name y py] ea spos) (TS1 (wd X) C Wx (.asg (.name i) (.dc d k v gt it c own))) := by
  have h0 := h
  unfold ck at h
  split at h
  · rename_i kx elt ta ia ifs scope pos
    by_cases hs : swB X.env.scope scope y py.line pos.line = true
    · simp only [Bool.and_eq_true] at h
      obtain ⟨⟨h1, h2, h3, h4, h5⟩, h6, h7, h8, h9⟩ := h
      have q := js_setDc (C := C) (Wx := Wx) (pos := pos) (spos := spos) (py := py) (i := i) (y := y) (t := d) (g.e.cm h1) g.e.ru g.e.nd (by rw [g.e.n]; exact hi) (swB_loc hs) (by rw [sw_dc g.kd, hs]) (ids_ok h2) h3 (snd_i it g.e g.tk h6) (by rw [g.e.n, g.e.sc]; exact blkOk_by h4) (fun s H C' cl fp => snd_g (g.e.blk scope s H C' cl fp) gt _ h5)
        (fun s H C' cl fp => snd_c c (g.e.blk scope s H C' cl fp) takes0 h7) (fun s H C' cl fp => (snd_e k (g.e.blk scope s H C' cl fp) takes0 h8).pe rfl) (fun s H C' cl fp => (snd_e v (g.e.blk scope s H C' cl fp) takes0 h9).pe rfl)
      rw [ownL_snd] at q
      exact q
    · exact js_setF g.so g.e.nd (by rw [g.e.n]; exact hi) hl (by rw [sw_dc g.kd, Bool.eq_false_iff.mpr hs]) ((snd_e _ g.e g.tk h0).pe rfl)
  · cases h
end
mutual
theorem snd_s {C : Ctx} : ∀ (s : S) {X : Cx} {K : Kx} {Wx : WX} {st : Stmt}, GdS X C K Wx → ckS K s st = true → PS X st (TS1 (wd X) C Wx s)
  | .asg t e, X, K, Wx, st, g, h => by
    unfold ckS at h
    split at h
    · rename_i ta ea pos
      simp only [Bool.and_eq_true] at h
      obtain ⟨⟨h1, h2⟩, h3⟩ := h
      split at h3
      · rename_i hn
        simp only [Bool.and_eq_true] at h3
        exact js_asg hn h3.1 (noSwap2_ok (by rw [g.e.sc]; exact h3.2)) (snd_tt g t _ h2) ((snd_e e g.e g.tk h1).pe rfl)
      · unfold nmL at h3
        split at h3
        · unfold ckTt at h2
          split at h2
          · simp only [Bool.and_eq_true, Bool.or_eq_true, decide_eq_true_eq] at h2
            exact snd_lcs g h2.1 (g.e.loc h2.2) h1
          · cases h2
        · unfold ckTt at h2
          split at h2
          · simp only [Bool.and_eq_true, Bool.or_eq_true, decide_eq_true_eq] at h2
            exact snd_dcs g h2.1 (g.e.loc h2.2) h1
          · cases h2
        · cases h3
    · cases h
  | .par is es, X, K, Wx, st, g, h => by
    unfold ckS at h
    split at h
    · split at h
      · simp only [Bool.and_eq_true, decide_eq_true_eq, Bool.not_eq_true'] at h
        obtain ⟨⟨h1, ⟨h2, h3⟩, h4, h5, h6⟩, ⟨h7, h8, h9⟩, h10⟩ := h
        rename_i x px y py kt pt ea eb k2 pt2 pos _ i j
        match es, h10 with
        | .cons a (.cons b .nil), h10 =>
          have ha := snd_es _ g.e g.tk h10
          have hst := es_star (C := C) _ h10
          rw [List.all_cons, List.all_cons, Bool.and_eq_true, Bool.and_eq_true] at hst
          have hx : X.env.scope.names.lookup x = some .local := by rw [g.e.sc]; exact h5
          have hy : X.env.scope.names.lookup y = some .local := by rw [g.e.sc]; exact h6
          have hxy : x ≠ y := fun z => by
            subst z
            have nd := g.e.nd
            rw [g.e.n] at nd
            have hi : i < K.N.length := by
              by_cases q : i < K.N.length
              · exact q
              · rw [List.getElem?_eq_none (by omega)] at h2; cases h2
            exact h4 ((List.getElem?_inj hi nd).mp (h2.trans h3.symm))
          exact js_par (g.e.cm h1) g.e.nd (by rw [g.e.n]; exact h2) (by rw [g.e.n]; exact h3) h4 hx hy (swapped_par g.bk hx hy hxy h7 hst.1 hst.2.1 h8 h9) ha
        | .nil, h10 => exact absurd h10 (by simp [ckEs])
        | .cons a .nil, h10 => exact absurd h10 (by simp [ckEs])
        | .cons a (.cons b (.cons c r)), h10 => exact absurd h10 (by simp [ckEs])
      · cases h
    · cases h
  | .aug i o e, X, K, Wx, st, g, h => by
    unfold ckS at h
    split at h
    · simp only [Bool.and_eq_true, Bool.or_eq_true, decide_eq_true_eq] at h
      obtain ⟨⟨h1, h2, h3, h4⟩, h5⟩ := h
      subst h2
      exact js_aug g.so h1 g.e.nd (by rw [g.e.n]; exact h3) (g.e.loc h4) ((snd_e e g.e g.tk h5).pe rfl)
    · cases h
  | .augF _ _ _ _, X, K, Wx, st, g, h => by unfold ckS at h; cases h
  | .augS _ _ _ _, X, K, Wx, st, g, h => by unfold ckS at h; cases h
  | .ex e, X, K, Wx, st, g, h => by
    unfold ckS at h
    split at h
    · simp only [Bool.and_eq_true] at h
      exact js_ex h.1 ((snd_e e g.e g.tk h.2).pe rfl)
    · cases h
  | .ret e, X, K, Wx, st, g, h => by
    unfold ckS at h
    split at h
    · exact js_ret ((snd_e e g.e g.tk h).pe rfl)
    · cases h
  | .retN, X, K, Wx, st, g, h => by
    unfold ckS at h
    split at h
    · exact js_retN
    · cases h
  | .ite c a b, X, K, Wx, st, g, h => by
    unfold ckS at h
    split at h
    · simp only [Bool.and_eq_true] at h
      exact js_ite ((snd_e c g.e g.tk h.1).pt rfl) (snd_ss a g h.2.1) (snd_ss b g h.2.2)
    · cases h
  | .whl c b, X, K, Wx, st, g, h => by
    unfold ckS at h
    split at h
    · simp only [Bool.and_eq_true] at h
      exact js_whl g.po ((snd_e c g.e g.tk h.1).pt rfl) (snd_ss b g h.2)
    · cases h
  | .fr gt it b, X, K, Wx, st, g, h => by
    unfold ckS at h
    split at h
    · simp only [Bool.and_eq_true] at h
      obtain ⟨⟨h1, h2⟩, h3, h4, h5⟩ := h
      exact js_for (g.e.cm h1) g.po h2 (snd_i it g.e g.tk h3) (snd_g g.e gt _ h4) (snd_ss b g h5)
    · cases h
  | .pass, X, K, Wx, st, g, h => by
    unfold ckS at h
    split at h
    · exact js_pass
    · cases h
  | .brk, X, K, Wx, st, g, h => by
    unfold ckS at h
    split at h
    · exact js_brk
    · cases h
  | .cont, X, K, Wx, st, g, h => by
    unfold ckS at h
    split at h
    · exact js_cont
    · cases h
  | .rse c es, X, K, Wx, st, g, h => by
    unfold ckS at h
    split at h
    · simp only [Bool.and_eq_true, decide_eq_true_eq] at h
      obtain ⟨⟨h1, h2, h3, h4, h5, h6⟩, h7⟩ := h
      subst h2
      split at h7
      · simp only [Bool.and_eq_true] at h7
        exact js_rse (g.e.cm h1) g.tk (g.er _ h4) h3 (g.e.glb h5) (ndb_ok h6) h7.1 ((snd_e _ g.e g.tk h7.2).pe rfl)
      · cases h7
    · cases h
  | .tryx b c n su, X, K, Wx, st, g, h => by
    unfold ckS at h
    split at h
    · simp only [Bool.and_eq_true, decide_eq_true_eq] at h
      obtain ⟨⟨h0, h2, h3, h4, h5⟩, h6, h7⟩ := h
      subst h2
      cases n with
      | some i => cases h0
      | none => exact js_try g.st g.fr g.tk (g.ca _ h3) (g.e.glb h4) (ndb_ok h5) (fun W pn xe tk po => snd_ss b (g.tr pn tk po) h6) (fun a pn => snd_ss su (g.suite a pn) h7)
    · cases h
  | .never, X, K, Wx, st, g, h => js_never
theorem snd_ss {C : Ctx} : ∀ (ss : Ss) {X : Cx} {K : Kx} {Wx : WX} {l : List Stmt}, GdS X C K Wx → ckSs K ss l = true → PSs X l (TSs (wd X) C Wx ss)
  | .nil, X, K, Wx, l, g, h => by
    unfold ckSs at h
    rw [List.isEmpty_iff] at h
    subst h
    exact js_nil
  | .cons s ss, X, K, Wx, l, g, h => by
    unfold ckSs at h
    split at h
    · simp only [Bool.and_eq_true] at h
      exact js_cons (snd_s s g h.1) (snd_ss ss g h.2)
    · cases h
end
end AR
end

section
set_option Elab.async false
set_option linter.all false
set_option maxRecDepth 100000
set_option maxHeartbeats 4000000
/-! DLW: words for showing what a piece of the small language does: loops, comprehensions, heaps, slots. -/
namespace AR
open PySem (Str Addr)
theorem hup_at {h : Hd} {a b : Addr} {c : Cl} : hup h a c b = if b = a then some c else h b := rfl
theorem SubS.nil : SubS [] [] := SubS.refl _
theorem SubS.same {a : Option D} {σ σ' : Sg} (s : SubS σ' σ) : SubS (a :: σ') (a :: σ) := ⟨by simp [s.1], fun i d => by
  cases i with
  | zero => simp
  | succ i => simpa using s.2 i d⟩
theorem SubS.drop {a : Option D} {σ σ' : Sg} (s : SubS σ' σ) : SubS (none :: σ') (a :: σ) := ⟨by simp [s.1], fun i d => by
  cases i with
  | zero => simp
  | succ i => simpa using s.2 i d⟩
/-- heaps but at d -/
def SubX (d : Addr) (h Z : Hd) : Prop := ∀ a c, a ≠ d → h a = some c → Z a = some c
theorem SubX.refl (d : Addr) (h : Hd) : SubX d h h := fun _ _ _ e => e
theorem SubX.hd {d : Addr} {h Z : Hd} {c : Cl} (s : SubX d h Z) : SubX d h (hup Z d c) := fun a c' n e => by rw [hup_ne n]; exact s a c' n e
theorem SubX.new {d p : Addr} {h Z : Hd} {c : Cl} (s : SubX d h Z) (n : Z p = none) : SubX d h (hup Z p c) := fun a c' k e => by
  have q := s a c' k e
  have : a ≠ p := fun z => by rw [z, n] at q; cases q
  rw [hup_ne this]; exact q
theorem SubX.to {d : Addr} {h Z : Hd} {c : Cl} (s : SubX d h Z) : SubH (hup h d c) (hup Z d c) := fun a c' e => by
  by_cases k : a = d
  · subst k; rw [hup_same] at e ⊢; exact e
  · rw [hup_ne k] at e ⊢; exact s a c' k e
/-- .. what Z holds at d -/
theorem SubX.to' {d : Addr} {h Z : Hd} {c : Cl} (s : SubX d h Z) (e : Z d = some c) : SubH (hup h d c) Z := fun a c' q => by
  by_cases k : a = d
  · subst k; rw [hup_same] at q; rw [e]; exact q
  · rw [hup_ne k] at q; exact s a c' k q
theorem SubH.new {h Z : Hd} {p : Addr} {c : Cl} (s : SubH h Z) (n : Z p = none) : SubH h (hup Z p c) := fun a c' e => by
  have q := s a c' e
  have : a ≠ p := fun z => by rw [z, n] at q; cases q
  rw [hup_ne this]; exact q
theorem SubH.up {h Z : Hd} {p : Addr} {c : Cl} (s : SubH h Z) : SubH (hup h p c) (hup Z p c) := fun a c' e => by
  by_cases k : a = p
  · subst k; rw [hup_same] at e ⊢; exact e
  · rw [hup_ne k] at e ⊢; exact s a c' e
theorem SubH.ow {h Z : Hd} {p : Addr} {c : Cl} (s : SubH h Z) (n : h p = none) : SubH h (hup Z p c) := fun a c' e => by
  have : a ≠ p := fun z => by rw [z, n] at e; cases e
  rw [hup_ne this]; exact s a c' e
theorem SubX.up {d p : Addr} {h Z : Hd} {c : Cl} (s : SubX d h Z) : SubX d (hup h p c) (hup Z p c) := fun a c' n e => by
  by_cases k : a = p
  · subst k; rw [hup_same] at e ⊢; exact e
  · rw [hup_ne k] at e ⊢; exact s a c' n e
theorem SubH.none {h Z : Hd} {p : Addr} (s : SubH h Z) (n : Z p = none) : h p = none := by
  cases e : h p with
  | none => rfl
  | some c => rw [s p c e] at n; cases n
theorem hd_ne {h : Hd} {p d : Addr} {c : Cl} (e : h d = some c) (n : h p = none) : d ≠ p := fun z => by rw [z, n] at e; cases e
theorem hup_none {h : Hd} {p d : Addr} {c : Cl} (n : hup h d c p = none) : p ≠ d ∧ h p = none := by
  by_cases k : p = d
  · subst k; rw [hup_same] at n; cases n
  · rw [hup_ne k] at n; exact ⟨k, n⟩
/-! ### loops -/
theorem forL_inv {G : Hd → Prop} {g : Tg} {body : Nx → Sg → Hd → Prop} {D : Nx} (I : Nat → Sg → Hd → Prop) : ∀ {items : List AR.D} {σ : Sg} {h : Hd} (start : I 0 σ h)
    (turn : ∀ i d σ h (K : Sg → Hd → Prop), items[i]? = some d → I i σ h → (∀ σ' h' σ2 h2, SubS σ2 σ' → SubH h2 h' → I (i + 1) σ2 h2 → K σ' h') → G h ∧ match tgSet g d σ with
      | some σ1 => body (D.turn K) σ1 h
      | none => False)
    (fin : ∀ σ h, I items.length σ h → G h ∧ D.nx σ h), forL G g body items D σ h := by
  intro items
  induction items generalizing I with
  | nil =>
    intro σ h start turn fin
    exact fin σ h start
  | cons d ds ih =>
    intro σ h start turn fin
    unfold forL
    refine turn 0 d σ h _ rfl start fun σ' h' σ2 h2 s1 s2 k => ⟨σ2, h2, s1, s2, ?_⟩
    exact ih (fun i => I (i + 1)) k (fun i d σ h K e q c => turn (i + 1) d σ h K (by simpa using e) q c) (fun σ h q => fin σ h (by simpa using q))
theorem whlL_inv {t : Sg → Hd → (Bool → Hd → Prop) → Prop} {body : Nx → Sg → Hd → Prop} {D : Nx} (I : Nat → Sg → Hd → Prop)
    (turn : ∀ m σ h (K : Sg → Hd → Prop), I m σ h → (∀ m' σ' h' σ2 h2, m' < m → SubS σ2 σ' → SubH h2 h' → I m' σ2 h2 → K σ' h') → t σ h fun b h1 => ifB b (body (D.turn K) σ h1) (D.nx σ h1))
    {m : Nat} {σ : Sg} {h : Hd} (start : I m σ h) : ∃ n, whlL t body n D σ h := by
  have key : ∀ n m, m ≤ n → ∀ σ h, I m σ h → whlL t body (n + 1) D σ h := by
    intro n
    induction n with
    | zero =>
      intro m hm σ h q
      unfold whlL
      exact turn m σ h _ q fun m' σ' h' σ2 h2 l _ _ _ => absurd l (by omega)
    | succ n ih =>
      intro m hm σ h q
      unfold whlL
      exact turn m σ h _ q fun m' σ' h' σ2 h2 l s1 s2 k => ⟨σ2, h2, s1, s2, ih m' (by omega) σ2 h2 k⟩
  exact ⟨m + 1, key m m (Nat.le_refl _) σ h start⟩
/-! ### comprehensions -/
/-- with an invariant over (turns done, what is made, heap) -/
theorem lcL_inv {G : Hd → Prop} {g : Tg} {σ0 : Sg} {t : Sg → Hd → (Bool → Hd → Prop) → Prop} {e : Sg → Hd → Qd → Prop} {R : List D → Hd → Prop} (I : Nat → List D → Hd → Prop) : ∀ {items : List D} {acc : List D} {h : Hd} (start : I 0 acc h)
    (turn : ∀ i d acc h (K : List D → Hd → Prop), items[i]? = some d → I i acc h → (∀ acc' h' h2, SubH h2 h' → I (i + 1) acc' h2 → K acc' h') → G h ∧ match tgSet g d σ0 with
      | some σ1 => t σ1 h fun b h1 => ifB b (e σ1 h1 fun v h2 => K (acc ++ [v]) h2) (K acc h1)
      | none => False)
    (fin : ∀ acc h, I items.length acc h → G h ∧ R acc h), lcL G g σ0 t e items acc h R := by
  intro items
  induction items generalizing I with
  | nil =>
    intro acc h start turn fin
    exact fin acc h start
  | cons d ds ih =>
    intro acc h start turn fin
    unfold lcL
    have := turn 0 d acc h (fun acc' h' => ∃ h3, SubH h3 h' ∧ lcL G g σ0 t e ds acc' h3 R) rfl start fun acc' h' h2 s k => ⟨h2, s, ih (fun i => I (i + 1)) k (fun i d acc h K e q c => turn (i + 1) d acc h K (by simpa using e) q c) (fun acc h q => fin acc h (by simpa using q))⟩
    exact this
/-- each turn leaves the heap as it was: a filter and a map -/
theorem lcL_pure {α : Type} {G : Hd → Prop} {g : Tg} {σ0 : Sg} {t : Sg → Hd → (Bool → Hd → Prop) → Prop} {e : Sg → Hd → Qd → Prop} {R : List D → Hd → Prop} (enc f : α → D) (p : α → Bool) {items : List α} {acc : List D} {h : Hd} (hg : G h)
    (turn : ∀ a ∈ items, ∃ σ1, tgSet g (enc a) σ0 = some σ1 ∧ (∀ K : Bool → Hd → Prop, K (p a) h → t σ1 h K) ∧ (p a = true → ∀ K : Qd, K (f a) h → e σ1 h K))
    (fin : R (acc ++ (items.filter p).map f) h) : lcL G g σ0 t e (items.map enc) acc h R := by
  induction items generalizing acc with
  | nil =>
    unfold lcL
    exact ⟨hg, by simpa using fin⟩
  | cons a as ih =>
    obtain ⟨σ1, e1, e2, e3⟩ := turn a (List.mem_cons_self ..)
    have ih := fun acc fin => ih (acc := acc) (fun b hb => turn b (List.mem_cons_of_mem _ hb)) fin
    rw [List.map_cons]
    unfold lcL
    refine ⟨hg, ?_⟩
    rw [e1]
    refine e2 _ ?_
    rw [List.filter_cons] at fin
    cases q : p a with
    | true =>
      rw [q] at fin
      refine e3 q _ ⟨h, SubH.refl h, ih _ ?_⟩
      simpa using fin
    | false =>
      rw [q] at fin
      exact ⟨h, SubH.refl h, ih _ (by simpa using fin)⟩
/-- the same for dicts -/
theorem dcL_pure {α κ : Type} [DecidableEq κ] {pk : D → Option κ} {G : Hd → Prop} {g : Tg} {σ0 : Sg} {t : Sg → Hd → (Bool → Hd → Prop) → Prop} {k v : Sg → Hd → Qd → Prop} {R : List (κ × D) → Hd → Prop} (enc : α → D) (fk : α → κ) (fk' fv : α → D) (p : α → Bool) {items : List α} {acc : List (κ × D)} {h : Hd} (hg : G h)
    (turn : ∀ a ∈ items, ∃ σ1, tgSet g (enc a) σ0 = some σ1 ∧ (∀ K : Bool → Hd → Prop, K (p a) h → t σ1 h K) ∧ (p a = true → pk (fk' a) = some (fk a) ∧ (∀ K : Qd, K (fk' a) h → k σ1 h K) ∧ (∀ K : Qd, K (fv a) h → v σ1 h K)))
    (fin : R ((items.filter p).foldl (fun acc a => putD acc (fk a) (fv a)) acc) h) : dcL pk G g σ0 t k v (items.map enc) acc h R := by
  induction items generalizing acc with
  | nil =>
    unfold dcL
    exact ⟨hg, by simpa using fin⟩
  | cons a as ih =>
    obtain ⟨σ1, e1, e2, e3⟩ := turn a (List.mem_cons_self ..)
    have ih := fun acc fin => ih (acc := acc) (fun b hb => turn b (List.mem_cons_of_mem _ hb)) fin
    rw [List.map_cons]
    unfold dcL
    refine ⟨hg, ?_⟩
    rw [e1]
    refine e2 _ ?_
    rw [List.filter_cons] at fin
    cases q : p a with
    | true =>
      rw [q] at fin
      obtain ⟨e4, e5, e6⟩ := e3 q
      refine e5 _ (e6 _ ?_)
      rw [e4]
      refine ⟨h, SubH.refl h, ih _ ?_⟩
      simpa using fin
    | false =>
      rw [q] at fin
      exact ⟨h, SubH.refl h, ih _ (by simpa using fin)⟩
def st0 (n : Nat) (ds : List D) : Sg := ds.map some ++ List.replicate (n - ds.length) none
def xd0 (E : Qd) : Xd := fun x _ h' => ∃ h2, SubH h2 h' ∧ E x h2
def nx0 (Q : Qd) : Nx := { nx := fun _ h' => ∃ h2, SubH h2 h' ∧ Q .non h2, rt := fun d h' => ∃ h2, SubH h2 h' ∧ Q d h2 }
/-- a def keeps its promise -/
def Keeps (bt : Bits) (C : Ctx) (b : Ss) (n ps : Nat) (S : SpD) : Prop := ∀ ds h Q E, S ds h Q E → ds.length = ps ∧ wpSs bt C b (xd0 E) (nx0 Q) (st0 n ds) h
/-- .. no test: a map -/
theorem lcL_map {α : Type} {G : Hd → Prop} {g : Tg} {σ0 : Sg} {t : Sg → Hd → (Bool → Hd → Prop) → Prop} {e : Sg → Hd → Qd → Prop} {R : List D → Hd → Prop} (enc f : α → D) {items : List α} {h : Hd} (hg : G h)
    (turn : ∀ a ∈ items, ∃ σ1, tgSet g (enc a) σ0 = some σ1 ∧ (∀ K : Bool → Hd → Prop, K true h → t σ1 h K) ∧ (∀ K : Qd, K (f a) h → e σ1 h K))
    (fin : R (items.map f) h) : lcL G g σ0 t e (items.map enc) [] h R :=
  lcL_pure enc f (fun _ => true) hg (fun a ha => let ⟨σ1, e1, e2, e3⟩ := turn a ha; ⟨σ1, e1, e2, fun _ => e3⟩) (by rw [List.nil_append, List.filter_eq_self.mpr fun _ _ => rfl]; exact fin)
theorem boolsD_map {α : Type} (f : α → Bool) : ∀ xs : List α, boolsD (xs.map fun a => .bl (f a)) = some (xs.map f)
  | [] => rfl
  | x :: xs => by simp [boolsD, boolsD_map f xs]
theorem intsD_map {α : Type} (f : α → Int) : ∀ xs : List α, intsD (xs.map fun a => .int (f a)) = some (xs.map f)
  | [] => rfl
  | x :: xs => by simp [intsD, intsD_map f xs]
theorem cut_last (xs : List D) : cut xs none (some (-1)) = xs.dropLast := by
  unfold cut
  have e : (max ((-1 : Int) + (xs.length : Int)) 0).toNat = xs.length - 1 := by omega
  simp [List.dropLast_eq_take, e]
theorem enum_get {α : Type} {enc : α → D} {xs : List α} {i : Nat} {d : D} (e : (((List.range (xs.map enc).length).zip (xs.map enc)).map fun p => D.tup [.int p.1, p.2])[i]? = some d) : ∃ x, xs[i]? = some x ∧ d = .tup [.int (i : Int), enc x] := by
  rw [List.getElem?_map] at e
  by_cases h : i < xs.length
  · rw [List.getElem?_eq_getElem (by simpa using h)] at e
    refine ⟨xs[i], List.getElem?_eq_getElem h, ?_⟩
    simp at e
    rw [← e]
  · rw [List.getElem?_eq_none (by simpa using h)] at e
    cases e
theorem atD_map {α : Type} {enc : α → D} {xs : List α} {k : Nat} {x : α} (e : xs[k]? = some x) : atD (xs.map enc) (k : Int) = some (enc x) := by
  unfold atD
  rw [if_pos (by omega)]
  simp [e]
theorem any_false {α : Type} : ∀ xs : List α, (xs.map fun _ => false).any id = false
  | [] => rfl
  | x :: xs => by simp [any_false xs]
theorem all_true {α : Type} : ∀ xs : List α, (xs.map fun _ => true).all id = true
  | [] => rfl
  | x :: xs => by simp [all_true xs]
/-- a statement, then the rest, with what holds between -/
theorem wp_cut {bt : Bits} {C : Ctx} {s : S} {ss : Ss} {X : Xd} {D : Nx} {σ : Sg} {h : Hd} (I : Sg → Hd → Prop) (h1 : ∀ K : Sg → Hd → Prop, (∀ σ h, I σ h → K σ h) → wpS bt C s X (D.put K) σ h) (h2 : ∀ σ h, I σ h → wpSs bt C ss X D σ h) : wpSs bt C (.cons s ss) X D σ h := by
  unfold wpSs
  exact h1 _ h2
theorem itemsOf_l {h : Hd} {a : Addr} {ds : List D} (e : h a = some (.lst ds)) : itemsOf (.val (.ref a)) h = some ds := by simp only [itemsOf, e]
theorem itemsOf_k {h : Hd} {a : Addr} {ds : List (Ky × D)} (e : h a = some (.dK ds)) : itemsOf (.val (.ref a)) h = none := by simp only [itemsOf, e]
theorem itemsOf_t {h : Hd} {a : Addr} {ds : List (List Ky × D)} (e : h a = some (.dT ds)) : itemsOf (.val (.ref a)) h = none := by simp only [itemsOf, e]
theorem flr_l {h : Hd} {a : Addr} {ds : List D} (e : h a = some (.lst ds)) : flr h (.val (.ref a)) = (fl1s h ds).map Fl.lst := by simp only [flr, e]
theorem lstOf_l {h : Hd} {a : Addr} {ds : List D} (e : h a = some (.lst ds)) : lstOf (.val (.ref a)) h = some ds := by simp only [lstOf, e]
theorem tru_l {h : Hd} {a : Addr} {ds : List D} (e : h a = some (.lst ds)) : tru (.val (.ref a)) h = some (!ds.isEmpty) := by simp only [tru, e]
theorem keysOf_k {h : Hd} {a : Addr} {kvs : List (Ky × D)} (e : h a = some (.dK kvs)) : keysOf (.val (.ref a)) h = some (kvs.map fun kv => dKy kv.1) := by simp only [keysOf, e]
theorem keysOf_t {h : Hd} {a : Addr} {kvs : List (List Ky × D)} (e : h a = some (.dT kvs)) : keysOf (.val (.ref a)) h = some (kvs.map fun kv => dTup kv.1) := by simp only [keysOf, e]
theorem hup_of {h : Hd} {p a : Addr} {c x : Cl} (n : a ≠ p) (e : h a = some x) : hup h p c a = some x := (hup_ne n).trans e
theorem new_ne {h : Hd} {p a : Addr} {x : Cl} (n : h p = none) (e : h a = some x) : a ≠ p := fun z => by rw [z, n] at e; cases e
end AR
end

section
set_option Elab.async false
set_option linter.all false
set_option maxRecDepth 100000
set_option maxHeartbeats 4000000
/-! DLK5: the rule for a def: its IR, its promise. -/
namespace AR
open PySem PySem.Spec PyProof.Rows L2
section
variable {P : Program} {w : World} {K : PySem.W.Frag} {mg : Str → Option Value} {base : Heap}
/-- the module's name x is a def that keeps the promise S -/
def DefOk (P : Program) (w : World) (K : PySem.W.Frag) (mg : Str → Option Value) (base : Heap) (x : Str) (k : Nat) (S : SpD) : Prop :=
  ∃ f fd ps, FnOk P w K mg base (L2.CX P w) k f fd ps (lift ⟨K, mg, w⟩ S) ∧ mg x = some (.ref f) ∧ PySem.W.keepIn K (.ref f) = true ∧ Binds K fd ps []
theorem DefOk.mono {x : Str} {j k : Nat} {S : SpD} (d : DefOk P w K mg base x j S) (h : j ≤ k) : DefOk P w K mg base x k S := by
  obtain ⟨f, fd, ps, F, r⟩ := d
  exact ⟨f, fd, ps, F.mono h, r⟩
/-- a weaker promise -/
theorem DefOk.imp {x : Str} {k : Nat} {S S' : SpD} (d : DefOk P w K mg base x k S) (h : ∀ ds h Q E, S' ds h Q E → S ds h Q E) : DefOk P w K mg base x k S' := by
  obtain ⟨f, fd, ps, F, r⟩ := d
  exact ⟨f, fd, ps, F.imp fun vs H Q E ⟨ds, h', Q', E', a, b, c, d⟩ => ⟨ds, h', Q', E', a, b, h _ _ _ _ c, d⟩, r⟩
def ErrOk (P : Program) (w : World) (K : PySem.W.Frag) (mg : Str → Option Value) (base : Heap) (c : Str) (k : Nat) : Prop := ∃ xC C CA mc fI fd ps, ErrC K mg c xC C CA mc ∧ PySem.W.findIn K (.ref C) "__init__" = some (some (.ref fI)) ∧ PySem.W.typeIn K (.ref fI) = some (.type "function") ∧
  FnOk P w K mg base (L2.CX P w) k fI fd ps (spInit K C "word") ∧ Binds K fd ps []
/-- what a program's top has left, as far as a def needs it -/
structure Top (P : Program) (w : World) (K : PySem.W.Frag) (mg : Str → Option Value) (base : Heap) (C : Ctx) (errs cats : List Str) : Prop where
  gl : GlOk ⟨K, mg, w⟩ C
  bl : ∀ x ∈ bltN, mg x = none
  er : ∀ c ∈ errs, ErrOk P w K mg base c 1
  ca : ∀ c ∈ cats, CatchOk K mg c
theorem Top.gd {C : Ctx} {errs cats : List Str} (T : Top P w K mg base C errs cats) {N ps : List Str} {qual : Str} {scope : Scope} {f : Addr} {cdv : Value} {A : Around} {outer : List Env} {s : Shared} {H : Hp} {E : XK} {k : Nat} {fns : List Str} (S : FnScope N ps scope)
    (hr : Room (k + 2) (A.deeper (envOfC qual scope s.heap.objs.size f cdv))) (fo : ∀ x ∈ fns, ∃ S j, C.fn x = some S ∧ j ≤ k + 2 ∧ DefOk P w K mg base x j S) :
    GdS (cxOf (L2.CX P w) P w K mg base N qual scope f cdv A outer s H E) C ⟨N, scope, true, fun _ => true, fns, cats, errs⟩ (fun cls d _ H => E cls d H) where
  e := {
    n := rfl
    nd := S.nd
    sc := rfl
    ru := by
      have := hr.un
      show (A.deeper (envOfC qual scope s.heap.objs.size f cdv)).units + 100 < cLine
      omega
    cm := fun _ => rfl
    fo := fun x hx => by
      obtain ⟨S', j, e, hj, f', fd, ps', F, m, kp, b⟩ := fo x hx
      exact ⟨S', e, f', fd, ps', j, F, hr.mono hj, m, kp, b⟩
    gl := T.gl
    bl := T.bl
    fb := fun _ _ => rfl }
  tk := takes_of rfl rfl rfl rfl
  po := passes_of rfl
  so := fun _ _ => rfl
  kd := S.kind
  st := rfl
  fr := rfl
  er := fun c hc => by
    obtain ⟨xC, C', CA, mc, fI, fd, ps', a, b, c', d, e⟩ := T.er c hc
    exact ⟨xC, C', CA, mc, fI, fd, ps', 1, a, b, c', d, hr.mono (by omega), e⟩
  ca := T.ca
theorem RepS.begin {W : Wd} {H : Hp} {N : List Str} {ds : List D} {vs : List V} (r : Reps W H ds vs) : RepS W H (st0 N.length ds) (start N vs) := by
  unfold st0 L2.start
  refine ⟨by simp [r.length], fun i d e => ?_⟩
  have hi : i < ds.length := by
    by_cases hi : i < ds.length
    · exact hi
    · rw [List.getElem?_append_right (by simpa using hi), List.getElem?_replicate] at e
      split at e <;> cases e
  rw [List.getElem?_append_left (by simpa using hi), List.getElem?_map] at e
  cases q : ds[i]? with
  | none => rw [q] at e; cases e
  | some d' =>
    rw [q] at e; cases e
    obtain ⟨v, hv, rv⟩ := r.get q
    refine ⟨v, ?_, rv⟩
    rw [List.getElem?_append_left (by simpa [← r.length] using hi), List.getElem?_map, hv]
    rfl
theorem Fr.subH {h h' h2 : Hd} {H H' : Hp} (f : Fr h H h' H') (s : SubH h2 h') : Fr h H h2 H' := f.sub s
/-- THE RULE for a def -/
theorem def_ruleF {C : Ctx} {errs cats : List Str} (T : Top P w K mg base C errs cats) {x qual : Str} {params : Arguments} {body : List Stmt} {scope : Scope} {f : Addr} {fd : FuncData} {N ps : List Str} {k : Nat} {fns : List Str} {S : SpD} {b : Ss}
    (F : FunD K x qual params body scope [] [] f fd) (hm : mg x = some (.ref f)) (Sc : FnScope N ps scope) (hb : Binds K fd ps [])
    (fo : ∀ x ∈ fns, ∃ S j, C.fn x = some S ∧ j ≤ k + 2 ∧ DefOk P w K mg base x j S)
    (hc : ckSs ⟨N, scope, true, fun _ => true, fns, cats, errs⟩ b body = true)
    (hs : Keeps bt C b N.length ps.length S) :
    FnOk P w K mg base (L2.CX P w) (k + 3) f fd ps (lift ⟨K, mg, w⟩ S) := by
  refine F.ok Sc (fun vs H QV EV ⟨ds, h, Q, E, rh, r, q, _⟩ => by rw [← r.length]; exact (hs _ _ _ _ q).1) fun cdv A outer s H vs QV EV hr ⟨ds, h, Q, E, rh, r, q, kq, ke⟩ => ?_
  refine ⟨_, snd_ss b (T.gd Sc hr fo) hc, ?_⟩
  obtain ⟨_, hw⟩ := hs _ _ _ _ q
  refine ⟨st0 N.length ds, h, xd0 E, nx0 Q, ⟨RepS.begin r, rh, fun x σ h' cls d τ H' fr rh' rs rx z => ?_⟩, hw, ?_⟩
  · obtain ⟨h2, sb, z⟩ := z
    exact ke x h2 cls d H' (fr.sub sb) (rh'.sub sb) rx z
  · refine ⟨fun σ' h' τ' H' fr rh' rs z => ?_, fun d h' v H' fr rh' rv z => ?_, fun σ' h' τ' H' fr rh' rs z => z.elim, fun σ' h' τ' H' fr rh' rs z => z.elim⟩
    · obtain ⟨h2, sb, z⟩ := z
      exact kq .non h2 .non H' (fr.sub sb) (rh'.sub sb) .non z
    · obtain ⟨h2, sb, z⟩ := z
      exact kq d h2 v H' (fr.sub sb) (rh'.sub sb) rv z
theorem def_rule {C : Ctx} {errs cats : List Str} (T : Top P w K mg base C errs cats) {x qual : Str} {params : Arguments} {body : List Stmt} {scope : Scope} {f : Addr} {fd : FuncData} {N ps : List Str} {k : Nat} {fns : List Str} {S : SpD} {b : Ss}
    (F : FunD K x qual params body scope [] [] f fd) (hm : mg x = some (.ref f)) (Sc : FnScope N ps scope) (hb : Binds K fd ps [])
    (fo : ∀ x ∈ fns, ∃ S j, C.fn x = some S ∧ j ≤ k + 2 ∧ DefOk P w K mg base x j S)
    (hc : ckSs ⟨N, scope, true, fun _ => true, fns, cats, errs⟩ b body = true)
    (hs : Keeps bt C b N.length ps.length S) :
    DefOk P w K mg base x (k + 3) S := ⟨f, fd, ps, def_ruleF T F hm Sc hb fo hc hs, hm, F.kp, hb⟩
end
end AR
end

section
set_option Elab.async false
set_option linter.all false
set_option maxRecDepth 100000
set_option maxHeartbeats 4000000
/-! K40e: facts of the top, read from K by a Bool: classes of errors, tuples of texts, a dict of texts. -/
namespace AR
open PySem PySem.Spec PyProof.Rows L2
open He (ga ma eqO eqO_ok ba)
def oexB (K : PySem.W.Frag) (C : Addr) : Bool := (match K.lookup C with
  | some ⟨.type t, _, .cls cd, sl⟩ => (match cd.mro, sl.toList with
    | .ref C' :: bm, [_, _, _, _, some (.builtin n), _] => decide (t = "type") && (decide (C' = C) && (decide (n = "ValueError.__new__") && (cd.hasDict && (!cd.hasDel && PySem.HandSPX.refsVE bm))))
    | _, _ => false)
  | _ => false) && (eqO (PySem.W.findIn K (.ref C) "__setattr__") (some (some (.builtin "object.__setattr__"))) && (decide (PySem.W.subIn K (.ref C) (.type "BaseException") = some true) && (decide (PySem.W.typeIn K (.ref C) = some (.type "type")) && PySem.W.keepIn K (.ref C))))
theorem oexB_ok {K : PySem.W.Frag} {C : Addr} (h : oexB K C = true) : OexC K C := by
  obtain ⟨q, h⟩ := ba h
  obtain ⟨h1, h⟩ := ba h
  obtain ⟨h2, h⟩ := ba h
  obtain ⟨h3, h4⟩ := ba h
  refine ⟨?_, eqO_ok h1, of_decide_eq_true h2, of_decide_eq_true h3, h4⟩
  split at q
  · rename_i t dd cd sl ho
    split at q
    · rename_i C' bm k0 k1 k2 k3 n k5 hm hs
      obtain ⟨q0, q⟩ := ba q
      obtain ⟨q1, q⟩ := ba q
      obtain ⟨q2, q⟩ := ba q
      obtain ⟨q3, q⟩ := ba q
      obtain ⟨q4, q5⟩ := ba q
      have e0 := of_decide_eq_true q0
      have e1 := of_decide_eq_true q1
      have e2 := of_decide_eq_true q2
      subst e0 e1 e2
      obtain ⟨nm, bs, mro, ns, qn, hd, sn, sub, ab, col, del⟩ := cd
      dsimp only at hm q3 q4
      have q4' : del = false := by simpa using q4
      subst hm q3 q4'
      have hsl : sl = #[k0, k1, k2, k3, some (.builtin "ValueError.__new__"), k5] := by
        obtain ⟨l⟩ := sl
        simp only at hs
        rw [hs]
      subst hsl
      exact ⟨nm, qn, ns, bs, bm, sn, sub, ab, col, dd, k0, k1, k2, k3, k5, ho, q5⟩
    · cases q
  · cases q
def errB (K : PySem.W.Frag) (c xC : Str) : Bool := oexB K (ga K c) && (PySem.W.readsIn K (ga K xC) (.type "type") && (eqO (PySem.W.specialIn K (.ref (ga K xC)) "__getattribute__") (some (some (.builtin "type.__getattribute__"))) &&
  ((match PySem.W.findCls K (.ref (ga K xC)) (.type "type") "__init__" with
    | some (.val (.builtin n)) => decide (n = "ValueError.__init__")
    | _ => false) && (eqO (PySem.W.findIn K (.ref (ga K c)) "word") (some none) && (eqO (PySem.W.findIn K (.ref (ga K c)) "__init__") (some (some (.ref (ma K (ga K c) "__init__")))) && decide (PySem.W.typeIn K (.ref (ma K (ga K c) "__init__")) = some (.type "function")))))))
theorem errB_ok {K : PySem.W.Frag} {mg : Str → Option Value} {c xC : Str} (h : errB K c xC = true) (m1 : mg c = some (.ref (ga K c))) (m2 : mg xC = some (.ref (ga K xC))) :
    ErrC K mg c xC (ga K c) (ga K xC) (.type "type") ∧ PySem.W.findIn K (.ref (ga K c)) "__init__" = some (some (.ref (ma K (ga K c) "__init__"))) ∧ PySem.W.typeIn K (.ref (ma K (ga K c) "__init__")) = some (.type "function") := by
  obtain ⟨h0, h⟩ := ba h
  obtain ⟨h1, h⟩ := ba h
  obtain ⟨h2, h⟩ := ba h
  obtain ⟨h3, h⟩ := ba h
  obtain ⟨h4, h⟩ := ba h
  obtain ⟨h5, h6⟩ := ba h
  refine ⟨⟨m1, m2, oexB_ok h0, ⟨h1, eqO_ok h2⟩, ?_, eqO_ok h4⟩, eqO_ok h5, of_decide_eq_true h6⟩
  split at h3
  · rename_i n e
    rw [e, of_decide_eq_true h3]
  · cases h3
/-- a tuple of texts -/
def ktB (K : PySem.W.Frag) (x : Str) (xs : List Str) : Bool := (match K.lookup (ga K x) with
  | some ⟨.type c, _, .seq its _, _⟩ => decide (c = "tuple") && (decide (its.size ≤ sizeLine) && He.relAll (xs.map V.str) its.toList)
  | _ => false) && xs.all PyData.strOk
theorem reps_strs {W : Wd} {H : Hp} : ∀ (xs : List Str), xs.all PyData.strOk = true → Reps W H (xs.map D.str) (xs.map V.str)
  | [], _ => .nil
  | x :: r, h => by
    rw [List.all_cons] at h
    obtain ⟨h1, h2⟩ := ba h
    exact .cons (.str x h1) (reps_strs r h2)
theorem ktB_ok {W : Wd} {x : Str} {xs : List Str} (h : ktB W.K x xs = true) (H : Hp) : Rep W H (.kt (xs.map D.str)) (.ref (ga W.K x)) := by
  obtain ⟨h, hs⟩ := ba h
  refine .kt ?_ (reps_strs xs hs)
  split at h
  · rename_i c od its n sl ho
    obtain ⟨h1, h⟩ := ba h
    obtain ⟨h2, h3⟩ := ba h
    have e := of_decide_eq_true h1
    subst e
    exact ⟨_, its, _, ho, rfl, rfl, of_decide_eq_true h2, He.relAll_ok h3⟩
  · cases h
/-- a dict from texts to texts -/
def entB (e : DictEntry) (kv : Str × Str) : Bool := (match e.key, e.val with
  | .str x _, .str y _ => decide (x = kv.1) && decide (y = kv.2)
  | _, _ => false)
def entsB : List DictEntry → List (Str × Str) → Bool
  | [], [] => true
  | e :: es, kv :: kvs => entB e kv && entsB es kvs
  | _, _ => false
def kdB (K : PySem.W.Frag) (x : Str) (kvs : List (Str × Str)) : Bool := (match K.lookup (ga K x) with
  | some ⟨_, _, .dict es _, _⟩ => entsB es.toList kvs
  | _ => false) && kvs.all fun kv => PyData.strOk kv.2
theorem entsB_find (z : Str) : ∀ (es : List DictEntry) (kvs : List (Str × Str)), entsB es kvs = true → (es.any (·.refKey)) = false ∧ L2.RelO (((kvs.find? fun kv => decide (kv.1 = z)).map (·.2)).map V.str) ((es.find? (·.key.isStr z)).map (·.val))
  | [], [], _ => ⟨rfl, trivial⟩
  | [], _ :: _, h => by cases h
  | _ :: _, [], h => by cases h
  | e :: es, kv :: kvs, h => by
    obtain ⟨h1, h2⟩ := ba h
    obtain ⟨i1, i2⟩ := entsB_find z es kvs h2
    unfold entB at h1
    split at h1
    · rename_i x t y u ek ev
      obtain ⟨h3, h4⟩ := ba h1
      have e3 := of_decide_eq_true h3
      have e4 := of_decide_eq_true h4
      have ks : e.key.isStr z = decide (x = z) := by
        rw [ek]; rfl
      refine ⟨by rw [List.any_cons, i1]; unfold DictEntry.refKey; rw [ek]; rfl, ?_⟩
      rw [List.find?_cons, List.find?_cons, ks, ← e3]
      by_cases hz : x = z
      · rw [decide_eq_true hz]
        show L2.RelO (some (V.str kv.2)) (some e.val)
        rw [ev, ← e4]
        exact ⟨u, rfl⟩
      · rw [decide_eq_false hz]
        exact i2
    · cases h1
theorem kdB_ok {W : Wd} {x : Str} {kvs : List (Str × Str)} (h : kdB W.K x kvs = true) (hk : ∃ es n, L2.KDict W.K W.w (ga W.K x) es n) (H : Hp) : Rep W H (.kd kvs) (.ref (ga W.K x)) := by
  obtain ⟨h, hs⟩ := ba h
  refine .kd ⟨fun kv m => List.all_eq_true.mp hs kv m, ?_⟩
  obtain ⟨es, n, kd⟩ := hk
  refine ⟨es, n, kd, fun z => ?_⟩
  rw [kd.at_] at h
  obtain ⟨i1, i2⟩ := entsB_find z es.toList kvs h
  refine ⟨(es.toList.find? (·.key.isStr z)).map (·.val), ?_, i2⟩
  unfold PySem.W.nsIn
  rw [kd.at_]
  show (match es.toList.find? (·.key.isStr z) with
      | some e => some (some e.val)
      | none => if es.toList.any (·.refKey) then none else some none) = _
  cases es.toList.find? (·.key.isStr z) with
  | some e => rfl
  | none => rw [i1]; rfl
theorem fun_ofD {K : PySem.W.Frag} {x q : Str} {st : Stmt} {f : Addr} {fd : FuncData} (F : FunD K x q (defArgs st) (defBody st) (defScope st) [] [] f fd) : L2.Fun K x q st f fd := by
  obtain ⟨oc, od, dV, kV, doc, pm, an, cdv, ct, osl, e1, e2, e3, e4, _⟩ := F.ex
  rcases e4 with ⟨_, rfl⟩ | ⟨h, _⟩
  · exact ⟨⟨oc, od, kV, doc, pm, an, cdv, ct, osl, e1, e2, e3⟩, F.kp⟩
  · exact absurd rfl h
/-- FnOk of a module's int -/
theorem gl_int {W : Wd} {H : Hp} {i : Int} {x : Str} (h : ∃ t, W.mg x = some (.int i t)) : ∃ u v, W.mg x = some u ∧ RelV v u ∧ ∀ H, Rep W H (.int i) v := by
  obtain ⟨t, e⟩ := h
  exact ⟨_, .int i, e, ⟨t, rfl⟩, fun H => .int i⟩
theorem lookup_all {α : Type} {p : Str → α → Prop} {x : Str} {d : α} : ∀ {l : List (Str × α)}, (∀ q ∈ l, p q.1 q.2) → l.lookup x = some d → p x d
  | [], _, h => by cases h
  | (y, e) :: r, ha, h => by
    rw [List.lookup_cons] at h
    split at h
    · rename_i q
      have e1 := eq_of_beq q
      cases h
      rw [e1]
      exact ha _ List.mem_cons_self
    · exact lookup_all (fun q m => ha q (List.mem_cons_of_mem _ m)) h
/-! ### the Hook: with the interpreter's own table -/
def asS (g : Addr → Option Obj) (n : Nat) : List Addr := He.asD g n ++ [cStatics]
def obsS (n : Nat) (fa : List He.Fa) (fn : List He.DefD) (ts : List He.Tab) (ex : PySem.W.Frag → Bool) (g : Addr → Option Obj) : He.AlX := (He.obsT fa fn ts (He.frT g (asS g n)), ex (He.frT g (asS g n)))
def hookS (n : Nat) (fa : List He.Fa) (fn : List He.DefD) (ts : List He.Tab) (ex : PySem.W.Frag → Bool) : PySem.W.Hook where
  α := He.AlX
  obs := fun s => obsS n fa fn ts ex s.heap.get?
  val := fun w => He.valX fn ts w
  says := fun w h => ∃ K : PySem.W.Frag, K.In h ∧ (He.SaysT fa fn ts w K ∧ ex K = true)
  of := fun _ _ e => ⟨_, He.frT_in, congrArg (fun z : He.AlX => z.1) e, congrArg (fun z : He.AlX => z.2) e⟩
  keeps := fun _ _ _ ⟨K, hK, c⟩ k => ⟨K, PySem.W.Frag.In.keeps hK k, c⟩
theorem obsS_eq {n : Nat} {fa : List He.Fa} {fn : List He.DefD} {ts : List He.Tab} {ex : PySem.W.Frag → Bool} {g : Addr → Option Obj} {s : Shared} (h : ∀ a, g a = s.heap.get? a) : obsS n fa fn ts ex g = (hookS n fa fn ts ex).obs s := by
  have e : g = s.heap.get? := funext h
  rw [e] <;> rfl
end AR
end

section
set_option Elab.async false
set_option linter.all false
set_option maxRecDepth 100000
set_option maxHeartbeats 4000000
namespace K40
open PySem (Str)
open AR
def N_law_draws : List Str := ["script"]
def b_law_draws : Ss := (.cons (.ret (.lst (.cons (.b1 .list (.var 0)) (.cons (.int 0) (.cons (.int 0) (.cons (.int 1) .nil)))))) .nil)
def N_law_draw : List Str := ["draws", "limit", "cell", "value"]
def b_law_draw : Ss := (.cons (.ite (.and (.cmp .eq (.ix (.var 0) (.int 2)) (.int 0)) (.cmp .lt (.ix (.var 0) (.int 1)) (.b1 .len (.ix (.var 0) (.int 0))))) (.cons (.asg (.name 2) (.ix (.ix (.var 0) (.int 0)) (.ix (.var 0) (.int 1)))) (.cons (.asg (.sub (.var 0) (.int 1)) (.bin .add (.ix (.var 0) (.int 1)) (.int 1))) (.cons (.ite (.cmp .ge (.var 2) (.bin .pow (.int 10) (.int 18))) (.cons (.asg (.sub (.var 0) (.int 2)) (.var 2)) .nil) .nil) (.cons (.asg (.sub (.var 0) (.int 3)) (.bin .mod (.b1 .int (.bin .add (.bin .add (.bin .mul (.ix (.var 0) (.int 3)) (.int 48271)) (.var 2)) (.int 13))) (.int 2147483647))) .nil)))) .nil) (.cons (.ite (.cmp .gt (.ix (.var 0) (.int 2)) (.int 0)) (.cons (.asg (.name 3) (.bin .mod (.b1 .int (.ix (.var 0) (.int 2))) (.var 1))) (.cons (.asg (.sub (.var 0) (.int 2)) (.bin .fdiv (.ix (.var 0) (.int 2)) (.var 1))) (.cons (.ret (.var 3)) .nil))) .nil) (.cons (.asg (.sub (.var 0) (.int 3)) (.bin .mod (.b1 .int (.bin .add (.bin .mul (.ix (.var 0) (.int 3)) (.int 69621)) (.int 7))) (.int 2147483629))) (.cons (.ret (.bin .mod (.b1 .int (.bin .fdiv (.ix (.var 0) (.int 3)) (.int 11))) (.var 1))) .nil))))
def N_law_pick : List Str := ["draws", "row"]
def b_law_pick : Ss := (.cons (.ret (.ix (.var 1) (.call "_law_draw" (.cons (.var 0) (.cons (.b1 .len (.var 1)) .nil))))) .nil)
def N_law_register : List Str := ["draws"]
def b_law_register : Ss := (.cons (.ret (.call "_law_pick" (.cons (.var 0) (.cons (.lst (.cons (.int 1) (.cons (.int 2) (.cons (.int 3) (.cons (.int 4) (.cons (.int 5) (.cons (.int 0) (.cons (.int 1) (.cons (.int 2) .nil))))))))) .nil)))) .nil)
def N_law_plain : List Str := ["draws", "cells", "kind", "word"]
def b_law_plain : Ss := (.cons (.asg (.name 2) (.call "_law_draw" (.cons (.var 0) (.cons (.int 14) .nil)))) (.cons (.ite (.cmp .lt (.var 2) (.int 3)) (.cons (.ret (.tup (.cons (.str "set") (.cons (.call "_law_register" (.cons (.var 0) .nil)) (.cons (.call "_law_pick" (.cons (.var 0) (.cons (.lst (.cons (.int 0) (.cons (.int 1) (.cons (.int 2) (.cons (.int 3) (.cons (.int 5) (.cons (.int 8) (.cons (.int 65535) (.cons (.int 32768) (.cons (.call "_law_draw" (.cons (.var 0) (.cons (.int 65536) .nil))) .nil)))))))))) .nil))) .nil))))) .nil) .nil) (.cons (.ite (.cmp .lt (.var 2) (.int 7)) (.cons (.asg (.name 3) (.call "_law_pick" (.cons (.var 0) (.cons (.lst (.cons (.str "add") (.cons (.str "sub") (.cons (.str "and") (.cons (.str "or") (.cons (.str "xor") (.cons (.str "under") (.cons (.str "mul") (.cons (.str "add") (.cons (.str "sub") (.cons (.str "mul") (.cons (.str "div") (.cons (.str "rem") .nil))))))))))))) .nil)))) (.cons (.asg (.name 3) (.ite (.and (.cmp .in_ (.var 3) (.tup (.cons (.str "div") (.cons (.str "rem") .nil)))) (.cmp .gt (.call "_law_draw" (.cons (.var 0) (.cons (.int 3) .nil))) (.int 0))) (.str "add") (.var 3))) (.cons (.ret (.tup (.cons (.var 3) (.cons (.call "_law_register" (.cons (.var 0) .nil)) (.cons (.call "_law_register" (.cons (.var 0) .nil)) (.cons (.call "_law_register" (.cons (.var 0) .nil)) .nil)))))) .nil))) .nil) (.cons (.ite (.cmp .lt (.var 2) (.int 10)) (.cons (.ret (.tup (.cons (.str "load") (.cons (.call "_law_register" (.cons (.var 0) .nil)) (.cons (.call "_law_pick" (.cons (.var 0) (.cons (.lst (.cons (.int 0) (.cons (.int 0) (.cons (.int 0) (.cons (.int 0) (.cons (.int 6) (.cons (.int 1) .nil))))))) .nil))) (.cons (.call "_law_draw" (.cons (.var 0) (.cons (.var 1) .nil))) .nil)))))) .nil) .nil) (.cons (.ite (.cmp .lt (.var 2) (.int 12)) (.cons (.ret (.tup (.cons (.str "store") (.cons (.call "_law_pick" (.cons (.var 0) (.cons (.lst (.cons (.int 0) (.cons (.int 0) (.cons (.int 0) (.cons (.int 0) (.cons (.int 6) (.cons (.int 1) .nil))))))) .nil))) (.cons (.call "_law_draw" (.cons (.var 0) (.cons (.var 1) .nil))) (.cons (.call "_law_register" (.cons (.var 0) .nil)) .nil)))))) .nil) .nil) (.cons (.ret (.ite (.cmp .eq (.var 2) (.int 12)) (.tup (.cons (.str "tell") (.cons (.call "_law_register" (.cons (.var 0) .nil)) .nil))) (.tup (.cons (.str "add") (.cons (.int 6) (.cons (.int 6) (.cons (.int 0) .nil))))))) .nil))))))
def N_law_block : List Str := ["draws", "cells", "most", "rows", "last", "k"]
def b_law_block : Ss := (.cons (.asg (.name 3) (.lc (.call "_law_plain" (.cons (.var 0) (.cons (.var 1) .nil))) (.name 5) (.range1 (.bin .add (.int 1) (.call "_law_draw" (.cons (.var 0) (.cons (.var 2) .nil))))) .none [5])) (.cons (.asg (.name 4) (.call "_law_pick" (.cons (.var 0) (.cons (.lst (.cons .non (.cons .non (.cons .non (.cons (.tup (.cons (.str "same") (.cons (.int 1) (.cons (.int 2) (.cons (.int 3) .nil))))) (.cons (.tup (.cons (.str "jump") (.cons (.int 5) .nil))) (.cons (.tup (.cons (.str "link") (.cons (.int 4) (.cons (.int 9) .nil)))) (.cons (.tup (.cons (.str "back") (.cons (.int 3) .nil))) (.cons (.tup (.cons (.str "stop") .nil)) (.cons (.tup (.cons (.str "less") (.cons (.int 3) (.cons (.int 1) (.cons (.int 0) .nil))))) .nil)))))))))) .nil)))) (.cons (.ret (.b1 .tuple (.bin .add (.sl (.var 3) .none (.some (.bin .sub (.var 2) (.int 1)))) (.ite (.cmp .isNot (.var 4) .non) (.lst (.cons (.var 4) .nil)) (.lst (.cons (.ix (.var 3) (.int 0)) .nil)))))) .nil)))
def N_form_of : List Str := ["word"]
def b_form_of : Ss := (.cons (.ite (.cmp .in_ (.var 0) (.gl "WORKS")) (.cons (.ret (.str "dab")) .nil) .nil) (.cons (.ret (.ite (.cmp .in_ (.var 0) (.gl "CONDITIONS")) (.str "abt") (.meth "get" (.gl "FORMS") (.cons (.var 0) .nil)))) .nil))
def N_is_whole : List Str := ["value"]
def b_is_whole : Ss := (.cons (.ret (.and (.isi (.var 0) "int") (.not (.isi (.var 0) "bool")))) .nil)
def N_is_word : List Str := ["value"]
def b_is_word : Ss := (.cons (.ret (.and (.call "is_whole" (.cons (.var 0) .nil)) (.chain .le .lt (.int 0) (.var 0) (.gl "WRAP")))) .nil)
def N_is_register : List Str := ["value"]
def b_is_register : Ss := (.cons (.ret (.and (.call "is_whole" (.cons (.var 0) .nil)) (.chain .le .lt (.int 0) (.var 0) (.gl "REGISTERS")))) .nil)
def N_word_wrong : List Str := ["value", "size", "form", "sign", "one"]
def b_word_wrong : Ss := (.cons (.ite (.or (.not (.isi (.var 0) "tuple")) (.or (.cmp .eq (.b1 .len (.var 0)) (.int 0)) (.or (.not (.isi (.ix (.var 0) (.int 0)) "str")) (.cmp .is (.call "form_of" (.cons (.ix (.var 0) (.int 0)) .nil)) .non)))) (.cons (.ret (.str "instruction")) .nil) .nil) (.cons (.asg (.name 2) (.call "form_of" (.cons (.ix (.var 0) (.int 0)) .nil))) (.cons (.ite (.cmp .ne (.b1 .len (.var 0)) (.bin .add (.b1 .len (.var 2)) (.int 1))) (.cons (.ret (.str "parts")) .nil) .nil) (.cons (.fr (.tup [(.name 3), (.name 4)]) (.zip (.chars (.var 2)) (.val (.sl (.var 0) (.some (.int 1)) .none))) (.cons (.ite (.and (.cmp .eq (.var 3) (.str "n")) (.not (.call "is_word" (.cons (.var 4) .nil)))) (.cons (.ret (.str "word")) .nil) .nil) (.cons (.ite (.and (.cmp .eq (.var 3) (.str "t")) (.not (.and (.call "is_whole" (.cons (.var 4) .nil)) (.chain .le .lt (.int 0) (.var 4) (.var 1))))) (.cons (.ret (.str "index")) .nil) .nil) (.cons (.ite (.and (.cmp .notIn (.var 3) (.str "nt")) (.not (.call "is_register" (.cons (.var 4) .nil)))) (.cons (.ret (.str "register")) .nil) .nil) .nil)))) (.cons (.ret .non) .nil)))))
def N_is_block : List Str := ["value", "one"]
def b_is_block : Ss := (.cons (.ite (.or (.not (.isi (.var 0) "tuple")) (.not (.chain .lt .le (.int 0) (.b1 .len (.var 0)) (.gl "MOST_BLOCK")))) (.cons (.ret (.bl false)) .nil) .nil) (.cons (.ite (.not (.b1 .all (.lc (.cmp .is (.call "word_wrong" (.cons (.var 1) (.cons (.gl "MOST") .nil))) .non) (.name 1) (.val (.var 0)) .none [1]))) (.cons (.ret (.bl false)) .nil) .nil) (.cons (.ret (.not (.b1 .any (.lc (.cmp .in_ (.ix (.var 1) (.int 0)) (.gl "TRANSFERS")) (.name 1) (.val (.sl (.var 0) .none (.some (.neg (.int 1))))) .none [1])))) .nil)))
def N_look_at_block : List Str := ["value"]
def b_look_at_block : Ss := (.cons (.ite (.not (.call "is_block" (.cons (.var 0) .nil))) (.cons (.rse "BadPlan" (.cons (.str "block") .nil)) .nil) .nil) .nil)
def N_registers_in : List Str := ["instruction", "signs", "form", "at", "sign"]
def b_registers_in : Ss := (.cons (.asg (.name 2) (.call "form_of" (.cons (.ix (.var 0) (.int 0)) .nil))) (.cons (.ret (.lc (.ix (.var 0) (.bin .add (.var 3) (.int 1))) (.tup [(.name 3), (.name 4)]) (.enum (.chars (.var 2))) (.some (.cmp .in_ (.var 4) (.var 1))) [3, 4])) .nil))
def N_writes : List Str := ["instruction", "rows"]
def b_writes : Ss := (.cons (.asg (.name 1) (.call "registers_in" (.cons (.var 0) (.cons (.str "d") .nil)))) (.cons (.ret (.ite (.cmp .gt (.b1 .len (.var 1)) (.int 0)) (.ix (.var 1) (.int 0)) (.int 0))) .nil))
def N_last_writers : List Str := ["block", "last", "found", "at", "one"]
def b_last_writers : Ss := (.cons (.par [1, 2] (.cons (.dct false .nil) (.cons (.lst .nil) .nil))) (.cons (.fr (.tup [(.name 3), (.name 4)]) (.enum (.val (.var 0))) (.cons (.ex (.meth "append" (.var 2) (.cons (.b1 .dict (.var 1)) .nil))) (.cons (.ite (.cmp .ne (.call "writes" (.cons (.var 4) .nil)) (.int 0)) (.cons (.asg (.sub (.var 1) (.call "writes" (.cons (.var 4) .nil))) (.var 3)) .nil) .nil) .nil))) (.cons (.ret (.var 2)) .nil)))
def N_reads : List Str := ["instruction", "one"]
def b_reads : Ss := (.cons (.ret (.b1 .tuple (.b1 .sorted (.dc false (.var 1) (.bl true) (.name 1) (.val (.call "registers_in" (.cons (.var 0) (.cons (.str "abs") .nil)))) (.some (.cmp .ne (.var 1) (.int 0))) [1])))) .nil)
def N_place_of : List Str := ["block", "at", "op", "base", "far"]
def b_place_of : Ss := (.cons (.asg (.name 2) (.ix (.var 0) (.var 1))) (.cons (.asg (.tup [(.name 3), (.name 4)]) (.ite (.cmp .eq (.ix (.var 2) (.int 0)) (.str "load")) (.tup (.cons (.ix (.var 2) (.int 2)) (.cons (.ix (.var 2) (.int 3)) .nil))) (.tup (.cons (.ix (.var 2) (.int 1)) (.cons (.ix (.var 2) (.int 2)) .nil))))) (.cons (.ret (.tup (.cons (.var 3) (.cons (.ite (.cmp .ne (.var 3) (.int 0)) (.meth "get" (.ix (.call "last_writers" (.cons (.var 0) .nil)) (.var 1)) (.cons (.var 3) .nil)) .non) (.cons (.var 4) .nil))))) .nil)))
def N_are_apart : List Str := ["block", "one", "two", "first", "other"]
def b_are_apart : Ss := (.cons (.par [3, 4] (.cons (.call "place_of" (.cons (.var 0) (.cons (.var 1) .nil))) (.cons (.call "place_of" (.cons (.var 0) (.cons (.var 2) .nil))) .nil))) (.cons (.ret (.and (.cmp .eq (.sl (.var 3) .none (.some (.int 2))) (.sl (.var 4) .none (.some (.int 2)))) (.cmp .ne (.bin .mod (.bin .sub (.ix (.var 3) (.int 2)) (.ix (.var 4) (.int 2))) (.gl "WRAP")) (.int 0)))) .nil))
def N_touch_alike : List Str := ["block", "first", "other", "words", "one"]
def b_touch_alike : Ss := (.cons (.asg (.name 3) (.tup (.cons (.ix (.ix (.var 0) (.var 1)) (.int 0)) (.cons (.ix (.ix (.var 0) (.var 2)) (.int 0)) .nil)))) (.cons (.ite (.or (.not (.b1 .all (.lc (.cmp .in_ (.var 4) (.tup (.cons (.str "load") (.cons (.str "store") .nil)))) (.name 4) (.val (.var 3)) .none [4]))) (.cmp .eq (.var 3) (.tup (.cons (.str "load") (.cons (.str "load") .nil))))) (.cons (.ret (.bl false)) .nil) .nil) (.cons (.ret (.not (.call "are_apart" (.cons (.var 0) (.cons (.var 1) (.cons (.var 2) .nil)))))) .nil)))
def N_depends : List Str := ["block", "found", "writers", "at", "one", "register", "first", "told", "later", "there"]
def b_depends : Ss := (.cons (.ex (.call "look_at_block" (.cons (.var 0) .nil))) (.cons (.par [1, 2] (.cons (.dct true .nil) (.cons (.call "last_writers" (.cons (.var 0) .nil)) .nil))) (.cons (.fr (.tup [(.name 3), (.name 4)]) (.enum (.val (.var 0))) (.cons (.fr (.name 5) (.val (.call "reads" (.cons (.var 4) .nil))) (.cons (.ite (.cmp .in_ (.var 5) (.ix (.var 2) (.var 3))) (.cons (.asg (.sub (.var 1) (.tup (.cons (.ix (.ix (.var 2) (.var 3)) (.var 5)) (.cons (.var 3) (.cons (.str "value") .nil))))) (.bl true)) .nil) .nil) (.cons (.asg (.name 8) (.lc (.var 9) (.name 9) (.range2 (.var 3) (.b1 .len (.var 0))) (.some (.cmp .eq (.call "writes" (.cons (.ix (.var 0) (.var 9)) .nil)) (.var 5))) [9])) (.cons (.asg (.name 8) (.ite (.cmp .notIn (.var 3) (.var 8)) (.sl (.lc (.var 9) (.name 9) (.val (.var 8)) (.some (.cmp .gt (.var 9) (.var 3))) [9]) .none (.some (.int 1))) (.lst .nil))) (.cons (.ex (.meth "update" (.var 1) (.cons (.dc true (.tup (.cons (.var 3) (.cons (.var 9) (.cons (.str "over") .nil)))) (.bl true) (.name 9) (.val (.var 8)) .none [9]) .nil))) .nil))))) (.cons (.ite (.and (.cmp .in_ (.call "writes" (.cons (.var 4) .nil)) (.ix (.var 2) (.var 3))) (.cmp .ne (.call "writes" (.cons (.var 4) .nil)) (.int 0))) (.cons (.asg (.sub (.var 1) (.tup (.cons (.ix (.ix (.var 2) (.var 3)) (.call "writes" (.cons (.var 4) .nil))) (.cons (.var 3) (.cons (.str "again") .nil))))) (.bl true)) .nil) .nil) (.cons (.fr (.name 6) (.range1 (.var 3)) (.cons (.ite (.call "touch_alike" (.cons (.var 0) (.cons (.var 6) (.cons (.var 3) .nil)))) (.cons (.asg (.sub (.var 1) (.tup (.cons (.var 6) (.cons (.var 3) (.cons (.str "place") .nil))))) (.bl true)) .nil) .nil) .nil)) (.cons (.asg (.name 7) (.lc (.var 6) (.name 6) (.range1 (.var 3)) (.some (.cmp .eq (.ix (.ix (.var 0) (.var 6)) (.int 0)) (.str "tell"))) [6])) (.cons (.ite (.and (.cmp .eq (.ix (.var 4) (.int 0)) (.str "tell")) (.cmp .gt (.b1 .len (.var 7)) (.int 0))) (.cons (.asg (.sub (.var 1) (.tup (.cons (.ix (.var 7) (.neg (.int 1))) (.cons (.var 3) (.cons (.str "tell") .nil))))) (.bl true)) .nil) .nil) (.cons (.ite (.cmp .in_ (.ix (.var 4) (.int 0)) (.gl "TRANSFERS")) (.cons (.ex (.meth "update" (.var 1) (.cons (.dc true (.tup (.cons (.var 6) (.cons (.var 3) (.cons (.str "last") .nil)))) (.bl true) (.name 6) (.range1 (.var 3)) .none [6]) .nil))) .nil) .nil) .nil))))))) (.cons (.ret (.b1 .tuple (.b1 .sorted (.var 1)))) .nil))))
def N_look_at_registers : List Str := ["value", "one"]
def b_look_at_registers : Ss := (.cons (.ite (.or (.not (.isi (.var 0) "tuple")) (.or (.cmp .ne (.b1 .len (.var 0)) (.gl "REGISTERS")) (.not (.b1 .all (.lc (.call "is_word" (.cons (.var 1) .nil)) (.name 1) (.val (.var 0)) .none [1]))))) (.cons (.rse "BadPlan" (.cons (.str "registers") .nil)) .nil) .nil) (.cons (.ite (.cmp .ne (.ix (.var 0) (.int 0)) (.int 0)) (.cons (.rse "BadPlan" (.cons (.str "registers") .nil)) .nil) .nil) .nil))
def N_is_memory : List Str := ["value", "one"]
def b_is_memory : Ss := (.cons (.ret (.and (.isi (.var 0) "tuple") (.and (.chain .le .le (.int 8) (.b1 .len (.var 0)) (.int 64)) (.b1 .all (.lc (.call "is_word" (.cons (.var 1) .nil)) (.name 1) (.val (.var 0)) .none [1]))))) .nil)
def N_look_at_memory : List Str := ["value"]
def b_look_at_memory : Ss := (.cons (.ite (.not (.call "is_memory" (.cons (.var 0) .nil))) (.cons .never .nil) .nil) .nil)
def N_is_order : List Str := ["size", "value", "one"]
def b_is_order : Ss := (.cons (.ite (.or (.not (.isi (.var 1) "tuple")) (.not (.b1 .all (.lc (.call "is_whole" (.cons (.var 2) .nil)) (.name 2) (.val (.var 1)) .none [2])))) (.cons (.ret (.bl false)) .nil) .nil) (.cons (.ret (.cmp .eq (.b1 .sorted (.var 1)) (.lrange (.var 0)))) .nil))
def N_keeps : List Str := ["pairs", "value", "place", "at", "one", "pair"]
def b_keeps : Ss := (.cons (.asg (.name 2) (.dc false (.var 4) (.var 3) (.tup [(.name 3), (.name 4)]) (.enum (.val (.var 1))) .none [3, 4])) (.cons (.ret (.b1 .all (.lc (.cmp .lt (.ix (.var 2) (.ix (.var 5) (.int 0))) (.ix (.var 2) (.ix (.var 5) (.int 1)))) (.name 5) (.val (.var 0)) .none [5]))) .nil))
def N_true_pairs : List Str := ["block", "pair"]
def b_true_pairs : Ss := (.cons (.ret (.b1 .tuple (.lc (.var 1) (.name 1) (.val (.call "depends" (.cons (.var 0) .nil))) (.some (.cmp .in_ (.ix (.var 1) (.int 2)) (.gl "TRUE"))) [1]))) .nil)
def N_is_true_order : List Str := ["block", "value"]
def b_is_true_order : Ss := (.cons (.ex (.call "look_at_block" (.cons (.var 0) .nil))) (.cons (.ret (.and (.call "is_order" (.cons (.b1 .len (.var 0)) (.cons (.var 1) .nil))) (.call "keeps" (.cons (.call "true_pairs" (.cons (.var 0) .nil)) (.cons (.var 1) .nil))))) .nil))
def N_name_of : List Str := ["writers", "register"]
def b_name_of : Ss := (.cons (.ite (.cmp .eq (.var 1) (.int 0)) (.cons (.ret (.tup (.cons (.str "was") (.cons (.int 0) .nil)))) .nil) .nil) (.cons (.ret (.ite (.cmp .in_ (.var 1) (.var 0)) (.tup (.cons (.str "made") (.cons (.ix (.var 0) (.var 1)) .nil))) (.tup (.cons (.str "was") (.cons (.var 1) .nil))))) .nil))
def N_renamed : List Str := ["block", "found", "at", "sources", "one", "writers", "sign", "part"]
def b_renamed : Ss := (.cons (.ex (.call "look_at_block" (.cons (.var 0) .nil))) (.cons (.asg (.name 1) (.lst .nil)) (.cons (.fr (.tup [(.name 2), (.tup [(.name 4), (.name 5)])]) (.enum (.zip (.val (.var 0)) (.val (.call "last_writers" (.cons (.var 0) .nil))))) (.cons (.asg (.name 3) (.lc (.call "name_of" (.cons (.var 5) (.cons (.var 7) .nil))) (.tup [(.name 6), (.name 7)]) (.zip (.chars (.call "form_of" (.cons (.ix (.var 4) (.int 0)) .nil))) (.val (.sl (.var 4) (.some (.int 1)) .none))) (.some (.cmp .in_ (.var 6) (.str "abs"))) [6, 7])) (.cons (.ex (.meth "append" (.var 1) (.cons (.tup (.cons (.b1 .tuple (.var 3)) (.cons (.ite (.cmp .ne (.call "writes" (.cons (.var 4) .nil)) (.int 0)) (.tup (.cons (.str "made") (.cons (.var 2) .nil))) .non) .nil))) .nil))) .nil))) (.cons (.ret (.b1 .tuple (.var 1))) .nil))))
def N_signed : List Str := ["word"]
def b_signed : Ss := (.cons (.ret (.ite (.cmp .ge (.var 0) (.gl "HALF")) (.bin .sub (.var 0) (.gl "WRAP")) (.var 0))) .nil)
def N_holds : List Str := ["condition", "one", "two"]
def b_holds : Ss := (.cons (.ite (.cmp .eq (.var 0) (.str "less")) (.cons (.ret (.cmp .lt (.call "signed" (.cons (.var 1) .nil)) (.call "signed" (.cons (.var 2) .nil)))) .nil) .nil) (.cons (.ret (.cmp .eq (.cmp .eq (.var 1) (.var 2)) (.cmp .eq (.var 0) (.str "same")))) .nil))
def N_moved_by : List Str := ["op", "at", "words"]
def b_moved_by : Ss := (.cons (.ite (.cmp .eq (.ix (.var 0) (.int 0)) (.str "set")) (.cons (.ret (.tup (.cons (.ix (.var 0) (.int 2)) (.cons .non .nil)))) .nil) .nil) (.cons (.ite (.cmp .eq (.ix (.var 0) (.int 0)) (.str "jump")) (.cons (.ret (.tup (.cons .non (.cons (.ix (.var 0) (.int 1)) .nil)))) .nil) .nil) (.cons (.ite (.cmp .eq (.ix (.var 0) (.int 0)) (.str "link")) (.cons (.ret (.tup (.cons (.bin .add (.var 1) (.int 1)) (.cons (.ix (.var 0) (.int 2)) .nil)))) .nil) .nil) (.cons (.ite (.cmp .eq (.ix (.var 0) (.int 0)) (.str "back")) (.cons (.ret (.ite (.cmp .lt (.ix (.var 2) (.int 0)) (.int 60)) (.tup (.cons .non (.cons (.ix (.var 2) (.int 0)) .nil))) .non)) .nil) .nil) (.cons (.ite (.cmp .eq (.ix (.var 0) (.int 0)) (.str "stop")) (.cons (.ret (.tup (.cons .non (.cons (.tup (.cons (.str "stopped") (.cons (.var 1) .nil))) .nil)))) .nil) .nil) (.cons (.ret (.tup (.cons .non (.cons (.ite (.call "holds" (.cons (.ix (.var 0) (.int 0)) (.cons (.ix (.var 2) (.int 0)) (.cons (.ix (.var 2) (.int 1)) .nil)))) (.ix (.var 0) (.int 3)) (.bin .add (.var 1) (.int 1))) .nil)))) .nil))))))
def N_worked : List Str := ["word", "one", "two"]
def b_worked : Ss := (.cons (.ite (.cmp .eq (.var 0) (.str "add")) (.cons (.ret (.bin .mod (.bin .add (.var 1) (.var 2)) (.gl "WRAP"))) .nil) .nil) (.cons (.ite (.cmp .eq (.var 0) (.str "sub")) (.cons (.ret (.bin .mod (.bin .sub (.var 1) (.var 2)) (.gl "WRAP"))) .nil) .nil) (.cons (.ite (.cmp .eq (.var 0) (.str "and")) (.cons (.ret (.bin .and (.var 1) (.var 2))) .nil) .nil) (.cons (.ite (.cmp .eq (.var 0) (.str "or")) (.cons (.ret (.bin .or (.var 1) (.var 2))) .nil) .nil) (.cons (.ite (.cmp .eq (.var 0) (.str "xor")) (.cons (.ret (.bin .xor (.var 1) (.var 2))) .nil) .nil) (.cons (.ite (.cmp .eq (.var 0) (.str "under")) (.cons (.ret (.b1 .int (.cmp .lt (.call "signed" (.cons (.var 1) .nil)) (.call "signed" (.cons (.var 2) .nil))))) .nil) .nil) (.cons (.ite (.cmp .eq (.var 0) (.str "mul")) (.cons (.ret (.bin .mod (.bin .mul (.var 1) (.var 2)) (.gl "WRAP"))) .nil) .nil) (.cons (.ite (.cmp .eq (.var 2) (.int 0)) (.cons (.ret .non) .nil) .nil) (.cons (.ret (.ite (.cmp .eq (.var 0) (.str "div")) (.bin .fdiv (.var 1) (.var 2)) (.bin .mod (.var 1) (.var 2)))) .nil)))))))))
def N_made_by : List Str := ["op", "at", "words", "into", "cells", "told", "made", "spot"]
def b_made_by : Ss := (.cons (.asg (.tup [(.name 4), (.name 5)]) (.var 3)) (.cons (.ite (.cmp .in_ (.ix (.var 0) (.int 0)) (.gl "WORKS")) (.cons (.asg (.name 6) (.call "worked" (.cons (.ix (.var 0) (.int 0)) (.cons (.ix (.var 2) (.int 0)) (.cons (.ix (.var 2) (.int 1)) .nil))))) (.cons (.ret (.ite (.cmp .is (.var 6) .non) .non (.tup (.cons (.var 6) (.cons .non .nil))))) .nil)) .nil) (.cons (.ite (.cmp .in_ (.ix (.var 0) (.int 0)) (.tup (.cons (.str "load") (.cons (.str "store") .nil)))) (.cons (.asg (.name 7) (.bin .mod (.bin .add (.ix (.var 2) (.int 0)) (.ite (.cmp .eq (.ix (.var 0) (.int 0)) (.str "load")) (.ix (.var 0) (.int 3)) (.ix (.var 0) (.int 2)))) (.gl "WRAP"))) (.cons (.ite (.cmp .ge (.var 7) (.b1 .len (.var 4))) (.cons (.ret .non) .nil) .nil) (.cons (.ite (.cmp .eq (.ix (.var 0) (.int 0)) (.str "load")) (.cons (.ret (.tup (.cons (.ix (.var 4) (.var 7)) (.cons .non .nil)))) .nil) .nil) (.cons (.asg (.sub (.var 4) (.var 7)) (.ix (.var 2) (.int 1))) (.cons (.ret (.tup (.cons .non (.cons .non .nil)))) .nil))))) .nil) (.cons (.ite (.cmp .eq (.ix (.var 0) (.int 0)) (.str "tell")) (.cons (.ex (.meth "append" (.var 5) (.cons (.ix (.var 2) (.int 0)) .nil))) (.cons (.ret (.tup (.cons .non (.cons .non .nil)))) .nil)) .nil) (.cons (.ret (.call "moved_by" (.cons (.var 0) (.cons (.var 1) (.cons (.var 2) .nil))))) .nil)))))
def N_names_behind : List Str := ["block", "last", "at", "one", "register"]
def b_names_behind : Ss := (.cons (.ex (.call "look_at_block" (.cons (.var 0) .nil))) (.cons (.asg (.name 1) (.dc false (.call "writes" (.cons (.var 3) .nil)) (.var 2) (.tup [(.name 2), (.name 3)]) (.enum (.val (.var 0))) (.some (.cmp .ne (.call "writes" (.cons (.var 3) .nil)) (.int 0))) [2, 3])) (.cons (.ret (.b1 .tuple (.lc (.call "name_of" (.cons (.var 1) (.cons (.var 4) .nil))) (.name 4) (.range1 (.gl "REGISTERS")) .none [4]))) .nil)))
def N_run_named : List Str := ["block", "order", "registers", "memory", "held", "at", "cells", "told", "after", "rows", "words", "made", "register", "word", "name"]
def b_run_named : Ss := (.cons (.ex (.call "look_at_registers" (.cons (.var 2) .nil))) (.cons (.ex (.call "look_at_memory" (.cons (.var 3) .nil))) (.cons (.ite (.not (.call "is_true_order" (.cons (.var 0) (.cons (.var 1) .nil)))) (.cons (.rse "BadPlan" (.cons (.str "order") .nil)) .nil) .nil) (.cons (.asg (.name 4) (.dc true (.tup (.cons (.str "was") (.cons (.var 12) .nil))) (.var 13) (.tup [(.name 12), (.name 13)]) (.enum (.val (.var 2))) .none [12, 13])) (.cons (.asg (.tup [(.name 6), (.name 7), (.name 8), (.name 9)]) (.tup (.cons (.b1 .list (.var 3)) (.cons (.lst .nil) (.cons (.b1 .len (.var 0)) (.cons (.call "renamed" (.cons (.var 0) .nil)) .nil)))))) (.cons (.fr (.name 5) (.val (.var 1)) (.cons (.asg (.name 10) (.lc (.ix (.var 4) (.var 14)) (.name 14) (.val (.ix (.ix (.var 9) (.var 5)) (.int 0))) .none [14])) (.cons (.asg (.name 11) (.call "made_by" (.cons (.ix (.var 0) (.var 5)) (.cons (.var 5) (.cons (.var 10) (.cons (.tup (.cons (.var 6) (.cons (.var 7) .nil))) .nil)))))) (.cons (.ite (.cmp .is (.var 11) .non) (.cons (.ret .non) .nil) .nil) (.cons (.ite (.cmp .isNot (.ix (.ix (.var 9) (.var 5)) (.int 1)) .non) (.cons (.asg (.sub (.var 4) (.ix (.ix (.var 9) (.var 5)) (.int 1))) (.ix (.var 11) (.int 0))) .nil) .nil) (.cons (.asg (.name 8) (.ite (.cmp .is (.ix (.var 11) (.int 1)) .non) (.var 8) (.ix (.var 11) (.int 1)))) .nil)))))) (.cons (.ret (.tup (.cons (.b1 .tuple (.lc (.ix (.var 4) (.var 14)) (.name 14) (.val (.call "names_behind" (.cons (.var 0) .nil))) .none [14])) (.cons (.b1 .tuple (.var 6)) (.cons (.b1 .tuple (.var 7)) (.cons (.var 8) .nil)))))) .nil)))))))
def N_free : List Str := ["size", "pairs", "done", "held", "waits", "one", "pair"]
def b_free : Ss := (.cons (.asg (.name 3) (.dc false (.var 5) (.bl true) (.name 5) (.val (.var 2)) .none [5])) (.cons (.asg (.name 4) (.dc false (.ix (.var 6) (.int 1)) (.bl true) (.name 6) (.val (.var 1)) (.some (.cmp .notIn (.ix (.var 6) (.int 0)) (.var 3))) [6])) (.cons (.ret (.lc (.var 5) (.name 5) (.range1 (.var 0)) (.some (.and (.cmp .notIn (.var 5) (.var 3)) (.cmp .notIn (.var 5) (.var 4)))) [5])) .nil)))
def N_all_orders : List Str := ["size", "pairs", "most", "found", "todo", "here", "one"]
def b_all_orders : Ss := (.cons (.par [3, 4] (.cons (.lst .nil) (.cons (.lst (.cons (.tup .nil) .nil)) .nil))) (.cons (.whl (.cmp .gt (.b1 .len (.var 4)) (.int 0)) (.cons (.asg (.name 5) (.meth "pop" (.var 4) .nil)) (.cons (.ite (.cmp .eq (.b1 .len (.var 5)) (.var 0)) (.cons (.ex (.meth "append" (.var 3) (.cons (.var 5) .nil))) (.cons (.ite (.cmp .gt (.b1 .len (.var 3)) (.var 2)) (.cons (.rse "Refused" (.cons (.str "many") .nil)) .nil) .nil) (.cons .cont .nil))) .nil) (.cons (.ex (.meth "extend" (.var 4) (.cons (.lc (.bin .add (.var 5) (.tup (.cons (.var 6) .nil))) (.name 6) (.val (.rev (.call "free" (.cons (.var 0) (.cons (.var 1) (.cons (.var 5) .nil)))))) .none [6]) .nil))) .nil)))) (.cons (.ret (.b1 .tuple (.var 3))) .nil)))
def N_legal_orders : List Str := ["block", "most"]
def b_legal_orders : Ss := (.cons (.ex (.call "look_at_block" (.cons (.var 0) .nil))) (.cons (.ret (.call "all_orders" (.cons (.b1 .len (.var 0)) (.cons (.call "depends" (.cons (.var 0) .nil)) (.cons (.var 1) .nil))))) .nil))
def N_law_start : List Str := ["memory"]
def b_law_start : Ss := (.cons (.ret (.lst (.cons (.int 0) (.cons (.lst (.cons (.int 0) (.cons (.int 0) (.cons (.int 0) (.cons (.int 0) (.cons (.int 0) (.cons (.int 0) (.cons (.int 0) (.cons (.int 0) .nil))))))))) (.cons (.b1 .list (.var 0)) (.cons (.lst .nil) (.cons (.int 0) (.cons .non .nil)))))))) .nil)
def N_law_spot : List Str := ["op", "regs"]
def b_law_spot : Ss := (.cons (.ret (.bin .mod (.ite (.cmp .eq (.ix (.var 0) (.int 0)) (.str "load")) (.bin .add (.ix (.var 1) (.ix (.var 0) (.int 2))) (.ix (.var 0) (.int 3))) (.bin .add (.ix (.var 1) (.ix (.var 0) (.int 1))) (.ix (.var 0) (.int 2)))) (.int 65536))) .nil)
def N_law_traps : List Str := ["program", "state", "op", "regs"]
def b_law_traps : Ss := (.cons (.ite (.cmp .eq (.ix (.var 1) (.int 0)) (.b1 .len (.var 0))) (.cons (.ret (.str "end")) .nil) .nil) (.cons (.par [2, 3] (.cons (.ix (.var 0) (.ix (.var 1) (.int 0))) (.cons (.ix (.var 1) (.int 1)) .nil))) (.cons (.ite (.and (.cmp .in_ (.ix (.var 2) (.int 0)) (.tup (.cons (.str "div") (.cons (.str "rem") .nil)))) (.cmp .eq (.ix (.var 3) (.ix (.var 2) (.int 3))) (.int 0))) (.cons (.ret (.str "zero")) .nil) .nil) (.cons (.ite (.and (.cmp .in_ (.ix (.var 2) (.int 0)) (.tup (.cons (.str "load") (.cons (.str "store") .nil)))) (.cmp .ge (.call "_law_spot" (.cons (.var 2) (.cons (.var 3) .nil))) (.b1 .len (.ix (.var 1) (.int 2))))) (.cons (.ret (.str "place")) .nil) .nil) (.cons (.ret (.ite (.and (.cmp .eq (.ix (.var 2) (.int 0)) (.str "back")) (.cmp .ge (.ix (.var 3) (.ix (.var 2) (.int 1))) (.b1 .len (.var 0)))) (.str "way") .non)) .nil)))))
def N_law_signed : List Str := ["word"]
def b_law_signed : Ss := (.cons (.ret (.ite (.cmp .gt (.var 0) (.int 32767)) (.bin .sub (.var 0) (.int 65536)) (.var 0))) .nil)
def N_law_meets : List Str := ["condition", "one", "two"]
def b_law_meets : Ss := (.cons (.ret (.ite (.cmp .eq (.var 0) (.str "same")) (.cmp .eq (.var 1) (.var 2)) (.ite (.cmp .eq (.var 0) (.str "other")) (.cmp .ne (.var 1) (.var 2)) (.cmp .lt (.call "_law_signed" (.cons (.var 1) .nil)) (.call "_law_signed" (.cons (.var 2) .nil)))))) .nil)
def N_law_works : List Str := ["word", "one", "two", "rows"]
def b_law_works : Ss := (.cons (.ite (.cmp .in_ (.var 0) (.tup (.cons (.str "div") (.cons (.str "rem") .nil)))) (.cons (.ret (.ite (.cmp .eq (.var 2) (.int 0)) .non (.ite (.cmp .eq (.var 0) (.str "div")) (.bin .fdiv (.var 1) (.var 2)) (.bin .sub (.var 1) (.bin .mul (.bin .fdiv (.var 1) (.var 2)) (.var 2)))))) .nil) .nil) (.cons (.asg (.name 3) (.dct false (.cons (.str "add") (.bin .add (.var 1) (.var 2)) (.cons (.str "sub") (.bin .sub (.var 1) (.var 2)) (.cons (.str "and") (.bin .and (.var 1) (.var 2)) (.cons (.str "or") (.bin .or (.var 1) (.var 2)) (.cons (.str "xor") (.bin .sub (.bin .or (.var 1) (.var 2)) (.bin .and (.var 1) (.var 2))) .nil))))))) (.cons (.asg (.sub (.var 3) (.str "under")) (.ite (.cmp .lt (.call "_law_signed" (.cons (.var 1) .nil)) (.call "_law_signed" (.cons (.var 2) .nil))) (.int 1) (.int 0))) (.cons (.asg (.sub (.var 3) (.str "mul")) (.bin .mul (.var 1) (.var 2))) (.cons (.ret (.bin .mod (.ix (.var 3) (.var 0)) (.int 65536))) .nil)))))
def N_law_step : List Str := ["program", "state", "word", "pc", "regs", "op", "address", "after", "put"]
def b_law_step : Ss := (.cons (.asg (.name 2) (.call "_law_traps" (.cons (.var 0) (.cons (.var 1) .nil)))) (.cons (.ite (.cmp .isNot (.var 2) .non) (.cons (.asg (.sub (.var 1) (.int 5)) (.tup (.cons (.str "trap") (.cons (.ix (.var 1) (.int 0)) (.cons (.var 2) .nil))))) (.cons (.ret .non) .nil)) .nil) (.cons (.par [3, 4] (.cons (.ix (.var 1) (.int 0)) (.cons (.ix (.var 1) (.int 1)) .nil))) (.cons (.par [5, 6] (.cons (.ix (.var 0) (.var 3)) (.cons .non .nil))) (.cons (.asg (.sub (.var 1) (.int 4)) (.bin .add (.ix (.var 1) (.int 4)) (.int 1))) (.cons (.par [7, 8] (.cons (.bin .add (.var 3) (.int 1)) (.cons .non .nil))) (.cons (.ite (.cmp .eq (.ix (.var 5) (.int 0)) (.str "stop")) (.cons (.asg (.sub (.var 1) (.int 5)) (.tup (.cons (.str "stopped") (.cons (.var 3) .nil)))) (.cons (.ret (.tup (.cons (.var 3) (.cons .non (.cons (.var 3) .nil))))) .nil)) .nil) (.cons (.ite (.cmp .eq (.ix (.var 5) (.int 0)) (.str "set")) (.cons (.asg (.name 8) (.ix (.var 5) (.int 2))) .nil) (.cons (.ite (.cmp .eq (.ix (.var 5) (.int 0)) (.str "load")) (.cons (.asg (.name 6) (.call "_law_spot" (.cons (.var 5) (.cons (.var 4) .nil)))) (.cons (.asg (.name 8) (.ix (.ix (.var 1) (.int 2)) (.var 6))) .nil)) (.cons (.ite (.cmp .eq (.ix (.var 5) (.int 0)) (.str "store")) (.cons (.asg (.name 6) (.call "_law_spot" (.cons (.var 5) (.cons (.var 4) .nil)))) (.cons (.asg (.sub (.ix (.var 1) (.int 2)) (.var 6)) (.ix (.var 4) (.ix (.var 5) (.int 3)))) .nil)) (.cons (.ite (.cmp .eq (.ix (.var 5) (.int 0)) (.str "jump")) (.cons (.asg (.name 7) (.ix (.var 5) (.int 1))) .nil) (.cons (.ite (.cmp .in_ (.ix (.var 5) (.int 0)) (.tup (.cons (.str "same") (.cons (.str "other") (.cons (.str "less") .nil))))) (.cons (.asg (.name 7) (.ite (.call "_law_meets" (.cons (.ix (.var 5) (.int 0)) (.cons (.ix (.var 4) (.ix (.var 5) (.int 1))) (.cons (.ix (.var 4) (.ix (.var 5) (.int 2))) .nil)))) (.ix (.var 5) (.int 3)) (.var 7))) .nil) (.cons (.ite (.cmp .eq (.ix (.var 5) (.int 0)) (.str "link")) (.cons (.par [8, 7] (.cons (.bin .add (.var 3) (.int 1)) (.cons (.ix (.var 5) (.int 2)) .nil))) .nil) (.cons (.ite (.cmp .eq (.ix (.var 5) (.int 0)) (.str "back")) (.cons (.asg (.name 7) (.ix (.var 4) (.ix (.var 5) (.int 1)))) .nil) (.cons (.ite (.cmp .eq (.ix (.var 5) (.int 0)) (.str "tell")) (.cons (.ex (.meth "append" (.ix (.var 1) (.int 3)) (.cons (.ix (.var 4) (.ix (.var 5) (.int 1))) .nil))) .nil) (.cons (.asg (.name 8) (.call "_law_works" (.cons (.ix (.var 5) (.int 0)) (.cons (.ix (.var 4) (.ix (.var 5) (.int 2))) (.cons (.ix (.var 4) (.ix (.var 5) (.int 3))) .nil))))) .nil)) .nil)) .nil)) .nil)) .nil)) .nil)) .nil)) .nil)) (.cons (.ite (.and (.cmp .isNot (.var 8) .non) (.cmp .ne (.ix (.var 5) (.int 1)) (.int 0))) (.cons (.asg (.sub (.var 4) (.ix (.var 5) (.int 1))) (.var 8)) .nil) .nil) (.cons (.asg (.sub (.var 1) (.int 0)) (.var 7)) (.cons (.ret (.tup (.cons (.var 3) (.cons (.var 6) (.cons (.var 7) .nil))))) .nil)))))))))))
def N_law_done : List Str := ["block", "registers", "memory", "program", "state"]
def b_law_done : Ss := (.cons (.asg (.name 3) (.bin .add (.var 0) (.bin .mul (.tup (.cons (.tup (.cons (.str "stop") .nil)) .nil)) (.bin .sub (.int 60) (.b1 .len (.var 0)))))) (.cons (.asg (.name 4) (.call "_law_start" (.cons (.var 2) .nil))) (.cons (.asg (.sub (.var 4) (.int 1)) (.b1 .list (.var 1))) (.cons (.whl (.and (.cmp .is (.ix (.var 4) (.int 5)) .non) (.cmp .lt (.ix (.var 4) (.int 4)) (.b1 .len (.var 0)))) (.cons (.ex (.call "_law_step" (.cons (.var 3) (.cons (.var 4) .nil)))) .nil)) (.cons (.ite (.and (.cmp .isNot (.ix (.var 4) (.int 5)) .non) (.cmp .eq (.ix (.ix (.var 4) (.int 5)) (.int 0)) (.str "trap"))) (.cons (.ret .non) .nil) .nil) (.cons (.ret (.tup (.cons (.b1 .tuple (.ix (.var 4) (.int 1))) (.cons (.b1 .tuple (.ix (.var 4) (.int 2))) (.cons (.b1 .tuple (.ix (.var 4) (.int 3))) (.cons (.ite (.cmp .is (.ix (.var 4) (.int 5)) .non) (.ix (.var 4) (.int 0)) (.ix (.var 4) (.int 5))) .nil)))))) .nil))))))
def N_false_pairs : List Str := ["block", "true", "pair"]
def b_false_pairs : Ss := (.cons (.asg (.name 1) (.dc true (.sl (.var 2) .none (.some (.int 2))) (.bl true) (.name 2) (.val (.call "true_pairs" (.cons (.var 0) .nil))) .none [2])) (.cons (.ret (.b1 .tuple (.lc (.var 2) (.name 2) (.val (.call "depends" (.cons (.var 0) .nil))) (.some (.and (.cmp .notIn (.ix (.var 2) (.int 2)) (.gl "TRUE")) (.cmp .notIn (.sl (.var 2) .none (.some (.int 2))) (.var 1)))) [2]))) .nil))
def N_law_same : List Str := ["actual", "expected", "k"]
def b_law_same : Ss := (.cons (.ite (.or (.isi (.var 1) "tuple") (.isi (.var 1) "list")) (.cons (.ite (.or (.cmp .ne (.isi (.var 1) "tuple") (.isi (.var 0) "tuple")) (.cmp .ne (.isi (.var 1) "list") (.isi (.var 0) "list"))) (.cons (.ret (.bl false)) .nil) .nil) (.cons (.ite (.cmp .ne (.b1 .len (.var 0)) (.b1 .len (.var 1))) (.cons (.ret (.bl false)) .nil) .nil) (.cons (.ret (.cmp .eq (.b1 .len (.lc (.var 2) (.name 2) (.range1 (.b1 .len (.var 1))) (.some (.not (.call "_law_same" (.cons (.ix (.var 0) (.var 2)) (.cons (.ix (.var 1) (.var 2)) .nil))))) [2])) (.int 0))) .nil))) .nil) (.cons (.ite (.isi (.var 1) "str") (.cons (.ret (.and (.isi (.var 0) "str") (.cmp .eq (.var 0) (.var 1)))) .nil) .nil) (.cons (.ite (.cmp .is (.var 1) .non) (.cons (.ret (.cmp .is (.var 0) .non)) .nil) .nil) (.cons (.ite (.or (.isi (.var 1) "bool") (.isi (.var 0) "bool")) (.cons (.ret (.and (.isi (.var 1) "bool") (.and (.isi (.var 0) "bool") (.cmp .eq (.var 0) (.var 1))))) .nil) .nil) (.cons (.ret (.and (.isi (.var 0) "int") (.and (.isi (.var 1) "int") (.cmp .eq (.var 0) (.var 1))))) .nil)))))
def N_law_registers : List Str := ["draws", "k"]
def b_law_registers : Ss := (.cons (.ret (.bin .add (.tup (.cons (.int 0) .nil)) (.b1 .tuple (.lc (.call "_law_pick" (.cons (.var 0) (.cons (.lst (.cons (.int 0) (.cons (.int 1) (.cons (.int 2) (.cons (.int 3) (.cons (.int 7) (.cons (.int 65535) (.cons (.call "_law_draw" (.cons (.var 0) (.cons (.int 65536) .nil))) .nil)))))))) .nil))) (.name 1) (.range1 (.int 7)) .none [1])))) .nil)
def N_law_memory : List Str := ["draws", "k"]
def b_law_memory : Ss := (.cons (.ret (.b1 .tuple (.lc (.call "_law_pick" (.cons (.var 0) (.cons (.lst (.cons (.int 0) (.cons (.int 1) (.cons (.int 2) (.cons (.int 7) (.cons (.int 65535) (.cons (.call "_law_draw" (.cons (.var 0) (.cons (.int 100) .nil))) .nil))))))) .nil))) (.name 1) (.range1 (.call "_law_pick" (.cons (.var 0) (.cons (.lst (.cons (.int 8) (.cons (.int 8) (.cons (.int 16) (.cons (.int 64) .nil))))) .nil)))) .none [1]))) .nil)
def N_law_shuffled : List Str := ["draws", "items", "k", "left", "found"]
def b_law_shuffled : Ss := (.cons (.par [3, 4] (.cons (.b1 .list (.var 1)) (.cons (.lst .nil) .nil))) (.cons (.fr (.name 2) (.range1 (.b1 .len (.var 1))) (.cons (.ex (.meth "append" (.var 4) (.cons (.meth "pop" (.var 3) (.cons (.call "_law_draw" (.cons (.var 0) (.cons (.b1 .len (.var 3)) .nil))) .nil)) .nil))) .nil)) (.cons (.ret (.b1 .tuple (.var 4))) .nil)))
def N_law_gives : List Str := ["op"]
def b_law_gives : Ss := (.cons (.ret (.ite (.cmp .notIn (.ix (.var 0) (.int 0)) (.tup (.cons (.str "store") (.cons (.str "jump") (.cons (.str "same") (.cons (.str "other") (.cons (.str "less") (.cons (.str "back") (.cons (.str "tell") (.cons (.str "stop") .nil)))))))))) (.ix (.var 0) (.int 1)) (.int 0))) .nil)
def N_law_name : List Str := ["block", "at", "register", "rows", "k"]
def b_law_name : Ss := (.cons (.asg (.name 3) (.lc (.var 4) (.name 4) (.range1 (.var 1)) (.some (.and (.cmp .eq (.call "_law_gives" (.cons (.ix (.var 0) (.var 4)) .nil)) (.var 2)) (.cmp .ne (.var 2) (.int 0)))) [4])) (.cons (.ret (.ite (.cmp .ne (.var 3) (.lst .nil)) (.tup (.cons (.str "made") (.cons (.ix (.var 3) (.neg (.int 1))) .nil))) (.tup (.cons (.str "was") (.cons (.var 2) .nil))))) .nil))
def N_law_read : List Str := ["op"]
def b_law_read : Ss := (.cons (.ite (.cmp .in_ (.ix (.var 0) (.int 0)) (.tup (.cons (.str "set") (.cons (.str "jump") (.cons (.str "link") (.cons (.str "stop") .nil)))))) (.cons (.ret (.lst .nil)) .nil) .nil) (.cons (.ite (.cmp .in_ (.ix (.var 0) (.int 0)) (.tup (.cons (.str "load") (.cons (.str "back") (.cons (.str "tell") .nil))))) (.cons (.ret (.ite (.cmp .eq (.ix (.var 0) (.int 0)) (.str "load")) (.lst (.cons (.ix (.var 0) (.int 2)) .nil)) (.lst (.cons (.ix (.var 0) (.int 1)) .nil)))) .nil) .nil) (.cons (.ite (.cmp .eq (.ix (.var 0) (.int 0)) (.str "store")) (.cons (.ret (.lst (.cons (.ix (.var 0) (.int 1)) (.cons (.ix (.var 0) (.int 3)) .nil)))) .nil) .nil) (.cons (.ret (.ite (.cmp .in_ (.ix (.var 0) (.int 0)) (.tup (.cons (.str "same") (.cons (.str "other") (.cons (.str "less") .nil))))) (.lst (.cons (.ix (.var 0) (.int 1)) (.cons (.ix (.var 0) (.int 2)) .nil))) (.lst (.cons (.ix (.var 0) (.int 2)) (.cons (.ix (.var 0) (.int 3)) .nil))))) .nil))))
def N_law : List Str := ["script", "draws", "turn", "block", "size", "due", "at", "pairs", "true", "false", "more", "bad", "orders", "legal", "told", "order", "other", "registers", "memory", "pair", "one", "register"]
def b_law : Ss := (.cons (.asg (.name 1) (.call "_law_draws" (.cons (.var 0) .nil))) (.cons (.fr (.name 2) (.range1 (.int 4)) (.cons (.asg (.name 3) (.call "_law_block" (.cons (.var 1) (.cons (.int 8) (.cons (.int 6) .nil))))) (.cons (.asg (.name 4) (.b1 .len (.var 3))) (.cons (.asg (.name 5) (.lst .nil)) (.cons (.fr (.name 6) (.range1 (.var 4)) (.cons (.ex (.meth "append" (.var 5) (.cons (.tup (.cons (.b1 .tuple (.lc (.call "_law_name" (.cons (.var 3) (.cons (.var 6) (.cons (.var 21) .nil)))) (.name 21) (.val (.call "_law_read" (.cons (.ix (.var 3) (.var 6)) .nil))) .none [21])) (.cons (.ite (.cmp .ne (.call "_law_gives" (.cons (.ix (.var 3) (.var 6)) .nil)) (.int 0)) (.tup (.cons (.str "made") (.cons (.var 6) .nil))) .non) .nil))) .nil))) .nil)) (.cons (.ite (.or (.not (.call "_law_same" (.cons (.call "renamed" (.cons (.var 3) .nil)) (.cons (.b1 .tuple (.var 5)) .nil)))) (.not (.call "_law_same" (.cons (.call "names_behind" (.cons (.var 3) .nil)) (.cons (.b1 .tuple (.lc (.call "_law_name" (.cons (.var 3) (.cons (.var 4) (.cons (.var 21) .nil)))) (.name 21) (.range1 (.int 8)) .none [21])) .nil))))) (.cons (.ret (.bl false)) .nil) .nil) (.cons (.asg (.name 7) (.call "depends" (.cons (.var 3) .nil))) (.cons (.asg (.name 8) (.b1 .tuple (.lc (.var 19) (.name 19) (.val (.var 7)) (.some (.cmp .in_ (.ix (.var 19) (.int 2)) (.lst (.cons (.str "value") (.cons (.str "place") (.cons (.str "tell") (.cons (.str "last") .nil))))))) [19]))) (.cons (.asg (.name 9) (.b1 .tuple (.lc (.var 19) (.name 19) (.val (.var 7)) (.some (.and (.cmp .in_ (.ix (.var 19) (.int 2)) (.lst (.cons (.str "over") (.cons (.str "again") .nil)))) (.cmp .notIn (.sl (.var 19) .none (.some (.int 2))) (.lc (.sl (.var 20) .none (.some (.int 2))) (.name 20) (.val (.var 8)) .none [20])))) [19]))) (.cons (.ite (.or (.not (.call "_law_same" (.cons (.call "true_pairs" (.cons (.var 3) .nil)) (.cons (.var 8) .nil)))) (.not (.call "_law_same" (.cons (.call "false_pairs" (.cons (.var 3) .nil)) (.cons (.var 9) .nil))))) (.cons (.ret (.bl false)) .nil) .nil) (.cons (.asg (.tup [(.name 12), (.name 13)]) (.tup (.cons (.call "all_orders" (.cons (.var 4) (.cons (.var 8) (.cons (.int 1000) .nil)))) (.cons (.call "legal_orders" (.cons (.var 3) (.cons (.int 1000) .nil))) .nil)))) (.cons (.ite (.or (.cmp .gt (.b1 .len (.lc (.var 20) (.name 20) (.val (.var 13)) (.some (.cmp .notIn (.var 20) (.var 12))) [20])) (.int 0)) (.and (.cmp .eq (.var 9) (.tup .nil)) (.cmp .ne (.var 12) (.var 13)))) (.cons (.ret (.bl false)) .nil) .nil) (.cons (.fr (.name 10) (.range1 (.int 5)) (.cons (.par [17, 18] (.cons (.call "_law_registers" (.cons (.var 1) .nil)) (.cons (.call "_law_memory" (.cons (.var 1) .nil)) .nil))) (.cons (.asg (.name 14) (.call "_law_done" (.cons (.var 3) (.cons (.var 17) (.cons (.var 18) .nil))))) (.cons (.fr (.name 15) (.val (.lst (.cons (.ix (.var 12) (.int 0)) (.cons (.ix (.var 12) (.neg (.int 1))) (.cons (.ix (.var 12) (.call "_law_draw" (.cons (.var 1) (.cons (.b1 .len (.var 12)) .nil)))) .nil))))) (.cons (.ite (.or (.cmp .isNot (.call "is_true_order" (.cons (.var 3) (.cons (.var 15) .nil))) (.bl true)) (.not (.call "_law_same" (.cons (.call "run_named" (.cons (.var 3) (.cons (.var 15) (.cons (.var 17) (.cons (.var 18) .nil))))) (.cons (.var 14) .nil))))) (.cons (.ret (.bl false)) .nil) .nil) .nil)) (.cons (.asg (.name 16) (.b1 .tuple (.call "_law_shuffled" (.cons (.var 1) (.cons (.lrange (.var 4)) .nil))))) (.cons (.ite (.not (.call "_law_same" (.cons (.call "is_true_order" (.cons (.var 3) (.cons (.var 16) .nil))) (.cons (.cmp .in_ (.var 16) (.var 12)) .nil)))) (.cons (.ret (.bl false)) .nil) .nil) (.cons (.ite (.cmp .notIn (.var 16) (.var 12)) (.cons (.tryx (.cons (.ex (.call "run_named" (.cons (.var 3) (.cons (.var 16) (.cons (.var 17) (.cons (.var 18) .nil)))))) (.cons (.ret (.bl false)) .nil)) "BadPlan" none (.cons .pass .nil)) .nil) .nil) .nil))))))) (.cons (.fr (.name 11) (.val (.lst (.cons .non (.cons (.tup .nil) (.cons (.b1 .list (.ix (.var 12) (.int 0))) (.cons (.bin .add (.ix (.var 12) (.int 0)) (.tup (.cons (.int 0) .nil))) .nil)))))) (.cons (.ite (.cmp .isNot (.call "is_true_order" (.cons (.var 3) (.cons (.var 11) .nil))) (.bl false)) (.cons (.ret (.bl false)) .nil) .nil) .nil)) .nil)))))))))))))) (.cons (.asg (.name 3) (.tup (.cons (.tup (.cons (.str "set") (.cons (.int 1) (.cons (.int 3) .nil)))) (.cons (.tup (.cons (.str "add") (.cons (.int 2) (.cons (.int 1) (.cons (.int 1) .nil))))) (.cons (.tup (.cons (.str "set") (.cons (.int 1) (.cons (.int 4) .nil)))) (.cons (.tup (.cons (.str "add") (.cons (.int 3) (.cons (.int 1) (.cons (.int 1) .nil))))) .nil)))))) (.cons (.ite (.or (.cmp .ne (.call "false_pairs" (.cons (.var 3) .nil)) (.tup (.cons (.tup (.cons (.int 0) (.cons (.int 2) (.cons (.str "again") .nil)))) (.cons (.tup (.cons (.int 1) (.cons (.int 2) (.cons (.str "over") .nil)))) .nil)))) (.or (.cmp .ne (.b1 .len (.call "legal_orders" (.cons (.var 3) (.cons (.int 100) .nil)))) (.int 1)) (.cmp .ne (.b1 .len (.call "all_orders" (.cons (.int 4) (.cons (.call "true_pairs" (.cons (.var 3) .nil)) (.cons (.int 100) .nil))))) (.int 6)))) (.cons (.ret (.bl false)) .nil) .nil) (.cons (.ret (.cmp .eq (.call "run_named" (.cons (.var 3) (.cons (.tup (.cons (.int 2) (.cons (.int 3) (.cons (.int 0) (.cons (.int 1) .nil))))) (.cons (.bin .mul (.tup (.cons (.int 0) .nil)) (.int 8)) (.cons (.bin .mul (.tup (.cons (.int 0) .nil)) (.int 8)) .nil))))) (.tup (.cons (.tup (.cons (.int 0) (.cons (.int 4) (.cons (.int 6) (.cons (.int 8) (.cons (.int 0) (.cons (.int 0) (.cons (.int 0) (.cons (.int 0) .nil))))))))) (.cons (.bin .mul (.tup (.cons (.int 0) .nil)) (.int 8)) (.cons (.tup .nil) (.cons (.int 4) .nil))))))) .nil)))))
end K40
end

section
set_option Elab.async false
set_option linter.all false
set_option maxRecDepth 100000
set_option maxHeartbeats 4000000
namespace K40
open PySem PySem.Spec PyProof.Rows L2 AR
def top (i : Nat) : Stmt := PySem.Challenge.pw_aheadright_k40_whole_registers_named_ane.main.body.getD i (.Pass ⟨0, 0, 0, 0⟩)
theorem sc_law_draws : FnScope N_law_draws ["script"] (defScope (top 55)) := ⟨rfl, rfl, rfl, by decide +kernel, rfl, by decide +kernel, by decide +kernel⟩
theorem ck_law_draws : ckSs ⟨N_law_draws, defScope (top 55), true, fun _ => true, [], ["BadPlan"], ["BadPlan", "Refused"]⟩ b_law_draws (defBody (top 55)) = true := by decide +kernel
theorem sc_law_draw : FnScope N_law_draw ["draws", "limit"] (defScope (top 56)) := ⟨rfl, rfl, rfl, by decide +kernel, rfl, by decide +kernel, by decide +kernel⟩
theorem ck_law_draw : ckSs ⟨N_law_draw, defScope (top 56), true, fun _ => true, [], ["BadPlan"], ["BadPlan", "Refused"]⟩ b_law_draw (defBody (top 56)) = true := by decide +kernel
theorem sc_law_pick : FnScope N_law_pick ["draws", "row"] (defScope (top 59)) := ⟨rfl, rfl, rfl, by decide +kernel, rfl, by decide +kernel, by decide +kernel⟩
theorem ck_law_pick : ckSs ⟨N_law_pick, defScope (top 59), true, fun _ => true, ["_law_draw"], ["BadPlan"], ["BadPlan", "Refused"]⟩ b_law_pick (defBody (top 59)) = true := by decide +kernel
theorem sc_law_register : FnScope N_law_register ["draws"] (defScope (top 71)) := ⟨rfl, rfl, rfl, by decide +kernel, rfl, by decide +kernel, by decide +kernel⟩
theorem ck_law_register : ckSs ⟨N_law_register, defScope (top 71), true, fun _ => true, ["_law_pick"], ["BadPlan"], ["BadPlan", "Refused"]⟩ b_law_register (defBody (top 71)) = true := by decide +kernel
theorem sc_law_plain : FnScope N_law_plain ["draws", "cells"] (defScope (top 72)) := ⟨rfl, rfl, rfl, by decide +kernel, rfl, by decide +kernel, by decide +kernel⟩
theorem ck_law_plain : ckSs ⟨N_law_plain, defScope (top 72), true, fun _ => true, ["_law_register", "_law_pick", "_law_draw"], ["BadPlan"], ["BadPlan", "Refused"]⟩ b_law_plain (defBody (top 72)) = true := by decide +kernel
theorem sc_law_block : FnScope N_law_block ["draws", "cells", "most"] (defScope (top 77)) := ⟨rfl, rfl, rfl, by decide +kernel, rfl, by decide +kernel, by decide +kernel⟩
theorem ck_law_block : ckSs ⟨N_law_block, defScope (top 77), true, fun _ => true, ["_law_pick", "_law_draw", "_law_plain"], ["BadPlan"], ["BadPlan", "Refused"]⟩ b_law_block (defBody (top 77)) = true := by decide +kernel
theorem sc_form_of : FnScope N_form_of ["word"] (defScope (top 21)) := ⟨rfl, rfl, rfl, by decide +kernel, rfl, by decide +kernel, by decide +kernel⟩
theorem ck_form_of : ckSs ⟨N_form_of, defScope (top 21), true, fun _ => true, [], ["BadPlan"], ["BadPlan", "Refused"]⟩ b_form_of (defBody (top 21)) = true := by decide +kernel
theorem sc_is_whole : FnScope N_is_whole ["value"] (defScope (top 10)) := ⟨rfl, rfl, rfl, by decide +kernel, rfl, by decide +kernel, by decide +kernel⟩
theorem ck_is_whole : ckSs ⟨N_is_whole, defScope (top 10), true, fun _ => true, [], ["BadPlan"], ["BadPlan", "Refused"]⟩ b_is_whole (defBody (top 10)) = true := by decide +kernel
theorem sc_is_word : FnScope N_is_word ["value"] (defScope (top 11)) := ⟨rfl, rfl, rfl, by decide +kernel, rfl, by decide +kernel, by decide +kernel⟩
theorem ck_is_word : ckSs ⟨N_is_word, defScope (top 11), true, fun _ => true, ["is_whole"], ["BadPlan"], ["BadPlan", "Refused"]⟩ b_is_word (defBody (top 11)) = true := by decide +kernel
theorem sc_is_register : FnScope N_is_register ["value"] (defScope (top 22)) := ⟨rfl, rfl, rfl, by decide +kernel, rfl, by decide +kernel, by decide +kernel⟩
theorem ck_is_register : ckSs ⟨N_is_register, defScope (top 22), true, fun _ => true, ["is_whole"], ["BadPlan"], ["BadPlan", "Refused"]⟩ b_is_register (defBody (top 22)) = true := by decide +kernel
theorem sc_word_wrong : FnScope N_word_wrong ["value", "size"] (defScope (top 23)) := ⟨rfl, rfl, rfl, by decide +kernel, rfl, by decide +kernel, by decide +kernel⟩
theorem ck_word_wrong : ckSs ⟨N_word_wrong, defScope (top 23), true, fun _ => true, ["is_register", "is_whole", "is_word", "form_of"], ["BadPlan"], ["BadPlan", "Refused"]⟩ b_word_wrong (defBody (top 23)) = true := by decide +kernel
theorem sc_is_block : FnScope N_is_block ["value"] (defScope (top 30)) := ⟨rfl, rfl, rfl, by decide +kernel, rfl, by decide +kernel, by decide +kernel⟩
theorem ck_is_block : ckSs ⟨N_is_block, defScope (top 30), true, fun _ => true, ["word_wrong"], ["BadPlan"], ["BadPlan", "Refused"]⟩ b_is_block (defBody (top 30)) = true := by decide +kernel
theorem sc_look_at_block : FnScope N_look_at_block ["value"] (defScope (top 31)) := ⟨rfl, rfl, rfl, by decide +kernel, rfl, by decide +kernel, by decide +kernel⟩
theorem ck_look_at_block : ckSs ⟨N_look_at_block, defScope (top 31), true, fun _ => true, ["is_block"], ["BadPlan"], ["BadPlan", "Refused"]⟩ b_look_at_block (defBody (top 31)) = true := by decide +kernel
theorem sc_registers_in : FnScope N_registers_in ["instruction", "signs"] (defScope (top 24)) := ⟨rfl, rfl, rfl, by decide +kernel, rfl, by decide +kernel, by decide +kernel⟩
theorem ck_registers_in : ckSs ⟨N_registers_in, defScope (top 24), true, fun _ => true, ["form_of"], ["BadPlan"], ["BadPlan", "Refused"]⟩ b_registers_in (defBody (top 24)) = true := by decide +kernel
theorem sc_writes : FnScope N_writes ["instruction"] (defScope (top 26)) := ⟨rfl, rfl, rfl, by decide +kernel, rfl, by decide +kernel, by decide +kernel⟩
theorem ck_writes : ckSs ⟨N_writes, defScope (top 26), true, fun _ => true, ["registers_in"], ["BadPlan"], ["BadPlan", "Refused"]⟩ b_writes (defBody (top 26)) = true := by decide +kernel
theorem sc_last_writers : FnScope N_last_writers ["block"] (defScope (top 32)) := ⟨rfl, rfl, rfl, by decide +kernel, rfl, by decide +kernel, by decide +kernel⟩
theorem ck_last_writers : ckSs ⟨N_last_writers, defScope (top 32), true, fun _ => true, ["writes"], ["BadPlan"], ["BadPlan", "Refused"]⟩ b_last_writers (defBody (top 32)) = true := by decide +kernel
theorem sc_reads : FnScope N_reads ["instruction"] (defScope (top 25)) := ⟨rfl, rfl, rfl, by decide +kernel, rfl, by decide +kernel, by decide +kernel⟩
theorem ck_reads : ckSs ⟨N_reads, defScope (top 25), true, fun _ => true, ["registers_in"], ["BadPlan"], ["BadPlan", "Refused"]⟩ b_reads (defBody (top 25)) = true := by decide +kernel
theorem sc_place_of : FnScope N_place_of ["block", "at"] (defScope (top 33)) := ⟨rfl, rfl, rfl, by decide +kernel, rfl, by decide +kernel, by decide +kernel⟩
theorem ck_place_of : ckSs ⟨N_place_of, defScope (top 33), true, fun _ => true, ["last_writers"], ["BadPlan"], ["BadPlan", "Refused"]⟩ b_place_of (defBody (top 33)) = true := by decide +kernel
theorem sc_are_apart : FnScope N_are_apart ["block", "one", "two"] (defScope (top 34)) := ⟨rfl, rfl, rfl, by decide +kernel, rfl, by decide +kernel, by decide +kernel⟩
theorem ck_are_apart : ckSs ⟨N_are_apart, defScope (top 34), true, fun _ => true, ["place_of"], ["BadPlan"], ["BadPlan", "Refused"]⟩ b_are_apart (defBody (top 34)) = true := by decide +kernel
theorem sc_touch_alike : FnScope N_touch_alike ["block", "first", "other"] (defScope (top 36)) := ⟨rfl, rfl, rfl, by decide +kernel, rfl, by decide +kernel, by decide +kernel⟩
theorem ck_touch_alike : ckSs ⟨N_touch_alike, defScope (top 36), true, fun _ => true, ["are_apart"], ["BadPlan"], ["BadPlan", "Refused"]⟩ b_touch_alike (defBody (top 36)) = true := by decide +kernel
theorem sc_depends : FnScope N_depends ["block"] (defScope (top 35)) := ⟨rfl, rfl, rfl, by decide +kernel, rfl, by decide +kernel, by decide +kernel⟩
theorem ck_depends : ckSs ⟨N_depends, defScope (top 35), true, fun _ => true, ["touch_alike", "writes", "reads", "last_writers", "look_at_block"], ["BadPlan"], ["BadPlan", "Refused"]⟩ b_depends (defBody (top 35)) = true := by decide +kernel
theorem sc_look_at_registers : FnScope N_look_at_registers ["value"] (defScope (top 42)) := ⟨rfl, rfl, rfl, by decide +kernel, rfl, by decide +kernel, by decide +kernel⟩
theorem ck_look_at_registers : ckSs ⟨N_look_at_registers, defScope (top 42), true, fun _ => true, ["is_word"], ["BadPlan"], ["BadPlan", "Refused"]⟩ b_look_at_registers (defBody (top 42)) = true := by decide +kernel
theorem sc_is_memory : FnScope N_is_memory ["value"] (defScope (top 12)) := ⟨rfl, rfl, rfl, by decide +kernel, rfl, by decide +kernel, by decide +kernel⟩
theorem ck_is_memory : ckSs ⟨N_is_memory, defScope (top 12), true, fun _ => true, ["is_word"], ["BadPlan"], ["BadPlan", "Refused"]⟩ b_is_memory (defBody (top 12)) = true := by decide +kernel
theorem sc_look_at_memory : FnScope N_look_at_memory ["value"] (defScope (top 13)) := ⟨rfl, rfl, rfl, by decide +kernel, rfl, by decide +kernel, by decide +kernel⟩
theorem ck_look_at_memory : ckSs ⟨N_look_at_memory, defScope (top 13), true, fun _ => true, ["is_memory"], ["BadPlan"], ["BadPlan", "Refused"]⟩ b_look_at_memory (defBody (top 13)) = true := by decide +kernel
theorem sc_is_order : FnScope N_is_order ["size", "value"] (defScope (top 37)) := ⟨rfl, rfl, rfl, by decide +kernel, rfl, by decide +kernel, by decide +kernel⟩
theorem ck_is_order : ckSs ⟨N_is_order, defScope (top 37), true, fun _ => true, ["is_whole"], ["BadPlan"], ["BadPlan", "Refused"]⟩ b_is_order (defBody (top 37)) = true := by decide +kernel
theorem sc_keeps : FnScope N_keeps ["pairs", "value"] (defScope (top 38)) := ⟨rfl, rfl, rfl, by decide +kernel, rfl, by decide +kernel, by decide +kernel⟩
theorem ck_keeps : ckSs ⟨N_keeps, defScope (top 38), true, fun _ => true, [], ["BadPlan"], ["BadPlan", "Refused"]⟩ b_keeps (defBody (top 38)) = true := by decide +kernel
theorem sc_true_pairs : FnScope N_true_pairs ["block"] (defScope (top 45)) := ⟨rfl, rfl, rfl, by decide +kernel, rfl, by decide +kernel, by decide +kernel⟩
theorem ck_true_pairs : ckSs ⟨N_true_pairs, defScope (top 45), true, fun _ => true, ["depends"], ["BadPlan"], ["BadPlan", "Refused"]⟩ b_true_pairs (defBody (top 45)) = true := by decide +kernel
theorem sc_is_true_order : FnScope N_is_true_order ["block", "value"] (defScope (top 50)) := ⟨rfl, rfl, rfl, by decide +kernel, rfl, by decide +kernel, by decide +kernel⟩
theorem ck_is_true_order : ckSs ⟨N_is_true_order, defScope (top 50), true, fun _ => true, ["keeps", "true_pairs", "is_order", "look_at_block"], ["BadPlan"], ["BadPlan", "Refused"]⟩ b_is_true_order (defBody (top 50)) = true := by decide +kernel
theorem sc_name_of : FnScope N_name_of ["writers", "register"] (defScope (top 47)) := ⟨rfl, rfl, rfl, by decide +kernel, rfl, by decide +kernel, by decide +kernel⟩
theorem ck_name_of : ckSs ⟨N_name_of, defScope (top 47), true, fun _ => true, [], ["BadPlan"], ["BadPlan", "Refused"]⟩ b_name_of (defBody (top 47)) = true := by decide +kernel
theorem sc_renamed : FnScope N_renamed ["block"] (defScope (top 48)) := ⟨rfl, rfl, rfl, by decide +kernel, rfl, by decide +kernel, by decide +kernel⟩
theorem ck_renamed : ckSs ⟨N_renamed, defScope (top 48), true, fun _ => true, ["last_writers", "writes", "form_of", "name_of", "look_at_block"], ["BadPlan"], ["BadPlan", "Refused"]⟩ b_renamed (defBody (top 48)) = true := by decide +kernel
theorem sc_signed : FnScope N_signed ["word"] (defScope (top 14)) := ⟨rfl, rfl, rfl, by decide +kernel, rfl, by decide +kernel, by decide +kernel⟩
theorem ck_signed : ckSs ⟨N_signed, defScope (top 14), true, fun _ => true, [], ["BadPlan"], ["BadPlan", "Refused"]⟩ b_signed (defBody (top 14)) = true := by decide +kernel
theorem sc_holds : FnScope N_holds ["condition", "one", "two"] (defScope (top 16)) := ⟨rfl, rfl, rfl, by decide +kernel, rfl, by decide +kernel, by decide +kernel⟩
theorem ck_holds : ckSs ⟨N_holds, defScope (top 16), true, fun _ => true, ["signed"], ["BadPlan"], ["BadPlan", "Refused"]⟩ b_holds (defBody (top 16)) = true := by decide +kernel
theorem sc_moved_by : FnScope N_moved_by ["op", "at", "words"] (defScope (top 53)) := ⟨rfl, rfl, rfl, by decide +kernel, rfl, by decide +kernel, by decide +kernel⟩
theorem ck_moved_by : ckSs ⟨N_moved_by, defScope (top 53), true, fun _ => true, ["holds"], ["BadPlan"], ["BadPlan", "Refused"]⟩ b_moved_by (defBody (top 53)) = true := by decide +kernel
theorem sc_worked : FnScope N_worked ["word", "one", "two"] (defScope (top 15)) := ⟨rfl, rfl, rfl, by decide +kernel, rfl, by decide +kernel, by decide +kernel⟩
theorem ck_worked : ckSs ⟨N_worked, defScope (top 15), true, fun _ => true, ["signed"], ["BadPlan"], ["BadPlan", "Refused"]⟩ b_worked (defBody (top 15)) = true := by decide +kernel
theorem sc_made_by : FnScope N_made_by ["op", "at", "words", "into"] (defScope (top 52)) := ⟨rfl, rfl, rfl, by decide +kernel, rfl, by decide +kernel, by decide +kernel⟩
theorem ck_made_by : ckSs ⟨N_made_by, defScope (top 52), true, fun _ => true, ["moved_by", "worked"], ["BadPlan"], ["BadPlan", "Refused"]⟩ b_made_by (defBody (top 52)) = true := by decide +kernel
theorem sc_names_behind : FnScope N_names_behind ["block"] (defScope (top 49)) := ⟨rfl, rfl, rfl, by decide +kernel, rfl, by decide +kernel, by decide +kernel⟩
theorem ck_names_behind : ckSs ⟨N_names_behind, defScope (top 49), true, fun _ => true, ["name_of", "writes", "look_at_block"], ["BadPlan"], ["BadPlan", "Refused"]⟩ b_names_behind (defBody (top 49)) = true := by decide +kernel
theorem sc_run_named : FnScope N_run_named ["block", "order", "registers", "memory"] (defScope (top 51)) := ⟨rfl, rfl, rfl, by decide +kernel, rfl, by decide +kernel, by decide +kernel⟩
theorem ck_run_named : ckSs ⟨N_run_named, defScope (top 51), true, fun _ => true, ["names_behind", "made_by", "renamed", "is_true_order", "look_at_memory", "look_at_registers"], ["BadPlan"], ["BadPlan", "Refused"]⟩ b_run_named (defBody (top 51)) = true := by decide +kernel
theorem sc_free : FnScope N_free ["size", "pairs", "done"] (defScope (top 40)) := ⟨rfl, rfl, rfl, by decide +kernel, rfl, by decide +kernel, by decide +kernel⟩
theorem ck_free : ckSs ⟨N_free, defScope (top 40), true, fun _ => true, [], ["BadPlan"], ["BadPlan", "Refused"]⟩ b_free (defBody (top 40)) = true := by decide +kernel
theorem sc_all_orders : FnScope N_all_orders ["size", "pairs", "most"] (defScope (top 39)) := ⟨rfl, rfl, rfl, by decide +kernel, rfl, by decide +kernel, by decide +kernel⟩
theorem ck_all_orders : ckSs ⟨N_all_orders, defScope (top 39), true, fun _ => true, ["free"], ["BadPlan"], ["BadPlan", "Refused"]⟩ b_all_orders (defBody (top 39)) = true := by decide +kernel
theorem sc_legal_orders : FnScope N_legal_orders ["block", "most"] (defScope (top 41)) := ⟨rfl, rfl, rfl, by decide +kernel, rfl, by decide +kernel, by decide +kernel⟩
theorem ck_legal_orders : ckSs ⟨N_legal_orders, defScope (top 41), true, fun _ => true, ["all_orders", "depends", "look_at_block"], ["BadPlan"], ["BadPlan", "Refused"]⟩ b_legal_orders (defBody (top 41)) = true := by decide +kernel
theorem sc_law_start : FnScope N_law_start ["memory"] (defScope (top 63)) := ⟨rfl, rfl, rfl, by decide +kernel, rfl, by decide +kernel, by decide +kernel⟩
theorem ck_law_start : ckSs ⟨N_law_start, defScope (top 63), true, fun _ => true, [], ["BadPlan"], ["BadPlan", "Refused"]⟩ b_law_start (defBody (top 63)) = true := by decide +kernel
theorem sc_law_spot : FnScope N_law_spot ["op", "regs"] (defScope (top 64)) := ⟨rfl, rfl, rfl, by decide +kernel, rfl, by decide +kernel, by decide +kernel⟩
theorem ck_law_spot : ckSs ⟨N_law_spot, defScope (top 64), true, fun _ => true, [], ["BadPlan"], ["BadPlan", "Refused"]⟩ b_law_spot (defBody (top 64)) = true := by decide +kernel
theorem sc_law_traps : FnScope N_law_traps ["program", "state"] (defScope (top 65)) := ⟨rfl, rfl, rfl, by decide +kernel, rfl, by decide +kernel, by decide +kernel⟩
theorem ck_law_traps : ckSs ⟨N_law_traps, defScope (top 65), true, fun _ => true, ["_law_spot"], ["BadPlan"], ["BadPlan", "Refused"]⟩ b_law_traps (defBody (top 65)) = true := by decide +kernel
theorem sc_law_signed : FnScope N_law_signed ["word"] (defScope (top 60)) := ⟨rfl, rfl, rfl, by decide +kernel, rfl, by decide +kernel, by decide +kernel⟩
theorem ck_law_signed : ckSs ⟨N_law_signed, defScope (top 60), true, fun _ => true, [], ["BadPlan"], ["BadPlan", "Refused"]⟩ b_law_signed (defBody (top 60)) = true := by decide +kernel
theorem sc_law_meets : FnScope N_law_meets ["condition", "one", "two"] (defScope (top 62)) := ⟨rfl, rfl, rfl, by decide +kernel, rfl, by decide +kernel, by decide +kernel⟩
theorem ck_law_meets : ckSs ⟨N_law_meets, defScope (top 62), true, fun _ => true, ["_law_signed"], ["BadPlan"], ["BadPlan", "Refused"]⟩ b_law_meets (defBody (top 62)) = true := by decide +kernel
theorem sc_law_works : FnScope N_law_works ["word", "one", "two"] (defScope (top 61)) := ⟨rfl, rfl, rfl, by decide +kernel, rfl, by decide +kernel, by decide +kernel⟩
theorem ck_law_works : ckSs ⟨N_law_works, defScope (top 61), true, fun _ => true, ["_law_signed"], ["BadPlan"], ["BadPlan", "Refused"]⟩ b_law_works (defBody (top 61)) = true := by decide +kernel
theorem sc_law_step : FnScope N_law_step ["program", "state"] (defScope (top 66)) := ⟨rfl, rfl, rfl, by decide +kernel, rfl, by decide +kernel, by decide +kernel⟩
theorem ck_law_step : ckSs ⟨N_law_step, defScope (top 66), true, fun _ => true, ["_law_spot", "_law_meets", "_law_works", "_law_traps"], ["BadPlan"], ["BadPlan", "Refused"]⟩ b_law_step (defBody (top 66)) = true := by decide +kernel
theorem sc_law_done : FnScope N_law_done ["block", "registers", "memory"] (defScope (top 79)) := ⟨rfl, rfl, rfl, by decide +kernel, rfl, by decide +kernel, by decide +kernel⟩
theorem ck_law_done : ckSs ⟨N_law_done, defScope (top 79), true, fun _ => true, ["_law_step", "_law_start"], ["BadPlan"], ["BadPlan", "Refused"]⟩ b_law_done (defBody (top 79)) = true := by decide +kernel
theorem sc_false_pairs : FnScope N_false_pairs ["block"] (defScope (top 46)) := ⟨rfl, rfl, rfl, by decide +kernel, rfl, by decide +kernel, by decide +kernel⟩
theorem ck_false_pairs : ckSs ⟨N_false_pairs, defScope (top 46), true, fun _ => true, ["depends", "true_pairs"], ["BadPlan"], ["BadPlan", "Refused"]⟩ b_false_pairs (defBody (top 46)) = true := by decide +kernel
theorem sc_law_same : FnScope N_law_same ["actual", "expected"] (defScope (top 57)) := ⟨rfl, rfl, rfl, by decide +kernel, rfl, by decide +kernel, by decide +kernel⟩
theorem ck_law_same : ckSs ⟨N_law_same, defScope (top 57), true, fun _ => true, ["_law_same"], ["BadPlan"], ["BadPlan", "Refused"]⟩ b_law_same (defBody (top 57)) = true := by decide +kernel
theorem sc_law_registers : FnScope N_law_registers ["draws"] (defScope (top 78)) := ⟨rfl, rfl, rfl, by decide +kernel, rfl, by decide +kernel, by decide +kernel⟩
theorem ck_law_registers : ckSs ⟨N_law_registers, defScope (top 78), true, fun _ => true, ["_law_pick", "_law_draw"], ["BadPlan"], ["BadPlan", "Refused"]⟩ b_law_registers (defBody (top 78)) = true := by decide +kernel
theorem sc_law_memory : FnScope N_law_memory ["draws"] (defScope (top 76)) := ⟨rfl, rfl, rfl, by decide +kernel, rfl, by decide +kernel, by decide +kernel⟩
theorem ck_law_memory : ckSs ⟨N_law_memory, defScope (top 76), true, fun _ => true, ["_law_pick", "_law_draw"], ["BadPlan"], ["BadPlan", "Refused"]⟩ b_law_memory (defBody (top 76)) = true := by decide +kernel
theorem sc_law_shuffled : FnScope N_law_shuffled ["draws", "items"] (defScope (top 58)) := ⟨rfl, rfl, rfl, by decide +kernel, rfl, by decide +kernel, by decide +kernel⟩
theorem ck_law_shuffled : ckSs ⟨N_law_shuffled, defScope (top 58), true, fun _ => true, ["_law_draw"], ["BadPlan"], ["BadPlan", "Refused"]⟩ b_law_shuffled (defBody (top 58)) = true := by decide +kernel
theorem sc_law_gives : FnScope N_law_gives ["op"] (defScope (top 70)) := ⟨rfl, rfl, rfl, by decide +kernel, rfl, by decide +kernel, by decide +kernel⟩
theorem ck_law_gives : ckSs ⟨N_law_gives, defScope (top 70), true, fun _ => true, [], ["BadPlan"], ["BadPlan", "Refused"]⟩ b_law_gives (defBody (top 70)) = true := by decide +kernel
theorem sc_law_name : FnScope N_law_name ["block", "at", "register"] (defScope (top 80)) := ⟨rfl, rfl, rfl, by decide +kernel, rfl, by decide +kernel, by decide +kernel⟩
theorem ck_law_name : ckSs ⟨N_law_name, defScope (top 80), true, fun _ => true, ["_law_gives"], ["BadPlan"], ["BadPlan", "Refused"]⟩ b_law_name (defBody (top 80)) = true := by decide +kernel
theorem sc_law_read : FnScope N_law_read ["op"] (defScope (top 81)) := ⟨rfl, rfl, rfl, by decide +kernel, rfl, by decide +kernel, by decide +kernel⟩
theorem ck_law_read : ckSs ⟨N_law_read, defScope (top 81), true, fun _ => true, [], ["BadPlan"], ["BadPlan", "Refused"]⟩ b_law_read (defBody (top 81)) = true := by decide +kernel
theorem sc_law : FnScope N_law ["script"] (defScope (top 82)) := ⟨rfl, rfl, rfl, by decide +kernel, rfl, by decide +kernel, by decide +kernel⟩
theorem ck_law : ckSs ⟨N_law, defScope (top 82), true, fun _ => true, ["run_named", "all_orders", "true_pairs", "legal_orders", "false_pairs", "is_true_order", "_law_same", "_law_shuffled", "_law_draw", "_law_done", "_law_registers", "_law_memory", "depends", "names_behind", "_law_name", "renamed", "_law_read", "_law_gives", "_law_block", "_law_draws"], ["BadPlan"], ["BadPlan", "Refused"]⟩ b_law (defBody (top 82)) = true := by decide +kernel
end K40
end

section
set_option Elab.async false
set_option linter.all false
set_option maxRecDepth 100000
set_option maxHeartbeats 0
/-! K40h: the module's top, run by the kernel, and the facts read behind it. -/
namespace K40
open PySem PySem.Spec PyProof.Rows L2 AR
abbrev R : PySem.W.OpenRow := PySem.W.OpenLaw.row PySem.Challenge.rw_aheadright_k40_whole_registers_named_ane
def names0 : List PySem.Str := ["AheadError", "BadState", "BadPlan", "Refused", "WRAP", "HALF", "WORKS", "CONDITIONS", "is_whole", "is_word", "is_memory", "look_at_memory", "signed", "worked", "holds", "MOST", "REGISTERS", "FORMS", "form_of", "is_register", "word_wrong", "registers_in", "reads", "writes", "MOST_BLOCK", "TRANSFERS", "is_block", "look_at_block", "last_writers", "place_of"]
def names1 : List PySem.Str := ["are_apart", "depends", "touch_alike", "is_order", "keeps", "all_orders", "free", "legal_orders", "look_at_registers", "TRUE", "true_pairs", "false_pairs", "name_of", "renamed", "names_behind", "is_true_order", "run_named", "made_by", "moved_by", "_law_draws", "_law_draw", "_law_same", "_law_shuffled", "_law_pick", "_law_signed", "_law_works", "_law_meets", "_law_start", "_law_spot", "_law_traps"]
def names2 : List PySem.Str := ["_law_step", "_law_picture", "_law_run", "_law_takes", "_law_gives", "_law_register", "_law_plain", "_law_body", "_law_loop", "_law_program", "_law_memory", "_law_block", "_law_registers", "_law_done", "_law_name", "_law_read"]
def names : List PySem.Str := names0 ++ names1 ++ names2
def dd_law_draws : He.DefD := ⟨("_law_draws", none), "_law_draws", "_law_draws", defArgs (top 55), defBody (top 55), defScope (top 55), [], []⟩
def dd_law_draw : He.DefD := ⟨("_law_draw", none), "_law_draw", "_law_draw", defArgs (top 56), defBody (top 56), defScope (top 56), [], []⟩
def dd_law_pick : He.DefD := ⟨("_law_pick", none), "_law_pick", "_law_pick", defArgs (top 59), defBody (top 59), defScope (top 59), [], []⟩
def dd_law_register : He.DefD := ⟨("_law_register", none), "_law_register", "_law_register", defArgs (top 71), defBody (top 71), defScope (top 71), [], []⟩
def dd_law_plain : He.DefD := ⟨("_law_plain", none), "_law_plain", "_law_plain", defArgs (top 72), defBody (top 72), defScope (top 72), [], []⟩
def dd_law_block : He.DefD := ⟨("_law_block", none), "_law_block", "_law_block", defArgs (top 77), defBody (top 77), defScope (top 77), [], []⟩
def dd_form_of : He.DefD := ⟨("form_of", none), "form_of", "form_of", defArgs (top 21), defBody (top 21), defScope (top 21), [], []⟩
def dd_is_whole : He.DefD := ⟨("is_whole", none), "is_whole", "is_whole", defArgs (top 10), defBody (top 10), defScope (top 10), [], []⟩
def dd_is_word : He.DefD := ⟨("is_word", none), "is_word", "is_word", defArgs (top 11), defBody (top 11), defScope (top 11), [], []⟩
def dd_is_register : He.DefD := ⟨("is_register", none), "is_register", "is_register", defArgs (top 22), defBody (top 22), defScope (top 22), [], []⟩
def dd_word_wrong : He.DefD := ⟨("word_wrong", none), "word_wrong", "word_wrong", defArgs (top 23), defBody (top 23), defScope (top 23), [], []⟩
def dd_is_block : He.DefD := ⟨("is_block", none), "is_block", "is_block", defArgs (top 30), defBody (top 30), defScope (top 30), [], []⟩
def dd_look_at_block : He.DefD := ⟨("look_at_block", none), "look_at_block", "look_at_block", defArgs (top 31), defBody (top 31), defScope (top 31), [], []⟩
def dd_registers_in : He.DefD := ⟨("registers_in", none), "registers_in", "registers_in", defArgs (top 24), defBody (top 24), defScope (top 24), [], []⟩
def dd_writes : He.DefD := ⟨("writes", none), "writes", "writes", defArgs (top 26), defBody (top 26), defScope (top 26), [], []⟩
def dd_last_writers : He.DefD := ⟨("last_writers", none), "last_writers", "last_writers", defArgs (top 32), defBody (top 32), defScope (top 32), [], []⟩
def dd_reads : He.DefD := ⟨("reads", none), "reads", "reads", defArgs (top 25), defBody (top 25), defScope (top 25), [], []⟩
def dd_place_of : He.DefD := ⟨("place_of", none), "place_of", "place_of", defArgs (top 33), defBody (top 33), defScope (top 33), [], []⟩
def dd_are_apart : He.DefD := ⟨("are_apart", none), "are_apart", "are_apart", defArgs (top 34), defBody (top 34), defScope (top 34), [], []⟩
def dd_touch_alike : He.DefD := ⟨("touch_alike", none), "touch_alike", "touch_alike", defArgs (top 36), defBody (top 36), defScope (top 36), [], []⟩
def dd_depends : He.DefD := ⟨("depends", none), "depends", "depends", defArgs (top 35), defBody (top 35), defScope (top 35), [], []⟩
def dd_look_at_registers : He.DefD := ⟨("look_at_registers", none), "look_at_registers", "look_at_registers", defArgs (top 42), defBody (top 42), defScope (top 42), [], []⟩
def dd_is_memory : He.DefD := ⟨("is_memory", none), "is_memory", "is_memory", defArgs (top 12), defBody (top 12), defScope (top 12), [], []⟩
def dd_look_at_memory : He.DefD := ⟨("look_at_memory", none), "look_at_memory", "look_at_memory", defArgs (top 13), defBody (top 13), defScope (top 13), [], []⟩
def dd_is_order : He.DefD := ⟨("is_order", none), "is_order", "is_order", defArgs (top 37), defBody (top 37), defScope (top 37), [], []⟩
def dd_keeps : He.DefD := ⟨("keeps", none), "keeps", "keeps", defArgs (top 38), defBody (top 38), defScope (top 38), [], []⟩
def dd_true_pairs : He.DefD := ⟨("true_pairs", none), "true_pairs", "true_pairs", defArgs (top 45), defBody (top 45), defScope (top 45), [], []⟩
def dd_is_true_order : He.DefD := ⟨("is_true_order", none), "is_true_order", "is_true_order", defArgs (top 50), defBody (top 50), defScope (top 50), [], []⟩
def dd_name_of : He.DefD := ⟨("name_of", none), "name_of", "name_of", defArgs (top 47), defBody (top 47), defScope (top 47), [], []⟩
def dd_renamed : He.DefD := ⟨("renamed", none), "renamed", "renamed", defArgs (top 48), defBody (top 48), defScope (top 48), [], []⟩
def dd_signed : He.DefD := ⟨("signed", none), "signed", "signed", defArgs (top 14), defBody (top 14), defScope (top 14), [], []⟩
def dd_holds : He.DefD := ⟨("holds", none), "holds", "holds", defArgs (top 16), defBody (top 16), defScope (top 16), [], []⟩
def dd_moved_by : He.DefD := ⟨("moved_by", none), "moved_by", "moved_by", defArgs (top 53), defBody (top 53), defScope (top 53), [], []⟩
def dd_worked : He.DefD := ⟨("worked", none), "worked", "worked", defArgs (top 15), defBody (top 15), defScope (top 15), [], []⟩
def dd_made_by : He.DefD := ⟨("made_by", none), "made_by", "made_by", defArgs (top 52), defBody (top 52), defScope (top 52), [], []⟩
def dd_names_behind : He.DefD := ⟨("names_behind", none), "names_behind", "names_behind", defArgs (top 49), defBody (top 49), defScope (top 49), [], []⟩
def dd_run_named : He.DefD := ⟨("run_named", none), "run_named", "run_named", defArgs (top 51), defBody (top 51), defScope (top 51), [], []⟩
def dd_free : He.DefD := ⟨("free", none), "free", "free", defArgs (top 40), defBody (top 40), defScope (top 40), [], []⟩
def dd_all_orders : He.DefD := ⟨("all_orders", none), "all_orders", "all_orders", defArgs (top 39), defBody (top 39), defScope (top 39), [], []⟩
def dd_legal_orders : He.DefD := ⟨("legal_orders", none), "legal_orders", "legal_orders", defArgs (top 41), defBody (top 41), defScope (top 41), [], []⟩
def dd_law_start : He.DefD := ⟨("_law_start", none), "_law_start", "_law_start", defArgs (top 63), defBody (top 63), defScope (top 63), [], []⟩
def dd_law_spot : He.DefD := ⟨("_law_spot", none), "_law_spot", "_law_spot", defArgs (top 64), defBody (top 64), defScope (top 64), [], []⟩
def dd_law_traps : He.DefD := ⟨("_law_traps", none), "_law_traps", "_law_traps", defArgs (top 65), defBody (top 65), defScope (top 65), [], []⟩
def dd_law_signed : He.DefD := ⟨("_law_signed", none), "_law_signed", "_law_signed", defArgs (top 60), defBody (top 60), defScope (top 60), [], []⟩
def dd_law_meets : He.DefD := ⟨("_law_meets", none), "_law_meets", "_law_meets", defArgs (top 62), defBody (top 62), defScope (top 62), [], []⟩
def dd_law_works : He.DefD := ⟨("_law_works", none), "_law_works", "_law_works", defArgs (top 61), defBody (top 61), defScope (top 61), [], []⟩
def dd_law_step : He.DefD := ⟨("_law_step", none), "_law_step", "_law_step", defArgs (top 66), defBody (top 66), defScope (top 66), [], []⟩
def dd_law_done : He.DefD := ⟨("_law_done", none), "_law_done", "_law_done", defArgs (top 79), defBody (top 79), defScope (top 79), [], []⟩
def dd_false_pairs : He.DefD := ⟨("false_pairs", none), "false_pairs", "false_pairs", defArgs (top 46), defBody (top 46), defScope (top 46), [], []⟩
def dd_law_same : He.DefD := ⟨("_law_same", none), "_law_same", "_law_same", defArgs (top 57), defBody (top 57), defScope (top 57), [], []⟩
def dd_law_registers : He.DefD := ⟨("_law_registers", none), "_law_registers", "_law_registers", defArgs (top 78), defBody (top 78), defScope (top 78), [], []⟩
def dd_law_memory : He.DefD := ⟨("_law_memory", none), "_law_memory", "_law_memory", defArgs (top 76), defBody (top 76), defScope (top 76), [], []⟩
def dd_law_shuffled : He.DefD := ⟨("_law_shuffled", none), "_law_shuffled", "_law_shuffled", defArgs (top 58), defBody (top 58), defScope (top 58), [], []⟩
def dd_law_gives : He.DefD := ⟨("_law_gives", none), "_law_gives", "_law_gives", defArgs (top 70), defBody (top 70), defScope (top 70), [], []⟩
def dd_law_name : He.DefD := ⟨("_law_name", none), "_law_name", "_law_name", defArgs (top 80), defBody (top 80), defScope (top 80), [], []⟩
def dd_law_read : He.DefD := ⟨("_law_read", none), "_law_read", "_law_read", defArgs (top 81), defBody (top 81), defScope (top 81), [], []⟩
def dd_law : He.DefD := ⟨("law", none), "law", "law", defArgs (top 82), defBody (top 82), defScope (top 82), [], []⟩
def st_BadPlan : Stmt := (match top 3 with | .ClassDef _ _ _ b .. => b | _ => []).getD 0 (.Pass ⟨0, 0, 0, 0⟩)
def dd_BadPlan : He.DefD := ⟨("BadPlan", some "__init__"), "__init__", "BadPlan.__init__", defArgs st_BadPlan, defBody st_BadPlan, defScope st_BadPlan, [], []⟩
def st_Refused : Stmt := (match top 4 with | .ClassDef _ _ _ b .. => b | _ => []).getD 0 (.Pass ⟨0, 0, 0, 0⟩)
def dd_Refused : He.DefD := ⟨("Refused", some "__init__"), "__init__", "Refused.__init__", defArgs st_Refused, defBody st_Refused, defScope st_Refused, [], []⟩
def fa1 : List He.Fa := [.glo "_law_draws", .glo "_law_draw", .glo "_law_pick", .glo "_law_register", .glo "_law_plain", .glo "_law_block", .glo "form_of", .glo "is_whole", .glo "is_word", .glo "is_register", .glo "word_wrong", .glo "is_block", .glo "look_at_block", .glo "registers_in", .glo "writes", .glo "last_writers", .glo "reads", .glo "place_of", .glo "are_apart", .glo "touch_alike", .glo "depends", .glo "look_at_registers", .glo "is_memory", .glo "look_at_memory", .glo "is_order", .glo "keeps", .glo "true_pairs", .glo "is_true_order", .glo "name_of", .glo "renamed"]
def fa2 : List He.Fa := [.glo "signed", .glo "holds", .glo "moved_by", .glo "worked", .glo "made_by", .glo "names_behind", .glo "run_named", .glo "free", .glo "all_orders", .glo "legal_orders", .glo "_law_start", .glo "_law_spot", .glo "_law_traps", .glo "_law_signed", .glo "_law_meets", .glo "_law_works", .glo "_law_step", .glo "_law_done", .glo "false_pairs", .glo "_law_same", .glo "_law_registers", .glo "_law_memory", .glo "_law_shuffled", .glo "_law_gives", .glo "_law_name", .glo "_law_read", .glo "law"]
def fa3 : List He.Fa := [.glo "AheadError", .glo "BadState", .glo "BadPlan", .glo "Refused", .glo "WORKS", .glo "CONDITIONS", .glo "TRANSFERS", .glo "TRUE", .glo "FORMS", .int "WRAP" 65536, .int "HALF" 32768, .int "MOST" 60, .int "REGISTERS" 8, .int "MOST_BLOCK" 24, .free "len", .free "list", .free "tuple", .free "all", .free "any", .free "sorted", .free "int", .free "dict", .free "isinstance", .free "range", .free "enumerate", .free "zip", .free "bool", .free "str", .free "BadDesign", .free "BadProgram", .exm "BadState" "BadPlan" false, .exm "BadPlan" "BadPlan" true, .exm "Refused" "BadPlan" false]
def fa : List He.Fa := fa1 ++ fa2 ++ fa3
def fn : List He.DefD := [dd_law_draws, dd_law_draw, dd_law_pick, dd_law_register, dd_law_plain, dd_law_block, dd_form_of, dd_is_whole, dd_is_word, dd_is_register, dd_word_wrong, dd_is_block, dd_look_at_block, dd_registers_in, dd_writes, dd_last_writers, dd_reads, dd_place_of, dd_are_apart, dd_touch_alike, dd_depends, dd_look_at_registers, dd_is_memory, dd_look_at_memory, dd_is_order, dd_keeps, dd_true_pairs, dd_is_true_order, dd_name_of, dd_renamed, dd_signed, dd_holds, dd_moved_by, dd_worked, dd_made_by, dd_names_behind, dd_run_named, dd_free, dd_all_orders, dd_legal_orders, dd_law_start, dd_law_spot, dd_law_traps, dd_law_signed, dd_law_meets, dd_law_works, dd_law_step, dd_law_done, dd_false_pairs, dd_law_same, dd_law_registers, dd_law_memory, dd_law_shuffled, dd_law_gives, dd_law_name, dd_law_read, dd_law, dd_BadPlan, dd_Refused]
def tbs : List He.Tab := [(fun K => He.ga K "FORMS", ["set", "load", "store", "jump", "link", "back", "tell", "stop"])]
def tW : List Str := ["add", "sub", "and", "or", "xor", "mul", "under", "div", "rem"]
def tC : List Str := ["same", "other", "less"]
def tT : List Str := ["same", "other", "less", "jump", "link", "back", "stop"]
def tU : List Str := ["value", "place", "tell", "last"]
def tF : List (Str × Str) := [("set", "dn"), ("load", "dan"), ("store", "ans"), ("jump", "t"), ("link", "dt"), ("back", "a"), ("tell", "a"), ("stop", "")]
def ex (K : PySem.W.Frag) : Bool := errB K "BadPlan" "AheadError" && (errB K "Refused" "AheadError" && (ktB K "WORKS" tW && (ktB K "CONDITIONS" tC && (ktB K "TRANSFERS" tT && (ktB K "TRUE" tU && kdB K "FORMS" tF)))))
abbrev hk : PySem.W.Hook := hookS 5 fa fn tbs ex
def ob (s : PySem.W.SharedT) : He.AlX := obsS 5 fa fn tbs ex (HandSHeadRun.getT s)
theorem ob_eq (s : PySem.W.SharedT) : ob s = hk.obs s.abs := obsS_eq (HandSHeadRun.getT_eq s)
abbrev RunP (w : World) : Prop := HandSHeadRun.RunEq R (PySem.W.view R.prog [82]) hk ob 12000 names w
theorem runF (w : World) : RunP (w.withFollow "special-get-raises" false) := by
  intro os
  kernel_rfl
theorem runT (w : World) : RunP (w.withFollow "special-get-raises" true) := by
  intro os
  kernel_rfl
theorem run (w : World) : RunP w := PySem.W.byRow2 "special-get-raises" (P := RunP) runF runT w
end K40
end

section
set_option Elab.async false
set_option linter.all false
set_option maxRecDepth 100000
set_option maxHeartbeats 4000000
/-! K40m: instructions, blocks, machines as plain data and functions. -/
namespace K40
open PySem (Str Addr)
open AR
inductive Wk where
  | add | sub | and | or | xor | mul | under | div | rem
  deriving DecidableEq
def Wk.s : Wk → Str
  | .add => "add" | .sub => "sub" | .and => "and" | .or => "or" | .xor => "xor" | .mul => "mul" | .under => "under" | .div => "div" | .rem => "rem"
inductive Cd where
  | same | other | less
  deriving DecidableEq
def Cd.s : Cd → Str
  | .same => "same" | .other => "other" | .less => "less"
inductive Op where
  | set (d n : Nat) | work (w : Wk) (d a b : Nat) | load (d a n : Nat) | store (a n s : Nat) | jump (t : Nat) | br (c : Cd) (a b t : Nat) | link (d t : Nat) | back (a : Nat) | tell (a : Nat) | stop
  deriving DecidableEq, Inhabited
abbrev nD (n : Nat) : D := .int (n : Int)
def Op.dat : Op → D
  | .set d n => .tup [.str "set", nD d, nD n]
  | .work w d a b => .tup [.str w.s, nD d, nD a, nD b]
  | .load d a n => .tup [.str "load", nD d, nD a, nD n]
  | .store a n s => .tup [.str "store", nD a, nD n, nD s]
  | .jump t => .tup [.str "jump", nD t]
  | .br c a b t => .tup [.str c.s, nD a, nD b, nD t]
  | .link d t => .tup [.str "link", nD d, nD t]
  | .back a => .tup [.str "back", nD a]
  | .tell a => .tup [.str "tell", nD a]
  | .stop => .tup [.str "stop"]
def Op.word : Op → Str
  | .set .. => "set" | .work w .. => w.s | .load .. => "load" | .store .. => "store" | .jump .. => "jump" | .br c .. => c.s | .link .. => "link" | .back .. => "back" | .tell .. => "tell" | .stop => "stop"
def Op.form : Op → Str
  | .set .. => "dn" | .work .. => "dab" | .load .. => "dan" | .store .. => "ans" | .jump .. => "t" | .br .. => "abt" | .link .. => "dt" | .back .. => "a" | .tell .. => "a" | .stop => ""
def Op.ok : Op → Prop
  | .set d n => d < 8 ∧ n < 65536
  | .work _ d a b => d < 8 ∧ a < 8 ∧ b < 8
  | .load d a n => d < 8 ∧ a < 8 ∧ n < 65536
  | .store a n s => a < 8 ∧ n < 65536 ∧ s < 8
  | .jump t => t < 60
  | .br _ a b t => a < 8 ∧ b < 8 ∧ t < 60
  | .link d t => d < 8 ∧ t < 60
  | .back a => a < 8
  | .tell a => a < 8
  | .stop => True
def Op.xfer : Op → Bool
  | .jump .. => true | .br .. => true | .link .. => true | .back .. => true | .stop => true
  | _ => false
/-- the registers read, in the order of the form -/
def Op.rdf : Op → List Nat
  | .set .. => [] | .work _ _ a b => [a, b] | .load _ a _ => [a] | .store a _ s => [a, s] | .jump _ => [] | .br _ a b _ => [a, b] | .link .. => [] | .back a => [a] | .tell a => [a] | .stop => []
/-- ascending, but 0, each once -/
def srt : List Nat → List Nat
  | [a] => if a = 0 then [] else [a]
  | [a, b] => if a = 0 then (if b = 0 then [] else [b]) else if b = 0 ∨ b = a then [a] else if a < b then [a, b] else [b, a]
  | _ => []
def Op.rds (o : Op) : List Nat := srt o.rdf
/-- the registers written -/
def Op.wrs : Op → List Nat
  | .set d _ => [d] | .work _ d _ _ => [d] | .load d _ _ => [d] | .link d _ => [d]
  | _ => []
def Op.wr (o : Op) : Nat := o.wrs.headD 0
abbrev Blk := List Op
def blkD (b : Blk) : D := .tup (b.map Op.dat)
structure BlkOk (b : Blk) : Prop where
  one : 0 < b.length
  few : b.length ≤ 24
  ok : ∀ o ∈ b, o.ok
  last : ∀ o ∈ b.dropLast, o.xfer = false
/-- the number of the last one ahead of at that writes r -/
def lw (b : Blk) (at_ r : Nat) : Option Nat := ((List.range at_).filter fun k => decide ((b[k]?.map Op.wr).getD 0 = r ∧ r ≠ 0)).getLast?
inductive Nm where
  | was (r : Nat) | made (i : Nat)
  deriving DecidableEq
def Nm.dat : Nm → D
  | .was r => .tup [.str "was", nD r]
  | .made i => .tup [.str "made", nD i]
def Nm.ky : Nm → List Ky
  | .was r => [.inr "was", .inl (r : Int)]
  | .made i => [.inr "made", .inl (i : Int)]
def nm (b : Blk) (at_ r : Nat) : Nm := match lw b at_ r with
  | some i => .made i
  | none => .was r
/-! ### pairs -/
inductive Pw where
  | again | last | over | place | tell | value
  deriving DecidableEq
def Pw.s : Pw → Str
  | .again => "again" | .last => "last" | .over => "over" | .place => "place" | .tell => "tell" | .value => "value"
def Pw.all : List Pw := [.again, .last, .over, .place, .tell, .value]
def Pw.true : Pw → Bool
  | .again => false | .over => false
  | _ => Bool.true
abbrev Pr := Nat × Nat × Pw
def Pr.dat (p : Pr) : D := .tup [nD p.1, nD p.2.1, .str p.2.2.s]
def Pr.ky (p : Pr) : List Ky := [.inl (p.1 : Int), .inl (p.2.1 : Int), .inr p.2.2.s]
def at! (b : Blk) (k : Nat) : Op := b.getD k .stop
/-- base register, how far -/
def Op.spot : Op → Nat × Nat
  | .load _ a n => (a, n)
  | .store a n _ => (a, n)
  | _ => (0, 0)
def Op.mem : Op → Bool
  | .load .. => true | .store .. => true
  | _ => false
def Op.isLoad : Op → Bool
  | .load .. => true
  | _ => false
def Op.isTell : Op → Bool
  | .tell .. => true
  | _ => false
def apart (b : Blk) (i j : Nat) : Bool :=
  decide (((at! b i).spot.1 = (at! b j).spot.1 ∧ lw b i (at! b i).spot.1 = lw b j (at! b j).spot.1) ∧ ((((at! b i).spot.2 : Int) - (at! b j).spot.2) % 65536 ≠ 0))
def touch (b : Blk) (i j : Nat) : Bool := (at! b i).mem && (at! b j).mem && !((at! b i).isLoad && (at! b j).isLoad) && !apart b i j
/-- what (at, there, "over") there is for a register -/
def nxt (b : Blk) (at_ r : Nat) : Option Nat := ((List.range b.length).filter fun k => decide (at_ ≤ k ∧ (at! b k).wr = r)).head?
def lastTell (b : Blk) (at_ : Nat) : Option Nat := ((List.range at_).filter fun k => (at! b k).isTell).getLast?
def isPair (b : Blk) (p : Pr) : Bool := decide (p.2.1 < b.length) && match p with
  | (i, j, .value) => (at! b j).rds.any fun r => decide (lw b j r = some i)
  | (i, j, .over) => (at! b i).rds.any fun r => decide (nxt b i r = some j) && decide (i ≠ j)
  | (i, j, .again) => decide ((at! b j).wr ≠ 0) && decide (lw b j (at! b j).wr = some i)
  | (i, j, .place) => decide (i < j) && touch b i j
  | (i, j, .tell) => (at! b j).isTell && decide (lastTell b j = some i)
  | (i, j, .last) => (at! b j).xfer && decide (i < j)
def univ (n : Nat) : List Pr := (List.range n).flatMap fun i => (List.range n).flatMap fun j => Pw.all.map fun w => (i, j, w)
def dep (b : Blk) : List Pr := (univ b.length).filter (isPair b)
def tru (b : Blk) : List Pr := (dep b).filter fun p => p.2.2.true
def fal (b : Blk) : List Pr := (dep b).filter fun p => !p.2.2.true && !((tru b).any fun q => decide (q.1 = p.1 ∧ q.2.1 = p.2.1))
def prsD (ps : List Pr) : D := .tup (ps.map Pr.dat)
/-! ### orders -/
def keepsB (ps : List Pr) (xs : List Nat) : Bool := ps.all fun p => decide (xs.idxOf p.1 < xs.idxOf p.2.1)
def freeL (n : Nat) (ps : List Pr) (done : List Nat) : List Nat := (List.range n).filter fun one => !(done.contains one) && !(ps.any fun p => decide (p.2.1 = one) && !(done.contains p.1))
def dfs (n : Nat) (ps : List Pr) : Nat → List Nat → List (List Nat)
  | 0, here => if here.length = n then [here] else []
  | f + 1, here => if here.length = n then [here] else (freeL n ps here).flatMap fun one => dfs n ps f (here ++ [one])
def ords (n : Nat) (ps : List Pr) : List (List Nat) := dfs n ps n []
def ordD (xs : List Nat) : D := .tup (xs.map nD)
/-! ### what instructions do -/
def sg (w : Int) : Int := if 32768 ≤ w then w - 65536 else w
def wkF (bt : Bits) (w : Wk) (x y : Int) : Option Int := match w with
  | .add => some ((x + y) % 65536)
  | .sub => some ((x - y) % 65536)
  | .and => some (bt.and x y)
  | .or => some (bt.or x y)
  | .xor => some (bt.xor x y)
  | .mul => some ((x * y) % 65536)
  | .under => some (if sg x < sg y then 1 else 0)
  | .div => if y = 0 then none else some (x / y)
  | .rem => if y = 0 then none else some (x % y)
def cdF (c : Cd) (x y : Int) : Bool := match c with
  | .same => decide (x = y)
  | .other => decide (x ≠ y)
  | .less => decide (sg x < sg y)
/-- where it goes on -/
inductive Gt where
  | to (n : Int) | stopped (n : Nat)
def Gt.dat : Gt → D
  | .to n => .int n
  | .stopped n => .tup [.str "stopped", nD n]
structure Mx where
  mem : List Int
  told : List Int
def act (bt : Bits) (o : Op) (at_ : Nat) (ws : List Int) (m : Mx) : Option (Option Int × Option Gt × Mx) := match o, ws with
  | .work w _ _ _, [x, y] => match wkF bt w x y with
    | some z => some (some z, none, m)
    | none => none
  | .load _ _ n, [x] => if ((x + n) % 65536) < m.mem.length then some (some (m.mem.getD ((x + n) % 65536).toNat 0), none, m) else none
  | .store _ n _, [x, y] => if ((x + n) % 65536) < m.mem.length then some (none, none, { m with mem := m.mem.set ((x + n) % 65536).toNat y }) else none
  | .tell _, [x] => some (none, none, { m with told := m.told ++ [x] })
  | .set _ n, [] => some (some n, none, m)
  | .jump t, [] => some (none, some (.to t), m)
  | .link _ t, [] => some (some ((at_ : Int) + 1), some (.to t), m)
  | .back _, [x] => if x < 60 then some (none, some (.to x), m) else none
  | .stop, [] => some (none, some (.stopped at_), m)
  | .br c _ _ t, [x, y] => some (none, some (.to (if cdF c x y then t else (at_ : Int) + 1)), m)
  | _, _ => none
/-- the state of a run whose registers are named anew -/
structure Hs where
  held : Nat → Int
  m : Mx
  after : Gt
def val (rs : List Int) (held : Nat → Int) : Nm → Int
  | .was r => rs.getD r 0
  | .made i => held i
def words (b : Blk) (rs : List Int) (held : Nat → Int) (k : Nat) : List Int := (at! b k).rdf.map fun r => val rs held (nm b k r)
def stp (bt : Bits) (b : Blk) (rs : List Int) (s : Hs) (k : Nat) : Option Hs := match act bt (at! b k) k (words b rs s.held k) s.m with
  | none => none
  | some (mk, go, m) => some ⟨if (at! b k).wr ≠ 0 then fun i => if i = k then mk.getD 0 else s.held i else s.held, m, go.getD s.after⟩
def hs0 (b : Blk) (mem : List Int) : Hs := ⟨fun _ => 0, ⟨mem, []⟩, .to b.length⟩
def runs (bt : Bits) (b : Blk) (rs : List Int) (s : Hs) (xs : List Nat) : Option Hs := xs.foldlM (stp bt b rs) s
def regsAt (b : Blk) (rs : List Int) (held : Nat → Int) (k : Nat) : List Int := (List.range 8).map fun r => val rs held (nm b k r)
def intsD (xs : List Int) : D := .tup (xs.map D.int)
def endD (b : Blk) (rs : List Int) : Option Hs → D
  | none => .non
  | some s => .tup [intsD (regsAt b rs s.held b.length), intsD s.m.mem, intsD s.m.told, s.after.dat]
def runD (bt : Bits) (b : Blk) (rs mem : List Int) (xs : List Nat) : D := endD b rs (runs bt b rs (hs0 b mem) xs)
def wordI (i : Int) : Prop := 0 ≤ i ∧ i < 65536
structure RegsOk (rs : List Int) : Prop where
  len : rs.length = 8
  ok : ∀ r ∈ rs, wordI r
  zero : rs.getD 0 0 = 0
structure MemOk (mem : List Int) : Prop where
  lo : 8 ≤ mem.length
  hi : mem.length ≤ 64
  ok : ∀ r ∈ mem, wordI r
structure BitsOk (bt : Bits) : Prop where
  and : ∀ x y, wordI x → wordI y → wordI (bt.and x y)
  or : ∀ x y, wordI x → wordI y → wordI (bt.or x y)
  xor : ∀ x y, wordI x → wordI y → bt.xor x y = bt.or x y - bt.and x y
  xw : ∀ x y, wordI x → wordI y → wordI (bt.xor x y)
theorem dat_word (o : Op) : ∃ r, o.dat = .tup (.str o.word :: r) := by cases o <;> exact ⟨_, rfl⟩
theorem at_get {b : Blk} {k : Nat} {o : Op} (e : b[k]? = some o) : at! b k = o := by unfold at!; rw [List.getD_eq_getElem?_getD, e]; rfl
theorem get_at {b : Blk} {k : Nat} (h : k < b.length) : b[k]? = some (at! b k) := by unfold at!; rw [List.getD_eq_getElem?_getD, List.getElem?_eq_getElem h]; rfl
theorem lw_succ (b : Blk) (k r : Nat) (h : k < b.length) : lw b (k + 1) r = if (at! b k).wr = r ∧ r ≠ 0 then some k else lw b k r := by
  unfold lw
  rw [List.range_succ, List.filter_append]
  by_cases c : (at! b k).wr = r ∧ r ≠ 0
  · rw [if_pos c]
    have : ([k].filter fun k => decide ((b[k]?.map Op.wr).getD 0 = r ∧ r ≠ 0)) = [k] := by
      rw [List.filter_cons, if_pos (by rw [get_at h]; exact decide_eq_true c)]; rfl
    rw [this]; simp
  · rw [if_neg c]
    have : ([k].filter fun k => decide ((b[k]?.map Op.wr).getD 0 = r ∧ r ≠ 0)) = [] := by
      rw [List.filter_cons, if_neg (by rw [get_at h]; simpa using c)]; rfl
    rw [this]; simp
theorem lw_zero (b : Blk) (r : Nat) : lw b 0 r = none := rfl
theorem lw_r0 (b : Blk) (k : Nat) : lw b k 0 = none := by unfold lw; simp
theorem lw_lt {b : Blk} {k r i : Nat} (e : lw b k r = some i) : i < k ∧ (b[i]?.map Op.wr).getD 0 = r ∧ r ≠ 0 := by
  unfold lw at e
  have := List.mem_of_getLast? e
  rw [List.mem_filter, List.mem_range] at this
  exact ⟨this.1, of_decide_eq_true this.2⟩
theorem in_mem (o : Op) : inL (.str o.word) [.str "load", .str "store"] = o.mem := by
  cases o with
  | work w d a b => cases w <;> rfl
  | br c a b t => cases c <;> rfl
  | _ => rfl
theorem is_load (o : Op) : decide (Fl.str o.word = .str "load") = o.isLoad := by
  cases o with
  | work w d a b => cases w <;> rfl
  | br c a b t => cases c <;> rfl
  | _ => rfl
theorem is_tell (o : Op) : decide (Fl.str o.word = .str "tell") = o.isTell := by
  cases o with
  | work w d a b => cases w <;> rfl
  | br c a b t => cases c <;> rfl
  | _ => rfl
theorem in_xfer (o : Op) : inL (.str o.word) [.str "same", .str "other", .str "less", .str "jump", .str "link", .str "back", .str "stop"] = o.xfer := by
  cases o with
  | work w d a b => cases w <;> rfl
  | br c a b t => cases c <;> rfl
  | _ => rfl
end K40
end

section
set_option Elab.async false
set_option linter.all false
set_option maxRecDepth 100000
set_option maxHeartbeats 4000000
/-! K40s: what each def promises. -/
namespace K40
open PySem (Str Addr)
open AR
def optN : Option Nat → D
  | none => .non
  | some i => nD i
def optI : Option Int → D
  | none => .non
  | some i => .int i
def optG : Option Gt → D
  | none => .non
  | some g => g.dat
def nmOf (r : Nat) : Option Nat → Nm
  | some i => .made i
  | none => .was r
theorem nm_of (b : Blk) (k r : Nat) : nm b k r = nmOf r (lw b k r) := by unfold nm nmOf; cases lw b k r <;> rfl
def isTO (b : Blk) (xs : List Nat) : Bool := decide (xs.Perm (List.range b.length)) && keepsB (tru b) xs
def renD (b : Blk) : D := .tup ((List.range b.length).map fun k => .tup [.tup ((at! b k).rdf.map fun r => (nm b k r).dat), if (at! b k).wr ≠ 0 then (Nm.made k).dat else .non])
def behD (b : Blk) : D := .tup ((List.range 8).map fun r => (nm b b.length r).dat)
/-- plain data, n deep -/
def plainD : Nat → D → Prop
  | _, .non => True
  | _, .bl _ => True
  | _, .int _ => True
  | _, .str _ => True
  | n + 1, .tup xs => xs.length ≤ big ∧ ∀ x ∈ xs, plainD n x
  | _, _ => False
/-! ### words and programs -/
def S_is_whole : SpD := fun ds h Q E => ∃ i : Int, ds = [.int i] ∧ Q (.bl true) h
def S_is_word : SpD := fun ds h Q E => ∃ i : Int, ds = [.int i] ∧ wordI i ∧ Q (.bl true) h
def S_is_register : SpD := fun ds h Q E => ∃ n : Nat, ds = [nD n] ∧ n < 8 ∧ Q (.bl true) h
def S_form_of : SpD := fun ds h Q E => ∃ o : Op, ds = [.str o.word] ∧ Q (.str o.form) h
def S_word_wrong : SpD := fun ds h Q E => ∃ o : Op, ds = [o.dat, .int 60] ∧ o.ok ∧ Q .non h
def S_is_block : SpD := fun ds h Q E => ∃ b, ds = [blkD b] ∧ BlkOk b ∧ Q (.bl true) h
def S_look_at_block : SpD := fun ds h Q E => ∃ b, ds = [blkD b] ∧ BlkOk b ∧ Q .non h
def S_registers_in : SpD := fun ds h Q E => ∃ o : Op, (ds = [o.dat, .str "abs"] ∧ ∀ p, h p = none → Q (.ref p) (hup h p (.lst (o.rdf.map nD)))) ∨ (ds = [o.dat, .str "d"] ∧ ∀ p, h p = none → Q (.ref p) (hup h p (.lst (o.wrs.map nD))))
def S_writes : SpD := fun ds h Q E => ∃ o : Op, ds = [o.dat] ∧ Q (nD o.wr) h
def S_reads : SpD := fun ds h Q E => ∃ o : Op, ds = [o.dat] ∧ Q (.tup (o.rds.map nD)) h
def LwAt (b : Blk) (h h' : Hd) (k : Nat) (q : Addr) : Prop := h q = none ∧ ∃ kvs, h' q = some (.dK kvs) ∧ ∀ r : Nat, look kvs (.inl (r : Int)) = (lw b k r).map nD
def S_last_writers : SpD := fun ds h Q E => ∃ b, ds = [blkD b] ∧ BlkOk b ∧ ∀ (p : Addr) (qs : List Addr) h', SubH h h' → h p = none → h' p = some (.lst (qs.map .ref)) → qs.length = b.length → (∀ k q, qs[k]? = some q → LwAt b h h' k q) → Q (.ref p) h'
def S_place_of : SpD := fun ds h Q E => ∃ b k, ds = [blkD b, nD k] ∧ BlkOk b ∧ k < b.length ∧ (at! b k).mem = true ∧ Q (.tup [nD (at! b k).spot.1, optN (lw b k (at! b k).spot.1), nD (at! b k).spot.2]) h
def S_are_apart : SpD := fun ds h Q E => ∃ b i j, ds = [blkD b, nD i, nD j] ∧ BlkOk b ∧ (i < b.length ∧ j < b.length) ∧ ((at! b i).mem = true ∧ (at! b j).mem = true) ∧ Q (.bl (apart b i j)) h
def S_touch_alike : SpD := fun ds h Q E => ∃ b i j, ds = [blkD b, nD i, nD j] ∧ BlkOk b ∧ (i < b.length ∧ j < b.length) ∧ Q (.bl (touch b i j)) h
def S_depends : SpD := fun ds h Q E => ∃ b, ds = [blkD b] ∧ BlkOk b ∧ Q (prsD (dep b)) h
def S_look_at_registers : SpD := fun ds h Q E => ∃ rs, ds = [intsD rs] ∧ RegsOk rs ∧ Q .non h
def S_is_memory : SpD := fun ds h Q E => ∃ m, ds = [intsD m] ∧ MemOk m ∧ Q (.bl true) h
def S_look_at_memory : SpD := fun ds h Q E => ∃ m, ds = [intsD m] ∧ MemOk m ∧ Q .non h
def S_is_order : SpD := fun ds h Q E => ∃ n v, ds = [nD n, v] ∧ n ≤ 24 ∧ ((v = .non ∧ Q (.bl false) h) ∨ (∃ a xs, v = .ref a ∧ h a = some (.lst xs) ∧ Q (.bl false) h) ∨ ∃ xs : List Nat, v = ordD xs ∧ xs.length ≤ 1000 ∧ Q (.bl (decide (xs.Perm (List.range n)))) h)
def S_keeps : SpD := fun ds h Q E => ∃ ps n xs, ds = [prsD ps, ordD xs] ∧ xs.Perm (List.range n) ∧ (∀ p ∈ ps, p.1 < n ∧ p.2.1 < n) ∧ n ≤ 24 ∧ ps.length ≤ 10000 ∧ Q (.bl (keepsB ps xs)) h
def S_true_pairs : SpD := fun ds h Q E => ∃ b, ds = [blkD b] ∧ BlkOk b ∧ Q (prsD (tru b)) h
def S_false_pairs : SpD := fun ds h Q E => ∃ b, ds = [blkD b] ∧ BlkOk b ∧ Q (prsD (fal b)) h
def S_is_true_order : SpD := fun ds h Q E => ∃ b v, ds = [blkD b, v] ∧ BlkOk b ∧ ((v = .non ∧ Q (.bl false) h) ∨ (∃ a xs, v = .ref a ∧ h a = some (.lst xs) ∧ Q (.bl false) h) ∨ ∃ xs : List Nat, v = ordD xs ∧ xs.length ≤ 1000 ∧ Q (.bl (isTO b xs)) h)
def S_name_of : SpD := fun ds h Q E => ∃ q kvs r o, ds = [.ref q, nD r] ∧ h q = some (.dK kvs) ∧ look kvs (.inl (r : Int)) = o.map nD ∧ (r = 0 → o = none) ∧ Q (nmOf r o).dat h
def S_renamed : SpD := fun ds h Q E => ∃ b, ds = [blkD b] ∧ BlkOk b ∧ Q (renD b) h
def S_names_behind : SpD := fun ds h Q E => ∃ b, ds = [blkD b] ∧ BlkOk b ∧ Q (behD b) h
def S_signed : SpD := fun ds h Q E => ∃ w : Int, ds = [.int w] ∧ Q (.int (sg w)) h
def S_worked (bt : Bits) : SpD := fun ds h Q E => ∃ (w : Wk) (x y : Int), ds = [.str w.s, .int x, .int y] ∧ wordI x ∧ wordI y ∧ Q (optI (wkF bt w x y)) h
def S_holds : SpD := fun ds h Q E => ∃ (c : Cd) (x y : Int), ds = [.str c.s, .int x, .int y] ∧ Q (.bl (cdF c x y)) h
def wordsI (ws : List Int) : Prop := ∀ w ∈ ws, wordI w
def S_moved_by (bt : Bits) : SpD := fun ds h Q E => ∃ (o : Op) (k : Nat) (p : Addr) (ws : List Int) (m : Mx), ds = [o.dat, nD k, .ref p] ∧ h p = some (.lst (ws.map .int)) ∧ ws.length = o.rdf.length ∧ (match o with
    | .work .. => False | .load .. => False | .store .. => False | .tell .. => False | _ => True) ∧
  match act bt o k ws m with
  | none => Q .non h
  | some (mk, go, _) => Q (.tup [optI mk, optG go]) h
def S_made_by (bt : Bits) : SpD := fun ds h Q E => ∃ (o : Op) (k : Nat) (p : Addr) (ws : List Int) (c1 c2 : Addr) (m : Mx), ds = [o.dat, nD k, .ref p, .tup [.ref c1, .ref c2]] ∧ (h p = some (.lst (ws.map .int)) ∧ h c1 = some (.lst (m.mem.map .int)) ∧ h c2 = some (.lst (m.told.map .int)) ∧ c1 ≠ c2 ∧ p ≠ c1 ∧ p ≠ c2) ∧
  (ws.length = o.rdf.length ∧ wordsI ws ∧ m.mem.length ≤ 64 ∧ m.told.length ≤ 1000) ∧ match act bt o k ws m with
  | none => Q .non h
  | some (mk, go, m') => Q (.tup [optI mk, optG go]) (hup (hup h c1 (.lst (m'.mem.map .int))) c2 (.lst (m'.told.map .int)))
def badPlan (w : Str) : D := .exc "BadPlan" ["word"] [.str w]
def refused (w : Str) : D := .exc "Refused" ["word"] [.str w]
def S_run_named (bt : Bits) : SpD := fun ds h Q E => ∃ b xs rs mem, ds = [blkD b, ordD xs, intsD rs, intsD mem] ∧ BlkOk b ∧ RegsOk rs ∧ MemOk mem ∧ xs.length ≤ 1000 ∧ if isTO b xs = true then Q (runD bt b rs mem xs) h else E (badPlan "order") h
def S_free : SpD := fun ds h Q E => ∃ n ps done, ds = [nD n, prsD ps, ordD done] ∧ n ≤ 24 ∧ ps.length ≤ 10000 ∧ done.length ≤ 24 ∧ ∀ p, h p = none → Q (.ref p) (hup h p (.lst ((freeL n ps done).map nD)))
def S_all_orders : SpD := fun ds h Q E => ∃ n ps most, ds = [nD n, prsD ps, nD most] ∧ n ≤ 24 ∧ ps.length ≤ 10000 ∧ most ≤ 1000 ∧ if (ords n ps).length ≤ most then Q (.tup ((ords n ps).map ordD)) h else E (refused "many") h
def S_legal_orders : SpD := fun ds h Q E => ∃ b most, ds = [blkD b, nD most] ∧ BlkOk b ∧ most ≤ 1000 ∧ if (ords b.length (dep b)).length ≤ most then Q (.tup ((ords b.length (dep b)).map ordD)) h else E (refused "many") h
/-! ### the law's own -/
def DrL (s : Addr) (l : List D) : Prop := ∃ (i : Nat) (c x : Int), l = [.ref s, nD i, .int c, .int x]
/-- draws: a list at d, the script's copy at s -/
structure DrP (d s : Addr) (h : Hd) : Prop where
  ne : s ≠ d
  xs : ∃ xs : List Int, h s = some (.lst (xs.map .int))
  l : ∃ l, h d = some (.lst l) ∧ DrL s l
def S_law_draws : SpD := fun ds h Q E => ∃ ns : List Int, ds = [.rl (ns.map .int)] ∧ ∀ d s h', SubH h h' → h d = none → h s = none → DrP d s h' → Q (.ref d) h'
def S_law_draw : SpD := fun ds h Q E => ∃ d s n, ds = [.ref d, nD n] ∧ (0 < n ∧ n < 1000000) ∧ DrP d s h ∧ ∀ (v : Nat) l, v < n → DrL s l → Q (nD v) (hup h d (.lst l))
def S_law_pick : SpD := fun ds h Q E => ∃ (d s r : Addr) (xs : List D), ds = [.ref d, .ref r] ∧ h r = some (.lst xs) ∧ r ≠ d ∧ (0 < xs.length ∧ xs.length < 1000) ∧ DrP d s h ∧ ∀ x l, x ∈ xs → DrL s l → Q x (hup h d (.lst l))
def S_law_register : SpD := fun ds h Q E => ∃ d s, ds = [.ref d] ∧ DrP d s h ∧ ∀ (v : Nat) l, v < 6 → DrL s l → Q (nD v) (hup h d (.lst l))
def S_law_plain : SpD := fun ds h Q E => ∃ d s n, ds = [.ref d, nD n] ∧ (0 < n ∧ n < 65536) ∧ DrP d s h ∧ ∀ (o : Op) l, o.ok → o.xfer = false → DrL s l → Q o.dat (hup h d (.lst l))
def S_law_block : SpD := fun ds h Q E => ∃ d s, ds = [.ref d, .int 8, .int 6] ∧ DrP d s h ∧ ∀ b l, BlkOk b → b.length ≤ 6 → DrL s l → Q (blkD b) (hup h d (.lst l))
def S_law_registers : SpD := fun ds h Q E => ∃ d s, ds = [.ref d] ∧ DrP d s h ∧ ∀ rs l, RegsOk rs → DrL s l → Q (intsD rs) (hup h d (.lst l))
def S_law_memory : SpD := fun ds h Q E => ∃ d s, ds = [.ref d] ∧ DrP d s h ∧ ∀ m l, MemOk m → DrL s l → Q (intsD m) (hup h d (.lst l))
def S_law_shuffled : SpD := fun ds h Q E => ∃ (d s r : Addr) (xs : List D), ds = [.ref d, .ref r] ∧ h r = some (.lst xs) ∧ r ≠ d ∧ xs.length ≤ 24 ∧ DrP d s h ∧ ∀ ys l, ys.Perm xs → DrL s l → Q (.tup ys) (hup h d (.lst l))
def S_law_same : SpD := fun ds h Q E => ∃ d, ds = [d, d] ∧ plainD 8 d ∧ Q (.bl true) h
def S_law_sameN (n : Nat) : SpD := fun ds h Q E => ∃ d, ds = [d, d] ∧ plainD n d ∧ Q (.bl true) h
def S_law_gives : SpD := fun ds h Q E => ∃ o : Op, ds = [o.dat] ∧ Q (nD o.wr) h
def S_law_read : SpD := fun ds h Q E => ∃ o : Op, ds = [o.dat] ∧ ∀ p, h p = none → Q (.ref p) (hup h p (.lst (o.rdf.map nD)))
def S_law_name : SpD := fun ds h Q E => ∃ b k r, ds = [blkD b, nD k, nD r] ∧ (b.length ≤ 24 ∧ k ≤ b.length) ∧ Q (nm b k r).dat h
def S_law_start : SpD := fun ds h Q E => ∃ mem : List Int, ds = [intsD mem] ∧ ∀ p r c t, h r = none → h c = none → c ≠ r → h t = none → t ≠ r → t ≠ c → h p = none → p ≠ r → p ≠ c → p ≠ t →
  Q (.ref p) (hup (hup (hup (hup h r (.lst ((List.replicate 8 (0 : Int)).map .int))) c (.lst (mem.map .int))) t (.lst [])) p (.lst [.int 0, .ref r, .ref c, .ref t, .int 0, .non]))
def S_law_spot : SpD := fun ds h Q E => ∃ (o : Op) (p : Addr) (rs : List Int), ds = [o.dat, .ref p] ∧ h p = some (.lst (rs.map .int)) ∧ o.mem = true ∧ o.spot.1 < rs.length ∧ Q (.int ((rs.getD o.spot.1 0 + o.spot.2) % 65536)) h
def S_law_works (bt : Bits) : SpD := S_worked bt
def S_law_meets : SpD := S_holds
def S_law_signed : SpD := S_signed
/-- the machine's state: a list at s, of lists at r, c, t -/
structure Ms (h : Hd) (s r c t : Addr) (pc : D) (rs : List Int) (m : Mx) (n : Int) (fin : D) : Prop where
  hs : h s = some (.lst [pc, .ref r, .ref c, .ref t, .int n, fin])
  hr : h r = some (.lst (rs.map .int))
  hc : h c = some (.lst (m.mem.map .int))
  ht : h t = some (.lst (m.told.map .int))
  sr : s ≠ r
  sc : s ≠ c
  st : s ≠ t
  rc : r ≠ c
  rt : r ≠ t
  ct : c ≠ t
structure MsOk (b : Blk) (pc : Nat) (rs : List Int) (m : Mx) : Prop where
  len : b.length = 60
  ok : (at! b pc).ok
  pc : pc < 60
  rl : rs.length = 8
  w : wordsI rs
  mem : m.mem.length ≤ 64
  told : m.told.length ≤ 1000
def wsOf (o : Op) (rs : List Int) : List Int := o.rdf.map fun r => rs.getD r 0
def S_law_traps (bt : Bits) : SpD := fun ds h Q E => ∃ b s r c t pc rs m n fin, ds = [blkD b, .ref s] ∧ Ms h s r c t (nD pc) rs m n fin ∧ MsOk b pc rs m ∧
  match act bt (at! b pc) pc (wsOf (at! b pc) rs) m with
  | none => ∀ w : Str, Q (.str w) h
  | some _ => Q .non h
def pcOf (pc : Nat) : Option Gt → D
  | none => nD (pc + 1)
  | some (.to n) => .int n
  | some (.stopped _) => nD pc
def finOf : Option Gt → D
  | some (.stopped n) => .tup [.str "stopped", nD n]
  | _ => .non
def regsOf (o : Op) (rs : List Int) (mk : Option Int) : List Int := if o.wr ≠ 0 then rs.set o.wr (mk.getD 0) else rs
def S_law_step (bt : Bits) : SpD := fun ds h Q E => ∃ b s r c t pc rs m n, ds = [blkD b, .ref s] ∧ Ms h s r c t (nD pc) rs m n .non ∧ MsOk b pc rs m ∧
  match act bt (at! b pc) pc (wsOf (at! b pc) rs) m with
  | none => ∀ (w : Str) d, Q d (hup h s (.lst [nD pc, .ref r, .ref c, .ref t, .int n, .tup [.str "trap", nD pc, .str w]]))
  | some (mk, go, m') => ∀ d, Q d (hup (hup (hup (hup h r (.lst ((regsOf (at! b pc) rs mk).map .int))) c (.lst (m'.mem.map .int))) t (.lst (m'.told.map .int))) s (.lst [pcOf pc go, .ref r, .ref c, .ref t, .int (n + 1), finOf go]))
def S_law_done (bt : Bits) : SpD := fun ds h Q E => ∃ b rs mem, ds = [blkD b, intsD rs, intsD mem] ∧ BlkOk b ∧ b.length ≤ 24 ∧ RegsOk rs ∧ MemOk mem ∧ Q (runD bt b rs mem (List.range b.length)) h
def S_law : SpD := fun ds h Q E => ∃ ns : List Int, ds = [.rl (ns.map .int)] ∧ Q (.bl true) h
end K40
end

section
set_option Elab.async false
set_option linter.all false
set_option maxRecDepth 100000
set_option maxHeartbeats 4000000
/-! K40c: the context: what each name promises. -/
namespace K40
open PySem (Str Addr)
open AR

def fnT (bt : Bits) : List (Str × SpD) := [(("_law_draws" : Str), S_law_draws), (("_law_draw" : Str), S_law_draw), (("_law_pick" : Str), S_law_pick), (("_law_register" : Str), S_law_register), (("_law_plain" : Str), S_law_plain), (("_law_block" : Str), S_law_block), (("form_of" : Str), S_form_of), (("is_whole" : Str), S_is_whole), (("is_word" : Str), S_is_word), (("is_register" : Str), S_is_register), (("word_wrong" : Str), S_word_wrong), (("is_block" : Str), S_is_block), (("look_at_block" : Str), S_look_at_block), (("registers_in" : Str), S_registers_in), (("writes" : Str), S_writes), (("last_writers" : Str), S_last_writers), (("reads" : Str), S_reads), (("place_of" : Str), S_place_of), (("are_apart" : Str), S_are_apart), (("touch_alike" : Str), S_touch_alike), (("depends" : Str), S_depends), (("look_at_registers" : Str), S_look_at_registers), (("is_memory" : Str), S_is_memory), (("look_at_memory" : Str), S_look_at_memory), (("is_order" : Str), S_is_order), (("keeps" : Str), S_keeps), (("true_pairs" : Str), S_true_pairs), (("is_true_order" : Str), S_is_true_order), (("name_of" : Str), S_name_of), (("renamed" : Str), S_renamed), (("signed" : Str), S_signed), (("holds" : Str), S_holds), (("moved_by" : Str), S_moved_by bt), (("worked" : Str), S_worked bt), (("made_by" : Str), S_made_by bt), (("names_behind" : Str), S_names_behind), (("run_named" : Str), S_run_named bt), (("free" : Str), S_free), (("all_orders" : Str), S_all_orders), (("legal_orders" : Str), S_legal_orders), (("_law_start" : Str), S_law_start), (("_law_spot" : Str), S_law_spot), (("_law_traps" : Str), S_law_traps bt), (("_law_signed" : Str), S_law_signed), (("_law_meets" : Str), S_law_meets), (("_law_works" : Str), S_law_works bt), (("_law_step" : Str), S_law_step bt), (("_law_done" : Str), S_law_done bt), (("false_pairs" : Str), S_false_pairs), (("_law_same" : Str), S_law_same), (("_law_registers" : Str), S_law_registers), (("_law_memory" : Str), S_law_memory), (("_law_shuffled" : Str), S_law_shuffled), (("_law_gives" : Str), S_law_gives), (("_law_name" : Str), S_law_name), (("_law_read" : Str), S_law_read), (("law" : Str), S_law)]
def glT : List (Str × D) := [(("WRAP" : Str), .int 65536), (("HALF" : Str), .int 32768), (("WORKS" : Str), .kt [.str "add", .str "sub", .str "and", .str "or", .str "xor", .str "mul", .str "under", .str "div", .str "rem"]), (("CONDITIONS" : Str), .kt [.str "same", .str "other", .str "less"]), (("MOST" : Str), .int 60), (("REGISTERS" : Str), .int 8), (("MOST_BLOCK" : Str), .int 24), (("TRANSFERS" : Str), .kt [.str "same", .str "other", .str "less", .str "jump", .str "link", .str "back", .str "stop"]), (("TRUE" : Str), .kt [.str "value", .str "place", .str "tell", .str "last"]), (("FORMS" : Str), .kd [(("set" : Str), ("dn" : Str)), (("load" : Str), ("dan" : Str)), (("store" : Str), ("ans" : Str)), (("jump" : Str), ("t" : Str)), (("link" : Str), ("dt" : Str)), (("back" : Str), ("a" : Str)), (("tell" : Str), ("a" : Str)), (("stop" : Str), ("" : Str))])]
def C40 (bt : Bits) : Ctx := { fn := fun x => (fnT bt).lookup x, gl := fun x => glT.lookup x }
variable {bt : Bits}
end K40
end

section
set_option Elab.async false
set_option linter.all false
set_option maxRecDepth 100000
set_option maxHeartbeats 4000000
/-! K40y: words: and, or, xor. -/
namespace K40
open PySem PySem.Spec PyProof.Rows L2
theorem bits_ok : BitsOk AR.bt := by
  have hn : ∀ x : Int, wordI x → x.toNat < 2 ^ 16 := fun x h => by
    have h1 := h.1
    have h2 := h.2
    omega
  refine ⟨fun x y hx hy => ?_, fun x y hx hy => ?_, fun x y _ _ => rfl, fun x y hx hy => ?_⟩
  · show wordI (Builtin.bitAnd x y)
    rw [bitAnd_pp hx.1 hy.1]
    have h := Nat.and_lt_two_pow x.toNat (hn y hy)
    generalize x.toNat &&& y.toNat = z at h
    exact ⟨by omega, by omega⟩
  · show wordI (Builtin.bitOr x y)
    rw [Bits.bitOr_pp hx.1 hy.1]
    have h := Nat.or_lt_two_pow (hn x hx) (hn y hy)
    generalize x.toNat ||| y.toNat = z at h
    exact ⟨by omega, by omega⟩
  · show wordI (Builtin.bitXor x y)
    rw [Bits.bitXor_pp hx.1 hy.1]
    have h := Nat.xor_lt_two_pow (hn x hx) (hn y hy)
    generalize x.toNat ^^^ y.toNat = z at h
    exact ⟨by omega, by omega⟩
end K40
end

section
set_option Elab.async false
set_option linter.all false
set_option maxRecDepth 100000
set_option maxHeartbeats 4000000
/-! K40p: pairs: sets of them in dicts, their order. -/
namespace K40
open PySem (Str Addr)
open AR
theorem Pw.s_inj : ∀ {a b : Pw}, a.s = b.s → a = b := by
  intro a b
  cases a <;> cases b <;> first | exact fun _ => rfl | (intro h; exact absurd h (by decide))
theorem Pr.ky_inj {p q : Pr} (h : p.ky = q.ky) : p = q := by
  obtain ⟨a, b, c⟩ := p
  obtain ⟨a', b', c'⟩ := q
  unfold Pr.ky at h
  simp only [List.cons.injEq, Sum.inl.injEq, Sum.inr.injEq, and_true] at h
  obtain ⟨h1, h2, h3⟩ := h
  have h1 : a = a' := by omega
  have h2 : b = b' := by omega
  rw [h1, h2, Pw.s_inj h3]
def Pw.n : Pw → Nat
  | .again => 0 | .last => 1 | .over => 2 | .place => 3 | .tell => 4 | .value => 5
theorem Pw.lt_s (a b : Pw) : decide (a.s.cps.toList < b.s.cps.toList) = decide (a.n < b.n) := by cases a <;> cases b <;> decide +kernel
def Pr.lt (p q : Pr) : Prop := p.1 < q.1 ∨ (p.1 = q.1 ∧ (p.2.1 < q.2.1 ∨ (p.2.1 = q.2.1 ∧ p.2.2.n < q.2.2.n)))
theorem Pr.ky_lt (p q : Pr) : ltKys p.ky q.ky = true ↔ p.lt q := by
  obtain ⟨a, b, c⟩ := p
  obtain ⟨a', b', c'⟩ := q
  unfold Pr.ky Pr.lt
  simp only [ltKys, ltKy, Sum.inl.injEq, Sum.inr.injEq, Pw.lt_s]
  by_cases h1 : a = a'
  · subst h1
    by_cases h2 : b = b'
    · subst h2
      by_cases h3 : c = c'
      · subst h3
        simp
      · have : c.s ≠ c'.s := fun z => h3 (Pw.s_inj z)
        simp [this]
    · have : ¬ (b : Int) = b' := by omega
      simp [this, h2]
  · have : ¬ (a : Int) = a' := by omega
    simp [this, h1]
theorem Pw.n_inj {a b : Pw} (h : a.n = b.n) : a = b := by cases a <;> cases b <;> first | rfl | (simp [Pw.n] at h)
theorem Pr.tri {p q : Pr} (h1 : ¬ p.lt q) (h2 : ¬ q.lt p) : p = q := by
  obtain ⟨a, b, c⟩ := p
  obtain ⟨a', b', c'⟩ := q
  unfold Pr.lt at h1 h2
  simp only at h1 h2
  have e1 : a = a' := by omega
  subst e1
  have e2 : b = b' := by omega
  subst e2
  have e3 : c.n = c'.n := by omega
  rw [Pw.n_inj e3]
theorem Pr.asym {p q : Pr} (h : p.lt q) : ¬ q.lt p := by
  unfold Pr.lt at *
  omega
theorem univ_sorted (n : Nat) : (univ n).Pairwise Pr.lt := by
  unfold univ
  rw [List.pairwise_flatMap]
  refine ⟨fun i _ => ?_, ?_⟩
  · rw [List.pairwise_flatMap]
    refine ⟨fun j _ => ?_, ?_⟩
    · rw [List.pairwise_map]
      refine List.Pairwise.imp ?_ (show Pw.all.Pairwise (fun a b => a.n < b.n) by decide)
      intro a b h
      exact .inr ⟨rfl, .inr ⟨rfl, h⟩⟩
    · refine List.Pairwise.imp ?_ List.pairwise_lt_range
      intro a b h x hx y hy
      rw [List.mem_map] at hx hy
      obtain ⟨_, _, rfl⟩ := hx
      obtain ⟨_, _, rfl⟩ := hy
      exact .inr ⟨rfl, .inl h⟩
  · refine List.Pairwise.imp ?_ List.pairwise_lt_range
    intro a b h x hx y hy
    rw [List.mem_flatMap] at hx hy
    obtain ⟨_, _, hx⟩ := hx
    obtain ⟨_, _, hy⟩ := hy
    rw [List.mem_map] at hx hy
    obtain ⟨_, _, rfl⟩ := hx
    obtain ⟨_, _, rfl⟩ := hy
    exact .inl h
theorem mem_univ {n : Nat} {p : Pr} : p ∈ univ n ↔ p.1 < n ∧ p.2.1 < n := by
  obtain ⟨i, j, w⟩ := p
  unfold univ
  simp only [List.mem_flatMap, List.mem_range, List.mem_map]
  constructor
  · rintro ⟨a, ha, b, hb, c, hc, e⟩
    injection e with e1 e2
    injection e2 with e2 e3
    subst e1 e2
    exact ⟨ha, hb⟩
  · rintro ⟨h1, h2⟩
    exact ⟨i, h1, j, h2, w, by cases w <;> decide, rfl⟩
theorem dep_sorted (b : Blk) : (dep b).Pairwise Pr.lt := (univ_sorted b.length).sublist List.filter_sublist
theorem lt_nodup {ps : List Pr} (h : ps.Pairwise Pr.lt) : ps.Nodup := List.Pairwise.imp (fun h e => by subst e; exact Pr.asym h h) h
theorem univ_len : (univ 24).length = 3456 := by decide +kernel
/-- a dict's keys are the pairs of a set -/
def St (kvs : List (List Ky × D)) (M : Pr → Prop) : Prop := ∃ ps : List Pr, kvs.map (·.1) = ps.map Pr.ky ∧ ps.Nodup ∧ (∀ p ∈ ps, p.1 < 24 ∧ p.2.1 < 24) ∧ ∀ p, p ∈ ps ↔ M p
theorem St.congr {kvs : List (List Ky × D)} {M M' : Pr → Prop} (s : St kvs M) (h : ∀ p, M p ↔ M' p) : St kvs M' := by
  obtain ⟨ps, a, b, c, d⟩ := s
  exact ⟨ps, a, b, c, fun p => (d p).trans (h p)⟩
theorem St.nil : St [] fun _ => False := ⟨[], rfl, List.nodup_nil, by simp, by simp⟩
theorem put_keys {κ : Type} [DecidableEq κ] (kvs : List (κ × D)) (k : κ) (v : D) : (putD kvs k v).map (·.1) = if k ∈ kvs.map (·.1) then kvs.map (·.1) else kvs.map (·.1) ++ [k] := by
  unfold putD
  have e : (kvs.any fun kv => decide (kv.1 = k)) = true ↔ k ∈ kvs.map (·.1) := by
    rw [List.any_eq_true, List.mem_map]
    constructor
    · rintro ⟨x, h1, h2⟩; exact ⟨x, h1, of_decide_eq_true h2⟩
    · rintro ⟨x, h1, h2⟩; exact ⟨x, h1, decide_eq_true h2⟩
  by_cases c : k ∈ kvs.map (·.1)
  · rw [if_pos (e.mpr c), if_pos c, List.map_map]
    apply List.map_congr_left
    intro kv _
    show (if kv.1 = k then (kv.1, v) else kv).1 = kv.1
    split <;> rfl
  · rw [if_neg (fun z => c (e.mp z)), if_neg c]
    simp
theorem St.put {kvs : List (List Ky × D)} {M : Pr → Prop} (s : St kvs M) (p : Pr) (v : D) (h1 : p.1 < 24) (h2 : p.2.1 < 24) : St (putD kvs p.ky v) fun q => M q ∨ q = p := by
  obtain ⟨ps, a, b, c, d⟩ := s
  have e : p.ky ∈ ps.map Pr.ky ↔ p ∈ ps := by
    rw [List.mem_map]
    constructor
    · rintro ⟨x, hx, e⟩; rw [← Pr.ky_inj e]; exact hx
    · exact fun h => ⟨p, h, rfl⟩
  by_cases m : p ∈ ps
  · refine ⟨ps, ?_, b, c, fun q => ?_⟩
    · rw [put_keys, a, if_pos (e.mpr m)]
    · show q ∈ ps ↔ M q ∨ q = p
      rw [← d q]
      constructor
      · exact .inl
      · rintro (h | rfl)
        · exact h
        · exact m
  · refine ⟨ps ++ [p], ?_, ?_, fun q hq => ?_, fun q => ?_⟩
    · rw [put_keys, a, if_neg (fun z => m (e.mp z))]; simp
    · rw [List.nodup_append]
      refine ⟨b, by simp, ?_⟩
      intro x hx y hy
      simp at hy
      subst hy
      exact fun z => m (z ▸ hx)
    · rcases List.mem_append.mp hq with hq | hq
      · exact c q hq
      · simp at hq; subst hq; exact ⟨h1, h2⟩
    · rw [List.mem_append, d q]; simp
theorem St.merge : ∀ {ys : List (List Ky × D)} {kvs : List (List Ky × D)} {M : Pr → Prop} {qs : List Pr}, St kvs M → ys.map (·.1) = qs.map Pr.ky → (∀ q ∈ qs, q.1 < 24 ∧ q.2.1 < 24) → St (merge kvs ys) fun q => M q ∨ q ∈ qs := by
  intro ys
  induction ys with
  | nil =>
    intro kvs M qs s e _
    have : qs = [] := by cases qs with
      | nil => rfl
      | cons a r => cases e
    subst this
    exact s.congr fun p => by simp
  | cons y ys ih =>
    intro kvs M qs s e hq
    cases qs with
    | nil => cases e
    | cons p qs =>
      rw [List.map_cons, List.map_cons] at e
      injection e with e1 e2
      have hp := hq p (List.mem_cons_self ..)
      have s1 := s.put p y.2 hp.1 hp.2
      rw [← e1] at s1
      have := ih s1 e2 (fun q h => hq q (List.mem_cons_of_mem _ h))
      refine St.congr (show St (AR.merge kvs (y :: ys)) _ from this) fun q => ?_
      rw [List.mem_cons, or_assoc]
theorem St.len {kvs : List (List Ky × D)} {M : Pr → Prop} (s : St kvs M) : kvs.length ≤ 3456 := by
  obtain ⟨ps, a, b, c, d⟩ := s
  have e : kvs.length = ps.length := by have := congrArg List.length a; simpa using this
  rw [e]
  have := List.Nodup.length_le_of_subset b (l₂ := univ 24) (fun p hp => mem_univ.mpr (c p hp))
  rw [univ_len] at this
  exact this
/-- sorted, they are the pairs in order -/
theorem sort_pairs {ps qs : List Pr} (nd : ps.Nodup) (sq : qs.Pairwise Pr.lt) (m : ∀ p, p ∈ ps ↔ p ∈ qs) {js : List (List Ky)} (p : js.Perm (ps.map Pr.ky)) (s : js.Pairwise fun a b => ltKys b a = false) : js = qs.map Pr.ky := by
  have pq : ps.Perm qs := (List.perm_ext_iff_of_nodup nd (lt_nodup sq)).mpr m
  have p2 : js.Perm (qs.map Pr.ky) := p.trans (pq.map _)
  refine List.Perm.eq_of_pairwise (le := fun a b => ltKys b a = false) (fun a b ha hb h1 h2 => ?_) s ?_ p2
  · obtain ⟨x, _, rfl⟩ := List.mem_map.mp (p2.mem_iff.mp ha)
    obtain ⟨y, _, rfl⟩ := List.mem_map.mp hb
    have e1 : ¬ y.lt x := fun z => by rw [(Pr.ky_lt y x).mpr z] at h1; cases h1
    have e2 : ¬ x.lt y := fun z => by rw [(Pr.ky_lt x y).mpr z] at h2; cases h2
    rw [Pr.tri e2 e1]
  · rw [List.pairwise_map]
    refine List.Pairwise.imp (fun {a b} h => ?_) sq
    have : ¬ ltKys b.ky a.ky = true := fun z => Pr.asym h ((Pr.ky_lt _ _).mp z)
    simpa using this
theorem dTup_ky (p : Pr) : dTup p.ky = p.dat := rfl
theorem tups_ky : ∀ ps : List Pr, tups (ps.map fun p => dTup p.ky) = some (ps.map Pr.ky)
  | [] => rfl
  | p :: ps => by
    have ih := tups_ky ps
    show (match kysD (p.ky.map dKy), tups (ps.map fun p => dTup p.ky) with
      | some k, some ks => some (k :: ks)
      | _, _ => none) = _
    rw [ih]
    rfl
theorem like_ky (p q : Pr) : like p.ky q.ky = true := rfl
/-! ### what each instruction gives -/
def inC (b : Blk) (k : Nat) (p : Pr) : Prop := match p with
  | (i, j, .value) => j = k ∧ ∃ r ∈ (at! b k).rds, lw b k r = some i
  | (i, j, .over) => i = k ∧ ∃ r ∈ (at! b k).rds, nxt b k r = some j ∧ j ≠ k
  | (i, j, .again) => j = k ∧ (at! b k).wr ≠ 0 ∧ lw b k (at! b k).wr = some i
  | (i, j, .place) => j = k ∧ i < k ∧ touch b i k = true
  | (i, j, .tell) => j = k ∧ (at! b k).isTell = true ∧ lastTell b k = some i
  | (i, j, .last) => j = k ∧ (at! b k).xfer = true ∧ i < k
theorem nxt_lt {b : Blk} {k r j : Nat} (e : nxt b k r = some j) : j < b.length ∧ k ≤ j ∧ (at! b j).wr = r := by
  unfold nxt at e
  have := List.mem_of_head? e
  rw [List.mem_filter, List.mem_range] at this
  exact ⟨this.1, of_decide_eq_true this.2⟩
theorem lastTell_lt {b : Blk} {k j : Nat} (e : lastTell b k = some j) : j < k := by
  unfold lastTell at e
  have := List.mem_of_getLast? e
  rw [List.mem_filter, List.mem_range] at this
  exact this.1
theorem rds_out {b : Blk} {k r : Nat} (h : r ∈ (at! b k).rds) : k < b.length := by
  by_cases c : k < b.length
  · exact c
  · have : at! b k = .stop := by unfold at!; rw [List.getD_eq_getElem?_getD, List.getElem?_eq_none (by omega)]; rfl
    rw [this] at h
    cases h
theorem mem_dep {b : Blk} {p : Pr} : p ∈ dep b ↔ ∃ k, k < b.length ∧ inC b k p := by
  obtain ⟨i, j, w⟩ := p
  unfold dep
  rw [List.mem_filter, mem_univ]
  unfold isPair inC
  cases w with
  | value =>
    simp only [Bool.and_eq_true, decide_eq_true_eq, List.any_eq_true]
    constructor
    · rintro ⟨⟨h1, h2⟩, h3, r, h4, h5⟩; exact ⟨j, h2, rfl, r, h4, h5⟩
    · rintro ⟨k, hk, rfl, r, h4, h5⟩; exact ⟨⟨by have := (lw_lt h5).1; omega, hk⟩, hk, r, h4, h5⟩
  | over =>
    simp only [Bool.and_eq_true, decide_eq_true_eq, List.any_eq_true]
    constructor
    · rintro ⟨⟨h1, h2⟩, h3, r, h4, h5, h6⟩; exact ⟨i, h1, rfl, r, h4, h5, fun z => h6 z.symm⟩
    · rintro ⟨k, hk, rfl, r, h4, h5, h6⟩; exact ⟨⟨hk, (nxt_lt h5).1⟩, (nxt_lt h5).1, r, h4, h5, fun z => h6 z.symm⟩
  | again =>
    simp only [Bool.and_eq_true, decide_eq_true_eq]
    constructor
    · rintro ⟨⟨h1, h2⟩, h3, h4, h5⟩; exact ⟨j, h2, rfl, h4, h5⟩
    · rintro ⟨k, hk, rfl, h4, h5⟩; exact ⟨⟨by have := (lw_lt h5).1; omega, hk⟩, hk, h4, h5⟩
  | place =>
    simp only [Bool.and_eq_true, decide_eq_true_eq]
    constructor
    · rintro ⟨⟨h1, h2⟩, h3, h4, h5⟩; exact ⟨j, h2, rfl, h4, h5⟩
    · rintro ⟨k, hk, rfl, h4, h5⟩; exact ⟨⟨by omega, hk⟩, hk, h4, h5⟩
  | tell =>
    simp only [Bool.and_eq_true, decide_eq_true_eq]
    constructor
    · rintro ⟨⟨h1, h2⟩, h3, h4, h5⟩; exact ⟨j, h2, rfl, h4, h5⟩
    · rintro ⟨k, hk, rfl, h4, h5⟩; exact ⟨⟨by have := lastTell_lt h5; omega, hk⟩, hk, h4, h5⟩
  | last =>
    simp only [Bool.and_eq_true, decide_eq_true_eq]
    constructor
    · rintro ⟨⟨h1, h2⟩, h3, h4, h5⟩; exact ⟨j, h2, rfl, h4, h5⟩
    · rintro ⟨k, hk, rfl, h4, h5⟩; exact ⟨⟨by omega, hk⟩, hk, h4, h5⟩
theorem dep_bd {b : Blk} {p : Pr} (h : p ∈ dep b) : p.1 < b.length ∧ p.2.1 < b.length := mem_univ.mp (List.mem_filter.mp h).1
theorem dep_len {b : Blk} (h : b.length ≤ 24) : (dep b).length ≤ 3456 := by
  have := List.Nodup.length_le_of_subset (lt_nodup (dep_sorted b)) (l₂ := univ 24) (fun p hp => mem_univ.mpr (by have := dep_bd hp; omega))
  rw [univ_len] at this
  exact this
/-- found's dict while depends goes on: at f; writers at W -/
structure Dh (b : Blk) (h : Hd) (f W : Addr) (qs : List Addr) (h' : Hd) (M : Pr → Prop) : Prop where
  sub : SubH h h'
  f0 : h f = none
  w0 : h W = none
  ne : W ≠ f
  kv : ∃ kvs, h' f = some (.dT kvs) ∧ St kvs M
  w : h' W = some (.lst (qs.map .ref))
  len : qs.length = b.length
  lw : ∀ j q, qs[j]? = some q → q ≠ f ∧ ∃ kvs, h' q = some (.dK kvs) ∧ ∀ r : Nat, look kvs (.inl (r : Int)) = (lw b j r).map nD
section
variable {b : Blk} {h h' : Hd} {f W p : Addr} {qs : List Addr} {M : Pr → Prop}
theorem Dh.new (d : Dh b h f W qs h' M) (n : h' p = none) (c : Cl) : Dh b h f W qs (hup h' p c) M where
  sub := d.sub.new n
  f0 := d.f0
  w0 := d.w0
  ne := d.ne
  kv := by obtain ⟨kvs, a, s⟩ := d.kv; exact ⟨kvs, hup_of (new_ne n a) a, s⟩
  w := hup_of (new_ne n d.w) d.w
  len := d.len
  lw := fun j q e => by
    obtain ⟨a, kvs, s, t⟩ := d.lw j q e
    exact ⟨a, kvs, hup_of (new_ne n s) s, t⟩
theorem Dh.set (d : Dh b h f W qs h' M) {kvs : List (List Ky × D)} {M' : Pr → Prop} (s : St kvs M') : Dh b h f W qs (hup h' f (.dT kvs)) M' where
  sub := fun a c e => by
    have : a ≠ f := fun z => by rw [z, d.f0] at e; cases e
    rw [hup_ne this]; exact d.sub a c e
  f0 := d.f0
  w0 := d.w0
  ne := d.ne
  kv := ⟨kvs, hup_same, s⟩
  w := hup_of d.ne d.w
  len := d.len
  lw := fun j q e => by
    obtain ⟨a, kvs, s, t⟩ := d.lw j q e
    exact ⟨a, kvs, hup_of a s, t⟩
theorem Dh.congr {M' : Pr → Prop} (d : Dh b h f W qs h' M) (e : ∀ p, M p ↔ M' p) : Dh b h f W qs h' M' :=
  { d with kv := by obtain ⟨kvs, a, s⟩ := d.kv; exact ⟨kvs, a, s.congr e⟩ }
end
theorem range_from (n k : Nat) (P : Nat → Bool) : (List.range n).filter (fun j => decide (k ≤ j) && P j) = ((List.range (n - k)).filter fun m => P (k + m)).map (k + ·) := by
  by_cases c : k ≤ n
  · have e : n = k + (n - k) := by omega
    rw [e, List.range_add, List.filter_append, List.filter_map]
    have e1 : (List.range k).filter (fun j => decide (k ≤ j) && P j) = [] := by
      rw [List.filter_eq_nil_iff]
      intro a ha
      rw [List.mem_range] at ha
      have : ¬ k ≤ a := by omega
      simp [this]
    rw [e1, List.nil_append]
    have e2 : k + (n - k) - k = n - k := by omega
    rw [e2]
    congr 1
    apply List.filter_congr
    intro m _
    simp
  · have e2 : n - k = 0 := by omega
    rw [e2]
    rw [show (List.range 0) = [] from rfl]
    rw [List.filter_eq_nil_iff.mpr]
    · rfl
    · intro a ha
      rw [List.mem_range] at ha
      have : ¬ k ≤ a := by omega
      simp [this]
def js (b : Blk) (k r : Nat) : List Nat := (List.range b.length).filter fun j => decide (k ≤ j ∧ (at! b j).wr = r)
theorem nxt_js (b : Blk) (k r : Nat) : nxt b k r = (js b k r).head? := rfl
theorem js_from (b : Blk) (k r : Nat) : (((List.range (b.length - k)).filter fun m => decide ((at! b (k + m)).wr = r)).map fun m => nD (k + m)) = (js b k r).map nD := by
  have := range_from b.length k (fun j => decide ((at! b j).wr = r))
  unfold js
  rw [show (fun j => decide (k ≤ j ∧ (at! b j).wr = r)) = (fun j => decide (k ≤ j) && decide ((at! b j).wr = r)) from by funext j; simp [Bool.decide_and]]
  rw [this, List.map_map]
  rfl
theorem js_ge {b : Blk} {k r j : Nat} (h : j ∈ js b k r) : k ≤ j ∧ j < b.length := by
  unfold js at h
  rw [List.mem_filter, List.mem_range] at h
  exact ⟨(of_decide_eq_true h.2).1, h.1⟩
theorem js_sorted (b : Blk) (k r : Nat) : (js b k r).Pairwise (· < ·) := List.pairwise_lt_range.sublist List.filter_sublist
/-- later, as it is told -/
def later (b : Blk) (k r : Nat) : List Nat := if k ∈ js b k r then [] else ((js b k r).filter fun j => decide (k < j)).take 1
theorem later_ok (b : Blk) (k r j : Nat) : j ∈ later b k r ↔ nxt b k r = some j ∧ j ≠ k := by
  unfold later
  rw [nxt_js]
  by_cases c : k ∈ js b k r
  · rw [if_pos c]
    have s := js_sorted b k r
    have g : ∀ j ∈ js b k r, k ≤ j := fun j hj => (js_ge hj).1
    revert c s g
    generalize js b k r = l
    intro c s g
    cases l with
    | nil => cases c
    | cons a l =>
      rw [List.pairwise_cons] at s
      have : a = k := by
        rcases List.mem_cons.mp c with e | e
        · exact e.symm
        · have := s.1 k e
          have := g a (List.mem_cons_self ..)
          omega
      subst this
      simp
      exact fun z => z.symm
  · rw [if_neg c]
    have : (js b k r).filter (fun j => decide (k < j)) = js b k r := by
      rw [List.filter_eq_self]
      intro a ha
      have := (js_ge ha).1
      have : a ≠ k := fun z => c (z ▸ ha)
      exact decide_eq_true (by omega)
    rw [this]
    have g : k ∉ js b k r := c
    revert g
    generalize js b k r = l
    intro g
    cases l with
    | nil => simp
    | cons a l =>
      simp
      have : a ≠ k := fun z => g (z ▸ List.mem_cons_self ..)
      constructor
      · rintro rfl; exact ⟨rfl, this⟩
      · exact fun z => z.1.symm
theorem later_len (b : Blk) (k r : Nat) : (later b k r).length ≤ 1 := by
  unfold later
  split
  · simp
  · simp; omega
theorem dec_num (a b : Nat) : decide (Fl.num (a : Int) = Fl.num (b : Int)) = decide (a = b) := by
  rw [Bool.eq_iff_iff]
  simp only [decide_eq_true_eq, Fl.num.injEq]
  omega
theorem dec_lt (a b : Nat) : decide ((a : Int) < (b : Int)) = decide (a < b) := by
  rw [Bool.eq_iff_iff]
  simp only [decide_eq_true_eq]
  omega
theorem cut_one (xs : List D) : cut xs none (some 1) = xs.take 1 := by
  unfold cut
  cases xs with
  | nil => rfl
  | cons a l =>
    have : (min (1 : Int) ((l.length : Int) + 1)).toNat = 1 := by omega
    simp [this]
/-- putting new keys, one behind the other -/
theorem put_all {α κ : Type} [DecidableEq κ] (fk : α → κ) (v : α → D) : ∀ (xs : List α) (acc : List (κ × D)), (xs.map fk).Nodup → (∀ x ∈ xs, fk x ∉ acc.map (·.1)) → (xs.foldl (fun acc a => putD acc (fk a) (v a)) acc).map (·.1) = acc.map (·.1) ++ xs.map fk
  | [], acc, _, _ => by simp
  | x :: xs, acc, nd, na => by
    rw [List.map_cons, List.nodup_cons] at nd
    rw [List.foldl_cons, put_all fk v xs _ nd.2, put_keys, if_neg (na x (List.mem_cons_self ..))]
    · simp
    · intro y hy
      rw [put_keys, if_neg (na x (List.mem_cons_self ..)), List.mem_append]
      rintro (z | z)
      · exact na y (List.mem_cons_of_mem _ hy) z
      · simp at z
        exact nd.1 (z ▸ List.mem_map_of_mem hy)
theorem nodup_short {α : Type} {xs : List α} (h : xs.length ≤ 1) : xs.Nodup := by
  match xs, h with
  | [], _ => exact List.nodup_nil
  | [a], _ => simp
theorem atD_last {xs : List D} {d : D} (e : xs.getLast? = some d) : atD xs (-1) = some d := by
  unfold atD
  rw [if_neg (by decide)]
  cases xs with
  | nil => cases e
  | cons a l =>
    rw [if_pos (by simp; omega)]
    rw [List.getLast?_eq_getElem?] at e
    rw [← e]
    congr 1
    simp; omega
theorem fl1s_nat (h : Hd) : ∀ xs : List Nat, fl1s h (xs.map nD) = some (xs.map fun (j : Nat) => Fl.num (j : Int))
  | [] => rfl
  | x :: xs => by
    show (match fl1 h (nD x), fl1s h (xs.map nD) with
      | some y, some ys => some (y :: ys)
      | _, _ => none) = _
    rw [fl1s_nat h xs]
    rfl
theorem inL_nat (k : Nat) (xs : List Nat) : inL (.num (k : Int)) (xs.map fun (j : Nat) => Fl.num (j : Int)) = decide (k ∈ xs) := by
  unfold inL
  induction xs with
  | nil => simp
  | cons a l ih =>
    rw [List.map_cons, List.any_cons, ih]
    by_cases c : a = k
    · subst c; simp
    · have : ¬ (a : Int) = k := by omega
      have c' : ¬ k = a := fun z => c z.symm
      simp [this, c']
end K40
end

section
set_option Elab.async false
set_option linter.all false
set_option maxRecDepth 100000
set_option maxHeartbeats 4000000
/-! K40q: dicts that are made by one walk; orders. -/
namespace K40
open PySem (Str Addr)
open AR
theorem look_putG {κ : Type} [DecidableEq κ] (kvs : List (κ × D)) (k j : κ) (v : D) : look (putD kvs k v) j = if j = k then some v else look kvs j := by
  unfold putD
  by_cases c : kvs.any (fun kv => decide (kv.1 = k)) = true
  · rw [if_pos c]
    have same : ∀ r : List (κ × D), j ≠ k → (r.map fun kv => if kv.1 = k then (kv.1, v) else kv).find? (fun kv => decide (kv.1 = j)) = r.find? (fun kv => decide (kv.1 = j)) := by
      intro r e
      induction r with
      | nil => rfl
      | cons b r ih =>
        rw [List.map_cons, List.find?_cons, List.find?_cons, ih]
        by_cases f : b.1 = k
        · have q : ¬ (k = j) := fun z => e z.symm
          rw [if_pos f]; simp only [f, q, decide_false]
        · rw [if_neg f]
    by_cases e : j = k
    · subst e
      rw [if_pos rfl]
      induction kvs with
      | nil => simp at c
      | cons a r ih =>
        unfold look
        rw [List.map_cons, List.find?_cons]
        by_cases d : a.1 = j
        · rw [if_pos d]; simp [d]
        · rw [if_neg d]
          simp only [d, decide_false]
          exact ih (by simpa [d] using c)
    · rw [if_neg e]
      unfold look
      rw [same kvs e]
  · rw [if_neg c]
    unfold look
    rw [List.find?_append]
    by_cases e : j = k
    · subst e
      rw [if_pos rfl]
      have : kvs.find? (fun kv => decide (kv.1 = j)) = none := by
        rw [List.find?_eq_none]
        intro x hx z
        exact c (List.any_eq_true.mpr ⟨x, hx, z⟩)
      rw [this]
      simp
    · rw [if_neg e]
      have q : ¬ (k = j) := fun z => e z.symm
      simp [q]
/-- the last one wins -/
theorem look_fold {α κ : Type} [DecidableEq κ] (fk : α → κ) (v : α → D) (k : κ) : ∀ (xs : List α) (acc : List (κ × D)), look (xs.foldl (fun acc a => putD acc (fk a) (v a)) acc) k = ((xs.filter fun a => decide (fk a = k)).getLast?.map v).or (look acc k)
  | [], acc => by simp
  | x :: xs, acc => by
    rw [List.foldl_cons, look_fold fk v k xs, look_putG, List.filter_cons]
    by_cases c : fk x = k
    · rw [if_pos c.symm, if_pos (decide_eq_true c), List.getLast?_cons]
      cases (xs.filter fun a => decide (fk a = k)).getLast? <;> rfl
    · rw [if_neg (fun z => c z.symm), if_neg (by simpa using c)]
theorem fold_len {α κ : Type} [DecidableEq κ] (fk : α → κ) (v : α → D) : ∀ (xs : List α) (acc : List (κ × D)), (xs.foldl (fun acc a => putD acc (fk a) (v a)) acc).length ≤ acc.length + xs.length
  | [], acc => by simp
  | x :: xs, acc => by
    have h1 := fold_len fk v xs (putD acc (fk x) (v x))
    have h2 : (putD acc (fk x) (v x)).length ≤ acc.length + 1 := by unfold putD; split <;> simp
    rw [List.foldl_cons, List.length_cons]
    omega
theorem enum_map {α : Type} (enc : α → D) (xs : List α) : (((List.range (xs.map enc).length).zip (xs.map enc)).map fun p => D.tup [.int p.1, p.2]) = ((List.range xs.length).zip xs).map fun p => .tup [nD p.1, enc p.2] := by
  rw [List.length_map, List.zip_map_right, List.map_map]
  rfl
theorem zip_range {b : Blk} : (List.range b.length).zip b = (List.range b.length).map fun k => (k, at! b k) := by
  apply List.ext_getElem
  · simp
  · intro i h1 h2
    simp
    have : i < b.length := by simpa using h2
    have := get_at this
    rw [List.getElem?_eq_getElem (by assumption)] at this
    exact Option.some.inj this
theorem lw_look (b : Blk) (r : Nat) : look ((((List.range b.length).zip b).filter fun p => decide (p.2.wr ≠ 0)).foldl (fun acc p => putD acc (Sum.inl (p.2.wr : Int) : Ky) (nD p.1)) []) (.inl (r : Int)) = (lw b b.length r).map nD := by
  rw [look_fold (fun (p : Nat × Op) => (Sum.inl (p.2.wr : Int) : Ky)) (fun p => nD p.1), zip_range, List.filter_filter, List.filter_map, List.getLast?_map]
  have e : (List.range b.length).filter ((fun (p : Nat × Op) => decide ((Sum.inl (p.2.wr : Int) : Ky) = .inl (r : Int)) && decide (p.2.wr ≠ 0)) ∘ fun k => (k, at! b k)) = (List.range b.length).filter fun k => decide ((b[k]?.map Op.wr).getD 0 = r ∧ r ≠ 0) := by
    apply List.filter_congr
    intro k hk
    rw [List.mem_range] at hk
    rw [get_at hk]
    simp only [Function.comp]
    rw [Bool.eq_iff_iff]
    simp only [Bool.and_eq_true, decide_eq_true_eq, Sum.inl.injEq, Option.map_some, Option.getD_some]
    constructor
    · rintro ⟨h1, h2⟩; exact ⟨by omega, by omega⟩
    · rintro ⟨h1, h2⟩; exact ⟨by omega, by omega⟩
  rw [e]
  unfold lw
  cases ((List.range b.length).filter fun k => decide ((b[k]?.map Op.wr).getD 0 = r ∧ r ≠ 0)).getLast? <;> rfl
theorem place_look {xs : List Nat} (nd : xs.Nodup) {x : Nat} (h : x ∈ xs) : look (((List.range xs.length).zip xs).foldl (fun acc p => putD acc (Sum.inl (p.2 : Int) : Ky) (nD p.1)) []) (.inl (x : Int)) = some (nD (xs.idxOf x)) := by
  rw [look_fold (fun (p : Nat × Nat) => (Sum.inl (p.2 : Int) : Ky)) (fun p => nD p.1)]
  have e : ((List.range xs.length).zip xs).filter (fun (p : Nat × Nat) => decide ((Sum.inl (p.2 : Int) : Ky) = .inl (x : Int))) = [(xs.idxOf x, x)] := by
    have key : ∀ (xs : List Nat) (k : Nat), xs.Nodup → x ∈ xs → ((List.range' k xs.length).zip xs).filter (fun (p : Nat × Nat) => decide ((Sum.inl (p.2 : Int) : Ky) = .inl (x : Int))) = [(k + xs.idxOf x, x)] := by
      intro xs
      induction xs with
      | nil => intro k _ h; cases h
      | cons a l ih =>
        intro k nd h
        rw [List.nodup_cons] at nd
        rw [List.length_cons, List.range'_succ, List.zip_cons_cons, List.filter_cons]
        by_cases c : a = x
        · subst c
          rw [if_pos (by simp)]
          have : ((List.range' (k + 1) l.length).zip l).filter (fun (p : Nat × Nat) => decide ((Sum.inl (p.2 : Int) : Ky) = .inl (a : Int))) = [] := by
            rw [List.filter_eq_nil_iff]
            intro p hp z
            have z := of_decide_eq_true z
            simp only [Sum.inl.injEq] at z
            have : p.2 = a := by omega
            exact nd.1 (this ▸ (List.of_mem_zip hp).2)
          rw [this]
          simp
        · have hx : x ∈ l := (List.mem_cons.mp h).resolve_left (fun z => c z.symm)
          rw [if_neg (by simp; omega)]
          rw [ih (k + 1) nd.2 hx, List.idxOf_cons]
          have : (a == x) = false := by simpa using c
          simp [this]; omega
    have := key xs 0 nd h
    rw [List.range_eq_range', this]
    simp
  rw [e]
  rfl
theorem look_some {κ : Type} [DecidableEq κ] (kvs : List (κ × D)) (k : κ) : (look kvs k).isSome = decide (k ∈ kvs.map (·.1)) := by
  unfold look
  rw [Option.isSome_map, Bool.eq_iff_iff, List.find?_isSome, decide_eq_true_eq, List.mem_map]
  constructor
  · rintro ⟨x, h1, h2⟩; exact ⟨x, h1, of_decide_eq_true h2⟩
  · rintro ⟨x, h1, h2⟩; exact ⟨x, h1, decide_eq_true h2⟩
/-! ### sorted numbers -/
theorem fl1s_int (h : Hd) : ∀ xs : List Int, fl1s h (xs.map D.int) = some (xs.map Fl.num)
  | [] => rfl
  | x :: xs => by
    show (match fl1 h (.int x), fl1s h (xs.map D.int) with
      | some y, some ys => some (y :: ys)
      | _, _ => none) = _
    rw [fl1s_int h xs]
    rfl
theorem map_num_inj {xs ys : List Int} (h : xs.map Fl.num = ys.map Fl.num) : xs = ys := by
  induction xs generalizing ys with
  | nil => cases ys with
    | nil => rfl
    | cons => cases h
  | cons a l ih => cases ys with
    | nil => cases h
    | cons b l' =>
      injection h with h1 h2
      injection h1 with h1
      rw [h1, ih h2]
theorem cast_back (xs : List Nat) : (xs.map fun (k : Nat) => (k : Int)).map Int.toNat = xs := by
  rw [List.map_map]
  exact List.map_id'' (fun x => by simp) xs
theorem sorted_range {xs : List Nat} {n : Nat} {js : List Int} (p : js.Perm (xs.map fun (k : Nat) => (k : Int))) (s : js.Pairwise (· ≤ ·)) : decide (Fl.lst (js.map Fl.num) = Fl.lst (((List.range n).map fun (k : Nat) => (k : Int)).map Fl.num)) = decide (xs.Perm (List.range n)) := by
  rw [Bool.eq_iff_iff]
  simp only [decide_eq_true_eq, Fl.lst.injEq]
  constructor
  · intro h
    have h := map_num_inj h
    subst h
    have := p.map Int.toNat
    rw [cast_back, cast_back] at this
    exact this.symm
  · intro h
    have p2 := p.trans (h.map fun (k : Nat) => (k : Int))
    rw [List.Perm.eq_of_pairwise (le := (· ≤ ·)) (fun a b _ _ h1 h2 => by omega) s ?_ p2]
    rw [List.pairwise_map]
    exact List.Pairwise.imp (fun {a b} h => by omega) List.pairwise_lt_range
theorem in_true (w : Pw) : inL (.str w.s) [.str "value", .str "place", .str "tell", .str "last"] = w.true := by cases w <;> rfl
end K40
end

section
set_option Elab.async false
set_option linter.all false
set_option maxRecDepth 100000
set_option maxHeartbeats 4000000
/-! K40r: what runs keep. -/
namespace K40
open PySem (Str Addr)
open AR
variable {bt : Bits}
theorem wk_word (hb : BitsOk bt) {w : Wk} {x y z : Int} (wx : wordI x) (wy : wordI y) (e : wkF bt w x y = some z) : wordI z := by
  have m : ∀ v : Int, wordI (v % 65536) := fun v => ⟨Int.emod_nonneg _ (by decide), Int.emod_lt_of_pos _ (by decide)⟩
  cases w with
  | add => cases e; exact m _
  | sub => cases e; exact m _
  | mul => cases e; exact m _
  | and => cases e; exact hb.and x y wx wy
  | or => cases e; exact hb.or x y wx wy
  | xor => cases e; exact hb.xw x y wx wy
  | under =>
    cases e
    by_cases c : sg x < sg y
    · rw [if_pos c]; exact ⟨by decide, by decide⟩
    · rw [if_neg c]; exact ⟨by decide, by decide⟩
  | div =>
    have e : (if y = 0 then none else some (x / y)) = some z := e
    by_cases c : y = 0
    · rw [if_pos c] at e; cases e
    · rw [if_neg c] at e; cases e
      have := wy.1
      refine ⟨Int.ediv_nonneg wx.1 wy.1, ?_⟩
      have := Int.ediv_le_self (b := y) (a := x) wx.1
      have := wx.2
      omega
  | rem =>
    have e : (if y = 0 then none else some (x % y)) = some z := e
    by_cases c : y = 0
    · rw [if_pos c] at e; cases e
    · rw [if_neg c] at e; cases e
      have h1 := Int.emod_nonneg x c
      have h2 := Int.emod_lt_of_pos x (show 0 < y by have := wy.1; omega)
      have := wy.2
      exact ⟨h1, by omega⟩
theorem word_get {l : List Int} (h : wordsI l) (k : Nat) : wordI (l.getD k 0) := by
  rw [List.getD_eq_getElem?_getD]
  cases e : l[k]? with
  | none => exact ⟨by decide, by decide⟩
  | some x => exact h x (List.mem_of_getElem? e)
theorem word_set {l : List Int} (h : wordsI l) (k : Nat) {x : Int} (hx : wordI x) : wordsI (l.set k x) := fun y hy => by
  rcases List.mem_or_eq_of_mem_set hy with z | z
  · exact h y z
  · rw [z]; exact hx
structure ActOk (o : Op) (m : Mx) (mk : Option Int) (m' : Mx) : Prop where
  made : ∀ z, mk = some z → wordI z
  mem : wordsI m'.mem
  len : m'.mem.length = m.mem.length
  told : wordsI m'.told
  tl : m'.told.length ≤ m.told.length + 1
  wr : o.wr ≠ 0 → ∃ z, mk = some z
theorem act_ok (hb : BitsOk bt) {o : Op} {k : Nat} {ws : List Int} {m m' : Mx} {mk : Option Int} {go : Option Gt} (ho : o.ok) (hk : k < 60) (wi : wordsI ws) (mi : wordsI m.mem) (ti : wordsI m.told) (wl : ws.length = o.rdf.length) (e : act bt o k ws m = some (mk, go, m')) : ActOk o m mk m' := by
  cases o with
  | work w d a b =>
    match ws, wl, wi with
    | [x, y], _, wi =>
      have w1 := wi x (by simp)
      have w2 := wi y (by simp)
      unfold act at e
      dsimp only at e
      cases ew : wkF bt w x y with
      | none => rw [ew] at e; cases e
      | some z =>
        rw [ew] at e; cases e
        exact ⟨fun z' h => by cases h; exact wk_word hb w1 w2 ew, mi, rfl, ti, by omega, fun _ => ⟨z, rfl⟩⟩
  | load d a n =>
    match ws, wl, wi with
    | [x], _, wi =>
      unfold act at e
      dsimp only at e
      by_cases c : ((x + n) % 65536) < m.mem.length
      · rw [if_pos c] at e; cases e
        exact ⟨fun z' h => by cases h; exact word_get mi _, mi, rfl, ti, by omega, fun _ => ⟨_, rfl⟩⟩
      · rw [if_neg c] at e; cases e
  | store a n s =>
    match ws, wl, wi with
    | [x, y], _, wi =>
      unfold act at e
      dsimp only at e
      by_cases c : ((x + n) % 65536) < m.mem.length
      · rw [if_pos c] at e; cases e
        exact ⟨fun z' h => (nomatch h), word_set mi _ (wi y (by simp)), by simp, ti, by simp, fun h => absurd rfl h⟩
      · rw [if_neg c] at e; cases e
  | tell a =>
    match ws, wl, wi with
    | [x], _, wi =>
      cases e
      refine ⟨fun z' h => (nomatch h), mi, rfl, fun y hy => ?_, by simp, fun h => absurd rfl h⟩
      rcases List.mem_append.mp hy with z | z
      · exact ti y z
      · simp at z; subst z; exact wi y (by simp)
  | set d n =>
    match ws, wl with
    | [], _ =>
      cases e
      have : n < 65536 := ho.2
      exact ⟨fun z' h => by cases h; exact ⟨by omega, by omega⟩, mi, rfl, ti, by omega, fun _ => ⟨_, rfl⟩⟩
  | jump t =>
    match ws, wl with
    | [], _ => cases e; exact ⟨fun z' h => (nomatch h), mi, rfl, ti, by omega, fun h => absurd rfl h⟩
  | link d t =>
    match ws, wl with
    | [], _ => cases e; exact ⟨fun z' h => by cases h; exact ⟨by omega, by omega⟩, mi, rfl, ti, by omega, fun _ => ⟨_, rfl⟩⟩
  | stop =>
    match ws, wl with
    | [], _ => cases e; exact ⟨fun z' h => (nomatch h), mi, rfl, ti, by omega, fun h => absurd rfl h⟩
  | br c a b t =>
    match ws, wl with
    | [x, y], _ => cases e; exact ⟨fun z' h => (nomatch h), mi, rfl, ti, by omega, fun h => absurd rfl h⟩
  | back a =>
    match ws, wl with
    | [x], _ =>
      unfold act at e
      dsimp only at e
      by_cases c : x < 60
      · rw [if_pos c] at e; cases e; exact ⟨fun z' h => (nomatch h), mi, rfl, ti, by omega, fun h => absurd rfl h⟩
      · rw [if_neg c] at e; cases e
theorem mem_srt {l : List Nat} (hl : l.length ≤ 2) {r : Nat} : r ∈ srt l ↔ r ∈ l ∧ r ≠ 0 := by
  match l, hl with
  | [], _ => simp [srt]
  | [a], _ =>
    unfold srt
    dsimp only
    by_cases c : a = 0
    · rw [if_pos c]; subst c; simp
    · rw [if_neg c]
      simp only [List.mem_cons, List.not_mem_nil, or_false]
      constructor
      · rintro rfl; exact ⟨rfl, c⟩
      · exact fun z => z.1
  | [a, b], _ =>
    unfold srt
    dsimp only
    simp only [List.mem_cons, List.not_mem_nil, or_false]
    by_cases c : a = 0
    · rw [if_pos c]
      by_cases d : b = 0
      · rw [if_pos d]; simp; omega
      · rw [if_neg d]; simp; omega
    · rw [if_neg c]
      by_cases d : b = 0 ∨ b = a
      · rw [if_pos d]; simp; omega
      · rw [if_neg d]
        by_cases f : a < b
        · rw [if_pos f]; simp; omega
        · rw [if_neg f]; simp; omega
theorem rdf_len (o : Op) : o.rdf.length ≤ 2 := by cases o <;> simp [Op.rdf]
theorem at_ok {b : Blk} (bk : BlkOk b) {k : Nat} (h : k < b.length) : (at! b k).ok := bk.ok _ (List.mem_of_getElem? (get_at h))
theorem rdf_ok {o : Op} (h : o.ok) {r : Nat} (hr : r ∈ o.rdf) : r < 8 := by
  cases o <;> simp [Op.rdf] at hr <;> simp [Op.ok] at h <;> omega
/-- what a value is read from comes ahead of it -/
theorem value_pair {b : Blk} {k r i : Nat} (h : k < b.length) (hr : r ∈ (at! b k).rdf) (e : lw b k r = some i) : (i, k, Pw.value) ∈ tru b := by
  unfold tru
  rw [List.mem_filter]
  refine ⟨mem_dep.mpr ⟨k, h, rfl, r, (mem_srt (rdf_len _)).mpr ⟨hr, (lw_lt e).2.2⟩, e⟩, rfl⟩
theorem isTO_perm {b : Blk} {xs : List Nat} (h : isTO b xs = true) : xs.Perm (List.range b.length) := by
  unfold isTO at h
  rw [Bool.and_eq_true] at h
  exact of_decide_eq_true h.1
theorem isTO_pair {b : Blk} {xs : List Nat} (h : isTO b xs = true) {p : Pr} (hp : p ∈ tru b) : xs.idxOf p.1 < xs.idxOf p.2.1 := by
  unfold isTO keepsB at h
  rw [Bool.and_eq_true] at h
  exact of_decide_eq_true (List.all_eq_true.mp h.2 p hp)
theorem idx_at {xs : List Nat} (nd : xs.Nodup) {k x : Nat} (e : xs[k]? = some x) : xs.idxOf x = k := by
  have hk : k < xs.length := by
    by_cases z : k < xs.length
    · exact z
    · rw [List.getElem?_eq_none (by omega)] at e; cases e
  rw [List.getElem?_eq_getElem hk] at e
  cases e
  have h1 : xs.idxOf xs[k] < xs.length := List.idxOf_lt_length_of_mem (List.getElem_mem hk)
  have h2 : xs[xs.idxOf xs[k]] = xs[k] := List.getElem_idxOf h1
  exact (List.getElem_inj nd).mp h2
theorem mem_take {xs : List Nat} {k x : Nat} (hx : x ∈ xs) (h : xs.idxOf x < k) : x ∈ xs.take k := by
  rw [List.mem_take_iff_getElem]
  have h1 : xs.idxOf x < xs.length := List.idxOf_lt_length_of_mem hx
  exact ⟨xs.idxOf x, by omega, List.getElem_idxOf h1⟩
theorem runs_take {b : Blk} {rs : List Int} {s0 s : Hs} {xs : List Nat} {k x : Nat} (e : xs[k]? = some x) (r : runs bt b rs s0 (xs.take k) = some s) : runs bt b rs s0 (xs.take (k + 1)) = stp bt b rs s x := by
  unfold runs at *
  rw [List.take_add_one, e, List.foldlM_append, r]
  show (List.foldlM (stp bt b rs) s [x]) = _
  rw [List.foldlM_cons]
  cases stp bt b rs s x <;> rfl
theorem runs_none {b : Blk} {rs : List Int} {s0 : Hs} {xs : List Nat} {k : Nat} (r : runs bt b rs s0 (xs.take k) = none) : runs bt b rs s0 xs = none := by
  unfold runs at *
  rw [← List.take_append_drop k xs, List.foldlM_append, r]
  rfl
theorem runs_all {b : Blk} {rs : List Int} {s0 : Hs} {xs : List Nat} : runs bt b rs s0 (xs.take xs.length) = runs bt b rs s0 xs := by rw [List.take_length]
end K40
end

section
set_option Elab.async false
set_option linter.all false
set_option maxRecDepth 100000
set_option maxHeartbeats 4000000
/-! K40x: the mathematics: orders that keep what stays do the same. -/
namespace K40
open PySem (Str Addr)
open AR
variable {bt : Bits}
/-! ### what an instruction does, as an effect -/
inductive Eff where
  | fail | pure (z : Int) | tell (x : Int) | load (sp : Int) | store (sp y : Int)
def Eff.run (m : Mx) : Eff → Option (Option Int × Option Gt × Mx)
  | .fail => none
  | .pure z => some (some z, none, m)
  | .tell x => some (none, none, { m with told := m.told ++ [x] })
  | .load sp => if sp < m.mem.length then some (some (m.mem.getD sp.toNat 0), none, m) else none
  | .store sp y => if sp < m.mem.length then some (none, none, { m with mem := m.mem.set sp.toNat y }) else none
def effOf (bt : Bits) (o : Op) (ws : List Int) : Eff := match o, ws with
  | .work w _ _ _, [x, y] => match wkF bt w x y with
    | some z => .pure z
    | none => .fail
  | .load _ _ n, [x] => .load ((x + n) % 65536)
  | .store _ n _, [x, y] => .store ((x + n) % 65536) y
  | .tell _, [x] => .tell x
  | .set _ n, [] => .pure n
  | _, _ => .fail
theorem act_eff {o : Op} {k : Nat} {ws : List Int} {m : Mx} (h : o.xfer = false) (wl : ws.length = o.rdf.length) : act bt o k ws m = (effOf bt o ws).run m := by
  cases o with
  | work w d a b =>
    match ws, wl with
    | [x, y], _ =>
      unfold act effOf
      dsimp only
      cases wkF bt w x y <;> rfl
  | load d a n =>
    match ws, wl with
    | [x], _ => rfl
  | store a n s =>
    match ws, wl with
    | [x, y], _ => rfl
  | tell a =>
    match ws, wl with
    | [x], _ => rfl
  | set d n =>
    match ws, wl with
    | [], _ => rfl
  | _ => cases h
/-- two effects that may be done either way -/
def Eff.free : Eff → Eff → Prop
  | .tell _, .tell _ => False
  | .load a, .store b _ => a.toNat ≠ b.toNat
  | .store a _, .load b => a.toNat ≠ b.toNat
  | .store a _, .store b _ => a.toNat ≠ b.toNat
  | _, _ => True
/-- both, what they made and the memory -/
def both (e f : Eff) (m : Mx) : Option (Option Int × Option Int × Mx) := match e.run m with
  | none => none
  | some (x, _, m1) => match f.run m1 with
    | none => none
    | some (y, _, m2) => some (x, y, m2)
theorem getD_set_ne {l : List Int} {i j : Nat} {x : Int} (h : i ≠ j) : (l.set i x).getD j 0 = l.getD j 0 := by
  rw [List.getD_eq_getElem?_getD, List.getElem?_set_ne h, ← List.getD_eq_getElem?_getD]
theorem eff_comm {e f : Eff} (h : Eff.free e f) (m : Mx) : both e f m = (both f e m).map fun r => (r.2.1, r.1, r.2.2) := by
  cases e with
  | fail =>
    cases f with
    | load b => simp only [both, Eff.run]; split <;> first | rfl | (split <;> rfl) | simp_all
    | store b y => simp only [both, Eff.run]; split <;> first | rfl | (split <;> rfl) | simp_all
    | _ => rfl
  | pure z =>
    cases f with
    | load b => simp only [both, Eff.run]; by_cases c : b < m.mem.length <;> simp [c]
    | store b y => simp only [both, Eff.run]; by_cases c : b < m.mem.length <;> simp [c]
    | _ => rfl
  | tell x =>
    cases f with
    | tell y => exact h.elim
    | load b => simp only [both, Eff.run]; by_cases c : b < m.mem.length <;> simp [c]
    | store b y => simp only [both, Eff.run]; by_cases c : b < m.mem.length <;> simp [c]
    | _ => rfl
  | load a =>
    cases f with
    | fail => simp only [both, Eff.run]; by_cases c : a < m.mem.length <;> simp [c]
    | pure z => simp only [both, Eff.run]; by_cases c : a < m.mem.length <;> simp [c]
    | tell y => simp only [both, Eff.run]; by_cases c : a < m.mem.length <;> simp [c]
    | load b => simp only [both, Eff.run]; by_cases c : a < m.mem.length <;> by_cases d : b < m.mem.length <;> simp [c, d]
    | store b y =>
      have h : a.toNat ≠ b.toNat := h
      simp only [both, Eff.run]
      by_cases c : a < m.mem.length <;> by_cases d : b < m.mem.length <;> simp [c, d]
      rw [List.getElem?_set_ne (Ne.symm h)]
  | store a x =>
    cases f with
    | fail => simp only [both, Eff.run]; by_cases c : a < m.mem.length <;> simp [c]
    | pure z => simp only [both, Eff.run]; by_cases c : a < m.mem.length <;> simp [c]
    | tell y => simp only [both, Eff.run]; by_cases c : a < m.mem.length <;> simp [c]
    | load b =>
      have h : a.toNat ≠ b.toNat := h
      simp only [both, Eff.run]
      by_cases c : a < m.mem.length <;> by_cases d : b < m.mem.length <;> simp [c, d]
      rw [List.getElem?_set_ne h]
    | store b y =>
      have h : a.toNat ≠ b.toNat := h
      simp only [both, Eff.run]
      by_cases c : a < m.mem.length <;> by_cases d : b < m.mem.length <;> simp [c, d]
      rw [List.set_comm _ _ h]
/-! ### two steps either way -/
def updH (b : Blk) (k : Nat) (mk : Option Int) (held : Nat → Int) : Nat → Int := if (at! b k).wr ≠ 0 then fun i => if i = k then mk.getD 0 else held i else held
theorem updH_comm {b : Blk} {a x : Nat} (h : a ≠ x) (u v : Option Int) (held : Nat → Int) : updH b a u (updH b x v held) = updH b x v (updH b a u held) := by
  unfold updH
  by_cases c : (at! b a).wr = 0 <;> by_cases d : (at! b x).wr = 0 <;> simp only [c, d, ne_eq, not_true_eq_false, not_false_eq_true, if_true, if_false]
  funext i
  by_cases e : i = a
  · subst e; simp [h]
  · simp [e]
theorem words_updH {b : Blk} {rs : List Int} {a x : Nat} {u : Option Int} {held : Nat → Int} (h : ∀ r ∈ (at! b x).rdf, lw b x r ≠ some a) : words b rs (updH b a u held) x = words b rs held x := by
  unfold words
  apply List.map_congr_left
  intro r hr
  have h := h r hr
  rw [nm_of]
  cases e : lw b x r with
  | none => rfl
  | some i =>
    show updH b a u held i = held i
    have : i ≠ a := fun z => h (by rw [e, z])
    unfold updH
    split
    · exact if_neg this
    · rfl
theorem words_len (b : Blk) (rs : List Int) (held : Nat → Int) (k : Nat) : (words b rs held k).length = (at! b k).rdf.length := by unfold words; rw [List.length_map]
theorem stp_eff {b : Blk} {rs : List Int} {s : Hs} {k : Nat} (h : (at! b k).xfer = false) : stp bt b rs s k = ((effOf bt (at! b k) (words b rs s.held k)).run s.m).map fun r => ⟨updH b k r.1 s.held, r.2.2, s.after⟩ := by
  have e : stp bt b rs s k = match act bt (at! b k) k (words b rs s.held k) s.m with
    | none => none
    | some (mk, go, m) => some ⟨updH b k mk s.held, m, go.getD s.after⟩ := rfl
  rw [e, act_eff h (words_len b rs s.held k)]
  cases effOf bt (at! b k) (words b rs s.held k) with
  | fail => rfl
  | pure z => rfl
  | tell x => rfl
  | load sp => simp only [Eff.run]; by_cases c : sp < s.m.mem.length <;> simp only [c, if_true, if_false] <;> rfl
  | store sp y => simp only [Eff.run]; by_cases c : sp < s.m.mem.length <;> simp only [c, if_true, if_false] <;> rfl
theorem stp_comm {b : Blk} {rs : List Int} {s : Hs} {a x : Nat} (ax : a < x) (ha : (at! b a).xfer = false) (hx : (at! b x).xfer = false) (hv : ∀ r ∈ (at! b x).rdf, lw b x r ≠ some a)
    (fr : Eff.free (effOf bt (at! b a) (words b rs s.held a)) (effOf bt (at! b x) (words b rs s.held x))) :
    ((stp bt b rs s a).bind fun s' => stp bt b rs s' x) = ((stp bt b rs s x).bind fun s' => stp bt b rs s' a) := by
  have hw : ∀ r ∈ (at! b a).rdf, lw b a r ≠ some x := fun r _ z => by have := (lw_lt z).1; omega
  have e1 : ((stp bt b rs s a).bind fun s' => stp bt b rs s' x) = (both (effOf bt (at! b a) (words b rs s.held a)) (effOf bt (at! b x) (words b rs s.held x)) s.m).map fun r => ⟨updH b x r.2.1 (updH b a r.1 s.held), r.2.2, s.after⟩ := by
    rw [stp_eff ha]
    unfold both
    cases (effOf bt (at! b a) (words b rs s.held a)).run s.m with
    | none => rfl
    | some r =>
      obtain ⟨u, g, m1⟩ := r
      show stp bt b rs ⟨updH b a u s.held, m1, s.after⟩ x = _
      rw [stp_eff hx]
      show ((effOf bt (at! b x) (words b rs (updH b a u s.held) x)).run m1).map _ = _
      rw [words_updH hv]
      dsimp only
      cases (effOf bt (at! b x) (words b rs s.held x)).run m1 with
      | none => rfl
      | some r => rfl
  have e2 : ((stp bt b rs s x).bind fun s' => stp bt b rs s' a) = (both (effOf bt (at! b x) (words b rs s.held x)) (effOf bt (at! b a) (words b rs s.held a)) s.m).map fun r => ⟨updH b a r.2.1 (updH b x r.1 s.held), r.2.2, s.after⟩ := by
    rw [stp_eff hx]
    unfold both
    cases (effOf bt (at! b x) (words b rs s.held x)).run s.m with
    | none => rfl
    | some r =>
      obtain ⟨u, g, m1⟩ := r
      show stp bt b rs ⟨updH b x u s.held, m1, s.after⟩ a = _
      rw [stp_eff ha]
      show ((effOf bt (at! b a) (words b rs (updH b x u s.held) a)).run m1).map _ = _
      rw [words_updH hw]
      dsimp only
      cases (effOf bt (at! b a) (words b rs s.held a)).run m1 with
      | none => rfl
      | some r => rfl
  rw [e1, e2, eff_comm fr]
  cases both (effOf bt (at! b x) (words b rs s.held x)) (effOf bt (at! b a) (words b rs s.held a)) s.m with
  | none => rfl
  | some r =>
    obtain ⟨v, u, m2⟩ := r
    show some (Hs.mk _ _ _) = some (Hs.mk _ _ _)
    rw [updH_comm (show a ≠ x by omega)]
/-- what must stay in order -/
def Conf (b : Blk) (a x : Nat) : Prop := (∃ w, (a, x, w) ∈ tru b) ∨ ((at! b a).isTell = true ∧ (at! b x).isTell = true)
theorem xfer_last {b : Blk} (bk : BlkOk b) {k : Nat} (h : k + 1 < b.length) : (at! b k).xfer = false := by
  refine bk.last _ ?_
  rw [List.dropLast_eq_take]
  have : (b.take (b.length - 1))[k]? = some (at! b k) := by rw [List.getElem?_take_of_lt (by omega)]; exact get_at (by omega)
  exact List.mem_of_getElem? this
theorem mem_tru {b : Blk} {a x : Nat} {w : Pw} (hw : w.true = true) : (a, x, w) ∈ tru b ↔ ∃ k, k < b.length ∧ inC b k (a, x, w) := by
  unfold tru
  rw [List.mem_filter, mem_dep]
  exact ⟨fun z => z.1, fun z => ⟨z, hw⟩⟩
theorem free_l {e f : Eff} (h : e = .fail ∨ ∃ z, e = .pure z) : Eff.free e f := by
  rcases h with rfl | ⟨z, rfl⟩ <;> cases f <;> trivial
theorem free_r {e f : Eff} (h : f = .fail ∨ ∃ z, f = .pure z) : Eff.free e f := by
  rcases h with rfl | ⟨z, rfl⟩ <;> cases e <;> trivial
theorem eff_triv {o : Op} {f : Nat → Int} (hx : o.xfer = false) (hm : o.mem = false) (ht : o.isTell = false) : effOf bt o (o.rdf.map f) = .fail ∨ ∃ z, effOf bt o (o.rdf.map f) = .pure z := by
  cases o with
  | work w d a b =>
    show (match wkF bt w (f a) (f b) with | some z => Eff.pure z | none => .fail) = .fail ∨ ∃ z, (match wkF bt w (f a) (f b) with | some z => Eff.pure z | none => .fail) = .pure z
    cases wkF bt w (f a) (f b) with
    | none => exact .inl rfl
    | some z => exact .inr ⟨z, rfl⟩
  | set d n => exact .inr ⟨n, rfl⟩
  | load d a n => cases hm
  | store a n s => cases hm
  | tell a => cases ht
  | _ => cases hx
theorem free_ops {o p : Op} {f g : Nat → Int} (ho : o.xfer = false) (hp : p.xfer = false) (nt : ¬ (o.isTell = true ∧ p.isTell = true)) (sp : o.mem = true → p.mem = true → ¬ (o.isLoad = true ∧ p.isLoad = true) → ((f o.spot.1 + o.spot.2) % 65536).toNat ≠ ((g p.spot.1 + p.spot.2) % 65536).toNat) :
    Eff.free (effOf bt o (o.rdf.map f)) (effOf bt p (p.rdf.map g)) := by
  by_cases c1 : o.mem = false ∧ o.isTell = false
  · exact free_l (eff_triv ho c1.1 c1.2)
  · by_cases c2 : p.mem = false ∧ p.isTell = false
    · exact free_r (eff_triv hp c2.1 c2.2)
    · cases o with
      | load d a n =>
        cases p with
        | load d' a' n' => trivial
        | store a' n' s' => exact sp rfl rfl (fun z => nomatch z.2)
        | tell a' => trivial
        | _ => exact absurd ⟨rfl, rfl⟩ c2
      | store a n s =>
        cases p with
        | load d' a' n' => exact sp rfl rfl (fun z => nomatch z.1)
        | store a' n' s' => exact sp rfl rfl (fun z => nomatch z.1)
        | tell a' => trivial
        | _ => exact absurd ⟨rfl, rfl⟩ c2
      | tell a =>
        cases p with
        | load d' a' n' => trivial
        | store a' n' s' => trivial
        | tell a' => exact absurd ⟨rfl, rfl⟩ nt
        | _ => exact absurd ⟨rfl, rfl⟩ c2
      | _ => exact absurd ⟨rfl, rfl⟩ c1
theorem conf_comm {b : Blk} (bk : BlkOk b) {rs : List Int} {s : Hs} {a x : Nat} (ax : a < x) (xl : x < b.length) (nc : ¬ Conf b a x) :
    ((stp bt b rs s a).bind fun s' => stp bt b rs s' x) = ((stp bt b rs s x).bind fun s' => stp bt b rs s' a) := by
  have nt : ∀ w, (a, x, w) ∉ tru b := fun w h => nc (.inl ⟨w, h⟩)
  have ntell : ¬ ((at! b a).isTell = true ∧ (at! b x).isTell = true) := fun h => nc (.inr h)
  have ha : (at! b a).xfer = false := xfer_last bk (by omega)
  have hx : (at! b x).xfer = false := by
    cases c : (at! b x).xfer with
    | false => rfl
    | true => exact absurd ((mem_tru (w := .last) rfl).mpr ⟨x, xl, rfl, c, ax⟩) (nt _)
  have hv : ∀ r ∈ (at! b x).rdf, lw b x r ≠ some a := fun r hr e => nt _ (value_pair xl hr e)
  have ht : touch b a x = false := by
    cases c : touch b a x with
    | false => rfl
    | true => exact absurd ((mem_tru (w := .place) rfl).mpr ⟨x, xl, rfl, ax, c⟩) (nt _)
  refine stp_comm ax ha hx hv ?_
  -- places differ
  have spots : (at! b a).mem = true → (at! b x).mem = true → ¬ ((at! b a).isLoad = true ∧ (at! b x).isLoad = true) → ∀ wa : Int, wa = val rs s.held (nm b a (at! b a).spot.1) → ∀ wx : Int, wx = val rs s.held (nm b x (at! b x).spot.1) → ((wa + (at! b a).spot.2) % 65536).toNat ≠ ((wx + (at! b x).spot.2) % 65536).toNat := by
    intro m1 m2 nl wa ea wx ex
    unfold touch at ht
    rw [m1, m2] at ht
    have nl' : ((at! b a).isLoad && (at! b x).isLoad) = false := by
      cases c1 : (at! b a).isLoad <;> cases c2 : (at! b x).isLoad <;> simp_all
    rw [nl'] at ht
    have ap : apart b a x = true := by simpa using ht
    unfold apart at ap
    obtain ⟨⟨h1, h2⟩, h3⟩ := of_decide_eq_true ap
    have e : wa = wx := by rw [ea, ex, nm_of, nm_of, h2, h1]
    subst e
    have := Int.emod_nonneg (wa + (at! b a).spot.2) (show (65536 : Int) ≠ 0 by decide)
    have := Int.emod_nonneg (wa + (at! b x).spot.2) (show (65536 : Int) ≠ 0 by decide)
    omega
  have w1 : words b rs s.held a = (at! b a).rdf.map fun r => val rs s.held (nm b a r) := rfl
  have w2 : words b rs s.held x = (at! b x).rdf.map fun r => val rs s.held (nm b x r) := rfl
  rw [w1, w2]
  exact free_ops (f := fun r => val rs s.held (nm b a r)) (g := fun r => val rs s.held (nm b x r)) ha hx ntell fun m1 m2 nl => spots m1 m2 nl _ rfl _ rfl
/-! ### any order is the block's own -/
theorem runs_cons {b : Blk} {rs : List Int} {s : Hs} {x : Nat} {l : List Nat} : runs bt b rs s (x :: l) = (stp bt b rs s x).bind fun s' => runs bt b rs s' l := by
  unfold runs
  rw [List.foldlM_cons]
  rfl
theorem runs_ins {b : Blk} (bk : BlkOk b) {rs : List Int} : ∀ (x : Nat) (l : List Nat), x < b.length → (∀ y ∈ l, y < b.length ∧ y ≠ x ∧ ¬ (y < x ∧ Conf b y x)) → l.Pairwise (· < ·) → ∃ l', l'.Perm (x :: l) ∧ l'.Pairwise (· < ·) ∧ ∀ s, runs bt b rs s (x :: l) = runs bt b rs s l'
  | x, [], hx, _, _ => ⟨[x], List.Perm.refl _, by simp, fun _ => rfl⟩
  | x, y :: l, hx, h, sl => by
    rw [List.pairwise_cons] at sl
    obtain ⟨h1, h2, h3⟩ := h y (List.mem_cons_self ..)
    by_cases c : x < y
    · refine ⟨x :: y :: l, List.Perm.refl _, ?_, fun _ => rfl⟩
      rw [List.pairwise_cons, List.pairwise_cons]
      refine ⟨fun z hz => ?_, sl⟩
      rcases List.mem_cons.mp hz with rfl | hz
      · exact c
      · have := sl.1 z hz; omega
    · have yx : y < x := by omega
      obtain ⟨l', p, s', e⟩ := runs_ins bk (rs := rs) x l hx (fun z hz => h z (List.mem_cons_of_mem _ hz)) sl.2
      refine ⟨y :: l', (p.cons y).trans (List.Perm.swap x y l), ?_, fun s => ?_⟩
      · rw [List.pairwise_cons]
        refine ⟨fun z hz => ?_, s'⟩
        rcases List.mem_cons.mp (p.mem_iff.mp hz) with rfl | hz
        · exact yx
        · exact sl.1 z hz
      · have cm := conf_comm (bt := bt) bk (rs := rs) (s := s) yx hx (fun z => h3 ⟨yx, z⟩)
        have e2 : runs bt b rs s (x :: y :: l) = ((stp bt b rs s x).bind fun s' => stp bt b rs s' y).bind fun s' => runs bt b rs s' l := by
          rw [runs_cons, Option.bind_assoc]
          congr 1
        rw [e2, ← cm, Option.bind_assoc, runs_cons]
        congr 1
        funext s'
        rw [← e s', runs_cons]
theorem runs_sort {b : Blk} (bk : BlkOk b) {rs : List Int} : ∀ (l : List Nat), (∀ x ∈ l, x < b.length) → l.Nodup → l.Pairwise (fun x y => ¬ (y < x ∧ Conf b y x)) → ∃ l', l'.Perm l ∧ l'.Pairwise (· < ·) ∧ ∀ s, runs bt b rs s l = runs bt b rs s l'
  | [], _, _, _ => ⟨[], List.Perm.refl _, List.Pairwise.nil, fun _ => rfl⟩
  | x :: l, h, nd, pw => by
    rw [List.nodup_cons] at nd
    rw [List.pairwise_cons] at pw
    obtain ⟨l', p, s', e⟩ := runs_sort bk (rs := rs) l (fun y hy => h y (List.mem_cons_of_mem _ hy)) nd.2 pw.2
    obtain ⟨l2, p2, s2, e2⟩ := runs_ins (bt := bt) bk (rs := rs) x l' (h x (List.mem_cons_self ..)) (fun y hy => by
      have hy := p.mem_iff.mp hy
      exact ⟨h y (List.mem_cons_of_mem _ hy), fun z => nd.1 (z ▸ hy), pw.1 y hy⟩) s'
    refine ⟨l2, p2.trans (p.cons x), s2, fun s => ?_⟩
    rw [← e2 s, runs_cons, runs_cons]
    congr 1
    funext s'
    exact e s'
theorem tell_order {b : Blk} {xs : List Nat} (h : isTO b xs = true) : ∀ (n i j : Nat), j - i ≤ n → i < j → j < b.length → (at! b i).isTell = true → (at! b j).isTell = true → xs.idxOf i < xs.idxOf j := by
  intro n
  induction n with
  | zero => intro i j h1 h2; omega
  | succ n ih =>
    intro i j h1 h2 jl ti tj
    cases e : lastTell b j with
    | none =>
      unfold lastTell at e
      rw [List.getLast?_eq_none_iff, List.filter_eq_nil_iff] at e
      exact absurd ti (e i (List.mem_range.mpr h2))
    | some k =>
      have kj := lastTell_lt e
      have p1 : xs.idxOf k < xs.idxOf j := isTO_pair h ((mem_tru (w := .tell) rfl).mpr ⟨j, jl, rfl, tj, e⟩)
      have tk : (at! b k).isTell = true := by
        unfold lastTell at e
        have := List.mem_of_getLast? e
        rw [List.mem_filter] at this
        exact this.2
      have ik : i ≤ k := by
        unfold lastTell at e
        have im : i ∈ (List.range j).filter fun k => (at! b k).isTell := List.mem_filter.mpr ⟨List.mem_range.mpr h2, ti⟩
        have sp : ((List.range j).filter fun k => (at! b k).isTell).Pairwise (· < ·) := List.pairwise_lt_range.sublist List.filter_sublist
        revert e im sp
        generalize (List.range j).filter (fun k => (at! b k).isTell) = l
        intro e im sp
        rcases List.eq_nil_or_concat l with rfl | ⟨l', z, rfl⟩
        · cases im
        · rw [List.concat_eq_append] at *
          rw [List.getLast?_append] at e
          simp at e
          subst e
          rw [List.pairwise_append] at sp
          rcases List.mem_append.mp im with im | im
          · have := sp.2.2 i im z (by simp); omega
          · simp at im; omega
      by_cases c : i = k
      · rw [c]; exact p1
      · have := ih i k (by omega) (by omega) (by omega) ti tk
        omega
theorem runs_order {b : Blk} (bk : BlkOk b) {rs : List Int} {xs : List Nat} (h : isTO b xs = true) (s : Hs) : runs bt b rs s xs = runs bt b rs s (List.range b.length) := by
  have px := isTO_perm h
  have nd : xs.Nodup := px.symm.nodup List.nodup_range
  have lt : ∀ x ∈ xs, x < b.length := fun x hx => List.mem_range.mp (px.mem_iff.mp hx)
  obtain ⟨l', p, sl, e⟩ := runs_sort (bt := bt) bk (rs := rs) xs lt nd (by
    rw [List.pairwise_iff_getElem]
    intro i j hi hj ij
    rintro ⟨c1, c2⟩
    have e1 := idx_at nd (List.getElem?_eq_getElem hi)
    have e2 := idx_at nd (List.getElem?_eq_getElem hj)
    have key : xs.idxOf xs[j] < xs.idxOf xs[i] := by
      rcases c2 with ⟨w, c2⟩ | ⟨c2, c3⟩
      · exact isTO_pair h c2
      · exact tell_order h _ _ _ (Nat.le_refl _) c1 (lt _ (List.getElem_mem hi)) c2 c3
    omega)
  rw [e s]
  have : l' = List.range b.length := List.Perm.eq_of_pairwise (le := (· < ·)) (fun a b _ _ h1 h2 => by omega) sl List.pairwise_lt_range (p.trans px)
  rw [this]
/-! ### all orders -/
theorem mem_freeL {n : Nat} {ps : List Pr} {done : List Nat} {x : Nat} : x ∈ freeL n ps done ↔ x < n ∧ x ∉ done ∧ ∀ p ∈ ps, p.2.1 = x → p.1 ∈ done := by
  unfold freeL
  rw [List.mem_filter, List.mem_range]
  constructor
  · rintro ⟨h1, h2⟩
    rw [Bool.and_eq_true] at h2
    refine ⟨h1, ?_, fun p hp e => ?_⟩
    · have := h2.1; simpa using this
    · have := h2.2
      rw [Bool.not_eq_true', List.any_eq_false] at this
      have := this p hp
      rw [Bool.and_eq_true, not_and] at this
      have := this (decide_eq_true e)
      simpa using this
  · rintro ⟨h1, h2, h3⟩
    refine ⟨h1, ?_⟩
    rw [Bool.and_eq_true]
    refine ⟨by simpa using h2, ?_⟩
    rw [Bool.not_eq_true', List.any_eq_false]
    intro p hp z
    rw [Bool.and_eq_true] at z
    have := h3 p hp (of_decide_eq_true z.1)
    have z2 := z.2
    simp at z2
    exact z2 this
theorem mem_dfs {n : Nat} {ps : List Pr} : ∀ (f : Nat) (here xs : List Nat), here.length + f = n → (xs ∈ dfs n ps f here ↔ here <+: xs ∧ xs.length = n ∧ ∀ k x, here.length ≤ k → xs[k]? = some x → x ∈ freeL n ps (xs.take k)) := by
  intro f
  induction f with
  | zero =>
    intro here xs hl
    unfold dfs
    rw [if_pos (by omega), List.mem_singleton]
    constructor
    · rintro rfl
      refine ⟨List.prefix_refl _, by omega, fun k x hk e => ?_⟩
      rw [List.getElem?_eq_none (by omega)] at e; cases e
    · rintro ⟨h1, h2, _⟩
      exact (h1.eq_of_length (by omega)).symm
  | succ f ih =>
    intro here xs hl
    unfold dfs
    rw [if_neg (by omega), List.mem_flatMap]
    constructor
    · rintro ⟨one, h1, h2⟩
      obtain ⟨h3, h4, h5⟩ := (ih (here ++ [one]) xs (by simp; omega)).mp h2
      obtain ⟨t, rfl⟩ := h3
      refine ⟨⟨[one] ++ t, by simp⟩, h4, fun k x hk e => ?_⟩
      by_cases c : k = here.length
      · subst c
        have e1 : (here ++ [one] ++ t)[here.length]? = some one := by simp
        rw [e1] at e
        cases e
        rw [List.append_assoc, List.take_left]
        exact h1
      · exact h5 k x (by simp; omega) e
    · rintro ⟨⟨t, rfl⟩, h4, h5⟩
      cases t with
      | nil => simp at h4; omega
      | cons one t =>
        have h6 := h5 here.length one (Nat.le_refl _) (by simp)
        rw [List.take_left] at h6
        refine ⟨one, h6, (ih (here ++ [one]) _ (by simp; omega)).mpr ⟨⟨t, by simp⟩, h4, fun k x hk e => h5 k x ?_ e⟩⟩
        simp at hk
        omega
theorem mem_ords {n : Nat} {ps : List Pr} (bd : ∀ p ∈ ps, p.1 < n ∧ p.2.1 < n) {xs : List Nat} : xs ∈ ords n ps ↔ xs.Perm (List.range n) ∧ keepsB ps xs = true := by
  unfold ords
  rw [mem_dfs n [] xs (by simp)]
  unfold keepsB
  rw [List.all_eq_true]
  constructor
  · rintro ⟨_, hl, h⟩
    have h := fun k x e => mem_freeL.mp (h k x (Nat.zero_le _) e)
    have nd : xs.Nodup := by
      rw [List.nodup_iff_pairwise_ne, List.pairwise_iff_getElem]
      intro i j hi hj ij e
      have := (h j xs[j] (List.getElem?_eq_getElem hj)).2.1
      refine this ?_
      rw [← e, List.mem_take_iff_getElem]
      exact ⟨i, by omega, rfl⟩
    have lt : ∀ x ∈ xs, x < n := fun x hx => by
      obtain ⟨k, hk, e⟩ := List.mem_iff_getElem.mp hx
      exact (h k x (by rw [List.getElem?_eq_getElem hk, e])).1
    have pm : xs.Perm (List.range n) := by
      have sub : ∀ x, x ∈ List.range n → x ∈ xs := by
        intro x hx
        by_cases c : x ∈ xs
        · exact c
        · exfalso
          have := List.Nodup.length_le_of_subset (l₁ := x :: xs) (l₂ := List.range n) (List.nodup_cons.mpr ⟨c, nd⟩) (fun y hy => by
            rcases List.mem_cons.mp hy with rfl | hy
            · exact hx
            · exact List.mem_range.mpr (lt y hy))
          simp at this
          omega
      exact (List.perm_ext_iff_of_nodup nd List.nodup_range).mpr fun x => ⟨fun hx => List.mem_range.mpr (lt x hx), sub x⟩
    refine ⟨pm, fun p hp => decide_eq_true ?_⟩
    have b := bd p hp
    have m2 : p.2.1 ∈ xs := pm.symm.mem_iff.mp (List.mem_range.mpr b.2)
    have l2 := List.idxOf_lt_length_of_mem m2
    have e2 : xs[xs.idxOf p.2.1]? = some p.2.1 := by rw [List.getElem?_eq_getElem l2, List.getElem_idxOf]
    have := (h _ _ e2).2.2 p hp rfl
    rw [List.mem_take_iff_getElem] at this
    obtain ⟨i, hi, e⟩ := this
    have := idx_at nd (k := i) (x := p.1) (by rw [List.getElem?_eq_getElem (by omega), e])
    omega
  · rintro ⟨pm, kp⟩
    have nd : xs.Nodup := pm.symm.nodup List.nodup_range
    refine ⟨List.nil_prefix, by have := pm.length_eq; simpa using this, fun k x _ e => mem_freeL.mpr ⟨?_, ?_, fun p hp e2 => ?_⟩⟩
    · exact List.mem_range.mp (pm.mem_iff.mp (List.mem_of_getElem? e))
    · intro z
      rw [List.mem_take_iff_getElem] at z
      obtain ⟨i, hi, e2⟩ := z
      have h1 := idx_at nd (k := i) (x := x) (by rw [List.getElem?_eq_getElem (by omega), e2])
      have h2 := idx_at nd e
      omega
    · have := of_decide_eq_true (kp p hp)
      rw [e2, idx_at nd e] at this
      exact mem_take (pm.symm.mem_iff.mp (List.mem_range.mpr (bd p hp).1)) this
theorem tru_bd {b : Blk} : ∀ p ∈ tru b, p.1 < b.length ∧ p.2.1 < b.length := fun p hp => dep_bd (List.mem_filter.mp hp).1
theorem mem_tords {b : Blk} {xs : List Nat} : xs ∈ ords b.length (tru b) ↔ isTO b xs = true := by
  rw [mem_ords tru_bd]
  unfold isTO
  rw [Bool.and_eq_true, decide_eq_true_eq]
theorem legal_sub {b : Blk} {xs : List Nat} (h : xs ∈ ords b.length (dep b)) : xs ∈ ords b.length (tru b) := by
  rw [mem_ords (fun p hp => dep_bd hp)] at h
  rw [mem_ords tru_bd]
  refine ⟨h.1, ?_⟩
  have h2 := h.2
  unfold keepsB at *
  rw [List.all_eq_true] at *
  exact fun p hp => h2 p (List.mem_filter.mp hp).1
theorem pair_lt {b : Blk} {p : Pr} (h : p ∈ dep b) : p.1 < p.2.1 := by
  obtain ⟨k, hk, h⟩ := mem_dep.mp h
  obtain ⟨i, j, w⟩ := p
  show i < j
  cases w with
  | value => obtain ⟨rfl, r, _, e⟩ := h; exact (lw_lt e).1
  | over => obtain ⟨rfl, r, _, e, n⟩ := h; have := (nxt_lt e).2.1; omega
  | again => obtain ⟨rfl, _, e⟩ := h; exact (lw_lt e).1
  | place => obtain ⟨rfl, l, _⟩ := h; exact l
  | tell => obtain ⟨rfl, _, e⟩ := h; exact lastTell_lt e
  | last => obtain ⟨rfl, _, l⟩ := h; exact l
theorem idx_range {n x : Nat} (h : x < n) : (List.range n).idxOf x = x := idx_at List.nodup_range (List.getElem?_range h)
theorem own_order (b : Blk) : List.range b.length ∈ ords b.length (tru b) := by
  rw [mem_ords tru_bd]
  refine ⟨List.Perm.refl _, ?_⟩
  unfold keepsB
  rw [List.all_eq_true]
  intro p hp
  have h := tru_bd p hp
  rw [idx_range h.1, idx_range h.2]
  exact decide_eq_true (pair_lt (List.mem_filter.mp hp).1)
theorem freeL_congr {n : Nat} {ps qs : List Pr} (h : ∀ i j, (∃ w, (i, j, w) ∈ ps) ↔ ∃ w, (i, j, w) ∈ qs) (done : List Nat) : freeL n ps done = freeL n qs done := by
  unfold freeL
  apply List.filter_congr
  intro x _
  congr 2
  rw [Bool.eq_iff_iff, List.any_eq_true, List.any_eq_true]
  constructor
  · rintro ⟨⟨i, j, w⟩, hp, e⟩
    obtain ⟨w', hq⟩ := (h i j).mp ⟨w, hp⟩
    exact ⟨(i, j, w'), hq, e⟩
  · rintro ⟨⟨i, j, w⟩, hp, e⟩
    obtain ⟨w', hq⟩ := (h i j).mpr ⟨w, hp⟩
    exact ⟨(i, j, w'), hq, e⟩
theorem dfs_congr {n : Nat} {ps qs : List Pr} (h : ∀ i j, (∃ w, (i, j, w) ∈ ps) ↔ ∃ w, (i, j, w) ∈ qs) : ∀ f here, dfs n ps f here = dfs n qs f here := by
  intro f
  induction f with
  | zero => intro here; rfl
  | succ f ih =>
    intro here
    unfold dfs
    rw [freeL_congr h]
    split
    · rfl
    · congr 1
      funext one
      exact ih _
theorem same_orders {b : Blk} (h : fal b = []) : ords b.length (tru b) = ords b.length (dep b) := by
  refine dfs_congr (fun i j => ?_) _ _
  constructor
  · rintro ⟨w, hp⟩; exact ⟨w, (List.mem_filter.mp hp).1⟩
  · rintro ⟨w, hp⟩
    by_cases c : w.true = true
    · exact ⟨w, List.mem_filter.mpr ⟨hp, c⟩⟩
    · unfold fal at h
      rw [List.filter_eq_nil_iff] at h
      have := h _ hp
      have c' : w.true = false := by simpa using c
      simp only [c', Bool.not_false, Bool.true_and, Bool.not_eq_true, Bool.not_eq_false', List.any_eq_true] at this
      obtain ⟨⟨i', j', w'⟩, hq, e⟩ := this
      have e := of_decide_eq_true e
      simp only at e
      exact ⟨w', by rw [← e.1, ← e.2]; exact hq⟩
def fact : Nat → Nat
  | 0 => 1
  | n + 1 => (n + 1) * fact n
theorem dfs_len {n : Nat} {ps : List Pr} : ∀ (f : Nat) (here : List Nat), here.length + f = n → here.Nodup → (∀ x ∈ here, x < n) → (dfs n ps f here).length ≤ fact f := by
  intro f
  induction f with
  | zero => intro here hl _ _; unfold dfs; split <;> simp [fact]
  | succ f ih =>
    intro here hl nd lt
    unfold dfs
    rw [if_neg (by omega), List.length_flatMap]
    have fl : (freeL n ps here).length ≤ f + 1 := by
      have nf : (freeL n ps here).Nodup := List.nodup_range.sublist List.filter_sublist
      have := List.Nodup.length_le_of_subset (l₁ := here ++ freeL n ps here) (l₂ := List.range n) (by
        rw [List.nodup_append]
        exact ⟨nd, nf, fun a ha b hb e => (mem_freeL.mp hb).2.1 (e ▸ ha)⟩) (fun x hx => by
        rcases List.mem_append.mp hx with hx | hx
        · exact List.mem_range.mpr (lt x hx)
        · exact List.mem_range.mpr (mem_freeL.mp hx).1)
      rw [List.length_append, List.length_range] at this
      omega
    have each : ∀ one ∈ freeL n ps here, (dfs n ps f (here ++ [one])).length ≤ fact f := fun one ho => by
      have m := mem_freeL.mp ho
      refine ih _ (by simp; omega) ?_ ?_
      · rw [List.nodup_append]
        exact ⟨nd, by simp, fun a ha b hb e => by simp at hb; subst hb; exact m.2.1 (e ▸ ha)⟩
      · intro x hx
        rcases List.mem_append.mp hx with hx | hx
        · exact lt x hx
        · simp at hx; subst hx; exact m.1
    have sum : ∀ l : List Nat, (∀ one ∈ l, (dfs n ps f (here ++ [one])).length ≤ fact f) → (l.map fun one => (dfs n ps f (here ++ [one])).length).sum ≤ l.length * fact f := by
      intro l
      induction l with
      | nil => intro _; simp
      | cons a l ih2 =>
        intro h
        rw [List.map_cons, List.sum_cons, List.length_cons, Nat.succ_mul]
        have h1 := h a (List.mem_cons_self ..)
        have h2 := ih2 fun x hx => h x (List.mem_cons_of_mem _ hx)
        omega
    refine Nat.le_trans (sum _ each) ?_
    exact Nat.mul_le_mul_right _ fl
theorem ords_len {n : Nat} {ps : List Pr} (h : n ≤ 6) : (ords n ps).length ≤ 720 := by
  have := dfs_len (n := n) (ps := ps) n [] (by simp) List.nodup_nil (by simp)
  unfold ords
  refine Nat.le_trans this ?_
  match n, h with
  | 0, _ => decide
  | 1, _ => decide
  | 2, _ => decide
  | 3, _ => decide
  | 4, _ => decide
  | 5, _ => decide
  | 6, _ => decide
theorem runD_order {b : Blk} (bk : BlkOk b) {rs mem : List Int} {xs : List Nat} (h : isTO b xs = true) : runD bt b rs mem xs = runD bt b rs mem (List.range b.length) := by
  unfold runD
  rw [runs_order bk h]
end K40
end

section
set_option Elab.async false
set_option linter.all false
set_option maxRecDepth 100000
set_option maxHeartbeats 4000000
/-! K40w1: the walks: words. -/
namespace K40
open PySem (Str Addr)
open AR
variable {bt : Bits}
theorem p_is_whole : Keeps bt (C40 bt) b_is_whole N_is_whole.length 1 S_is_whole := by
  rintro ds h Q E ⟨i, rfl, q⟩
  refine ⟨rfl, ?_⟩
  (conv => whnf)
  exact ⟨_, SubH.refl _, q⟩
theorem p_is_word : Keeps bt (C40 bt) b_is_word N_is_word.length 1 S_is_word := by
  rintro ds h Q E ⟨i, rfl, w, q⟩
  refine ⟨rfl, ?_⟩
  (conv => whnf)
  refine ⟨i, rfl, ?_⟩
  (conv => whnf)
  have w1 : 0 ≤ i := w.1
  have w2 : i < 65536 := w.2
  rw [decide_eq_true w1]
  (conv => whnf)
  rw [decide_eq_true w2]
  exact ⟨_, SubH.refl _, q⟩
theorem p_is_register : Keeps bt (C40 bt) b_is_register N_is_register.length 1 S_is_register := by
  rintro ds h Q E ⟨i, rfl, w, q⟩
  refine ⟨rfl, ?_⟩
  (conv => whnf)
  refine ⟨i, rfl, ?_⟩
  (conv => whnf)
  rw [decide_eq_true (show (i : Int) < 8 by omega)]
  exact ⟨_, SubH.refl _, q⟩
theorem p_form_of : Keeps bt (C40 bt) b_form_of N_form_of.length 1 S_form_of := by
  rintro ds h Q E ⟨o, rfl, q⟩
  refine ⟨rfl, ?_⟩
  cases o with
  | work w d a b => cases w <;> ((conv => whnf); exact ⟨_, SubH.refl _, q⟩)
  | br c a b t => cases c <;> ((conv => whnf); exact ⟨_, SubH.refl _, q⟩)
  | _ => (conv => whnf); refine ⟨rfl, ?_⟩; (conv => whnf); exact ⟨_, SubH.refl _, q⟩
end K40
end

section
set_option Elab.async false
set_option linter.all false
set_option maxRecDepth 100000
set_option maxHeartbeats 4000000
/-! K40w2: the walks: instructions. -/
namespace K40
open PySem (Str Addr)
open AR
variable {bt : Bits}
theorem p_word_wrong : Keeps bt (C40 bt) b_word_wrong 5 2 S_word_wrong := by
  rintro ds h Q E ⟨o, rfl, k, q⟩
  refine ⟨rfl, ?_⟩
  cases o with
  | set d n =>
    have k1 : d < 8 := k.1
    have k2 : n < 65536 := k.2
    (conv => whnf); refine ⟨.set d n, rfl, ?_⟩; (conv => whnf); refine ⟨.set d n, rfl, ?_⟩; (conv => whnf); refine ⟨(Nat.le_of_ble_eq_true rfl), ?_⟩; (conv => whnf); refine ⟨trivial, ?_⟩; (conv => whnf); refine ⟨(Nat.le_of_ble_eq_true rfl), ?_⟩; (conv => whnf); refine ⟨⟨trivial, trivial⟩, ?_⟩
    (conv => whnf); refine ⟨_, rfl, ?_⟩; (conv => whnf); refine ⟨_, rfl, k1, ?_⟩; (conv => whnf); refine ⟨_, _, SubS.refl _, SubH.refl _, ?_⟩; (conv => whnf); refine ⟨⟨trivial, trivial⟩, ?_⟩
    (conv => whnf); refine ⟨_, rfl, ⟨by omega, by omega⟩, ?_⟩; (conv => whnf); refine ⟨_, rfl, ?_⟩; (conv => whnf); refine ⟨_, _, SubS.refl _, SubH.refl _, ?_⟩; (conv => whnf); refine ⟨⟨trivial, trivial⟩, ?_⟩
    (conv => whnf); exact ⟨h, SubH.refl h, q⟩
  | work w d a b =>
    have k1 : d < 8 := k.1
    have k2 : a < 8 := k.2.1
    have k3 : b < 8 := k.2.2
    (conv => whnf); refine ⟨.work w d a b, rfl, ?_⟩; (conv => whnf); refine ⟨.work w d a b, rfl, ?_⟩; (conv => whnf); refine ⟨(Nat.le_of_ble_eq_true rfl), ?_⟩; (conv => whnf); refine ⟨trivial, ?_⟩; (conv => whnf); refine ⟨(Nat.le_of_ble_eq_true rfl), ?_⟩; (conv => whnf); refine ⟨⟨trivial, trivial⟩, ?_⟩
    (conv => whnf); refine ⟨_, rfl, ?_⟩; (conv => whnf); refine ⟨_, rfl, k1, ?_⟩; (conv => whnf); refine ⟨_, _, SubS.refl _, SubH.refl _, ?_⟩; (conv => whnf); refine ⟨⟨trivial, trivial⟩, ?_⟩
    (conv => whnf); refine ⟨_, rfl, ?_⟩; (conv => whnf); refine ⟨_, rfl, k2, ?_⟩; (conv => whnf); refine ⟨_, _, SubS.refl _, SubH.refl _, ?_⟩; (conv => whnf); refine ⟨⟨trivial, trivial⟩, ?_⟩
    (conv => whnf); refine ⟨_, rfl, ?_⟩; (conv => whnf); refine ⟨_, rfl, k3, ?_⟩; (conv => whnf); refine ⟨_, _, SubS.refl _, SubH.refl _, ?_⟩; (conv => whnf); refine ⟨⟨trivial, trivial⟩, ?_⟩
    (conv => whnf); exact ⟨h, SubH.refl h, q⟩
  | load d a n =>
    have k1 : d < 8 := k.1
    have k2 : a < 8 := k.2.1
    have k3 : n < 65536 := k.2.2
    (conv => whnf); refine ⟨.load d a n, rfl, ?_⟩; (conv => whnf); refine ⟨.load d a n, rfl, ?_⟩; (conv => whnf); refine ⟨(Nat.le_of_ble_eq_true rfl), ?_⟩; (conv => whnf); refine ⟨trivial, ?_⟩; (conv => whnf); refine ⟨(Nat.le_of_ble_eq_true rfl), ?_⟩; (conv => whnf); refine ⟨⟨trivial, trivial⟩, ?_⟩
    (conv => whnf); refine ⟨_, rfl, ?_⟩; (conv => whnf); refine ⟨_, rfl, k1, ?_⟩; (conv => whnf); refine ⟨_, _, SubS.refl _, SubH.refl _, ?_⟩; (conv => whnf); refine ⟨⟨trivial, trivial⟩, ?_⟩
    (conv => whnf); refine ⟨_, rfl, ?_⟩; (conv => whnf); refine ⟨_, rfl, k2, ?_⟩; (conv => whnf); refine ⟨_, _, SubS.refl _, SubH.refl _, ?_⟩; (conv => whnf); refine ⟨⟨trivial, trivial⟩, ?_⟩
    (conv => whnf); refine ⟨_, rfl, ⟨by omega, by omega⟩, ?_⟩; (conv => whnf); refine ⟨_, rfl, ?_⟩; (conv => whnf); refine ⟨_, _, SubS.refl _, SubH.refl _, ?_⟩; (conv => whnf); refine ⟨⟨trivial, trivial⟩, ?_⟩
    (conv => whnf); exact ⟨h, SubH.refl h, q⟩
  | store a n s =>
    have k1 : a < 8 := k.1
    have k2 : n < 65536 := k.2.1
    have k3 : s < 8 := k.2.2
    (conv => whnf); refine ⟨.store a n s, rfl, ?_⟩; (conv => whnf); refine ⟨.store a n s, rfl, ?_⟩; (conv => whnf); refine ⟨(Nat.le_of_ble_eq_true rfl), ?_⟩; (conv => whnf); refine ⟨trivial, ?_⟩; (conv => whnf); refine ⟨(Nat.le_of_ble_eq_true rfl), ?_⟩; (conv => whnf); refine ⟨⟨trivial, trivial⟩, ?_⟩
    (conv => whnf); refine ⟨_, rfl, ?_⟩; (conv => whnf); refine ⟨_, rfl, k1, ?_⟩; (conv => whnf); refine ⟨_, _, SubS.refl _, SubH.refl _, ?_⟩; (conv => whnf); refine ⟨⟨trivial, trivial⟩, ?_⟩
    (conv => whnf); refine ⟨_, rfl, ⟨by omega, by omega⟩, ?_⟩; (conv => whnf); refine ⟨_, rfl, ?_⟩; (conv => whnf); refine ⟨_, _, SubS.refl _, SubH.refl _, ?_⟩; (conv => whnf); refine ⟨⟨trivial, trivial⟩, ?_⟩
    (conv => whnf); refine ⟨_, rfl, ?_⟩; (conv => whnf); refine ⟨_, rfl, k3, ?_⟩; (conv => whnf); refine ⟨_, _, SubS.refl _, SubH.refl _, ?_⟩; (conv => whnf); refine ⟨⟨trivial, trivial⟩, ?_⟩
    (conv => whnf); exact ⟨h, SubH.refl h, q⟩
  | jump t =>
    have k1 : t < 60 := k
    (conv => whnf); refine ⟨.jump t, rfl, ?_⟩; (conv => whnf); refine ⟨.jump t, rfl, ?_⟩; (conv => whnf); refine ⟨(Nat.le_of_ble_eq_true rfl), ?_⟩; (conv => whnf); refine ⟨trivial, ?_⟩; (conv => whnf); refine ⟨(Nat.le_of_ble_eq_true rfl), ?_⟩; (conv => whnf); refine ⟨⟨trivial, trivial⟩, ?_⟩
    (conv => whnf); refine ⟨_, rfl, ?_⟩; (conv => whnf); rw [decide_eq_true (show _ from by omega)]; (conv => whnf); refine ⟨_, rfl, ?_⟩; (conv => whnf); refine ⟨_, _, SubS.refl _, SubH.refl _, ?_⟩; (conv => whnf); refine ⟨⟨trivial, trivial⟩, ?_⟩
    (conv => whnf); exact ⟨h, SubH.refl h, q⟩
  | br c a b t =>
    have k1 : a < 8 := k.1
    have k2 : b < 8 := k.2.1
    have k3 : t < 60 := k.2.2
    (conv => whnf); refine ⟨.br c a b t, rfl, ?_⟩; (conv => whnf); refine ⟨.br c a b t, rfl, ?_⟩; (conv => whnf); refine ⟨(Nat.le_of_ble_eq_true rfl), ?_⟩; (conv => whnf); refine ⟨trivial, ?_⟩; (conv => whnf); refine ⟨(Nat.le_of_ble_eq_true rfl), ?_⟩; (conv => whnf); refine ⟨⟨trivial, trivial⟩, ?_⟩
    (conv => whnf); refine ⟨_, rfl, ?_⟩; (conv => whnf); refine ⟨_, rfl, k1, ?_⟩; (conv => whnf); refine ⟨_, _, SubS.refl _, SubH.refl _, ?_⟩; (conv => whnf); refine ⟨⟨trivial, trivial⟩, ?_⟩
    (conv => whnf); refine ⟨_, rfl, ?_⟩; (conv => whnf); refine ⟨_, rfl, k2, ?_⟩; (conv => whnf); refine ⟨_, _, SubS.refl _, SubH.refl _, ?_⟩; (conv => whnf); refine ⟨⟨trivial, trivial⟩, ?_⟩
    (conv => whnf); refine ⟨_, rfl, ?_⟩; (conv => whnf); rw [decide_eq_true (show _ from by omega)]; (conv => whnf); refine ⟨_, rfl, ?_⟩; (conv => whnf); refine ⟨_, _, SubS.refl _, SubH.refl _, ?_⟩; (conv => whnf); refine ⟨⟨trivial, trivial⟩, ?_⟩
    (conv => whnf); exact ⟨h, SubH.refl h, q⟩
  | link d t =>
    have k1 : d < 8 := k.1
    have k2 : t < 60 := k.2
    (conv => whnf); refine ⟨.link d t, rfl, ?_⟩; (conv => whnf); refine ⟨.link d t, rfl, ?_⟩; (conv => whnf); refine ⟨(Nat.le_of_ble_eq_true rfl), ?_⟩; (conv => whnf); refine ⟨trivial, ?_⟩; (conv => whnf); refine ⟨(Nat.le_of_ble_eq_true rfl), ?_⟩; (conv => whnf); refine ⟨⟨trivial, trivial⟩, ?_⟩
    (conv => whnf); refine ⟨_, rfl, ?_⟩; (conv => whnf); refine ⟨_, rfl, k1, ?_⟩; (conv => whnf); refine ⟨_, _, SubS.refl _, SubH.refl _, ?_⟩; (conv => whnf); refine ⟨⟨trivial, trivial⟩, ?_⟩
    (conv => whnf); refine ⟨_, rfl, ?_⟩; (conv => whnf); rw [decide_eq_true (show _ from by omega)]; (conv => whnf); refine ⟨_, rfl, ?_⟩; (conv => whnf); refine ⟨_, _, SubS.refl _, SubH.refl _, ?_⟩; (conv => whnf); refine ⟨⟨trivial, trivial⟩, ?_⟩
    (conv => whnf); exact ⟨h, SubH.refl h, q⟩
  | back a =>
    have k1 : a < 8 := k
    (conv => whnf); refine ⟨.back a, rfl, ?_⟩; (conv => whnf); refine ⟨.back a, rfl, ?_⟩; (conv => whnf); refine ⟨(Nat.le_of_ble_eq_true rfl), ?_⟩; (conv => whnf); refine ⟨trivial, ?_⟩; (conv => whnf); refine ⟨(Nat.le_of_ble_eq_true rfl), ?_⟩; (conv => whnf); refine ⟨⟨trivial, trivial⟩, ?_⟩
    (conv => whnf); refine ⟨_, rfl, ?_⟩; (conv => whnf); refine ⟨_, rfl, k1, ?_⟩; (conv => whnf); refine ⟨_, _, SubS.refl _, SubH.refl _, ?_⟩; (conv => whnf); refine ⟨⟨trivial, trivial⟩, ?_⟩
    (conv => whnf); exact ⟨h, SubH.refl h, q⟩
  | tell a =>
    have k1 : a < 8 := k
    (conv => whnf); refine ⟨.tell a, rfl, ?_⟩; (conv => whnf); refine ⟨.tell a, rfl, ?_⟩; (conv => whnf); refine ⟨(Nat.le_of_ble_eq_true rfl), ?_⟩; (conv => whnf); refine ⟨trivial, ?_⟩; (conv => whnf); refine ⟨(Nat.le_of_ble_eq_true rfl), ?_⟩; (conv => whnf); refine ⟨⟨trivial, trivial⟩, ?_⟩
    (conv => whnf); refine ⟨_, rfl, ?_⟩; (conv => whnf); refine ⟨_, rfl, k1, ?_⟩; (conv => whnf); refine ⟨_, _, SubS.refl _, SubH.refl _, ?_⟩; (conv => whnf); refine ⟨⟨trivial, trivial⟩, ?_⟩
    (conv => whnf); exact ⟨h, SubH.refl h, q⟩
  | stop =>
    (conv => whnf); refine ⟨.stop, rfl, ?_⟩; (conv => whnf); refine ⟨.stop, rfl, ?_⟩; (conv => whnf); refine ⟨(Nat.le_of_ble_eq_true rfl), ?_⟩; (conv => whnf); refine ⟨trivial, ?_⟩; (conv => whnf); refine ⟨(Nat.le_of_ble_eq_true rfl), ?_⟩; (conv => whnf); refine ⟨⟨trivial, trivial⟩, ?_⟩
    (conv => whnf); exact ⟨h, SubH.refl h, q⟩
theorem p_look_at_block : Keeps bt (C40 bt) b_look_at_block 1 1 S_look_at_block := by
  rintro ds h Q E ⟨b, rfl, k, q⟩
  refine ⟨rfl, ?_⟩
  (conv => whnf)
  refine ⟨b, rfl, k, ?_⟩
  (conv => whnf)
  exact ⟨h, SubH.refl h, q⟩
theorem p_writes : Keeps bt (C40 bt) b_writes 2 1 S_writes := by
  rintro ds h Q E ⟨o, rfl, q⟩
  refine ⟨rfl, ?_⟩
  (conv => whnf)
  refine ⟨o, .inr ⟨rfl, fun p np => ?_⟩⟩
  have e : hup h p (.lst (o.wrs.map nD)) p = some (.lst (o.wrs.map nD)) := hup_same
  have s : SubH h (hup h p (.lst (o.wrs.map nD))) := (SubH.refl h).new np
  cases o <;> ((conv => whnf); rw [itemsOf_l e]; (conv => whnf); first | exact ⟨h, s, q⟩ | (rw [e]; (conv => whnf); exact ⟨h, s, q⟩))
theorem p_signed : Keeps bt (C40 bt) b_signed 1 1 S_signed := by
  rintro ds h Q E ⟨i, rfl, q⟩
  refine ⟨rfl, ?_⟩
  (conv => whnf)
  unfold sg at q
  by_cases c : 32768 ≤ i
  · rw [decide_eq_true c]; rw [if_pos c] at q
    (conv => whnf); exact ⟨h, SubH.refl h, q⟩
  · rw [decide_eq_false c]; rw [if_neg c] at q
    (conv => whnf); exact ⟨h, SubH.refl h, q⟩
theorem p_law_signed : Keeps bt (C40 bt) b_law_signed 1 1 S_law_signed := by
  rintro ds h Q E ⟨i, rfl, q⟩
  refine ⟨rfl, ?_⟩
  (conv => whnf)
  unfold sg at q
  by_cases c : 32768 ≤ i
  · rw [decide_eq_true (show (32767 : Int) < i by omega)]; rw [if_pos c] at q
    (conv => whnf); exact ⟨h, SubH.refl h, q⟩
  · rw [decide_eq_false (show ¬ (32767 : Int) < i by omega)]; rw [if_neg c] at q
    (conv => whnf); exact ⟨h, SubH.refl h, q⟩
theorem p_holds : Keeps bt (C40 bt) b_holds 3 3 S_holds := by
  rintro ds h Q E ⟨c, x, y, rfl, q⟩
  refine ⟨rfl, ?_⟩
  cases c with
  | less => (conv => whnf); refine ⟨x, rfl, ?_⟩; (conv => whnf); refine ⟨y, rfl, ?_⟩; (conv => whnf); exact ⟨h, SubH.refl h, q⟩
  | same =>
    (conv => whnf)
    refine ⟨h, SubH.refl h, ?_⟩
    have e : decide (Fl.num (if decide (Fl.num x = Fl.num y) = true then 1 else 0) = Fl.num (if decide (Fl.str Cd.same.s = Fl.str (Str.ofString "same")) = true then 1 else 0)) = cdF .same x y := by
      have : (Fl.str Cd.same.s = Fl.str (Str.ofString "same")) := rfl
      rw [decide_eq_true this]
      unfold cdF
      by_cases c : x = y <;> simp [c]
    rw [e]; exact q
  | other =>
    (conv => whnf)
    refine ⟨h, SubH.refl h, ?_⟩
    have e : decide (Fl.num (if decide (Fl.num x = Fl.num y) = true then 1 else 0) = Fl.num (if decide (Fl.str Cd.other.s = Fl.str (Str.ofString "same")) = true then 1 else 0)) = cdF .other x y := by
      have : ¬ (Fl.str Cd.other.s = Fl.str (Str.ofString "same")) := by decide
      rw [decide_eq_false this]
      unfold cdF
      by_cases c : x = y <;> simp [c]
    rw [e]; exact q
theorem p_law_meets : Keeps bt (C40 bt) b_law_meets 3 3 S_law_meets := by
  rintro ds h Q E ⟨c, x, y, rfl, q⟩
  refine ⟨rfl, ?_⟩
  cases c with
  | less => (conv => whnf); refine ⟨x, rfl, ?_⟩; (conv => whnf); refine ⟨y, rfl, ?_⟩; (conv => whnf); exact ⟨h, SubH.refl h, q⟩
  | same =>
    (conv => whnf); refine ⟨h, SubH.refl h, ?_⟩
    have e : decide (Fl.num x = Fl.num y) = cdF .same x y := by unfold cdF; simp
    rw [e]; exact q
  | other =>
    (conv => whnf); refine ⟨h, SubH.refl h, ?_⟩
    have e : (!decide (Fl.num x = Fl.num y)) = cdF .other x y := by unfold cdF; simp
    rw [e]; exact q
end K40
end

section
set_option Elab.async false
set_option linter.all false
set_option maxRecDepth 100000
set_option maxHeartbeats 4000000
/-! K40w3: the walks: blocks. -/
namespace K40
open PySem (Str Addr)
open AR
variable {bt : Bits}
theorem p_is_block : Keeps bt (C40 bt) b_is_block 2 1 S_is_block := by
  rintro ds h Q E ⟨b, rfl, k, q⟩
  refine ⟨rfl, ?_⟩
  have l1 : 0 < b.length := k.one
  have l2 : b.length ≤ 24 := k.few
  (conv => whnf)
  have e1 : decide ((0 : Int) < ((b.map Op.dat).length : Int)) = true := decide_eq_true (by rw [List.length_map]; omega)
  rw [e1]
  (conv => whnf)
  have e2 : decide (((b.map Op.dat).length : Int) ≤ (24 : Int)) = true := decide_eq_true (by rw [List.length_map]; omega)
  rw [e2]
  (conv => whnf)
  refine ⟨by rw [List.length_map]; unfold big; omega, lcL_map Op.dat (fun _ => .bl true) trivial (fun o ho => ⟨_, rfl, fun K r => r, fun K r => ?_⟩) ?_⟩
  · (conv => whnf)
    refine ⟨o, rfl, k.ok o ho, ?_⟩
    exact r
  · (conv => whnf)
    rw [boolsD_map (fun _ => true)]
    (conv => whnf)
    rw [all_true]
    (conv => whnf)
    have e3 : cut (b.map Op.dat) none (some (-1)) = b.dropLast.map Op.dat := by rw [cut_last, List.map_dropLast]
    refine ⟨by rw [show cut (b.map Op.dat) none (some (-1)) = _ from e3]; simp; unfold big; omega, ?_⟩
    rw [show cut (b.map Op.dat) none (some (-1)) = _ from e3]
    refine lcL_map Op.dat (fun _ => .bl false) trivial (fun o ho => ⟨_, rfl, fun K r => r, fun K r => ?_⟩) ?_
    · have e4 := k.last o ho
      obtain ⟨rs, e5⟩ := dat_word o
      rw [e5]
      (conv => whnf)
      rw [in_xfer, e4]
      exact r
    · (conv => whnf)
      rw [boolsD_map (fun _ => false)]
      (conv => whnf)
      rw [any_false]
      exact ⟨_, SubH.refl _, q⟩
theorem p_registers_in : Keeps bt (C40 bt) b_registers_in 5 2 S_registers_in := by
  rintro ds h Q E ⟨o, ⟨rfl, q⟩ | ⟨rfl, q⟩⟩
  · refine ⟨rfl, ?_⟩
    (conv => whnf)
    cases o with
    | stop => refine ⟨.stop, rfl, ?_⟩; (conv => whnf); refine ⟨(Nat.le_of_ble_eq_true rfl), ?_⟩; (conv => whnf); refine ⟨(Nat.le_of_ble_eq_true rfl), ?_⟩; (conv => whnf); refine ⟨trivial, ?_⟩; (conv => whnf); exact fun p np => ⟨_, SubH.refl _, q p np⟩
    | jump t => refine ⟨.jump t, rfl, ?_⟩; (conv => whnf); refine ⟨(Nat.le_of_ble_eq_true rfl), ?_⟩; (conv => whnf); refine ⟨(Nat.le_of_ble_eq_true rfl), ?_⟩; (conv => whnf); refine ⟨trivial, ?_⟩; (conv => whnf); refine ⟨_, rfl, ?_⟩; (conv => whnf); refine ⟨h, SubH.refl h, ?_⟩; (conv => whnf); refine ⟨trivial, ?_⟩; (conv => whnf); exact fun p np => ⟨_, SubH.refl _, q p np⟩
    | back a => refine ⟨.back a, rfl, ?_⟩; (conv => whnf); refine ⟨(Nat.le_of_ble_eq_true rfl), ?_⟩; (conv => whnf); refine ⟨(Nat.le_of_ble_eq_true rfl), ?_⟩; (conv => whnf); refine ⟨trivial, ?_⟩; (conv => whnf); refine ⟨_, rfl, ?_⟩; (conv => whnf); refine ⟨h, SubH.refl h, ?_⟩; (conv => whnf); refine ⟨trivial, ?_⟩; (conv => whnf); exact fun p np => ⟨_, SubH.refl _, q p np⟩
    | tell a => refine ⟨.tell a, rfl, ?_⟩; (conv => whnf); refine ⟨(Nat.le_of_ble_eq_true rfl), ?_⟩; (conv => whnf); refine ⟨(Nat.le_of_ble_eq_true rfl), ?_⟩; (conv => whnf); refine ⟨trivial, ?_⟩; (conv => whnf); refine ⟨_, rfl, ?_⟩; (conv => whnf); refine ⟨h, SubH.refl h, ?_⟩; (conv => whnf); refine ⟨trivial, ?_⟩; (conv => whnf); exact fun p np => ⟨_, SubH.refl _, q p np⟩
    | set d n => refine ⟨.set d n, rfl, ?_⟩; (conv => whnf); refine ⟨(Nat.le_of_ble_eq_true rfl), ?_⟩; (conv => whnf); refine ⟨(Nat.le_of_ble_eq_true rfl), ?_⟩; (conv => whnf); refine ⟨trivial, ?_⟩; (conv => whnf); refine ⟨_, rfl, ?_⟩; (conv => whnf); refine ⟨h, SubH.refl h, ?_⟩; (conv => whnf); refine ⟨trivial, ?_⟩; (conv => whnf); refine ⟨_, rfl, ?_⟩; (conv => whnf); refine ⟨h, SubH.refl h, ?_⟩; (conv => whnf); refine ⟨trivial, ?_⟩; (conv => whnf); exact fun p np => ⟨_, SubH.refl _, q p np⟩
    | link d n => refine ⟨.link d n, rfl, ?_⟩; (conv => whnf); refine ⟨(Nat.le_of_ble_eq_true rfl), ?_⟩; (conv => whnf); refine ⟨(Nat.le_of_ble_eq_true rfl), ?_⟩; (conv => whnf); refine ⟨trivial, ?_⟩; (conv => whnf); refine ⟨_, rfl, ?_⟩; (conv => whnf); refine ⟨h, SubH.refl h, ?_⟩; (conv => whnf); refine ⟨trivial, ?_⟩; (conv => whnf); refine ⟨_, rfl, ?_⟩; (conv => whnf); refine ⟨h, SubH.refl h, ?_⟩; (conv => whnf); refine ⟨trivial, ?_⟩; (conv => whnf); exact fun p np => ⟨_, SubH.refl _, q p np⟩
    | work w d a b => refine ⟨.work w d a b, rfl, ?_⟩; (conv => whnf); refine ⟨(Nat.le_of_ble_eq_true rfl), ?_⟩; (conv => whnf); refine ⟨(Nat.le_of_ble_eq_true rfl), ?_⟩; (conv => whnf); refine ⟨trivial, ?_⟩; (conv => whnf); refine ⟨_, rfl, ?_⟩; (conv => whnf); refine ⟨h, SubH.refl h, ?_⟩; (conv => whnf); refine ⟨trivial, ?_⟩; (conv => whnf); refine ⟨_, rfl, ?_⟩; (conv => whnf); refine ⟨h, SubH.refl h, ?_⟩; (conv => whnf); refine ⟨trivial, ?_⟩; (conv => whnf); refine ⟨_, rfl, ?_⟩; (conv => whnf); refine ⟨h, SubH.refl h, ?_⟩; (conv => whnf); refine ⟨trivial, ?_⟩; (conv => whnf); exact fun p np => ⟨_, SubH.refl _, q p np⟩
    | load d a b => refine ⟨.load d a b, rfl, ?_⟩; (conv => whnf); refine ⟨(Nat.le_of_ble_eq_true rfl), ?_⟩; (conv => whnf); refine ⟨(Nat.le_of_ble_eq_true rfl), ?_⟩; (conv => whnf); refine ⟨trivial, ?_⟩; (conv => whnf); refine ⟨_, rfl, ?_⟩; (conv => whnf); refine ⟨h, SubH.refl h, ?_⟩; (conv => whnf); refine ⟨trivial, ?_⟩; (conv => whnf); refine ⟨_, rfl, ?_⟩; (conv => whnf); refine ⟨h, SubH.refl h, ?_⟩; (conv => whnf); refine ⟨trivial, ?_⟩; (conv => whnf); refine ⟨_, rfl, ?_⟩; (conv => whnf); refine ⟨h, SubH.refl h, ?_⟩; (conv => whnf); refine ⟨trivial, ?_⟩; (conv => whnf); exact fun p np => ⟨_, SubH.refl _, q p np⟩
    | store d a b => refine ⟨.store d a b, rfl, ?_⟩; (conv => whnf); refine ⟨(Nat.le_of_ble_eq_true rfl), ?_⟩; (conv => whnf); refine ⟨(Nat.le_of_ble_eq_true rfl), ?_⟩; (conv => whnf); refine ⟨trivial, ?_⟩; (conv => whnf); refine ⟨_, rfl, ?_⟩; (conv => whnf); refine ⟨h, SubH.refl h, ?_⟩; (conv => whnf); refine ⟨trivial, ?_⟩; (conv => whnf); refine ⟨_, rfl, ?_⟩; (conv => whnf); refine ⟨h, SubH.refl h, ?_⟩; (conv => whnf); refine ⟨trivial, ?_⟩; (conv => whnf); refine ⟨_, rfl, ?_⟩; (conv => whnf); refine ⟨h, SubH.refl h, ?_⟩; (conv => whnf); refine ⟨trivial, ?_⟩; (conv => whnf); exact fun p np => ⟨_, SubH.refl _, q p np⟩
    | br c d a b => refine ⟨.br c d a b, rfl, ?_⟩; (conv => whnf); refine ⟨(Nat.le_of_ble_eq_true rfl), ?_⟩; (conv => whnf); refine ⟨(Nat.le_of_ble_eq_true rfl), ?_⟩; (conv => whnf); refine ⟨trivial, ?_⟩; (conv => whnf); refine ⟨_, rfl, ?_⟩; (conv => whnf); refine ⟨h, SubH.refl h, ?_⟩; (conv => whnf); refine ⟨trivial, ?_⟩; (conv => whnf); refine ⟨_, rfl, ?_⟩; (conv => whnf); refine ⟨h, SubH.refl h, ?_⟩; (conv => whnf); refine ⟨trivial, ?_⟩; (conv => whnf); refine ⟨_, rfl, ?_⟩; (conv => whnf); refine ⟨h, SubH.refl h, ?_⟩; (conv => whnf); refine ⟨trivial, ?_⟩; (conv => whnf); exact fun p np => ⟨_, SubH.refl _, q p np⟩
  · refine ⟨rfl, ?_⟩
    (conv => whnf)
    cases o with
    | stop => refine ⟨.stop, rfl, ?_⟩; (conv => whnf); refine ⟨(Nat.le_of_ble_eq_true rfl), ?_⟩; (conv => whnf); refine ⟨(Nat.le_of_ble_eq_true rfl), ?_⟩; (conv => whnf); refine ⟨trivial, ?_⟩; (conv => whnf); exact fun p np => ⟨_, SubH.refl _, q p np⟩
    | jump t => refine ⟨.jump t, rfl, ?_⟩; (conv => whnf); refine ⟨(Nat.le_of_ble_eq_true rfl), ?_⟩; (conv => whnf); refine ⟨(Nat.le_of_ble_eq_true rfl), ?_⟩; (conv => whnf); refine ⟨trivial, ?_⟩; (conv => whnf); refine ⟨_, rfl, ?_⟩; (conv => whnf); refine ⟨h, SubH.refl h, ?_⟩; (conv => whnf); refine ⟨trivial, ?_⟩; (conv => whnf); exact fun p np => ⟨_, SubH.refl _, q p np⟩
    | back a => refine ⟨.back a, rfl, ?_⟩; (conv => whnf); refine ⟨(Nat.le_of_ble_eq_true rfl), ?_⟩; (conv => whnf); refine ⟨(Nat.le_of_ble_eq_true rfl), ?_⟩; (conv => whnf); refine ⟨trivial, ?_⟩; (conv => whnf); refine ⟨_, rfl, ?_⟩; (conv => whnf); refine ⟨h, SubH.refl h, ?_⟩; (conv => whnf); refine ⟨trivial, ?_⟩; (conv => whnf); exact fun p np => ⟨_, SubH.refl _, q p np⟩
    | tell a => refine ⟨.tell a, rfl, ?_⟩; (conv => whnf); refine ⟨(Nat.le_of_ble_eq_true rfl), ?_⟩; (conv => whnf); refine ⟨(Nat.le_of_ble_eq_true rfl), ?_⟩; (conv => whnf); refine ⟨trivial, ?_⟩; (conv => whnf); refine ⟨_, rfl, ?_⟩; (conv => whnf); refine ⟨h, SubH.refl h, ?_⟩; (conv => whnf); refine ⟨trivial, ?_⟩; (conv => whnf); exact fun p np => ⟨_, SubH.refl _, q p np⟩
    | set d n => refine ⟨.set d n, rfl, ?_⟩; (conv => whnf); refine ⟨(Nat.le_of_ble_eq_true rfl), ?_⟩; (conv => whnf); refine ⟨(Nat.le_of_ble_eq_true rfl), ?_⟩; (conv => whnf); refine ⟨trivial, ?_⟩; (conv => whnf); refine ⟨_, rfl, ?_⟩; (conv => whnf); refine ⟨h, SubH.refl h, ?_⟩; (conv => whnf); refine ⟨trivial, ?_⟩; (conv => whnf); refine ⟨_, rfl, ?_⟩; (conv => whnf); refine ⟨h, SubH.refl h, ?_⟩; (conv => whnf); refine ⟨trivial, ?_⟩; (conv => whnf); exact fun p np => ⟨_, SubH.refl _, q p np⟩
    | link d n => refine ⟨.link d n, rfl, ?_⟩; (conv => whnf); refine ⟨(Nat.le_of_ble_eq_true rfl), ?_⟩; (conv => whnf); refine ⟨(Nat.le_of_ble_eq_true rfl), ?_⟩; (conv => whnf); refine ⟨trivial, ?_⟩; (conv => whnf); refine ⟨_, rfl, ?_⟩; (conv => whnf); refine ⟨h, SubH.refl h, ?_⟩; (conv => whnf); refine ⟨trivial, ?_⟩; (conv => whnf); refine ⟨_, rfl, ?_⟩; (conv => whnf); refine ⟨h, SubH.refl h, ?_⟩; (conv => whnf); refine ⟨trivial, ?_⟩; (conv => whnf); exact fun p np => ⟨_, SubH.refl _, q p np⟩
    | work w d a b => refine ⟨.work w d a b, rfl, ?_⟩; (conv => whnf); refine ⟨(Nat.le_of_ble_eq_true rfl), ?_⟩; (conv => whnf); refine ⟨(Nat.le_of_ble_eq_true rfl), ?_⟩; (conv => whnf); refine ⟨trivial, ?_⟩; (conv => whnf); refine ⟨_, rfl, ?_⟩; (conv => whnf); refine ⟨h, SubH.refl h, ?_⟩; (conv => whnf); refine ⟨trivial, ?_⟩; (conv => whnf); refine ⟨_, rfl, ?_⟩; (conv => whnf); refine ⟨h, SubH.refl h, ?_⟩; (conv => whnf); refine ⟨trivial, ?_⟩; (conv => whnf); refine ⟨_, rfl, ?_⟩; (conv => whnf); refine ⟨h, SubH.refl h, ?_⟩; (conv => whnf); refine ⟨trivial, ?_⟩; (conv => whnf); exact fun p np => ⟨_, SubH.refl _, q p np⟩
    | load d a b => refine ⟨.load d a b, rfl, ?_⟩; (conv => whnf); refine ⟨(Nat.le_of_ble_eq_true rfl), ?_⟩; (conv => whnf); refine ⟨(Nat.le_of_ble_eq_true rfl), ?_⟩; (conv => whnf); refine ⟨trivial, ?_⟩; (conv => whnf); refine ⟨_, rfl, ?_⟩; (conv => whnf); refine ⟨h, SubH.refl h, ?_⟩; (conv => whnf); refine ⟨trivial, ?_⟩; (conv => whnf); refine ⟨_, rfl, ?_⟩; (conv => whnf); refine ⟨h, SubH.refl h, ?_⟩; (conv => whnf); refine ⟨trivial, ?_⟩; (conv => whnf); refine ⟨_, rfl, ?_⟩; (conv => whnf); refine ⟨h, SubH.refl h, ?_⟩; (conv => whnf); refine ⟨trivial, ?_⟩; (conv => whnf); exact fun p np => ⟨_, SubH.refl _, q p np⟩
    | store d a b => refine ⟨.store d a b, rfl, ?_⟩; (conv => whnf); refine ⟨(Nat.le_of_ble_eq_true rfl), ?_⟩; (conv => whnf); refine ⟨(Nat.le_of_ble_eq_true rfl), ?_⟩; (conv => whnf); refine ⟨trivial, ?_⟩; (conv => whnf); refine ⟨_, rfl, ?_⟩; (conv => whnf); refine ⟨h, SubH.refl h, ?_⟩; (conv => whnf); refine ⟨trivial, ?_⟩; (conv => whnf); refine ⟨_, rfl, ?_⟩; (conv => whnf); refine ⟨h, SubH.refl h, ?_⟩; (conv => whnf); refine ⟨trivial, ?_⟩; (conv => whnf); refine ⟨_, rfl, ?_⟩; (conv => whnf); refine ⟨h, SubH.refl h, ?_⟩; (conv => whnf); refine ⟨trivial, ?_⟩; (conv => whnf); exact fun p np => ⟨_, SubH.refl _, q p np⟩
    | br c d a b => refine ⟨.br c d a b, rfl, ?_⟩; (conv => whnf); refine ⟨(Nat.le_of_ble_eq_true rfl), ?_⟩; (conv => whnf); refine ⟨(Nat.le_of_ble_eq_true rfl), ?_⟩; (conv => whnf); refine ⟨trivial, ?_⟩; (conv => whnf); refine ⟨_, rfl, ?_⟩; (conv => whnf); refine ⟨h, SubH.refl h, ?_⟩; (conv => whnf); refine ⟨trivial, ?_⟩; (conv => whnf); refine ⟨_, rfl, ?_⟩; (conv => whnf); refine ⟨h, SubH.refl h, ?_⟩; (conv => whnf); refine ⟨trivial, ?_⟩; (conv => whnf); refine ⟨_, rfl, ?_⟩; (conv => whnf); refine ⟨h, SubH.refl h, ?_⟩; (conv => whnf); refine ⟨trivial, ?_⟩; (conv => whnf); exact fun p np => ⟨_, SubH.refl _, q p np⟩
end K40
end

section
set_option Elab.async false
set_option linter.all false
set_option maxRecDepth 100000
set_option maxHeartbeats 4000000
/-! K40w4: the walks: who wrote last, places. -/
namespace K40
open PySem (Str Addr)
open AR
variable {bt : Bits}
theorem sorted2 {a b x y : Int} (h : a < b) {js : List Int} (p : js.Perm [a, b]) (s : js.Pairwise (· ≤ ·)) : js = [a, b] := by
  have hp : [a, b].Pairwise (· ≤ · : Int → Int → Prop) := by simp; omega
  exact p.eq_of_pairwise (le := (· ≤ ·)) (fun x y _ _ h1 h2 => by omega) s hp
theorem reads_keys (l : List Nat) (hl : l.length ≤ 2) : ∃ ks : List Nat, ((l.filter fun a => decide (a ≠ 0)).foldl (fun acc (a : Nat) => putD acc (Sum.inl (a : Int) : Ky) (D.bl true)) []).map (fun kv => dKy kv.1) = ks.map nD ∧ ks.length ≤ 2 ∧ ∀ js : List Int, js.Perm (ks.map fun (k : Nat) => (k : Int)) → js.Pairwise (· ≤ ·) → js = (srt l).map fun (k : Nat) => (k : Int) := by
  match l, hl with
  | [], _ => exact ⟨[], rfl, by simp, fun js p s => by simpa [srt] using p⟩
  | [a], _ =>
    by_cases c : a = 0
    · subst c
      exact ⟨[], rfl, by simp, fun js p s => by simpa [srt] using p⟩
    · refine ⟨[a], by simp [c, putD, dKy], by simp, fun js p s => ?_⟩
      simpa [srt, c] using p
  | [a, b], _ =>
    by_cases c : a = 0
    · subst c
      by_cases d : b = 0
      · subst d
        exact ⟨[], rfl, by simp, fun js p s => by simpa [srt] using p⟩
      · refine ⟨[b], by simp [d, putD, dKy], by simp, fun js p s => ?_⟩
        simpa [srt, d] using p
    · by_cases d : b = 0
      · subst d
        refine ⟨[a], by simp [c, putD, dKy], by simp, fun js p s => ?_⟩
        simpa [srt, c] using p
      · by_cases e : b = a
        · subst e
          refine ⟨[b], by simp [c, putD, dKy], by simp, fun js p s => ?_⟩
          simpa [srt, c] using p
        · have e' : ¬ ((a : Int) = b) := by omega
          refine ⟨[a, b], by simp [c, d, putD, dKy, e'], by simp, fun js p s => ?_⟩
          by_cases f : a < b
          · have : srt [a, b] = [a, b] := by simp [srt, c, d, e, f]
            rw [this]
            have p : js.Perm [(a : Int), (b : Int)] := p
            exact sorted2 (a := (a : Int)) (b := (b : Int)) (x := 0) (y := 0) (by omega) p s
          · have : srt [a, b] = [b, a] := by simp [srt, c, d, e, f]
            rw [this]
            have p : js.Perm [(a : Int), (b : Int)] := p
            exact sorted2 (a := (b : Int)) (b := (a : Int)) (x := 0) (y := 0) (by omega) (p.trans (List.Perm.swap _ _ _)) s
theorem rdf_two (o : Op) : o.rdf.length ≤ 2 := by cases o <;> simp [Op.rdf]
theorem ints_nat (xs : List Nat) : AR.intsD (xs.map nD) = some (xs.map fun (k : Nat) => (k : Int)) := intsD_map (fun (k : Nat) => (k : Int)) xs
theorem int_nat (xs : List Nat) : (xs.map fun (k : Nat) => (k : Int)).map D.int = xs.map nD := by rw [List.map_map]; rfl
theorem p_reads : Keeps bt (C40 bt) b_reads N_reads.length 1 S_reads := by
  rintro ds h Q E ⟨o, rfl, q⟩
  refine ⟨rfl, ?_⟩
  (conv => whnf)
  refine ⟨o, .inl ⟨rfl, fun p np => ?_⟩⟩
  (conv => whnf)
  rw [hup_same]
  (conv => whnf)
  refine ⟨by have := rdf_two o; rw [List.length_map]; unfold big; omega, dcL_pure nD (fun a => Sum.inl (a : Int)) nD (fun _ => .bl true) (fun a => decide (a ≠ 0)) hup_same (fun a ha => ⟨_, rfl, fun K r => ?_, fun c => ⟨rfl, fun K r => r, fun K r => r⟩⟩) ?_⟩
  · (conv => whnf)
    rw [show (!decide (Fl.num (a : Int) = Fl.num 0)) = decide (a ≠ 0) by simp]
    exact r
  · (conv => whnf)
    intro p2 np2
    (conv => whnf)
    rw [itemsOf_k hup_same]
    (conv => whnf)
    rw [keysOf_k hup_same]
    (conv => whnf)
    obtain ⟨ks, e1, e2, e3⟩ := reads_keys o.rdf (rdf_two o)
    rw [e1, ints_nat]
    (conv => whnf)
    refine ⟨by rw [List.length_map]; unfold big; omega, fun js p s => ?_⟩
    (conv => whnf)
    rw [e3 js p s, int_nat]
    exact ⟨h, ((SubH.refl h).new np).new np2, q⟩
theorem look_put (kvs : List (Ky × D)) (k j : Ky) (v : D) : look (putD kvs k v) j = if j = k then some v else look kvs j := by
  unfold putD
  by_cases c : kvs.any (fun kv => decide (kv.1 = k)) = true
  · rw [if_pos c]
    induction kvs with
    | nil => simp at c
    | cons a r ih =>
      unfold look
      rw [List.map_cons, List.find?_cons, List.find?_cons]
      by_cases d : a.1 = k
      · rw [if_pos d]
        by_cases e : j = k
        · subst e
          simp [d]
        · rw [if_neg e]
          have q : ¬ (k = j) := fun z => e z.symm
          simp only [d, q, decide_false]
          have : ∀ r : List (Ky × D), (r.map fun kv => if kv.1 = k then (kv.1, v) else kv).find? (fun kv => decide (kv.1 = j)) = r.find? (fun kv => decide (kv.1 = j)) := by
            intro r
            induction r with
            | nil => rfl
            | cons b r ih =>
              rw [List.map_cons, List.find?_cons, List.find?_cons, ih]
              by_cases f : b.1 = k
              · rw [if_pos f]; simp only [f, q, decide_false]
              · rw [if_neg f]
          rw [this]
      · rw [if_neg d]
        have c' : r.any (fun kv => decide (kv.1 = k)) = true := by simpa [d] using c
        have ih := ih c'
        unfold look at ih
        by_cases e : a.1 = j
        · simp only [e, decide_true]
          rw [if_neg (fun z => d (e.trans z))]
        · simp only [e, decide_false]
          exact ih
  · rw [if_neg c]
    unfold look
    rw [List.find?_append]
    by_cases e : j = k
    · subst e
      rw [if_pos rfl]
      have : kvs.find? (fun kv => decide (kv.1 = j)) = none := by
        rw [List.find?_eq_none]
        intro x hx z
        exact c (List.any_eq_true.mpr ⟨x, hx, z⟩)
      rw [this]
      simp
    · rw [if_neg e]
      have q : ¬ (k = j) := fun z => e z.symm
      simp [q]
theorem put_len (kvs : List (Ky × D)) (k : Ky) (v : D) : (putD kvs k v).length ≤ kvs.length + 1 := by
  unfold putD
  split <;> simp
/-- last_writers' loop: at k -/
def LwI (b : Blk) (h : Hd) (l f : Addr) (k : Nat) (σ : Sg) (h' : Hd) : Prop :=
  ∃ (kvs : List (Ky × D)) (qs : List Addr), σ = [some (blkD b), some (.ref l), some (.ref f), none, none] ∧ SubH h h' ∧ (h l = none ∧ h f = none ∧ l ≠ f) ∧ h' l = some (.dK kvs) ∧ h' f = some (.lst (qs.map .ref)) ∧ qs.length = k ∧ kvs.length ≤ k ∧ (∀ r : Nat, look kvs (.inl (r : Int)) = (lw b k r).map nD) ∧ ∀ j q, qs[j]? = some q → q ≠ l ∧ q ≠ f ∧ LwAt b h h' j q
theorem p_last_writers : Keeps bt (C40 bt) b_last_writers N_last_writers.length 1 S_last_writers := by
  rintro ds h Q E ⟨b, rfl, bk, q⟩
  refine ⟨rfl, ?_⟩
  (conv => whnf)
  refine ⟨[], rfl, ?_⟩
  intro l nl
  (conv => whnf)
  intro f nf
  (conv => whnf)
  obtain ⟨fl, nf'⟩ := hup_none nf
  refine ⟨by simp; have := bk.few; unfold big; omega, ?_⟩
  (conv => whnf)
  refine ⟨by simp; have := bk.few; unfold big; omega, forL_inv (LwI b h l f) ?_ ?_ ?_⟩
  · exact ⟨[], [], rfl, ((SubH.refl h).new nl).new nf, ⟨nl, nf', Ne.symm fl⟩, hup_of (Ne.symm fl) hup_same, hup_same, rfl, Nat.le_refl _, fun r => rfl, fun j q e => by simp at e⟩
  · rintro k d σ h' K e ⟨kvs, qs, rfl, s, ⟨n1, n2, n3⟩, e1, e2, e3, e4, e5, e6⟩ kk
    obtain ⟨o, eo, rfl⟩ := enum_get e
    refine ⟨trivial, ?_⟩
    (conv => whnf)
    rw [e2]
    (conv => whnf)
    refine ⟨rfl, ?_⟩
    (conv => whnf)
    rw [e1]
    (conv => whnf)
    intro p np
    (conv => whnf)
    have pf : f ≠ p := new_ne np e2
    have pl : l ≠ p := new_ne np e1
    have kl : k < b.length := by
      by_cases z : k < b.length
      · exact z
      · rw [List.getElem?_eq_none (by omega)] at eo; cases eo
    have ao := at_get eo
    have few := bk.few
    rw [hup_of pf e2]
    (conv => whnf)
    refine ⟨by rw [List.length_map]; unfold big; omega, ?_⟩
    have fin : ∀ (kvs' : List (Ky × D)) (h2 : Hd), kvs'.length ≤ k + 1 → (∀ r : Nat, look kvs' (.inl (r : Int)) = (lw b (k + 1) r).map nD) → h2 l = some (.dK kvs') → (∀ a, a ≠ l → h2 a = hup (hup h' p (.dK kvs)) f (.lst (qs.map .ref ++ [.ref p])) a) → K [some (blkD b), some (.ref l), some (.ref f), some (nD k), some o.dat] h2 := by
      intro kvs' h2 a1 a2 a3 a4
      have s2 : SubH h h2 := fun a c ha => by
        have al : a ≠ l := fun z => by rw [z, n1] at ha; cases ha
        have af : a ≠ f := fun z => by rw [z, n2] at ha; cases ha
        have ap : a ≠ p := new_ne np (s a c ha)
        rw [a4 a al, hup_ne af, hup_ne ap]
        exact s a c ha
      refine kk _ h2 [some (blkD b), some (.ref l), some (.ref f), none, none] h2 (.same (.same (.same (.drop (.drop .nil))))) (SubH.refl _) ⟨kvs', qs ++ [p], rfl, s2, ⟨n1, n2, n3⟩, a3, ?_, by simp [e3], a1, a2, ?_⟩
      · rw [a4 f (Ne.symm n3), hup_same]; simp
      · intro j q e
        by_cases z : j < qs.length
        · rw [List.getElem?_append_left z] at e
          obtain ⟨b1, b2, b3, b4⟩ := e6 j q e
          obtain ⟨kv, b5, b6⟩ := b4
          refine ⟨b1, b2, b3, kv, ?_, b6⟩
          rw [a4 q b1, hup_ne b2, hup_ne (new_ne np b5)]
          exact b5
        · have z' : j = qs.length := by
            by_cases z2 : j = qs.length
            · exact z2
            · rw [List.getElem?_eq_none (by simp; omega)] at e; cases e
          subst z'
          simp at e
          subst e
          refine ⟨Ne.symm pl, Ne.symm pf, ?_, kvs, ?_, ?_⟩
          · cases c : h p with
            | none => rfl
            | some c' => rw [s p c' c] at np; cases np
          · rw [a4 p (Ne.symm pl), hup_ne (Ne.symm pf), hup_same]
          · rw [e3]; exact e5
    (conv => whnf)
    refine ⟨o, rfl, ?_⟩
    (conv => whnf)
    by_cases c : o.wr = 0
    · rw [show (!decide (Fl.num (o.wr : Int) = Fl.num 0)) = false by simp [c]]
      (conv => whnf)
      refine fin kvs _ (by omega) (fun r => ?_) (hup_of n3 (hup_of pl e1)) (fun a _ => rfl)
      rw [lw_succ b k r kl, ao, if_neg (fun z => z.2 (z.1.symm.trans c))]
      exact e5 r
    · rw [show (!decide (Fl.num (o.wr : Int) = Fl.num 0)) = true by simp; omega]
      (conv => whnf)
      refine ⟨o, rfl, ?_⟩
      (conv => whnf)
      rw [hup_of n3 (hup_of pl e1)]
      (conv => whnf)
      rw [hup_of n3 (hup_of pl e1)]
      (conv => whnf)
      refine ⟨by unfold big; omega, ?_⟩
      (conv => whnf)
      refine fin (putD kvs (.inl (o.wr : Int)) (nD k)) _ (Nat.le_trans (put_len _ _ _) (by omega)) (fun r => ?_) hup_same (fun a ha => hup_ne ha)
      rw [look_put, lw_succ b k r kl, ao, e5 r]
      by_cases d : o.wr = r
      · subst d
        rw [if_pos rfl, if_pos ⟨rfl, c⟩]; rfl
      · rw [if_neg (fun z => by injection z with z; omega), if_neg (fun z => d z.1)]
  · rintro σ h' ⟨kvs, qs, rfl, s, ⟨n1, n2, n3⟩, e1, e2, e3, e4, e5, e6⟩
    refine ⟨trivial, ?_⟩
    (conv => whnf)
    refine ⟨h', SubH.refl _, q f qs h' s n2 e2 (by simpa using e3) fun j p e => (e6 j p e).2.2⟩
end K40
end

section
set_option Elab.async false
set_option linter.all false
set_option maxRecDepth 100000
set_option maxHeartbeats 4000000
/-! K40w5: the walks: places that may be one. -/
namespace K40
open PySem (Str Addr)
open AR
variable {bt : Bits}
theorem atB {b : Blk} {k : Nat} (h : k < b.length) : atD (b.map Op.dat) (k : Int) = some (at! b k).dat := atD_map (get_at h)
theorem p_place_of : Keeps bt (C40 bt) b_place_of N_place_of.length 2 S_place_of := by
  rintro ds h Q E ⟨b, k, rfl, bk, kl, km, q⟩
  refine ⟨rfl, ?_⟩
  (conv => whnf)
  rw [atB kl]
  have key : ∀ (o : Op) (a n : Nat), at! b k = o → o.spot = (a, n) → Q (.tup [nD a, optN (lw b k a), nD n]) h := by
    rintro o a n e1 e2
    rw [e1, e2] at q
    exact q
  cases e : at! b k with
  | load d a n =>
    have q := key _ a n e rfl
    (conv => whnf)
    refine ⟨rfl, ?_⟩
    (conv => whnf)
    by_cases c : a = 0
    · rw [show (!decide (Fl.num (a : Int) = Fl.num 0)) = false by simp [c]]
      (conv => whnf)
      rw [c, lw_r0] at q
      rw [c]
      exact ⟨h, SubH.refl h, q⟩
    · rw [show (!decide (Fl.num (a : Int) = Fl.num 0)) = true by simp; omega]
      (conv => whnf)
      refine ⟨b, rfl, bk, fun p qs h' s n1 e1 e2 e3 => ?_⟩
      (conv => whnf)
      rw [e1]
      (conv => whnf)
      obtain ⟨p2, e4⟩ : ∃ p2, qs[k]? = some p2 := ⟨_, List.getElem?_eq_getElem (by omega)⟩
      rw [atD_map (enc := .ref) e4]
      (conv => whnf)
      obtain ⟨n2, kvs, e5, e6⟩ := e3 k p2 e4
      rw [e5]
      (conv => whnf)
      refine ⟨rfl, ?_⟩
      (conv => whnf)
      rw [e5]
      (conv => whnf)
      refine ⟨h, s, ?_⟩
      have : (look kvs (Sum.inl (a : Int))).getD .non = optN (lw b k a) := by
        rw [e6 a]
        cases lw b k a <;> rfl
      rw [this]
      exact q
  | store a n d =>
    have q := key _ a n e rfl
    (conv => whnf)
    refine ⟨rfl, ?_⟩
    (conv => whnf)
    by_cases c : a = 0
    · rw [show (!decide (Fl.num (a : Int) = Fl.num 0)) = false by simp [c]]
      (conv => whnf)
      rw [c, lw_r0] at q
      rw [c]
      exact ⟨h, SubH.refl h, q⟩
    · rw [show (!decide (Fl.num (a : Int) = Fl.num 0)) = true by simp; omega]
      (conv => whnf)
      refine ⟨b, rfl, bk, fun p qs h' s n1 e1 e2 e3 => ?_⟩
      (conv => whnf)
      rw [e1]
      (conv => whnf)
      obtain ⟨p2, e4⟩ : ∃ p2, qs[k]? = some p2 := ⟨_, List.getElem?_eq_getElem (by omega)⟩
      rw [atD_map (enc := .ref) e4]
      (conv => whnf)
      obtain ⟨n2, kvs, e5, e6⟩ := e3 k p2 e4
      rw [e5]
      (conv => whnf)
      refine ⟨rfl, ?_⟩
      (conv => whnf)
      rw [e5]
      (conv => whnf)
      refine ⟨h, s, ?_⟩
      have : (look kvs (Sum.inl (a : Int))).getD .non = optN (lw b k a) := by
        rw [e6 a]
        cases lw b k a <;> rfl
      rw [this]
      exact q
  | _ => rw [e] at km; cases km
def optF : Option Nat → Fl
  | none => .non
  | some i => .num i
theorem fl_optN (x : Option Nat) : fl0 7 (optN x) = some (optF x) := by cases x <;> rfl
theorem flr_cut2 (h : Hd) (a n : Nat) (o : Option Nat) : flr h (.val (.tup (cut [nD a, optN o, nD n] none (some 2)))) = some (Fl.tup [.num a, optF o]) := by cases o <;> rfl
theorem p_are_apart : Keeps bt (C40 bt) b_are_apart N_are_apart.length 3 S_are_apart := by
  rintro ds h Q E ⟨b, i, j, rfl, bk, ⟨il, jl⟩, ⟨im, jm⟩, q⟩
  refine ⟨rfl, ?_⟩
  (conv => whnf)
  refine ⟨b, i, rfl, bk, il, im, ?_⟩
  (conv => whnf)
  refine ⟨b, j, rfl, bk, jl, jm, ?_⟩
  (conv => whnf)
  rw [flr_cut2, flr_cut2]
  (conv => whnf)
  unfold apart at q
  have ei : ∀ (x y : Option Nat), optF x = optF y ↔ x = y := by
    intro x y
    cases x <;> cases y <;> simp [optF] <;> omega
  by_cases c : (at! b i).spot.1 = (at! b j).spot.1 ∧ lw b i (at! b i).spot.1 = lw b j (at! b j).spot.1
  · rw [show decide (Fl.tup [.num ((at! b i).spot.1 : Int), optF (lw b i (at! b i).spot.1)] = Fl.tup [.num ((at! b j).spot.1 : Int), optF (lw b j (at! b j).spot.1)]) = true from decide_eq_true (by rw [c.1]; rw [c.1] at c; rw [c.2])]
    (conv => whnf)
    refine ⟨by decide, ?_⟩
    (conv => whnf)
    refine ⟨h, SubH.refl h, ?_⟩
    have e : (!decide (Fl.num ((((at! b i).spot.2 : Int) - (at! b j).spot.2) % 65536) = Fl.num 0)) = decide (((at! b i).spot.1 = (at! b j).spot.1 ∧ lw b i (at! b i).spot.1 = lw b j (at! b j).spot.1) ∧ ((((at! b i).spot.2 : Int) - (at! b j).spot.2) % 65536 ≠ 0)) := by
      rw [Bool.eq_iff_iff]
      simp only [Bool.not_eq_true', decide_eq_false_iff_not, decide_eq_true_eq, Fl.num.injEq]
      exact ⟨fun z => ⟨c, z⟩, fun z => z.2⟩
    rw [e]
    exact q
  · rw [show decide (Fl.tup [.num ((at! b i).spot.1 : Int), optF (lw b i (at! b i).spot.1)] = Fl.tup [.num ((at! b j).spot.1 : Int), optF (lw b j (at! b j).spot.1)]) = false from decide_eq_false (by
      simp only [Fl.tup.injEq, List.cons.injEq, Fl.num.injEq, and_true, ei]
      intro z
      exact c ⟨by omega, z.2⟩)]
    (conv => whnf)
    refine ⟨h, SubH.refl h, ?_⟩
    rw [decide_eq_false (fun z => c z.1)] at q
    exact q
theorem p_touch_alike : Keeps bt (C40 bt) b_touch_alike N_touch_alike.length 3 S_touch_alike := by
  rintro ds h Q E ⟨b, i, j, rfl, bk, ⟨il, jl⟩, q⟩
  refine ⟨rfl, ?_⟩
  obtain ⟨r1, e1⟩ := dat_word (at! b i)
  obtain ⟨r2, e2⟩ := dat_word (at! b j)
  (conv => whnf)
  rw [atB il, e1]
  (conv => whnf)
  rw [atB jl, e2]
  (conv => whnf)
  refine ⟨(Nat.le_of_ble_eq_true rfl), lcL_map (fun w => D.str w) (fun w => .bl (inL (.str w) [.str "load", .str "store"])) (items := [(at! b i).word, (at! b j).word]) trivial (fun w hw => ⟨_, rfl, fun K r => r, fun K r => ?_⟩) ?_⟩
  · (conv => whnf)
    exact r
  · (conv => whnf)
    rw [in_mem, in_mem]
    unfold touch at q
    cases c1 : (at! b i).mem with
    | false =>
      (conv => whnf)
      rw [c1] at q
      exact ⟨h, SubH.refl h, q⟩
    | true =>
      cases c2 : (at! b j).mem with
      | false =>
        (conv => whnf)
        rw [c1, c2] at q
        exact ⟨h, SubH.refl h, q⟩
      | true =>
        (conv => whnf)
        rw [c1, c2] at q
        have e3 : decide (Fl.tup [.str (at! b i).word, .str (at! b j).word] = Fl.tup [.str "load", .str "load"]) = ((at! b i).isLoad && (at! b j).isLoad) := by
          rw [← is_load, ← is_load]
          simp
        rw [e3]
        cases c3 : ((at! b i).isLoad && (at! b j).isLoad) with
        | true =>
          (conv => whnf)
          rw [c3] at q
          exact ⟨h, SubH.refl h, q⟩
        | false =>
          (conv => whnf)
          rw [c3] at q
          refine ⟨b, i, j, rfl, bk, ⟨il, jl⟩, ⟨c1, c2⟩, ?_⟩
          (conv => whnf)
          exact ⟨h, SubH.refl h, q⟩
end K40
end

section
set_option Elab.async false
set_option linter.all false
set_option maxRecDepth 100000
set_option maxHeartbeats 4000000
/-! K40w6: the walk: depends. -/
namespace K40
open PySem (Str Addr)
open AR
variable {bt : Bits}
theorem atB' {b : Blk} {k : Nat} (h : k < b.length) : atD (b.map Op.dat) (k : Int) = some (at! b k).dat := atD_map (get_at h)
/-- the pairs of the registers read so far -/
def VO (b : Blk) (k : Nat) (rs : List Nat) (p : Pr) : Prop := ∃ r ∈ rs, (∃ i, lw b k r = some i ∧ p = (i, k, .value)) ∨ (∃ j, j ∈ later b k r ∧ p = (k, j, .over))
def Before (b : Blk) (k : Nat) (p : Pr) : Prop := ∃ k', k' < k ∧ inC b k' p
theorem p_depends : Keeps bt (C40 bt) b_depends N_depends.length 1 S_depends := by
  rintro ds h Q E ⟨b, rfl, bk, q⟩
  refine ⟨rfl, ?_⟩
  have few := bk.few
  (conv => whnf)
  refine ⟨b, rfl, bk, ?_⟩
  (conv => whnf)
  refine ⟨rfl, fun f nf => ?_⟩
  (conv => whnf)
  refine ⟨b, rfl, bk, fun W qs h' s1 n1 e1 e2 e3 => ?_⟩
  (conv => whnf)
  obtain ⟨Wf, nW⟩ := hup_none n1
  have D0 : Dh b h f W qs h' fun _ => False := {
    sub := fun a c e => s1 a c (by rw [hup_ne (new_ne nf e)]; exact e)
    f0 := nf
    w0 := nW
    ne := Wf
    kv := ⟨[], s1 f _ hup_same, St.nil⟩
    w := e1
    len := e2
    lw := fun j q e => by
      obtain ⟨a, kvs, s, t⟩ := e3 j q e
      exact ⟨(hup_none a).1, kvs, s, t⟩ }
  refine ⟨by simp; unfold big; omega, ?_⟩
  (conv => whnf)
  refine ⟨by simp; unfold big; omega, ?_⟩
  refine forL_inv (fun k σ h' => σ = [some (blkD b), some (.ref f), some (.ref W), none, none, none, none, none, none, none] ∧ Dh b h f W qs h' (Before b k)) ⟨rfl, D0.congr fun p => ⟨fun z => z.elim, fun ⟨k, z, _⟩ => absurd z (by omega)⟩⟩ ?_ ?_
  · clear D0 s1 n1 e1 e2 e3 h'
    rintro k d σ h' K e ⟨rfl, D1⟩ kk
    obtain ⟨o, eo, rfl⟩ := enum_get e
    have kl : k < b.length := by
      by_cases z : k < b.length
      · exact z
      · rw [List.getElem?_eq_none (by omega)] at eo; cases eo
    have ao := at_get eo
    refine ⟨trivial, ?_⟩
    (conv => whnf)
    refine ⟨o, rfl, ?_⟩
    (conv => whnf)
    have r2 : o.rds.length ≤ 2 := by cases o <;> simp [Op.rds, Op.rdf, srt] <;> (repeat' split) <;> simp
    refine ⟨by simp; unfold big; omega, ?_⟩
    obtain ⟨wq, ew⟩ : ∃ wq, qs[k]? = some wq := ⟨_, List.getElem?_eq_getElem (by rw [D1.len]; exact kl)⟩
    refine forL_inv (fun m σ h' => σ = [some (blkD b), some (.ref f), some (.ref W), some (nD k), some o.dat, none, none, none, none, none] ∧ Dh b h f W qs h' (fun p => Before b k p ∨ VO b k (o.rds.take m) p)) ?_ ?_ ?_
    · exact ⟨rfl, D1.congr fun p => ⟨.inl, fun z => z.elim id fun ⟨r, z, _⟩ => by simp at z⟩⟩
    · rintro m d σ h2 K2 e ⟨rfl, D2⟩ kk2
      refine ⟨trivial, ?_⟩
      obtain ⟨r, er, rfl⟩ : ∃ r, o.rds[m]? = some r ∧ d = nD r := by
        rw [List.getElem?_map] at e
        cases z : o.rds[m]? with
        | none => rw [z] at e; cases e
        | some r => rw [z] at e; cases e; exact ⟨r, rfl, rfl⟩
      refine wp_cut (bt := bt) (C := C40 bt) (fun σ h3 => σ = [some (blkD b), some (.ref f), some (.ref W), some (nD k), some o.dat, some (nD r), none, none, none, none] ∧ Dh b h f W qs h3 fun p => (Before b k p ∨ VO b k (o.rds.take m) p) ∨ ∃ i, lw b k r = some i ∧ p = (i, k, .value)) ?_ ?_
      · intro K3 kk3
        (conv => whnf)
        rw [D2.w]
        (conv => whnf)
        rw [atD_map (enc := .ref) ew]
        (conv => whnf)
        obtain ⟨wf, wkv, e4, e5⟩ := D2.lw k wq ew
        rw [e4]
        (conv => whnf)
        rw [e4]
        (conv => whnf)
        rw [e5 r]
        rcases elw' : lw b k r with _ | i
        · (conv => whnf)
          refine kk3 _ _ ⟨rfl, D2.congr fun p => ?_⟩
          rw [elw']
          constructor
          · exact .inl
          · rintro (z | ⟨j, z1, z2⟩)
            · exact z
            · cases z1
        · have elw := elw'
          (conv => whnf)
          rw [D2.w]
          (conv => whnf)
          rw [atD_map (enc := .ref) ew]
          (conv => whnf)
          rw [e4]
          (conv => whnf)
          rw [e4]
          (conv => whnf)
          rw [e5 r, elw]
          (conv => whnf)
          obtain ⟨kvs, e6, s6⟩ := D2.kv
          rw [e6]
          (conv => whnf)
          rw [e6]
          (conv => whnf)
          have := s6.len
          have il := lw_lt elw
          refine ⟨by unfold big; omega, ?_⟩
          refine kk3 _ _ ⟨rfl, ?_⟩
          have s7 := s6.put (i, k, .value) (.bl true) (by show i < 24; omega) (by show k < 24; omega)
          refine (D2.set s7).congr fun p => ?_
          rw [elw]
          constructor
          · rintro (z | z)
            · exact .inl z
            · exact .inr ⟨i, rfl, z⟩
          · rintro (z | ⟨j, z1, z2⟩)
            · exact .inl z
            · cases z1; exact .inr z2
      · rintro σ h3 ⟨rfl, D3⟩
        have sl : some (blkD b) = some (blkD b) := rfl
        refine wp_cut (bt := bt) (C := C40 bt) (fun σ h4 => ∃ p1, σ = [some (blkD b), some (.ref f), some (.ref W), some (nD k), some o.dat, some (nD r), none, none, some (.ref p1), none] ∧ p1 ≠ f ∧ h4 p1 = some (.lst ((js b k r).map nD)) ∧ Dh b h f W qs h4 fun p => (Before b k p ∨ VO b k (o.rds.take m) p) ∨ ∃ i, lw b k r = some i ∧ p = (i, k, .value)) ?_ ?_
        · intro K3 kk3
          (conv => whnf)
          refine ⟨by simp; unfold big; omega, ?_⟩
          (conv => whnf)
          have en : (((b.map Op.dat).length : Int) - (k : Int)).toNat = b.length - k := by rw [List.length_map]; omega
          rw [en]
          refine ⟨by simp; unfold big; omega, ?_⟩
          refine lcL_pure (fun (m : Nat) => D.int ((k : Int) + (m : Int))) (fun (m : Nat) => D.int ((k : Int) + (m : Int))) (fun m => decide ((at! b (k + m)).wr = r)) trivial (fun a ha => ⟨_, rfl, fun K z => ?_, fun _ K z => z⟩) ?_
          · rw [List.mem_range] at ha
            (conv => whnf)
            rw [show (k : Int) + (a : Int) = ((k + a : Nat) : Int) by omega, atB' (show k + a < b.length by omega)]
            (conv => whnf)
            refine ⟨_, rfl, ?_⟩
            (conv => whnf)
            rw [dec_num]
            exact z
          · rw [List.nil_append, show (((List.range (b.length - k)).filter fun m => decide ((at! b (k + m)).wr = r)).map fun (m : Nat) => D.int ((k : Int) + (m : Int))) = (js b k r).map nD from by
              rw [← js_from]; exact List.map_congr_left fun m _ => rfl]
            (conv => whnf)
            intro p1 np1
            (conv => whnf)
            refine kk3 _ _ ⟨p1, rfl, ?_, hup_same, D3.new np1 _⟩
            obtain ⟨kvs, e6, s6⟩ := D3.kv
            exact Ne.symm (new_ne np1 e6)
        · rintro σ h4 ⟨p1, rfl, pf1, e7, D4⟩
          refine wp_cut (bt := bt) (C := C40 bt) (fun σ h5 => ∃ p2, σ = [some (blkD b), some (.ref f), some (.ref W), some (nD k), some o.dat, some (nD r), none, none, some (.ref p2), none] ∧ p2 ≠ f ∧ h5 p2 = some (.lst ((later b k r).map nD)) ∧ Dh b h f W qs h5 fun p => (Before b k p ∨ VO b k (o.rds.take m) p) ∨ ∃ i, lw b k r = some i ∧ p = (i, k, .value)) ?_ ?_
          · intro K3 kk3
            (conv => whnf)
            rw [e7]
            (conv => whnf)
            rw [fl1s_nat]
            (conv => whnf)
            rw [inL_nat]
            by_cases c : k ∈ js b k r
            · rw [decide_eq_true c]
              (conv => whnf)
              intro p2 np2
              (conv => whnf)
              refine kk3 _ _ ⟨p2, rfl, ?_, ?_, D4.new np2 _⟩
              · obtain ⟨kvs, e6, s6⟩ := D4.kv
                exact Ne.symm (new_ne np2 e6)
              · rw [hup_same]
                unfold later
                rw [if_pos c]; rfl
            · rw [decide_eq_false c]
              (conv => whnf)
              rw [e7]
              (conv => whnf)
              refine ⟨by simp; have : (js b k r).length ≤ b.length := Nat.le_trans (List.length_filter_le _ _) (by simp); unfold big; omega, ?_⟩
              refine lcL_pure nD nD (fun j => decide (k < j)) e7 (fun a ha => ⟨_, rfl, fun K z => ?_, fun _ K z => z⟩) ?_
              · (conv => whnf)
                rw [dec_lt]
                exact z
              · rw [List.nil_append]
                (conv => whnf)
                rw [cut_one, ← List.map_take]
                intro p2 np2
                (conv => whnf)
                refine kk3 _ _ ⟨p2, rfl, ?_, ?_, D4.new np2 _⟩
                · obtain ⟨kvs, e6, s6⟩ := D4.kv
                  exact Ne.symm (new_ne np2 e6)
                · rw [hup_same]
                  unfold later
                  rw [if_neg c]
          · rintro σ h5 ⟨p2, rfl, pf2, e8, D5⟩
            (conv => whnf)
            obtain ⟨kvs, e6, s6⟩ := D5.kv
            rw [e6]
            (conv => whnf)
            refine ⟨rfl, ?_⟩
            (conv => whnf)
            rw [e8]
            (conv => whnf)
            have ll := later_len b k r
            refine ⟨by rw [List.length_map]; unfold big; omega, dcL_pure nD (fun j => Pr.ky (k, j, .over)) (fun j => Pr.dat (k, j, .over)) (fun _ => .bl true) (fun _ => true) e8 (fun a ha => ⟨_, rfl, fun K z => z, fun _ => ⟨rfl, fun K z => z, fun K z => z⟩⟩) ?_⟩
            rw [List.filter_eq_self.mpr fun _ _ => rfl]
            have ek := put_all (fun j => Pr.ky (k, j, .over)) (fun _ => D.bl true) (later b k r) [] (nodup_short (by rw [List.length_map]; exact ll)) (by simp)
            (conv => whnf)
            intro p3 np3
            (conv => whnf)
            have fp3 := new_ne np3 e6
            rw [hup_of fp3 e6, hup_same]
            (conv => whnf)
            have l6 := s6.len
            have l7 : ((later b k r).foldl (fun acc j => putD acc (Pr.ky (k, j, .over)) (D.bl true)) []).length ≤ 1 := by
              have := congrArg List.length ek
              simp only [List.length_map, List.length_append, List.length_nil] at this
              omega
            refine ⟨⟨fp3, by unfold big; omega, .inr (.inl (by rw [List.length_map]; exact l7))⟩, ?_⟩
            (conv => whnf)
            have s7 := s6.merge (ys := (later b k r).foldl (fun acc j => putD acc (Pr.ky (k, j, .over)) (D.bl true)) []) (qs := (later b k r).map fun j => (k, j, .over)) (by rw [ek, List.map_map]; rfl) (by
              intro q hq
              obtain ⟨j, hj, rfl⟩ := List.mem_map.mp hq
              have := nxt_lt ((later_ok b k r j).mp hj).1
              exact ⟨by show k < 24; omega, by show j < 24; omega⟩)
            refine kk2 _ _ [some (blkD b), some (.ref f), some (.ref W), some (nD k), some o.dat, none, none, none, none, none] _ (.same (.same (.same (.same (.same (.drop (.drop (.drop (.drop (.drop .nil)))))))))) (SubH.refl _) ⟨rfl, ((D5.new np3 _).set s7).congr fun p => ?_⟩
            have et : o.rds.take (m + 1) = o.rds.take m ++ [r] := by rw [List.take_add_one, er]; rfl
            rw [et]
            unfold VO
            constructor
            · rintro (((z | ⟨r', z1, z2⟩) | z) | z)
              · exact .inl z
              · exact .inr ⟨r', List.mem_append_left _ z1, z2⟩
              · exact .inr ⟨r, by simp, .inl z⟩
              · obtain ⟨j, hj, rfl⟩ := List.mem_map.mp z
                exact .inr ⟨r, by simp, .inr ⟨j, hj, rfl⟩⟩
            · rintro (z | ⟨r', z1, z2⟩)
              · exact .inl (.inl (.inl z))
              · rcases List.mem_append.mp z1 with z1 | z1
                · exact .inl (.inl (.inr ⟨r', z1, z2⟩))
                · simp at z1
                  subst z1
                  rcases z2 with z2 | ⟨j, z3, z4⟩
                  · exact .inl (.inr z2)
                  · exact .inr (List.mem_map.mpr ⟨j, z3, z4.symm⟩)
    · rintro σ h6 ⟨rfl, D6⟩
      refine ⟨trivial, ?_⟩
      have D6 : Dh b h f W qs h6 fun p => Before b k p ∨ VO b k o.rds p := by
        refine D6.congr fun p => ?_
        rw [List.take_of_length_le (by simp)]
      refine wp_cut (bt := bt) (C := C40 bt) (fun σ h7 => σ = [some (blkD b), some (.ref f), some (.ref W), some (nD k), some o.dat, none, none, none, none, none] ∧ Dh b h f W qs h7 fun p => (Before b k p ∨ VO b k o.rds p) ∨ ∃ i, o.wr ≠ 0 ∧ lw b k o.wr = some i ∧ p = (i, k, .again)) ?_ ?_
      · intro K3 kk3
        (conv => whnf)
        refine ⟨o, rfl, ?_⟩
        (conv => whnf)
        rw [D6.w]
        (conv => whnf)
        rw [atD_map (enc := .ref) ew]
        (conv => whnf)
        obtain ⟨wf, wkv, e4, e5⟩ := D6.lw k wq ew
        rw [e4]
        (conv => whnf)
        rw [e4]
        (conv => whnf)
        rw [e5 o.wr]
        rcases elw : lw b k o.wr with _ | i
        · (conv => whnf)
          refine kk3 _ _ ⟨rfl, D6.congr fun p => ?_⟩
          rw [elw]
          constructor
          · exact .inl
          · rintro (z | ⟨j, z0, z1, z2⟩)
            · exact z
            · cases z1
        · have il := lw_lt elw
          (conv => whnf)
          refine ⟨o, rfl, ?_⟩
          (conv => whnf)
          rw [show (!decide (Fl.num (o.wr : Int) = Fl.num 0)) = true by simp; exact il.2.2]
          (conv => whnf)
          rw [D6.w]
          (conv => whnf)
          rw [atD_map (enc := .ref) ew]
          (conv => whnf)
          refine ⟨o, rfl, ?_⟩
          (conv => whnf)
          rw [e4]
          (conv => whnf)
          rw [e4]
          (conv => whnf)
          rw [e5 o.wr, elw]
          (conv => whnf)
          obtain ⟨kvs, e6, s6⟩ := D6.kv
          rw [e6]
          (conv => whnf)
          rw [e6]
          (conv => whnf)
          have := s6.len
          refine ⟨by unfold big; omega, ?_⟩
          refine kk3 _ _ ⟨rfl, ?_⟩
          have s7 := s6.put (i, k, .again) (.bl true) (by show i < 24; omega) (by show k < 24; omega)
          refine (D6.set s7).congr fun p => ?_
          rw [elw]
          constructor
          · rintro (z | z)
            · exact .inl z
            · exact .inr ⟨i, il.2.2, rfl, z⟩
          · rintro (z | ⟨j, z0, z1, z2⟩)
            · exact .inl z
            · cases z1; exact .inr z2
      · rintro σ h7 ⟨rfl, D7⟩
        refine wp_cut (bt := bt) (C := C40 bt) (fun σ h8 => σ = [some (blkD b), some (.ref f), some (.ref W), some (nD k), some o.dat, none, none, none, none, none] ∧ Dh b h f W qs h8 fun p => ((Before b k p ∨ VO b k o.rds p) ∨ ∃ i, o.wr ≠ 0 ∧ lw b k o.wr = some i ∧ p = (i, k, .again)) ∨ ∃ i, i < k ∧ touch b i k = true ∧ p = (i, k, .place)) ?_ ?_
        · intro K3 kk3
          (conv => whnf)
          refine ⟨⟨by omega, by unfold big; omega⟩, ?_⟩
          (conv => whnf)
          refine ⟨by simp; unfold big; omega, ?_⟩
          refine forL_inv (fun m σ h8 => σ = [some (blkD b), some (.ref f), some (.ref W), some (nD k), some o.dat, none, none, none, none, none] ∧ Dh b h f W qs h8 fun p => ((Before b k p ∨ VO b k o.rds p) ∨ ∃ i, o.wr ≠ 0 ∧ lw b k o.wr = some i ∧ p = (i, k, .again)) ∨ ∃ i, i < m ∧ touch b i k = true ∧ p = (i, k, .place)) ?_ ?_ ?_
          · exact ⟨rfl, D7.congr fun p => ⟨.inl, fun z => z.elim id fun ⟨i, z, _⟩ => absurd z (by omega)⟩⟩
          · rintro m d σ h8 K4 e ⟨rfl, D8⟩ kk4
            have mk : m < k := by
              by_cases z : m < k
              · exact z
              · rw [List.getElem?_eq_none (by simp; omega)] at e; cases e
            have ed : d = nD m := by
              rw [List.getElem?_map, List.getElem?_range (by simpa using mk)] at e
              cases e; rfl
            subst ed
            refine ⟨trivial, ?_⟩
            (conv => whnf)
            refine ⟨b, m, k, rfl, bk, ⟨by omega, kl⟩, ?_⟩
            (conv => whnf)
            cases et : touch b m k with
            | false =>
              (conv => whnf)
              refine kk4 _ _ [some (blkD b), some (.ref f), some (.ref W), some (nD k), some o.dat, none, none, none, none, none] _ (.same (.same (.same (.same (.same (.drop (.drop (.drop (.drop (.drop .nil)))))))))) (SubH.refl _) ⟨rfl, D8.congr fun p => ?_⟩
              constructor
              · rintro (z | ⟨i, z1, z2⟩)
                · exact .inl z
                · exact .inr ⟨i, by omega, z2⟩
              · rintro (z | ⟨i, z1, z2, z3⟩)
                · exact .inl z
                · by_cases c : i = m
                  · subst c; rw [et] at z2; cases z2
                  · exact .inr ⟨i, by omega, z2, z3⟩
            | true =>
              (conv => whnf)
              obtain ⟨kvs, e6, s6⟩ := D8.kv
              rw [e6]
              (conv => whnf)
              rw [e6]
              (conv => whnf)
              have := s6.len
              refine ⟨by unfold big; omega, ?_⟩
              have s7 := s6.put (m, k, .place) (.bl true) (by show m < 24; omega) (by show k < 24; omega)
              refine kk4 _ _ [some (blkD b), some (.ref f), some (.ref W), some (nD k), some o.dat, none, none, none, none, none] _ (.same (.same (.same (.same (.same (.drop (.drop (.drop (.drop (.drop .nil)))))))))) (SubH.refl _) ⟨rfl, (D8.set s7).congr fun p => ?_⟩
              constructor
              · rintro ((z | ⟨i, z1, z2⟩) | z)
                · exact .inl z
                · exact .inr ⟨i, by omega, z2⟩
                · exact .inr ⟨m, by omega, et, z⟩
              · rintro (z | ⟨i, z1, z2, z3⟩)
                · exact .inl (.inl z)
                · by_cases c : i = m
                  · subst c; exact .inr z3
                  · exact .inl (.inr ⟨i, by omega, z2, z3⟩)
          · rintro σ h8 ⟨rfl, D8⟩
            refine ⟨trivial, kk3 _ _ ⟨rfl, D8.congr fun p => ?_⟩⟩
            simp
        · rintro σ h8 ⟨rfl, D8⟩
          let M8 : Pr → Prop := fun p => ((Before b k p ∨ VO b k o.rds p) ∨ ∃ i, o.wr ≠ 0 ∧ lw b k o.wr = some i ∧ p = (i, k, .again)) ∨ ∃ i, i < k ∧ touch b i k = true ∧ p = (i, k, .place)
          have D8 : Dh b h f W qs h8 M8 := D8
          refine wp_cut (bt := bt) (C := C40 bt) (fun σ h9 => ∃ p1, σ = [some (blkD b), some (.ref f), some (.ref W), some (nD k), some o.dat, none, none, some (.ref p1), none, none] ∧ h9 p1 = some (.lst (((List.range k).filter fun j => (at! b j).isTell).map nD)) ∧ Dh b h f W qs h9 M8) ?_ ?_
          · intro K3 kk3
            (conv => whnf)
            refine ⟨⟨by omega, by unfold big; omega⟩, ?_⟩
            (conv => whnf)
            refine ⟨by simp; unfold big; omega, ?_⟩
            rw [show ((k : Int)).toNat = k by simp]
            refine lcL_pure nD nD (fun j => (at! b j).isTell) trivial (fun a ha => ⟨_, rfl, fun K z => ?_, fun _ K z => z⟩) ?_
            · rw [List.mem_range] at ha
              (conv => whnf)
              rw [atB' (show a < b.length by omega)]
              obtain ⟨rs, e9⟩ := dat_word (at! b a)
              rw [e9]
              (conv => whnf)
              rw [is_tell]
              exact z
            · rw [List.nil_append]
              (conv => whnf)
              intro p1 np1
              (conv => whnf)
              exact kk3 _ _ ⟨p1, rfl, hup_same, D8.new np1 _⟩
          · rintro σ h9 ⟨p1, rfl, e9, D9⟩
            refine wp_cut (bt := bt) (C := C40 bt) (fun σ h9 => ∃ p1, σ = [some (blkD b), some (.ref f), some (.ref W), some (nD k), some o.dat, none, none, some (.ref p1), none, none] ∧ Dh b h f W qs h9 fun p => M8 p ∨ ∃ i, o.isTell = true ∧ lastTell b k = some i ∧ p = (i, k, .tell)) ?_ ?_
            · intro K3 kk3
              obtain ⟨rs, eo2⟩ := dat_word o
              rw [eo2]
              (conv => whnf)
              rw [is_tell]
              rw [← eo2]
              cases ot : o.isTell with
              | false =>
                (conv => whnf)
                refine kk3 _ _ ⟨p1, rfl, D9.congr fun p => ?_⟩
                rw [ot]
                simp
              | true =>
                (conv => whnf)
                rw [itemsOf_l e9]
                (conv => whnf)
                rcases el : lastTell b k with _ | i
                · have en : (List.range k).filter (fun j => (at! b j).isTell) = [] := List.getLast?_eq_none_iff.mp el
                  rw [en]
                  (conv => whnf)
                  refine kk3 _ _ ⟨p1, rfl, D9.congr fun p => ?_⟩
                  rw [el]
                  simp
                · have ei := lastTell_lt el
                  have en : ((List.range k).filter fun j => (at! b j).isTell).length ≠ 0 := by
                    intro z
                    unfold lastTell at el
                    rw [List.length_eq_zero_iff] at z
                    rw [z] at el
                    cases el
                  rw [decide_eq_true (show (0 : Int) < ((((List.range k).filter fun j => (at! b j).isTell).map nD).length : Int) by rw [List.length_map]; omega)]
                  (conv => whnf)
                  rw [e9]
                  (conv => whnf)
                  rw [atD_last (d := nD i) (by rw [List.getLast?_map]; unfold lastTell at el; rw [el]; rfl)]
                  (conv => whnf)
                  obtain ⟨kvs, e6, s6⟩ := D9.kv
                  rw [e6]
                  (conv => whnf)
                  rw [e6]
                  (conv => whnf)
                  have := s6.len
                  refine ⟨by unfold big; omega, ?_⟩
                  have s7 := s6.put (i, k, .tell) (.bl true) (by show i < 24; omega) (by show k < 24; omega)
                  refine kk3 _ _ ⟨p1, rfl, (D9.set s7).congr fun p => ?_⟩
                  rw [el]
                  constructor
                  · rintro (z | z)
                    · exact .inl z
                    · exact .inr ⟨i, ot, rfl, z⟩
                  · rintro (z | ⟨j, z0, z1, z2⟩)
                    · exact .inl z
                    · cases z1; exact .inr z2
            · rintro σ h9 ⟨p1, rfl, D9⟩
              have fin : ∀ h9 σ', (Dh b h f W qs h9 fun p => (M8 p ∨ ∃ i, o.isTell = true ∧ lastTell b k = some i ∧ p = (i, k, .tell)) ∨ ∃ i, i < k ∧ o.xfer = true ∧ p = (i, k, .last)) → SubS [some (blkD b), some (.ref f), some (.ref W), none, none, none, none, none, none, none] σ' → K σ' h9 := by
                intro h9 σ' D9 ss
                refine kk σ' h9 _ h9 ss (SubH.refl _) ⟨rfl, D9.congr fun p => ?_⟩
                have eb : Before b (k + 1) p ↔ Before b k p ∨ inC b k p := by
                  unfold Before
                  constructor
                  · rintro ⟨k', z1, z2⟩
                    by_cases c : k' = k
                    · subst c; exact .inr z2
                    · exact .inl ⟨k', by omega, z2⟩
                  · rintro (⟨k', z1, z2⟩ | z)
                    · exact ⟨k', by omega, z2⟩
                    · exact ⟨k, by omega, z⟩
                rw [eb]
                show ((((Before b k p ∨ VO b k o.rds p) ∨ ∃ i, o.wr ≠ 0 ∧ lw b k o.wr = some i ∧ p = (i, k, .again)) ∨ ∃ i, i < k ∧ touch b i k = true ∧ p = (i, k, .place)) ∨ _) ∨ _ ↔ _
                obtain ⟨i, j, w⟩ := p
                unfold VO inC
                rw [ao]
                cases w with
                | value =>
                  simp only [Prod.mk.injEq, reduceCtorEq, and_false, exists_false, or_false, and_true]
                  constructor
                  · rintro (z | ⟨r, z1, ⟨i', z2, z3, z4⟩⟩)
                    · exact .inl z
                    · subst z3; exact .inr ⟨z4, r, z1, z2⟩
                  · rintro (z | ⟨z1, r, z2, z3⟩)
                    · exact .inl z
                    · exact .inr ⟨r, z2, i, z3, rfl, z1⟩
                | over =>
                  simp only [Prod.mk.injEq, reduceCtorEq, and_false, exists_false, or_false, false_or, and_true]
                  constructor
                  · rintro (z | ⟨r, z1, ⟨j', z2, z3, z4⟩⟩)
                    · exact .inl z
                    · subst z4; exact .inr ⟨z3, r, z1, (later_ok b k r j).mp z2⟩
                  · rintro (z | ⟨z1, r, z2, z3⟩)
                    · exact .inl z
                    · exact .inr ⟨r, z2, j, (later_ok b k r j).mpr z3, z1, rfl⟩
                | again =>
                  simp only [Prod.mk.injEq, reduceCtorEq, and_false, exists_false, or_false, false_or, and_true]
                  constructor
                  · rintro (z | ⟨i', z0, z1, z2, z3⟩)
                    · exact .inl z
                    · subst z2; exact .inr ⟨z3, z0, z1⟩
                  · rintro (z | ⟨z1, z2, z3⟩)
                    · exact .inl z
                    · exact .inr ⟨i, z2, z3, rfl, z1⟩
                | place =>
                  simp only [Prod.mk.injEq, reduceCtorEq, and_false, exists_false, or_false, false_or, and_true]
                  constructor
                  · rintro (z | ⟨i', z0, z1, z2, z3⟩)
                    · exact .inl z
                    · subst z2; exact .inr ⟨z3, z0, z1⟩
                  · rintro (z | ⟨z1, z2, z3⟩)
                    · exact .inl z
                    · exact .inr ⟨i, z2, z3, rfl, z1⟩
                | tell =>
                  simp only [Prod.mk.injEq, reduceCtorEq, and_false, exists_false, or_false, false_or, and_true]
                  constructor
                  · rintro (z | ⟨i', z0, z1, z2, z3⟩)
                    · exact .inl z
                    · subst z2; exact .inr ⟨z3, z0, z1⟩
                  · rintro (z | ⟨z1, z2, z3⟩)
                    · exact .inl z
                    · exact .inr ⟨i, z2, z3, rfl, z1⟩
                | last =>
                  simp only [Prod.mk.injEq, reduceCtorEq, and_false, exists_false, or_false, false_or, and_true]
                  constructor
                  · rintro (z | ⟨i', z0, z1, z2, z3⟩)
                    · exact .inl z
                    · subst z2; exact .inr ⟨z3, z1, z0⟩
                  · rintro (z | ⟨z1, z2, z3⟩)
                    · exact .inl z
                    · exact .inr ⟨i, z3, z2, rfl, z1⟩
              obtain ⟨rs, eo2⟩ := dat_word o
              rw [eo2]
              (conv => whnf)
              rw [in_xfer]
              cases ox : o.xfer with
              | false =>
                (conv => whnf)
                refine fin _ _ (D9.congr fun p => ?_) (.same (.same (.same (.drop (.drop (.drop (.drop (.drop (.drop (.drop .nil))))))))))
                rw [ox]
                simp
              | true =>
                (conv => whnf)
                obtain ⟨kvs, e6, s6⟩ := D9.kv
                rw [e6]
                (conv => whnf)
                refine ⟨rfl, ?_⟩
                (conv => whnf)
                refine ⟨⟨by omega, by unfold big; omega⟩, ?_⟩
                (conv => whnf)
                rw [show ((k : Int)).toNat = k by simp]
                refine ⟨by simp; unfold big; omega, dcL_pure nD (fun i => Pr.ky (i, k, .last)) (fun i => Pr.dat (i, k, .last)) (fun _ => .bl true) (fun _ => true) trivial (fun a ha => ⟨_, rfl, fun K z => z, fun _ => ⟨rfl, fun K z => z, fun K z => z⟩⟩) ?_⟩
                rw [List.filter_eq_self.mpr fun _ _ => rfl]
                have nd : ((List.range k).map fun i => Pr.ky (i, k, .last)).Nodup := by
                  rw [List.nodup_iff_pairwise_ne, List.pairwise_map]
                  refine List.Pairwise.imp (fun {a c} hl e => ?_) List.pairwise_lt_range
                  have := Pr.ky_inj e
                  injection this with e1 _
                  omega
                have ek := put_all (fun i => Pr.ky (i, k, .last)) (fun _ => D.bl true) (List.range k) [] nd (by simp)
                rw [List.map_nil, List.nil_append] at ek
                (conv => whnf)
                intro p3 np3
                (conv => whnf)
                have fp3 := new_ne np3 e6
                rw [hup_of fp3 e6, hup_same]
                (conv => whnf)
                have l6 := s6.len
                have l7 : ((List.range k).foldl (fun acc i => putD acc (Pr.ky (i, k, .last)) (D.bl true)) []).length = k := by
                  have := congrArg List.length ek
                  simpa using this
                refine ⟨⟨fp3, by rw [l7]; unfold big; omega, .inr (.inr ⟨k, "last", List.range k, ek, fun i hi => by rw [List.mem_range] at hi; omega, by omega, List.nodup_range⟩)⟩, ?_⟩
                (conv => whnf)
                have s7 := s6.merge (ys := (List.range k).foldl (fun acc i => putD acc (Pr.ky (i, k, .last)) (D.bl true)) []) (qs := (List.range k).map fun i => (i, k, .last)) (by rw [ek, List.map_map]; rfl) (by
                  intro q hq
                  obtain ⟨i, hi, rfl⟩ := List.mem_map.mp hq
                  rw [List.mem_range] at hi
                  exact ⟨by show i < 24; omega, by show k < 24; omega⟩)
                refine fin _ _ (((D9.new np3 _).set s7).congr fun p => ?_) (.same (.same (.same (.drop (.drop (.drop (.drop (.drop (.drop (.drop .nil))))))))))
                rw [ox]
                constructor
                · rintro (z | z)
                  · exact .inl z
                  · obtain ⟨i, hi, rfl⟩ := List.mem_map.mp z
                    rw [List.mem_range] at hi
                    exact .inr ⟨i, hi, rfl, rfl⟩
                · rintro (z | ⟨i, z1, z2, z3⟩)
                  · exact .inl z
                  · exact .inr (List.mem_map.mpr ⟨i, List.mem_range.mpr z1, z3.symm⟩)
  · rintro σ h6 ⟨rfl, D6⟩
    refine ⟨trivial, ?_⟩
    obtain ⟨kvs, e6, ps, s1, s2, s3, s4⟩ := D6.kv
    have mem : ∀ p, p ∈ ps ↔ p ∈ dep b := fun p => by
      rw [s4, mem_dep]
      simp [Before]
    have fin : ∀ es : List D, es = (dep b).map Pr.dat → ∃ h2, SubH h2 h6 ∧ Q (.tup es) h2 := fun es e => ⟨h, D6.sub, by rw [e]; exact q⟩
    (conv => whnf)
    rw [itemsOf_t e6]
    (conv => whnf)
    rw [keysOf_t e6]
    (conv => whnf)
    have ek : (kvs.map fun kv => dTup kv.1) = ps.map fun p => dTup p.ky := by
      have := congrArg (List.map dTup) s1
      rw [List.map_map, List.map_map] at this
      exact this
    rw [ek]
    cases ps with
    | nil =>
      (conv => whnf)
      refine ⟨(Nat.le_of_ble_eq_true rfl), fun js p s => ?_⟩
      have : js = [] := by simpa using p
      subst this
      (conv => whnf)
      refine fin _ ?_
      have : dep b = [] := by
        cases e : dep b with
        | nil => rfl
        | cons a l => exact absurd ((mem a).mpr (by rw [e]; exact List.mem_cons_self ..)) (by simp)
      rw [this]; rfl
    | cons a l =>
      rw [show AR.intsD ((a :: l).map fun p => dTup p.ky) = none from rfl]
      (conv => whnf)
      rw [tups_ky]
      (conv => whnf)
      have ll : (a :: l).length ≤ 3456 := by
        have := St.len (kvs := kvs) ⟨a :: l, s1, s2, s3, s4⟩
        have e := congrArg List.length s1
        simp only [List.length_map] at e
        omega
      refine ⟨by rw [List.length_map]; unfold big; omega, ?_, ?_, fun js p s => ?_⟩
      · intro x hx
        obtain ⟨p, _, rfl⟩ := List.mem_map.mp hx
        exact List.cons_ne_nil _ _
      · intro x hx y hy
        obtain ⟨p, _, rfl⟩ := List.mem_map.mp hx
        obtain ⟨p', _, rfl⟩ := List.mem_map.mp hy
        rfl
      · (conv => whnf)
        refine fin _ ?_
        rw [sort_pairs s2 (dep_sorted b) mem p s, List.map_map]
        rfl
end K40
end

section
set_option Elab.async false
set_option linter.all false
set_option maxRecDepth 100000
set_option maxHeartbeats 4000000
/-! K40w7: the walks: registers, memories, orders. -/
namespace K40
open PySem (Str Addr)
open AR
variable {bt : Bits}
theorem ints_nat' (xs : List Nat) : AR.intsD (xs.map nD) = some (xs.map fun (k : Nat) => (k : Int)) := intsD_map (fun (k : Nat) => (k : Int)) xs
theorem p_look_at_registers : Keeps bt (C40 bt) b_look_at_registers N_look_at_registers.length 1 S_look_at_registers := by
  rintro ds h Q E ⟨rs, rfl, k, q⟩
  refine ⟨rfl, ?_⟩
  (conv => whnf)
  rw [show (!decide (Fl.num ((rs.map D.int).length : Int) = Fl.num 8)) = false by rw [List.length_map, k.len]; rfl]
  (conv => whnf)
  refine ⟨by rw [List.length_map, k.len]; unfold big; omega, lcL_map D.int (fun _ => .bl true) trivial (fun o ho => ⟨_, rfl, fun K r => r, fun K r => ?_⟩) ?_⟩
  · (conv => whnf)
    exact ⟨_, rfl, k.ok o ho, r⟩
  · (conv => whnf)
    rw [boolsD_map (fun _ => true)]
    (conv => whnf)
    rw [all_true]
    (conv => whnf)
    have e : rs[0]? = some 0 := by
      have := k.zero
      have l := k.len
      rw [List.getD_eq_getElem?_getD] at this
      rw [List.getElem?_eq_getElem (by omega)] at this ⊢
      exact congrArg some this
    have e2 : atD (rs.map D.int) 0 = some (D.int 0) := atD_map (enc := D.int) (k := 0) e
    rw [e2]
    (conv => whnf)
    exact ⟨_, SubH.refl _, q⟩
theorem p_is_memory : Keeps bt (C40 bt) b_is_memory N_is_memory.length 1 S_is_memory := by
  rintro ds h Q E ⟨m, rfl, k, q⟩
  refine ⟨rfl, ?_⟩
  have lo := k.lo
  have hi := k.hi
  (conv => whnf)
  rw [show decide ((8 : Int) ≤ ((m.map D.int).length : Int)) = true from decide_eq_true (by rw [List.length_map]; omega)]
  (conv => whnf)
  rw [show decide (((m.map D.int).length : Int) ≤ (64 : Int)) = true from decide_eq_true (by rw [List.length_map]; omega)]
  (conv => whnf)
  refine ⟨by rw [List.length_map]; unfold big; omega, lcL_map D.int (fun _ => .bl true) trivial (fun o ho => ⟨_, rfl, fun K r => r, fun K r => ?_⟩) ?_⟩
  · (conv => whnf)
    exact ⟨_, rfl, k.ok o ho, r⟩
  · (conv => whnf)
    rw [boolsD_map (fun _ => true)]
    (conv => whnf)
    rw [all_true]
    exact ⟨_, SubH.refl _, q⟩
theorem p_look_at_memory : Keeps bt (C40 bt) b_look_at_memory N_look_at_memory.length 1 S_look_at_memory := by
  rintro ds h Q E ⟨m, rfl, k, q⟩
  refine ⟨rfl, ?_⟩
  (conv => whnf)
  refine ⟨m, rfl, k, ?_⟩
  (conv => whnf)
  exact ⟨_, SubH.refl _, q⟩
theorem p_is_order : Keeps bt (C40 bt) b_is_order N_is_order.length 2 S_is_order := by
  rintro ds h Q E ⟨n, v, rfl, hn, ⟨rfl, q⟩ | ⟨a, xs, rfl, e, q⟩ | ⟨xs, rfl, hx, q⟩⟩
  · refine ⟨rfl, ?_⟩
    (conv => whnf)
    exact ⟨_, SubH.refl _, q⟩
  · refine ⟨rfl, ?_⟩
    (conv => whnf)
    rw [e]
    (conv => whnf)
    exact ⟨_, SubH.refl _, q⟩
  · refine ⟨rfl, ?_⟩
    (conv => whnf)
    refine ⟨by rw [List.length_map]; unfold big; omega, lcL_map nD (fun _ => .bl true) trivial (fun o ho => ⟨_, rfl, fun K r => r, fun K r => ?_⟩) ?_⟩
    · (conv => whnf)
      exact ⟨_, rfl, r⟩
    · (conv => whnf)
      rw [boolsD_map (fun _ => true)]
      (conv => whnf)
      rw [all_true]
      (conv => whnf)
      rw [ints_nat']
      (conv => whnf)
      refine ⟨by rw [List.length_map]; unfold big; omega, fun js p s => ?_⟩
      (conv => whnf)
      refine ⟨⟨by omega, by unfold big; omega⟩, ?_⟩
      (conv => whnf)
      have e2 : ((List.range ((n : Int)).toNat).map fun (k : Nat) => D.int (k : Int)) = ((List.range n).map fun (k : Nat) => (k : Int)).map D.int := by rw [List.map_map]; rfl
      rw [show flr h (.new ((List.range ((n : Int)).toNat).map fun (k : Nat) => D.int (k : Int))) = some (Fl.lst (((List.range n).map fun (k : Nat) => (k : Int)).map Fl.num)) from by rw [e2]; show (fl1s h _).map Fl.lst = _; rw [fl1s_int]; rfl]
      rw [show flr h (.new (js.map D.int)) = some (Fl.lst (js.map Fl.num)) from by show (fl1s h _).map Fl.lst = _; rw [fl1s_int]; rfl]
      (conv => whnf)
      rw [sorted_range p s]
      exact ⟨_, SubH.refl _, q⟩
theorem p_keeps : Keeps bt (C40 bt) b_keeps N_keeps.length 2 S_keeps := by
  rintro ds h Q E ⟨ps, n, xs, rfl, px, bd, hn, hp, q⟩
  refine ⟨rfl, ?_⟩
  have lx : xs.length = n := by have := px.length_eq; simpa using this
  have nd : xs.Nodup := px.symm.nodup List.nodup_range
  have mem : ∀ x, x < n → x ∈ xs := fun x hx => px.symm.mem_iff.mp (List.mem_range.mpr hx)
  (conv => whnf)
  refine ⟨by rw [List.length_map]; unfold big; omega, ?_⟩
  rw [enum_map nD xs]
  refine ⟨by simp; unfold big; omega, dcL_pure (fun (p : Nat × Nat) => D.tup [nD p.1, nD p.2]) (fun p => Sum.inl (p.2 : Int)) (fun p => nD p.2) (fun p => nD p.1) (fun _ => true) trivial (fun a ha => ⟨_, rfl, fun K z => z, fun _ => ⟨rfl, fun K z => z, fun K z => z⟩⟩) ?_⟩
  rw [List.filter_eq_self.mpr fun _ _ => rfl]
  (conv => whnf)
  intro p1 np1
  (conv => whnf)
  refine ⟨by rw [List.length_map]; unfold big; omega, lcL_map Pr.dat (fun p => .bl (decide (xs.idxOf p.1 < xs.idxOf p.2.1))) trivial (fun p hp => ⟨_, rfl, fun K r => r, fun K r => ?_⟩) ?_⟩
  · obtain ⟨b1, b2⟩ := bd p hp
    (conv => whnf)
    rw [hup_same]
    (conv => whnf)
    rw [hup_same]
    (conv => whnf)
    rw [place_look nd (mem _ b1)]
    (conv => whnf)
    rw [hup_same]
    (conv => whnf)
    rw [hup_same]
    (conv => whnf)
    rw [place_look nd (mem _ b2)]
    (conv => whnf)
    rw [dec_lt]
    exact r
  · (conv => whnf)
    rw [boolsD_map]
    (conv => whnf)
    refine ⟨h, (SubH.refl h).new np1, ?_⟩
    have : ((ps.map fun p => decide (xs.idxOf p.1 < xs.idxOf p.2.1)).all id) = keepsB ps xs := by
      unfold keepsB
      rw [List.all_map]
      rfl
    rw [this]
    exact q
theorem p_true_pairs : Keeps bt (C40 bt) b_true_pairs N_true_pairs.length 1 S_true_pairs := by
  rintro ds h Q E ⟨b, rfl, bk, q⟩
  refine ⟨rfl, ?_⟩
  (conv => whnf)
  refine ⟨b, rfl, bk, ?_⟩
  (conv => whnf)
  have dl := dep_len bk.few
  refine ⟨by rw [List.length_map]; unfold big; omega, lcL_pure Pr.dat Pr.dat (fun p => p.2.2.true) trivial (fun p hp => ⟨_, rfl, fun K z => ?_, fun _ K z => z⟩) ?_⟩
  · (conv => whnf)
    rw [in_true]
    exact z
  · rw [List.nil_append]
    (conv => whnf)
    exact ⟨_, SubH.refl _, q⟩
theorem p_false_pairs : Keeps bt (C40 bt) b_false_pairs N_false_pairs.length 1 S_false_pairs := by
  rintro ds h Q E ⟨b, rfl, bk, q⟩
  refine ⟨rfl, ?_⟩
  have dl := dep_len bk.few
  have tl : (tru b).length ≤ (dep b).length := List.length_filter_le _ _
  (conv => whnf)
  refine ⟨b, rfl, bk, ?_⟩
  (conv => whnf)
  refine ⟨by rw [List.length_map]; unfold big; omega, dcL_pure Pr.dat (fun p => [Sum.inl (p.1 : Int), Sum.inl (p.2.1 : Int)]) (fun p => .tup [nD p.1, nD p.2.1]) (fun _ => .bl true) (fun _ => true) trivial (fun a ha => ⟨_, rfl, fun K z => z, fun _ => ⟨rfl, fun K z => ?_, fun K z => z⟩⟩) ?_⟩
  · (conv => whnf)
    exact z
  rw [List.filter_eq_self.mpr fun _ _ => rfl]
  (conv => whnf)
  intro p1 np1
  (conv => whnf)
  refine ⟨b, rfl, bk, ?_⟩
  (conv => whnf)
  refine ⟨by rw [List.length_map]; unfold big; omega, lcL_pure Pr.dat Pr.dat (fun p => !p.2.2.true && !((tru b).any fun q => decide (q.1 = p.1 ∧ q.2.1 = p.2.1))) trivial (fun p hp => ⟨_, rfl, fun K z => ?_, fun _ K z => z⟩) ?_⟩
  · (conv => whnf)
    rw [in_true]
    cases c : p.2.2.true with
    | true => rw [c] at z; exact z
    | false =>
      rw [c] at z
      (conv => whnf)
      rw [hup_same]
      (conv => whnf)
      rw [hup_same]
      (conv => whnf)
      have e : (look ((tru b).foldl (fun acc (a : Pr) => putD acc ([Sum.inl (a.1 : Int), Sum.inl (a.2.1 : Int)] : List Ky) (D.bl true)) []) ([Sum.inl (p.1 : Int), Sum.inl (p.2.1 : Int)] : List Ky)).isSome = (tru b).any fun q => decide (q.1 = p.1 ∧ q.2.1 = p.2.1) := by
        rw [look_fold (fun (a : Pr) => ([Sum.inl (a.1 : Int), Sum.inl (a.2.1 : Int)] : List Ky)) (fun _ => D.bl true)]
        rw [show look ([] : List (List Ky × D)) [Sum.inl (p.1 : Int), Sum.inl (p.2.1 : Int)] = none from rfl, Option.or_none, Option.isSome_map]
        rw [Bool.eq_iff_iff, List.any_eq_true, Option.isSome_iff_ne_none]
        constructor
        · intro hne
          cases el : ((tru b).filter fun (a : Pr) => decide (([Sum.inl (a.1 : Int), Sum.inl (a.2.1 : Int)] : List Ky) = [Sum.inl (p.1 : Int), Sum.inl (p.2.1 : Int)])) with
          | nil => rw [el] at hne; exact absurd rfl hne
          | cons a l =>
            have ha : a ∈ (tru b).filter fun (a : Pr) => decide (([Sum.inl (a.1 : Int), Sum.inl (a.2.1 : Int)] : List Ky) = [Sum.inl (p.1 : Int), Sum.inl (p.2.1 : Int)]) := by rw [el]; exact List.mem_cons_self ..
            rw [List.mem_filter] at ha
            have h2 := of_decide_eq_true ha.2
            simp only [List.cons.injEq, Sum.inl.injEq, and_true] at h2
            exact ⟨a, ha.1, decide_eq_true ⟨by omega, by omega⟩⟩
        · rintro ⟨a, h1, h2⟩ hn
          have h2 := of_decide_eq_true h2
          rw [List.getLast?_eq_none_iff, List.filter_eq_nil_iff] at hn
          refine hn a h1 (decide_eq_true ?_)
          rw [h2.1, h2.2]
      rw [e]
      exact z
  · rw [List.nil_append]
    (conv => whnf)
    exact ⟨h, (SubH.refl h).new np1, q⟩
theorem p_is_true_order : Keeps bt (C40 bt) b_is_true_order N_is_true_order.length 2 S_is_true_order := by
  rintro ds h Q E ⟨b, v, rfl, bk, hv⟩
  refine ⟨rfl, ?_⟩
  have few := bk.few
  (conv => whnf)
  refine ⟨b, rfl, bk, ?_⟩
  (conv => whnf)
  rw [List.length_map]
  refine ⟨b.length, v, rfl, few, ?_⟩
  rcases hv with ⟨rfl, q⟩ | ⟨a, xs, rfl, e, q⟩ | ⟨xs, rfl, hx, q⟩
  · exact .inl ⟨rfl, by (conv => whnf); exact ⟨_, SubH.refl _, q⟩⟩
  · exact .inr (.inl ⟨a, xs, rfl, e, by (conv => whnf); exact ⟨_, SubH.refl _, q⟩⟩)
  · refine .inr (.inr ⟨xs, rfl, hx, ?_⟩)
    (conv => whnf)
    unfold isTO at q
    by_cases c : xs.Perm (List.range b.length)
    · rw [decide_eq_true c] at q ⊢
      (conv => whnf)
      refine ⟨b, rfl, bk, ?_⟩
      (conv => whnf)
      have dl := dep_len few
      have tl : (tru b).length ≤ (dep b).length := List.length_filter_le _ _
      refine ⟨tru b, b.length, xs, rfl, c, fun p hp => dep_bd (List.mem_filter.mp hp).1, few, by omega, ?_⟩
      (conv => whnf)
      rw [Bool.true_and] at q
      exact ⟨_, SubH.refl _, q⟩
    · rw [decide_eq_false c] at q ⊢
      (conv => whnf)
      exact ⟨_, SubH.refl _, q⟩
theorem p_name_of : Keeps bt (C40 bt) b_name_of N_name_of.length 2 S_name_of := by
  rintro ds h Q E ⟨a, kvs, r, o, rfl, e, el, e0, q⟩
  refine ⟨rfl, ?_⟩
  (conv => whnf)
  rw [show decide (Fl.num (r : Int) = Fl.num 0) = decide (r = 0) from dec_num r 0]
  by_cases c : r = 0
  · rw [decide_eq_true c]
    have := e0 c
    subst c
    subst this
    (conv => whnf)
    exact ⟨_, SubH.refl _, q⟩
  · rw [decide_eq_false c]
    (conv => whnf)
    rw [e]
    (conv => whnf)
    rw [e]
    (conv => whnf)
    rw [el]
    cases o with
    | none => (conv => whnf); exact ⟨_, SubH.refl _, q⟩
    | some i =>
      (conv => whnf)
      rw [e]
      (conv => whnf)
      rw [e]
      (conv => whnf)
      rw [el]
      (conv => whnf)
      exact ⟨_, SubH.refl _, q⟩
theorem p_names_behind : Keeps bt (C40 bt) b_names_behind N_names_behind.length 1 S_names_behind := by
  rintro ds h Q E ⟨b, rfl, bk, q⟩
  refine ⟨rfl, ?_⟩
  have few := bk.few
  (conv => whnf)
  refine ⟨b, rfl, bk, ?_⟩
  (conv => whnf)
  refine ⟨by simp; unfold big; omega, ?_⟩
  rw [enum_map Op.dat b]
  refine ⟨by simp; unfold big; omega, dcL_pure (fun (p : Nat × Op) => D.tup [nD p.1, p.2.dat]) (fun p => Sum.inl (p.2.wr : Int)) (fun p => nD p.2.wr) (fun p => nD p.1) (fun p => decide (p.2.wr ≠ 0)) trivial (fun p hp => ⟨_, rfl, fun K z => ?_, fun _ => ⟨rfl, fun K z => ?_, fun K z => z⟩⟩) ?_⟩
  · (conv => whnf)
    refine ⟨p.2, rfl, ?_⟩
    (conv => whnf)
    rw [show (!decide (Fl.num (p.2.wr : Int) = Fl.num 0)) = decide (p.2.wr ≠ 0) by simp]
    exact z
  · (conv => whnf)
    refine ⟨p.2, rfl, ?_⟩
    exact z
  (conv => whnf)
  intro p1 np1
  (conv => whnf)
  refine ⟨⟨by decide, by decide⟩, ?_⟩
  (conv => whnf)
  refine ⟨(Nat.le_of_ble_eq_true rfl), lcL_map nD (fun r => (nm b b.length r).dat) trivial (fun r hr => ⟨_, rfl, fun K z => z, fun K z => ?_⟩) ?_⟩
  · (conv => whnf)
    refine ⟨p1, _, r, lw b b.length r, rfl, hup_same, lw_look b r, fun e => by rw [e]; exact lw_r0 b _, ?_⟩
    rw [← nm_of]
    exact z
  · (conv => whnf)
    exact ⟨h, (SubH.refl h).new np1, q⟩
theorem zip_items (b : Blk) (qs : List Addr) : ((b.map Op.dat).zip (qs.map D.ref)).map (fun p => D.tup [p.1, p.2]) = (b.zip qs).map fun p => .tup [p.1.dat, .ref p.2] := by
  rw [List.zip_map, List.map_map]
  rfl
def rowD (b : Blk) (k : Nat) : D := .tup [.tup ((at! b k).rdf.map fun r => (nm b k r).dat), if (at! b k).wr ≠ 0 then (Nm.made k).dat else .non]
theorem p_renamed : Keeps bt (C40 bt) b_renamed N_renamed.length 1 S_renamed := by
  rintro ds h Q E ⟨b, rfl, bk, q⟩
  refine ⟨rfl, ?_⟩
  have few := bk.few
  (conv => whnf)
  refine ⟨b, rfl, bk, ?_⟩
  (conv => whnf)
  intro f nf
  (conv => whnf)
  refine ⟨b, rfl, bk, fun W qs h' s1 n1 e1 e2 e3 => ?_⟩
  (conv => whnf)
  rw [e1]
  (conv => whnf)
  refine ⟨trivial, ?_⟩
  rw [zip_items]
  refine ⟨by simp; unfold big; omega, ?_⟩
  (conv => whnf)
  refine ⟨by simp; unfold big; omega, ?_⟩
  obtain ⟨Wf, nW⟩ := hup_none n1
  have hf0 := s1 f _ hup_same
  have base : ∀ h2, SubX f h' h2 → SubH h h2 := fun h2 sx a c e => by
    have af : a ≠ f := fun z => by rw [z, nf] at e; cases e
    exact sx a c af (s1 a c (by rw [hup_ne af]; exact e))
  refine forL_inv (fun k σ h2 => σ = [some (blkD b), some (.ref f), none, none, none, none, none, none] ∧ SubX f h' h2 ∧ h2 f = some (.lst ((List.range k).map (rowD b)))) ⟨rfl, SubX.refl f h', hf0⟩ ?_ ?_
  · rintro k d σ h2 K e ⟨rfl, sx, hf⟩ kk
    obtain ⟨⟨o, wq⟩, eo, rfl⟩ := enum_get (enc := fun (p : Op × Addr) => D.tup [p.1.dat, .ref p.2]) e
    rw [List.getElem?_zip_eq_some] at eo
    obtain ⟨eo, ew⟩ := eo
    have kl : k < b.length := by
      by_cases z : k < b.length
      · exact z
      · rw [List.getElem?_eq_none (by omega)] at eo; cases eo
    have ao := at_get eo
    obtain ⟨n3, kvs, e4, e5⟩ := e3 k wq ew
    have wf : wq ≠ f := fun z => by rw [z, hup_same] at n3; cases n3
    have e4 := sx wq _ wf e4
    refine ⟨⟨trivial, sx W _ Wf e1⟩, ?_⟩
    refine wp_cut (bt := bt) (C := C40 bt) (fun σ h3 => ∃ p1, σ = [some (blkD b), some (.ref f), some (nD k), some (.ref p1), some o.dat, some (.ref wq), none, none] ∧ SubX f h' h3 ∧ h3 f = some (.lst ((List.range k).map (rowD b))) ∧ h3 p1 = some (.lst (o.rdf.map fun r => (nm b k r).dat)) ∧ p1 ≠ f) ?_ ?_
    · intro K3 kk3
      cases o with
      | set d n => (conv => whnf); refine ⟨.set d n, rfl, ?_⟩; (conv => whnf); refine ⟨trivial, ?_⟩; (conv => whnf); refine ⟨(Nat.le_of_ble_eq_true rfl), ?_⟩; (conv => whnf); refine ⟨⟨trivial, trivial⟩, ?_⟩; (conv => whnf); refine ⟨_, rfl, ?_⟩; (conv => whnf); refine ⟨h2, SubH.refl h2, ?_⟩; (conv => whnf); refine ⟨⟨trivial, trivial⟩, ?_⟩; (conv => whnf); refine ⟨_, rfl, ?_⟩; (conv => whnf); refine ⟨h2, SubH.refl h2, ?_⟩; (conv => whnf); refine ⟨⟨trivial, trivial⟩, ?_⟩; (conv => whnf); intro p1 np1; (conv => whnf); exact kk3 _ _ ⟨p1, rfl, sx.new np1, hup_of (new_ne np1 hf) hf, hup_same, Ne.symm (new_ne np1 hf)⟩
      | work w d x y => (conv => whnf); refine ⟨.work w d x y, rfl, ?_⟩; (conv => whnf); refine ⟨trivial, ?_⟩; (conv => whnf); refine ⟨(Nat.le_of_ble_eq_true rfl), ?_⟩; (conv => whnf); refine ⟨⟨trivial, trivial⟩, ?_⟩; (conv => whnf); refine ⟨_, rfl, ?_⟩; (conv => whnf); refine ⟨h2, SubH.refl h2, ?_⟩; (conv => whnf); refine ⟨⟨trivial, trivial⟩, ?_⟩; (conv => whnf); refine ⟨_, rfl, ?_⟩; (conv => whnf); refine ⟨wq, kvs, _, _, rfl, e4, e5 _, fun e => by rw [e]; exact lw_r0 b _, ?_⟩; rw [← nm_of]; (conv => whnf); refine ⟨h2, SubH.refl h2, ?_⟩; (conv => whnf); refine ⟨⟨trivial, trivial⟩, ?_⟩; (conv => whnf); refine ⟨_, rfl, ?_⟩; (conv => whnf); refine ⟨wq, kvs, _, _, rfl, e4, e5 _, fun e => by rw [e]; exact lw_r0 b _, ?_⟩; rw [← nm_of]; (conv => whnf); refine ⟨h2, SubH.refl h2, ?_⟩; (conv => whnf); refine ⟨⟨trivial, trivial⟩, ?_⟩; (conv => whnf); intro p1 np1; (conv => whnf); exact kk3 _ _ ⟨p1, rfl, sx.new np1, hup_of (new_ne np1 hf) hf, hup_same, Ne.symm (new_ne np1 hf)⟩
      | load d x n => (conv => whnf); refine ⟨.load d x n, rfl, ?_⟩; (conv => whnf); refine ⟨trivial, ?_⟩; (conv => whnf); refine ⟨(Nat.le_of_ble_eq_true rfl), ?_⟩; (conv => whnf); refine ⟨⟨trivial, trivial⟩, ?_⟩; (conv => whnf); refine ⟨_, rfl, ?_⟩; (conv => whnf); refine ⟨h2, SubH.refl h2, ?_⟩; (conv => whnf); refine ⟨⟨trivial, trivial⟩, ?_⟩; (conv => whnf); refine ⟨_, rfl, ?_⟩; (conv => whnf); refine ⟨wq, kvs, _, _, rfl, e4, e5 _, fun e => by rw [e]; exact lw_r0 b _, ?_⟩; rw [← nm_of]; (conv => whnf); refine ⟨h2, SubH.refl h2, ?_⟩; (conv => whnf); refine ⟨⟨trivial, trivial⟩, ?_⟩; (conv => whnf); refine ⟨_, rfl, ?_⟩; (conv => whnf); refine ⟨h2, SubH.refl h2, ?_⟩; (conv => whnf); refine ⟨⟨trivial, trivial⟩, ?_⟩; (conv => whnf); intro p1 np1; (conv => whnf); exact kk3 _ _ ⟨p1, rfl, sx.new np1, hup_of (new_ne np1 hf) hf, hup_same, Ne.symm (new_ne np1 hf)⟩
      | store x n s => (conv => whnf); refine ⟨.store x n s, rfl, ?_⟩; (conv => whnf); refine ⟨trivial, ?_⟩; (conv => whnf); refine ⟨(Nat.le_of_ble_eq_true rfl), ?_⟩; (conv => whnf); refine ⟨⟨trivial, trivial⟩, ?_⟩; (conv => whnf); refine ⟨_, rfl, ?_⟩; (conv => whnf); refine ⟨wq, kvs, _, _, rfl, e4, e5 _, fun e => by rw [e]; exact lw_r0 b _, ?_⟩; rw [← nm_of]; (conv => whnf); refine ⟨h2, SubH.refl h2, ?_⟩; (conv => whnf); refine ⟨⟨trivial, trivial⟩, ?_⟩; (conv => whnf); refine ⟨_, rfl, ?_⟩; (conv => whnf); refine ⟨h2, SubH.refl h2, ?_⟩; (conv => whnf); refine ⟨⟨trivial, trivial⟩, ?_⟩; (conv => whnf); refine ⟨_, rfl, ?_⟩; (conv => whnf); refine ⟨wq, kvs, _, _, rfl, e4, e5 _, fun e => by rw [e]; exact lw_r0 b _, ?_⟩; rw [← nm_of]; (conv => whnf); refine ⟨h2, SubH.refl h2, ?_⟩; (conv => whnf); refine ⟨⟨trivial, trivial⟩, ?_⟩; (conv => whnf); intro p1 np1; (conv => whnf); exact kk3 _ _ ⟨p1, rfl, sx.new np1, hup_of (new_ne np1 hf) hf, hup_same, Ne.symm (new_ne np1 hf)⟩
      | jump t => (conv => whnf); refine ⟨.jump t, rfl, ?_⟩; (conv => whnf); refine ⟨trivial, ?_⟩; (conv => whnf); refine ⟨(Nat.le_of_ble_eq_true rfl), ?_⟩; (conv => whnf); refine ⟨⟨trivial, trivial⟩, ?_⟩; (conv => whnf); refine ⟨_, rfl, ?_⟩; (conv => whnf); refine ⟨h2, SubH.refl h2, ?_⟩; (conv => whnf); refine ⟨⟨trivial, trivial⟩, ?_⟩; (conv => whnf); intro p1 np1; (conv => whnf); exact kk3 _ _ ⟨p1, rfl, sx.new np1, hup_of (new_ne np1 hf) hf, hup_same, Ne.symm (new_ne np1 hf)⟩
      | br c x y t => (conv => whnf); refine ⟨.br c x y t, rfl, ?_⟩; (conv => whnf); refine ⟨trivial, ?_⟩; (conv => whnf); refine ⟨(Nat.le_of_ble_eq_true rfl), ?_⟩; (conv => whnf); refine ⟨⟨trivial, trivial⟩, ?_⟩; (conv => whnf); refine ⟨_, rfl, ?_⟩; (conv => whnf); refine ⟨wq, kvs, _, _, rfl, e4, e5 _, fun e => by rw [e]; exact lw_r0 b _, ?_⟩; rw [← nm_of]; (conv => whnf); refine ⟨h2, SubH.refl h2, ?_⟩; (conv => whnf); refine ⟨⟨trivial, trivial⟩, ?_⟩; (conv => whnf); refine ⟨_, rfl, ?_⟩; (conv => whnf); refine ⟨wq, kvs, _, _, rfl, e4, e5 _, fun e => by rw [e]; exact lw_r0 b _, ?_⟩; rw [← nm_of]; (conv => whnf); refine ⟨h2, SubH.refl h2, ?_⟩; (conv => whnf); refine ⟨⟨trivial, trivial⟩, ?_⟩; (conv => whnf); refine ⟨_, rfl, ?_⟩; (conv => whnf); refine ⟨h2, SubH.refl h2, ?_⟩; (conv => whnf); refine ⟨⟨trivial, trivial⟩, ?_⟩; (conv => whnf); intro p1 np1; (conv => whnf); exact kk3 _ _ ⟨p1, rfl, sx.new np1, hup_of (new_ne np1 hf) hf, hup_same, Ne.symm (new_ne np1 hf)⟩
      | link d t => (conv => whnf); refine ⟨.link d t, rfl, ?_⟩; (conv => whnf); refine ⟨trivial, ?_⟩; (conv => whnf); refine ⟨(Nat.le_of_ble_eq_true rfl), ?_⟩; (conv => whnf); refine ⟨⟨trivial, trivial⟩, ?_⟩; (conv => whnf); refine ⟨_, rfl, ?_⟩; (conv => whnf); refine ⟨h2, SubH.refl h2, ?_⟩; (conv => whnf); refine ⟨⟨trivial, trivial⟩, ?_⟩; (conv => whnf); refine ⟨_, rfl, ?_⟩; (conv => whnf); refine ⟨h2, SubH.refl h2, ?_⟩; (conv => whnf); refine ⟨⟨trivial, trivial⟩, ?_⟩; (conv => whnf); intro p1 np1; (conv => whnf); exact kk3 _ _ ⟨p1, rfl, sx.new np1, hup_of (new_ne np1 hf) hf, hup_same, Ne.symm (new_ne np1 hf)⟩
      | back x => (conv => whnf); refine ⟨.back x, rfl, ?_⟩; (conv => whnf); refine ⟨trivial, ?_⟩; (conv => whnf); refine ⟨(Nat.le_of_ble_eq_true rfl), ?_⟩; (conv => whnf); refine ⟨⟨trivial, trivial⟩, ?_⟩; (conv => whnf); refine ⟨_, rfl, ?_⟩; (conv => whnf); refine ⟨wq, kvs, _, _, rfl, e4, e5 _, fun e => by rw [e]; exact lw_r0 b _, ?_⟩; rw [← nm_of]; (conv => whnf); refine ⟨h2, SubH.refl h2, ?_⟩; (conv => whnf); refine ⟨⟨trivial, trivial⟩, ?_⟩; (conv => whnf); intro p1 np1; (conv => whnf); exact kk3 _ _ ⟨p1, rfl, sx.new np1, hup_of (new_ne np1 hf) hf, hup_same, Ne.symm (new_ne np1 hf)⟩
      | tell x => (conv => whnf); refine ⟨.tell x, rfl, ?_⟩; (conv => whnf); refine ⟨trivial, ?_⟩; (conv => whnf); refine ⟨(Nat.le_of_ble_eq_true rfl), ?_⟩; (conv => whnf); refine ⟨⟨trivial, trivial⟩, ?_⟩; (conv => whnf); refine ⟨_, rfl, ?_⟩; (conv => whnf); refine ⟨wq, kvs, _, _, rfl, e4, e5 _, fun e => by rw [e]; exact lw_r0 b _, ?_⟩; rw [← nm_of]; (conv => whnf); refine ⟨h2, SubH.refl h2, ?_⟩; (conv => whnf); refine ⟨⟨trivial, trivial⟩, ?_⟩; (conv => whnf); intro p1 np1; (conv => whnf); exact kk3 _ _ ⟨p1, rfl, sx.new np1, hup_of (new_ne np1 hf) hf, hup_same, Ne.symm (new_ne np1 hf)⟩
      | stop => (conv => whnf); refine ⟨.stop, rfl, ?_⟩; (conv => whnf); refine ⟨trivial, ?_⟩; (conv => whnf); refine ⟨(Nat.le_of_ble_eq_true rfl), ?_⟩; (conv => whnf); refine ⟨⟨trivial, trivial⟩, ?_⟩; (conv => whnf); intro p1 np1; (conv => whnf); exact kk3 _ _ ⟨p1, rfl, sx.new np1, hup_of (new_ne np1 hf) hf, hup_same, Ne.symm (new_ne np1 hf)⟩
    · rintro σ h3 ⟨p1, rfl, sx3, hf3, e6, pf⟩
      have fin : ∀ h4, SubX f h' h4 → h4 f = some (.lst ((List.range k).map (rowD b) ++ [rowD b k])) → K [some (blkD b), some (.ref f), some (nD k), some (.ref p1), some o.dat, some (.ref wq), none, none] h4 := by
        intro h4 s4 f4
        refine kk _ h4 [some (blkD b), some (.ref f), none, none, none, none, none, none] h4 (.same (.same (.drop (.drop (.drop (.drop (.drop (.drop .nil)))))))) (SubH.refl _) ⟨rfl, s4, ?_⟩
        rw [f4, List.range_succ, List.map_append]; rfl
      (conv => whnf)
      rw [hf3]
      (conv => whnf)
      refine ⟨rfl, ?_⟩
      (conv => whnf)
      rw [itemsOf_l e6]
      (conv => whnf)
      refine ⟨o, rfl, ?_⟩
      (conv => whnf)
      have er : rowD b k = .tup [.tup (o.rdf.map fun r => (nm b k r).dat), if o.wr ≠ 0 then (Nm.made k).dat else .non] := by unfold rowD; rw [ao]
      by_cases c : o.wr = 0
      · rw [show (!decide (Fl.num (o.wr : Int) = Fl.num 0)) = false by simp [c]]
        (conv => whnf)
        rw [hf3]
        (conv => whnf)
        refine ⟨by simp; unfold big; omega, ?_⟩
        (conv => whnf)
        refine fin _ sx3.hd ?_
        rw [hup_same, er, if_neg (fun z => z c)]
      · rw [show (!decide (Fl.num (o.wr : Int) = Fl.num 0)) = true by simp; exact c]
        (conv => whnf)
        rw [hf3]
        (conv => whnf)
        refine ⟨by simp; unfold big; omega, ?_⟩
        (conv => whnf)
        refine fin _ sx3.hd ?_
        rw [hup_same, er, if_pos c]
        rfl
  · rintro σ h2 ⟨rfl, sx, hf⟩
    refine ⟨⟨trivial, sx W _ Wf e1⟩, ?_⟩
    (conv => whnf)
    rw [itemsOf_l hf]
    (conv => whnf)
    refine ⟨h, base h2 sx, ?_⟩
    have el : (List.map (fun p => D.tup [p.1.dat, .ref p.2]) (b.zip qs)).length = b.length := by simp; omega
    rw [List.length_map, List.length_zip, List.length_range, List.length_map, List.length_zip, e2]
    simp only [Nat.min_self]
    exact q
end K40
end

section
set_option Elab.async false
set_option linter.all false
set_option maxRecDepth 100000
set_option maxHeartbeats 4000000
/-! K40w8: the walks: what instructions do. -/
namespace K40
open PySem (Str Addr)
open AR
variable {bt : Bits}
theorem under_ite (x y : Int) : (if decide (x < y) = true then (1 : Int) else 0) = if x < y then 1 else 0 := by
  by_cases c : x < y <;> simp [c]
theorem wsmall {x : Int} (h : wordI x) : small x := ⟨by have := h.1; omega, by have := h.2; omega⟩
theorem p_worked : Keeps bt (C40 bt) b_worked N_worked.length 3 (S_worked bt) := by
  rintro ds h Q E ⟨w, x, y, rfl, wx, wy, q⟩
  refine ⟨rfl, ?_⟩
  cases w with
  | add => (conv => whnf); refine ⟨by decide, ?_⟩; (conv => whnf); exact ⟨_, SubH.refl _, q⟩
  | sub => (conv => whnf); refine ⟨by decide, ?_⟩; (conv => whnf); exact ⟨_, SubH.refl _, q⟩
  | and => (conv => whnf); exact ⟨_, SubH.refl _, q⟩
  | or => (conv => whnf); exact ⟨_, SubH.refl _, q⟩
  | xor => (conv => whnf); exact ⟨_, SubH.refl _, q⟩
  | mul => (conv => whnf); refine ⟨.inl (wsmall wx), ?_⟩; (conv => whnf); refine ⟨by decide, ?_⟩; (conv => whnf); exact ⟨_, SubH.refl _, q⟩
  | under =>
    (conv => whnf)
    refine ⟨x, rfl, ?_⟩
    (conv => whnf)
    refine ⟨y, rfl, ?_⟩
    (conv => whnf)
    refine ⟨h, SubH.refl h, ?_⟩
    rw [under_ite]
    exact q
  | div =>
    (conv => whnf)
    rw [show decide (Fl.num y = Fl.num 0) = decide (y = 0) by simp]
    by_cases c : y = 0
    · rw [decide_eq_true c]
      (conv => whnf)
      have e : wkF bt .div x y = none := if_pos c
      rw [e] at q
      exact ⟨_, SubH.refl _, q⟩
    · rw [decide_eq_false c]
      (conv => whnf)
      have e : wkF bt .div x y = some (x / y) := if_neg c
      rw [e] at q
      have := wy.1
      have := wy.2
      refine ⟨⟨by omega, by omega⟩, ?_⟩
      (conv => whnf)
      exact ⟨_, SubH.refl _, q⟩
  | rem =>
    (conv => whnf)
    rw [show decide (Fl.num y = Fl.num 0) = decide (y = 0) by simp]
    by_cases c : y = 0
    · rw [decide_eq_true c]
      (conv => whnf)
      have e : wkF bt .rem x y = none := if_pos c
      rw [e] at q
      exact ⟨_, SubH.refl _, q⟩
    · rw [decide_eq_false c]
      (conv => whnf)
      have e : wkF bt .rem x y = some (x % y) := if_neg c
      rw [e] at q
      have := wy.1
      refine ⟨by omega, ?_⟩
      (conv => whnf)
      exact ⟨_, SubH.refl _, q⟩
theorem mod_word {x : Int} (h : wordI x) : x % 65536 = x := Int.emod_eq_of_lt h.1 h.2
theorem p_moved_by : Keeps bt (C40 bt) b_moved_by N_moved_by.length 3 (S_moved_by bt) := by
  rintro ds h Q E ⟨o, k, p, ws, m, rfl, e, wl, ho, q⟩
  refine ⟨rfl, ?_⟩
  cases o with
  | work w d a b => exact ho.elim
  | load d a n => exact ho.elim
  | store a n s => exact ho.elim
  | tell a => exact ho.elim
  | set d n => match ws, wl with | [], _ => (conv => whnf); exact ⟨_, SubH.refl _, q⟩
  | jump t => match ws, wl with | [], _ => (conv => whnf); exact ⟨_, SubH.refl _, q⟩
  | link d t => match ws, wl with | [], _ => (conv => whnf); exact ⟨_, SubH.refl _, q⟩
  | stop => match ws, wl with | [], _ => (conv => whnf); exact ⟨_, SubH.refl _, q⟩
  | back a =>
    match ws, wl with
    | [x], _ =>
      (conv => whnf)
      rw [e]
      (conv => whnf)
      have q : (match (if x < 60 then some (none, some (Gt.to x), m) else none : Option (Option Int × Option Gt × Mx)) with
        | none => Q .non h
        | some (mk, go, _) => Q (.tup [optI mk, optG go]) h) := q
      by_cases c : x < 60
      · rw [decide_eq_true c]
        rw [if_pos c] at q
        (conv => whnf)
        rw [e]
        (conv => whnf)
        exact ⟨_, SubH.refl _, q⟩
      · rw [decide_eq_false c]
        rw [if_neg c] at q
        (conv => whnf)
        exact ⟨_, SubH.refl _, q⟩
  | br c a b t =>
    match ws, wl with
    | [x, y], _ =>
      have q : Q (.tup [.non, .int (if cdF c x y = true then (t : Int) else (k : Int) + 1)]) h := q
      cases c with
      | same => (conv => whnf); rw [e]; (conv => whnf); rw [e]; (conv => whnf); refine ⟨_, x, y, rfl, ?_⟩; (conv => whnf); rcases e2 : cdF _ x y with _ | _ <;> (rw [e2] at q; (conv => whnf); exact ⟨h, SubH.refl h, q⟩)
      | other => (conv => whnf); rw [e]; (conv => whnf); rw [e]; (conv => whnf); refine ⟨_, x, y, rfl, ?_⟩; (conv => whnf); rcases e2 : cdF _ x y with _ | _ <;> (rw [e2] at q; (conv => whnf); exact ⟨h, SubH.refl h, q⟩)
      | less => (conv => whnf); rw [e]; (conv => whnf); rw [e]; (conv => whnf); refine ⟨_, x, y, rfl, ?_⟩; (conv => whnf); rcases e2 : cdF _ x y with _ | _ <;> (rw [e2] at q; (conv => whnf); exact ⟨h, SubH.refl h, q⟩)
end K40
end

section
set_option Elab.async false
set_option linter.all false
set_option maxRecDepth 100000
set_option maxHeartbeats 4000000
/-! K40w8: the walks: what instructions do. -/
namespace K40
open PySem (Str Addr)
open AR
variable {bt : Bits}
theorem m5 (a b c d e : D) : merge ([] : List (Ky × D)) [(.inr "add", a), (.inr "sub", b), (.inr "and", c), (.inr "or", d), (.inr "xor", e)] = [(.inr "add", a), (.inr "sub", b), (.inr "and", c), (.inr "or", d), (.inr "xor", e)] := rfl
theorem put5 (a b c d e u : D) : putD ([(.inr "add", a), (.inr "sub", b), (.inr "and", c), (.inr "or", d), (.inr "xor", e)] : List (Ky × D)) (.inr "under") u = [(.inr "add", a), (.inr "sub", b), (.inr "and", c), (.inr "or", d), (.inr "xor", e), (.inr "under", u)] := rfl
theorem put6 (a b c d e u v : D) : putD ([(.inr "add", a), (.inr "sub", b), (.inr "and", c), (.inr "or", d), (.inr "xor", e), (.inr "under", u)] : List (Ky × D)) (.inr "mul") v = [(.inr "add", a), (.inr "sub", b), (.inr "and", c), (.inr "or", d), (.inr "xor", e), (.inr "under", u), (.inr "mul", v)] := rfl
theorem p_law_works (hb : BitsOk bt) : Keeps bt (C40 bt) b_law_works N_law_works.length 3 (S_law_works bt) := by
  rintro ds h Q E ⟨w, x, y, rfl, wx, wy, q⟩
  refine ⟨rfl, ?_⟩
  have y0 := wy.1
  have y1 := wy.2
  cases w with
  | div =>
    (conv => whnf)
    rw [show decide (Fl.num y = Fl.num 0) = decide (y = 0) by simp]
    by_cases c : y = 0
    · rw [decide_eq_true c]
      (conv => whnf)
      have e : wkF bt .div x y = none := if_pos c
      rw [e] at q
      exact ⟨_, SubH.refl _, q⟩
    · rw [decide_eq_false c]
      (conv => whnf)
      have e : wkF bt .div x y = some (x / y) := if_neg c
      rw [e] at q
      refine ⟨⟨by omega, by omega⟩, ?_⟩
      (conv => whnf)
      exact ⟨_, SubH.refl _, q⟩
  | rem =>
    (conv => whnf)
    rw [show decide (Fl.num y = Fl.num 0) = decide (y = 0) by simp]
    by_cases c : y = 0
    · rw [decide_eq_true c]
      (conv => whnf)
      have e : wkF bt .rem x y = none := if_pos c
      rw [e] at q
      exact ⟨_, SubH.refl _, q⟩
    · rw [decide_eq_false c]
      (conv => whnf)
      have e : wkF bt .rem x y = some (x % y) := if_neg c
      rw [e] at q
      refine ⟨⟨by omega, by omega⟩, ?_⟩
      (conv => whnf)
      refine ⟨.inr (wsmall wy), ?_⟩
      (conv => whnf)
      refine ⟨h, SubH.refl h, ?_⟩
      have e2 : x - x / y * y = x % y := by rw [Int.emod_def, Int.mul_comm]
      rw [e2]
      exact q
  | add =>
    (conv => whnf); refine ⟨[(.inr "add", .int (x + y)), (.inr "sub", .int (x - y)), (.inr "and", .int (bt.and x y)), (.inr "or", .int (bt.or x y)), (.inr "xor", .int (bt.or x y - bt.and x y))], rfl, fun p np => ?_⟩; rw [m5]; (conv => whnf); refine ⟨x, rfl, ?_⟩; (conv => whnf); refine ⟨y, rfl, ?_⟩; (conv => whnf); by_cases c : sg x < sg y
    · rw [decide_eq_true c]; (conv => whnf); rw [hup_same]; (conv => whnf); rw [hup_same]; (conv => whnf); refine ⟨(Nat.le_of_ble_eq_true rfl), ?_⟩; rw [put5]; (conv => whnf); refine ⟨.inl (wsmall wx), ?_⟩; (conv => whnf); rw [hup_same]; (conv => whnf); rw [hup_same]; (conv => whnf); refine ⟨(Nat.le_of_ble_eq_true rfl), ?_⟩; rw [put6]; (conv => whnf); rw [hup_same]; (conv => whnf); rw [hup_same]; (conv => whnf); refine ⟨by decide, ?_⟩; (conv => whnf); refine ⟨h, (((SubH.refl h).ow np).ow np).ow np, ?_⟩; exact cast (congrArg (fun z => Q (.int z) h) (rfl)) q
    · rw [decide_eq_false c]; (conv => whnf); rw [hup_same]; (conv => whnf); rw [hup_same]; (conv => whnf); refine ⟨(Nat.le_of_ble_eq_true rfl), ?_⟩; rw [put5]; (conv => whnf); refine ⟨.inl (wsmall wx), ?_⟩; (conv => whnf); rw [hup_same]; (conv => whnf); rw [hup_same]; (conv => whnf); refine ⟨(Nat.le_of_ble_eq_true rfl), ?_⟩; rw [put6]; (conv => whnf); rw [hup_same]; (conv => whnf); rw [hup_same]; (conv => whnf); refine ⟨by decide, ?_⟩; (conv => whnf); refine ⟨h, (((SubH.refl h).ow np).ow np).ow np, ?_⟩; exact cast (congrArg (fun z => Q (.int z) h) (rfl)) q
  | sub =>
    (conv => whnf); refine ⟨[(.inr "add", .int (x + y)), (.inr "sub", .int (x - y)), (.inr "and", .int (bt.and x y)), (.inr "or", .int (bt.or x y)), (.inr "xor", .int (bt.or x y - bt.and x y))], rfl, fun p np => ?_⟩; rw [m5]; (conv => whnf); refine ⟨x, rfl, ?_⟩; (conv => whnf); refine ⟨y, rfl, ?_⟩; (conv => whnf); by_cases c : sg x < sg y
    · rw [decide_eq_true c]; (conv => whnf); rw [hup_same]; (conv => whnf); rw [hup_same]; (conv => whnf); refine ⟨(Nat.le_of_ble_eq_true rfl), ?_⟩; rw [put5]; (conv => whnf); refine ⟨.inl (wsmall wx), ?_⟩; (conv => whnf); rw [hup_same]; (conv => whnf); rw [hup_same]; (conv => whnf); refine ⟨(Nat.le_of_ble_eq_true rfl), ?_⟩; rw [put6]; (conv => whnf); rw [hup_same]; (conv => whnf); rw [hup_same]; (conv => whnf); refine ⟨by decide, ?_⟩; (conv => whnf); refine ⟨h, (((SubH.refl h).ow np).ow np).ow np, ?_⟩; exact cast (congrArg (fun z => Q (.int z) h) (rfl)) q
    · rw [decide_eq_false c]; (conv => whnf); rw [hup_same]; (conv => whnf); rw [hup_same]; (conv => whnf); refine ⟨(Nat.le_of_ble_eq_true rfl), ?_⟩; rw [put5]; (conv => whnf); refine ⟨.inl (wsmall wx), ?_⟩; (conv => whnf); rw [hup_same]; (conv => whnf); rw [hup_same]; (conv => whnf); refine ⟨(Nat.le_of_ble_eq_true rfl), ?_⟩; rw [put6]; (conv => whnf); rw [hup_same]; (conv => whnf); rw [hup_same]; (conv => whnf); refine ⟨by decide, ?_⟩; (conv => whnf); refine ⟨h, (((SubH.refl h).ow np).ow np).ow np, ?_⟩; exact cast (congrArg (fun z => Q (.int z) h) (rfl)) q
  | mul =>
    (conv => whnf); refine ⟨[(.inr "add", .int (x + y)), (.inr "sub", .int (x - y)), (.inr "and", .int (bt.and x y)), (.inr "or", .int (bt.or x y)), (.inr "xor", .int (bt.or x y - bt.and x y))], rfl, fun p np => ?_⟩; rw [m5]; (conv => whnf); refine ⟨x, rfl, ?_⟩; (conv => whnf); refine ⟨y, rfl, ?_⟩; (conv => whnf); by_cases c : sg x < sg y
    · rw [decide_eq_true c]; (conv => whnf); rw [hup_same]; (conv => whnf); rw [hup_same]; (conv => whnf); refine ⟨(Nat.le_of_ble_eq_true rfl), ?_⟩; rw [put5]; (conv => whnf); refine ⟨.inl (wsmall wx), ?_⟩; (conv => whnf); rw [hup_same]; (conv => whnf); rw [hup_same]; (conv => whnf); refine ⟨(Nat.le_of_ble_eq_true rfl), ?_⟩; rw [put6]; (conv => whnf); rw [hup_same]; (conv => whnf); rw [hup_same]; (conv => whnf); refine ⟨by decide, ?_⟩; (conv => whnf); refine ⟨h, (((SubH.refl h).ow np).ow np).ow np, ?_⟩; exact cast (congrArg (fun z => Q (.int z) h) (rfl)) q
    · rw [decide_eq_false c]; (conv => whnf); rw [hup_same]; (conv => whnf); rw [hup_same]; (conv => whnf); refine ⟨(Nat.le_of_ble_eq_true rfl), ?_⟩; rw [put5]; (conv => whnf); refine ⟨.inl (wsmall wx), ?_⟩; (conv => whnf); rw [hup_same]; (conv => whnf); rw [hup_same]; (conv => whnf); refine ⟨(Nat.le_of_ble_eq_true rfl), ?_⟩; rw [put6]; (conv => whnf); rw [hup_same]; (conv => whnf); rw [hup_same]; (conv => whnf); refine ⟨by decide, ?_⟩; (conv => whnf); refine ⟨h, (((SubH.refl h).ow np).ow np).ow np, ?_⟩; exact cast (congrArg (fun z => Q (.int z) h) (rfl)) q
  | and =>
    (conv => whnf); refine ⟨[(.inr "add", .int (x + y)), (.inr "sub", .int (x - y)), (.inr "and", .int (bt.and x y)), (.inr "or", .int (bt.or x y)), (.inr "xor", .int (bt.or x y - bt.and x y))], rfl, fun p np => ?_⟩; rw [m5]; (conv => whnf); refine ⟨x, rfl, ?_⟩; (conv => whnf); refine ⟨y, rfl, ?_⟩; (conv => whnf); by_cases c : sg x < sg y
    · rw [decide_eq_true c]; (conv => whnf); rw [hup_same]; (conv => whnf); rw [hup_same]; (conv => whnf); refine ⟨(Nat.le_of_ble_eq_true rfl), ?_⟩; rw [put5]; (conv => whnf); refine ⟨.inl (wsmall wx), ?_⟩; (conv => whnf); rw [hup_same]; (conv => whnf); rw [hup_same]; (conv => whnf); refine ⟨(Nat.le_of_ble_eq_true rfl), ?_⟩; rw [put6]; (conv => whnf); rw [hup_same]; (conv => whnf); rw [hup_same]; (conv => whnf); refine ⟨by decide, ?_⟩; (conv => whnf); refine ⟨h, (((SubH.refl h).ow np).ow np).ow np, ?_⟩; exact cast (congrArg (fun z => Q (.int z) h) ((mod_word (hb.and x y wx wy)).symm)) q
    · rw [decide_eq_false c]; (conv => whnf); rw [hup_same]; (conv => whnf); rw [hup_same]; (conv => whnf); refine ⟨(Nat.le_of_ble_eq_true rfl), ?_⟩; rw [put5]; (conv => whnf); refine ⟨.inl (wsmall wx), ?_⟩; (conv => whnf); rw [hup_same]; (conv => whnf); rw [hup_same]; (conv => whnf); refine ⟨(Nat.le_of_ble_eq_true rfl), ?_⟩; rw [put6]; (conv => whnf); rw [hup_same]; (conv => whnf); rw [hup_same]; (conv => whnf); refine ⟨by decide, ?_⟩; (conv => whnf); refine ⟨h, (((SubH.refl h).ow np).ow np).ow np, ?_⟩; exact cast (congrArg (fun z => Q (.int z) h) ((mod_word (hb.and x y wx wy)).symm)) q
  | or =>
    (conv => whnf); refine ⟨[(.inr "add", .int (x + y)), (.inr "sub", .int (x - y)), (.inr "and", .int (bt.and x y)), (.inr "or", .int (bt.or x y)), (.inr "xor", .int (bt.or x y - bt.and x y))], rfl, fun p np => ?_⟩; rw [m5]; (conv => whnf); refine ⟨x, rfl, ?_⟩; (conv => whnf); refine ⟨y, rfl, ?_⟩; (conv => whnf); by_cases c : sg x < sg y
    · rw [decide_eq_true c]; (conv => whnf); rw [hup_same]; (conv => whnf); rw [hup_same]; (conv => whnf); refine ⟨(Nat.le_of_ble_eq_true rfl), ?_⟩; rw [put5]; (conv => whnf); refine ⟨.inl (wsmall wx), ?_⟩; (conv => whnf); rw [hup_same]; (conv => whnf); rw [hup_same]; (conv => whnf); refine ⟨(Nat.le_of_ble_eq_true rfl), ?_⟩; rw [put6]; (conv => whnf); rw [hup_same]; (conv => whnf); rw [hup_same]; (conv => whnf); refine ⟨by decide, ?_⟩; (conv => whnf); refine ⟨h, (((SubH.refl h).ow np).ow np).ow np, ?_⟩; exact cast (congrArg (fun z => Q (.int z) h) ((mod_word (hb.or x y wx wy)).symm)) q
    · rw [decide_eq_false c]; (conv => whnf); rw [hup_same]; (conv => whnf); rw [hup_same]; (conv => whnf); refine ⟨(Nat.le_of_ble_eq_true rfl), ?_⟩; rw [put5]; (conv => whnf); refine ⟨.inl (wsmall wx), ?_⟩; (conv => whnf); rw [hup_same]; (conv => whnf); rw [hup_same]; (conv => whnf); refine ⟨(Nat.le_of_ble_eq_true rfl), ?_⟩; rw [put6]; (conv => whnf); rw [hup_same]; (conv => whnf); rw [hup_same]; (conv => whnf); refine ⟨by decide, ?_⟩; (conv => whnf); refine ⟨h, (((SubH.refl h).ow np).ow np).ow np, ?_⟩; exact cast (congrArg (fun z => Q (.int z) h) ((mod_word (hb.or x y wx wy)).symm)) q
  | xor =>
    have hx : bt.xor x y = (bt.or x y - bt.and x y) % 65536 := by rw [← hb.xor x y wx wy]; exact (mod_word (hb.xw x y wx wy)).symm
    (conv => whnf); refine ⟨[(.inr "add", .int (x + y)), (.inr "sub", .int (x - y)), (.inr "and", .int (bt.and x y)), (.inr "or", .int (bt.or x y)), (.inr "xor", .int (bt.or x y - bt.and x y))], rfl, fun p np => ?_⟩; rw [m5]; (conv => whnf); refine ⟨x, rfl, ?_⟩; (conv => whnf); refine ⟨y, rfl, ?_⟩; (conv => whnf); by_cases c : sg x < sg y
    · rw [decide_eq_true c]; (conv => whnf); rw [hup_same]; (conv => whnf); rw [hup_same]; (conv => whnf); refine ⟨(Nat.le_of_ble_eq_true rfl), ?_⟩; rw [put5]; (conv => whnf); refine ⟨.inl (wsmall wx), ?_⟩; (conv => whnf); rw [hup_same]; (conv => whnf); rw [hup_same]; (conv => whnf); refine ⟨(Nat.le_of_ble_eq_true rfl), ?_⟩; rw [put6]; (conv => whnf); rw [hup_same]; (conv => whnf); rw [hup_same]; (conv => whnf); refine ⟨by decide, ?_⟩; (conv => whnf); refine ⟨h, (((SubH.refl h).ow np).ow np).ow np, ?_⟩; exact cast (congrArg (fun z => Q (.int z) h) (hx)) q
    · rw [decide_eq_false c]; (conv => whnf); rw [hup_same]; (conv => whnf); rw [hup_same]; (conv => whnf); refine ⟨(Nat.le_of_ble_eq_true rfl), ?_⟩; rw [put5]; (conv => whnf); refine ⟨.inl (wsmall wx), ?_⟩; (conv => whnf); rw [hup_same]; (conv => whnf); rw [hup_same]; (conv => whnf); refine ⟨(Nat.le_of_ble_eq_true rfl), ?_⟩; rw [put6]; (conv => whnf); rw [hup_same]; (conv => whnf); rw [hup_same]; (conv => whnf); refine ⟨by decide, ?_⟩; (conv => whnf); refine ⟨h, (((SubH.refl h).ow np).ow np).ow np, ?_⟩; exact cast (congrArg (fun z => Q (.int z) h) (hx)) q
  | under =>
    (conv => whnf); refine ⟨[(.inr "add", .int (x + y)), (.inr "sub", .int (x - y)), (.inr "and", .int (bt.and x y)), (.inr "or", .int (bt.or x y)), (.inr "xor", .int (bt.or x y - bt.and x y))], rfl, fun p np => ?_⟩; rw [m5]; (conv => whnf); refine ⟨x, rfl, ?_⟩; (conv => whnf); refine ⟨y, rfl, ?_⟩; (conv => whnf); by_cases c : sg x < sg y
    · rw [decide_eq_true c]; (conv => whnf); rw [hup_same]; (conv => whnf); rw [hup_same]; (conv => whnf); refine ⟨(Nat.le_of_ble_eq_true rfl), ?_⟩; rw [put5]; (conv => whnf); refine ⟨.inl (wsmall wx), ?_⟩; (conv => whnf); rw [hup_same]; (conv => whnf); rw [hup_same]; (conv => whnf); refine ⟨(Nat.le_of_ble_eq_true rfl), ?_⟩; rw [put6]; (conv => whnf); rw [hup_same]; (conv => whnf); rw [hup_same]; (conv => whnf); refine ⟨by decide, ?_⟩; (conv => whnf); refine ⟨h, (((SubH.refl h).ow np).ow np).ow np, ?_⟩; exact cast (congrArg (fun z => Q (.int z) h) (by rw [if_pos c]; rfl)) q
    · rw [decide_eq_false c]; (conv => whnf); rw [hup_same]; (conv => whnf); rw [hup_same]; (conv => whnf); refine ⟨(Nat.le_of_ble_eq_true rfl), ?_⟩; rw [put5]; (conv => whnf); refine ⟨.inl (wsmall wx), ?_⟩; (conv => whnf); rw [hup_same]; (conv => whnf); rw [hup_same]; (conv => whnf); refine ⟨(Nat.le_of_ble_eq_true rfl), ?_⟩; rw [put6]; (conv => whnf); rw [hup_same]; (conv => whnf); rw [hup_same]; (conv => whnf); refine ⟨by decide, ?_⟩; (conv => whnf); refine ⟨h, (((SubH.refl h).ow np).ow np).ow np, ?_⟩; exact cast (congrArg (fun z => Q (.int z) h) (by rw [if_neg c]; rfl)) q
end K40
end

section
set_option Elab.async false
set_option linter.all false
set_option maxRecDepth 100000
set_option maxHeartbeats 4000000
/-! K40w9: the walk: made_by. -/
namespace K40
open PySem (Str Addr)
open AR
variable {bt : Bits}
theorem SubH.idem {h : Hd} {p : Addr} {c : Cl} (e : h p = some c) : SubH (hup h p c) h := fun a c' q => by
  by_cases k : a = p
  · subst k; rw [hup_same] at q; rw [e]; exact q
  · rw [hup_ne k] at q; exact q
theorem SubH.idem2 {h : Hd} {p p2 : Addr} {c c2 : Cl} (e : h p = some c) (e2 : h p2 = some c2) (n : p2 ≠ p) : SubH (hup (hup h p c) p2 c2) h := fun a c' q => by
  have e3 : hup h p c p2 = some c2 := hup_of n e2
  exact SubH.idem e a c' (SubH.idem e3 a c' q)
theorem atD_i0 (x : Int) (l : List Int) : atD ((x :: l).map D.int) 0 = some (.int x) := rfl
theorem spot_at {m : List Int} {x : Int} (h0 : 0 ≤ x) (h : x < m.length) : atD (m.map D.int) x = some (.int (m.getD x.toNat 0)) := by
  have e : x = (x.toNat : Int) := by omega
  rw [e, atD_map (enc := D.int) (x := m.getD x.toNat 0)]
  · rfl
  · rw [List.getD_eq_getElem?_getD, List.getElem?_eq_getElem (by omega)]; rfl
theorem spot_ix {n : Nat} {x : Int} (h0 : 0 ≤ x) (h : x < n) : ixD n x = some x.toNat := by
  unfold ixD
  rw [if_pos h0, if_pos h]
theorem two_of {l : List Int} (h : l.length = 2) : ∃ x y, l = [x, y] := by
  match l, h with
  | [x, y], _ => exact ⟨x, y, rfl⟩
theorem one_of {l : List Int} (h : l.length = 1) : ∃ x, l = [x] := by
  match l, h with
  | [x], _ => exact ⟨x, rfl⟩
theorem p_made_by : Keeps bt (C40 bt) b_made_by N_made_by.length 4 (S_made_by bt) := by
  rintro ds h Q E ⟨o, k, p, ws, c1, c2, m, rfl, ⟨ep, e1, e2, n12, np1, np2⟩, ⟨wl, wi, ml, tl⟩, q⟩
  refine ⟨rfl, ?_⟩
  have idem : SubH (hup (hup h c1 (.lst (m.mem.map .int))) c2 (.lst (m.told.map .int))) h := SubH.idem2 e1 e2 (Ne.symm n12)
  cases o with
  | work w d a b =>
    obtain ⟨x, y, rfl⟩ := two_of wl
    have w1 := wi x (by simp)
    have w2 := wi y (by simp)
    have q : (match (match wkF bt w x y with | some z => some (some z, none, m) | none => none : Option (Option Int × Option Gt × Mx)) with
        | none => Q .non h
        | some (mk, go, m') => Q (.tup [optI mk, optG go]) (hup (hup h c1 (.lst (m'.mem.map .int))) c2 (.lst (m'.told.map .int)))) := q
    cases w <;> (
      (conv => whnf)
      refine ⟨rfl, ?_⟩
      (conv => whnf)
      rw [ep]
      (conv => whnf)
      rw [ep]
      (conv => whnf)
      refine ⟨_, x, y, rfl, w1, w2, ?_⟩
      rcases ew : wkF bt _ x y with _ | z
      · rw [ew] at q
        (conv => whnf)
        exact ⟨_, SubH.refl _, q⟩
      · rw [ew] at q
        (conv => whnf)
        exact ⟨_, idem, q⟩)
  | tell a =>
    obtain ⟨x, rfl⟩ := one_of wl
    have q : Q (.tup [.non, .non]) (hup (hup h c1 (.lst (m.mem.map .int))) c2 (.lst ((m.told ++ [x]).map .int))) := q
    (conv => whnf)
    refine ⟨rfl, ?_⟩
    (conv => whnf)
    rw [e2]
    (conv => whnf)
    refine ⟨rfl, ?_⟩
    (conv => whnf)
    rw [ep]
    (conv => whnf)
    rw [e2]
    (conv => whnf)
    refine ⟨by rw [List.length_map]; unfold big; omega, ?_⟩
    (conv => whnf)
    refine ⟨_, ?_, q⟩
    rw [List.map_append]
    exact SubH.up (SubH.idem e1)
  | load d a n =>
    obtain ⟨x, rfl⟩ := one_of wl
    have q : (match (if ((x + n) % 65536) < m.mem.length then some (some (m.mem.getD ((x + n) % 65536).toNat 0), none, m) else none : Option (Option Int × Option Gt × Mx)) with
        | none => Q .non h
        | some (mk, go, m') => Q (.tup [optI mk, optG go]) (hup (hup h c1 (.lst (m'.mem.map .int))) c2 (.lst (m'.told.map .int)))) := q
    (conv => whnf)
    refine ⟨rfl, ?_⟩
    (conv => whnf)
    rw [ep]
    (conv => whnf)
    refine ⟨by decide, ?_⟩
    (conv => whnf)
    rw [itemsOf_l e1]
    (conv => whnf)
    have x0 : 0 ≤ (x + n) % 65536 := Int.emod_nonneg _ (by decide)
    rw [List.length_map]
    by_cases c : ((x + n) % 65536) < m.mem.length
    · rw [decide_eq_false (by omega)]
      rw [if_pos c] at q
      (conv => whnf)
      rw [e1]
      (conv => whnf)
      rw [spot_at x0 c]
      (conv => whnf)
      exact ⟨_, idem, q⟩
    · rw [decide_eq_true (by omega)]
      rw [if_neg c] at q
      (conv => whnf)
      exact ⟨_, SubH.refl _, q⟩
  | store a n s =>
    obtain ⟨x, y, rfl⟩ := two_of wl
    have q : (match (if ((x + n) % 65536) < m.mem.length then some (none, none, { m with mem := m.mem.set ((x + n) % 65536).toNat y }) else none : Option (Option Int × Option Gt × Mx)) with
        | none => Q .non h
        | some (mk, go, m') => Q (.tup [optI mk, optG go]) (hup (hup h c1 (.lst (m'.mem.map .int))) c2 (.lst (m'.told.map .int)))) := q
    (conv => whnf)
    refine ⟨rfl, ?_⟩
    (conv => whnf)
    rw [ep]
    (conv => whnf)
    refine ⟨by decide, ?_⟩
    (conv => whnf)
    rw [itemsOf_l e1]
    (conv => whnf)
    have x0 : 0 ≤ (x + n) % 65536 := Int.emod_nonneg _ (by decide)
    rw [List.length_map]
    by_cases c : ((x + n) % 65536) < m.mem.length
    · rw [decide_eq_false (by omega)]
      rw [if_pos c] at q
      (conv => whnf)
      rw [ep]
      (conv => whnf)
      rw [e1]
      (conv => whnf)
      rw [spot_ix x0 (by rw [List.length_map]; exact c)]
      (conv => whnf)
      refine ⟨_, ?_, q⟩
      rw [← List.map_set]
      have e3 : hup h c1 (.lst ((m.mem.set ((x + n) % 65536).toNat y).map D.int)) c2 = some (.lst (m.told.map .int)) := hup_of (Ne.symm n12) e2
      exact SubH.idem e3
    · rw [decide_eq_true (by omega)]
      rw [if_neg c] at q
      (conv => whnf)
      exact ⟨_, SubH.refl _, q⟩
  | set d n =>
    (conv => whnf); refine ⟨rfl, ?_⟩; (conv => whnf); refine ⟨.set d n, k, p, _, m, rfl, ep, wl, trivial, ?_⟩
    rw [List.length_eq_zero_iff.mp wl] at q ⊢
    (conv => whnf); exact ⟨_, idem, q⟩
  | jump t =>
    (conv => whnf); refine ⟨rfl, ?_⟩; (conv => whnf); refine ⟨.jump t, k, p, _, m, rfl, ep, wl, trivial, ?_⟩
    rw [List.length_eq_zero_iff.mp wl] at q ⊢
    (conv => whnf); exact ⟨_, idem, q⟩
  | link d t =>
    (conv => whnf); refine ⟨rfl, ?_⟩; (conv => whnf); refine ⟨.link d t, k, p, _, m, rfl, ep, wl, trivial, ?_⟩
    rw [List.length_eq_zero_iff.mp wl] at q ⊢
    (conv => whnf); exact ⟨_, idem, q⟩
  | stop =>
    (conv => whnf); refine ⟨rfl, ?_⟩; (conv => whnf); refine ⟨.stop, k, p, _, m, rfl, ep, wl, trivial, ?_⟩
    rw [List.length_eq_zero_iff.mp wl] at q ⊢
    (conv => whnf); exact ⟨_, idem, q⟩
  | br c a b t =>
    obtain ⟨x, y, rfl⟩ := two_of wl
    cases c with
    | same => (conv => whnf); refine ⟨rfl, ?_⟩; (conv => whnf); refine ⟨.br .same a b t, k, p, _, m, rfl, ep, wl, trivial, ?_⟩; (conv => whnf); exact ⟨_, idem, q⟩
    | other => (conv => whnf); refine ⟨rfl, ?_⟩; (conv => whnf); refine ⟨.br .other a b t, k, p, _, m, rfl, ep, wl, trivial, ?_⟩; (conv => whnf); exact ⟨_, idem, q⟩
    | less => (conv => whnf); refine ⟨rfl, ?_⟩; (conv => whnf); refine ⟨.br .less a b t, k, p, _, m, rfl, ep, wl, trivial, ?_⟩; (conv => whnf); exact ⟨_, idem, q⟩
  | back a =>
    obtain ⟨x, rfl⟩ := one_of wl
    have q : (match (if x < 60 then some (none, some (Gt.to x), m) else none : Option (Option Int × Option Gt × Mx)) with
        | none => Q .non h
        | some (mk, go, m') => Q (.tup [optI mk, optG go]) (hup (hup h c1 (.lst (m'.mem.map .int))) c2 (.lst (m'.told.map .int)))) := q
    (conv => whnf); refine ⟨rfl, ?_⟩; (conv => whnf); refine ⟨.back a, k, p, _, m, rfl, ep, wl, trivial, ?_⟩
    show (match (if x < 60 then some (none, some (Gt.to x), m) else none : Option (Option Int × Option Gt × Mx)) with
        | none => _
        | some (mk, go, _) => _)
    by_cases c : x < 60
    · rw [if_pos c] at q ⊢
      (conv => whnf); exact ⟨_, idem, q⟩
    · rw [if_neg c] at q ⊢
      (conv => whnf)
      exact ⟨_, SubH.refl _, q⟩
end K40
end

section
set_option Elab.async false
set_option linter.all false
set_option maxRecDepth 100000
set_option maxHeartbeats 4000000
/-! K40w10: the walk: run_named. -/
namespace K40
open PySem (Str Addr)
open AR
variable {bt : Bits}
/-- the names that hold something -/
structure HeldOk (b : Blk) (rs : List Int) (done : List Nat) (kvs : List (List Ky × D)) (held : Nat → Int) : Prop where
  was : ∀ r, r < 8 → look kvs (Nm.was r).ky = some (.int (rs.getD r 0))
  made : ∀ i, i ∈ done → (at! b i).wr ≠ 0 → look kvs (Nm.made i).ky = some (.int (held i))
  w : ∀ i, wordI (held i)
theorem held0 {rs : List Int} (k : RegsOk rs) : ∀ r, r < 8 → look (((List.range rs.length).zip rs).foldl (fun acc (p : Nat × Int) => putD acc (Nm.was p.1).ky (D.int p.2)) []) (Nm.was r).ky = some (.int (rs.getD r 0)) := by
  intro r hr
  rw [look_fold (fun (p : Nat × Int) => (Nm.was p.1).ky) (fun p => D.int p.2)]
  have e : ((List.range rs.length).zip rs).filter (fun (p : Nat × Int) => decide ((Nm.was p.1).ky = (Nm.was r).ky)) = ((List.range rs.length).zip rs).filter fun p => decide (p.1 = r) := by
    apply List.filter_congr
    intro p _
    rw [Bool.eq_iff_iff]
    simp only [decide_eq_true_eq, Nm.ky, List.cons.injEq, Sum.inl.injEq, and_true, true_and]
    omega
  rw [e, k.len]
  have l := k.len
  match rs, l with
  | [a0, a1, a2, a3, a4, a5, a6, a7], _ =>
    match r, hr with
    | 0, _ => rfl
    | 1, _ => rfl
    | 2, _ => rfl
    | 3, _ => rfl
    | 4, _ => rfl
    | 5, _ => rfl
    | 6, _ => rfl
    | 7, _ => rfl
theorem was_made : (Str.ofString "was") ≠ Str.ofString "made" := by decide
theorem HeldOk.get {b : Blk} {rs : List Int} {done : List Nat} {kvs : List (List Ky × D)} {held : Nat → Int} (h : HeldOk b rs done kvs held) {k r : Nat} (h8 : r < 8) (hd : ∀ i, lw b k r = some i → i ∈ done) : look kvs (nm b k r).ky = some (.int (val rs held (nm b k r))) := by
  rw [nm_of]
  cases e : lw b k r with
  | none => exact h.was r h8
  | some i =>
    refine h.made i (hd i e) ?_
    have := lw_lt e
    have e2 : b[i]?.map Op.wr = some (at! b i).wr ∨ (b[i]?.map Op.wr).getD 0 = 0 := by
      by_cases c : i < b.length
      · rw [get_at c]; exact .inl rfl
      · rw [List.getElem?_eq_none (by omega)]; exact .inr rfl
    rcases e2 with e2 | e2
    · rw [e2] at this
      have := this.2.1
      have h0 := (lw_lt e).2.2
      show (at! b i).wr ≠ 0
      rw [show (at! b i).wr = r from this]
      exact h0
    · omega
theorem HeldOk.put {b : Blk} {rs : List Int} {done : List Nat} {kvs : List (List Ky × D)} {held : Nat → Int} (h : HeldOk b rs done kvs held) {k : Nat} {z : Int} (hz : wordI z) : HeldOk b rs (done ++ [k]) (putD kvs (Nm.made k).ky (.int z)) fun i => if i = k then z else held i where
  was := fun r hr => by
    rw [look_putG, if_neg (by unfold Nm.ky; simp only [List.cons.injEq, Sum.inr.injEq]; exact fun z => was_made z.1)]
    exact h.was r hr
  made := fun i hi hw => by
    rw [look_putG]
    by_cases c : i = k
    · subst c; rw [if_pos rfl, if_pos rfl]
    · rw [if_neg (by unfold Nm.ky; simp; omega), if_neg c]
      refine h.made i ?_ hw
      rcases List.mem_append.mp hi with z | z
      · exact z
      · simp at z; exact absurd z c
  w := fun i => by
    show wordI (if i = k then z else held i)
    split
    · exact hz
    · exact h.w i
theorem HeldOk.skip {b : Blk} {rs : List Int} {done : List Nat} {kvs : List (List Ky × D)} {held : Nat → Int} (h : HeldOk b rs done kvs held) {k : Nat} (hk : (at! b k).wr = 0) : HeldOk b rs (done ++ [k]) kvs held where
  was := h.was
  made := fun i hi hw => by
    rcases List.mem_append.mp hi with z | z
    · exact h.made i z hw
    · simp at z; subst z; exact absurd hk hw
  w := h.w
theorem nm_ky (n : Nm) : kysD (match n.dat with | .tup xs => xs | _ => []) = some n.ky := by cases n <;> rfl
theorem val_word {rs : List Int} (k : RegsOk rs) {held : Nat → Int} (h : ∀ i, wordI (held i)) (n : Nm) : wordI (val rs held n) := by
  cases n with
  | was r => exact word_get k.ok r
  | made i => exact h i
theorem p_run_named (hb : BitsOk bt) : Keeps bt (C40 bt) b_run_named N_run_named.length 4 (S_run_named bt) := by
  rintro ds h Q E ⟨b, xs, rs, mem, rfl, bk, rk, mk, lx, q⟩
  refine ⟨rfl, ?_⟩
  have few := bk.few
  (conv => whnf)
  refine ⟨rs, rfl, rk, ?_⟩
  (conv => whnf)
  refine ⟨mem, rfl, mk, ?_⟩
  (conv => whnf)
  refine ⟨b, ordD xs, rfl, bk, .inr (.inr ⟨xs, rfl, lx, ?_⟩)⟩
  (conv => whnf)
  cases ct : isTO b xs with
  | false =>
    rw [ct] at q
    (conv => whnf)
    exact ⟨h, SubH.refl h, q⟩
  | true =>
    rw [ct] at q
    have q : Q (runD bt b rs mem xs) h := q
    have px := isTO_perm ct
    have lxn : xs.length = b.length := by have := px.length_eq; simpa using this
    have nd : xs.Nodup := px.symm.nodup List.nodup_range
    (conv => whnf)
    refine ⟨by rw [List.length_map, rk.len]; unfold big; omega, ?_⟩
    rw [enum_map D.int rs]
    refine ⟨by simp [rk.len]; unfold big; omega, dcL_pure (fun (p : Nat × Int) => D.tup [nD p.1, .int p.2]) (fun p => (Nm.was p.1).ky) (fun p => (Nm.was p.1).dat) (fun p => .int p.2) (fun _ => true) trivial (fun a ha => ⟨_, rfl, fun K z => z, fun _ => ⟨rfl, fun K z => z, fun K z => z⟩⟩) ?_⟩
    rw [List.filter_eq_self.mpr fun _ _ => rfl]
    have h0 := held0 rk
    have kl : (((List.range rs.length).zip rs).foldl (fun acc (p : Nat × Int) => putD acc (Nm.was p.1).ky (D.int p.2)) ([] : List (List Ky × D))).length ≤ 8 := by
      have := fold_len (fun (p : Nat × Int) => (Nm.was p.1).ky) (fun p => D.int p.2) ((List.range rs.length).zip rs) []
      simp only [List.length_nil, List.length_zip, List.length_range, Nat.min_self, Nat.zero_add, rk.len] at this ⊢
      exact this
    revert h0 kl
    generalize ((List.range rs.length).zip rs).foldl (fun acc (p : Nat × Int) => putD acc (Nm.was p.1).ky (D.int p.2)) ([] : List (List Ky × D)) = kvs0
    intro h0 kl
    (conv => whnf)
    intro hd nhd
    (conv => whnf)
    intro c nc
    (conv => whnf)
    intro t nt
    (conv => whnf)
    refine ⟨b, rfl, bk, ?_⟩
    (conv => whnf)
    refine ⟨rfl, ?_⟩
    (conv => whnf)
    refine ⟨by rw [List.length_map]; unfold big; omega, ?_⟩
    obtain ⟨cd, nc'⟩ := hup_none nc
    obtain ⟨tc, nt'⟩ := hup_none nt
    obtain ⟨td, nt''⟩ := hup_none nt'
    refine forL_inv (fun k σ h2 => ∃ s kvs, σ = [some (blkD b), some (ordD xs), some (intsD rs), some (intsD mem), some (.ref hd), none, some (.ref c), some (.ref t), some s.after.dat, some (renD b), none, none, none, none, none] ∧ SubH h h2 ∧ h2 hd = some (.dT kvs) ∧ h2 c = some (.lst (s.m.mem.map .int)) ∧ h2 t = some (.lst (s.m.told.map .int)) ∧
      runs bt b rs (hs0 b mem) (xs.take k) = some s ∧ HeldOk b rs (xs.take k) kvs s.held ∧ (kvs.length ≤ 8 + k ∧ s.m.mem.length = mem.length ∧ s.m.told.length ≤ k) ∧ wordsI s.m.mem ∧ wordsI s.m.told) ?_ ?_ ?_
    · refine ⟨hs0 b mem, kvs0, ?_, (((SubH.refl h).new nhd).new nc).new nt, hup_of (Ne.symm td) (hup_of (Ne.symm cd) hup_same), hup_of (Ne.symm tc) hup_same, hup_same, rfl, ⟨h0, fun i hi => by simp at hi, fun i => ⟨Int.le_refl 0, show (0 : Int) < 65536 by decide⟩⟩, ⟨by omega, rfl, Nat.le_refl _⟩, mk.ok, fun x hx => by cases hx⟩
      show _ = [some (blkD b), some (ordD xs), some (intsD rs), some (intsD mem), some (.ref hd), none, some (.ref c), some (.ref t), some (.int (b.length : Int)), some (renD b), none, none, none, none, none]
      rw [List.length_map]
      rfl
    · rintro k d σ h2 K e ⟨s, kvs, rfl, sb, e1, e2, e3, er, ho, ⟨l1, l2, l3⟩, wm, wt⟩ kk
      obtain ⟨x, ex, rfl⟩ : ∃ x, xs[k]? = some x ∧ d = nD x := by
        rw [List.getElem?_map] at e
        cases z : xs[k]? with
        | none => rw [z] at e; cases e
        | some x => rw [z] at e; cases e; exact ⟨x, rfl, rfl⟩
      have xm : x ∈ xs := List.mem_of_getElem? ex
      have xl : x < b.length := List.mem_range.mp (px.mem_iff.mp xm)
      have kl2 : k < xs.length := by
        by_cases z : k < xs.length
        · exact z
        · rw [List.getElem?_eq_none (by omega)] at ex; cases ex
      have ix := idx_at nd ex
      have ox := at_ok bk xl
      have dn : ∀ r ∈ (at! b x).rdf, ∀ i, lw b x r = some i → i ∈ xs.take k := fun r hr i el => by
        have vp := isTO_pair ct (value_pair xl hr el)
        have il := (lw_lt el).1
        refine mem_take (px.symm.mem_iff.mp (List.mem_range.mpr (by omega))) ?_
        have vp : xs.idxOf i < xs.idxOf x := vp
        omega
      have et : xs.take (k + 1) = xs.take k ++ [x] := by rw [List.take_add_one, ex]; rfl
      refine ⟨trivial, ?_⟩
      refine wp_cut (bt := bt) (C := C40 bt) (fun σ h3 => ∃ p, σ = [some (blkD b), some (ordD xs), some (intsD rs), some (intsD mem), some (.ref hd), some (nD x), some (.ref c), some (.ref t), some s.after.dat, some (renD b), some (.ref p), none, none, none, none] ∧ SubH h h3 ∧ h3 hd = some (.dT kvs) ∧ h3 c = some (.lst (s.m.mem.map .int)) ∧ h3 t = some (.lst (s.m.told.map .int)) ∧ h3 p = some (.lst ((words b rs s.held x).map .int)) ∧ p ≠ hd ∧ p ≠ c ∧ p ≠ t) ?_ ?_
      · intro K3 kk3
        (conv => whnf)
        rw [atD_map (enc := fun k => D.tup [.tup ((at! b k).rdf.map fun r => (nm b k r).dat), if (at! b k).wr ≠ 0 then (Nm.made k).dat else .non]) (xs := List.range b.length) (k := x) (x := x) (List.getElem?_range xl)]
        (conv => whnf)
        refine ⟨by rw [List.length_map]; have := rdf_len (at! b x); unfold big; omega, lcL_map (fun r => (nm b x r).dat) (fun r => D.int (val rs s.held (nm b x r))) trivial (fun r hr => ⟨_, rfl, fun K z => z, fun K z => ?_⟩) ?_⟩
        · have g := ho.get (rdf_ok ox hr) (dn r hr)
          cases en : nm b x r with
          | was r' =>
            rw [en] at g z
            (conv => whnf)
            rw [e1]
            (conv => whnf)
            rw [e1]
            (conv => whnf)
            rw [show look kvs [Sum.inr (Str.ofString "was"), Sum.inl (r' : Int)] = _ from g]
            exact z
          | made r' =>
            rw [en] at g z
            (conv => whnf)
            rw [e1]
            (conv => whnf)
            rw [e1]
            (conv => whnf)
            rw [show look kvs [Sum.inr (Str.ofString "made"), Sum.inl (r' : Int)] = _ from g]
            exact z
        · (conv => whnf)
          intro p np
          (conv => whnf)
          refine kk3 _ _ ⟨p, rfl, sb.new np, hup_of (new_ne np e1) e1, hup_of (new_ne np e2) e2, hup_of (new_ne np e3) e3, ?_, Ne.symm (new_ne np e1), Ne.symm (new_ne np e2), Ne.symm (new_ne np e3)⟩
          rw [hup_same]
          unfold words
          rw [List.map_map]; rfl
      · rintro σ h3 ⟨p, rfl, sb3, f1, f2, f3, f4, n1, n2, n3⟩
        (conv => whnf)
        rw [atD_map (get_at xl)]
        (conv => whnf)
        have wl : (words b rs s.held x).length = (at! b x).rdf.length := by unfold words; rw [List.length_map]
        have wi : wordsI (words b rs s.held x) := fun w hw => by
          obtain ⟨r, _, rfl⟩ := List.mem_map.mp hw
          exact val_word rk ho.w _
        have mh := mk.hi
        refine ⟨at! b x, x, p, words b rs s.held x, c, t, s.m, rfl, ⟨f4, f2, f3, Ne.symm tc, n2, n3⟩, ⟨wl, wi, by omega, by omega⟩, ?_⟩
        have stp_e : stp bt b rs s x = match act bt (at! b x) x (words b rs s.held x) s.m with
          | none => none
          | some (mk, go, m) => some ⟨if (at! b x).wr ≠ 0 then fun i => if i = x then mk.getD 0 else s.held i else s.held, m, go.getD s.after⟩ := rfl
        have rt := runs_take ex er
        rw [stp_e] at rt
        cases ea : act bt (at! b x) x (words b rs s.held x) s.m with
        | none =>
          rw [ea] at rt
          (conv => whnf)
          refine ⟨h, sb3, ?_⟩
          have : runD bt b rs mem xs = .non := by
            unfold runD
            rw [runs_none rt]; rfl
          rw [this] at q
          exact q
        | some z =>
          obtain ⟨mk', go, m'⟩ := z
          rw [ea] at rt
          have ak := act_ok hb ox (by omega) wi wm wt wl ea
          have fin : ∀ σ' h5 kvs', SubH h h5 → h5 hd = some (.dT kvs') → h5 c = some (.lst (m'.mem.map .int)) → h5 t = some (.lst (m'.told.map .int)) → HeldOk b rs (xs.take k ++ [x]) kvs' (if (at! b x).wr ≠ 0 then fun i => if i = x then mk'.getD 0 else s.held i else s.held) → kvs'.length ≤ 8 + (k + 1) →
              SubS [some (blkD b), some (ordD xs), some (intsD rs), some (intsD mem), some (.ref hd), none, some (.ref c), some (.ref t), some (go.getD s.after).dat, some (renD b), none, none, none, none, none] σ' → K σ' h5 := by
            intro σ' h5 kvs' a1 a2 a3 a4 a5 a6 a7
            refine kk σ' h5 _ h5 a7 (SubH.refl _) ⟨⟨_, m', go.getD s.after⟩, kvs', rfl, a1, a2, a3, a4, rt, by rw [et]; exact a5, ⟨a6, ak.len.trans l2, Nat.le_trans ak.tl (by omega)⟩, ak.mem, ak.told⟩
          (conv => whnf)
          rw [atD_map (enc := fun k => D.tup [.tup ((at! b k).rdf.map fun r => (nm b k r).dat), if (at! b k).wr ≠ 0 then (Nm.made k).dat else .non]) (xs := List.range b.length) (k := x) (x := x) (List.getElem?_range xl)]
          (conv => whnf)
          have g1 : hup (hup h3 c (.lst (m'.mem.map .int))) t (.lst (m'.told.map .int)) hd = some (.dT kvs) := hup_of (Ne.symm td) (hup_of (Ne.symm cd) f1)
          have g2 : hup (hup h3 c (.lst (m'.mem.map .int))) t (.lst (m'.told.map .int)) c = some (.lst (m'.mem.map .int)) := hup_of (Ne.symm tc) hup_same
          have sb4 : SubH h (hup (hup h3 c (.lst (m'.mem.map .int))) t (.lst (m'.told.map .int))) := (sb3.ow nc').ow nt''
          by_cases cw : (at! b x).wr = 0
          · rw [if_neg (fun z => z cw)]
            rw [if_neg (fun z => z cw)] at fin
            have hk := ho.skip cw
            cases go with
            | none =>
              (conv => whnf)
              exact fin _ _ kvs sb4 g1 g2 hup_same hk (by omega) (.same (.same (.same (.same (.same (.drop (.same (.same (.same (.same (.drop (.drop (.drop (.drop (.drop .nil)))))))))))))))
            | some g =>
              cases g <;> ((conv => whnf); exact fin _ _ kvs sb4 g1 g2 hup_same hk (by omega) (.same (.same (.same (.same (.same (.drop (.same (.same (.same (.same (.drop (.drop (.drop (.drop (.drop .nil))))))))))))))))
          · obtain ⟨z, ez⟩ := ak.wr cw
            subst ez
            rw [if_pos cw]
            rw [if_pos cw] at fin
            have hk := ho.put (k := x) (ak.made z rfl)
            (conv => whnf)
            rw [atD_map (enc := fun k => D.tup [.tup ((at! b k).rdf.map fun r => (nm b k r).dat), if (at! b k).wr ≠ 0 then (Nm.made k).dat else .non]) (xs := List.range b.length) (k := x) (x := x) (List.getElem?_range xl)]
            (conv => whnf)
            rw [if_pos cw]
            rw [g1]
            (conv => whnf)
            rw [g1]
            (conv => whnf)
            refine ⟨by unfold big; omega, ?_⟩
            have pl : (putD kvs (Nm.made x).ky (D.int z)).length ≤ kvs.length + 1 := by unfold putD; split <;> simp
            have sb5 := sb4.ow (c := .dT (putD kvs (Nm.made x).ky (D.int z))) nhd
            cases go with
            | none =>
              (conv => whnf)
              exact fin _ _ _ sb5 hup_same (hup_of cd g2) (hup_of td hup_same) hk (Nat.le_trans pl (by omega)) (.same (.same (.same (.same (.same (.drop (.same (.same (.same (.same (.drop (.drop (.drop (.drop (.drop .nil)))))))))))))))
            | some g =>
              cases g <;> ((conv => whnf); exact fin _ _ _ sb5 hup_same (hup_of cd g2) (hup_of td hup_same) hk (Nat.le_trans pl (by omega)) (.same (.same (.same (.same (.same (.drop (.same (.same (.same (.same (.drop (.drop (.drop (.drop (.drop .nil))))))))))))))))
    · rintro σ h2 ⟨s, kvs, rfl, sb, e1, e2, e3, er, ho, ⟨l1, l2, l3⟩, wm, wt⟩
      refine ⟨trivial, ?_⟩
      have mh := mk.hi
      (conv => whnf)
      refine ⟨b, rfl, bk, ?_⟩
      (conv => whnf)
      refine ⟨(Nat.le_of_ble_eq_true rfl), lcL_map (fun r => (nm b b.length r).dat) (fun r => D.int (val rs s.held (nm b b.length r))) trivial (fun r hr => ⟨_, rfl, fun K z => z, fun K z => ?_⟩) ?_⟩
      · have g := ho.get (k := b.length) (r := r) (List.mem_range.mp hr) (fun i el => by
          have := (lw_lt el).1
          rw [List.length_map, List.take_length]
          exact px.symm.mem_iff.mp (List.mem_range.mpr this))
        cases en : nm b b.length r with
        | was r' =>
          rw [en] at g z
          (conv => whnf)
          rw [e1]
          (conv => whnf)
          rw [e1]
          (conv => whnf)
          rw [show look kvs [Sum.inr (Str.ofString "was"), Sum.inl (r' : Int)] = _ from g]
          exact z
        | made r' =>
          rw [en] at g z
          (conv => whnf)
          rw [e1]
          (conv => whnf)
          rw [e1]
          (conv => whnf)
          rw [show look kvs [Sum.inr (Str.ofString "made"), Sum.inl (r' : Int)] = _ from g]
          exact z
      · (conv => whnf)
        rw [itemsOf_l e2]
        (conv => whnf)
        rw [itemsOf_l e3]
        (conv => whnf)
        refine ⟨h, sb, ?_⟩
        have : runD bt b rs mem xs = .tup [.tup ((List.range 8).map fun r => D.int (val rs s.held (nm b b.length r))), .tup (s.m.mem.map .int), .tup (s.m.told.map .int), s.after.dat] := by
          unfold runD
          rw [List.length_map, runs_all] at er
          rw [er]
          unfold endD regsAt K40.intsD
          dsimp only
          rw [List.map_map]; rfl
        rw [this] at q
        exact q
end K40
end

section
set_option Elab.async false
set_option linter.all false
set_option maxRecDepth 100000
set_option maxHeartbeats 4000000
/-! K40w11: the walks: all orders. -/
namespace K40
open PySem (Str Addr)
open AR
variable {bt : Bits}
theorem look_fold_some {α κ : Type} [DecidableEq κ] (fk : α → κ) (v : α → D) (k : κ) (xs : List α) : (look (xs.foldl (fun acc a => putD acc (fk a) (v a)) []) k).isSome = xs.any fun a => decide (fk a = k) := by
  rw [look_fold, show look ([] : List (κ × D)) k = none from rfl, Option.or_none, Option.isSome_map, Bool.eq_iff_iff, List.any_eq_true, Option.isSome_iff_ne_none]
  constructor
  · intro h
    cases e : xs.filter fun a => decide (fk a = k) with
    | nil => rw [e] at h; exact absurd rfl h
    | cons a l =>
      have : a ∈ xs.filter fun a => decide (fk a = k) := by rw [e]; exact List.mem_cons_self ..
      rw [List.mem_filter] at this
      exact ⟨a, this⟩
  · rintro ⟨a, h1, h2⟩ hn
    rw [List.getLast?_eq_none_iff, List.filter_eq_nil_iff] at hn
    exact hn a h1 h2
theorem p_free : Keeps bt (C40 bt) b_free N_free.length 3 S_free := by
  rintro ds h Q E ⟨n, ps, done, rfl, hn, hp, hd, q⟩
  refine ⟨rfl, ?_⟩
  (conv => whnf)
  refine ⟨by rw [List.length_map]; unfold big; omega, dcL_pure nD (fun (a : Nat) => Sum.inl (a : Int)) nD (fun _ => .bl true) (fun _ => true) trivial (fun a ha => ⟨_, rfl, fun K z => z, fun _ => ⟨rfl, fun K z => z, fun K z => z⟩⟩) ?_⟩
  rw [List.filter_eq_self.mpr fun _ _ => rfl]
  (conv => whnf)
  intro p1 np1
  (conv => whnf)
  have c1 : ∀ x : Nat, (look (done.foldl (fun acc (a : Nat) => putD acc (Sum.inl (a : Int) : Ky) (D.bl true)) []) (.inl (x : Int))).isSome = done.contains x := fun x => by
    rw [look_fold_some (fun (a : Nat) => (Sum.inl (a : Int) : Ky)) (fun _ => D.bl true), Bool.eq_iff_iff, List.any_eq_true, List.contains_iff_mem]
    constructor
    · rintro ⟨a, h1, h2⟩
      have h2 := of_decide_eq_true h2
      simp only [Sum.inl.injEq] at h2
      have : a = x := by omega
      exact this ▸ h1
    · exact fun h => ⟨x, h, decide_eq_true rfl⟩
  refine ⟨by rw [List.length_map]; unfold big; omega, dcL_pure Pr.dat (fun p => Sum.inl (p.2.1 : Int)) (fun p => nD p.2.1) (fun _ => .bl true) (fun p => !done.contains p.1) trivial (fun p hp => ⟨_, rfl, fun K z => ?_, fun _ => ⟨rfl, fun K z => z, fun K z => z⟩⟩) ?_⟩
  · (conv => whnf)
    rw [hup_same]
    (conv => whnf)
    rw [hup_same]
    (conv => whnf)
    rw [c1]
    exact z
  (conv => whnf)
  intro p2 np2
  (conv => whnf)
  have n12 : p1 ≠ p2 := new_ne np2 hup_same
  have c2 : ∀ x : Nat, (look ((ps.filter fun p => !done.contains p.1).foldl (fun acc (p : Pr) => putD acc (Sum.inl (p.2.1 : Int) : Ky) (D.bl true)) []) (.inl (x : Int))).isSome = ps.any fun p => decide (p.2.1 = x) && !done.contains p.1 := fun x => by
    rw [look_fold_some (fun (p : Pr) => (Sum.inl (p.2.1 : Int) : Ky)) (fun _ => D.bl true), List.any_filter]
    congr 1
    funext p
    rw [Bool.eq_iff_iff]
    simp only [Bool.and_eq_true, decide_eq_true_eq, Sum.inl.injEq]
    constructor
    · rintro ⟨h1, h2⟩; exact ⟨by omega, h1⟩
    · rintro ⟨h1, h2⟩; exact ⟨h2, by omega⟩
  refine ⟨⟨by omega, by unfold big; omega⟩, ?_⟩
  (conv => whnf)
  rw [show ((n : Int)).toNat = n by simp]
  refine ⟨by simp; unfold big; omega, lcL_pure nD nD (fun one => !(done.contains one) && !(ps.any fun p => decide (p.2.1 = one) && !(done.contains p.1))) trivial (fun x hx => ⟨_, rfl, fun K z => ?_, fun _ K z => z⟩) ?_⟩
  · (conv => whnf)
    rw [hup_of n12 hup_same]
    (conv => whnf)
    rw [hup_of n12 hup_same]
    (conv => whnf)
    rw [c1]
    cases cc : done.contains x with
    | true => rw [cc] at z; exact z
    | false =>
      rw [cc] at z
      (conv => whnf)
      rw [hup_same]
      (conv => whnf)
      rw [hup_same]
      (conv => whnf)
      rw [c2]
      exact z
  · rw [List.nil_append]
    (conv => whnf)
    intro p3 np3
    have n3 : h p3 = none := (hup_none (hup_none np3).2).2
    exact ⟨_, SubH.up (((SubH.refl h).new np1).new np2), q p3 n3⟩
/-- all orders that go on from here -/
def goOn (n : Nat) (ps : List Pr) (here : List Nat) : List (List Nat) := dfs n ps (n - here.length) here
theorem goOn_end {n : Nat} {ps : List Pr} {here : List Nat} (h : here.length = n) : goOn n ps here = [here] := by
  unfold goOn
  rw [show n - here.length = 0 by omega]
  unfold dfs
  rw [if_pos h]
theorem goOn_step {n : Nat} {ps : List Pr} {here : List Nat} (h : here.length < n) : goOn n ps here = (freeL n ps here).flatMap fun one => goOn n ps (here ++ [one]) := by
  unfold goOn
  rw [show n - here.length = (n - (here.length + 1)) + 1 by omega]
  rw [dfs, if_neg (by omega)]
  congr 1
  funext one
  rw [List.length_append, List.length_singleton]
theorem freeL_len (n : Nat) (ps : List Pr) (here : List Nat) : (freeL n ps here).length ≤ n := Nat.le_trans (List.length_filter_le _ _) (by simp)
def wt (n : Nat) (here : List Nat) : Nat := (n + 1) ^ (n + 1 - here.length)
theorem sum_map_const {α : Type} (f : α → Nat) (c : Nat) : ∀ l : List α, (∀ x ∈ l, f x = c) → (l.map f).sum = l.length * c
  | [], _ => by simp
  | a :: l, h => by
    rw [List.map_cons, List.sum_cons, sum_map_const f c l fun x hx => h x (List.mem_cons_of_mem _ hx), h a (List.mem_cons_self ..), List.length_cons, Nat.succ_mul]
    omega
theorem wt_step {n : Nat} {ps : List Pr} {here : List Nat} (h : here.length < n) : (((freeL n ps here).map fun one => wt n (here ++ [one])).sum) < wt n here := by
  rw [sum_map_const _ ((n + 1) ^ (n - here.length)) _ (fun x _ => by unfold wt; rw [List.length_append, List.length_singleton, show n + 1 - (here.length + 1) = n - here.length by omega])]
  unfold wt
  rw [show n + 1 - here.length = (n - here.length) + 1 by omega, Nat.pow_succ]
  have h1 := freeL_len n ps here
  have h2 : 0 < (n + 1) ^ (n - here.length) := Nat.pow_pos (by omega)
  calc (freeL n ps here).length * (n + 1) ^ (n - here.length) ≤ n * (n + 1) ^ (n - here.length) := Nat.mul_le_mul_right _ h1
    _ < (n + 1) * (n + 1) ^ (n - here.length) := Nat.mul_lt_mul_of_pos_right (by omega) h2
    _ = _ := Nat.mul_comm _ _
structure AoI (n : Nat) (ps : List Pr) (most m : Nat) (fs ts : List (List Nat)) : Prop where
  all : fs ++ ts.reverse.flatMap (goOn n ps) = ords n ps
  len : ∀ t ∈ ts, t.length ≤ n
  ix : ∀ i t, ts[i]? = some t → i ≤ n * t.length
  few : fs.length ≤ most
  w : (ts.map (wt n)).sum ≤ m
theorem AoI.tlen {n : Nat} {ps : List Pr} {most m : Nat} {fs ts : List (List Nat)} (a : AoI n ps most m fs ts) (hn : n ≤ 24) : ts.length ≤ 577 := by
  cases e : ts.getLast? with
  | none => rw [List.getLast?_eq_none_iff] at e; rw [e]; simp
  | some t =>
    rw [List.getLast?_eq_getElem?] at e
    have h1 := a.ix _ _ e
    have h2 := a.len t (List.mem_of_getElem? e)
    have h3 : n * t.length ≤ 24 * 24 := Nat.mul_le_mul hn (by omega)
    omega
theorem p_all_orders : Keeps bt (C40 bt) b_all_orders N_all_orders.length 3 S_all_orders := by
  rintro ds h Q E ⟨n, ps, most, rfl, hn, hp, hm, q⟩
  refine ⟨rfl, ?_⟩
  (conv => whnf)
  intro f nf
  (conv => whnf)
  intro t nt
  (conv => whnf)
  obtain ⟨tf, nt'⟩ := hup_none nt
  refine whlL_inv (fun m σ h2 => ∃ fs ts, σ = [some (nD n), some (prsD ps), some (nD most), some (.ref f), some (.ref t), none, none] ∧ SubH h h2 ∧ h2 f = some (.lst (fs.map ordD)) ∧ h2 t = some (.lst (ts.map ordD)) ∧ AoI n ps most m fs ts) ?_ (m := wt n []) ?_
  · rintro m σ h2 K ⟨fs, ts, rfl, sb, e1, e2, ao⟩ kk
    have tl := ao.tlen hn
    (conv => whnf)
    rw [itemsOf_l e2]
    (conv => whnf)
    rcases List.eq_nil_or_concat ts with rfl | ⟨ts', here, rfl⟩
    · (conv => whnf)
      rw [itemsOf_l e1]
      (conv => whnf)
      refine ⟨h, sb, ?_⟩
      have ea : fs = ords n ps := by have := ao.all; simpa using this
      subst ea
      rw [if_pos ao.few] at q
      exact q
    · rw [List.concat_eq_append] at *
      rw [decide_eq_true (show (0 : Int) < (((ts' ++ [here]).map ordD).length : Int) by rw [List.length_map, List.length_append, List.length_singleton]; omega)]
      (conv => whnf)
      rw [e2]
      (conv => whnf)
      refine ⟨rfl, ?_⟩
      (conv => whnf)
      rw [e2]
      (conv => whnf)
      have eg : ((ts' ++ [here]).map ordD).getLast? = some (ordD here) := by simp
      have ed : ((ts' ++ [here]).map ordD).dropLast = ts'.map ordD := by simp
      rw [eg]
      (conv => whnf)
      rw [ed]
      have hl : here.length ≤ n := ao.len here (by simp)
      have ft : f ≠ t := Ne.symm tf
      have ws : (ts'.map (wt n)).sum + wt n here ≤ m := by have := ao.w; simpa using this
      have wpos : 0 < wt n here := Nat.pow_pos (by omega)
      have ixl : ts'.length ≤ n * here.length := ao.ix ts'.length here (by simp)
      have ln : ∀ x ∈ ts', x.length ≤ n := fun x hx => ao.len x (by simp [hx])
      have ixn : ∀ i x, ts'[i]? = some x → i ≤ n * x.length := fun i x e => by
        have : i < ts'.length := by
          by_cases z : i < ts'.length
          · exact z
          · rw [List.getElem?_eq_none (by omega)] at e; cases e
        exact ao.ix i x (by rw [List.getElem?_append_left this]; exact e)
      have al := ao.all
      rw [List.reverse_append, List.reverse_singleton, List.singleton_append, List.flatMap_cons] at al
      have sb3 : ∀ c, SubH h (hup h2 t c) := fun c => sb.ow nt'
      rw [List.length_map, dec_num]
      by_cases c : here.length = n
      · rw [decide_eq_true c]
        rw [goOn_end c] at al
        (conv => whnf)
        rw [hup_of ft e1]
        (conv => whnf)
        refine ⟨rfl, ?_⟩
        (conv => whnf)
        rw [hup_of ft e1]
        (conv => whnf)
        have fw := ao.few
        refine ⟨by rw [List.length_map]; unfold big; omega, ?_⟩
        (conv => whnf)
        rw [itemsOf_l hup_same]
        (conv => whnf)
        by_cases d : most < fs.length + 1
        · rw [decide_eq_true (show (most : Int) < ((fs.map ordD ++ [ordD here]).length : Int) by simp; omega)]
          (conv => whnf)
          rw [if_neg (by
            have := congrArg List.length al
            simp at this
            omega)] at q
          exact ⟨h, (sb3 _).ow nf, q⟩
        · rw [decide_eq_false (show ¬ (most : Int) < ((fs.map ordD ++ [ordD here]).length : Int) by simp; omega)]
          (conv => whnf)
          refine kk (ts'.map (wt n)).sum _ _ [some (nD n), some (prsD ps), some (nD most), some (.ref f), some (.ref t), none, none] _ (by omega) (.same (.same (.same (.same (.same (.drop (.drop .nil))))))) (SubH.refl _) ⟨fs ++ [here], ts', rfl, (sb3 _).ow nf, ?_, hup_of tf hup_same, ⟨?_, ln, ixn, ?_, Nat.le_refl _⟩⟩
          · rw [hup_same]; simp
          · rw [← al]; simp
          · simp; omega
      · rw [decide_eq_false c]
        rw [goOn_step (by omega)] at al
        (conv => whnf)
        rw [hup_same]
        (conv => whnf)
        refine ⟨rfl, ?_⟩
        (conv => whnf)
        refine ⟨n, ps, here, rfl, hn, hp, by omega, fun p np => ?_⟩
        (conv => whnf)
        rw [lstOf_l hup_same]
        (conv => whnf)
        rw [← List.map_reverse]
        have fl := freeL_len n ps here
        refine ⟨by simp; unfold big; omega, lcL_map nD (fun one => ordD (here ++ [one])) trivial (fun x hx => ⟨_, rfl, fun K z => z, fun K z => ?_⟩) ?_⟩
        · (conv => whnf)
          refine ⟨⟨by rw [List.length_map]; unfold big; omega, (Nat.le_of_ble_eq_true rfl)⟩, ?_⟩
          have e3 : here.map nD ++ [nD x] = (here ++ [x]).map nD := by simp
          (conv => whnf)
          rw [show here.map nD ++ [nD x] = _ from e3]
          exact z
        · (conv => whnf)
          intro p2 np2
          (conv => whnf)
          have tp : t ≠ p := new_ne np hup_same
          have tp2 : t ≠ p2 := new_ne np2 (hup_of tp hup_same)
          rw [hup_of tp2 (hup_of tp hup_same), hup_same]
          (conv => whnf)
          simp only [List.length_append, List.length_singleton] at tl
          refine ⟨⟨by simp; unfold big; omega, by simp; unfold big; omega⟩, ?_⟩
          (conv => whnf)
          have fp : f ≠ p := new_ne np (hup_of ft e1)
          have fp2 : f ≠ p2 := new_ne np2 (hup_of fp (hup_of ft e1))
          refine kk ((ts' ++ (freeL n ps here).reverse.map fun one => here ++ [one]).map (wt n)).sum _ _ [some (nD n), some (prsD ps), some (nD most), some (.ref f), some (.ref t), none, none] _ ?_ (.same (.same (.same (.same (.same (.drop (.drop .nil))))))) (SubH.refl _) ⟨fs, ts' ++ (freeL n ps here).reverse.map fun one => here ++ [one], rfl, ((((sb3 _).new np).new np2)).ow nt', ?_, ?_, ⟨?_, ?_, ?_, ao.few, Nat.le_refl _⟩⟩
          · have := wt_step (n := n) (ps := ps) (here := here) (by omega)
            rw [List.map_append, List.sum_append, List.map_map, List.map_reverse, List.sum_reverse]
            have e4 : ((freeL n ps here).map (wt n ∘ fun one => here ++ [one])).sum = ((freeL n ps here).map fun one => wt n (here ++ [one])).sum := rfl
            rw [e4]
            omega
          · exact hup_of ft (hup_of fp2 (hup_of fp (hup_of ft e1)))
          · rw [hup_same, List.map_append, List.map_map]; rfl
          · rw [← al, List.reverse_append, List.map_reverse, List.reverse_reverse, List.flatMap_append, List.flatMap_map]
          · intro x hx
            rcases List.mem_append.mp hx with hx | hx
            · exact ln x hx
            · obtain ⟨one, _, rfl⟩ := List.mem_map.mp hx
              simp; omega
          · intro i x e
            by_cases z : i < ts'.length
            · rw [List.getElem?_append_left z] at e
              exact ixn i x e
            · rw [List.getElem?_append_right (by omega)] at e
              have hi : i - ts'.length < (freeL n ps here).length := by
                by_cases y : i - ts'.length < (freeL n ps here).length
                · exact y
                · rw [List.getElem?_eq_none (by simp; omega)] at e; cases e
              obtain ⟨one, _, rfl⟩ := List.mem_map.mp (List.mem_of_getElem? e)
              rw [List.length_append, List.length_singleton, Nat.mul_add]
              omega
  · refine ⟨[], [[]], rfl, ((SubH.refl h).new nf).new nt, hup_of (Ne.symm tf) hup_same, hup_same, ⟨?_, ?_, ?_, Nat.zero_le _, by simp⟩⟩
    · simp [goOn, ords]
    · intro t ht; simp at ht; subst ht; exact Nat.zero_le _
    · intro i t e
      cases i with
      | zero => exact Nat.zero_le _
      | succ i => simp at e
theorem p_legal_orders : Keeps bt (C40 bt) b_legal_orders N_legal_orders.length 2 S_legal_orders := by
  rintro ds h Q E ⟨b, most, rfl, bk, hm, q⟩
  refine ⟨rfl, ?_⟩
  have few := bk.few
  have dl := dep_len few
  (conv => whnf)
  refine ⟨b, rfl, bk, ?_⟩
  (conv => whnf)
  refine ⟨b, rfl, bk, ?_⟩
  (conv => whnf)
  refine ⟨b.length, dep b, most, ?_, few, by omega, hm, ?_⟩
  · rw [List.length_map]
  · by_cases c : (ords b.length (dep b)).length ≤ most
    · rw [if_pos c] at q ⊢
      (conv => whnf)
      exact ⟨_, SubH.refl _, q⟩
    · rw [if_neg c] at q ⊢
      exact ⟨h, SubH.refl h, q⟩
end K40
end

section
set_option Elab.async false
set_option linter.all false
set_option maxRecDepth 100000
set_option maxHeartbeats 4000000
/-! K40w12: the walks: the plain machine. -/
namespace K40
open PySem (Str Addr)
open AR
variable {bt : Bits}
theorem p_law_start : Keeps bt (C40 bt) b_law_start N_law_start.length 1 S_law_start := by
  rintro ds h Q E ⟨mem, rfl, q⟩
  refine ⟨rfl, ?_⟩
  (conv => whnf)
  intro r nr
  (conv => whnf)
  intro c nc
  (conv => whnf)
  intro t nt
  (conv => whnf)
  intro p np
  obtain ⟨cr, nc'⟩ := hup_none nc
  obtain ⟨tc, nt'⟩ := hup_none nt
  obtain ⟨tr, nt''⟩ := hup_none nt'
  obtain ⟨pt, np'⟩ := hup_none np
  obtain ⟨pc, np''⟩ := hup_none np'
  obtain ⟨pr, np3⟩ := hup_none np''
  exact ⟨_, SubH.refl _, q p r c t nr nc' cr nt'' tr tc np3 pr pc pt⟩
theorem reg_at {rs : List Int} {a : Nat} (h : a < rs.length) : atD (rs.map D.int) (a : Int) = some (.int (rs.getD a 0)) := by
  rw [atD_map (enc := D.int) (x := rs.getD a 0)]
  rw [List.getD_eq_getElem?_getD, List.getElem?_eq_getElem h]; rfl
theorem p_law_spot : Keeps bt (C40 bt) b_law_spot N_law_spot.length 2 S_law_spot := by
  rintro ds h Q E ⟨o, p, rs, rfl, e, om, hl, q⟩
  refine ⟨rfl, ?_⟩
  cases o with
  | load d a n =>
    (conv => whnf)
    rw [e]
    (conv => whnf)
    rw [show atD (rs.map D.int) (a : Int) = _ from reg_at hl]
    (conv => whnf)
    refine ⟨by decide, ?_⟩
    (conv => whnf)
    exact ⟨_, SubH.refl _, q⟩
  | store a n s =>
    (conv => whnf)
    rw [e]
    (conv => whnf)
    rw [show atD (rs.map D.int) (a : Int) = _ from reg_at hl]
    (conv => whnf)
    refine ⟨by decide, ?_⟩
    (conv => whnf)
    exact ⟨_, SubH.refl _, q⟩
  | _ => cases om
theorem p_law_gives : Keeps bt (C40 bt) b_law_gives N_law_gives.length 1 S_law_gives := by
  rintro ds h Q E ⟨o, rfl, q⟩
  refine ⟨rfl, ?_⟩
  cases o with
  | work w d a b => cases w <;> ((conv => whnf); exact ⟨_, SubH.refl _, q⟩)
  | br c a b t => cases c <;> ((conv => whnf); exact ⟨_, SubH.refl _, q⟩)
  | _ => (conv => whnf); exact ⟨_, SubH.refl _, q⟩
theorem p_law_read : Keeps bt (C40 bt) b_law_read N_law_read.length 1 S_law_read := by
  rintro ds h Q E ⟨o, rfl, q⟩
  refine ⟨rfl, ?_⟩
  cases o with
  | work w d a b => cases w <;> ((conv => whnf); exact fun p np => ⟨_, SubH.refl _, q p np⟩)
  | br c a b t => cases c <;> ((conv => whnf); exact fun p np => ⟨_, SubH.refl _, q p np⟩)
  | _ => (conv => whnf); exact fun p np => ⟨_, SubH.refl _, q p np⟩
theorem p_law_name : Keeps bt (C40 bt) b_law_name N_law_name.length 3 S_law_name := by
  rintro ds h Q E ⟨b, k, r, rfl, ⟨few, kl⟩, q⟩
  refine ⟨rfl, ?_⟩
  (conv => whnf)
  refine ⟨⟨by omega, by unfold big; omega⟩, ?_⟩
  (conv => whnf)
  rw [show ((k : Int)).toNat = k by simp]
  refine ⟨by simp; unfold big; omega, lcL_pure nD nD (fun i => decide ((b[i]?.map Op.wr).getD 0 = r ∧ r ≠ 0)) trivial (fun a ha => ⟨_, rfl, fun K z => ?_, fun _ K z => z⟩) ?_⟩
  · rw [List.mem_range] at ha
    (conv => whnf)
    rw [show atD (b.map Op.dat) (a : Int) = some (at! b a).dat from atD_map (get_at (show a < b.length by omega))]
    (conv => whnf)
    refine ⟨at! b a, rfl, ?_⟩
    (conv => whnf)
    rw [dec_num]
    rw [get_at (show a < b.length by omega)] at z
    by_cases c : (at! b a).wr = r
    · rw [decide_eq_true c]
      (conv => whnf)
      rw [show decide ((Option.map Op.wr (some (at! b a))).getD 0 = r ∧ r ≠ 0) = !decide (Fl.num (r : Int) = Fl.num 0) by simp [c]] at z
      exact z
    · rw [decide_eq_false c]
      (conv => whnf)
      rw [show decide ((Option.map Op.wr (some (at! b a))).getD 0 = r ∧ r ≠ 0) = false by simp [c]] at z
      exact z
  · rw [List.nil_append]
    (conv => whnf)
    intro p np
    (conv => whnf)
    have el : lw b k r = ((List.range k).filter fun i => decide ((b[i]?.map Op.wr).getD 0 = r ∧ r ≠ 0)).getLast? := rfl
    have sb := (SubH.refl h).new (c := .lst (((List.range k).filter fun i => decide ((b[i]?.map Op.wr).getD 0 = r ∧ r ≠ 0)).map nD)) np
    rw [nm_of, el] at q
    clear el
    revert q sb
    generalize (List.range k).filter (fun i => decide ((b[i]?.map Op.wr).getD 0 = r ∧ r ≠ 0)) = l
    intro q sb
    rw [show flr (hup h p (.lst (l.map nD))) (.val (.ref p)) = some (Fl.lst (l.map fun (j : Nat) => Fl.num (j : Int))) from by
      rw [flr_l hup_same, fl1s_nat]; rfl]
    (conv => whnf)
    rcases List.eq_nil_or_concat l with rfl | ⟨l', i, rfl⟩
    · (conv => whnf)
      exact ⟨h, sb, q⟩
    · rw [List.concat_eq_append] at *
      rw [show (!decide (Fl.lst ((l' ++ [i]).map fun (j : Nat) => Fl.num (j : Int)) = Fl.lst [])) = true by simp]
      (conv => whnf)
      rw [hup_same]
      (conv => whnf)
      rw [atD_last (d := nD i) (by simp)]
      (conv => whnf)
      refine ⟨h, sb, ?_⟩
      rw [show (l' ++ [i]).getLast? = some i by simp] at q
      exact q
theorem p_law_traps : Keeps bt (C40 bt) b_law_traps N_law_traps.length 2 (S_law_traps bt) := by
  rintro ds h Q E ⟨b, s, r, c, t, pc, rs, m, n, fin, rfl, ms, mo, q⟩
  refine ⟨rfl, ?_⟩
  have pl := mo.pc
  have bl := mo.len
  have rl := mo.rl
  (conv => whnf)
  rw [ms.hs]
  (conv => whnf)
  rw [show decide (Fl.num (pc : Int) = Fl.num ((b.map Op.dat).length : Int)) = false by rw [List.length_map, dec_num]; exact decide_eq_false (by omega)]
  (conv => whnf)
  rw [ms.hs]
  (conv => whnf)
  rw [show atD (b.map Op.dat) (pc : Int) = some (at! b pc).dat from atD_map (get_at (by omega))]
  (conv => whnf)
  rw [ms.hs]
  (conv => whnf)
  have ok := mo.ok
  revert q ok
  generalize at! b pc = o
  intro q ok
  have lt : ∀ a ∈ o.rdf, a < rs.length := fun a ha => by have := rdf_ok ok ha; omega
  cases o with
  | work w d x y =>
    have ly : y < rs.length := lt y (by simp [Op.rdf])
    cases w with
    | div =>
      (conv => whnf)
      rw [ms.hr]
      (conv => whnf)
      rw [show atD (rs.map D.int) (y : Int) = _ from reg_at ly]
      (conv => whnf)
      have q : (match (match (if rs.getD y 0 = 0 then none else some (rs.getD x 0 / rs.getD y 0) : Option Int) with | some z => some (some z, none, m) | none => none : Option (Option Int × Option Gt × Mx)) with
        | none => ∀ w : Str, Q (.str w) h
        | some _ => Q .non h) := q
      by_cases c : rs.getD y 0 = 0
      · rw [if_pos c] at q
        rw [show decide (Fl.num (rs.getD y 0) = Fl.num 0) = true by simp only [Fl.num.injEq]; exact decide_eq_true c]
        (conv => whnf)
        exact ⟨h, SubH.refl h, q _⟩
      · rw [if_neg c] at q
        rw [show decide (Fl.num (rs.getD y 0) = Fl.num 0) = false by simp only [Fl.num.injEq]; exact decide_eq_false c]
        (conv => whnf)
        exact ⟨_, SubH.refl _, q⟩
    | rem =>
      (conv => whnf)
      rw [ms.hr]
      (conv => whnf)
      rw [show atD (rs.map D.int) (y : Int) = _ from reg_at ly]
      (conv => whnf)
      have q : (match (match (if rs.getD y 0 = 0 then none else some (rs.getD x 0 % rs.getD y 0) : Option Int) with | some z => some (some z, none, m) | none => none : Option (Option Int × Option Gt × Mx)) with
        | none => ∀ w : Str, Q (.str w) h
        | some _ => Q .non h) := q
      by_cases c : rs.getD y 0 = 0
      · rw [if_pos c] at q
        rw [show decide (Fl.num (rs.getD y 0) = Fl.num 0) = true by simp only [Fl.num.injEq]; exact decide_eq_true c]
        (conv => whnf)
        exact ⟨h, SubH.refl h, q _⟩
      · rw [if_neg c] at q
        rw [show decide (Fl.num (rs.getD y 0) = Fl.num 0) = false by simp only [Fl.num.injEq]; exact decide_eq_false c]
        (conv => whnf)
        exact ⟨_, SubH.refl _, q⟩
    | _ => (conv => whnf); exact ⟨_, SubH.refl _, q⟩
  | load d x n =>
    have lx : x < rs.length := lt x (by simp [Op.rdf])
    have q : (match (if ((rs.getD x 0 + n) % 65536) < m.mem.length then some (some (m.mem.getD ((rs.getD x 0 + n) % 65536).toNat 0), none, m) else none : Option (Option Int × Option Gt × Mx)) with
        | none => ∀ w : Str, Q (.str w) h
        | some _ => Q .non h) := q
    (conv => whnf)
    refine ⟨.load d x n, r, rs, rfl, ms.hr, rfl, lx, ?_⟩
    (conv => whnf)
    rw [ms.hs]
    (conv => whnf)
    rw [itemsOf_l ms.hc]
    (conv => whnf)
    rw [List.length_map]
    by_cases c : ((rs.getD x 0 + n) % 65536) < m.mem.length
    · rw [if_pos c] at q
      rw [show decide ((m.mem.length : Int) ≤ (rs.getD (Op.load d x n).spot.1 0 + (Op.load d x n).spot.2) % 65536) = false from decide_eq_false (by show ¬ (m.mem.length : Int) ≤ (rs.getD x 0 + n) % 65536; omega)]
      (conv => whnf)
      exact ⟨_, SubH.refl _, q⟩
    · rw [if_neg c] at q
      rw [show decide ((m.mem.length : Int) ≤ (rs.getD (Op.load d x n).spot.1 0 + (Op.load d x n).spot.2) % 65536) = true from decide_eq_true (by show (m.mem.length : Int) ≤ (rs.getD x 0 + n) % 65536; omega)]
      (conv => whnf)
      exact ⟨h, SubH.refl h, q _⟩
  | store x n y =>
    have lx : x < rs.length := lt x (by simp [Op.rdf])
    have q : (match (if ((rs.getD x 0 + n) % 65536) < m.mem.length then some (none, none, { m with mem := m.mem.set ((rs.getD x 0 + n) % 65536).toNat (rs.getD y 0) }) else none : Option (Option Int × Option Gt × Mx)) with
        | none => ∀ w : Str, Q (.str w) h
        | some _ => Q .non h) := q
    (conv => whnf)
    refine ⟨.store x n y, r, rs, rfl, ms.hr, rfl, lx, ?_⟩
    (conv => whnf)
    rw [ms.hs]
    (conv => whnf)
    rw [itemsOf_l ms.hc]
    (conv => whnf)
    rw [List.length_map]
    by_cases c : ((rs.getD x 0 + n) % 65536) < m.mem.length
    · rw [if_pos c] at q
      rw [show decide ((m.mem.length : Int) ≤ (rs.getD (Op.store x n y).spot.1 0 + (Op.store x n y).spot.2) % 65536) = false from decide_eq_false (by show ¬ (m.mem.length : Int) ≤ (rs.getD x 0 + n) % 65536; omega)]
      (conv => whnf)
      exact ⟨_, SubH.refl _, q⟩
    · rw [if_neg c] at q
      rw [show decide ((m.mem.length : Int) ≤ (rs.getD (Op.store x n y).spot.1 0 + (Op.store x n y).spot.2) % 65536) = true from decide_eq_true (by show (m.mem.length : Int) ≤ (rs.getD x 0 + n) % 65536; omega)]
      (conv => whnf)
      exact ⟨h, SubH.refl h, q _⟩
  | back x =>
    have lx : x < rs.length := lt x (by simp [Op.rdf])
    have q : (match (if rs.getD x 0 < 60 then some (none, some (Gt.to (rs.getD x 0)), m) else none : Option (Option Int × Option Gt × Mx)) with
        | none => ∀ w : Str, Q (.str w) h
        | some _ => Q .non h) := q
    (conv => whnf)
    rw [ms.hr]
    (conv => whnf)
    rw [show atD (rs.map D.int) (x : Int) = _ from reg_at lx]
    (conv => whnf)
    rw [List.length_map, bl]
    by_cases c : rs.getD x 0 < 60
    · rw [if_pos c] at q
      rw [show decide (((60 : Nat) : Int) ≤ rs.getD x 0) = false from decide_eq_false (by omega)]
      (conv => whnf)
      exact ⟨_, SubH.refl _, q⟩
    · rw [if_neg c] at q
      rw [show decide (((60 : Nat) : Int) ≤ rs.getD x 0) = true from decide_eq_true (by omega)]
      (conv => whnf)
      exact ⟨h, SubH.refl h, q _⟩
  | br c x y t => cases c <;> ((conv => whnf); exact ⟨_, SubH.refl _, q⟩)
  | _ => (conv => whnf); exact ⟨_, SubH.refl _, q⟩
theorem Ms.keep {h : Hd} {s r c t : Addr} {pc : D} {rs : List Int} {m : Mx} {n : Int} {fin : D} (ms : Ms h s r c t pc rs m n fin) {h2 : Hd} (sb : SubH h h2) : Ms h2 s r c t pc rs m n fin :=
  { ms with hs := sb _ _ ms.hs, hr := sb _ _ ms.hr, hc := sb _ _ ms.hc, ht := sb _ _ ms.ht }
/-- stores to the machine's lists, whatever was stored ahead, in the end as they are told -/
theorem same4 {h Z : Hd} {s r c t : Addr} {x1 x2 x3 x4 : Cl} (e1 : Z r = some x1) (e2 : Z c = some x2) (e3 : Z t = some x3) (e4 : Z s = some x4) (k : ∀ a, a ≠ r → a ≠ c → a ≠ t → a ≠ s → Z a = h a) (sr : s ≠ r) (sc : s ≠ c) (st : s ≠ t) (rc : r ≠ c) (rt : r ≠ t) (ct : c ≠ t) : SubH (hup (hup (hup (hup h r x1) c x2) t x3) s x4) Z := fun a c' e => by
  by_cases h1 : a = s
  · subst h1; rw [hup_same] at e; rw [e4]; exact e
  · rw [hup_ne h1] at e
    by_cases h2 : a = t
    · subst h2; rw [hup_same] at e; rw [e3]; exact e
    · rw [hup_ne h2] at e
      by_cases h3 : a = c
      · subst h3; rw [hup_same] at e; rw [e2]; exact e
      · rw [hup_ne h3] at e
        by_cases h4 : a = r
        · subst h4; rw [hup_same] at e; rw [e1]; exact e
        · rw [hup_ne h4] at e; rw [k a h4 h3 h2 h1]; exact e
section
variable {h : Hd} {s r c t : Addr} {x1 x2 x3 x4 L : Cl}
theorem closeA (e1 : h r = some x1) (e2 : h c = some x2) (e3 : h t = some x3) (sr : s ≠ r) (sc : s ≠ c) (st : s ≠ t) (rc : r ≠ c) (rt : r ≠ t) (ct : c ≠ t) : SubH (hup (hup (hup (hup h r x1) c x2) t x3) s x4) (hup (hup h s L) s x4) :=
  same4 (hup_of (Ne.symm sr) (hup_of (Ne.symm sr) e1)) (hup_of (Ne.symm sc) (hup_of (Ne.symm sc) e2)) (hup_of (Ne.symm st) (hup_of (Ne.symm st) e3)) hup_same (fun a _ _ _ ha => by rw [hup_ne ha, hup_ne ha]) sr sc st rc rt ct
theorem closeB (e2 : h c = some x2) (e3 : h t = some x3) (sr : s ≠ r) (sc : s ≠ c) (st : s ≠ t) (rc : r ≠ c) (rt : r ≠ t) (ct : c ≠ t) : SubH (hup (hup (hup (hup h r x1) c x2) t x3) s x4) (hup (hup (hup h s L) r x1) s x4) :=
  same4 (hup_of (Ne.symm sr) hup_same) (hup_of (Ne.symm sc) (hup_of (Ne.symm rc) (hup_of (Ne.symm sc) e2))) (hup_of (Ne.symm st) (hup_of (Ne.symm rt) (hup_of (Ne.symm st) e3))) hup_same (fun a ar _ _ ha => by rw [hup_ne ha, hup_ne ar, hup_ne ha]) sr sc st rc rt ct
theorem closeC (e1 : h r = some x1) (e3 : h t = some x3) (sr : s ≠ r) (sc : s ≠ c) (st : s ≠ t) (rc : r ≠ c) (rt : r ≠ t) (ct : c ≠ t) : SubH (hup (hup (hup (hup h r x1) c x2) t x3) s x4) (hup (hup (hup h s L) c x2) s x4) :=
  same4 (hup_of (Ne.symm sr) (hup_of rc (hup_of (Ne.symm sr) e1))) (hup_of (Ne.symm sc) hup_same) (hup_of (Ne.symm st) (hup_of (Ne.symm ct) (hup_of (Ne.symm st) e3))) hup_same (fun a _ ac _ ha => by rw [hup_ne ha, hup_ne ac, hup_ne ha]) sr sc st rc rt ct
theorem closeD (e1 : h r = some x1) (e2 : h c = some x2) (sr : s ≠ r) (sc : s ≠ c) (st : s ≠ t) (rc : r ≠ c) (rt : r ≠ t) (ct : c ≠ t) : SubH (hup (hup (hup (hup h r x1) c x2) t x3) s x4) (hup (hup (hup h s L) t x3) s x4) :=
  same4 (hup_of (Ne.symm sr) (hup_of rt (hup_of (Ne.symm sr) e1))) (hup_of (Ne.symm sc) (hup_of ct (hup_of (Ne.symm sc) e2))) (hup_of (Ne.symm st) hup_same) hup_same (fun a _ _ at_ ha => by rw [hup_ne ha, hup_ne at_, hup_ne ha]) sr sc st rc rt ct
end
theorem reg_ix {rs : List Int} {d : Nat} (h : d < rs.length) : ixD (rs.map D.int).length (d : Int) = some d := by
  unfold ixD
  rw [if_pos (by omega), if_pos (by rw [List.length_map]; omega)]
  simp
theorem p_law_step (hb : BitsOk bt) : Keeps bt (C40 bt) b_law_step N_law_step.length 2 (S_law_step bt) := by
  rintro ds h Q E ⟨b, s, r, c, t, pc, rs, m, n, rfl, ms, mo, q⟩
  refine ⟨rfl, ?_⟩
  have pl := mo.pc
  have bl := mo.len
  have rl := mo.rl
  (conv => whnf)
  refine ⟨b, s, r, c, t, pc, rs, m, n, .non, rfl, ms, mo, ?_⟩
  cases ea : act bt (at! b pc) pc (wsOf (at! b pc) rs) m with
  | none =>
    rw [ea] at q
    intro w
    (conv => whnf)
    rw [ms.hs]
    (conv => whnf)
    rw [ms.hs]
    (conv => whnf)
    exact ⟨_, SubH.refl _, q w .non⟩
  | some z =>
    obtain ⟨mk, go, m'⟩ := z
    rw [ea] at q
    have q : ∀ d, Q d (hup (hup (hup (hup h r (.lst ((regsOf (at! b pc) rs mk).map .int))) c (.lst (m'.mem.map .int))) t (.lst (m'.told.map .int))) s (.lst [pcOf pc go, .ref r, .ref c, .ref t, .int (n + 1), finOf go])) := q
    (conv => whnf)
    rw [ms.hs]
    (conv => whnf)
    rw [ms.hs]
    (conv => whnf)
    rw [show atD (b.map Op.dat) (pc : Int) = some (at! b pc).dat from atD_map (get_at (by omega))]
    (conv => whnf)
    rw [ms.hs]
    (conv => whnf)
    rw [ms.hs]
    (conv => whnf)
    have ok := mo.ok
    revert q ok ea
    generalize at! b pc = o
    intro ea q ok
    have lt : ∀ a ∈ o.rdf, a < rs.length := fun a ha => by have := rdf_ok ok ha; omega
    have sr := ms.sr
    have sc := ms.sc
    have st := ms.st
    have rc := ms.rc
    have rt := ms.rt
    have ct := ms.ct
    have rs' := Ne.symm sr
    have cs' := Ne.symm sc
    have ts' := Ne.symm st
    have cr' := Ne.symm rc
    have tr' := Ne.symm rt
    have tc' := Ne.symm ct
    have wi := mo.w
    -- the state behind the count of steps
    have hs1 : ∀ x, hup h s x s = some x := fun x => hup_same
    have hr1 : ∀ x, hup h s x r = some (.lst (rs.map .int)) := fun x => hup_of rs' ms.hr
    have hc1 : ∀ x, hup h s x c = some (.lst (m.mem.map .int)) := fun x => hup_of cs' ms.hc
    have ht1 : ∀ x, hup h s x t = some (.lst (m.told.map .int)) := fun x => hup_of ts' ms.ht
    cases o with
    | stop =>
      cases ea
      (conv => whnf)
      rw [hs1]
      (conv => whnf)
      exact ⟨_, closeA ms.hr ms.hc ms.ht sr sc st rc rt ct, q _⟩
    | jump x =>
      cases ea
      (conv => whnf)
      rw [hs1]
      (conv => whnf)
      exact ⟨_, closeA ms.hr ms.hc ms.ht sr sc st rc rt ct, q _⟩
    | set d x =>
      cases ea
      (conv => whnf)
      by_cases d0 : d = 0; (rw [show (!decide (Fl.num (d : Int) = Fl.num 0)) = false by simp [d0]]; (conv => whnf); rw [hs1]; (conv => whnf); rw [show regsOf (.set d x) rs _ = rs from if_neg (fun z => z d0)] at q; exact ⟨_, closeA ms.hr ms.hc ms.ht sr sc st rc rt ct, q _⟩); (rw [show (!decide (Fl.num (d : Int) = Fl.num 0)) = true by simp; exact d0]; (conv => whnf); rw [hr1]; (conv => whnf); rw [reg_ix (show d < rs.length by have : d < 8 := ok.1; omega)]; (conv => whnf); rw [hup_of sr hup_same]; (conv => whnf); rw [show regsOf (.set d x) rs _ = _ from if_pos d0, List.map_set] at q; exact ⟨_, closeB ms.hc ms.ht sr sc st rc rt ct, q _⟩)
    | link d x =>
      cases ea
      (conv => whnf)
      by_cases d0 : d = 0; (rw [show (!decide (Fl.num (d : Int) = Fl.num 0)) = false by simp [d0]]; (conv => whnf); rw [hs1]; (conv => whnf); rw [show regsOf (.link d x) rs _ = rs from if_neg (fun z => z d0)] at q; exact ⟨_, closeA ms.hr ms.hc ms.ht sr sc st rc rt ct, q _⟩); (rw [show (!decide (Fl.num (d : Int) = Fl.num 0)) = true by simp; exact d0]; (conv => whnf); rw [hr1]; (conv => whnf); rw [reg_ix (show d < rs.length by have : d < 8 := ok.1; omega)]; (conv => whnf); rw [hup_of sr hup_same]; (conv => whnf); rw [show regsOf (.link d x) rs _ = _ from if_pos d0, List.map_set] at q; exact ⟨_, closeB ms.hc ms.ht sr sc st rc rt ct, q _⟩)
    | br cd x y tt =>
      have lx : x < rs.length := lt x (by simp [Op.rdf])
      have ly : y < rs.length := lt y (by simp [Op.rdf])
      cases ea
      cases cd with
      | same => (conv => whnf); rw [hr1]; (conv => whnf); rw [show atD (rs.map D.int) (x : Int) = _ from reg_at lx]; (conv => whnf); rw [hr1]; (conv => whnf); rw [show atD (rs.map D.int) (y : Int) = _ from reg_at ly]; (conv => whnf); refine ⟨.same, _, _, rfl, ?_⟩; rcases e2 : cdF .same (rs.getD x 0) (rs.getD y 0) with _ | _ <;> (rw [e2] at q; (conv => whnf); rw [hs1]; (conv => whnf); exact ⟨_, closeA ms.hr ms.hc ms.ht sr sc st rc rt ct, q _⟩)
      | other => (conv => whnf); rw [hr1]; (conv => whnf); rw [show atD (rs.map D.int) (x : Int) = _ from reg_at lx]; (conv => whnf); rw [hr1]; (conv => whnf); rw [show atD (rs.map D.int) (y : Int) = _ from reg_at ly]; (conv => whnf); refine ⟨.other, _, _, rfl, ?_⟩; rcases e2 : cdF .other (rs.getD x 0) (rs.getD y 0) with _ | _ <;> (rw [e2] at q; (conv => whnf); rw [hs1]; (conv => whnf); exact ⟨_, closeA ms.hr ms.hc ms.ht sr sc st rc rt ct, q _⟩)
      | less => (conv => whnf); rw [hr1]; (conv => whnf); rw [show atD (rs.map D.int) (x : Int) = _ from reg_at lx]; (conv => whnf); rw [hr1]; (conv => whnf); rw [show atD (rs.map D.int) (y : Int) = _ from reg_at ly]; (conv => whnf); refine ⟨.less, _, _, rfl, ?_⟩; rcases e2 : cdF .less (rs.getD x 0) (rs.getD y 0) with _ | _ <;> (rw [e2] at q; (conv => whnf); rw [hs1]; (conv => whnf); exact ⟨_, closeA ms.hr ms.hc ms.ht sr sc st rc rt ct, q _⟩)
    | back x =>
      have lx : x < rs.length := lt x (by simp [Op.rdf])
      have ea : (if rs.getD x 0 < 60 then some (none, some (Gt.to (rs.getD x 0)), m) else none : Option (Option Int × Option Gt × Mx)) = some (mk, go, m') := ea
      by_cases cc : rs.getD x 0 < 60
      · rw [if_pos cc] at ea
        cases ea
        (conv => whnf)
        rw [hr1]
        (conv => whnf)
        rw [show atD (rs.map D.int) (x : Int) = _ from reg_at lx]
        (conv => whnf)
        rw [hs1]
        (conv => whnf)
        exact ⟨_, closeA ms.hr ms.hc ms.ht sr sc st rc rt ct, q _⟩
      · rw [if_neg cc] at ea; cases ea
    | tell x =>
      have lx : x < rs.length := lt x (by simp [Op.rdf])
      cases ea
      (conv => whnf)
      rw [hs1]
      (conv => whnf)
      rw [ht1]
      (conv => whnf)
      refine ⟨rfl, ?_⟩
      (conv => whnf)
      rw [hr1]
      (conv => whnf)
      rw [show atD (rs.map D.int) (x : Int) = _ from reg_at lx]
      (conv => whnf)
      rw [ht1]
      (conv => whnf)
      refine ⟨by rw [List.length_map]; have := mo.told; unfold big; omega, ?_⟩
      (conv => whnf)
      rw [hup_of st hup_same]
      (conv => whnf)
      rw [List.map_append] at q
      exact ⟨_, closeD ms.hr ms.hc sr sc st rc rt ct, q _⟩
    | load d x k =>
      have lx : x < rs.length := lt x (by simp [Op.rdf])
      have ea : (if ((rs.getD x 0 + k) % 65536) < m.mem.length then some (some (m.mem.getD ((rs.getD x 0 + k) % 65536).toNat 0), none, m) else none : Option (Option Int × Option Gt × Mx)) = some (mk, go, m') := ea
      have x0 : 0 ≤ (rs.getD x 0 + k) % 65536 := Int.emod_nonneg _ (by decide)
      by_cases cc : ((rs.getD x 0 + k) % 65536) < m.mem.length
      · rw [if_pos cc] at ea
        cases ea
        (conv => whnf)
        refine ⟨.load d x k, r, rs, rfl, hr1 _, rfl, lx, ?_⟩
        (conv => whnf)
        rw [hs1]
        (conv => whnf)
        rw [hc1]
        (conv => whnf)
        rw [show atD (m.mem.map D.int) ((rs.getD (Op.load d x k).spot.1 0 + (Op.load d x k).spot.2) % 65536) = _ from spot_at x0 cc]
        (conv => whnf)
        by_cases d0 : d = 0; (rw [show (!decide (Fl.num (d : Int) = Fl.num 0)) = false by simp [d0]]; (conv => whnf); rw [hs1]; (conv => whnf); rw [show regsOf (.load d x k) rs _ = rs from if_neg (fun z => z d0)] at q; exact ⟨_, closeA ms.hr ms.hc ms.ht sr sc st rc rt ct, q _⟩); (rw [show (!decide (Fl.num (d : Int) = Fl.num 0)) = true by simp; exact d0]; (conv => whnf); rw [hr1]; (conv => whnf); rw [reg_ix (show d < rs.length by have : d < 8 := ok.1; omega)]; (conv => whnf); rw [hup_of sr hup_same]; (conv => whnf); rw [show regsOf (.load d x k) rs _ = _ from if_pos d0, List.map_set] at q; exact ⟨_, closeB ms.hc ms.ht sr sc st rc rt ct, q _⟩)
      · rw [if_neg cc] at ea; cases ea
    | store x k y =>
      have lx : x < rs.length := lt x (by simp [Op.rdf])
      have ly : y < rs.length := lt y (by simp [Op.rdf])
      have ea : (if ((rs.getD x 0 + k) % 65536) < m.mem.length then some (none, none, { m with mem := m.mem.set ((rs.getD x 0 + k) % 65536).toNat (rs.getD y 0) }) else none : Option (Option Int × Option Gt × Mx)) = some (mk, go, m') := ea
      have x0 : 0 ≤ (rs.getD x 0 + k) % 65536 := Int.emod_nonneg _ (by decide)
      by_cases cc : ((rs.getD x 0 + k) % 65536) < m.mem.length
      · rw [if_pos cc] at ea
        cases ea
        (conv => whnf)
        refine ⟨.store x k y, r, rs, rfl, hr1 _, rfl, lx, ?_⟩
        (conv => whnf)
        rw [hr1]
        (conv => whnf)
        rw [show atD (rs.map D.int) (y : Int) = _ from reg_at ly]
        (conv => whnf)
        rw [hs1]
        (conv => whnf)
        rw [hc1]
        (conv => whnf)
        rw [show ixD (m.mem.map D.int).length ((rs.getD (Op.store x k y).spot.1 0 + (Op.store x k y).spot.2) % 65536) = _ from spot_ix x0 (by rw [List.length_map]; exact cc)]
        (conv => whnf)
        rw [hup_of sc hup_same]
        (conv => whnf)
        rw [List.map_set] at q
        exact ⟨_, closeC ms.hr ms.ht sr sc st rc rt ct, q _⟩
      · rw [if_neg cc] at ea; cases ea
    | work w d x y =>
      have lx : x < rs.length := lt x (by simp [Op.rdf])
      have ly : y < rs.length := lt y (by simp [Op.rdf])
      have wx := word_get wi x
      have wy := word_get wi y
      have ea : (match wkF bt w (rs.getD x 0) (rs.getD y 0) with | some z => some (some z, none, m) | none => none : Option (Option Int × Option Gt × Mx)) = some (mk, go, m') := ea
      cases ew : wkF bt w (rs.getD x 0) (rs.getD y 0) with
      | none => rw [ew] at ea; cases ea
      | some z =>
        rw [ew] at ea
        cases ea
        cases w with
        | add => (conv => whnf); rw [hr1]; (conv => whnf); rw [show atD (rs.map D.int) (x : Int) = _ from reg_at lx]; (conv => whnf); rw [hr1]; (conv => whnf); rw [show atD (rs.map D.int) (y : Int) = _ from reg_at ly]; (conv => whnf); refine ⟨.add, _, _, rfl, wx, wy, ?_⟩; rw [ew]; (conv => whnf); by_cases d0 : d = 0; (rw [show (!decide (Fl.num (d : Int) = Fl.num 0)) = false by simp [d0]]; (conv => whnf); rw [hs1]; (conv => whnf); rw [show regsOf (.work .add d x y) rs _ = rs from if_neg (fun z => z d0)] at q; exact ⟨_, closeA ms.hr ms.hc ms.ht sr sc st rc rt ct, q _⟩); (rw [show (!decide (Fl.num (d : Int) = Fl.num 0)) = true by simp; exact d0]; (conv => whnf); rw [hr1]; (conv => whnf); rw [reg_ix (show d < rs.length by have : d < 8 := ok.1; omega)]; (conv => whnf); rw [hup_of sr hup_same]; (conv => whnf); rw [show regsOf (.work .add d x y) rs _ = _ from if_pos d0, List.map_set] at q; exact ⟨_, closeB ms.hc ms.ht sr sc st rc rt ct, q _⟩)
        | sub => (conv => whnf); rw [hr1]; (conv => whnf); rw [show atD (rs.map D.int) (x : Int) = _ from reg_at lx]; (conv => whnf); rw [hr1]; (conv => whnf); rw [show atD (rs.map D.int) (y : Int) = _ from reg_at ly]; (conv => whnf); refine ⟨.sub, _, _, rfl, wx, wy, ?_⟩; rw [ew]; (conv => whnf); by_cases d0 : d = 0; (rw [show (!decide (Fl.num (d : Int) = Fl.num 0)) = false by simp [d0]]; (conv => whnf); rw [hs1]; (conv => whnf); rw [show regsOf (.work .sub d x y) rs _ = rs from if_neg (fun z => z d0)] at q; exact ⟨_, closeA ms.hr ms.hc ms.ht sr sc st rc rt ct, q _⟩); (rw [show (!decide (Fl.num (d : Int) = Fl.num 0)) = true by simp; exact d0]; (conv => whnf); rw [hr1]; (conv => whnf); rw [reg_ix (show d < rs.length by have : d < 8 := ok.1; omega)]; (conv => whnf); rw [hup_of sr hup_same]; (conv => whnf); rw [show regsOf (.work .sub d x y) rs _ = _ from if_pos d0, List.map_set] at q; exact ⟨_, closeB ms.hc ms.ht sr sc st rc rt ct, q _⟩)
        | and => (conv => whnf); rw [hr1]; (conv => whnf); rw [show atD (rs.map D.int) (x : Int) = _ from reg_at lx]; (conv => whnf); rw [hr1]; (conv => whnf); rw [show atD (rs.map D.int) (y : Int) = _ from reg_at ly]; (conv => whnf); refine ⟨.and, _, _, rfl, wx, wy, ?_⟩; rw [ew]; (conv => whnf); by_cases d0 : d = 0; (rw [show (!decide (Fl.num (d : Int) = Fl.num 0)) = false by simp [d0]]; (conv => whnf); rw [hs1]; (conv => whnf); rw [show regsOf (.work .and d x y) rs _ = rs from if_neg (fun z => z d0)] at q; exact ⟨_, closeA ms.hr ms.hc ms.ht sr sc st rc rt ct, q _⟩); (rw [show (!decide (Fl.num (d : Int) = Fl.num 0)) = true by simp; exact d0]; (conv => whnf); rw [hr1]; (conv => whnf); rw [reg_ix (show d < rs.length by have : d < 8 := ok.1; omega)]; (conv => whnf); rw [hup_of sr hup_same]; (conv => whnf); rw [show regsOf (.work .and d x y) rs _ = _ from if_pos d0, List.map_set] at q; exact ⟨_, closeB ms.hc ms.ht sr sc st rc rt ct, q _⟩)
        | or => (conv => whnf); rw [hr1]; (conv => whnf); rw [show atD (rs.map D.int) (x : Int) = _ from reg_at lx]; (conv => whnf); rw [hr1]; (conv => whnf); rw [show atD (rs.map D.int) (y : Int) = _ from reg_at ly]; (conv => whnf); refine ⟨.or, _, _, rfl, wx, wy, ?_⟩; rw [ew]; (conv => whnf); by_cases d0 : d = 0; (rw [show (!decide (Fl.num (d : Int) = Fl.num 0)) = false by simp [d0]]; (conv => whnf); rw [hs1]; (conv => whnf); rw [show regsOf (.work .or d x y) rs _ = rs from if_neg (fun z => z d0)] at q; exact ⟨_, closeA ms.hr ms.hc ms.ht sr sc st rc rt ct, q _⟩); (rw [show (!decide (Fl.num (d : Int) = Fl.num 0)) = true by simp; exact d0]; (conv => whnf); rw [hr1]; (conv => whnf); rw [reg_ix (show d < rs.length by have : d < 8 := ok.1; omega)]; (conv => whnf); rw [hup_of sr hup_same]; (conv => whnf); rw [show regsOf (.work .or d x y) rs _ = _ from if_pos d0, List.map_set] at q; exact ⟨_, closeB ms.hc ms.ht sr sc st rc rt ct, q _⟩)
        | xor => (conv => whnf); rw [hr1]; (conv => whnf); rw [show atD (rs.map D.int) (x : Int) = _ from reg_at lx]; (conv => whnf); rw [hr1]; (conv => whnf); rw [show atD (rs.map D.int) (y : Int) = _ from reg_at ly]; (conv => whnf); refine ⟨.xor, _, _, rfl, wx, wy, ?_⟩; rw [ew]; (conv => whnf); by_cases d0 : d = 0; (rw [show (!decide (Fl.num (d : Int) = Fl.num 0)) = false by simp [d0]]; (conv => whnf); rw [hs1]; (conv => whnf); rw [show regsOf (.work .xor d x y) rs _ = rs from if_neg (fun z => z d0)] at q; exact ⟨_, closeA ms.hr ms.hc ms.ht sr sc st rc rt ct, q _⟩); (rw [show (!decide (Fl.num (d : Int) = Fl.num 0)) = true by simp; exact d0]; (conv => whnf); rw [hr1]; (conv => whnf); rw [reg_ix (show d < rs.length by have : d < 8 := ok.1; omega)]; (conv => whnf); rw [hup_of sr hup_same]; (conv => whnf); rw [show regsOf (.work .xor d x y) rs _ = _ from if_pos d0, List.map_set] at q; exact ⟨_, closeB ms.hc ms.ht sr sc st rc rt ct, q _⟩)
        | mul => (conv => whnf); rw [hr1]; (conv => whnf); rw [show atD (rs.map D.int) (x : Int) = _ from reg_at lx]; (conv => whnf); rw [hr1]; (conv => whnf); rw [show atD (rs.map D.int) (y : Int) = _ from reg_at ly]; (conv => whnf); refine ⟨.mul, _, _, rfl, wx, wy, ?_⟩; rw [ew]; (conv => whnf); by_cases d0 : d = 0; (rw [show (!decide (Fl.num (d : Int) = Fl.num 0)) = false by simp [d0]]; (conv => whnf); rw [hs1]; (conv => whnf); rw [show regsOf (.work .mul d x y) rs _ = rs from if_neg (fun z => z d0)] at q; exact ⟨_, closeA ms.hr ms.hc ms.ht sr sc st rc rt ct, q _⟩); (rw [show (!decide (Fl.num (d : Int) = Fl.num 0)) = true by simp; exact d0]; (conv => whnf); rw [hr1]; (conv => whnf); rw [reg_ix (show d < rs.length by have : d < 8 := ok.1; omega)]; (conv => whnf); rw [hup_of sr hup_same]; (conv => whnf); rw [show regsOf (.work .mul d x y) rs _ = _ from if_pos d0, List.map_set] at q; exact ⟨_, closeB ms.hc ms.ht sr sc st rc rt ct, q _⟩)
        | under => (conv => whnf); rw [hr1]; (conv => whnf); rw [show atD (rs.map D.int) (x : Int) = _ from reg_at lx]; (conv => whnf); rw [hr1]; (conv => whnf); rw [show atD (rs.map D.int) (y : Int) = _ from reg_at ly]; (conv => whnf); refine ⟨.under, _, _, rfl, wx, wy, ?_⟩; rw [ew]; (conv => whnf); by_cases d0 : d = 0; (rw [show (!decide (Fl.num (d : Int) = Fl.num 0)) = false by simp [d0]]; (conv => whnf); rw [hs1]; (conv => whnf); rw [show regsOf (.work .under d x y) rs _ = rs from if_neg (fun z => z d0)] at q; exact ⟨_, closeA ms.hr ms.hc ms.ht sr sc st rc rt ct, q _⟩); (rw [show (!decide (Fl.num (d : Int) = Fl.num 0)) = true by simp; exact d0]; (conv => whnf); rw [hr1]; (conv => whnf); rw [reg_ix (show d < rs.length by have : d < 8 := ok.1; omega)]; (conv => whnf); rw [hup_of sr hup_same]; (conv => whnf); rw [show regsOf (.work .under d x y) rs _ = _ from if_pos d0, List.map_set] at q; exact ⟨_, closeB ms.hc ms.ht sr sc st rc rt ct, q _⟩)
        | div => (conv => whnf); rw [hr1]; (conv => whnf); rw [show atD (rs.map D.int) (x : Int) = _ from reg_at lx]; (conv => whnf); rw [hr1]; (conv => whnf); rw [show atD (rs.map D.int) (y : Int) = _ from reg_at ly]; (conv => whnf); refine ⟨.div, _, _, rfl, wx, wy, ?_⟩; rw [ew]; (conv => whnf); by_cases d0 : d = 0; (rw [show (!decide (Fl.num (d : Int) = Fl.num 0)) = false by simp [d0]]; (conv => whnf); rw [hs1]; (conv => whnf); rw [show regsOf (.work .div d x y) rs _ = rs from if_neg (fun z => z d0)] at q; exact ⟨_, closeA ms.hr ms.hc ms.ht sr sc st rc rt ct, q _⟩); (rw [show (!decide (Fl.num (d : Int) = Fl.num 0)) = true by simp; exact d0]; (conv => whnf); rw [hr1]; (conv => whnf); rw [reg_ix (show d < rs.length by have : d < 8 := ok.1; omega)]; (conv => whnf); rw [hup_of sr hup_same]; (conv => whnf); rw [show regsOf (.work .div d x y) rs _ = _ from if_pos d0, List.map_set] at q; exact ⟨_, closeB ms.hc ms.ht sr sc st rc rt ct, q _⟩)
        | rem => (conv => whnf); rw [hr1]; (conv => whnf); rw [show atD (rs.map D.int) (x : Int) = _ from reg_at lx]; (conv => whnf); rw [hr1]; (conv => whnf); rw [show atD (rs.map D.int) (y : Int) = _ from reg_at ly]; (conv => whnf); refine ⟨.rem, _, _, rfl, wx, wy, ?_⟩; rw [ew]; (conv => whnf); by_cases d0 : d = 0; (rw [show (!decide (Fl.num (d : Int) = Fl.num 0)) = false by simp [d0]]; (conv => whnf); rw [hs1]; (conv => whnf); rw [show regsOf (.work .rem d x y) rs _ = rs from if_neg (fun z => z d0)] at q; exact ⟨_, closeA ms.hr ms.hc ms.ht sr sc st rc rt ct, q _⟩); (rw [show (!decide (Fl.num (d : Int) = Fl.num 0)) = true by simp; exact d0]; (conv => whnf); rw [hr1]; (conv => whnf); rw [reg_ix (show d < rs.length by have : d < 8 := ok.1; omega)]; (conv => whnf); rw [hup_of sr hup_same]; (conv => whnf); rw [show regsOf (.work .rem d x y) rs _ = _ from if_pos d0, List.map_set] at q; exact ⟨_, closeB ms.hc ms.ht sr sc st rc rt ct, q _⟩)
end K40
end

section
set_option Elab.async false
set_option linter.all false
set_option maxRecDepth 100000
set_option maxHeartbeats 4000000
/-! K40w13: the walks: draws. -/
namespace K40
open PySem (Str Addr)
open AR
variable {bt : Bits}
theorem DrP.to {d s : Addr} {h Z : Hd} (p : DrP d s h) {l : List D} (l1 : DrL s l) (sx : SubX d h Z) (e : Z d = some (.lst l)) : DrP d s Z :=
  ⟨p.ne, (let ⟨xs, a⟩ := p.xs; ⟨xs, sx s _ p.ne a⟩), ⟨l, e, l1⟩⟩
theorem p_law_draws : Keeps bt (C40 bt) b_law_draws N_law_draws.length 1 S_law_draws := by
  rintro ds h Q E ⟨ns, rfl, q⟩
  refine ⟨rfl, ?_⟩
  (conv => whnf)
  intro s ns'
  (conv => whnf)
  intro d nd
  obtain ⟨sd, nd'⟩ := hup_none nd
  refine ⟨_, SubH.refl _, q d s _ (((SubH.refl h).new ns').new nd) nd' ns' ⟨Ne.symm sd, ⟨ns, hup_of (Ne.symm sd) hup_same⟩, ⟨_, hup_same, 0, 0, 1, rfl⟩⟩⟩
theorem p_law_draw : Keeps bt (C40 bt) b_law_draw N_law_draw.length 2 S_law_draw := by
  rintro ds h Q E ⟨d, s, n, rfl, ⟨n0, n1⟩, ⟨sd, ⟨xs, es⟩, ⟨_, el, ⟨i, c, x, rfl⟩⟩⟩, q⟩
  refine ⟨rfl, ?_⟩
  -- the second half
  have half : ∀ (Z : Hd) (a2 : Option D) (i : Nat) (c x : Int), SubX d h Z → Z d = some (.lst [.ref s, nD i, .int c, .int x]) →
      wpSs bt (C40 bt) (match b_law_draw with | .cons _ r => r | r => r) (xd0 E) (nx0 Q) [some (.ref d), some (nD n), a2, none] Z := by
    intro Z a2 i c x sx el
    (conv => whnf)
    rw [el]
    (conv => whnf)
    by_cases cc : 0 < c
    · rw [decide_eq_true cc]
      (conv => whnf)
      rw [el]
      (conv => whnf)
      refine ⟨by omega, ?_⟩
      (conv => whnf)
      rw [el]
      (conv => whnf)
      refine ⟨⟨by omega, by omega⟩, ?_⟩
      (conv => whnf)
      rw [el]
      (conv => whnf)
      have v0 : 0 ≤ c % (n : Int) := Int.emod_nonneg _ (by omega)
      have v1 : c % (n : Int) < n := Int.emod_lt_of_pos _ (by omega)
      refine ⟨_, SubX.to (sx), ?_⟩
      have := q (c % (n : Int)).toNat [.ref s, nD i, .int (c / (n : Int)), .int x] (by omega) ⟨i, _, _, rfl⟩
      rw [show nD (c % (n : Int)).toNat = .int (c % (n : Int)) from by show D.int _ = _; congr 1; omega] at this
      exact this
    · rw [decide_eq_false cc]
      (conv => whnf)
      rw [el]
      (conv => whnf)
      refine ⟨.inr ⟨by decide, by decide⟩, ?_⟩
      (conv => whnf)
      refine ⟨by decide, ?_⟩
      (conv => whnf)
      rw [el]
      (conv => whnf)
      rw [hup_same]
      (conv => whnf)
      refine ⟨⟨by decide, by decide⟩, ?_⟩
      (conv => whnf)
      refine ⟨by omega, ?_⟩
      (conv => whnf)
      have v0 : 0 ≤ (x * 69621 + 7) % 2147483629 / 11 % (n : Int) := Int.emod_nonneg _ (by omega)
      have v1 : (x * 69621 + 7) % 2147483629 / 11 % (n : Int) < n := Int.emod_lt_of_pos _ (by omega)
      refine ⟨_, sx.to, ?_⟩
      have := q ((x * 69621 + 7) % 2147483629 / 11 % (n : Int)).toNat [.ref s, nD i, .int c, .int ((x * 69621 + 7) % 2147483629)] (by omega) ⟨i, _, _, rfl⟩
      rw [show nD ((x * 69621 + 7) % 2147483629 / 11 % (n : Int)).toNat = .int ((x * 69621 + 7) % 2147483629 / 11 % (n : Int)) from by show D.int _ = _; congr 1; omega] at this
      exact this
  refine wp_cut (bt := bt) (C := C40 bt) (fun σ Z => ∃ a2 i c x, σ = [some (.ref d), some (nD n), a2, none] ∧ SubX d h Z ∧ Z d = some (.lst [.ref s, nD i, .int c, .int x])) ?_ ?_
  · intro K kk
    (conv => whnf)
    rw [el]
    (conv => whnf)
    rw [show decide (Fl.num c = Fl.num 0) = decide (c = 0) by simp]
    by_cases c0 : c = 0
    · rw [decide_eq_true c0]
      (conv => whnf)
      rw [el]
      (conv => whnf)
      rw [el]
      (conv => whnf)
      rw [itemsOf_l es]
      (conv => whnf)
      rw [List.length_map, dec_lt]
      by_cases il : i < xs.length
      · rw [decide_eq_true il]
        (conv => whnf)
        rw [el]
        (conv => whnf)
        rw [el]
        (conv => whnf)
        rw [es]
        (conv => whnf)
        rw [show atD (xs.map D.int) (i : Int) = some (.int (xs.getD i 0)) from by rw [atD_map (enc := D.int) (x := xs.getD i 0)]; rw [List.getD_eq_getElem?_getD, List.getElem?_eq_getElem il]; rfl]
        (conv => whnf)
        rw [el]
        (conv => whnf)
        rw [el]
        (conv => whnf)
        generalize xs.getD i 0 = cell
        refine ⟨by decide, ?_⟩
        (conv => whnf)
        by_cases big18 : (10 : Int) ^ (18 : Int).toNat ≤ cell
        · rw [decide_eq_true big18]
          (conv => whnf)
          rw [hup_same]
          (conv => whnf)
          rw [hup_same]
          (conv => whnf)
          refine ⟨.inr ⟨by decide, by decide⟩, ?_⟩
          (conv => whnf)
          refine ⟨by decide, ?_⟩
          (conv => whnf)
          rw [hup_same]
          (conv => whnf)
          exact kk _ _ ⟨_, i + 1, cell, _, rfl, ((SubX.refl d h).hd.hd).hd, hup_same⟩
        · rw [decide_eq_false big18]
          (conv => whnf)
          rw [hup_same]
          (conv => whnf)
          refine ⟨.inr ⟨by decide, by decide⟩, ?_⟩
          (conv => whnf)
          refine ⟨by decide, ?_⟩
          (conv => whnf)
          rw [hup_same]
          (conv => whnf)
          exact kk _ _ ⟨_, i + 1, c, _, rfl, ((SubX.refl d h).hd).hd, hup_same⟩
      · rw [decide_eq_false il]
        (conv => whnf)
        exact kk _ _ ⟨_, i, c, x, rfl, SubX.refl d h, el⟩
    · rw [decide_eq_false c0]
      (conv => whnf)
      exact kk _ _ ⟨_, i, c, x, rfl, SubX.refl d h, el⟩
  · rintro σ Z ⟨a2, i, c, x, rfl, sx, el⟩
    exact half Z a2 i c x sx el
theorem p_law_pick : Keeps bt (C40 bt) b_law_pick N_law_pick.length 2 S_law_pick := by
  rintro ds h Q E ⟨d, s, r, xs, rfl, er, rd, ⟨l0, l1⟩, dp, q⟩
  refine ⟨rfl, ?_⟩
  (conv => whnf)
  rw [itemsOf_l er]
  (conv => whnf)
  refine ⟨d, s, xs.length, rfl, ⟨l0, by omega⟩, dp, fun v l vl dl => ?_⟩
  (conv => whnf)
  rw [hup_of rd er]
  (conv => whnf)
  have e : xs[v]? = some xs[v] := List.getElem?_eq_getElem vl
  rw [show atD xs (v : Int) = some xs[v] from by unfold atD; rw [if_pos (by omega)]; simpa using e]
  (conv => whnf)
  exact ⟨_, SubH.refl _, q _ l (List.getElem_mem vl) dl⟩
/-- a pick out of a written list -/
theorem pick_new {d s : Addr} {h : Hd} {xs : List D} {Q E : Qd} (l0 : 0 < xs.length) (l1 : xs.length < 1000) (dp : DrP d s h) (q : ∀ r x l, h r = none → x ∈ xs → DrL s l → Q x (hup (hup h r (.lst xs)) d (.lst l))) : ∀ r, h r = none → S_law_pick [.ref d, .ref r] (hup h r (.lst xs)) Q E := fun r nr => by
  obtain ⟨l, el, dl⟩ := dp.l
  have dr := new_ne nr el
  exact ⟨d, s, r, xs, rfl, hup_same, Ne.symm dr, ⟨l0, l1⟩, dp.to dl ((SubX.refl d h).new nr) (hup_of dr el), fun x l xm dl => q r x l nr xm dl⟩
theorem p_law_register : Keeps bt (C40 bt) b_law_register N_law_register.length 1 S_law_register := by
  rintro ds h Q E ⟨d, s, rfl, dp, q⟩
  refine ⟨rfl, ?_⟩
  (conv => whnf)
  refine pick_new (s := s) (E := E) (by decide) (by decide) dp fun r x l nr xm dl => ?_
  (conv => whnf)
  refine ⟨_, SubX.to ((SubX.refl d h).new nr), ?_⟩
  simp only [List.mem_cons, List.not_mem_nil, or_false] at xm
  rcases xm with rfl | rfl | rfl | rfl | rfl | rfl | rfl | rfl
  · exact q 1 l (by decide) dl
  · exact q 2 l (by decide) dl
  · exact q 3 l (by decide) dl
  · exact q 4 l (by decide) dl
  · exact q 5 l (by decide) dl
  · exact q 0 l (by decide) dl
  · exact q 1 l (by decide) dl
  · exact q 2 l (by decide) dl
end K40
end

section
set_option Elab.async false
set_option linter.all false
set_option maxRecDepth 100000
set_option maxHeartbeats 4000000
/-! K40w14: the walks: blocks, registers, memories that are drawn. -/
namespace K40
open PySem (Str Addr)
open AR
variable {bt : Bits}
section
variable {d s : Addr} {h0 h : Hd}
theorem draw_go (K : Nat) {R : Addr → Nat → List D → Prop} (sx : SubX d h0 h) (dp : DrP d s h) (k0 : 0 < K) (k1 : K < 1000000) (q : ∀ v l Z, v < K → DrL s l → DrP d s Z → SubX d h0 Z → Z d = some (.lst l) → hup h d (.lst l) = Z → R d v l) :
    ∃ d' s' n', [D.ref d, nD K] = [.ref d', nD n'] ∧ (0 < n' ∧ n' < 1000000) ∧ DrP d' s' h ∧ ∀ (v : Nat) l, v < n' → DrL s' l → R d' v l :=
  ⟨d, s, K, rfl, ⟨k0, k1⟩, dp, fun v l vl dl => q v l _ vl dl (dp.to dl ((SubX.refl d _).hd) hup_same) sx.hd hup_same rfl⟩
theorem reg_go {R : Addr → Nat → List D → Prop} (sx : SubX d h0 h) (dp : DrP d s h) (q : ∀ v l Z, v < 8 → DrL s l → DrP d s Z → SubX d h0 Z → Z d = some (.lst l) → hup h d (.lst l) = Z → R d v l) :
    ∃ d' s', [D.ref d] = [.ref d'] ∧ DrP d' s' h ∧ ∀ (v : Nat) l, v < 6 → DrL s' l → R d' v l :=
  ⟨d, s, rfl, dp, fun v l vl dl => q v l _ (by omega) dl (dp.to dl ((SubX.refl d _).hd) hup_same) sx.hd hup_same rfl⟩
theorem plain_go (K : Nat) {R : Addr → Op → List D → Prop} (sx : SubX d h0 h) (dp : DrP d s h) (k0 : 0 < K) (k1 : K < 65536) (q : ∀ o l Z, Op.ok o → o.xfer = false → DrL s l → DrP d s Z → SubX d h0 Z → Z d = some (.lst l) → hup h d (.lst l) = Z → R d o l) :
    ∃ d' s' n', [D.ref d, nD K] = [.ref d', nD n'] ∧ (0 < n' ∧ n' < 65536) ∧ DrP d' s' h ∧ ∀ (o : Op) l, o.ok → o.xfer = false → DrL s' l → R d' o l :=
  ⟨d, s, K, rfl, ⟨k0, k1⟩, dp, fun o l ok xf dl => q o l _ ok xf dl (dp.to dl ((SubX.refl d _).hd) hup_same) sx.hd hup_same rfl⟩
theorem pick_go {xs : List D} {Q E : Qd} (sx : SubX d h0 h) (dp : DrP d s h) (l0 : 0 < xs.length) (l1 : xs.length < 1000) (q : ∀ x l Z, x ∈ xs → DrL s l → DrP d s Z → SubX d h0 Z → Z d = some (.lst l) → Q x Z) : ∀ r, h r = none → S_law_pick [.ref d, .ref r] (hup h r (.lst xs)) Q E :=
  pick_new (s := s) l0 l1 dp fun r x l nr xm dl => q x l _ xm dl (dp.to dl (((SubX.refl d _).new nr).hd) hup_same) (sx.new nr).hd hup_same
end
theorem word_in {x : D} (h : x ∈ [D.str "add", .str "sub", .str "and", .str "or", .str "xor", .str "under", .str "mul", .str "add", .str "sub", .str "mul", .str "div", .str "rem"]) : ∃ w : Wk, x = .str w.s := by
  simp only [List.mem_cons, List.not_mem_nil, or_false] at h
  rcases h with rfl | rfl | rfl | rfl | rfl | rfl | rfl | rfl | rfl | rfl | rfl | rfl
  · exact ⟨.add, rfl⟩
  · exact ⟨.sub, rfl⟩
  · exact ⟨.and, rfl⟩
  · exact ⟨.or, rfl⟩
  · exact ⟨.xor, rfl⟩
  · exact ⟨.under, rfl⟩
  · exact ⟨.mul, rfl⟩
  · exact ⟨.add, rfl⟩
  · exact ⟨.sub, rfl⟩
  · exact ⟨.mul, rfl⟩
  · exact ⟨.div, rfl⟩
  · exact ⟨.rem, rfl⟩
theorem p_law_plain : Keeps bt (C40 bt) b_law_plain N_law_plain.length 2 S_law_plain := by
  rintro ds h Q E ⟨d, s, n, rfl, ⟨n0, n1⟩, dp, q⟩
  refine ⟨rfl, ?_⟩
  have sx := SubX.refl d h
  (conv => whnf)
  refine draw_go 14 sx dp (by decide) (by decide) ?_; clear sx dp; intro k l Z vlk dl dp sx el eZ; rw [eZ]; clear eZ; (conv => whnf)
  rw [show decide ((k : Int) < 3) = decide (k < 3) from dec_lt k 3]
  by_cases k3 : k < 3
  · rw [decide_eq_true k3]
    (conv => whnf)
    refine reg_go sx dp ?_; clear sx dp; intro a l Z wa dl dp sx el eZ; rw [eZ]; clear eZ; (conv => whnf)
    refine draw_go 65536 sx dp (by decide) (by decide) ?_; clear sx dp; intro w l Z vlw dl dp sx el eZ; rw [eZ]; clear eZ; (conv => whnf)
    refine pick_go (E := E) sx dp (Nat.le_of_ble_eq_true rfl) (Nat.le_of_ble_eq_true rfl) ?_; clear sx dp; intro x l Z xm dl dp sx el
    obtain ⟨y, hy, rfl⟩ := List.mem_map.mp (show x ∈ ([0, 1, 2, 3, 5, 8, 65535, 32768, w] : List Nat).map nD from xm)
    have y0 : y < 65536 := by simp at hy; omega
    (conv => whnf)
    exact ⟨_, SubX.to' sx el, q (.set a y) _ (by simp only [Op.ok]; omega) rfl dl⟩
  · rw [decide_eq_false k3]
    (conv => whnf)
    rw [show decide ((k : Int) < 7) = decide (k < 7) from dec_lt k 7]
    by_cases k7 : k < 7
    · rw [decide_eq_true k7]
      (conv => whnf)
      refine pick_go (E := E) sx dp (Nat.le_of_ble_eq_true rfl) (Nat.le_of_ble_eq_true rfl) ?_; clear sx dp; intro x l Z xm dl dp sx el
      obtain ⟨w, rfl⟩ := word_in xm
      refine wp_cut (bt := bt) (C := C40 bt) (fun σ Z => ∃ (w : Wk), σ = [some (.ref d), some (nD n), some (nD k), some (.str w.s)] ∧ SubX d h Z ∧ DrP d s Z) ?_ ?_
      · intro K kk
        cases w with
        | div =>
          (conv => whnf)
          refine draw_go 3 sx dp (by decide) (by decide) ?_; clear sx dp; intro v l Z vlv dl dp sx el eZ; rw [eZ]; clear eZ; (conv => whnf)
          rw [show decide ((0 : Int) < (v : Int)) = decide (0 < v) from dec_lt 0 v]
          by_cases v0 : 0 < v
          · rw [decide_eq_true v0]; (conv => whnf); exact kk _ _ ⟨.add, rfl, sx, dp⟩
          · rw [decide_eq_false v0]; (conv => whnf); exact kk _ _ ⟨.div, rfl, sx, dp⟩
        | rem =>
          (conv => whnf)
          refine draw_go 3 sx dp (by decide) (by decide) ?_; clear sx dp; intro v l Z vlv dl dp sx el eZ; rw [eZ]; clear eZ; (conv => whnf)
          rw [show decide ((0 : Int) < (v : Int)) = decide (0 < v) from dec_lt 0 v]
          by_cases v0 : 0 < v
          · rw [decide_eq_true v0]; (conv => whnf); exact kk _ _ ⟨.add, rfl, sx, dp⟩
          · rw [decide_eq_false v0]; (conv => whnf); exact kk _ _ ⟨.rem, rfl, sx, dp⟩
        | add => (conv => whnf); exact kk _ _ ⟨.add, rfl, sx, dp⟩
        | sub => (conv => whnf); exact kk _ _ ⟨.sub, rfl, sx, dp⟩
        | mul => (conv => whnf); exact kk _ _ ⟨.mul, rfl, sx, dp⟩
        | and => (conv => whnf); exact kk _ _ ⟨.and, rfl, sx, dp⟩
        | or => (conv => whnf); exact kk _ _ ⟨.or, rfl, sx, dp⟩
        | xor => (conv => whnf); exact kk _ _ ⟨.xor, rfl, sx, dp⟩
        | under => (conv => whnf); exact kk _ _ ⟨.under, rfl, sx, dp⟩
      · clear sx dp
        rintro σ Z ⟨w, rfl, sx, dp⟩
        (conv => whnf)
        refine reg_go sx dp ?_; clear sx dp; intro a l Z wa dl dp sx el eZ; rw [eZ]; clear eZ; (conv => whnf)
        refine reg_go sx dp ?_; clear sx dp; intro b l Z wb dl dp sx el eZ; rw [eZ]; clear eZ; (conv => whnf)
        refine reg_go sx dp ?_; clear sx dp; intro c l Z wc dl dp sx el eZ; rw [eZ]; clear eZ; (conv => whnf)
        exact ⟨_, SubX.to' sx el, q (.work w a b c) _ (by simp only [Op.ok]; omega) rfl dl⟩
    · rw [decide_eq_false k7]
      (conv => whnf)
      rw [show decide ((k : Int) < 10) = decide (k < 10) from dec_lt k 10]
      by_cases k10 : k < 10
      · rw [decide_eq_true k10]
        (conv => whnf)
        refine reg_go sx dp ?_; clear sx dp; intro a l Z wa dl dp sx el eZ; rw [eZ]; clear eZ; (conv => whnf)
        refine pick_go (E := E) sx dp (Nat.le_of_ble_eq_true rfl) (Nat.le_of_ble_eq_true rfl) ?_; clear sx dp; intro x l Z xm dl dp sx el
        obtain ⟨y, hy, rfl⟩ := List.mem_map.mp (show x ∈ ([0, 0, 0, 0, 6, 1] : List Nat).map nD from xm)
        have y0 : y < 8 := by simp at hy; omega
        (conv => whnf)
        refine draw_go n sx dp n0 (by omega) ?_; clear sx dp; intro c l Z vlc dl dp sx el eZ; rw [eZ]; clear eZ
        (conv => whnf)
        exact ⟨_, SubX.to' sx el, q (.load a y c) _ (by simp only [Op.ok]; omega) rfl dl⟩
      · rw [decide_eq_false k10]
        (conv => whnf)
        rw [show decide ((k : Int) < 12) = decide (k < 12) from dec_lt k 12]
        by_cases k12 : k < 12
        · rw [decide_eq_true k12]
          (conv => whnf)
          refine pick_go (E := E) sx dp (Nat.le_of_ble_eq_true rfl) (Nat.le_of_ble_eq_true rfl) ?_; clear sx dp; intro x l Z xm dl dp sx el
          obtain ⟨y, hy, rfl⟩ := List.mem_map.mp (show x ∈ ([0, 0, 0, 0, 6, 1] : List Nat).map nD from xm)
          have y0 : y < 8 := by simp at hy; omega
          (conv => whnf)
          refine draw_go n sx dp n0 (by omega) ?_; clear sx dp; intro c l Z vlc dl dp sx el eZ; rw [eZ]; clear eZ
          (conv => whnf)
          refine reg_go sx dp ?_; clear sx dp; intro a l Z wa dl dp sx el eZ; rw [eZ]; clear eZ; (conv => whnf)
          exact ⟨_, SubX.to' sx el, q (.store y c a) _ (by simp only [Op.ok]; omega) rfl dl⟩
        · rw [decide_eq_false k12]
          (conv => whnf)
          rw [show decide (Fl.num (k : Int) = Fl.num 12) = decide (k = 12) from dec_num k 12]
          by_cases ke : k = 12
          · rw [decide_eq_true ke]
            (conv => whnf)
            refine reg_go sx dp ?_; clear sx dp; intro a l Z wa dl dp sx el eZ; rw [eZ]; clear eZ; (conv => whnf)
            exact ⟨_, SubX.to' sx el, q (.tell a) _ (by simp only [Op.ok]; omega) rfl dl⟩
          · rw [decide_eq_false ke]
            (conv => whnf)
            exact ⟨_, SubX.to' sx el, q (.work .add 6 6 0) _ (by simp only [Op.ok]; omega) rfl dl⟩
theorem p_law_registers : Keeps bt (C40 bt) b_law_registers N_law_registers.length 1 S_law_registers := by
  rintro ds h Q E ⟨d, s, rfl, dp, q⟩
  refine ⟨rfl, ?_⟩
  (conv => whnf)
  refine ⟨⟨by decide, by decide⟩, ?_⟩
  (conv => whnf)
  refine ⟨(Nat.le_of_ble_eq_true rfl), lcL_inv (fun i acc Z => SubX d h Z ∧ DrP d s Z ∧ (∃ l, Z d = some (.lst l) ∧ DrL s l) ∧ ∃ ns : List Int, acc = ns.map .int ∧ ns.length = i ∧ ∀ x ∈ ns, wordI x) ?_ ?_ ?_⟩
  · exact ⟨SubX.refl d h, dp, dp.l, [], rfl, rfl, by simp⟩
  · clear dp
    rintro i x acc Z K e ⟨sx, dp, _, ns, rfl, nl, nw⟩ kk
    refine ⟨trivial, ?_⟩
    (conv => whnf)
    refine draw_go 65536 sx dp (by decide) (by decide) ?_; clear sx dp; intro w l Z vlw dl dp sx el eZ; rw [eZ]; clear eZ; (conv => whnf)
    refine pick_go (E := E) sx dp (Nat.le_of_ble_eq_true rfl) (Nat.le_of_ble_eq_true rfl) ?_; clear sx dp; intro x l Z xm dl dp sx el
    obtain ⟨y, hy, rfl⟩ := List.mem_map.mp (show x ∈ ([0, 1, 2, 3, 7, 65535, w] : List Nat).map nD from xm)
    have y0 : y < 65536 := by simp at hy; omega
    refine kk _ _ _ (SubH.refl _) ⟨sx, dp, ⟨_, el, dl⟩, ns ++ [(y : Int)], by simp, by simp [nl], fun x hx => ?_⟩
    rcases List.mem_append.mp hx with z | z
    · exact nw x z
    · simp at z; subst z; exact ⟨by omega, by omega⟩
  · rintro acc Z ⟨sx, _, ⟨l, el, dl⟩, ns, rfl, nl, nw⟩
    refine ⟨trivial, ?_⟩
    (conv => whnf)
    have nl : ns.length = 7 := nl
    refine ⟨⟨(Nat.le_of_ble_eq_true rfl), by rw [List.length_map, nl]; unfold big; omega⟩, ?_⟩
    refine ⟨_, SubX.to' sx el, q (0 :: ns) l ⟨by simp [nl], ?_, rfl⟩ dl⟩
    intro x hx
    rcases List.mem_cons.mp hx with rfl | z
    · exact ⟨by decide, by decide⟩
    · exact nw x z
theorem p_law_memory : Keeps bt (C40 bt) b_law_memory N_law_memory.length 1 S_law_memory := by
  rintro ds h Q E ⟨d, s, rfl, dp, q⟩
  refine ⟨rfl, ?_⟩
  have sx := SubX.refl d h
  (conv => whnf)
  refine pick_go (E := E) sx dp (Nat.le_of_ble_eq_true rfl) (Nat.le_of_ble_eq_true rfl) ?_; clear sx dp; intro x l Z xm dl dp sx el
  obtain ⟨n, hn, rfl⟩ := List.mem_map.mp (show x ∈ ([8, 8, 16, 64] : List Nat).map nD from xm)
  have n0 : 8 ≤ n ∧ n ≤ 64 := by simp at hn; omega
  (conv => whnf)
  refine ⟨⟨by omega, by unfold big; omega⟩, ?_⟩
  (conv => whnf)
  rw [show ((n : Int)).toNat = n by simp]
  refine ⟨by simp; unfold big; omega, lcL_inv (fun i acc Z => SubX d h Z ∧ DrP d s Z ∧ (∃ l, Z d = some (.lst l) ∧ DrL s l) ∧ ∃ ns : List Int, acc = ns.map .int ∧ ns.length = i ∧ ∀ x ∈ ns, wordI x) ?_ ?_ ?_⟩
  · exact ⟨sx, dp, dp.l, [], rfl, rfl, by simp⟩
  · clear dp sx
    rintro i x acc Z K e ⟨sx, dp, _, ns, rfl, nl, nw⟩ kk
    refine ⟨trivial, ?_⟩
    (conv => whnf)
    refine draw_go 100 sx dp (by decide) (by decide) ?_; clear sx dp; intro w l Z vlw dl dp sx el eZ; rw [eZ]; clear eZ; (conv => whnf)
    refine pick_go (E := E) sx dp (Nat.le_of_ble_eq_true rfl) (Nat.le_of_ble_eq_true rfl) ?_; clear sx dp; intro x l Z xm dl dp sx el
    obtain ⟨y, hy, rfl⟩ := List.mem_map.mp (show x ∈ ([0, 1, 2, 7, 65535, w] : List Nat).map nD from xm)
    have y0 : y < 65536 := by simp at hy; omega
    refine kk _ _ _ (SubH.refl _) ⟨sx, dp, ⟨_, el, dl⟩, ns ++ [(y : Int)], by simp, by simp [nl], fun x hx => ?_⟩
    rcases List.mem_append.mp hx with z | z
    · exact nw x z
    · simp at z; subst z; exact ⟨by omega, by omega⟩
  · rintro acc Z ⟨sx, _, ⟨l, el, dl⟩, ns, rfl, nl, nw⟩
    refine ⟨trivial, ?_⟩
    (conv => whnf)
    have nl : ns.length = n := by simpa using nl
    exact ⟨_, SubX.to' sx el, q ns l ⟨by omega, by omega, nw⟩ dl⟩
theorem SubX.trans {d : Addr} {a b c : Hd} (x : SubX d a b) (y : SubX d b c) : SubX d a c := fun p q n e => y p q n (x p q n e)
theorem cut_to (xs : List D) (k : Nat) : cut xs none (some (k : Int)) = xs.take k := by
  unfold cut
  have e : ¬ (k : Int) < 0 := by omega
  simp only [e, if_false, List.drop_zero, Nat.sub_zero]
  have e2 : (min (k : Int) (xs.length : Int)).toNat = min k xs.length := by omega
  rw [e2]
  by_cases c : k ≤ xs.length
  · rw [Nat.min_eq_left c]
  · rw [Nat.min_eq_right (by omega), List.take_length, List.take_of_length_le (by omega)]
theorem p_law_block : Keeps bt (C40 bt) b_law_block N_law_block.length 3 S_law_block := by
  rintro ds h Q E ⟨d, s, rfl, dp, q⟩
  refine ⟨rfl, ?_⟩
  have sx := SubX.refl d h
  (conv => whnf)
  refine draw_go 6 sx dp (by decide) (by decide) ?_; clear sx dp; intro n l Z vln dl dp sx el eZ; rw [eZ]; clear eZ; (conv => whnf)
  refine ⟨⟨by omega, by unfold big; omega⟩, ?_⟩
  (conv => whnf)
  rw [show (1 + (n : Int)).toNat = n + 1 by omega]
  refine ⟨by simp; unfold big; omega, lcL_inv (fun i acc Z => SubX d h Z ∧ DrP d s Z ∧ ∃ os : List Op, acc = os.map Op.dat ∧ os.length = i ∧ (∀ o ∈ os, o.ok) ∧ ∀ o ∈ os, o.xfer = false) ?_ ?_ ?_⟩
  · exact ⟨sx, dp, [], rfl, rfl, by simp, by simp⟩
  · clear dp sx el
    rintro i x acc Z K e ⟨sx, dp, os, rfl, ol, ok, xf⟩ kk
    refine ⟨trivial, ?_⟩
    (conv => whnf)
    refine plain_go 8 sx dp (by decide) (by decide) ?_; clear sx dp; intro o l Z ok1 xf1 dl dp sx el eZ; rw [eZ]; clear eZ; (conv => whnf)
    refine kk _ _ _ (SubH.refl _) ⟨sx, dp, os ++ [o], by simp, by simp [ol], fun o' ho => ?_, fun o' ho => ?_⟩
    · rcases List.mem_append.mp ho with z | z
      · exact ok o' z
      · simp at z; subst z; exact ok1
    · rcases List.mem_append.mp ho with z | z
      · exact xf o' z
      · simp at z; subst z; exact xf1
  · rintro acc Z ⟨sx, dp, os, rfl, ol, ok, xf⟩
    have ol : os.length = n + 1 := by simpa using ol
    refine ⟨trivial, ?_⟩
    (conv => whnf)
    intro r nr
    obtain ⟨l2, el2, dl2⟩ := dp.l
    have dr := new_ne nr el2
    have dp := dp.to dl2 ((SubX.refl d Z).new (c := .lst (os.map Op.dat)) nr) (hup_of dr el2)
    have sx := sx.new (c := .lst (os.map Op.dat)) nr
    have er : hup Z r (.lst (os.map Op.dat)) r = some (.lst (os.map Op.dat)) := hup_same
    revert dp sx er
    generalize hup Z r (.lst (os.map Op.dat)) = Z1
    intro dp sx0 er
    have sx := SubX.refl d Z1
    (conv => whnf)
    refine pick_go (E := E) sx dp (Nat.le_of_ble_eq_true rfl) (Nat.le_of_ble_eq_true rfl) ?_; clear sx dp; intro x l Z xm dl dp sx el
    have sx1 := SubX.trans sx0 sx
    have er := sx r _ (Ne.symm dr) er
    have fin : ∀ o : Op, o.ok → Q (blkD (os.take 5 ++ [o])) (hup h d (.lst l)) := fun o ho => by
      refine q _ l ⟨by simp, by simp; omega, fun o' h' => ?_, fun o' h' => ?_⟩ (by simp; omega) dl
      · rcases List.mem_append.mp h' with z | z
        · exact ok o' (List.mem_of_mem_take z)
        · simp at z; subst z; exact ho
      · rw [List.dropLast_concat] at h'
        exact xf o' (List.mem_of_mem_take h')
    have c5 : cut (os.map Op.dat) none (some (6 - 1 : Int)) = (os.take 5).map Op.dat := by
      rw [List.map_take]
      exact cut_to _ 5
    have o0 : os[0]? = some os[0] := List.getElem?_eq_getElem (by omega)
    have e0 : atD (os.map Op.dat) 0 = some os[0].dat := atD_map (k := 0) o0
    have lb1 : ((os.take 5).map Op.dat).length ≤ big := by simp; unfold big; omega
    simp only [List.mem_cons, List.not_mem_nil, or_false] at xm
    have non : x = .non → Q (blkD (os.take 5 ++ [os[0]])) (hup h d (.lst l)) := fun _ => fin _ (ok _ (List.getElem_mem _))
    rcases xm with rfl | rfl | rfl | rfl | rfl | rfl | rfl | rfl | rfl
    · (conv => whnf); rw [lstOf_l er]; (conv => whnf); rw [er]; (conv => whnf); rw [e0]; (conv => whnf); rw [c5]; refine ⟨⟨lb1, (Nat.le_of_ble_eq_true rfl)⟩, ?_⟩; (conv => whnf); refine ⟨_, SubX.to' sx1 el, ?_⟩; have z := non rfl; unfold blkD at z; rw [List.map_append] at z; exact z
    · (conv => whnf); rw [lstOf_l er]; (conv => whnf); rw [er]; (conv => whnf); rw [e0]; (conv => whnf); rw [c5]; refine ⟨⟨lb1, (Nat.le_of_ble_eq_true rfl)⟩, ?_⟩; (conv => whnf); refine ⟨_, SubX.to' sx1 el, ?_⟩; have z := non rfl; unfold blkD at z; rw [List.map_append] at z; exact z
    · (conv => whnf); rw [lstOf_l er]; (conv => whnf); rw [er]; (conv => whnf); rw [e0]; (conv => whnf); rw [c5]; refine ⟨⟨lb1, (Nat.le_of_ble_eq_true rfl)⟩, ?_⟩; (conv => whnf); refine ⟨_, SubX.to' sx1 el, ?_⟩; have z := non rfl; unfold blkD at z; rw [List.map_append] at z; exact z
    · (conv => whnf); rw [lstOf_l er]; (conv => whnf); rw [c5]; refine ⟨⟨lb1, (Nat.le_of_ble_eq_true rfl)⟩, ?_⟩; (conv => whnf); refine ⟨_, SubX.to' sx1 el, ?_⟩; have z := fin (.br .same 1 2 3) (by simp [Op.ok]); unfold blkD at z; rw [List.map_append] at z; exact z
    · (conv => whnf); rw [lstOf_l er]; (conv => whnf); rw [c5]; refine ⟨⟨lb1, (Nat.le_of_ble_eq_true rfl)⟩, ?_⟩; (conv => whnf); refine ⟨_, SubX.to' sx1 el, ?_⟩; have z := fin (.jump 5) (by simp [Op.ok]); unfold blkD at z; rw [List.map_append] at z; exact z
    · (conv => whnf); rw [lstOf_l er]; (conv => whnf); rw [c5]; refine ⟨⟨lb1, (Nat.le_of_ble_eq_true rfl)⟩, ?_⟩; (conv => whnf); refine ⟨_, SubX.to' sx1 el, ?_⟩; have z := fin (.link 4 9) (by simp [Op.ok]); unfold blkD at z; rw [List.map_append] at z; exact z
    · (conv => whnf); rw [lstOf_l er]; (conv => whnf); rw [c5]; refine ⟨⟨lb1, (Nat.le_of_ble_eq_true rfl)⟩, ?_⟩; (conv => whnf); refine ⟨_, SubX.to' sx1 el, ?_⟩; have z := fin (.back 3) (by simp [Op.ok]); unfold blkD at z; rw [List.map_append] at z; exact z
    · (conv => whnf); rw [lstOf_l er]; (conv => whnf); rw [c5]; refine ⟨⟨lb1, (Nat.le_of_ble_eq_true rfl)⟩, ?_⟩; (conv => whnf); refine ⟨_, SubX.to' sx1 el, ?_⟩; have z := fin (.stop) (by simp [Op.ok]); unfold blkD at z; rw [List.map_append] at z; exact z
    · (conv => whnf); rw [lstOf_l er]; (conv => whnf); rw [c5]; refine ⟨⟨lb1, (Nat.le_of_ble_eq_true rfl)⟩, ?_⟩; (conv => whnf); refine ⟨_, SubX.to' sx1 el, ?_⟩; have z := fin (.br .less 3 1 0) (by simp [Op.ok]); unfold blkD at z; rw [List.map_append] at z; exact z
end K40
end

section
set_option Elab.async false
set_option linter.all false
set_option maxRecDepth 100000
set_option maxHeartbeats 4000000
/-! K40w15: the walks: shuffled, same. -/
namespace K40
open PySem (Str Addr)
open AR
variable {bt : Bits}
theorem erase_perm {α : Type} : ∀ {L : List α} {v : Nat} (h : v < L.length), ([L[v]] ++ L.eraseIdx v).Perm L
  | a :: l, 0, _ => List.Perm.refl _
  | a :: l, v + 1, h => by
    have hv : v < l.length := by simpa using h
    have ih := erase_perm (L := l) (v := v) hv
    exact (List.Perm.swap a l[v] (l.eraseIdx v)).trans (ih.cons a)
theorem p_law_shuffled : Keeps bt (C40 bt) b_law_shuffled N_law_shuffled.length 2 S_law_shuffled := by
  rintro ds h Q E ⟨d, s, r, xs, rfl, er, rd, lx, dp, q⟩
  refine ⟨rfl, ?_⟩
  obtain ⟨l0, el0, dl0⟩ := dp.l
  obtain ⟨xs0, ex0⟩ := dp.xs
  have sd := dp.ne
  (conv => whnf)
  rw [itemsOf_l er]
  (conv => whnf)
  intro lf nlf
  (conv => whnf)
  intro fd nfd
  (conv => whnf)
  obtain ⟨fl, nfd'⟩ := hup_none nfd
  have lr : lf ≠ r := Ne.symm (new_ne nlf er)
  have fr : fd ≠ r := Ne.symm (new_ne nfd' er)
  have ld : lf ≠ d := Ne.symm (new_ne nlf el0)
  have fdd : fd ≠ d := Ne.symm (new_ne nfd' el0)
  rw [itemsOf_l (hup_of (Ne.symm fr) (hup_of (Ne.symm lr) er))]
  (conv => whnf)
  refine ⟨⟨by omega, by unfold big; omega⟩, ?_⟩
  (conv => whnf)
  rw [show ((xs.length : Int)).toNat = xs.length by simp]
  refine ⟨by simp; unfold big; omega, ?_⟩
  refine forL_inv (fun i σ Z => ∃ L F, σ = [some (.ref d), some (.ref r), none, some (.ref lf), some (.ref fd)] ∧ SubX d h Z ∧ DrP d s Z ∧ Z lf = some (.lst L) ∧ Z fd = some (.lst F) ∧ (F ++ L).Perm xs ∧ F.length = i) ?_ ?_ ?_
  · refine ⟨xs, [], rfl, ((SubX.refl d h).new nlf).new nfd, ?_, hup_of (Ne.symm fl) hup_same, hup_same, List.Perm.refl _, rfl⟩
    exact dp.to dl0 (((SubX.refl d h).new nlf).new nfd) (hup_of (Ne.symm fdd) (hup_of (Ne.symm ld) el0))
  · clear dp nfd
    rintro i x σ Z K e ⟨L, F, rfl, sx, dp, eL, eF, pm, fi⟩ kk
    have il : i < xs.length := by
      by_cases z : i < xs.length
      · exact z
      · rw [List.getElem?_eq_none (by simp; omega)] at e; cases e
    have pl := pm.length_eq
    rw [List.length_append] at pl
    refine ⟨trivial, ?_⟩
    (conv => whnf)
    rw [eF]
    (conv => whnf)
    refine ⟨rfl, ?_⟩
    (conv => whnf)
    rw [eL]
    (conv => whnf)
    refine ⟨rfl, ?_⟩
    (conv => whnf)
    rw [itemsOf_l eL]
    (conv => whnf)
    refine draw_go L.length (SubX.refl d Z) dp (by omega) (by omega) ?_
    intro v l Z2 vl dl dp2 sx2 el eZ
    rw [eZ]; clear eZ
    (conv => whnf)
    have eL2 := sx2 lf _ ld eL
    have eF2 := sx2 fd _ fdd eF
    rw [eL2]
    (conv => whnf)
    rw [show ixD L.length (v : Int) = some v from by unfold ixD; rw [if_pos (by omega), if_pos (by omega)]; simp]
    (conv => whnf)
    rw [List.getElem?_eq_getElem vl]
    (conv => whnf)
    refine ⟨⟨by omega, by omega⟩, ?_⟩
    (conv => whnf)
    rw [hup_of fl eF2]
    (conv => whnf)
    refine ⟨by unfold big; omega, ?_⟩
    (conv => whnf)
    have sxn : SubX d h (hup (hup Z2 lf (.lst (L.eraseIdx v))) fd (.lst (F ++ [L[v]]))) := fun a c n ea => by
      have a1 : a ≠ lf := fun z => by rw [z, nlf] at ea; cases ea
      have a2 : a ≠ fd := fun z => by rw [z, nfd'] at ea; cases ea
      rw [hup_ne a2, hup_ne a1]
      exact SubX.trans sx sx2 a c n ea
    refine kk _ _ [some (.ref d), some (.ref r), none, some (.ref lf), some (.ref fd)] _ (.same (.same (.drop (.same (.same .nil))))) (SubH.refl _) ⟨L.eraseIdx v, F ++ [L[v]], rfl, ?_, ?_, hup_of (Ne.symm fl) hup_same, hup_same, ?_, by simp [fi]⟩
    · exact sxn
    · exact ⟨sd, ⟨xs0, sxn s _ sd ex0⟩, ⟨l, hup_of (Ne.symm fdd) (hup_of (Ne.symm ld) el), dl⟩⟩
    · refine List.Perm.trans ?_ pm
      rw [List.append_assoc]
      refine List.Perm.append_left F ?_
      exact erase_perm vl
  · rintro σ Z ⟨L, F, rfl, sx, dp, eL, eF, pm, fi⟩
    refine ⟨trivial, ?_⟩
    (conv => whnf)
    rw [itemsOf_l eF]
    (conv => whnf)
    obtain ⟨l, el, dl⟩ := dp.l
    have fi : F.length = xs.length := by simpa using fi
    have pl := pm.length_eq
    rw [List.length_append] at pl
    have : L = [] := List.length_eq_zero_iff.mp (by omega)
    subst this
    rw [List.append_nil] at pm
    exact ⟨_, SubX.to' sx el, q F l pm dl⟩
/-- within itself, one less deep -/
def Csame (bt : Bits) (m : Nat) : Ctx := { C40 bt with fn := fun x => if x = "_law_same" then some (S_law_sameN m) else (C40 bt).fn x }
theorem p_law_same0 {C : Ctx} : Keeps bt C b_law_same N_law_same.length 2 (S_law_sameN 0) := by
  rintro ds h Q E ⟨d, rfl, pd, q⟩
  refine ⟨rfl, ?_⟩
  cases d with
  | non => (conv => whnf); exact ⟨_, SubH.refl _, q⟩
  | bl b => (conv => whnf); exact ⟨h, SubH.refl h, by rw [decide_eq_true rfl]; exact q⟩
  | int i => (conv => whnf); exact ⟨h, SubH.refl h, by rw [decide_eq_true rfl]; exact q⟩
  | str x => (conv => whnf); exact ⟨h, SubH.refl h, by rw [decide_eq_true rfl]; exact q⟩
  | _ => exact pd.elim
theorem p_law_same {C : Ctx} {n : Nat} (hC : C.fn "_law_same" = some (S_law_sameN n)) : Keeps bt C b_law_same N_law_same.length 2 (S_law_sameN (n + 1)) := by
  rintro ds h Q E ⟨d, rfl, pd, q⟩
  refine ⟨rfl, ?_⟩
  cases d with
  | non => (conv => whnf); exact ⟨_, SubH.refl _, q⟩
  | bl b => (conv => whnf); exact ⟨h, SubH.refl h, by rw [decide_eq_true rfl]; exact q⟩
  | int i => (conv => whnf); exact ⟨h, SubH.refl h, by rw [decide_eq_true rfl]; exact q⟩
  | str x => (conv => whnf); exact ⟨h, SubH.refl h, by rw [decide_eq_true rfl]; exact q⟩
  | tup xs =>
    obtain ⟨lx, px⟩ := pd
    (conv => whnf)
    rw [decide_eq_true rfl]
    (conv => whnf)
    refine ⟨⟨by omega, by unfold big; unfold big at lx; omega⟩, ?_⟩
    (conv => whnf)
    rw [show ((xs.length : Int)).toNat = xs.length by simp]
    refine ⟨by simpa using lx, lcL_pure nD nD (fun _ => false) trivial (fun a ha => ⟨_, rfl, fun K z => ?_, fun c => (nomatch c)⟩) ?_⟩
    · rw [List.mem_range] at ha
      have e : atD xs (a : Int) = some xs[a] := by unfold atD; rw [if_pos (by omega)]; simpa using List.getElem?_eq_getElem ha
      (conv => whnf)
      rw [e]
      (conv => whnf)
      rw [e]
      (conv => whnf)
      rw [hC]
      (conv => whnf)
      exact ⟨xs[a], rfl, px _ (List.getElem_mem ha), z⟩
    · rw [List.filter_eq_nil_iff.mpr (fun _ _ => Bool.false_ne_true)]
      (conv => whnf)
      exact ⟨_, SubH.refl _, q⟩
  | _ => exact pd.elim
end K40
end

section
set_option Elab.async false
set_option linter.all false
set_option maxRecDepth 100000
set_option maxHeartbeats 4000000
/-! K40w16: the walk: a block done plainly. -/
namespace K40
open PySem (Str Addr)
open AR
variable {bt : Bits}
theorem getD_map8 (f : Nat → Int) {r : Nat} (h : r < 8) : ((List.range 8).map f).getD r 0 = f r := by
  rw [List.getD_eq_getElem?_getD, List.getElem?_map, List.getElem?_range h]; rfl
theorem ws_words {b : Blk} {rs : List Int} {held : Nat → Int} {k : Nat} (ok : (at! b k).ok) : wsOf (at! b k) (regsAt b rs held k) = words b rs held k := by
  unfold wsOf words regsAt
  apply List.map_congr_left
  intro r hr
  exact getD_map8 _ (rdf_ok ok hr)
theorem nm_succ (b : Blk) (k r : Nat) (h : k < b.length) : nm b (k + 1) r = if (at! b k).wr = r ∧ r ≠ 0 then .made k else nm b k r := by
  rw [nm_of, nm_of, lw_succ b k r h]
  by_cases c : (at! b k).wr = r ∧ r ≠ 0
  · rw [if_pos c, if_pos c]; rfl
  · rw [if_neg c, if_neg c]
theorem val_old {b : Blk} {rs : List Int} {held held' : Nat → Int} {k r : Nat} (h : ∀ i, i < k → held' i = held i) : val rs held' (nm b k r) = val rs held (nm b k r) := by
  rw [nm_of]
  cases e : lw b k r with
  | none => rfl
  | some i => exact h i (lw_lt e).1
theorem wr8 {o : Op} (h : o.ok) : o.wr < 8 := by cases o <;> simp [Op.ok] at h <;> simp [Op.wr, Op.wrs] <;> omega
theorem regs_succ {b : Blk} {rs : List Int} {held : Nat → Int} {k : Nat} {mk : Option Int} (hk : k < b.length) (ok : (at! b k).ok) :
    regsOf (at! b k) (regsAt b rs held k) mk = regsAt b rs (if (at! b k).wr ≠ 0 then fun i => if i = k then mk.getD 0 else held i else held) (k + 1) := by
  unfold regsOf
  by_cases c : (at! b k).wr = 0
  · rw [if_neg (fun z => z c), if_neg (fun z => z c)]
    unfold regsAt
    apply List.map_congr_left
    intro r _
    rw [nm_succ b k r hk, if_neg (fun z => z.2 (z.1.symm.trans c))]
  · rw [if_pos c, if_pos c]
    apply List.ext_getElem?
    intro r
    unfold regsAt
    by_cases h8 : r < 8
    · rw [List.getElem?_set, List.getElem?_map, List.getElem?_map, List.getElem?_range h8]
      simp only [Option.map_some, List.length_map, List.length_range]
      rw [nm_succ b k r hk]
      by_cases e : (at! b k).wr = r
      · rw [if_pos e, if_pos (by rw [e]; exact h8), if_pos ⟨e, fun z => c (e.trans z)⟩]
        show _ = some (if k = k then mk.getD 0 else held k)
        rw [if_pos rfl]
      · rw [if_neg e, if_neg (fun z => e z.1)]
        exact congrArg some (val_old fun i hi => if_neg (by omega)).symm
    · rw [List.getElem?_eq_none (by simp; omega), List.getElem?_eq_none (by simp; omega)]
theorem act_go {o : Op} {k : Nat} {ws : List Int} {m m' : Mx} {mk : Option Int} {go : Option Gt} (h : o.xfer = false) (e : act bt o k ws m = some (mk, go, m')) : go = none := by
  cases o with
  | work w d a b =>
    match ws with
    | [x, y] =>
      unfold act at e
      dsimp only at e
      cases ew : wkF bt w x y with
      | none => rw [ew] at e; cases e
      | some z => rw [ew] at e; cases e; rfl
    | [] => cases e
    | [x] => cases e
    | x :: y :: z :: l => cases e
  | load d a n =>
    match ws with
    | [x] =>
      unfold act at e
      dsimp only at e
      by_cases c : ((x + n) % 65536) < m.mem.length
      · rw [if_pos c] at e; cases e; rfl
      · rw [if_neg c] at e; cases e
    | [] => cases e
    | x :: y :: l => cases e
  | store a n s =>
    match ws with
    | [x, y] =>
      unfold act at e
      dsimp only at e
      by_cases c : ((x + n) % 65536) < m.mem.length
      · rw [if_pos c] at e; cases e; rfl
      · rw [if_neg c] at e; cases e
    | [] => cases e
    | [x] => cases e
    | x :: y :: z :: l => cases e
  | tell a =>
    match ws with
    | [x] => cases e; rfl
    | [] => cases e
    | x :: y :: l => cases e
  | set d n =>
    match ws with
    | [] => cases e; rfl
    | x :: l => cases e
  | _ => cases h
theorem range_take {n k : Nat} (h : k ≤ n) : (List.range n).take k = List.range k := by
  rw [List.take_range]; congr 1; omega
theorem runs_succ {b : Blk} {rs : List Int} {s0 s : Hs} {k : Nat} (r : runs bt b rs s0 (List.range k) = some s) : runs bt b rs s0 (List.range (k + 1)) = stp bt b rs s k := by
  have e : (List.range (k + 1))[k]? = some k := List.getElem?_range (by omega)
  have := runs_take (bt := bt) (b := b) (rs := rs) (s0 := s0) (s := s) e (by rw [range_take (by omega)]; exact r)
  rw [range_take (Nat.le_refl _)] at this
  exact this
theorem runs_stop {b : Blk} {rs : List Int} {s0 : Hs} {n k : Nat} (h : k ≤ n) (r : runs bt b rs s0 (List.range k) = none) : runs bt b rs s0 (List.range n) = none := by
  refine runs_none (k := k) ?_
  rw [range_take h]; exact r
/-- the block, and stops behind it -/
def padded (b : Blk) : Blk := b ++ List.replicate (60 - b.length) .stop
theorem padded_at {b : Blk} {k : Nat} (h : k < b.length) : at! (padded b) k = at! b k := by
  unfold at! padded
  rw [List.getD_eq_getElem?_getD, List.getElem?_append_left h, ← List.getD_eq_getElem?_getD]
theorem padded_dat (b : Blk) (k : Int) (e : k = 60 - b.length) (h : b.length ≤ 60) : D.tup (b.map Op.dat ++ (List.replicate k.toNat [D.tup [.str "stop"]]).flatten) = blkD (padded b) := by
  unfold blkD padded
  rw [List.map_append, List.map_replicate]
  congr 2
  have : k.toNat = 60 - b.length := by omega
  rw [this]
  induction 60 - b.length with
  | zero => rfl
  | succ n ih => rw [List.replicate_succ, List.flatten_cons, List.replicate_succ, ih]; rfl
theorem p_law_done (hb : BitsOk bt) : Keeps bt (C40 bt) b_law_done N_law_done.length 3 (S_law_done bt) := by
  rintro ds h Q E ⟨b, rs, mem, rfl, bk, few, rk, mk, q⟩
  refine ⟨rfl, ?_⟩
  have one := bk.one
  have mh := mk.hi
  (conv => whnf)
  rw [List.length_map]
  refine ⟨⟨by simp, (Nat.le_of_ble_eq_true rfl), by omega, by omega⟩, ?_⟩
  (conv => whnf)
  refine ⟨⟨by rw [List.length_map]; unfold big; omega, ?_⟩, ?_⟩
  · have : (List.replicate (60 - (b.length : Int)).toNat [D.tup [D.str (Str.ofString "stop")]]).flatten.length ≤ 60 := by simp
    unfold big
    omega
  have ep := padded_dat b (60 - (b.length : Int)) rfl (by omega)
  (conv => whnf)
  rw [show D.tup (b.map Op.dat ++ (List.replicate (60 - (b.length : Int)).toNat [D.tup [D.str (Str.ofString "stop")]]).flatten) = _ from ep]
  refine ⟨mem, rfl, fun st r0 c t nr nc cr nt tr tc np pr pc pt => ?_⟩
  (conv => whnf)
  intro r nr2
  obtain ⟨rst, nr3⟩ := hup_none nr2
  obtain ⟨rt, nr4⟩ := hup_none nr3
  obtain ⟨rc, nr5⟩ := hup_none nr4
  obtain ⟨rr0, nr6⟩ := hup_none nr5
  (conv => whnf)
  rw [hup_of (Ne.symm rst) hup_same]
  (conv => whnf)
  have padl : (padded b).length = 60 := by unfold padded; simp; omega
  refine whlL_inv (fun m σ Z => σ = [some (blkD b), some (intsD rs), some (intsD mem), some (blkD (padded b)), some (.ref st)] ∧ SubH h Z ∧
    ((∃ k s pcD finD, k ≤ b.length ∧ m = b.length - k + 1 ∧ runs bt b rs (hs0 b mem) (List.range k) = some s ∧ Ms Z st r c t pcD (regsAt b rs s.held k) s.m (k : Int) finD ∧ (∀ i, wordI (s.held i)) ∧ wordsI s.m.mem ∧ wordsI s.m.told ∧ s.m.mem.length = mem.length ∧ s.m.told.length ≤ k ∧
      (k < b.length → pcD = nD k ∧ finD = .non ∧ s.after = .to b.length) ∧ (k = b.length → (∃ v, s.after = .to v ∧ pcD = .int v ∧ finD = .non) ∨ ∃ j, s.after = .stopped j ∧ finD = .tup [.str "stopped", nD j])) ∨
     (runs bt b rs (hs0 b mem) (List.range b.length) = none ∧ ∃ x1 x2 x3 x4 x5 y1 y2, Z st = some (.lst [x1, x2, x3, x4, x5, .tup [.str "trap", y1, y2]])))) ?_ (m := b.length + 1) ?_
  · rintro m σ Z K ⟨rfl, sb, inv⟩ kk
    rcases inv with ⟨k, s, pcD, finD, kn, rfl, er, ms, hw, wm, wt, lm, lt, i1, i2⟩ | ⟨er, x1, x2, x3, x4, x5, y1, y2, es⟩
    · by_cases c1 : k < b.length
      · obtain ⟨rfl, rfl, af⟩ := i1 c1
        (conv => whnf)
        rw [ms.hs]
        (conv => whnf)
        rw [ms.hs]
        (conv => whnf)
        rw [List.length_map, dec_lt, decide_eq_true c1]
        (conv => whnf)
        have ok := at_ok bk c1
        have mo : MsOk (padded b) k (regsAt b rs s.held k) s.m := {
          len := padl
          ok := by rw [padded_at c1]; exact ok
          pc := by omega
          rl := by simp [regsAt]
          w := fun x hx => by
            obtain ⟨r', _, rfl⟩ := List.mem_map.mp hx
            cases nm b k r' with
            | was z => exact word_get rk.ok z
            | made z => exact hw z
          mem := by omega
          told := by omega }
        refine ⟨padded b, st, r, c, t, k, regsAt b rs s.held k, s.m, k, rfl, ms, mo, ?_⟩
        rw [padded_at c1, ws_words ok]
        have es : stp bt b rs s k = match act bt (at! b k) k (words b rs s.held k) s.m with
          | none => none
          | some (mk, go, m) => some ⟨if (at! b k).wr ≠ 0 then fun i => if i = k then mk.getD 0 else s.held i else s.held, m, go.getD s.after⟩ := rfl
        have er2 := runs_succ er
        rw [es] at er2
        cases ea : act bt (at! b k) k (words b rs s.held k) s.m with
        | none =>
          rw [ea] at er2
          intro w d
          (conv => whnf)
          refine kk 0 _ _ _ _ (by omega) (SubS.refl _) (SubH.refl _) ⟨rfl, sb.ow np, .inr ⟨runs_stop (by omega) er2, _, _, _, _, _, _, _, hup_same⟩⟩
        | some z =>
          obtain ⟨mk', go, m'⟩ := z
          rw [ea] at er2
          intro d
          (conv => whnf)
          have wi : wordsI (words b rs s.held k) := fun w hw' => by
            obtain ⟨r', _, rfl⟩ := List.mem_map.mp hw'
            cases nm b k r' with
            | was z => exact word_get rk.ok z
            | made z => exact hw z
          have ak := act_ok hb ok (by omega) wi wm wt (by unfold words; rw [List.length_map]) ea
          have sr := ms.sr
          have sc := ms.sc
          have st' := ms.st
          refine kk (b.length - (k + 1) + 1) _ _ _ _ (by omega) (SubS.refl _) (SubH.refl _) ⟨rfl, (((sb.ow nr6).ow nc).ow nt).ow np, .inl ⟨k + 1, _, pcOf k go, finOf go, c1, rfl, er2, ?_, ?_, ak.mem, ak.told, ak.len.trans lm, Nat.le_trans ak.tl (by omega), ?_, ?_⟩⟩
          · rw [regs_succ c1 ok]
            exact { hs := hup_same
                    hr := hup_of (Ne.symm sr) (hup_of ms.rt (hup_of ms.rc hup_same))
                    hc := hup_of (Ne.symm sc) (hup_of ms.ct hup_same)
                    ht := hup_of (Ne.symm st') hup_same
                    sr := sr, sc := sc, st := st', rc := ms.rc, rt := ms.rt, ct := ms.ct }
          · intro i
            show wordI ((if (at! b k).wr ≠ 0 then fun i => if i = k then mk'.getD 0 else s.held i else s.held) i)
            by_cases cw : (at! b k).wr = 0
            · rw [if_neg (fun z => z cw)]; exact hw i
            · rw [if_pos cw]
              obtain ⟨z, ez⟩ := ak.wr cw
              show wordI (if i = k then mk'.getD 0 else s.held i)
              by_cases ci : i = k
              · rw [if_pos ci, ez]; exact ak.made z ez
              · rw [if_neg ci]; exact hw i
          · intro hk1
            have xf : (at! b k).xfer = false := by
              refine bk.last _ ?_
              rw [List.dropLast_eq_take]
              have : (b.take (b.length - 1))[k]? = some (at! b k) := by rw [List.getElem?_take_of_lt (by omega)]; exact get_at c1
              exact List.mem_of_getElem? this
            have := act_go xf ea
            subst this
            exact ⟨rfl, rfl, af⟩
          · intro hk1
            cases go with
            | none => exact .inl ⟨b.length, af, by show nD (k + 1) = _; rw [hk1], rfl⟩
            | some g =>
              cases g with
              | to v => exact .inl ⟨v, rfl, rfl, rfl⟩
              | stopped j => exact .inr ⟨j, rfl, rfl⟩
      · have ke : k = b.length := by omega
        subst ke
        have er' : runD bt b rs mem (List.range b.length) = .tup [intsD (regsAt b rs s.held b.length), intsD s.m.mem, intsD s.m.told, s.after.dat] := by unfold runD; rw [er]; rfl
        rw [er'] at q
        rcases i2 rfl with ⟨v, e1, rfl, rfl⟩ | ⟨j, e1, rfl⟩
        · rw [e1] at q
          (conv => whnf)
          rw [ms.hs]
          (conv => whnf)
          rw [ms.hs]
          (conv => whnf)
          rw [List.length_map, dec_lt, decide_eq_false c1]
          (conv => whnf)
          rw [ms.hs]
          (conv => whnf)
          rw [ms.hs]
          (conv => whnf)
          rw [itemsOf_l ms.hr]
          (conv => whnf)
          rw [ms.hs]
          (conv => whnf)
          rw [itemsOf_l ms.hc]
          (conv => whnf)
          rw [ms.hs]
          (conv => whnf)
          rw [itemsOf_l ms.ht]
          (conv => whnf)
          rw [ms.hs]
          (conv => whnf)
          rw [ms.hs]
          (conv => whnf)
          exact ⟨h, sb, q⟩
        · rw [e1] at q
          (conv => whnf)
          rw [ms.hs]
          (conv => whnf)
          rw [ms.hs]
          (conv => whnf)
          rw [ms.hs]
          (conv => whnf)
          rw [ms.hs]
          (conv => whnf)
          rw [itemsOf_l ms.hr]
          (conv => whnf)
          rw [ms.hs]
          (conv => whnf)
          rw [itemsOf_l ms.hc]
          (conv => whnf)
          rw [ms.hs]
          (conv => whnf)
          rw [itemsOf_l ms.ht]
          (conv => whnf)
          rw [ms.hs]
          (conv => whnf)
          rw [ms.hs]
          (conv => whnf)
          exact ⟨h, sb, q⟩
    · have er' : runD bt b rs mem (List.range b.length) = .non := by unfold runD; rw [er]; rfl
      rw [er'] at q
      (conv => whnf)
      rw [es]
      (conv => whnf)
      rw [es]
      (conv => whnf)
      rw [es]
      (conv => whnf)
      exact ⟨h, sb, q⟩
  · refine ⟨rfl, ?_, .inl ⟨0, hs0 b mem, nD 0, .non, Nat.zero_le _, by omega, rfl, ?_, fun i => ⟨Int.le_refl 0, show (0 : Int) < 65536 by decide⟩, mk.ok, fun x hx => (nomatch hx), rfl, Nat.le_refl _, fun _ => ⟨rfl, rfl, rfl⟩, fun z => by omega⟩⟩
    · exact (((((SubH.refl h).ow nr).ow nc).ow nt).ow np).ow nr6 |>.ow np
    · have er : regsAt b rs (hs0 b mem).held 0 = rs := by
        apply List.ext_getElem?
        intro r'
        unfold regsAt
        by_cases h8 : r' < 8
        · rw [List.getElem?_map, List.getElem?_range h8, List.getElem?_eq_getElem (by rw [rk.len]; exact h8)]
          show some (rs.getD r' 0) = _
          rw [List.getD_eq_getElem?_getD, List.getElem?_eq_getElem (by rw [rk.len]; exact h8)]; rfl
        · rw [List.getElem?_eq_none (by simp; omega), List.getElem?_eq_none (by rw [rk.len]; omega)]
      rw [er]
      exact { hs := hup_same
              hr := hup_of rst hup_same
              hc := hup_of (Ne.symm pc) (hup_of (Ne.symm rc) (hup_of (Ne.symm pc) (hup_of (Ne.symm tc) hup_same)))
              ht := hup_of (Ne.symm pt) (hup_of (Ne.symm rt) (hup_of (Ne.symm pt) hup_same))
              sr := Ne.symm rst, sc := pc, st := pt, rc := rc, rt := rt, ct := Ne.symm tc }
end K40
end

section
set_option Elab.async false
set_option linter.all false
set_option maxRecDepth 100000
set_option maxHeartbeats 4000000
/-! K40w17: the walk: the law. -/
namespace K40
open PySem (Str Addr)
open AR
variable {bt : Bits}
/-- the law's heap -/
structure Ld (h : Hd) (d s : Addr) (Z : Hd) : Prop where
  sub : SubH h Z
  hd : h d = none
  hs : h s = none
  dp : DrP d s Z
section
variable {h Z : Hd} {d s p : Addr}
theorem Ld.new (L : Ld h d s Z) (n : Z p = none) (c : Cl) : Ld h d s (hup Z p c) := by
  obtain ⟨l, el, dl⟩ := L.dp.l
  exact ⟨L.sub.new n, L.hd, L.hs, L.dp.to dl ((SubX.refl d Z).new n) (hup_of (new_ne n el) el)⟩
theorem Ld.draw (L : Ld h d s Z) {l : List D} (dl : DrL s l) : Ld h d s (hup Z d (.lst l)) :=
  ⟨L.sub.ow L.hd, L.hd, L.hs, L.dp.to dl ((SubX.refl d Z).hd) hup_same⟩
theorem Ld.ne (L : Ld h d s Z) (n : Z p = none) : p ≠ d := by
  obtain ⟨l, el, dl⟩ := L.dp.l
  exact Ne.symm (new_ne n el)
end
/-! ### plain data -/
theorem plain_nm (n : Nat) (x : Nm) : plainD (n + 1) x.dat := by
  cases x <;> exact ⟨Nat.le_of_ble_eq_true rfl, fun y hy => by simp at hy; rcases hy with rfl | rfl <;> (cases n <;> trivial)⟩
theorem plain_map {α : Type} {n : Nat} {f : α → D} {xs : List α} (l : xs.length ≤ big) (h : ∀ x ∈ xs, plainD n (f x)) : plainD (n + 1) (.tup (xs.map f)) :=
  ⟨by rw [List.length_map]; exact l, fun y hy => by obtain ⟨x, hx, rfl⟩ := List.mem_map.mp hy; exact h x hx⟩
theorem plain_pr (n : Nat) (p : Pr) : plainD (n + 1) p.dat :=
  ⟨Nat.le_of_ble_eq_true rfl, fun y hy => by simp at hy; rcases hy with rfl | rfl | rfl <;> (cases n <;> trivial)⟩
theorem plain_prs {ps : List Pr} (l : ps.length ≤ 10000) : plainD 8 (prsD ps) := plain_map (by unfold big; omega) fun p _ => plain_pr 6 p
theorem plain_ren {b : Blk} (few : b.length ≤ 24) : plainD 8 (renD b) := by
  refine plain_map (by simp; unfold big; omega) fun k _ => ⟨Nat.le_of_ble_eq_true rfl, fun y hy => ?_⟩
  simp only [List.mem_cons, List.not_mem_nil, or_false] at hy
  rcases hy with rfl | rfl
  · exact plain_map (by have := rdf_len (at! b k); unfold big; omega) fun r _ => plain_nm 4 _
  · split
    · exact plain_nm 5 _
    · trivial
theorem plain_beh (b : Blk) : plainD 8 (behD b) := plain_map (by simp; unfold big; omega) fun r _ => plain_nm 6 _
theorem plain_ints {n : Nat} {xs : List Int} (l : xs.length ≤ big) : plainD (n + 1) (intsD xs) := plain_map l fun x _ => by cases n <;> trivial
theorem act_len {o : Op} {k : Nat} {ws : List Int} {m m' : Mx} {mk : Option Int} {go : Option Gt} (wl : ws.length = o.rdf.length) (e : act bt o k ws m = some (mk, go, m')) : m'.mem.length = m.mem.length ∧ m'.told.length ≤ m.told.length + 1 := by
  cases o with
  | work w d a b =>
    match ws, wl with
    | [x, y], _ =>
      unfold act at e
      dsimp only at e
      cases ew : wkF bt w x y with
      | none => rw [ew] at e; cases e
      | some z => rw [ew] at e; cases e; exact ⟨rfl, by omega⟩
  | load d a n =>
    match ws, wl with
    | [x], _ =>
      unfold act at e
      dsimp only at e
      by_cases c : ((x + n) % 65536) < m.mem.length
      · rw [if_pos c] at e; cases e; exact ⟨rfl, by omega⟩
      · rw [if_neg c] at e; cases e
  | store a n s =>
    match ws, wl with
    | [x, y], _ =>
      unfold act at e
      dsimp only at e
      by_cases c : ((x + n) % 65536) < m.mem.length
      · rw [if_pos c] at e; cases e; exact ⟨by simp, by simp⟩
      · rw [if_neg c] at e; cases e
  | tell a =>
    match ws, wl with
    | [x], _ => cases e; exact ⟨rfl, by simp⟩
  | set d n =>
    match ws, wl with
    | [], _ => cases e; exact ⟨rfl, by omega⟩
  | jump t =>
    match ws, wl with
    | [], _ => cases e; exact ⟨rfl, by omega⟩
  | link d t =>
    match ws, wl with
    | [], _ => cases e; exact ⟨rfl, by omega⟩
  | stop =>
    match ws, wl with
    | [], _ => cases e; exact ⟨rfl, by omega⟩
  | br c a b t =>
    match ws, wl with
    | [x, y], _ => cases e; exact ⟨rfl, by omega⟩
  | back a =>
    match ws, wl with
    | [x], _ =>
      unfold act at e
      dsimp only at e
      by_cases c : x < 60
      · rw [if_pos c] at e; cases e; exact ⟨rfl, by omega⟩
      · rw [if_neg c] at e; cases e
theorem runs_len {b : Blk} {rs : List Int} : ∀ (xs : List Nat) (s s' : Hs), runs bt b rs s xs = some s' → s'.m.mem.length = s.m.mem.length ∧ s'.m.told.length ≤ s.m.told.length + xs.length
  | [], s, s', e => by cases e; exact ⟨rfl, by simp⟩
  | x :: xs, s, s', e => by
    rw [runs_cons] at e
    cases e1 : stp bt b rs s x with
    | none => rw [e1] at e; cases e
    | some s1 =>
      rw [e1] at e
      have ih := runs_len xs s1 s' e
      have e2 : stp bt b rs s x = match act bt (at! b x) x (words b rs s.held x) s.m with
        | none => none
        | some (mk, go, m) => some ⟨updH b x mk s.held, m, go.getD s.after⟩ := rfl
      rw [e2] at e1
      cases ea : act bt (at! b x) x (words b rs s.held x) s.m with
      | none => rw [ea] at e1; cases e1
      | some z =>
        obtain ⟨mk, go, m'⟩ := z
        rw [ea] at e1
        cases e1
        have al := act_len (words_len b rs s.held x) ea
        simp only [List.length_cons]
        exact ⟨ih.1.trans al.1, by have := ih.2; have := al.2; simp only at *; omega⟩
theorem plain_run {b : Blk} {rs mem : List Int} {xs : List Nat} (lm : mem.length ≤ 64) (lx : xs.length ≤ 1000) : plainD 8 (runD bt b rs mem xs) := by
  unfold runD
  cases e : runs bt b rs (hs0 b mem) xs with
  | none => trivial
  | some s =>
    have l := runs_len xs _ s e
    have l1 : s.m.mem.length = mem.length := l.1
    have l2 : s.m.told.length ≤ 0 + xs.length := l.2
    refine ⟨Nat.le_of_ble_eq_true rfl, fun y hy => ?_⟩
    simp only [List.mem_cons, List.not_mem_nil, or_false] at hy
    rcases hy with rfl | rfl | rfl | rfl
    · exact plain_ints (by simp [regsAt]; unfold big; omega)
    · exact plain_ints (by unfold big; omega)
    · exact plain_ints (by unfold big; omega)
    · cases s.after with
      | to n => trivial
      | stopped n => exact ⟨Nat.le_of_ble_eq_true rfl, fun y hy => by simp at hy; rcases hy with rfl | rfl <;> trivial⟩
theorem perm_nats {ys : List D} {n : Nat} (h : ys.Perm ((List.range n).map nD)) : ∃ os : List Nat, ys = os.map nD ∧ os.Perm (List.range n) := by
  let g : D → Nat := fun x => match x with
    | .int i => i.toNat
    | _ => 0
  refine ⟨ys.map g, ?_, ?_⟩
  · rw [List.map_map]
    have : ∀ y ∈ ys, (nD ∘ g) y = y := fun y hy => by
      obtain ⟨k, _, rfl⟩ := List.mem_map.mp (h.mem_iff.mp hy)
      show D.int (((k : Int).toNat : Nat) : Int) = D.int (k : Int)
      congr 1
    exact ((List.map_congr_left (g := id) this).trans (List.map_id _)).symm
  · have := h.map g
    rw [List.map_map] at this
    have e : (List.range n).map (g ∘ nD) = List.range n := by
      refine (List.map_congr_left fun k _ => ?_).trans (List.map_id _)
      show ((k : Int)).toNat = k
      simp
    rw [e] at this
    exact this
theorem fl_ord (n : Nat) (xs : List Nat) : fl0 (n + 1) (ordD xs) = some (Fl.tup (xs.map fun (k : Nat) => Fl.num (k : Int))) := by
  have : ∀ l : List Nat, fl0s n (l.map nD) = some (l.map fun (k : Nat) => Fl.num (k : Int)) := by
    intro l
    induction l with
    | nil => rfl
    | cons a l ih =>
      show (match fl0 n (nD a), fl0s n (l.map nD) with
        | some y, some ys => some (y :: ys)
        | _, _ => none) = _
      rw [ih]
      cases n <;> rfl
  show (fl0s n (xs.map nD)).map Fl.tup = _
  rw [this]; rfl
theorem fl_ords (h : Hd) (xss : List (List Nat)) : fl1s h (xss.map ordD) = some (xss.map fun xs => Fl.tup (xs.map fun (k : Nat) => Fl.num (k : Int))) := by
  induction xss with
  | nil => rfl
  | cons a l ih =>
    show (match fl1 h (ordD a), fl1s h (l.map ordD) with
      | some y, some ys => some (y :: ys)
      | _, _ => none) = _
    rw [ih, show fl1 h (ordD a) = fl0 8 (ordD a) from rfl, fl_ord]
    rfl
theorem nums_inj {xs ys : List Nat} (h : (xs.map fun (k : Nat) => Fl.num (k : Int)) = ys.map fun (k : Nat) => Fl.num (k : Int)) : xs = ys := by
  have h2 : (xs.map fun (k : Nat) => (k : Int)).map Fl.num = (ys.map fun (k : Nat) => (k : Int)).map Fl.num := by rw [List.map_map, List.map_map]; exact h
  have := congrArg (List.map Int.toNat) (map_num_inj h2)
  rwa [cast_back, cast_back] at this
theorem in_ords (xs : List Nat) (xss : List (List Nat)) : inL (Fl.tup (xs.map fun (k : Nat) => Fl.num (k : Int))) (xss.map fun xs => Fl.tup (xs.map fun (k : Nat) => Fl.num (k : Int))) = decide (xs ∈ xss) := by
  unfold inL
  rw [Bool.eq_iff_iff, List.any_eq_true, decide_eq_true_eq]
  constructor
  · rintro ⟨z, hz, e⟩
    obtain ⟨ys, hy, rfl⟩ := List.mem_map.mp hz
    have e := of_decide_eq_true e
    simp only [Fl.tup.injEq] at e
    rw [← nums_inj e]; exact hy
  · intro h
    exact ⟨_, List.mem_map_of_mem h, decide_eq_true rfl⟩
theorem in_over (w : Pw) : inL (.str w.s) [.str "over", .str "again"] = !w.true := by cases w <;> rfl
theorem fl_two (h : Hd) (ps : List Pr) : fl1s h (ps.map fun q => D.tup [nD q.1, nD q.2.1]) = some (ps.map fun q => Fl.tup [.num (q.1 : Int), .num (q.2.1 : Int)]) := by
  induction ps with
  | nil => rfl
  | cons a l ih =>
    show (match fl1 h (D.tup [nD a.1, nD a.2.1]), fl1s h (l.map fun q => D.tup [nD q.1, nD q.2.1]) with
      | some y, some ys => some (y :: ys)
      | _, _ => none) = _
    rw [ih]; rfl
theorem in_two (i j : Nat) (ps : List Pr) : inL (Fl.tup [.num (i : Int), .num (j : Int)]) (ps.map fun q => Fl.tup [.num (q.1 : Int), .num (q.2.1 : Int)]) = ps.any fun q => decide (q.1 = i ∧ q.2.1 = j) := by
  unfold inL
  rw [List.any_map]
  congr 1
  funext q
  rw [Bool.eq_iff_iff]
  simp only [Function.comp, decide_eq_true_eq, Fl.tup.injEq, List.cons.injEq, Fl.num.injEq, and_true]
  omega
def prF (p : Pr) : Fl := .tup [.num (p.1 : Int), .num (p.2.1 : Int), .str p.2.2.s]
theorem fl_prs (ps : List Pr) : fl0 8 (prsD ps) = some (Fl.tup (ps.map prF)) := by
  have : fl0s 7 (ps.map Pr.dat) = some (ps.map prF) := by
    induction ps with
    | nil => rfl
    | cons a l ih =>
      show (match fl0 7 a.dat, fl0s 7 (l.map Pr.dat) with
        | some y, some ys => some (y :: ys)
        | _, _ => none) = _
      rw [ih]; rfl
  show (fl0s 7 (ps.map Pr.dat)).map Fl.tup = _
  rw [this]; rfl
theorem fl_otup (xss : List (List Nat)) : ∃ f, fl0 8 (.tup (xss.map ordD)) = some f := by
  have : ∃ fs, fl0s 7 (xss.map ordD) = some fs := by
    induction xss with
    | nil => exact ⟨[], rfl⟩
    | cons a l ih =>
      obtain ⟨fs, e⟩ := ih
      refine ⟨Fl.tup (a.map fun (k : Nat) => Fl.num (k : Int)) :: fs, ?_⟩
      show (match fl0 7 (ordD a), fl0s 7 (l.map ordD) with
        | some y, some ys => some (y :: ys)
        | _, _ => none) = _
      rw [e, show fl0 7 (ordD a) = _ from fl_ord 6 a]
  obtain ⟨fs, e⟩ := this
  exact ⟨.tup fs, by show (fl0s 7 (xss.map ordD)).map Fl.tup = _; rw [e]; rfl⟩
end K40
end

section
set_option Elab.async false
set_option linter.all false
set_option maxRecDepth 100000
set_option maxHeartbeats 4000000
/-! K40w18: the walk: the law. -/
namespace K40
open PySem (Str Addr)
open AR
variable {bt : Bits}
theorem p_law : Keeps bt (C40 bt) b_law N_law.length 1 S_law := by
  rintro ds h Q E ⟨ns, rfl, q⟩
  refine ⟨rfl, ?_⟩
  refine wp_cut (bt := bt) (C := C40 bt) (fun σ Z => ∃ d s, σ = [some (.rl (ns.map D.int)), some (.ref d), none, none, none, none, none, none, none, none, none, none, none, none, none, none, none, none, none, none, none, none] ∧ Ld h d s Z) ?_ ?_
  · intro K kk
    (conv => whnf)
    refine ⟨ns, rfl, fun d s h' sb hd hs dp => ?_⟩
    (conv => whnf)
    exact kk _ _ ⟨d, s, rfl, sb, hd, hs, dp⟩
  rintro σ Z ⟨d, s, rfl, L⟩
  refine wp_cut (bt := bt) (C := C40 bt) (fun σ Z => σ = [some (.rl (ns.map D.int)), some (.ref d), none, none, none, none, none, none, none, none, none, none, none, none, none, none, none, none, none, none, none, none] ∧ Ld h d s Z) ?_ ?_
  · intro K kk
    (conv => whnf)
    refine ⟨⟨by decide, by decide⟩, ?_⟩
    (conv => whnf)
    refine ⟨(Nat.le_of_ble_eq_true rfl), ?_⟩
    refine forL_inv (fun _ σ Z => σ = [some (.rl (ns.map D.int)), some (.ref d), none, none, none, none, none, none, none, none, none, none, none, none, none, none, none, none, none, none, none, none] ∧ Ld h d s Z) ⟨rfl, L⟩ ?_ ?_
    · clear L Z
      rintro i x σ Z K2 e ⟨rfl, L⟩ kk2
      refine ⟨trivial, ?_⟩
      refine wp_cut (bt := bt) (C := C40 bt) (fun σ Z => ∃ b tt, σ = [some (.rl (ns.map D.int)), some (.ref d), some (tt), some (blkD b), none, none, none, none, none, none, none, none, none, none, none, none, none, none, none, none, none, none] ∧ Ld h d s Z ∧ BlkOk b ∧ b.length ≤ 6) ?_ ?_
      · intro K3 kk3
        (conv => whnf)
        refine ⟨d, s, rfl, L.dp, fun b l bk b6 dl => ?_⟩
        (conv => whnf)
        exact kk3 _ _ ⟨b, x, rfl, L.draw dl, bk, b6⟩
      clear L Z
      rintro σ Z ⟨b, tt, rfl, L, bk, b6⟩
      have few := bk.few
      have one := bk.one
      refine wp_cut (bt := bt) (C := C40 bt) (fun σ Z => σ = [some (.rl (ns.map D.int)), some (.ref d), some (tt), some (blkD b), some (nD b.length), none, none, none, none, none, none, none, none, none, none, none, none, none, none, none, none, none] ∧ Ld h d s Z) ?_ ?_
      · intro K3 kk3
        (conv => whnf)
        rw [List.length_map]
        exact kk3 _ _ ⟨rfl, L⟩
      clear L Z
      rintro σ Z ⟨rfl, L⟩
      refine wp_cut (bt := bt) (C := C40 bt) (fun σ Z => ∃ u, σ = [some (.rl (ns.map D.int)), some (.ref d), some (tt), some (blkD b), some (nD b.length), some (.ref u), none, none, none, none, none, none, none, none, none, none, none, none, none, none, none, none] ∧ Ld h d s Z ∧ Z u = some (.lst []) ∧ u ≠ d ∧ s ≠ u ∧ h u = none) ?_ ?_
      · intro K3 kk3
        (conv => whnf)
        intro u nu
        (conv => whnf)
        obtain ⟨xs, ex⟩ := L.dp.xs
        exact kk3 _ _ ⟨u, rfl, L.new nu _, hup_same, L.ne nu, new_ne nu ex, L.sub.none nu⟩
      clear L Z
      rintro σ Z ⟨u, rfl, L, eu, ud, us, hu0⟩
      -- what is due
      let due : Nat → D := fun k => .tup [.tup ((at! b k).rdf.map fun r => (nm b k r).dat), if (at! b k).wr ≠ 0 then (Nm.made k).dat else .non]
      refine wp_cut (bt := bt) (C := C40 bt) (fun σ Z => σ = [some (.rl (ns.map D.int)), some (.ref d), some (tt), some (blkD b), some (nD b.length), some (.ref u), none, none, none, none, none, none, none, none, none, none, none, none, none, none, none, none] ∧ Ld h d s Z ∧ Z u = some (.lst ((List.range b.length).map due))) ?_ ?_
      · intro K3 kk3
        (conv => whnf)
        refine ⟨⟨by omega, by unfold big; omega⟩, ?_⟩
        (conv => whnf)
        rw [show ((b.length : Int)).toNat = b.length by simp]
        refine ⟨by simp; unfold big; omega, ?_⟩
        refine forL_inv (fun i σ Z => σ = [some (.rl (ns.map D.int)), some (.ref d), some (tt), some (blkD b), some (nD b.length), some (.ref u), none, none, none, none, none, none, none, none, none, none, none, none, none, none, none, none] ∧ Ld h d s Z ∧ Z u = some (.lst ((List.range i).map due))) ⟨rfl, L, eu⟩ ?_ ?_
        · clear L Z eu
          rintro k x σ Z K4 e ⟨rfl, L, eu⟩ kk4
          have kl : k < b.length := by
            by_cases z : k < b.length
            · exact z
            · rw [List.getElem?_eq_none (by simp; omega)] at e; cases e
          have ex : x = nD k := by
            rw [List.getElem?_map, List.getElem?_range kl] at e
            cases e; rfl
          subst ex
          refine ⟨trivial, ?_⟩
          (conv => whnf)
          rw [eu]
          (conv => whnf)
          refine ⟨rfl, ?_⟩
          (conv => whnf)
          rw [show atD (b.map Op.dat) (k : Int) = some (at! b k).dat from atD_map (get_at kl)]
          (conv => whnf)
          refine ⟨at! b k, rfl, fun p np => ?_⟩
          (conv => whnf)
          rw [hup_same]
          (conv => whnf)
          refine ⟨by rw [List.length_map]; have := rdf_len (at! b k); unfold big; omega, lcL_map nD (fun r => (nm b k r).dat) hup_same (fun r hr => ⟨_, rfl, fun K z => z, fun K z => ?_⟩) ?_⟩
          · (conv => whnf)
            exact ⟨b, k, r, rfl, ⟨few, by omega⟩, z⟩
          · (conv => whnf)
            rw [show atD (b.map Op.dat) (k : Int) = some (at! b k).dat from atD_map (get_at kl)]
            (conv => whnf)
            refine ⟨at! b k, rfl, ?_⟩
            (conv => whnf)
            have eu2 := hup_of (c := .lst ((at! b k).rdf.map nD)) (new_ne np eu) eu
            have L2 := L.new np (.lst ((at! b k).rdf.map nD))
            have fin : ∀ Z3, Z3 = hup (hup Z p (.lst ((at! b k).rdf.map nD))) u (.lst ((List.range k).map due ++ [due k])) → K4 [some (.rl (ns.map D.int)), some (.ref d), some (tt), some (blkD b), some (nD b.length), some (.ref u), some (nD k), none, none, none, none, none, none, none, none, none, none, none, none, none, none, none] Z3 := by
              rintro Z3 rfl
              refine kk4 _ _ [some (.rl (ns.map D.int)), some (.ref d), some (tt), some (blkD b), some (nD b.length), some (.ref u), none, none, none, none, none, none, none, none, none, none, none, none, none, none, none, none] _ (.same (.same (.same (.same (.same (.same (.drop (.drop (.drop (.drop (.drop (.drop (.drop (.drop (.drop (.drop (.drop (.drop (.drop (.drop (.drop (.drop .nil)))))))))))))))))))))) (SubH.refl _) ⟨rfl, ?_, ?_⟩
              · have hu : h u = none := hu0
                obtain ⟨l, el, dl⟩ := L2.dp.l
                exact ⟨L2.sub.ow hu, L2.hd, L2.hs, ⟨L2.dp.ne, (let ⟨xs, ex⟩ := L2.dp.xs; ⟨xs, hup_of us ex⟩), ⟨l, hup_of (Ne.symm ud) el, dl⟩⟩⟩
              · rw [hup_same, List.range_succ, List.map_append]; rfl
            by_cases c : (at! b k).wr = 0
            · rw [show (!decide (Fl.num ((at! b k).wr : Int) = Fl.num 0)) = false by simp [c]]
              (conv => whnf)
              rw [eu2]
              (conv => whnf)
              refine ⟨by simp; unfold big; omega, ?_⟩
              (conv => whnf)
              refine fin _ ?_
              show hup _ _ _ = _
              rw [show due k = .tup [.tup ((at! b k).rdf.map fun r => (nm b k r).dat), .non] from by show D.tup [_, _] = _; rw [if_neg (fun z => z c)]]
            · rw [show (!decide (Fl.num ((at! b k).wr : Int) = Fl.num 0)) = true by simp; exact c]
              (conv => whnf)
              rw [eu2]
              (conv => whnf)
              refine ⟨by simp; unfold big; omega, ?_⟩
              (conv => whnf)
              refine fin _ ?_
              show hup _ _ _ = _
              rw [show due k = .tup [.tup ((at! b k).rdf.map fun r => (nm b k r).dat), (Nm.made k).dat] from by show D.tup [_, _] = _; rw [if_pos c]]
              rfl
        · rintro σ Z ⟨rfl, L, eu⟩
          refine ⟨trivial, kk3 _ _ ⟨rfl, L, ?_⟩⟩
          simpa using eu
      clear L Z eu
      rintro σ Z ⟨rfl, L, eu⟩
      refine wp_cut (bt := bt) (C := C40 bt) (fun σ Z => σ = [some (.rl (ns.map D.int)), some (.ref d), some (tt), some (blkD b), some (nD b.length), some (.ref u), none, none, none, none, none, none, none, none, none, none, none, none, none, none, none, none] ∧ Ld h d s Z) ?_ ?_
      · intro K3 kk3
        (conv => whnf)
        refine ⟨b, rfl, bk, ?_⟩
        (conv => whnf)
        rw [itemsOf_l eu]
        (conv => whnf)
        refine ⟨renD b, rfl, plain_ren few, ?_⟩
        (conv => whnf)
        refine ⟨b, rfl, bk, ?_⟩
        (conv => whnf)
        refine ⟨⟨by decide, by decide⟩, ?_⟩
        (conv => whnf)
        refine ⟨(Nat.le_of_ble_eq_true rfl), lcL_map nD (fun r => (nm b b.length r).dat) trivial (fun r hr => ⟨_, rfl, fun K z => z, fun K z => ?_⟩) ?_⟩
        · (conv => whnf)
          exact ⟨b, b.length, r, rfl, ⟨few, Nat.le_refl _⟩, z⟩
        · (conv => whnf)
          refine ⟨behD b, rfl, plain_beh b, ?_⟩
          (conv => whnf)
          exact kk3 _ _ ⟨rfl, L⟩
      clear L Z eu
      have dl := dep_len few
      have tl : (tru b).length ≤ (dep b).length := List.length_filter_le _ _
      have fl : (fal b).length ≤ (dep b).length := List.length_filter_le _ _
      rintro σ Z ⟨rfl, L⟩
      refine wp_cut (bt := bt) (C := C40 bt) (fun σ Z => σ = [some (.rl (ns.map D.int)), some (.ref d), some (tt), some (blkD b), some (nD b.length), some (.ref u), none, some (prsD (dep b)), none, none, none, none, none, none, none, none, none, none, none, none, none, none] ∧ Ld h d s Z) ?_ ?_
      · intro K3 kk3
        (conv => whnf)
        refine ⟨b, rfl, bk, ?_⟩
        (conv => whnf)
        exact kk3 _ _ ⟨rfl, L⟩
      clear L Z
      rintro σ Z ⟨rfl, L⟩
      refine wp_cut (bt := bt) (C := C40 bt) (fun σ Z => σ = [some (.rl (ns.map D.int)), some (.ref d), some (tt), some (blkD b), some (nD b.length), some (.ref u), none, some (prsD (dep b)), some (prsD (tru b)), none, none, none, none, none, none, none, none, none, none, none, none, none] ∧ Ld h d s Z) ?_ ?_
      · intro K3 kk3
        (conv => whnf)
        refine ⟨by rw [List.length_map]; unfold big; omega, lcL_pure Pr.dat Pr.dat (fun p => p.2.2.true) trivial (fun p hp => ⟨_, rfl, fun K z => ?_, fun _ K z => z⟩) ?_⟩
        · (conv => whnf)
          rw [in_true]
          exact z
        · rw [List.nil_append]
          (conv => whnf)
          exact kk3 _ _ ⟨rfl, L⟩
      clear L Z
      rintro σ Z ⟨rfl, L⟩
      refine wp_cut (bt := bt) (C := C40 bt) (fun σ Z => σ = [some (.rl (ns.map D.int)), some (.ref d), some (tt), some (blkD b), some (nD b.length), some (.ref u), none, some (prsD (dep b)), some (prsD (tru b)), some (prsD (fal b)), none, none, none, none, none, none, none, none, none, none, none, none] ∧ Ld h d s Z) ?_ ?_
      · intro K3 kk3
        (conv => whnf)
        refine ⟨by rw [List.length_map]; unfold big; omega, lcL_pure Pr.dat Pr.dat (fun p => !p.2.2.true && !((tru b).any fun q => decide (q.1 = p.1 ∧ q.2.1 = p.2.1))) trivial (fun p hp => ⟨_, rfl, fun K z => ?_, fun _ K z => z⟩) ?_⟩
        · (conv => whnf)
          rw [in_over]
          cases c : p.2.2.true with
          | true => rw [c] at z; exact z
          | false =>
            rw [c] at z
            (conv => whnf)
            refine ⟨by rw [List.length_map]; unfold big; omega, lcL_map Pr.dat (fun q => D.tup [nD q.1, nD q.2.1]) trivial (fun q hq => ⟨_, rfl, fun K z => z, fun K z => z⟩) ?_⟩
            (conv => whnf)
            rw [fl_two]
            (conv => whnf)
            rw [in_two]
            exact z
        · rw [List.nil_append]
          (conv => whnf)
          exact kk3 _ _ ⟨rfl, L⟩
      clear L Z
      rintro σ Z ⟨rfl, L⟩
      refine wp_cut (bt := bt) (C := C40 bt) (fun σ Z => σ = [some (.rl (ns.map D.int)), some (.ref d), some (tt), some (blkD b), some (nD b.length), some (.ref u), none, some (prsD (dep b)), some (prsD (tru b)), some (prsD (fal b)), none, none, none, none, none, none, none, none, none, none, none, none] ∧ Ld h d s Z) ?_ ?_
      · intro K3 kk3
        (conv => whnf)
        refine ⟨b, rfl, bk, ?_⟩
        (conv => whnf)
        refine ⟨prsD (tru b), rfl, plain_prs (by omega), ?_⟩
        (conv => whnf)
        refine ⟨b, rfl, bk, ?_⟩
        (conv => whnf)
        refine ⟨prsD (fal b), rfl, plain_prs (by omega), ?_⟩
        (conv => whnf)
        exact kk3 _ _ ⟨rfl, L⟩
      clear L Z
      rintro σ Z ⟨rfl, L⟩
      have o1 : (ords b.length (tru b)).length ≤ 720 := ords_len b6
      have o2 : (ords b.length (dep b)).length ≤ 720 := ords_len b6
      refine wp_cut (bt := bt) (C := C40 bt) (fun σ Z => σ = [some (.rl (ns.map D.int)), some (.ref d), some (tt), some (blkD b), some (nD b.length), some (.ref u), none, some (prsD (dep b)), some (prsD (tru b)), some (prsD (fal b)), none, none, some (.tup ((ords b.length (tru b)).map ordD)), some (.tup ((ords b.length (dep b)).map ordD)), none, none, none, none, none, none, none, none] ∧ Ld h d s Z) ?_ ?_
      · intro K3 kk3
        (conv => whnf)
        refine ⟨b.length, tru b, 1000, rfl, few, by omega, Nat.le_refl _, ?_⟩
        rw [if_pos (Nat.le_trans o1 (by decide))]
        (conv => whnf)
        refine ⟨b, 1000, rfl, bk, Nat.le_refl _, ?_⟩
        rw [if_pos (Nat.le_trans o2 (by decide))]
        (conv => whnf)
        refine ⟨rfl, ?_⟩
        exact kk3 _ _ ⟨rfl, L⟩
      clear L Z
      rintro σ Z ⟨rfl, L⟩
      refine wp_cut (bt := bt) (C := C40 bt) (fun σ Z => σ = [some (.rl (ns.map D.int)), some (.ref d), some (tt), some (blkD b), some (nD b.length), some (.ref u), none, some (prsD (dep b)), some (prsD (tru b)), some (prsD (fal b)), none, none, some (.tup ((ords b.length (tru b)).map ordD)), some (.tup ((ords b.length (dep b)).map ordD)), none, none, none, none, none, none, none, none] ∧ Ld h d s Z) ?_ ?_
      · intro K3 kk3
        (conv => whnf)
        refine ⟨by rw [List.length_map]; unfold big; omega, lcL_pure ordD ordD (fun _ => false) trivial (fun xs hx => ⟨_, rfl, fun K z => ?_, fun c => (nomatch c)⟩) ?_⟩
        · (conv => whnf)
          rw [show flr Z (.val (ordD xs)) = _ from fl_ord 7 xs, fl_ords]
          (conv => whnf)
          rw [in_ords, decide_eq_true (legal_sub hx)]
          exact z
        · rw [List.filter_eq_nil_iff.mpr (fun _ _ => Bool.false_ne_true)]
          (conv => whnf)
          rw [show flr Z (.val (prsD (fal b))) = _ from fl_prs _]
          (conv => whnf)
          by_cases c : fal b = []
          · rw [show decide (Fl.tup ((fal b).map prF) = Fl.tup []) = true by rw [c]; rfl]
            (conv => whnf)
            obtain ⟨f, ef⟩ := fl_otup (ords b.length (dep b))
            have ef' : fl0 8 (.tup ((ords b.length (tru b)).map ordD)) = some f := by rw [same_orders c]; exact ef
            rw [show flr Z (.val (.tup ((ords b.length (tru b)).map ordD))) = _ from ef', show flr Z (.val (.tup ((ords b.length (dep b)).map ordD))) = _ from ef]
            (conv => whnf)
            rw [decide_eq_true rfl]
            (conv => whnf)
            exact kk3 _ _ ⟨rfl, L⟩
          · rw [decide_eq_false (fun z => by
              simp only [Fl.tup.injEq, List.map_eq_nil_iff] at z
              exact c z)]
            (conv => whnf)
            exact kk3 _ _ ⟨rfl, L⟩
      clear L Z
      rintro σ Z ⟨rfl, L⟩
      have own := own_order b
      revert L
      have inO : ∀ xs, xs ∈ ords b.length (tru b) ↔ isTO b xs = true := fun xs => mem_tords
      revert own inO o1
      generalize ords b.length (tru b) = O
      intro o1 own inO L
      have olen : ∀ xs, isTO b xs = true → xs.length = b.length := fun xs h => by have := (isTO_perm h).length_eq; simpa using this
      have On : O ≠ [] := fun z => by rw [z] at own; cases own
      obtain ⟨x0, e0⟩ : ∃ x0, O[0]? = some x0 := by
        cases O with
        | nil => exact absurd rfl On
        | cons a l => exact ⟨a, rfl⟩
      have t0 := (inO x0).mp (List.mem_of_getElem? e0)
      have a0 : atD (O.map ordD) 0 = some (ordD x0) := atD_map (k := 0) e0
      obtain ⟨xl, el⟩ : ∃ xl, O.getLast? = some xl := by
        cases z : O.getLast? with
        | none => exact absurd (List.getLast?_eq_none_iff.mp z) On
        | some xl => exact ⟨xl, rfl⟩
      have al : atD (O.map ordD) (-1) = some (ordD xl) := atD_last (by rw [List.getLast?_map, el]; rfl)
      refine wp_cut (bt := bt) (C := C40 bt) (fun σ Z => σ = [some (.rl (ns.map D.int)), some (.ref d), some (tt), some (blkD b), some (nD b.length), some (.ref u), none, some (prsD (dep b)), some (prsD (tru b)), some (prsD (fal b)), none, none, some (.tup (O.map ordD)), some (.tup ((ords b.length (dep b)).map ordD)), none, none, none, none, none, none, none, none] ∧ Ld h d s Z) ?_ ?_
      · intro K3 kk3
        (conv => whnf)
        refine ⟨⟨by decide, by decide⟩, ?_⟩
        (conv => whnf)
        refine ⟨(Nat.le_of_ble_eq_true rfl), ?_⟩
        refine forL_inv (fun _ σ Z => σ = [some (.rl (ns.map D.int)), some (.ref d), some (tt), some (blkD b), some (nD b.length), some (.ref u), none, some (prsD (dep b)), some (prsD (tru b)), some (prsD (fal b)), none, none, some (.tup (O.map ordD)), some (.tup ((ords b.length (dep b)).map ordD)), none, none, none, none, none, none, none, none] ∧ Ld h d s Z) ⟨rfl, L⟩ ?_ ?_
        · clear L Z
          rintro i5 x5 σ Z K4 e5 ⟨rfl, L⟩ kk4
          refine ⟨trivial, ?_⟩
          refine wp_cut (bt := bt) (C := C40 bt) (fun σ Z => ∃ rs mem, σ = [some (.rl (ns.map D.int)), some (.ref d), some (tt), some (blkD b), some (nD b.length), some (.ref u), none, some (prsD (dep b)), some (prsD (tru b)), some (prsD (fal b)), some (x5), none, some (.tup (O.map ordD)), some (.tup ((ords b.length (dep b)).map ordD)), none, none, none, some (intsD rs), some (intsD mem), none, none, none] ∧ Ld h d s Z ∧ RegsOk rs ∧ MemOk mem) ?_ ?_
          · intro K5 kk5
            (conv => whnf)
            refine ⟨d, s, rfl, L.dp, fun rs l rk dl => ?_⟩
            have L2 := L.draw dl
            (conv => whnf)
            refine ⟨d, s, rfl, L2.dp, fun mem l2 mk dl2 => ?_⟩
            (conv => whnf)
            exact kk5 _ _ ⟨rs, mem, rfl, L2.draw dl2, rk, mk⟩
          clear L Z
          rintro σ Z ⟨rs, mem, rfl, L, rk, mk⟩
          have mh := mk.hi
          refine wp_cut (bt := bt) (C := C40 bt) (fun σ Z => σ = [some (.rl (ns.map D.int)), some (.ref d), some (tt), some (blkD b), some (nD b.length), some (.ref u), none, some (prsD (dep b)), some (prsD (tru b)), some (prsD (fal b)), some (x5), none, some (.tup (O.map ordD)), some (.tup ((ords b.length (dep b)).map ordD)), some (runD bt b rs mem (List.range b.length)), none, none, some (intsD rs), some (intsD mem), none, none, none] ∧ Ld h d s Z) ?_ ?_
          · intro K5 kk5
            (conv => whnf)
            refine ⟨b, rs, mem, rfl, bk, few, rk, mk, ?_⟩
            (conv => whnf)
            exact kk5 _ _ ⟨rfl, L⟩
          clear L Z
          rintro σ Z ⟨rfl, L⟩
          refine wp_cut (bt := bt) (C := C40 bt) (fun σ Z => σ = [some (.rl (ns.map D.int)), some (.ref d), some (tt), some (blkD b), some (nD b.length), some (.ref u), none, some (prsD (dep b)), some (prsD (tru b)), some (prsD (fal b)), some (x5), none, some (.tup (O.map ordD)), some (.tup ((ords b.length (dep b)).map ordD)), some (runD bt b rs mem (List.range b.length)), none, none, some (intsD rs), some (intsD mem), none, none, none] ∧ Ld h d s Z) ?_ ?_
          · intro K5 kk5
            (conv => whnf)
            rw [a0]
            (conv => whnf)
            rw [al]
            (conv => whnf)
            rw [List.length_map]
            refine ⟨d, s, O.length, rfl, ⟨List.length_pos_iff.mpr On, by omega⟩, L.dp, fun v l vl dl => ?_⟩
            have L := L.draw dl
            (conv => whnf)
            rw [show atD (O.map ordD) (v : Int) = some (ordD O[v]) from atD_map (List.getElem?_eq_getElem vl)]
            (conv => whnf)
            refine ⟨(Nat.le_of_ble_eq_true rfl), ?_⟩
            refine forL_inv (fun _ σ Z => σ = [some (.rl (ns.map D.int)), some (.ref d), some (tt), some (blkD b), some (nD b.length), some (.ref u), none, some (prsD (dep b)), some (prsD (tru b)), some (prsD (fal b)), some (x5), none, some (.tup (O.map ordD)), some (.tup ((ords b.length (dep b)).map ordD)), some (runD bt b rs mem (List.range b.length)), none, none, some (intsD rs), some (intsD mem), none, none, none] ∧ Ld h d s Z) ⟨rfl, L⟩ ?_ ?_
            · rintro i6 x6 σ Z K6 e6 ⟨rfl, L⟩ kk6
              refine ⟨trivial, ?_⟩
              obtain ⟨xs, hxs, rfl⟩ : ∃ xs, isTO b xs = true ∧ x6 = ordD xs := by
                have := List.mem_of_getElem? e6
                simp only [List.mem_cons, List.not_mem_nil, or_false] at this
                rcases this with rfl | rfl | rfl
                · exact ⟨x0, t0, rfl⟩
                · exact ⟨xl, (inO xl).mp (List.mem_of_getLast? el), rfl⟩
                · exact ⟨_, (inO _).mp (List.getElem_mem vl), rfl⟩
              have lxs := olen xs hxs
              (conv => whnf)
              refine ⟨b, ordD xs, rfl, bk, .inr (.inr ⟨xs, rfl, by omega, ?_⟩)⟩
              rw [hxs]
              (conv => whnf)
              refine ⟨b, xs, rs, mem, rfl, bk, rk, mk, by omega, ?_⟩
              rw [if_pos hxs, runD_order bk hxs]
              (conv => whnf)
              refine ⟨runD bt b rs mem (List.range b.length), rfl, plain_run mh (by simp; omega), ?_⟩
              (conv => whnf)
              exact kk6 _ _ [some (.rl (ns.map D.int)), some (.ref d), some (tt), some (blkD b), some (nD b.length), some (.ref u), none, some (prsD (dep b)), some (prsD (tru b)), some (prsD (fal b)), some (x5), none, some (.tup (O.map ordD)), some (.tup ((ords b.length (dep b)).map ordD)), some (runD bt b rs mem (List.range b.length)), none, none, some (intsD rs), some (intsD mem), none, none, none] _ (.same (.same (.same (.same (.same (.same (.drop (.same (.same (.same (.same (.drop (.same (.same (.same (.drop (.drop (.same (.same (.drop (.drop (.drop .nil)))))))))))))))))))))) (SubH.refl _) ⟨rfl, L⟩
            · rintro σ Z ⟨rfl, L⟩
              exact ⟨trivial, kk5 _ _ ⟨rfl, L⟩⟩
          clear L Z
          rintro σ Z ⟨rfl, L⟩
          refine wp_cut (bt := bt) (C := C40 bt) (fun σ Z => ∃ os : List Nat, σ = [some (.rl (ns.map D.int)), some (.ref d), some (tt), some (blkD b), some (nD b.length), some (.ref u), none, some (prsD (dep b)), some (prsD (tru b)), some (prsD (fal b)), some (x5), none, some (.tup (O.map ordD)), some (.tup ((ords b.length (dep b)).map ordD)), some (runD bt b rs mem (List.range b.length)), none, some (ordD os), some (intsD rs), some (intsD mem), none, none, none] ∧ Ld h d s Z ∧ os.Perm (List.range b.length)) ?_ ?_
          · intro K5 kk5
            (conv => whnf)
            refine ⟨⟨by omega, by unfold big; omega⟩, ?_⟩
            (conv => whnf)
            intro r nr
            (conv => whnf)
            have L2 := L.new nr (.lst ((List.range ((b.length : Int)).toNat).map fun (k : Nat) => D.int (k : Int)))
            refine ⟨d, s, r, _, rfl, hup_same, L.ne nr, by simp; omega, L2.dp, fun ys l py dl => ?_⟩
            have L3 := L2.draw dl
            rw [show ((b.length : Int)).toNat = b.length by simp] at py
            obtain ⟨os, rfl, po⟩ := perm_nats py
            (conv => whnf)
            exact kk5 _ _ ⟨os, rfl, L3, po⟩
          clear L Z
          rintro σ Z ⟨os, rfl, L, po⟩
          have los : os.length = b.length := by have := po.length_eq; simpa using this
          have eio : ∀ Z, cmpP .in_ (.val (ordD os)) (.val (.tup (O.map ordD))) Z = fun R => R (isTO b os) := fun Z => by
            funext R
            show (match flr Z (.val (ordD os)), fl1s Z (O.map ordD) with
              | some p, some ps => R (inL p ps)
              | _, _ => False) = _
            rw [show flr Z (.val (ordD os)) = _ from fl_ord 7 os, fl_ords]
            show R (inL _ _) = _
            rw [in_ords]
            congr 1
            rw [Bool.eq_iff_iff, decide_eq_true_eq]
            exact inO os
          refine wp_cut (bt := bt) (C := C40 bt) (fun σ Z => σ = [some (.rl (ns.map D.int)), some (.ref d), some (tt), some (blkD b), some (nD b.length), some (.ref u), none, some (prsD (dep b)), some (prsD (tru b)), some (prsD (fal b)), some (x5), none, some (.tup (O.map ordD)), some (.tup ((ords b.length (dep b)).map ordD)), some (runD bt b rs mem (List.range b.length)), none, some (ordD os), some (intsD rs), some (intsD mem), none, none, none] ∧ Ld h d s Z) ?_ ?_
          · intro K5 kk5
            (conv => whnf)
            refine ⟨b, ordD os, rfl, bk, .inr (.inr ⟨os, rfl, by omega, ?_⟩)⟩
            (conv => whnf)
            rw [show flr Z (.val (ordD os)) = _ from fl_ord 7 os, fl_ords]
            (conv => whnf)
            rw [in_ords, show decide (os ∈ O) = isTO b os from by rw [Bool.eq_iff_iff, decide_eq_true_eq]; exact inO os]
            refine ⟨.bl (isTO b os), rfl, trivial, ?_⟩
            (conv => whnf)
            exact kk5 _ _ ⟨rfl, L⟩
          clear L Z
          rintro σ Z ⟨rfl, L⟩
          (conv => whnf)
          rw [show flr Z (.val (ordD os)) = _ from fl_ord 7 os, fl_ords]
          (conv => whnf)
          rw [in_ords, show decide (os ∈ O) = isTO b os from by rw [Bool.eq_iff_iff, decide_eq_true_eq]; exact inO os]
          cases ct : isTO b os with
          | true =>
            (conv => whnf)
            exact kk4 _ _ [some (.rl (ns.map D.int)), some (.ref d), some (tt), some (blkD b), some (nD b.length), some (.ref u), none, some (prsD (dep b)), some (prsD (tru b)), some (prsD (fal b)), none, none, some (.tup (O.map ordD)), some (.tup ((ords b.length (dep b)).map ordD)), none, none, none, none, none, none, none, none] _ (.same (.same (.same (.same (.same (.same (.drop (.same (.same (.same (.drop (.drop (.same (.same (.drop (.drop (.drop (.drop (.drop (.drop (.drop (.drop .nil)))))))))))))))))))))) (SubH.refl _) ⟨rfl, L⟩
          | false =>
            (conv => whnf)
            refine ⟨b, os, rs, mem, rfl, bk, rk, mk, by omega, ?_⟩
            rw [if_neg (by rw [ct]; exact Bool.false_ne_true)]
            (conv => whnf)
            exact kk4 _ _ [some (.rl (ns.map D.int)), some (.ref d), some (tt), some (blkD b), some (nD b.length), some (.ref u), none, some (prsD (dep b)), some (prsD (tru b)), some (prsD (fal b)), none, none, some (.tup (O.map ordD)), some (.tup ((ords b.length (dep b)).map ordD)), none, none, none, none, none, none, none, none] _ (.same (.same (.same (.same (.same (.same (.drop (.same (.same (.same (.drop (.drop (.same (.same (.drop (.drop (.drop (.drop (.drop (.drop (.drop (.drop .nil)))))))))))))))))))))) (SubH.refl _) ⟨rfl, L⟩
        · rintro σ Z ⟨rfl, L⟩
          exact ⟨trivial, kk3 _ _ ⟨rfl, L⟩⟩
      clear L Z
      rintro σ Z ⟨rfl, L⟩
      (conv => whnf)
      rw [a0]
      (conv => whnf)
      intro p np
      (conv => whnf)
      rw [a0]
      (conv => whnf)
      have lx0 := olen x0 t0
      refine ⟨⟨by rw [List.length_map]; unfold big; omega, (Nat.le_of_ble_eq_true rfl)⟩, ?_⟩
      (conv => whnf)
      refine ⟨(Nat.le_of_ble_eq_true rfl), ?_⟩
      have L2 := L.new np (.lst (x0.map nD))
      have ep : hup Z p (.lst (x0.map nD)) p = some (.lst (x0.map nD)) := hup_same
      refine forL_inv (fun _ σ Z => σ = [some (.rl (ns.map D.int)), some (.ref d), some (tt), some (blkD b), some (nD b.length), some (.ref u), none, some (prsD (dep b)), some (prsD (tru b)), some (prsD (fal b)), none, none, some (.tup (O.map ordD)), some (.tup ((ords b.length (dep b)).map ordD)), none, none, none, none, none, none, none, none] ∧ Ld h d s Z ∧ Z p = some (.lst (x0.map nD))) ⟨rfl, L2, ep⟩ ?_ ?_
      · clear L2 ep L np Z
        rintro i7 x7 σ Z K7 e7 ⟨rfl, L, ep⟩ kk7
        refine ⟨trivial, ?_⟩
        have fin : K7 [some (.rl (ns.map D.int)), some (.ref d), some (tt), some (blkD b), some (nD b.length), some (.ref u), none, some (prsD (dep b)), some (prsD (tru b)), some (prsD (fal b)), none, some (x7), some (.tup (O.map ordD)), some (.tup ((ords b.length (dep b)).map ordD)), none, none, none, none, none, none, none, none] Z := kk7 _ _ [some (.rl (ns.map D.int)), some (.ref d), some (tt), some (blkD b), some (nD b.length), some (.ref u), none, some (prsD (dep b)), some (prsD (tru b)), some (prsD (fal b)), none, none, some (.tup (O.map ordD)), some (.tup ((ords b.length (dep b)).map ordD)), none, none, none, none, none, none, none, none] _ (.same (.same (.same (.same (.same (.same (.drop (.same (.same (.same (.drop (.drop (.same (.same (.drop (.drop (.drop (.drop (.drop (.drop (.drop (.drop .nil)))))))))))))))))))))) (SubH.refl _) ⟨rfl, L, ep⟩
        have lng : ∀ xs : List Nat, xs.length ≠ b.length → isTO b xs = false := fun xs h => by
          cases z : isTO b xs with
          | false => rfl
          | true => exact absurd (olen xs z) h
        have := List.mem_of_getElem? e7
        simp only [List.mem_cons, List.not_mem_nil, or_false] at this
        rcases this with rfl | rfl | rfl | rfl
        · (conv => whnf)
          refine ⟨b, .non, rfl, bk, .inl ⟨rfl, ?_⟩⟩
          (conv => whnf)
          exact fin
        · (conv => whnf)
          refine ⟨b, .tup [], rfl, bk, .inr (.inr ⟨[], rfl, by simp, ?_⟩)⟩
          rw [lng [] (by simp; omega)]
          (conv => whnf)
          exact fin
        · (conv => whnf)
          refine ⟨b, .ref p, rfl, bk, .inr (.inl ⟨p, _, rfl, ep, ?_⟩)⟩
          (conv => whnf)
          exact fin
        · (conv => whnf)
          refine ⟨b, _, rfl, bk, .inr (.inr ⟨x0 ++ [0], ?_, by simp; omega, ?_⟩)⟩
          · show D.tup (x0.map nD ++ [.int 0]) = .tup ((x0 ++ [0]).map nD)
            rw [List.map_append]; rfl
          · rw [lng (x0 ++ [0]) (by simp; omega)]
            (conv => whnf)
            exact fin
      · rintro σ Z ⟨rfl, L, ep⟩
        refine ⟨trivial, ?_⟩
        exact kk2 _ _ [some (.rl (ns.map D.int)), some (.ref d), none, none, none, none, none, none, none, none, none, none, none, none, none, none, none, none, none, none, none, none] _ (.same (.same (.drop (.drop (.drop (.drop (.drop (.drop (.drop (.drop (.drop (.drop (.drop (.drop (.drop (.drop (.drop (.drop (.drop (.drop (.drop (.drop .nil)))))))))))))))))))))) (SubH.refl _) ⟨rfl, L⟩
    · rintro σ Z ⟨rfl, L⟩
      exact ⟨trivial, kk _ _ ⟨rfl, L⟩⟩
  rintro σ Z ⟨rfl, L⟩
  let b0 : Blk := [.set 1 3, .work .add 2 1 1, .set 1 4, .work .add 3 1 1]
  have k0 : BlkOk b0 := ⟨by decide, by decide, fun o ho => by simp [b0] at ho; rcases ho with rfl | rfl | rfl | rfl <;> simp [Op.ok], by decide⟩
  refine wp_cut (bt := bt) (C := C40 bt) (fun σ Z => σ = [some (.rl (ns.map D.int)), some (.ref d), none, some (blkD b0), none, none, none, none, none, none, none, none, none, none, none, none, none, none, none, none, none, none] ∧ Ld h d s Z) ?_ ?_
  · intro K kk
    (conv => whnf)
    exact kk _ _ ⟨rfl, L⟩
  clear L Z
  rintro σ Z ⟨rfl, L⟩
  refine wp_cut (bt := bt) (C := C40 bt) (fun σ Z => σ = [some (.rl (ns.map D.int)), some (.ref d), none, some (blkD b0), none, none, none, none, none, none, none, none, none, none, none, none, none, none, none, none, none, none] ∧ Ld h d s Z) ?_ ?_
  · intro K kk
    (conv => whnf)
    refine ⟨b0, rfl, k0, ?_⟩
    rw [show fal b0 = [(0, 2, .again), (1, 2, .over)] by decide +kernel]
    (conv => whnf)
    have l1 : (ords b0.length (dep b0)).length = 1 := by decide +kernel
    refine ⟨b0, 100, rfl, k0, by decide, ?_⟩
    rw [if_pos (by rw [l1]; decide)]
    revert l1
    generalize ords b0.length (dep b0) = xs
    intro l1
    (conv => whnf)
    rw [List.length_map, l1]
    (conv => whnf)
    refine ⟨b0, rfl, k0, ?_⟩
    have tl : (tru b0).length ≤ 10000 := by decide +kernel
    have l2 : (ords 4 (tru b0)).length = 6 := by decide +kernel
    revert tl l2
    generalize tru b0 = ts
    intro tl l2
    (conv => whnf)
    refine ⟨4, ts, 100, rfl, by decide, tl, by decide, ?_⟩
    rw [if_pos (by rw [l2]; decide)]
    revert l2
    generalize ords 4 ts = ys
    intro l2
    (conv => whnf)
    rw [List.length_map, l2]
    (conv => whnf)
    exact kk _ _ ⟨rfl, L⟩
  clear L Z
  rintro σ Z ⟨rfl, L⟩
  (conv => whnf)
  refine ⟨⟨by simp, (Nat.le_of_ble_eq_true rfl), by decide, by decide⟩, ?_⟩
  (conv => whnf)
  refine ⟨⟨by simp, (Nat.le_of_ble_eq_true rfl), by decide, by decide⟩, ?_⟩
  (conv => whnf)
  refine ⟨b0, [2, 3, 0, 1], List.replicate 8 0, List.replicate 8 0, rfl, k0, ⟨rfl, fun r hr => by rw [List.eq_of_mem_replicate hr]; exact ⟨by decide, by decide⟩, rfl⟩, ⟨by decide, by decide, fun r hr => by rw [List.eq_of_mem_replicate hr]; exact ⟨by decide, by decide⟩⟩, by decide, ?_⟩
  rw [if_pos (by decide +kernel)]
  have er : runD bt b0 (List.replicate 8 0) (List.replicate 8 0) [2, 3, 0, 1] = .tup [intsD [0, 4, 6, 8, 0, 0, 0, 0], intsD (List.replicate 8 0), intsD [], .int 4] := rfl
  rw [er]
  (conv => whnf)
  refine ⟨⟨by simp, (Nat.le_of_ble_eq_true rfl), by decide, by decide⟩, ?_⟩
  (conv => whnf)
  exact ⟨h, L.sub, q⟩
end K40
end

section
set_option Elab.async false
set_option linter.all false
set_option maxRecDepth 100000
set_option maxHeartbeats 8000000
/-! K40j: each def keeps its promise. -/
namespace K40
open PySem PySem.Spec PyProof.Rows L2 AR
abbrev ers : List Str := ["BadPlan", "Refused"]
abbrev cts : List Str := ["BadPlan"]
theorem f_law_draws : (C40 AR.bt).fn "_law_draws" = some S_law_draws := by kernel_rfl
theorem f_law_draw : (C40 AR.bt).fn "_law_draw" = some S_law_draw := by kernel_rfl
theorem f_law_pick : (C40 AR.bt).fn "_law_pick" = some S_law_pick := by kernel_rfl
theorem f_law_register : (C40 AR.bt).fn "_law_register" = some S_law_register := by kernel_rfl
theorem f_law_plain : (C40 AR.bt).fn "_law_plain" = some S_law_plain := by kernel_rfl
theorem f_law_block : (C40 AR.bt).fn "_law_block" = some S_law_block := by kernel_rfl
theorem f_form_of : (C40 AR.bt).fn "form_of" = some S_form_of := by kernel_rfl
theorem f_is_whole : (C40 AR.bt).fn "is_whole" = some S_is_whole := by kernel_rfl
theorem f_is_word : (C40 AR.bt).fn "is_word" = some S_is_word := by kernel_rfl
theorem f_is_register : (C40 AR.bt).fn "is_register" = some S_is_register := by kernel_rfl
theorem f_word_wrong : (C40 AR.bt).fn "word_wrong" = some S_word_wrong := by kernel_rfl
theorem f_is_block : (C40 AR.bt).fn "is_block" = some S_is_block := by kernel_rfl
theorem f_look_at_block : (C40 AR.bt).fn "look_at_block" = some S_look_at_block := by kernel_rfl
theorem f_registers_in : (C40 AR.bt).fn "registers_in" = some S_registers_in := by kernel_rfl
theorem f_writes : (C40 AR.bt).fn "writes" = some S_writes := by kernel_rfl
theorem f_last_writers : (C40 AR.bt).fn "last_writers" = some S_last_writers := by kernel_rfl
theorem f_reads : (C40 AR.bt).fn "reads" = some S_reads := by kernel_rfl
theorem f_place_of : (C40 AR.bt).fn "place_of" = some S_place_of := by kernel_rfl
theorem f_are_apart : (C40 AR.bt).fn "are_apart" = some S_are_apart := by kernel_rfl
theorem f_touch_alike : (C40 AR.bt).fn "touch_alike" = some S_touch_alike := by kernel_rfl
theorem f_depends : (C40 AR.bt).fn "depends" = some S_depends := by kernel_rfl
theorem f_look_at_registers : (C40 AR.bt).fn "look_at_registers" = some S_look_at_registers := by kernel_rfl
theorem f_is_memory : (C40 AR.bt).fn "is_memory" = some S_is_memory := by kernel_rfl
theorem f_look_at_memory : (C40 AR.bt).fn "look_at_memory" = some S_look_at_memory := by kernel_rfl
theorem f_is_order : (C40 AR.bt).fn "is_order" = some S_is_order := by kernel_rfl
theorem f_keeps : (C40 AR.bt).fn "keeps" = some S_keeps := by kernel_rfl
theorem f_true_pairs : (C40 AR.bt).fn "true_pairs" = some S_true_pairs := by kernel_rfl
theorem f_is_true_order : (C40 AR.bt).fn "is_true_order" = some S_is_true_order := by kernel_rfl
theorem f_name_of : (C40 AR.bt).fn "name_of" = some S_name_of := by kernel_rfl
theorem f_renamed : (C40 AR.bt).fn "renamed" = some S_renamed := by kernel_rfl
theorem f_signed : (C40 AR.bt).fn "signed" = some S_signed := by kernel_rfl
theorem f_holds : (C40 AR.bt).fn "holds" = some S_holds := by kernel_rfl
theorem f_moved_by : (C40 AR.bt).fn "moved_by" = some (S_moved_by AR.bt) := by kernel_rfl
theorem f_worked : (C40 AR.bt).fn "worked" = some (S_worked AR.bt) := by kernel_rfl
theorem f_made_by : (C40 AR.bt).fn "made_by" = some (S_made_by AR.bt) := by kernel_rfl
theorem f_names_behind : (C40 AR.bt).fn "names_behind" = some S_names_behind := by kernel_rfl
theorem f_run_named : (C40 AR.bt).fn "run_named" = some (S_run_named AR.bt) := by kernel_rfl
theorem f_free : (C40 AR.bt).fn "free" = some S_free := by kernel_rfl
theorem f_all_orders : (C40 AR.bt).fn "all_orders" = some S_all_orders := by kernel_rfl
theorem f_legal_orders : (C40 AR.bt).fn "legal_orders" = some S_legal_orders := by kernel_rfl
theorem f_law_start : (C40 AR.bt).fn "_law_start" = some S_law_start := by kernel_rfl
theorem f_law_spot : (C40 AR.bt).fn "_law_spot" = some S_law_spot := by kernel_rfl
theorem f_law_traps : (C40 AR.bt).fn "_law_traps" = some (S_law_traps AR.bt) := by kernel_rfl
theorem f_law_signed : (C40 AR.bt).fn "_law_signed" = some S_law_signed := by kernel_rfl
theorem f_law_meets : (C40 AR.bt).fn "_law_meets" = some S_law_meets := by kernel_rfl
theorem f_law_works : (C40 AR.bt).fn "_law_works" = some (S_law_works AR.bt) := by kernel_rfl
theorem f_law_step : (C40 AR.bt).fn "_law_step" = some (S_law_step AR.bt) := by kernel_rfl
theorem f_law_done : (C40 AR.bt).fn "_law_done" = some (S_law_done AR.bt) := by kernel_rfl
theorem f_false_pairs : (C40 AR.bt).fn "false_pairs" = some S_false_pairs := by kernel_rfl
theorem f_law_same : (C40 AR.bt).fn "_law_same" = some S_law_same := by kernel_rfl
theorem f_law_registers : (C40 AR.bt).fn "_law_registers" = some S_law_registers := by kernel_rfl
theorem f_law_memory : (C40 AR.bt).fn "_law_memory" = some S_law_memory := by kernel_rfl
theorem f_law_shuffled : (C40 AR.bt).fn "_law_shuffled" = some S_law_shuffled := by kernel_rfl
theorem f_law_gives : (C40 AR.bt).fn "_law_gives" = some S_law_gives := by kernel_rfl
theorem f_law_name : (C40 AR.bt).fn "_law_name" = some S_law_name := by kernel_rfl
theorem f_law_read : (C40 AR.bt).fn "_law_read" = some S_law_read := by kernel_rfl
theorem f_law : (C40 AR.bt).fn "law" = some S_law := by kernel_rfl
section
variable {P : Program} {w : World} {K : PySem.W.Frag} {mg : Str → Option Value} {base : Heap} {f : Addr} {fd : FuncData}
theorem def_none {x : Str} {fd : FuncData} {f : Addr} {ps : List Str} (hm : mg x = some (.ref f)) (kp : PySem.W.keepIn K (.ref f) = true) (hb : Binds K fd ps []) : DefOk P w K mg base x 0 (fun _ _ _ _ => False) :=
  ⟨f, fd, ps, ⟨fun vs H Q E ⟨_, _, _, _, _, _, z, _⟩ => z.elim, fun A outer s H args us vs Q E _ _ _ _ ⟨_, _, _, _, _, _, z, _⟩ => z.elim⟩, hm, kp, hb⟩
theorem d_law_draws (T : Top P w K mg base (C40 AR.bt) ers cts) (F : FunD K "_law_draws" "_law_draws" (defArgs (top 55)) (defBody (top 55)) (defScope (top 55)) [] [] f fd) (hm : mg "_law_draws" = some (.ref f))  : DefOk P w K mg base "_law_draws" 3 S_law_draws := 
  def_rule (k := 0) T F hm sc_law_draws (F.bindsN fun _ _ _ _ _ _ us hl => match us, hl with | [_], _ => rfl) (List.forall_mem_nil _) ck_law_draws p_law_draws
theorem d_law_draw (T : Top P w K mg base (C40 AR.bt) ers cts) (F : FunD K "_law_draw" "_law_draw" (defArgs (top 56)) (defBody (top 56)) (defScope (top 56)) [] [] f fd) (hm : mg "_law_draw" = some (.ref f))  : DefOk P w K mg base "_law_draw" 3 S_law_draw := 
  def_rule (k := 0) T F hm sc_law_draw (F.bindsN fun _ _ _ _ _ _ us hl => match us, hl with | [_, _], _ => rfl) (List.forall_mem_nil _) ck_law_draw p_law_draw
theorem d_law_pick (T : Top P w K mg base (C40 AR.bt) ers cts) (F : FunD K "_law_pick" "_law_pick" (defArgs (top 59)) (defBody (top 59)) (defScope (top 59)) [] [] f fd) (hm : mg "_law_pick" = some (.ref f)) (e_law_draw : DefOk P w K mg base "_law_draw" 3 S_law_draw) : DefOk P w K mg base "_law_pick" 6 S_law_pick := 
  def_rule (k := 3) T F hm sc_law_pick (F.bindsN fun _ _ _ _ _ _ us hl => match us, hl with | [_, _], _ => rfl) (List.forall_mem_cons.mpr ⟨⟨_, 3, f_law_draw, by decide, e_law_draw⟩, List.forall_mem_nil _⟩) ck_law_pick p_law_pick
theorem d_law_register (T : Top P w K mg base (C40 AR.bt) ers cts) (F : FunD K "_law_register" "_law_register" (defArgs (top 71)) (defBody (top 71)) (defScope (top 71)) [] [] f fd) (hm : mg "_law_register" = some (.ref f)) (e_law_pick : DefOk P w K mg base "_law_pick" 6 S_law_pick) : DefOk P w K mg base "_law_register" 9 S_law_register := 
  def_rule (k := 6) T F hm sc_law_register (F.bindsN fun _ _ _ _ _ _ us hl => match us, hl with | [_], _ => rfl) (List.forall_mem_cons.mpr ⟨⟨_, 6, f_law_pick, by decide, e_law_pick⟩, List.forall_mem_nil _⟩) ck_law_register p_law_register
theorem d_law_plain (T : Top P w K mg base (C40 AR.bt) ers cts) (F : FunD K "_law_plain" "_law_plain" (defArgs (top 72)) (defBody (top 72)) (defScope (top 72)) [] [] f fd) (hm : mg "_law_plain" = some (.ref f)) (e_law_register : DefOk P w K mg base "_law_register" 9 S_law_register) (e_law_pick : DefOk P w K mg base "_law_pick" 6 S_law_pick) (e_law_draw : DefOk P w K mg base "_law_draw" 3 S_law_draw) : DefOk P w K mg base "_law_plain" 12 S_law_plain := 
  def_rule (k := 9) T F hm sc_law_plain (F.bindsN fun _ _ _ _ _ _ us hl => match us, hl with | [_, _], _ => rfl) (List.forall_mem_cons.mpr ⟨⟨_, 9, f_law_register, by decide, e_law_register⟩, List.forall_mem_cons.mpr ⟨⟨_, 6, f_law_pick, by decide, e_law_pick⟩, List.forall_mem_cons.mpr ⟨⟨_, 3, f_law_draw, by decide, e_law_draw⟩, List.forall_mem_nil _⟩⟩⟩) ck_law_plain p_law_plain
theorem d_law_block (T : Top P w K mg base (C40 AR.bt) ers cts) (F : FunD K "_law_block" "_law_block" (defArgs (top 77)) (defBody (top 77)) (defScope (top 77)) [] [] f fd) (hm : mg "_law_block" = some (.ref f)) (e_law_pick : DefOk P w K mg base "_law_pick" 6 S_law_pick) (e_law_draw : DefOk P w K mg base "_law_draw" 3 S_law_draw) (e_law_plain : DefOk P w K mg base "_law_plain" 12 S_law_plain) : DefOk P w K mg base "_law_block" 15 S_law_block := 
  def_rule (k := 12) T F hm sc_law_block (F.bindsN fun _ _ _ _ _ _ us hl => match us, hl with | [_, _, _], _ => rfl) (List.forall_mem_cons.mpr ⟨⟨_, 6, f_law_pick, by decide, e_law_pick⟩, List.forall_mem_cons.mpr ⟨⟨_, 3, f_law_draw, by decide, e_law_draw⟩, List.forall_mem_cons.mpr ⟨⟨_, 12, f_law_plain, by decide, e_law_plain⟩, List.forall_mem_nil _⟩⟩⟩) ck_law_block p_law_block
theorem d_form_of (T : Top P w K mg base (C40 AR.bt) ers cts) (F : FunD K "form_of" "form_of" (defArgs (top 21)) (defBody (top 21)) (defScope (top 21)) [] [] f fd) (hm : mg "form_of" = some (.ref f))  : DefOk P w K mg base "form_of" 3 S_form_of := 
  def_rule (k := 0) T F hm sc_form_of (F.bindsN fun _ _ _ _ _ _ us hl => match us, hl with | [_], _ => rfl) (List.forall_mem_nil _) ck_form_of p_form_of
theorem d_is_whole (T : Top P w K mg base (C40 AR.bt) ers cts) (F : FunD K "is_whole" "is_whole" (defArgs (top 10)) (defBody (top 10)) (defScope (top 10)) [] [] f fd) (hm : mg "is_whole" = some (.ref f))  : DefOk P w K mg base "is_whole" 3 S_is_whole := 
  def_rule (k := 0) T F hm sc_is_whole (F.bindsN fun _ _ _ _ _ _ us hl => match us, hl with | [_], _ => rfl) (List.forall_mem_nil _) ck_is_whole p_is_whole
theorem d_is_word (T : Top P w K mg base (C40 AR.bt) ers cts) (F : FunD K "is_word" "is_word" (defArgs (top 11)) (defBody (top 11)) (defScope (top 11)) [] [] f fd) (hm : mg "is_word" = some (.ref f)) (e_is_whole : DefOk P w K mg base "is_whole" 3 S_is_whole) : DefOk P w K mg base "is_word" 6 S_is_word := 
  def_rule (k := 3) T F hm sc_is_word (F.bindsN fun _ _ _ _ _ _ us hl => match us, hl with | [_], _ => rfl) (List.forall_mem_cons.mpr ⟨⟨_, 3, f_is_whole, by decide, e_is_whole⟩, List.forall_mem_nil _⟩) ck_is_word p_is_word
theorem d_is_register (T : Top P w K mg base (C40 AR.bt) ers cts) (F : FunD K "is_register" "is_register" (defArgs (top 22)) (defBody (top 22)) (defScope (top 22)) [] [] f fd) (hm : mg "is_register" = some (.ref f)) (e_is_whole : DefOk P w K mg base "is_whole" 3 S_is_whole) : DefOk P w K mg base "is_register" 6 S_is_register := 
  def_rule (k := 3) T F hm sc_is_register (F.bindsN fun _ _ _ _ _ _ us hl => match us, hl with | [_], _ => rfl) (List.forall_mem_cons.mpr ⟨⟨_, 3, f_is_whole, by decide, e_is_whole⟩, List.forall_mem_nil _⟩) ck_is_register p_is_register
theorem d_word_wrong (T : Top P w K mg base (C40 AR.bt) ers cts) (F : FunD K "word_wrong" "word_wrong" (defArgs (top 23)) (defBody (top 23)) (defScope (top 23)) [] [] f fd) (hm : mg "word_wrong" = some (.ref f)) (e_is_register : DefOk P w K mg base "is_register" 6 S_is_register) (e_is_whole : DefOk P w K mg base "is_whole" 3 S_is_whole) (e_is_word : DefOk P w K mg base "is_word" 6 S_is_word) (e_form_of : DefOk P w K mg base "form_of" 3 S_form_of) : DefOk P w K mg base "word_wrong" 9 S_word_wrong := 
  def_rule (k := 6) T F hm sc_word_wrong (F.bindsN fun _ _ _ _ _ _ us hl => match us, hl with | [_, _], _ => rfl) (List.forall_mem_cons.mpr ⟨⟨_, 6, f_is_register, by decide, e_is_register⟩, List.forall_mem_cons.mpr ⟨⟨_, 3, f_is_whole, by decide, e_is_whole⟩, List.forall_mem_cons.mpr ⟨⟨_, 6, f_is_word, by decide, e_is_word⟩, List.forall_mem_cons.mpr ⟨⟨_, 3, f_form_of, by decide, e_form_of⟩, List.forall_mem_nil _⟩⟩⟩⟩) ck_word_wrong p_word_wrong
theorem d_is_block (T : Top P w K mg base (C40 AR.bt) ers cts) (F : FunD K "is_block" "is_block" (defArgs (top 30)) (defBody (top 30)) (defScope (top 30)) [] [] f fd) (hm : mg "is_block" = some (.ref f)) (e_word_wrong : DefOk P w K mg base "word_wrong" 9 S_word_wrong) : DefOk P w K mg base "is_block" 12 S_is_block := 
  def_rule (k := 9) T F hm sc_is_block (F.bindsN fun _ _ _ _ _ _ us hl => match us, hl with | [_], _ => rfl) (List.forall_mem_cons.mpr ⟨⟨_, 9, f_word_wrong, by decide, e_word_wrong⟩, List.forall_mem_nil _⟩) ck_is_block p_is_block
theorem d_look_at_block (T : Top P w K mg base (C40 AR.bt) ers cts) (F : FunD K "look_at_block" "look_at_block" (defArgs (top 31)) (defBody (top 31)) (defScope (top 31)) [] [] f fd) (hm : mg "look_at_block" = some (.ref f)) (e_is_block : DefOk P w K mg base "is_block" 12 S_is_block) : DefOk P w K mg base "look_at_block" 15 S_look_at_block := 
  def_rule (k := 12) T F hm sc_look_at_block (F.bindsN fun _ _ _ _ _ _ us hl => match us, hl with | [_], _ => rfl) (List.forall_mem_cons.mpr ⟨⟨_, 12, f_is_block, by decide, e_is_block⟩, List.forall_mem_nil _⟩) ck_look_at_block p_look_at_block
theorem d_registers_in (T : Top P w K mg base (C40 AR.bt) ers cts) (F : FunD K "registers_in" "registers_in" (defArgs (top 24)) (defBody (top 24)) (defScope (top 24)) [] [] f fd) (hm : mg "registers_in" = some (.ref f)) (e_form_of : DefOk P w K mg base "form_of" 3 S_form_of) : DefOk P w K mg base "registers_in" 6 S_registers_in := 
  def_rule (k := 3) T F hm sc_registers_in (F.bindsN fun _ _ _ _ _ _ us hl => match us, hl with | [_, _], _ => rfl) (List.forall_mem_cons.mpr ⟨⟨_, 3, f_form_of, by decide, e_form_of⟩, List.forall_mem_nil _⟩) ck_registers_in p_registers_in
theorem d_writes (T : Top P w K mg base (C40 AR.bt) ers cts) (F : FunD K "writes" "writes" (defArgs (top 26)) (defBody (top 26)) (defScope (top 26)) [] [] f fd) (hm : mg "writes" = some (.ref f)) (e_registers_in : DefOk P w K mg base "registers_in" 6 S_registers_in) : DefOk P w K mg base "writes" 9 S_writes := 
  def_rule (k := 6) T F hm sc_writes (F.bindsN fun _ _ _ _ _ _ us hl => match us, hl with | [_], _ => rfl) (List.forall_mem_cons.mpr ⟨⟨_, 6, f_registers_in, by decide, e_registers_in⟩, List.forall_mem_nil _⟩) ck_writes p_writes
theorem d_last_writers (T : Top P w K mg base (C40 AR.bt) ers cts) (F : FunD K "last_writers" "last_writers" (defArgs (top 32)) (defBody (top 32)) (defScope (top 32)) [] [] f fd) (hm : mg "last_writers" = some (.ref f)) (e_writes : DefOk P w K mg base "writes" 9 S_writes) : DefOk P w K mg base "last_writers" 12 S_last_writers := 
  def_rule (k := 9) T F hm sc_last_writers (F.bindsN fun _ _ _ _ _ _ us hl => match us, hl with | [_], _ => rfl) (List.forall_mem_cons.mpr ⟨⟨_, 9, f_writes, by decide, e_writes⟩, List.forall_mem_nil _⟩) ck_last_writers p_last_writers
theorem d_reads (T : Top P w K mg base (C40 AR.bt) ers cts) (F : FunD K "reads" "reads" (defArgs (top 25)) (defBody (top 25)) (defScope (top 25)) [] [] f fd) (hm : mg "reads" = some (.ref f)) (e_registers_in : DefOk P w K mg base "registers_in" 6 S_registers_in) : DefOk P w K mg base "reads" 9 S_reads := 
  def_rule (k := 6) T F hm sc_reads (F.bindsN fun _ _ _ _ _ _ us hl => match us, hl with | [_], _ => rfl) (List.forall_mem_cons.mpr ⟨⟨_, 6, f_registers_in, by decide, e_registers_in⟩, List.forall_mem_nil _⟩) ck_reads p_reads
theorem d_place_of (T : Top P w K mg base (C40 AR.bt) ers cts) (F : FunD K "place_of" "place_of" (defArgs (top 33)) (defBody (top 33)) (defScope (top 33)) [] [] f fd) (hm : mg "place_of" = some (.ref f)) (e_last_writers : DefOk P w K mg base "last_writers" 12 S_last_writers) : DefOk P w K mg base "place_of" 15 S_place_of := 
  def_rule (k := 12) T F hm sc_place_of (F.bindsN fun _ _ _ _ _ _ us hl => match us, hl with | [_, _], _ => rfl) (List.forall_mem_cons.mpr ⟨⟨_, 12, f_last_writers, by decide, e_last_writers⟩, List.forall_mem_nil _⟩) ck_place_of p_place_of
theorem d_are_apart (T : Top P w K mg base (C40 AR.bt) ers cts) (F : FunD K "are_apart" "are_apart" (defArgs (top 34)) (defBody (top 34)) (defScope (top 34)) [] [] f fd) (hm : mg "are_apart" = some (.ref f)) (e_place_of : DefOk P w K mg base "place_of" 15 S_place_of) : DefOk P w K mg base "are_apart" 18 S_are_apart := 
  def_rule (k := 15) T F hm sc_are_apart (F.bindsN fun _ _ _ _ _ _ us hl => match us, hl with | [_, _, _], _ => rfl) (List.forall_mem_cons.mpr ⟨⟨_, 15, f_place_of, by decide, e_place_of⟩, List.forall_mem_nil _⟩) ck_are_apart p_are_apart
theorem d_touch_alike (T : Top P w K mg base (C40 AR.bt) ers cts) (F : FunD K "touch_alike" "touch_alike" (defArgs (top 36)) (defBody (top 36)) (defScope (top 36)) [] [] f fd) (hm : mg "touch_alike" = some (.ref f)) (e_are_apart : DefOk P w K mg base "are_apart" 18 S_are_apart) : DefOk P w K mg base "touch_alike" 21 S_touch_alike := 
  def_rule (k := 18) T F hm sc_touch_alike (F.bindsN fun _ _ _ _ _ _ us hl => match us, hl with | [_, _, _], _ => rfl) (List.forall_mem_cons.mpr ⟨⟨_, 18, f_are_apart, by decide, e_are_apart⟩, List.forall_mem_nil _⟩) ck_touch_alike p_touch_alike
theorem d_depends (T : Top P w K mg base (C40 AR.bt) ers cts) (F : FunD K "depends" "depends" (defArgs (top 35)) (defBody (top 35)) (defScope (top 35)) [] [] f fd) (hm : mg "depends" = some (.ref f)) (e_touch_alike : DefOk P w K mg base "touch_alike" 21 S_touch_alike) (e_writes : DefOk P w K mg base "writes" 9 S_writes) (e_reads : DefOk P w K mg base "reads" 9 S_reads) (e_last_writers : DefOk P w K mg base "last_writers" 12 S_last_writers) (e_look_at_block : DefOk P w K mg base "look_at_block" 15 S_look_at_block) : DefOk P w K mg base "depends" 24 S_depends := 
  def_rule (k := 21) T F hm sc_depends (F.bindsN fun _ _ _ _ _ _ us hl => match us, hl with | [_], _ => rfl) (List.forall_mem_cons.mpr ⟨⟨_, 21, f_touch_alike, by decide, e_touch_alike⟩, List.forall_mem_cons.mpr ⟨⟨_, 9, f_writes, by decide, e_writes⟩, List.forall_mem_cons.mpr ⟨⟨_, 9, f_reads, by decide, e_reads⟩, List.forall_mem_cons.mpr ⟨⟨_, 12, f_last_writers, by decide, e_last_writers⟩, List.forall_mem_cons.mpr ⟨⟨_, 15, f_look_at_block, by decide, e_look_at_block⟩, List.forall_mem_nil _⟩⟩⟩⟩⟩) ck_depends p_depends
theorem d_look_at_registers (T : Top P w K mg base (C40 AR.bt) ers cts) (F : FunD K "look_at_registers" "look_at_registers" (defArgs (top 42)) (defBody (top 42)) (defScope (top 42)) [] [] f fd) (hm : mg "look_at_registers" = some (.ref f)) (e_is_word : DefOk P w K mg base "is_word" 6 S_is_word) : DefOk P w K mg base "look_at_registers" 9 S_look_at_registers := 
  def_rule (k := 6) T F hm sc_look_at_registers (F.bindsN fun _ _ _ _ _ _ us hl => match us, hl with | [_], _ => rfl) (List.forall_mem_cons.mpr ⟨⟨_, 6, f_is_word, by decide, e_is_word⟩, List.forall_mem_nil _⟩) ck_look_at_registers p_look_at_registers
theorem d_is_memory (T : Top P w K mg base (C40 AR.bt) ers cts) (F : FunD K "is_memory" "is_memory" (defArgs (top 12)) (defBody (top 12)) (defScope (top 12)) [] [] f fd) (hm : mg "is_memory" = some (.ref f)) (e_is_word : DefOk P w K mg base "is_word" 6 S_is_word) : DefOk P w K mg base "is_memory" 9 S_is_memory := 
  def_rule (k := 6) T F hm sc_is_memory (F.bindsN fun _ _ _ _ _ _ us hl => match us, hl with | [_], _ => rfl) (List.forall_mem_cons.mpr ⟨⟨_, 6, f_is_word, by decide, e_is_word⟩, List.forall_mem_nil _⟩) ck_is_memory p_is_memory
theorem d_look_at_memory (T : Top P w K mg base (C40 AR.bt) ers cts) (F : FunD K "look_at_memory" "look_at_memory" (defArgs (top 13)) (defBody (top 13)) (defScope (top 13)) [] [] f fd) (hm : mg "look_at_memory" = some (.ref f)) (e_is_memory : DefOk P w K mg base "is_memory" 9 S_is_memory) : DefOk P w K mg base "look_at_memory" 12 S_look_at_memory := 
  def_rule (k := 9) T F hm sc_look_at_memory (F.bindsN fun _ _ _ _ _ _ us hl => match us, hl with | [_], _ => rfl) (List.forall_mem_cons.mpr ⟨⟨_, 9, f_is_memory, by decide, e_is_memory⟩, List.forall_mem_nil _⟩) ck_look_at_memory p_look_at_memory
theorem d_is_order (T : Top P w K mg base (C40 AR.bt) ers cts) (F : FunD K "is_order" "is_order" (defArgs (top 37)) (defBody (top 37)) (defScope (top 37)) [] [] f fd) (hm : mg "is_order" = some (.ref f)) (e_is_whole : DefOk P w K mg base "is_whole" 3 S_is_whole) : DefOk P w K mg base "is_order" 6 S_is_order := 
  def_rule (k := 3) T F hm sc_is_order (F.bindsN fun _ _ _ _ _ _ us hl => match us, hl with | [_, _], _ => rfl) (List.forall_mem_cons.mpr ⟨⟨_, 3, f_is_whole, by decide, e_is_whole⟩, List.forall_mem_nil _⟩) ck_is_order p_is_order
theorem d_keeps (T : Top P w K mg base (C40 AR.bt) ers cts) (F : FunD K "keeps" "keeps" (defArgs (top 38)) (defBody (top 38)) (defScope (top 38)) [] [] f fd) (hm : mg "keeps" = some (.ref f))  : DefOk P w K mg base "keeps" 3 S_keeps := 
  def_rule (k := 0) T F hm sc_keeps (F.bindsN fun _ _ _ _ _ _ us hl => match us, hl with | [_, _], _ => rfl) (List.forall_mem_nil _) ck_keeps p_keeps
theorem d_true_pairs (T : Top P w K mg base (C40 AR.bt) ers cts) (F : FunD K "true_pairs" "true_pairs" (defArgs (top 45)) (defBody (top 45)) (defScope (top 45)) [] [] f fd) (hm : mg "true_pairs" = some (.ref f)) (e_depends : DefOk P w K mg base "depends" 24 S_depends) : DefOk P w K mg base "true_pairs" 27 S_true_pairs := 
  def_rule (k := 24) T F hm sc_true_pairs (F.bindsN fun _ _ _ _ _ _ us hl => match us, hl with | [_], _ => rfl) (List.forall_mem_cons.mpr ⟨⟨_, 24, f_depends, by decide, e_depends⟩, List.forall_mem_nil _⟩) ck_true_pairs p_true_pairs
theorem d_is_true_order (T : Top P w K mg base (C40 AR.bt) ers cts) (F : FunD K "is_true_order" "is_true_order" (defArgs (top 50)) (defBody (top 50)) (defScope (top 50)) [] [] f fd) (hm : mg "is_true_order" = some (.ref f)) (e_keeps : DefOk P w K mg base "keeps" 3 S_keeps) (e_true_pairs : DefOk P w K mg base "true_pairs" 27 S_true_pairs) (e_is_order : DefOk P w K mg base "is_order" 6 S_is_order) (e_look_at_block : DefOk P w K mg base "look_at_block" 15 S_look_at_block) : DefOk P w K mg base "is_true_order" 30 S_is_true_order := 
  def_rule (k := 27) T F hm sc_is_true_order (F.bindsN fun _ _ _ _ _ _ us hl => match us, hl with | [_, _], _ => rfl) (List.forall_mem_cons.mpr ⟨⟨_, 3, f_keeps, by decide, e_keeps⟩, List.forall_mem_cons.mpr ⟨⟨_, 27, f_true_pairs, by decide, e_true_pairs⟩, List.forall_mem_cons.mpr ⟨⟨_, 6, f_is_order, by decide, e_is_order⟩, List.forall_mem_cons.mpr ⟨⟨_, 15, f_look_at_block, by decide, e_look_at_block⟩, List.forall_mem_nil _⟩⟩⟩⟩) ck_is_true_order p_is_true_order
theorem d_name_of (T : Top P w K mg base (C40 AR.bt) ers cts) (F : FunD K "name_of" "name_of" (defArgs (top 47)) (defBody (top 47)) (defScope (top 47)) [] [] f fd) (hm : mg "name_of" = some (.ref f))  : DefOk P w K mg base "name_of" 3 S_name_of := 
  def_rule (k := 0) T F hm sc_name_of (F.bindsN fun _ _ _ _ _ _ us hl => match us, hl with | [_, _], _ => rfl) (List.forall_mem_nil _) ck_name_of p_name_of
theorem d_renamed (T : Top P w K mg base (C40 AR.bt) ers cts) (F : FunD K "renamed" "renamed" (defArgs (top 48)) (defBody (top 48)) (defScope (top 48)) [] [] f fd) (hm : mg "renamed" = some (.ref f)) (e_last_writers : DefOk P w K mg base "last_writers" 12 S_last_writers) (e_writes : DefOk P w K mg base "writes" 9 S_writes) (e_form_of : DefOk P w K mg base "form_of" 3 S_form_of) (e_name_of : DefOk P w K mg base "name_of" 3 S_name_of) (e_look_at_block : DefOk P w K mg base "look_at_block" 15 S_look_at_block) : DefOk P w K mg base "renamed" 18 S_renamed := 
  def_rule (k := 15) T F hm sc_renamed (F.bindsN fun _ _ _ _ _ _ us hl => match us, hl with | [_], _ => rfl) (List.forall_mem_cons.mpr ⟨⟨_, 12, f_last_writers, by decide, e_last_writers⟩, List.forall_mem_cons.mpr ⟨⟨_, 9, f_writes, by decide, e_writes⟩, List.forall_mem_cons.mpr ⟨⟨_, 3, f_form_of, by decide, e_form_of⟩, List.forall_mem_cons.mpr ⟨⟨_, 3, f_name_of, by decide, e_name_of⟩, List.forall_mem_cons.mpr ⟨⟨_, 15, f_look_at_block, by decide, e_look_at_block⟩, List.forall_mem_nil _⟩⟩⟩⟩⟩) ck_renamed p_renamed
theorem d_signed (T : Top P w K mg base (C40 AR.bt) ers cts) (F : FunD K "signed" "signed" (defArgs (top 14)) (defBody (top 14)) (defScope (top 14)) [] [] f fd) (hm : mg "signed" = some (.ref f))  : DefOk P w K mg base "signed" 3 S_signed := 
  def_rule (k := 0) T F hm sc_signed (F.bindsN fun _ _ _ _ _ _ us hl => match us, hl with | [_], _ => rfl) (List.forall_mem_nil _) ck_signed p_signed
theorem d_holds (T : Top P w K mg base (C40 AR.bt) ers cts) (F : FunD K "holds" "holds" (defArgs (top 16)) (defBody (top 16)) (defScope (top 16)) [] [] f fd) (hm : mg "holds" = some (.ref f)) (e_signed : DefOk P w K mg base "signed" 3 S_signed) : DefOk P w K mg base "holds" 6 S_holds := 
  def_rule (k := 3) T F hm sc_holds (F.bindsN fun _ _ _ _ _ _ us hl => match us, hl with | [_, _, _], _ => rfl) (List.forall_mem_cons.mpr ⟨⟨_, 3, f_signed, by decide, e_signed⟩, List.forall_mem_nil _⟩) ck_holds p_holds
theorem d_moved_by (T : Top P w K mg base (C40 AR.bt) ers cts) (F : FunD K "moved_by" "moved_by" (defArgs (top 53)) (defBody (top 53)) (defScope (top 53)) [] [] f fd) (hm : mg "moved_by" = some (.ref f)) (e_holds : DefOk P w K mg base "holds" 6 S_holds) : DefOk P w K mg base "moved_by" 9 (S_moved_by AR.bt) := 
  def_rule (k := 6) T F hm sc_moved_by (F.bindsN fun _ _ _ _ _ _ us hl => match us, hl with | [_, _, _], _ => rfl) (List.forall_mem_cons.mpr ⟨⟨_, 6, f_holds, by decide, e_holds⟩, List.forall_mem_nil _⟩) ck_moved_by p_moved_by
theorem d_worked (T : Top P w K mg base (C40 AR.bt) ers cts) (F : FunD K "worked" "worked" (defArgs (top 15)) (defBody (top 15)) (defScope (top 15)) [] [] f fd) (hm : mg "worked" = some (.ref f)) (e_signed : DefOk P w K mg base "signed" 3 S_signed) : DefOk P w K mg base "worked" 6 (S_worked AR.bt) := 
  def_rule (k := 3) T F hm sc_worked (F.bindsN fun _ _ _ _ _ _ us hl => match us, hl with | [_, _, _], _ => rfl) (List.forall_mem_cons.mpr ⟨⟨_, 3, f_signed, by decide, e_signed⟩, List.forall_mem_nil _⟩) ck_worked p_worked
theorem d_made_by (T : Top P w K mg base (C40 AR.bt) ers cts) (F : FunD K "made_by" "made_by" (defArgs (top 52)) (defBody (top 52)) (defScope (top 52)) [] [] f fd) (hm : mg "made_by" = some (.ref f)) (e_moved_by : DefOk P w K mg base "moved_by" 9 (S_moved_by AR.bt)) (e_worked : DefOk P w K mg base "worked" 6 (S_worked AR.bt)) : DefOk P w K mg base "made_by" 12 (S_made_by AR.bt) := 
  def_rule (k := 9) T F hm sc_made_by (F.bindsN fun _ _ _ _ _ _ us hl => match us, hl with | [_, _, _, _], _ => rfl) (List.forall_mem_cons.mpr ⟨⟨_, 9, f_moved_by, by decide, e_moved_by⟩, List.forall_mem_cons.mpr ⟨⟨_, 6, f_worked, by decide, e_worked⟩, List.forall_mem_nil _⟩⟩) ck_made_by p_made_by
theorem d_names_behind (T : Top P w K mg base (C40 AR.bt) ers cts) (F : FunD K "names_behind" "names_behind" (defArgs (top 49)) (defBody (top 49)) (defScope (top 49)) [] [] f fd) (hm : mg "names_behind" = some (.ref f)) (e_name_of : DefOk P w K mg base "name_of" 3 S_name_of) (e_writes : DefOk P w K mg base "writes" 9 S_writes) (e_look_at_block : DefOk P w K mg base "look_at_block" 15 S_look_at_block) : DefOk P w K mg base "names_behind" 18 S_names_behind := 
  def_rule (k := 15) T F hm sc_names_behind (F.bindsN fun _ _ _ _ _ _ us hl => match us, hl with | [_], _ => rfl) (List.forall_mem_cons.mpr ⟨⟨_, 3, f_name_of, by decide, e_name_of⟩, List.forall_mem_cons.mpr ⟨⟨_, 9, f_writes, by decide, e_writes⟩, List.forall_mem_cons.mpr ⟨⟨_, 15, f_look_at_block, by decide, e_look_at_block⟩, List.forall_mem_nil _⟩⟩⟩) ck_names_behind p_names_behind
theorem d_run_named (T : Top P w K mg base (C40 AR.bt) ers cts) (F : FunD K "run_named" "run_named" (defArgs (top 51)) (defBody (top 51)) (defScope (top 51)) [] [] f fd) (hm : mg "run_named" = some (.ref f)) (e_names_behind : DefOk P w K mg base "names_behind" 18 S_names_behind) (e_made_by : DefOk P w K mg base "made_by" 12 (S_made_by AR.bt)) (e_renamed : DefOk P w K mg base "renamed" 18 S_renamed) (e_is_true_order : DefOk P w K mg base "is_true_order" 30 S_is_true_order) (e_look_at_memory : DefOk P w K mg base "look_at_memory" 12 S_look_at_memory) (e_look_at_registers : DefOk P w K mg base "look_at_registers" 9 S_look_at_registers) : DefOk P w K mg base "run_named" 33 (S_run_named AR.bt) := 
  def_rule (k := 30) T F hm sc_run_named (F.bindsN fun _ _ _ _ _ _ us hl => match us, hl with | [_, _, _, _], _ => rfl) (List.forall_mem_cons.mpr ⟨⟨_, 18, f_names_behind, by decide, e_names_behind⟩, List.forall_mem_cons.mpr ⟨⟨_, 12, f_made_by, by decide, e_made_by⟩, List.forall_mem_cons.mpr ⟨⟨_, 18, f_renamed, by decide, e_renamed⟩, List.forall_mem_cons.mpr ⟨⟨_, 30, f_is_true_order, by decide, e_is_true_order⟩, List.forall_mem_cons.mpr ⟨⟨_, 12, f_look_at_memory, by decide, e_look_at_memory⟩, List.forall_mem_cons.mpr ⟨⟨_, 9, f_look_at_registers, by decide, e_look_at_registers⟩, List.forall_mem_nil _⟩⟩⟩⟩⟩⟩) ck_run_named (p_run_named bits_ok)
theorem d_free (T : Top P w K mg base (C40 AR.bt) ers cts) (F : FunD K "free" "free" (defArgs (top 40)) (defBody (top 40)) (defScope (top 40)) [] [] f fd) (hm : mg "free" = some (.ref f))  : DefOk P w K mg base "free" 3 S_free := 
  def_rule (k := 0) T F hm sc_free (F.bindsN fun _ _ _ _ _ _ us hl => match us, hl with | [_, _, _], _ => rfl) (List.forall_mem_nil _) ck_free p_free
theorem d_all_orders (T : Top P w K mg base (C40 AR.bt) ers cts) (F : FunD K "all_orders" "all_orders" (defArgs (top 39)) (defBody (top 39)) (defScope (top 39)) [] [] f fd) (hm : mg "all_orders" = some (.ref f)) (e_free : DefOk P w K mg base "free" 3 S_free) : DefOk P w K mg base "all_orders" 6 S_all_orders := 
  def_rule (k := 3) T F hm sc_all_orders (F.bindsN fun _ _ _ _ _ _ us hl => match us, hl with | [_, _, _], _ => rfl) (List.forall_mem_cons.mpr ⟨⟨_, 3, f_free, by decide, e_free⟩, List.forall_mem_nil _⟩) ck_all_orders p_all_orders
theorem d_legal_orders (T : Top P w K mg base (C40 AR.bt) ers cts) (F : FunD K "legal_orders" "legal_orders" (defArgs (top 41)) (defBody (top 41)) (defScope (top 41)) [] [] f fd) (hm : mg "legal_orders" = some (.ref f)) (e_all_orders : DefOk P w K mg base "all_orders" 6 S_all_orders) (e_depends : DefOk P w K mg base "depends" 24 S_depends) (e_look_at_block : DefOk P w K mg base "look_at_block" 15 S_look_at_block) : DefOk P w K mg base "legal_orders" 27 S_legal_orders := 
  def_rule (k := 24) T F hm sc_legal_orders (F.bindsN fun _ _ _ _ _ _ us hl => match us, hl with | [_, _], _ => rfl) (List.forall_mem_cons.mpr ⟨⟨_, 6, f_all_orders, by decide, e_all_orders⟩, List.forall_mem_cons.mpr ⟨⟨_, 24, f_depends, by decide, e_depends⟩, List.forall_mem_cons.mpr ⟨⟨_, 15, f_look_at_block, by decide, e_look_at_block⟩, List.forall_mem_nil _⟩⟩⟩) ck_legal_orders p_legal_orders
theorem d_law_start (T : Top P w K mg base (C40 AR.bt) ers cts) (F : FunD K "_law_start" "_law_start" (defArgs (top 63)) (defBody (top 63)) (defScope (top 63)) [] [] f fd) (hm : mg "_law_start" = some (.ref f))  : DefOk P w K mg base "_law_start" 3 S_law_start := 
  def_rule (k := 0) T F hm sc_law_start (F.bindsN fun _ _ _ _ _ _ us hl => match us, hl with | [_], _ => rfl) (List.forall_mem_nil _) ck_law_start p_law_start
theorem d_law_spot (T : Top P w K mg base (C40 AR.bt) ers cts) (F : FunD K "_law_spot" "_law_spot" (defArgs (top 64)) (defBody (top 64)) (defScope (top 64)) [] [] f fd) (hm : mg "_law_spot" = some (.ref f))  : DefOk P w K mg base "_law_spot" 3 S_law_spot := 
  def_rule (k := 0) T F hm sc_law_spot (F.bindsN fun _ _ _ _ _ _ us hl => match us, hl with | [_, _], _ => rfl) (List.forall_mem_nil _) ck_law_spot p_law_spot
theorem d_law_traps (T : Top P w K mg base (C40 AR.bt) ers cts) (F : FunD K "_law_traps" "_law_traps" (defArgs (top 65)) (defBody (top 65)) (defScope (top 65)) [] [] f fd) (hm : mg "_law_traps" = some (.ref f)) (e_law_spot : DefOk P w K mg base "_law_spot" 3 S_law_spot) : DefOk P w K mg base "_law_traps" 6 (S_law_traps AR.bt) := 
  def_rule (k := 3) T F hm sc_law_traps (F.bindsN fun _ _ _ _ _ _ us hl => match us, hl with | [_, _], _ => rfl) (List.forall_mem_cons.mpr ⟨⟨_, 3, f_law_spot, by decide, e_law_spot⟩, List.forall_mem_nil _⟩) ck_law_traps p_law_traps
theorem d_law_signed (T : Top P w K mg base (C40 AR.bt) ers cts) (F : FunD K "_law_signed" "_law_signed" (defArgs (top 60)) (defBody (top 60)) (defScope (top 60)) [] [] f fd) (hm : mg "_law_signed" = some (.ref f))  : DefOk P w K mg base "_law_signed" 3 S_law_signed := 
  def_rule (k := 0) T F hm sc_law_signed (F.bindsN fun _ _ _ _ _ _ us hl => match us, hl with | [_], _ => rfl) (List.forall_mem_nil _) ck_law_signed p_law_signed
theorem d_law_meets (T : Top P w K mg base (C40 AR.bt) ers cts) (F : FunD K "_law_meets" "_law_meets" (defArgs (top 62)) (defBody (top 62)) (defScope (top 62)) [] [] f fd) (hm : mg "_law_meets" = some (.ref f)) (e_law_signed : DefOk P w K mg base "_law_signed" 3 S_law_signed) : DefOk P w K mg base "_law_meets" 6 S_law_meets := 
  def_rule (k := 3) T F hm sc_law_meets (F.bindsN fun _ _ _ _ _ _ us hl => match us, hl with | [_, _, _], _ => rfl) (List.forall_mem_cons.mpr ⟨⟨_, 3, f_law_signed, by decide, e_law_signed⟩, List.forall_mem_nil _⟩) ck_law_meets p_law_meets
theorem d_law_works (T : Top P w K mg base (C40 AR.bt) ers cts) (F : FunD K "_law_works" "_law_works" (defArgs (top 61)) (defBody (top 61)) (defScope (top 61)) [] [] f fd) (hm : mg "_law_works" = some (.ref f)) (e_law_signed : DefOk P w K mg base "_law_signed" 3 S_law_signed) : DefOk P w K mg base "_law_works" 6 (S_law_works AR.bt) := 
  def_rule (k := 3) T F hm sc_law_works (F.bindsN fun _ _ _ _ _ _ us hl => match us, hl with | [_, _, _], _ => rfl) (List.forall_mem_cons.mpr ⟨⟨_, 3, f_law_signed, by decide, e_law_signed⟩, List.forall_mem_nil _⟩) ck_law_works (p_law_works bits_ok)
theorem d_law_step (T : Top P w K mg base (C40 AR.bt) ers cts) (F : FunD K "_law_step" "_law_step" (defArgs (top 66)) (defBody (top 66)) (defScope (top 66)) [] [] f fd) (hm : mg "_law_step" = some (.ref f)) (e_law_spot : DefOk P w K mg base "_law_spot" 3 S_law_spot) (e_law_meets : DefOk P w K mg base "_law_meets" 6 S_law_meets) (e_law_works : DefOk P w K mg base "_law_works" 6 (S_law_works AR.bt)) (e_law_traps : DefOk P w K mg base "_law_traps" 6 (S_law_traps AR.bt)) : DefOk P w K mg base "_law_step" 9 (S_law_step AR.bt) := 
  def_rule (k := 6) T F hm sc_law_step (F.bindsN fun _ _ _ _ _ _ us hl => match us, hl with | [_, _], _ => rfl) (List.forall_mem_cons.mpr ⟨⟨_, 3, f_law_spot, by decide, e_law_spot⟩, List.forall_mem_cons.mpr ⟨⟨_, 6, f_law_meets, by decide, e_law_meets⟩, List.forall_mem_cons.mpr ⟨⟨_, 6, f_law_works, by decide, e_law_works⟩, List.forall_mem_cons.mpr ⟨⟨_, 6, f_law_traps, by decide, e_law_traps⟩, List.forall_mem_nil _⟩⟩⟩⟩) ck_law_step (p_law_step bits_ok)
theorem d_law_done (T : Top P w K mg base (C40 AR.bt) ers cts) (F : FunD K "_law_done" "_law_done" (defArgs (top 79)) (defBody (top 79)) (defScope (top 79)) [] [] f fd) (hm : mg "_law_done" = some (.ref f)) (e_law_step : DefOk P w K mg base "_law_step" 9 (S_law_step AR.bt)) (e_law_start : DefOk P w K mg base "_law_start" 3 S_law_start) : DefOk P w K mg base "_law_done" 12 (S_law_done AR.bt) := 
  def_rule (k := 9) T F hm sc_law_done (F.bindsN fun _ _ _ _ _ _ us hl => match us, hl with | [_, _, _], _ => rfl) (List.forall_mem_cons.mpr ⟨⟨_, 9, f_law_step, by decide, e_law_step⟩, List.forall_mem_cons.mpr ⟨⟨_, 3, f_law_start, by decide, e_law_start⟩, List.forall_mem_nil _⟩⟩) ck_law_done (p_law_done bits_ok)
theorem d_false_pairs (T : Top P w K mg base (C40 AR.bt) ers cts) (F : FunD K "false_pairs" "false_pairs" (defArgs (top 46)) (defBody (top 46)) (defScope (top 46)) [] [] f fd) (hm : mg "false_pairs" = some (.ref f)) (e_depends : DefOk P w K mg base "depends" 24 S_depends) (e_true_pairs : DefOk P w K mg base "true_pairs" 27 S_true_pairs) : DefOk P w K mg base "false_pairs" 30 S_false_pairs := 
  def_rule (k := 27) T F hm sc_false_pairs (F.bindsN fun _ _ _ _ _ _ us hl => match us, hl with | [_], _ => rfl) (List.forall_mem_cons.mpr ⟨⟨_, 24, f_depends, by decide, e_depends⟩, List.forall_mem_cons.mpr ⟨⟨_, 27, f_true_pairs, by decide, e_true_pairs⟩, List.forall_mem_nil _⟩⟩) ck_false_pairs p_false_pairs
theorem d_law_sameN (T : Top P w K mg base (C40 AR.bt) ers cts) (F : FunD K "_law_same" "_law_same" (defArgs (top 57)) (defBody (top 57)) (defScope (top 57)) [] [] f fd) (hm : mg "_law_same" = some (.ref f)) : ∀ n, DefOk P w K mg base "_law_same" (3 * n + 3) (S_law_sameN n)
  | 0 => by
    have T0 : Top P w K mg base { C40 AR.bt with fn := fun _ => some fun _ _ _ _ => False } ers cts := ⟨T.gl, T.bl, T.er, T.ca⟩
    have B : Binds K fd ["actual", "expected"] [] := F.bindsN fun _ _ _ _ _ _ us hl => match us, hl with | [_, _], _ => rfl
    exact def_rule (k := 0) T0 F hm sc_law_same B (List.forall_mem_cons.mpr ⟨⟨_, 0, rfl, by decide, def_none hm F.kp B⟩, List.forall_mem_nil _⟩) ck_law_same p_law_same0
  | n + 1 => by
    have T0 : Top P w K mg base (Csame AR.bt n) ers cts := ⟨T.gl, T.bl, T.er, T.ca⟩
    have e : (Csame AR.bt n).fn "_law_same" = some (S_law_sameN n) := by kernel_rfl
    have B : Binds K fd ["actual", "expected"] [] := F.bindsN fun _ _ _ _ _ _ us hl => match us, hl with | [_, _], _ => rfl
    exact def_rule (k := 3 * n + 3) T0 F hm sc_law_same B (List.forall_mem_cons.mpr ⟨⟨_, 3 * n + 3, e, by omega, d_law_sameN T F hm n⟩, List.forall_mem_nil _⟩) ck_law_same (p_law_same e)
theorem d_law_same (T : Top P w K mg base (C40 AR.bt) ers cts) (F : FunD K "_law_same" "_law_same" (defArgs (top 57)) (defBody (top 57)) (defScope (top 57)) [] [] f fd) (hm : mg "_law_same" = some (.ref f)) : DefOk P w K mg base "_law_same" 27 S_law_same := (d_law_sameN T F hm 8).imp fun ds h Q E q => q
theorem d_law_registers (T : Top P w K mg base (C40 AR.bt) ers cts) (F : FunD K "_law_registers" "_law_registers" (defArgs (top 78)) (defBody (top 78)) (defScope (top 78)) [] [] f fd) (hm : mg "_law_registers" = some (.ref f)) (e_law_pick : DefOk P w K mg base "_law_pick" 6 S_law_pick) (e_law_draw : DefOk P w K mg base "_law_draw" 3 S_law_draw) : DefOk P w K mg base "_law_registers" 9 S_law_registers := 
  def_rule (k := 6) T F hm sc_law_registers (F.bindsN fun _ _ _ _ _ _ us hl => match us, hl with | [_], _ => rfl) (List.forall_mem_cons.mpr ⟨⟨_, 6, f_law_pick, by decide, e_law_pick⟩, List.forall_mem_cons.mpr ⟨⟨_, 3, f_law_draw, by decide, e_law_draw⟩, List.forall_mem_nil _⟩⟩) ck_law_registers p_law_registers
theorem d_law_memory (T : Top P w K mg base (C40 AR.bt) ers cts) (F : FunD K "_law_memory" "_law_memory" (defArgs (top 76)) (defBody (top 76)) (defScope (top 76)) [] [] f fd) (hm : mg "_law_memory" = some (.ref f)) (e_law_pick : DefOk P w K mg base "_law_pick" 6 S_law_pick) (e_law_draw : DefOk P w K mg base "_law_draw" 3 S_law_draw) : DefOk P w K mg base "_law_memory" 9 S_law_memory := 
  def_rule (k := 6) T F hm sc_law_memory (F.bindsN fun _ _ _ _ _ _ us hl => match us, hl with | [_], _ => rfl) (List.forall_mem_cons.mpr ⟨⟨_, 6, f_law_pick, by decide, e_law_pick⟩, List.forall_mem_cons.mpr ⟨⟨_, 3, f_law_draw, by decide, e_law_draw⟩, List.forall_mem_nil _⟩⟩) ck_law_memory p_law_memory
theorem d_law_shuffled (T : Top P w K mg base (C40 AR.bt) ers cts) (F : FunD K "_law_shuffled" "_law_shuffled" (defArgs (top 58)) (defBody (top 58)) (defScope (top 58)) [] [] f fd) (hm : mg "_law_shuffled" = some (.ref f)) (e_law_draw : DefOk P w K mg base "_law_draw" 3 S_law_draw) : DefOk P w K mg base "_law_shuffled" 6 S_law_shuffled := 
  def_rule (k := 3) T F hm sc_law_shuffled (F.bindsN fun _ _ _ _ _ _ us hl => match us, hl with | [_, _], _ => rfl) (List.forall_mem_cons.mpr ⟨⟨_, 3, f_law_draw, by decide, e_law_draw⟩, List.forall_mem_nil _⟩) ck_law_shuffled p_law_shuffled
theorem d_law_gives (T : Top P w K mg base (C40 AR.bt) ers cts) (F : FunD K "_law_gives" "_law_gives" (defArgs (top 70)) (defBody (top 70)) (defScope (top 70)) [] [] f fd) (hm : mg "_law_gives" = some (.ref f))  : DefOk P w K mg base "_law_gives" 3 S_law_gives := 
  def_rule (k := 0) T F hm sc_law_gives (F.bindsN fun _ _ _ _ _ _ us hl => match us, hl with | [_], _ => rfl) (List.forall_mem_nil _) ck_law_gives p_law_gives
theorem d_law_name (T : Top P w K mg base (C40 AR.bt) ers cts) (F : FunD K "_law_name" "_law_name" (defArgs (top 80)) (defBody (top 80)) (defScope (top 80)) [] [] f fd) (hm : mg "_law_name" = some (.ref f)) (e_law_gives : DefOk P w K mg base "_law_gives" 3 S_law_gives) : DefOk P w K mg base "_law_name" 6 S_law_name := 
  def_rule (k := 3) T F hm sc_law_name (F.bindsN fun _ _ _ _ _ _ us hl => match us, hl with | [_, _, _], _ => rfl) (List.forall_mem_cons.mpr ⟨⟨_, 3, f_law_gives, by decide, e_law_gives⟩, List.forall_mem_nil _⟩) ck_law_name p_law_name
theorem d_law_read (T : Top P w K mg base (C40 AR.bt) ers cts) (F : FunD K "_law_read" "_law_read" (defArgs (top 81)) (defBody (top 81)) (defScope (top 81)) [] [] f fd) (hm : mg "_law_read" = some (.ref f))  : DefOk P w K mg base "_law_read" 3 S_law_read := 
  def_rule (k := 0) T F hm sc_law_read (F.bindsN fun _ _ _ _ _ _ us hl => match us, hl with | [_], _ => rfl) (List.forall_mem_nil _) ck_law_read p_law_read
theorem d_law (T : Top P w K mg base (C40 AR.bt) ers cts) (F : FunD K "law" "law" (defArgs (top 82)) (defBody (top 82)) (defScope (top 82)) [] [] f fd) (hm : mg "law" = some (.ref f)) (e_run_named : DefOk P w K mg base "run_named" 33 (S_run_named AR.bt)) (e_all_orders : DefOk P w K mg base "all_orders" 6 S_all_orders) (e_true_pairs : DefOk P w K mg base "true_pairs" 27 S_true_pairs) (e_legal_orders : DefOk P w K mg base "legal_orders" 27 S_legal_orders) (e_false_pairs : DefOk P w K mg base "false_pairs" 30 S_false_pairs) (e_is_true_order : DefOk P w K mg base "is_true_order" 30 S_is_true_order) (e_law_same : DefOk P w K mg base "_law_same" 27 S_law_same) (e_law_shuffled : DefOk P w K mg base "_law_shuffled" 6 S_law_shuffled) (e_law_draw : DefOk P w K mg base "_law_draw" 3 S_law_draw) (e_law_done : DefOk P w K mg base "_law_done" 12 (S_law_done AR.bt)) (e_law_registers : DefOk P w K mg base "_law_registers" 9 S_law_registers) (e_law_memory : DefOk P w K mg base "_law_memory" 9 S_law_memory) (e_depends : DefOk P w K mg base "depends" 24 S_depends) (e_names_behind : DefOk P w K mg base "names_behind" 18 S_names_behind) (e_law_name : DefOk P w K mg base "_law_name" 6 S_law_name) (e_renamed : DefOk P w K mg base "renamed" 18 S_renamed) (e_law_read : DefOk P w K mg base "_law_read" 3 S_law_read) (e_law_gives : DefOk P w K mg base "_law_gives" 3 S_law_gives) (e_law_block : DefOk P w K mg base "_law_block" 15 S_law_block) (e_law_draws : DefOk P w K mg base "_law_draws" 3 S_law_draws) : FnOk P w K mg base (L2.CX P w) 36 f fd ["script"] (lift ⟨K, mg, w⟩ S_law) := 
  def_ruleF (k := 33) T F hm sc_law (F.bindsN fun _ _ _ _ _ _ us hl => match us, hl with | [_], _ => rfl) (List.forall_mem_cons.mpr ⟨⟨_, 33, f_run_named, by decide, e_run_named⟩, List.forall_mem_cons.mpr ⟨⟨_, 6, f_all_orders, by decide, e_all_orders⟩, List.forall_mem_cons.mpr ⟨⟨_, 27, f_true_pairs, by decide, e_true_pairs⟩, List.forall_mem_cons.mpr ⟨⟨_, 27, f_legal_orders, by decide, e_legal_orders⟩, List.forall_mem_cons.mpr ⟨⟨_, 30, f_false_pairs, by decide, e_false_pairs⟩, List.forall_mem_cons.mpr ⟨⟨_, 30, f_is_true_order, by decide, e_is_true_order⟩, List.forall_mem_cons.mpr ⟨⟨_, 27, f_law_same, by decide, e_law_same⟩, List.forall_mem_cons.mpr ⟨⟨_, 6, f_law_shuffled, by decide, e_law_shuffled⟩, List.forall_mem_cons.mpr ⟨⟨_, 3, f_law_draw, by decide, e_law_draw⟩, List.forall_mem_cons.mpr ⟨⟨_, 12, f_law_done, by decide, e_law_done⟩, List.forall_mem_cons.mpr ⟨⟨_, 9, f_law_registers, by decide, e_law_registers⟩, List.forall_mem_cons.mpr ⟨⟨_, 9, f_law_memory, by decide, e_law_memory⟩, List.forall_mem_cons.mpr ⟨⟨_, 24, f_depends, by decide, e_depends⟩, List.forall_mem_cons.mpr ⟨⟨_, 18, f_names_behind, by decide, e_names_behind⟩, List.forall_mem_cons.mpr ⟨⟨_, 6, f_law_name, by decide, e_law_name⟩, List.forall_mem_cons.mpr ⟨⟨_, 18, f_renamed, by decide, e_renamed⟩, List.forall_mem_cons.mpr ⟨⟨_, 3, f_law_read, by decide, e_law_read⟩, List.forall_mem_cons.mpr ⟨⟨_, 3, f_law_gives, by decide, e_law_gives⟩, List.forall_mem_cons.mpr ⟨⟨_, 15, f_law_block, by decide, e_law_block⟩, List.forall_mem_cons.mpr ⟨⟨_, 3, f_law_draws, by decide, e_law_draws⟩, List.forall_mem_nil _⟩⟩⟩⟩⟩⟩⟩⟩⟩⟩⟩⟩⟩⟩⟩⟩⟩⟩⟩⟩) ck_law p_law
end
section
variable {P : Program} {w : World} {K : PySem.W.Frag} {mg : Str → Option Value} {base h : Heap}
theorem cat_one {x : Str} {A : Addr} {cV : Value} {b d : Bool} (hm : mg x = some (.ref A)) (he : PySem.W.exmOne K (.ref A) cV = some b) (hb : b = d) : ∀ C', mg x = some (.ref C') → PySem.W.exmOne K (.ref C') cV = some d := fun C' h => by
  rw [hm] at h
  cases h
  rw [he, hb]
theorem cat_free {x : Str} {cV : Value} {d : Bool} (hm : mg x = none) : ∀ C', mg x = some (.ref C') → PySem.W.exmOne K (.ref C') cV = some d := fun C' h => by
  rw [hm] at h
  cases h
theorem gl_ok (X : K.In h) (G : h.Ns mainGlobals mg) (c : He.SaysT fa fn tbs w K) (e : ex K = true) : GlOk ⟨K, mg, w⟩ (C40 AR.bt) := by
  obtain ⟨_, e⟩ := He.ba e
  obtain ⟨_, e⟩ := He.ba e
  obtain ⟨b1, e⟩ := He.ba e
  obtain ⟨b2, e⟩ := He.ba e
  obtain ⟨b3, e⟩ := He.ba e
  obtain ⟨b4, b5⟩ := He.ba e
  intro x d hx
  refine lookup_all (p := fun x d => ∃ u v, mg x = some u ∧ RelV v u ∧ ∀ H, Rep ⟨K, mg, w⟩ H d v) ?_ hx
  exact List.forall_mem_cons.mpr ⟨gl_int (W := ⟨K, mg, w⟩) (H := fun _ => none) (He.int_ok X G (c.d.fact 66 (f := .int "WRAP" 65536) rfl)),
    List.forall_mem_cons.mpr ⟨gl_int (W := ⟨K, mg, w⟩) (H := fun _ => none) (He.int_ok X G (c.d.fact 67 (f := .int "HALF" 32768) rfl)),
    List.forall_mem_cons.mpr ⟨⟨_, .ref (He.ga K "WORKS"), (He.glo_ok X G (c.d.fact 61 (f := .glo "WORKS") rfl)), rfl, fun H => ktB_ok (W := ⟨K, mg, w⟩) b1 H⟩,
    List.forall_mem_cons.mpr ⟨⟨_, .ref (He.ga K "CONDITIONS"), (He.glo_ok X G (c.d.fact 62 (f := .glo "CONDITIONS") rfl)), rfl, fun H => ktB_ok (W := ⟨K, mg, w⟩) b2 H⟩,
    List.forall_mem_cons.mpr ⟨gl_int (W := ⟨K, mg, w⟩) (H := fun _ => none) (He.int_ok X G (c.d.fact 68 (f := .int "MOST" 60) rfl)),
    List.forall_mem_cons.mpr ⟨gl_int (W := ⟨K, mg, w⟩) (H := fun _ => none) (He.int_ok X G (c.d.fact 69 (f := .int "REGISTERS" 8) rfl)),
    List.forall_mem_cons.mpr ⟨gl_int (W := ⟨K, mg, w⟩) (H := fun _ => none) (He.int_ok X G (c.d.fact 70 (f := .int "MOST_BLOCK" 24) rfl)),
    List.forall_mem_cons.mpr ⟨⟨_, .ref (He.ga K "TRANSFERS"), (He.glo_ok X G (c.d.fact 63 (f := .glo "TRANSFERS") rfl)), rfl, fun H => ktB_ok (W := ⟨K, mg, w⟩) b3 H⟩,
    List.forall_mem_cons.mpr ⟨⟨_, .ref (He.ga K "TRUE"), (He.glo_ok X G (c.d.fact 64 (f := .glo "TRUE") rfl)), rfl, fun H => ktB_ok (W := ⟨K, mg, w⟩) b4 H⟩,
    List.forall_mem_cons.mpr ⟨⟨_, .ref (He.ga K "FORMS"), (He.glo_ok X G (c.d.fact 65 (f := .glo "FORMS") rfl)), rfl, fun H => kdB_ok (W := ⟨K, mg, w⟩) b5 (c.tab 0) H⟩,
    List.forall_mem_nil _⟩⟩⟩⟩⟩⟩⟩⟩⟩⟩
theorem er_BadPlan (X : K.In h) (G : h.Ns mainGlobals mg) (c : He.SaysT fa fn tbs w K) (e : ex K = true) : ErrOk P w K mg base "BadPlan" 1 := by
  obtain ⟨b1, e⟩ := He.ba e
  obtain ⟨b2, e⟩ := He.ba e
  obtain ⟨E, f1, f2⟩ := errB_ok b1 (He.glo_ok X G (c.d.fact 59 (f := .glo "BadPlan") rfl)) (He.glo_ok X G (c.d.fact 57 (f := .glo "AheadError") rfl))
  obtain ⟨fd, F⟩ := c.d.def_ 57 (d := dd_BadPlan) rfl
  have F' : FunD K "__init__" "BadPlan.__init__" (defArgs st_BadPlan) (defBody st_BadPlan) (defScope st_BadPlan) [] [] (He.ma K (He.ga K "BadPlan") "__init__") fd := F
  refine ⟨"AheadError", _, _, _, _, fd, ["self", "word"], E, f1, f2, init_ok (k := 0) (st := st_BadPlan) (fun_ofD F') ⟨rfl, rfl, rfl, by decide +kernel, rfl, by decide +kernel, by decide +kernel⟩ E rfl (by decide +kernel) (by decide +kernel) (by decide +kernel) (by decide +kernel) (fun env => rfl), ?_⟩
  exact F'.bindsN fun _ _ _ _ _ _ us hl => match us, hl with | [_, _], _ => rfl
theorem er_Refused (X : K.In h) (G : h.Ns mainGlobals mg) (c : He.SaysT fa fn tbs w K) (e : ex K = true) : ErrOk P w K mg base "Refused" 1 := by
  obtain ⟨b1, e⟩ := He.ba e
  obtain ⟨b2, e⟩ := He.ba e
  obtain ⟨E, f1, f2⟩ := errB_ok b2 (He.glo_ok X G (c.d.fact 60 (f := .glo "Refused") rfl)) (He.glo_ok X G (c.d.fact 57 (f := .glo "AheadError") rfl))
  obtain ⟨fd, F⟩ := c.d.def_ 58 (d := dd_Refused) rfl
  have F' : FunD K "__init__" "Refused.__init__" (defArgs st_Refused) (defBody st_Refused) (defScope st_Refused) [] [] (He.ma K (He.ga K "Refused") "__init__") fd := F
  refine ⟨"AheadError", _, _, _, _, fd, ["self", "word"], E, f1, f2, init_ok (k := 0) (st := st_Refused) (fun_ofD F') ⟨rfl, rfl, rfl, by decide +kernel, rfl, by decide +kernel, by decide +kernel⟩ E rfl (by decide +kernel) (by decide +kernel) (by decide +kernel) (by decide +kernel) (fun env => rfl), ?_⟩
  exact F'.bindsN fun _ _ _ _ _ _ us hl => match us, hl with | [_, _], _ => rfl
theorem ca_ok (X : K.In h) (G : h.Ns mainGlobals mg) (c : He.SaysT fa fn tbs w K) (e : ex K = true) : CatchOk K mg "BadPlan" := by
  refine ⟨_, (He.glo_ok X G (c.d.fact 59 (f := .glo "BadPlan") rfl)), ?_⟩
  exact List.forall_mem_cons.mpr ⟨cat_one (He.glo_ok X G (c.d.fact 58 (f := .glo "BadState") rfl)) (He.exm_ok (c.d.fact 87 (f := .exm "BadState" "BadPlan" false) rfl)) (by decide +kernel),
    List.forall_mem_cons.mpr ⟨cat_one (He.glo_ok X G (c.d.fact 59 (f := .glo "BadPlan") rfl)) (He.exm_ok (c.d.fact 88 (f := .exm "BadPlan" "BadPlan" true) rfl)) (by decide +kernel),
    List.forall_mem_cons.mpr ⟨cat_free (He.free_ok X G (c.d.fact 85 (f := .free "BadDesign") rfl)),
    List.forall_mem_cons.mpr ⟨cat_one (He.glo_ok X G (c.d.fact 60 (f := .glo "Refused") rfl)) (He.exm_ok (c.d.fact 89 (f := .exm "Refused" "BadPlan" false) rfl)) (by decide +kernel),
    List.forall_mem_cons.mpr ⟨cat_free (He.free_ok X G (c.d.fact 86 (f := .free "BadProgram") rfl)),
    List.forall_mem_nil _⟩⟩⟩⟩⟩
theorem top_ok (X : K.In h) (G : h.Ns mainGlobals mg) (c : He.SaysT fa fn tbs w K) (e : ex K = true) : Top P w K mg base (C40 AR.bt) ers cts where
  gl := gl_ok X G c e
  bl := List.forall_mem_cons.mpr ⟨(He.free_ok X G (c.d.fact 71 (f := .free "len") rfl)), List.forall_mem_cons.mpr ⟨(He.free_ok X G (c.d.fact 72 (f := .free "list") rfl)), List.forall_mem_cons.mpr ⟨(He.free_ok X G (c.d.fact 73 (f := .free "tuple") rfl)), List.forall_mem_cons.mpr ⟨(He.free_ok X G (c.d.fact 74 (f := .free "all") rfl)), List.forall_mem_cons.mpr ⟨(He.free_ok X G (c.d.fact 75 (f := .free "any") rfl)), List.forall_mem_cons.mpr ⟨(He.free_ok X G (c.d.fact 76 (f := .free "sorted") rfl)), List.forall_mem_cons.mpr ⟨(He.free_ok X G (c.d.fact 77 (f := .free "int") rfl)), List.forall_mem_cons.mpr ⟨(He.free_ok X G (c.d.fact 78 (f := .free "dict") rfl)), List.forall_mem_cons.mpr ⟨(He.free_ok X G (c.d.fact 79 (f := .free "isinstance") rfl)), List.forall_mem_cons.mpr ⟨(He.free_ok X G (c.d.fact 80 (f := .free "range") rfl)), List.forall_mem_cons.mpr ⟨(He.free_ok X G (c.d.fact 81 (f := .free "enumerate") rfl)), List.forall_mem_cons.mpr ⟨(He.free_ok X G (c.d.fact 82 (f := .free "zip") rfl)), List.forall_mem_cons.mpr ⟨(He.free_ok X G (c.d.fact 83 (f := .free "bool") rfl)), List.forall_mem_cons.mpr ⟨(He.free_ok X G (c.d.fact 84 (f := .free "str") rfl)), List.forall_mem_nil _⟩⟩⟩⟩⟩⟩⟩⟩⟩⟩⟩⟩⟩⟩
  er := List.forall_mem_cons.mpr ⟨er_BadPlan X G c e, List.forall_mem_cons.mpr ⟨er_Refused X G c e, List.forall_mem_nil _⟩⟩
  ca := List.forall_mem_cons.mpr ⟨ca_ok X G c e, List.forall_mem_nil _⟩
theorem law_ok (X : K.In h) (G : h.Ns mainGlobals mg) (c : He.SaysT fa fn tbs w K) (e : ex K = true) {f : Addr} {fd : FuncData} (F : FunD K "law" "law" (defArgs (top 82)) (defBody (top 82)) (defScope (top 82)) [] [] f fd) (hm : mg "law" = some (.ref f)) : FnOk P w K mg base (L2.CX P w) 36 f fd ["script"] (lift ⟨K, mg, w⟩ S_law) := by
  have T : Top P w K mg base (C40 AR.bt) ers cts := top_ok X G c e
  obtain ⟨fd0, F0⟩ := c.d.def_ 0 (d := dd_law_draws) rfl
  have e_law_draws : DefOk P w K mg base "_law_draws" 3 S_law_draws := d_law_draws T F0 (He.glo_ok X G (c.d.fact 0 (f := .glo "_law_draws") rfl)) 
  obtain ⟨fd1, F1⟩ := c.d.def_ 1 (d := dd_law_draw) rfl
  have e_law_draw : DefOk P w K mg base "_law_draw" 3 S_law_draw := d_law_draw T F1 (He.glo_ok X G (c.d.fact 1 (f := .glo "_law_draw") rfl)) 
  obtain ⟨fd2, F2⟩ := c.d.def_ 2 (d := dd_law_pick) rfl
  have e_law_pick : DefOk P w K mg base "_law_pick" 6 S_law_pick := d_law_pick T F2 (He.glo_ok X G (c.d.fact 2 (f := .glo "_law_pick") rfl)) e_law_draw
  obtain ⟨fd3, F3⟩ := c.d.def_ 3 (d := dd_law_register) rfl
  have e_law_register : DefOk P w K mg base "_law_register" 9 S_law_register := d_law_register T F3 (He.glo_ok X G (c.d.fact 3 (f := .glo "_law_register") rfl)) e_law_pick
  obtain ⟨fd4, F4⟩ := c.d.def_ 4 (d := dd_law_plain) rfl
  have e_law_plain : DefOk P w K mg base "_law_plain" 12 S_law_plain := d_law_plain T F4 (He.glo_ok X G (c.d.fact 4 (f := .glo "_law_plain") rfl)) e_law_register e_law_pick e_law_draw
  obtain ⟨fd5, F5⟩ := c.d.def_ 5 (d := dd_law_block) rfl
  have e_law_block : DefOk P w K mg base "_law_block" 15 S_law_block := d_law_block T F5 (He.glo_ok X G (c.d.fact 5 (f := .glo "_law_block") rfl)) e_law_pick e_law_draw e_law_plain
  obtain ⟨fd6, F6⟩ := c.d.def_ 6 (d := dd_form_of) rfl
  have e_form_of : DefOk P w K mg base "form_of" 3 S_form_of := d_form_of T F6 (He.glo_ok X G (c.d.fact 6 (f := .glo "form_of") rfl)) 
  obtain ⟨fd7, F7⟩ := c.d.def_ 7 (d := dd_is_whole) rfl
  have e_is_whole : DefOk P w K mg base "is_whole" 3 S_is_whole := d_is_whole T F7 (He.glo_ok X G (c.d.fact 7 (f := .glo "is_whole") rfl)) 
  obtain ⟨fd8, F8⟩ := c.d.def_ 8 (d := dd_is_word) rfl
  have e_is_word : DefOk P w K mg base "is_word" 6 S_is_word := d_is_word T F8 (He.glo_ok X G (c.d.fact 8 (f := .glo "is_word") rfl)) e_is_whole
  obtain ⟨fd9, F9⟩ := c.d.def_ 9 (d := dd_is_register) rfl
  have e_is_register : DefOk P w K mg base "is_register" 6 S_is_register := d_is_register T F9 (He.glo_ok X G (c.d.fact 9 (f := .glo "is_register") rfl)) e_is_whole
  obtain ⟨fd10, F10⟩ := c.d.def_ 10 (d := dd_word_wrong) rfl
  have e_word_wrong : DefOk P w K mg base "word_wrong" 9 S_word_wrong := d_word_wrong T F10 (He.glo_ok X G (c.d.fact 10 (f := .glo "word_wrong") rfl)) e_is_register e_is_whole e_is_word e_form_of
  obtain ⟨fd11, F11⟩ := c.d.def_ 11 (d := dd_is_block) rfl
  have e_is_block : DefOk P w K mg base "is_block" 12 S_is_block := d_is_block T F11 (He.glo_ok X G (c.d.fact 11 (f := .glo "is_block") rfl)) e_word_wrong
  obtain ⟨fd12, F12⟩ := c.d.def_ 12 (d := dd_look_at_block) rfl
  have e_look_at_block : DefOk P w K mg base "look_at_block" 15 S_look_at_block := d_look_at_block T F12 (He.glo_ok X G (c.d.fact 12 (f := .glo "look_at_block") rfl)) e_is_block
  obtain ⟨fd13, F13⟩ := c.d.def_ 13 (d := dd_registers_in) rfl
  have e_registers_in : DefOk P w K mg base "registers_in" 6 S_registers_in := d_registers_in T F13 (He.glo_ok X G (c.d.fact 13 (f := .glo "registers_in") rfl)) e_form_of
  obtain ⟨fd14, F14⟩ := c.d.def_ 14 (d := dd_writes) rfl
  have e_writes : DefOk P w K mg base "writes" 9 S_writes := d_writes T F14 (He.glo_ok X G (c.d.fact 14 (f := .glo "writes") rfl)) e_registers_in
  obtain ⟨fd15, F15⟩ := c.d.def_ 15 (d := dd_last_writers) rfl
  have e_last_writers : DefOk P w K mg base "last_writers" 12 S_last_writers := d_last_writers T F15 (He.glo_ok X G (c.d.fact 15 (f := .glo "last_writers") rfl)) e_writes
  obtain ⟨fd16, F16⟩ := c.d.def_ 16 (d := dd_reads) rfl
  have e_reads : DefOk P w K mg base "reads" 9 S_reads := d_reads T F16 (He.glo_ok X G (c.d.fact 16 (f := .glo "reads") rfl)) e_registers_in
  obtain ⟨fd17, F17⟩ := c.d.def_ 17 (d := dd_place_of) rfl
  have e_place_of : DefOk P w K mg base "place_of" 15 S_place_of := d_place_of T F17 (He.glo_ok X G (c.d.fact 17 (f := .glo "place_of") rfl)) e_last_writers
  obtain ⟨fd18, F18⟩ := c.d.def_ 18 (d := dd_are_apart) rfl
  have e_are_apart : DefOk P w K mg base "are_apart" 18 S_are_apart := d_are_apart T F18 (He.glo_ok X G (c.d.fact 18 (f := .glo "are_apart") rfl)) e_place_of
  obtain ⟨fd19, F19⟩ := c.d.def_ 19 (d := dd_touch_alike) rfl
  have e_touch_alike : DefOk P w K mg base "touch_alike" 21 S_touch_alike := d_touch_alike T F19 (He.glo_ok X G (c.d.fact 19 (f := .glo "touch_alike") rfl)) e_are_apart
  obtain ⟨fd20, F20⟩ := c.d.def_ 20 (d := dd_depends) rfl
  have e_depends : DefOk P w K mg base "depends" 24 S_depends := d_depends T F20 (He.glo_ok X G (c.d.fact 20 (f := .glo "depends") rfl)) e_touch_alike e_writes e_reads e_last_writers e_look_at_block
  obtain ⟨fd21, F21⟩ := c.d.def_ 21 (d := dd_look_at_registers) rfl
  have e_look_at_registers : DefOk P w K mg base "look_at_registers" 9 S_look_at_registers := d_look_at_registers T F21 (He.glo_ok X G (c.d.fact 21 (f := .glo "look_at_registers") rfl)) e_is_word
  obtain ⟨fd22, F22⟩ := c.d.def_ 22 (d := dd_is_memory) rfl
  have e_is_memory : DefOk P w K mg base "is_memory" 9 S_is_memory := d_is_memory T F22 (He.glo_ok X G (c.d.fact 22 (f := .glo "is_memory") rfl)) e_is_word
  obtain ⟨fd23, F23⟩ := c.d.def_ 23 (d := dd_look_at_memory) rfl
  have e_look_at_memory : DefOk P w K mg base "look_at_memory" 12 S_look_at_memory := d_look_at_memory T F23 (He.glo_ok X G (c.d.fact 23 (f := .glo "look_at_memory") rfl)) e_is_memory
  obtain ⟨fd24, F24⟩ := c.d.def_ 24 (d := dd_is_order) rfl
  have e_is_order : DefOk P w K mg base "is_order" 6 S_is_order := d_is_order T F24 (He.glo_ok X G (c.d.fact 24 (f := .glo "is_order") rfl)) e_is_whole
  obtain ⟨fd25, F25⟩ := c.d.def_ 25 (d := dd_keeps) rfl
  have e_keeps : DefOk P w K mg base "keeps" 3 S_keeps := d_keeps T F25 (He.glo_ok X G (c.d.fact 25 (f := .glo "keeps") rfl)) 
  obtain ⟨fd26, F26⟩ := c.d.def_ 26 (d := dd_true_pairs) rfl
  have e_true_pairs : DefOk P w K mg base "true_pairs" 27 S_true_pairs := d_true_pairs T F26 (He.glo_ok X G (c.d.fact 26 (f := .glo "true_pairs") rfl)) e_depends
  obtain ⟨fd27, F27⟩ := c.d.def_ 27 (d := dd_is_true_order) rfl
  have e_is_true_order : DefOk P w K mg base "is_true_order" 30 S_is_true_order := d_is_true_order T F27 (He.glo_ok X G (c.d.fact 27 (f := .glo "is_true_order") rfl)) e_keeps e_true_pairs e_is_order e_look_at_block
  obtain ⟨fd28, F28⟩ := c.d.def_ 28 (d := dd_name_of) rfl
  have e_name_of : DefOk P w K mg base "name_of" 3 S_name_of := d_name_of T F28 (He.glo_ok X G (c.d.fact 28 (f := .glo "name_of") rfl)) 
  obtain ⟨fd29, F29⟩ := c.d.def_ 29 (d := dd_renamed) rfl
  have e_renamed : DefOk P w K mg base "renamed" 18 S_renamed := d_renamed T F29 (He.glo_ok X G (c.d.fact 29 (f := .glo "renamed") rfl)) e_last_writers e_writes e_form_of e_name_of e_look_at_block
  obtain ⟨fd30, F30⟩ := c.d.def_ 30 (d := dd_signed) rfl
  have e_signed : DefOk P w K mg base "signed" 3 S_signed := d_signed T F30 (He.glo_ok X G (c.d.fact 30 (f := .glo "signed") rfl)) 
  obtain ⟨fd31, F31⟩ := c.d.def_ 31 (d := dd_holds) rfl
  have e_holds : DefOk P w K mg base "holds" 6 S_holds := d_holds T F31 (He.glo_ok X G (c.d.fact 31 (f := .glo "holds") rfl)) e_signed
  obtain ⟨fd32, F32⟩ := c.d.def_ 32 (d := dd_moved_by) rfl
  have e_moved_by : DefOk P w K mg base "moved_by" 9 (S_moved_by AR.bt) := d_moved_by T F32 (He.glo_ok X G (c.d.fact 32 (f := .glo "moved_by") rfl)) e_holds
  obtain ⟨fd33, F33⟩ := c.d.def_ 33 (d := dd_worked) rfl
  have e_worked : DefOk P w K mg base "worked" 6 (S_worked AR.bt) := d_worked T F33 (He.glo_ok X G (c.d.fact 33 (f := .glo "worked") rfl)) e_signed
  obtain ⟨fd34, F34⟩ := c.d.def_ 34 (d := dd_made_by) rfl
  have e_made_by : DefOk P w K mg base "made_by" 12 (S_made_by AR.bt) := d_made_by T F34 (He.glo_ok X G (c.d.fact 34 (f := .glo "made_by") rfl)) e_moved_by e_worked
  obtain ⟨fd35, F35⟩ := c.d.def_ 35 (d := dd_names_behind) rfl
  have e_names_behind : DefOk P w K mg base "names_behind" 18 S_names_behind := d_names_behind T F35 (He.glo_ok X G (c.d.fact 35 (f := .glo "names_behind") rfl)) e_name_of e_writes e_look_at_block
  obtain ⟨fd36, F36⟩ := c.d.def_ 36 (d := dd_run_named) rfl
  have e_run_named : DefOk P w K mg base "run_named" 33 (S_run_named AR.bt) := d_run_named T F36 (He.glo_ok X G (c.d.fact 36 (f := .glo "run_named") rfl)) e_names_behind e_made_by e_renamed e_is_true_order e_look_at_memory e_look_at_registers
  obtain ⟨fd37, F37⟩ := c.d.def_ 37 (d := dd_free) rfl
  have e_free : DefOk P w K mg base "free" 3 S_free := d_free T F37 (He.glo_ok X G (c.d.fact 37 (f := .glo "free") rfl)) 
  obtain ⟨fd38, F38⟩ := c.d.def_ 38 (d := dd_all_orders) rfl
  have e_all_orders : DefOk P w K mg base "all_orders" 6 S_all_orders := d_all_orders T F38 (He.glo_ok X G (c.d.fact 38 (f := .glo "all_orders") rfl)) e_free
  obtain ⟨fd39, F39⟩ := c.d.def_ 39 (d := dd_legal_orders) rfl
  have e_legal_orders : DefOk P w K mg base "legal_orders" 27 S_legal_orders := d_legal_orders T F39 (He.glo_ok X G (c.d.fact 39 (f := .glo "legal_orders") rfl)) e_all_orders e_depends e_look_at_block
  obtain ⟨fd40, F40⟩ := c.d.def_ 40 (d := dd_law_start) rfl
  have e_law_start : DefOk P w K mg base "_law_start" 3 S_law_start := d_law_start T F40 (He.glo_ok X G (c.d.fact 40 (f := .glo "_law_start") rfl)) 
  obtain ⟨fd41, F41⟩ := c.d.def_ 41 (d := dd_law_spot) rfl
  have e_law_spot : DefOk P w K mg base "_law_spot" 3 S_law_spot := d_law_spot T F41 (He.glo_ok X G (c.d.fact 41 (f := .glo "_law_spot") rfl)) 
  obtain ⟨fd42, F42⟩ := c.d.def_ 42 (d := dd_law_traps) rfl
  have e_law_traps : DefOk P w K mg base "_law_traps" 6 (S_law_traps AR.bt) := d_law_traps T F42 (He.glo_ok X G (c.d.fact 42 (f := .glo "_law_traps") rfl)) e_law_spot
  obtain ⟨fd43, F43⟩ := c.d.def_ 43 (d := dd_law_signed) rfl
  have e_law_signed : DefOk P w K mg base "_law_signed" 3 S_law_signed := d_law_signed T F43 (He.glo_ok X G (c.d.fact 43 (f := .glo "_law_signed") rfl)) 
  obtain ⟨fd44, F44⟩ := c.d.def_ 44 (d := dd_law_meets) rfl
  have e_law_meets : DefOk P w K mg base "_law_meets" 6 S_law_meets := d_law_meets T F44 (He.glo_ok X G (c.d.fact 44 (f := .glo "_law_meets") rfl)) e_law_signed
  obtain ⟨fd45, F45⟩ := c.d.def_ 45 (d := dd_law_works) rfl
  have e_law_works : DefOk P w K mg base "_law_works" 6 (S_law_works AR.bt) := d_law_works T F45 (He.glo_ok X G (c.d.fact 45 (f := .glo "_law_works") rfl)) e_law_signed
  obtain ⟨fd46, F46⟩ := c.d.def_ 46 (d := dd_law_step) rfl
  have e_law_step : DefOk P w K mg base "_law_step" 9 (S_law_step AR.bt) := d_law_step T F46 (He.glo_ok X G (c.d.fact 46 (f := .glo "_law_step") rfl)) e_law_spot e_law_meets e_law_works e_law_traps
  obtain ⟨fd47, F47⟩ := c.d.def_ 47 (d := dd_law_done) rfl
  have e_law_done : DefOk P w K mg base "_law_done" 12 (S_law_done AR.bt) := d_law_done T F47 (He.glo_ok X G (c.d.fact 47 (f := .glo "_law_done") rfl)) e_law_step e_law_start
  obtain ⟨fd48, F48⟩ := c.d.def_ 48 (d := dd_false_pairs) rfl
  have e_false_pairs : DefOk P w K mg base "false_pairs" 30 S_false_pairs := d_false_pairs T F48 (He.glo_ok X G (c.d.fact 48 (f := .glo "false_pairs") rfl)) e_depends e_true_pairs
  obtain ⟨fd49, F49⟩ := c.d.def_ 49 (d := dd_law_same) rfl
  have e_law_same : DefOk P w K mg base "_law_same" 27 S_law_same := d_law_same T F49 (He.glo_ok X G (c.d.fact 49 (f := .glo "_law_same") rfl)) 
  obtain ⟨fd50, F50⟩ := c.d.def_ 50 (d := dd_law_registers) rfl
  have e_law_registers : DefOk P w K mg base "_law_registers" 9 S_law_registers := d_law_registers T F50 (He.glo_ok X G (c.d.fact 50 (f := .glo "_law_registers") rfl)) e_law_pick e_law_draw
  obtain ⟨fd51, F51⟩ := c.d.def_ 51 (d := dd_law_memory) rfl
  have e_law_memory : DefOk P w K mg base "_law_memory" 9 S_law_memory := d_law_memory T F51 (He.glo_ok X G (c.d.fact 51 (f := .glo "_law_memory") rfl)) e_law_pick e_law_draw
  obtain ⟨fd52, F52⟩ := c.d.def_ 52 (d := dd_law_shuffled) rfl
  have e_law_shuffled : DefOk P w K mg base "_law_shuffled" 6 S_law_shuffled := d_law_shuffled T F52 (He.glo_ok X G (c.d.fact 52 (f := .glo "_law_shuffled") rfl)) e_law_draw
  obtain ⟨fd53, F53⟩ := c.d.def_ 53 (d := dd_law_gives) rfl
  have e_law_gives : DefOk P w K mg base "_law_gives" 3 S_law_gives := d_law_gives T F53 (He.glo_ok X G (c.d.fact 53 (f := .glo "_law_gives") rfl)) 
  obtain ⟨fd54, F54⟩ := c.d.def_ 54 (d := dd_law_name) rfl
  have e_law_name : DefOk P w K mg base "_law_name" 6 S_law_name := d_law_name T F54 (He.glo_ok X G (c.d.fact 54 (f := .glo "_law_name") rfl)) e_law_gives
  obtain ⟨fd55, F55⟩ := c.d.def_ 55 (d := dd_law_read) rfl
  have e_law_read : DefOk P w K mg base "_law_read" 3 S_law_read := d_law_read T F55 (He.glo_ok X G (c.d.fact 55 (f := .glo "_law_read") rfl)) 
  exact d_law T F hm e_run_named e_all_orders e_true_pairs e_legal_orders e_false_pairs e_is_true_order e_law_same e_law_shuffled e_law_draw e_law_done e_law_registers e_law_memory e_depends e_names_behind e_law_name e_renamed e_law_read e_law_gives e_law_block e_law_draws
end
end K40
end

section
set_option Elab.async false
set_option linter.all false
set_option maxRecDepth 100000
set_option maxHeartbeats 0
/-! K40z: the end. -/
namespace K40
open PySem PySem.Spec PyProof.Rows L2 AR
/-- the end, the exceptions' context by the world -/
theorem walk_end {l : PySem.W.OpenLaw} {n k : Nat} {q : Program} {loose : List Str} {XP : (Str → Option Value) → Heap → Prop} {YP : World → Heap → Prop} {d : DefRec} {x : Str}
    (hn : l.most = some n) (hn2 : n ≤ sizeLine) (hdf : d.params.defaults = []) (hr : Room k callerA)
    (F : ∀ (w : World) (mg : Str → Option Value) (fa : Addr) (h : Heap), YP w h → h.Ns mainGlobals mg → mg d.name = some (.ref fa) →
      ∃ (K : PySem.W.Frag) (fd : FuncData) (sp : Sp), K.In h ∧ (∀ (s : Shared) (u : Value), BindsTo s fd ⟨[u], []⟩ [(x, u)]) ∧
        (∀ (H : Hp) (a : Addr) (ns : List Int), ns.length ≤ n → Only H → SqL K H a (ns.map V.int) → sp [.ref a] H (fun v _ => v = .bl true) fun _ _ _ => False) ∧
        ∀ base : Heap, K.In base → base.Ns mainGlobals mg → FnOk l.prog w K mg base (L2.CX l.prog w) k fa fd [x] sp) :
    PySem.W.WalkO q loose XP YP l.row.toRowW d [] (fun f vs => PySem.call f vs) := by
  refine Att.attach_call hn hdf fun w s₀ s₁ mg mb fa o pm cd doc a vs ns G Y ho hd hcd hmg hobj hints hlen hg => ?_
  obtain ⟨K, fd, sp, KX, hb, hsp, hF⟩ := F w mg fa _ Y G.T.g hmg
  exact law_call KX G.T.g G.T.b G.T.builtins G.T.nolimit hg hobj hints (Nat.le_trans hlen hn2) hr hF hb (fun H hO hS => hsp H a ns hlen hO hS) fun H e s' ⟨_, _, _, _, _, _, _, _, _, _, _, _, z⟩ => z
theorem reps_int {W : Wd} {H : Hp} : ∀ ns : List Int, Reps W H (ns.map D.int) (ns.map V.int)
  | [] => .nil
  | i :: r => .cons (.int i) (reps_int r)
theorem law_sp {K : PySem.W.Frag} {mg : Str → Option Value} {w : World} {H : Hp} {a : Addr} {ns : List Int} (hO : Only H) (hS : SqL K H a (ns.map V.int)) : lift ⟨K, mg, w⟩ S_law [.ref a] H (fun v _ => v = .bl true) fun _ _ _ => False := by
  refine ⟨[.rl (ns.map .int)], fun _ => none, fun d _ => d = .bl true, fun _ _ => False, fun a c e => (nomatch e), .cons (.rl (vs := ns.map V.int) ?_ ?_) .nil, ⟨ns, rfl, rfl⟩, fun d h' v H' _ _ r e => ?_, ?_⟩
  · rcases hS with hS | hS
    · rcases hS with hS | ⟨o, hS⟩
      · rcases hO a with hn | ⟨o, xs, hn⟩
        · rw [hn] at hS; cases hS
        · rw [hn] at hS; cases hS
      · exact .inl ⟨o, hS⟩
    · exact .inr fun H' => .inr hS
  · exact reps_int ns
  · subst e
    cases r
    rfl
  · intros
    assumption
theorem law_end {P : Program} {w : World} {K : PySem.W.Frag} {h : Heap} {mg : Str → Option Value} {fa : Addr} (X : K.In h) (G : h.Ns mainGlobals mg) (hmg : mg "law" = some (.ref fa)) (c : He.SaysT K40.fa fn tbs w K) (e : ex K = true) :
    ∃ (K : PySem.W.Frag) (fd : FuncData) (sp : Sp), K.In h ∧ (∀ (s : Shared) (u : Value), BindsTo s fd ⟨[u], []⟩ [("script", u)]) ∧
        (∀ (H : Hp) (a : Addr) (ns : List Int), ns.length ≤ 63 → Only H → SqL K H a (ns.map V.int) → sp [.ref a] H (fun v _ => v = .bl true) fun _ _ _ => False) ∧
        ∀ base : Heap, K.In base → base.Ns mainGlobals mg → FnOk P w K mg base (L2.CX P w) 36 fa fd ["script"] sp := by
  obtain ⟨fd, F⟩ := c.d.def_ 56 (d := dd_law) rfl
  have e2 := hmg.symm.trans (He.glo_ok X G (c.d.fact 56 (f := .glo "law") rfl))
  cases e2
  have b := FunD.bindsA (ps := ["script"]) F fun _ _ _ _ _ _ us hl => match us, hl with | [_], _ => rfl
  refine ⟨K, fd, lift ⟨K, mg, w⟩ S_law, X, fun s v => b s [v] rfl, fun H a ns _ hO hS => law_sp hO hS, fun base _ _ => ?_⟩
  exact law_ok X G c e F hmg
end K40
open PySem PySem.W PySem.Calls PyProof.Rows
theorem PySem.Challenge.cw_aheadright_k40_whole_registers_named_ane_holds : PySem.Challenge.rw_aheadright_k40_whole_registers_named_ane.Holds := by
  w_on; o_law
  refine HandSHeadRun.head_any (r := OpenLaw.row PySem.Challenge.rw_aheadright_k40_whole_registers_named_ane) (q := view (OpenLaw.row PySem.Challenge.rw_aheadright_k40_whole_registers_named_ane).prog [82]) (H := K40.hk) (ob := K40.ob) (M := 12000) (loose := K40.names) (d := HandSHeadRun.topDef (OpenLaw.row PySem.Challenge.rw_aheadright_k40_whole_registers_named_ane).prog 82) (kwd := []) K40.ob_eq
    (by kernel_rfl) (fun s => by kernel_rfl) K40.run (by kernel_rfl) (by kernel_rfl) (by kernel_rfl) (by rfl) (by first | assumption | decide +kernel) (by decide +kernel) ⟨rfl, rfl, rfl, rfl, rfl, by decide +kernel⟩ ?hw ?hc
  case hw => w_witness2
  case hc =>
    refine K40.walk_end (l := PySem.Challenge.rw_aheadright_k40_whole_registers_named_ane) (n := 63) (k := 36) (x := "script") rfl (by decide) (by kernel_rfl) ⟨rfl, by decide, by decide⟩ ?F
    intro w mg fa h Y G hmg0
    obtain ⟨K, KX, c, e⟩ := Y
    have hmg : mg ("law" : PySem.Str) = some (.ref fa) := by
      have e : (HandSHeadRun.topDef (OpenLaw.row PySem.Challenge.rw_aheadright_k40_whole_registers_named_ane).prog 82).name = ("law" : PySem.Str) := by kernel_rfl
      rw [← e]
      exact hmg0
    exact K40.law_end KX G hmg c e
end
