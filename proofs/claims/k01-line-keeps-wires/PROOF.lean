import PyProof.Rows.All
import Wide.All
import OpenK.AllK
import Wide.FinOn
import HandS.ForMost
import PyProof.ReprReads
import PyProof.ReprRoads
import HandS.ExcInit
import HandS.ForExc
import HandS.Deep
import HandS.More
import HandS.Conv
import HandS.IsInst
import HandS.SortInts
import HandS.SortOrd
import HandS.ExcField
import HandS.ExcIs
import HandS.CallSlots
import HandS.Ends
import HandS.Flow
import HandS.MakeKw
import HandS.MakeKwOnly
import HandS.Comp
import HandS.TryMany
import HandS.WordsExc
import KE.KExcSuper
import HandS.ExcSuper
import HandS.FStr
import PySem.Challenge.RW_surerails_k01_line_keeps_wires
import PyProof.FitsInt
set_option linter.all false
set_option Elab.async false
/-! MiLang: a small language of slots and numbers, its values, its heap and its interpreter. Plain Lean; nothing of Python's machine is spoken of here. -/
namespace Mi
open PySem

/-- values: tuples are values, and so is a list of ints that is only read (the script), and an error (its class, its fields' names, the newest first, and values); lists, dicts and objects are places -/
inductive AV where
  | non | bl (b : Bool) | int (i : Int) | str (s : Str) | ref (a : Nat) | tup (xs : List AV) | frl (ns : List Int) | xcp (c : Nat) (ks : List Nat) (xs : List AV)
/-- what stands at a place: a list; a dict (keys ints and texts | tuples of them); an object of a class with its fields in the order in which they came -/
inductive AO where
  | lst (xs : List AV) | dK (kvs : List (L2.Key × AV)) | dT (kvs : List (List L2.Key × AV)) | ins (c : Nat) (fs : List (Nat × AV))
structure AH where
  n : Nat
  m : Nat → AO
namespace AH
def get (h : AH) (a : Nat) : Option AO := if a < h.n then some (h.m a) else none
def push (h : AH) (o : AO) : AH := ⟨h.n + 1, fun a => if a = h.n then o else h.m a⟩
def put (h : AH) (a : Nat) (o : AO) : AH := ⟨h.n, fun b => if b = a then o else h.m b⟩
variable {h : AH} {a b : Nat} {o u : AO}
theorem get_lt (e : h.get a = some o) : a < h.n := by
  unfold get at e
  split at e
  · assumption
  · cases e
theorem get_m (e : h.get a = some o) : h.m a = o := by
  unfold get at e
  split at e
  · exact Option.some.inj e
  · cases e
theorem get_of (l : a < h.n) : h.get a = some (h.m a) := if_pos l
@[simp] theorem n_push : (h.push o).n = h.n + 1 := rfl
@[simp] theorem n_put : (h.put a o).n = h.n := rfl
@[simp] theorem get_push_new : (h.push o).get h.n = some o := by simp [get, push]
theorem get_push_old (e : h.get a = some u) : (h.push o).get a = some u := by
  have l := get_lt e
  have q := get_m e
  have ne : a ≠ h.n := Nat.ne_of_lt l
  simp [get, push, ne, q]
  omega
theorem get_push_ne (e : a ≠ h.n) : (h.push o).get a = h.get a := by
  unfold get push
  simp only [e, if_false]
  by_cases l : a < h.n
  · simp [l, Nat.lt_succ_of_lt l]
  · have : ¬ a < h.n + 1 := by omega
    simp [l, this]
theorem get_put_same (e : h.get a = some u) : (h.put a o).get a = some o := by
  have l := get_lt e
  simp [get, put, l]
theorem get_put_ne (e : b ≠ a) : (h.put a o).get b = h.get b := by
  simp [get, put, e]
end AH

abbrev Frame := List (Option AV)
inductive Res (α : Type) where
  | ok (a : α) (h : AH) | exc (c : Nat) (fs : List (Nat × AV)) (h : AH) | bad
def Res.bind {α β : Type} (r : Res α) (f : α → AH → Res β) : Res β := match r with
  | .ok a h => f a h
  | .exc c fs h => .exc c fs h
  | .bad => .bad
@[simp] theorem Res.bind_ok {α β : Type} {a : α} {h : AH} {f : α → AH → Res β} : (Res.ok a h).bind f = f a h := rfl
@[simp] theorem Res.bind_exc {α β : Type} {c fs} {h : AH} {f : α → AH → Res β} : (Res.exc c fs h : Res α).bind f = .exc c fs h := rfl
@[simp] theorem Res.bind_bad {α β : Type} {f : α → AH → Res β} : (Res.bad : Res α).bind f = .bad := rfl
def ofO {α : Type} : Option (α × AH) → Res α
  | some (a, h) => .ok a h
  | none => .bad
@[simp] theorem ofO_some {α : Type} {a : α} {h : AH} : ofO (some (a, h)) = .ok a h := rfl
@[simp] theorem ofO_none {α : Type} : (ofO none : Res α) = .bad := rfl

/-- a bound that is never reckoned out (great numbers) -/
def Grd (p : Prop) : Prop := p
/-! ### operations on values -/
def truth (v : AV) (h : AH) : Option Bool := match v with
  | .non => some false
  | .bl b => some b
  | .int i => some (i != 0)
  | .str s => if s.length ≤ sizeLine then some (s.length != 0) else none
  | .tup xs => some (!xs.isEmpty)
  | .frl ns => some (!ns.isEmpty)
  | .xcp _ _ _ => none
  | .ref a => match h.get a with
    | some (.lst xs) => some (!xs.isEmpty)
    | some (.dK kvs) => some (!kvs.isEmpty)
    | _ => none
/-- a list that may be read -/
def rdL (h : AH) (v : AV) : Option (List AV) := match v with
  | .ref a => match h.get a with
    | some (.lst xs) => some xs
    | _ => none
  | .frl ns => some (ns.map .int)
  | _ => none
/-- a list or a tuple -/
def rdS (h : AH) (v : AV) : Option (List AV) := match v with
  | .tup xs => some xs
  | v => rdL h v
def mapO {α β : Type} (f : α → Option β) : List α → Option (List β)
  | [] => some []
  | x :: xs => (f x).bind fun d => (mapO f xs).map fun ds => d :: ds
/-- the data that a value is, lists and tuples to a depth -/
def dat (h : AH) : Nat → AV → Option PyData
  | 0, v => match v with
    | .non => some .none
    | .bl b => some (.bool b)
    | .int i => some (.int i)
    | .str s => if PyData.strOk s then some (.str s) else none
    | _ => none
  | n + 1, v => match v with
    | .non => some .none
    | .bl b => some (.bool b)
    | .int i => some (.int i)
    | .str s => if PyData.strOk s then some (.str s) else none
    | .tup xs => (mapO (dat h n) xs).map .tuple
    | .ref a => match rdL h (.ref a) with
      | some xs => (mapO (dat h n) xs).map .list
      | none => none
    | .frl ns => some (.list (ns.map .int))
    | .xcp _ _ _ => none
/-- a key of a dict -/
def keyOf : AV → Option L2.Key
  | .int i => some (.inl i)
  | .str s => some (.inr s)
  | _ => none
def tkeyOf : AV → Option (List L2.Key)
  | .tup (x :: xs) => mapO keyOf (x :: xs)
  | _ => none

def keyAV : L2.Key → AV
  | .inl i => .int i
  | .inr x => .str x
/-- what list(..) takes: a list, a tuple, a dict's keys -/
def lsS (h : AH) (v : AV) : Option (List AV) := match v with
  | .ref a => match h.get a with
    | some (.dK kvs) => some (kvs.map fun kv => keyAV kv.1)
    | some (.dT kvs) => some (kvs.map fun kv => .tup (kv.1.map keyAV))
    | some (.lst xs) => some xs
    | _ => none
  | v => rdS h v

/-! ### code -/
inductive KD where
  | kint | kbool | kstr | klist | ktup | kval | kcls (c : Nat)
inductive O1 where
  | not | neg | isN | notN | len | list | tuple | int | abs | all | any | sum | sorted | repr | str | fld (f : Nat) | isi (ks : List KD)
inductive O2 where
  | add | sub | mul | fdiv | mod | pow | eq | ne | lt | le | gt | ge | inn | notin | ix | max | min
inductive BM where
  | append | pop | extend | insert
mutual
inductive T where
  | nm (i : Nat) | tp (ts : Ts)
inductive Ts where
  | nil | cons (t : T) (r : Ts)
end
mutual
inductive E where
  | var (i : Nat) | con (v : AV) | o1 (o : O1) (a : E) | o2 (o : O2) (a b : E)
  | sl (a : E) (lo hi : OE) | chn (o o' : O2) (a b c : E) | and_ (a b : E) | or_ (a b : E) | ife (c a b : E)
  | tup (as : Es) | lst (as : Es) | dnew (t : Bool) | call (f : Nat) (as : Es) | meth (m : Nat) (o : E) (as : Es) | new (c : Nat) (as : Es) | newx (c : Nat) (as : Es)
  | callK (f sh : Nat) (as ks : Es) | methK (m sh : Nat) (o : E) (as ks : Es) | newK (c sh : Nat) (as ks : Es)
  | bm (m : BM) (o : E) (as : Es) | lc (t : T) (it : It) (cnd : OE) (elt : E)
inductive Es where
  | nil | cons (e : E) (r : Es)
inductive OE where
  | non | som (e : E)
inductive It where
  | of (a : E) | rng1 (a : E) | rng2 (a b : E) | zip (a b : E) | enum (a : E)
end
mutual
inductive S where
  | expr (e : E) | asg (t : T) (e : E) | asgF (o : E) (f : Nat) (e : E) | asgS (o i e : E) | aug (i : Nat) (o : O2) (e : E)
  | ite (c : E) (a b : Ss) | for_ (t : T) (it : It) (b : Ss) | whl (c : E) (b : Ss) | ret (e : E) | retN | brk | cnt | pass
  | rais (c : Nat) (as : Es) | try_ (b : Ss) (hs : Hs)
inductive Ss where
  | nil | cons (s : S) (r : Ss)
inductive Hs where
  | nil | cons (c : Nat) (i : Option Nat) (b : Ss) (r : Hs)
end

/-! ### the interpreter -/
/-- where a parameter's value comes from: a written value, a default -/
inductive PL where
  | arg (i : Nat) | dfl (v : AV)
def place (vs : List AV) : List PL → Option (List AV)
  | [] => some []
  | .arg i :: r => vs[i]?.bind fun v => (place vs r).map fun l => v :: l
  | .dfl v :: r => (place vs r).map fun l => v :: l
def placeS (sp : Option (Nat × Nat × List PL)) (vs ws : List AV) : Option (List AV) := sp.bind fun p => if vs.length = p.1 ∧ ws.length = p.2.1 then place (vs ++ ws) p.2.2 else none
/-- what the run of a body leans on: the calls (function, values, heap), classes' methods and makers, which class of errors lies below which, the fields of errors (field, its list copied), the fields of classes, the ordinary classes, the fields of errors' classes, errors' classes, how long a while may run -/
structure PG where
  call : Nat → List AV → AH → Res AV
  mt : Nat → Nat → Option Nat
  ini : Nat → Option Nat
  sub : Nat → Nat → Bool
  exf : Nat → Option (List (Nat × Bool))
  fa : Nat → Nat → Bool
  ic : Nat → Bool
  fx : Nat → Nat → Bool
  ex : Nat → Bool
  shp : Nat → Option (Nat × Nat × List PL)
  sok : Nat → Nat → Bool
  pln : Nat → Bool
  fuel : Nat

def clsOf (h : AH) : AV → Option (Nat × List (Nat × AV))
  | .ref a => match h.get a with
    | some (.ins c fs) => some (c, fs)
    | _ => none
  | _ => none
def isK (h : AH) (v : AV) : KD → Bool
  | .kint => match v with | .int _ => true | .bl _ => true | _ => false
  | .kbool => match v with | .bl _ => true | _ => false
  | .kstr => match v with | .str _ => true | _ => false
  | .klist => (rdL h v).isSome
  | .ktup => match v with | .tup _ => true | _ => false
  | .kval => false
  | .kcls c => match clsOf h v with | some (d, _) => c == d | none => false
/-- an error of the class c -/
def isX (sub : Nat → Nat → Bool) (c : Nat) : KD → Bool
  | .kcls d => sub c d
  | .kval => true
  | _ => false
def asInt : AV → Option Int
  | .int i => some i
  | _ => none
def asBl : AV → Option Bool
  | .bl b => some b
  | _ => none
def asInts : List AV → Option (List Int) := mapO asInt
def asBls : List AV → Option (List Bool) := mapO asBl
def lenS (h : AH) (v : AV) : Option Nat := match v with
  | .str s => if s.length ≤ sizeLine then some s.length else none
  | .tup xs => some xs.length
  | .frl ns => some ns.length
  | .ref a => match h.get a with
    | some (.lst xs) => some xs.length
    | some (.dK kvs) => some kvs.length
    | _ => none
  | _ => none

def isNonA : AV → Bool
  | .non => true
  | _ => false
def putN (f : Nat) (v : AV) : List (Nat × AV) → List (Nat × AV)
  | [] => [(f, v)]
  | (g, u) :: r => if g = f then (f, v) :: r else (g, u) :: putN f v r
def valA {κ : Type} [DecidableEq κ] (kvs : List (κ × AV)) (k : κ) : Option AV := (kvs.find? fun kv => decide (kv.1 = k)).map (·.2)
def putA {κ : Type} [DecidableEq κ] (kvs : List (κ × AV)) (k : κ) (v : AV) : List (κ × AV) :=
  if kvs.any (fun kv => decide (kv.1 = k)) then kvs.map fun kv => if kv.1 = k then (kv.1, v) else kv else kvs ++ [(k, v)]
def cutA (xs : List AV) (lo hi : Option Int) : List AV := (xs.drop (HT.sIx xs.length 0 lo)).take (HT.sIx xs.length xs.length hi - HT.sIx xs.length 0 lo)
/-- x in y: of the items of a list as data, of a dict's keys -/
def inS (x y : AV) (h : AH) : Option Bool := match y with
  | .ref a => match h.get a with
    | some (.dK kvs) => (keyOf x).map fun k => (valA kvs k).isSome
    | some (.dT kvs) => (tkeyOf x).map fun k => (valA kvs k).isSome
    | _ => (rdL h (.ref a)).bind fun xs => (dat h 60 x).bind fun d => (mapO (dat h 60) xs).map fun ds => ds.any fun z => PyData.eqv z d
  | _ => none
/-- x == y: texts, or data -/
def eqS (x y : AV) (h : AH) : Option Bool := match x, y with
  | .str s, .str t => some (decide (s = t))
  | _, _ => (dat h 60 x).bind fun d => (dat h 60 y).map fun e => PyData.eqv d e
/-- what repr may show -/
def rpOk (d : PyData) : Prop := d.showable = true ∧ d.shown.length ≤ sizeLine
/-- enumerate(..) -/
def enumA : Nat → List AV → List AV
  | _, [] => []
  | i, x :: r => .tup [.int i, x] :: enumA (i + 1) r
/-! sorting: ints, or tuples of ints (and None) that begin with an int -/
abbrev SK := List (Int × Int)
def eltK : AV → Option (Int × Int)
  | .int i => some (0, i)
  | .non => some (1, 0)
  | _ => none
def keyK : AV → Option SK
  | .int i => some [(0, i)]
  | .tup (.int i :: r) => (mapO eltK r).map fun l => (0, i) :: l
  | _ => none
def isIntA : AV → Bool
  | .int _ => true
  | _ => false
def isTupA : AV → Bool
  | .tup _ => true
  | _ => false
def ltK : SK → SK → Bool
  | _, [] => false
  | [], _ :: _ => true
  | a :: r, b :: q => if a = b then ltK r q else decide (a.1 < b.1 ∨ (a.1 = b.1 ∧ a.2 < b.2))
/-- where they differ first, ints stand -/
def cmpK : SK → SK → Bool
  | a :: r, b :: q => if a = b then cmpK r q else decide (a.1 = 0 ∧ b.1 = 0)
  | _, _ => true
def insK (x : SK × AV) : List (SK × AV) → List (SK × AV)
  | [] => [x]
  | y :: r => if ltK y.1 x.1 then y :: insK x r else x :: y :: r
def srtK : List (SK × AV) → List (SK × AV)
  | [] => []
  | x :: r => insK x (srtK r)
def sortA (xs : List AV) : Option (List AV) := if xs.all isIntA || xs.all isTupA then
    (mapO keyK xs).bind fun ks => if ks.all fun a => ks.all fun b => cmpK a b then some ((srtK (ks.zip xs)).map (·.2)) else none
  else none
open Classical in
noncomputable def o1S (G : PG) (o : O1) (v : AV) (h : AH) : Option (AV × AH) := match o with
  | .not => (truth v h).map fun b => (.bl (!b), h)
  | .neg => match v with | .int i => some (.int (-i), h) | _ => none
  | .isN => some (.bl (isNonA v), h)
  | .notN => some (.bl (!isNonA v), h)
  | .len => (lenS h v).map fun n => (.int n, h)
  | .list => (lsS h v).map fun xs => (.ref h.n, h.push (.lst xs))
  | .tuple => (rdS h v).map fun xs => (.tup xs, h)
  | .int => match v with | .int i => some (.int i, h) | .bl b => some (.int (if b then 1 else 0), h) | _ => none
  | .abs => match v with | .int i => some (.int (if i < 0 then -i else i), h) | _ => none
  | .all => ((rdL h v).bind asBls).map fun bs => (.bl (bs.all id), h)
  | .any => ((rdL h v).bind asBls).map fun bs => (.bl (bs.any id), h)
  | .sorted => ((rdL h v).bind sortA).map fun xs => (.ref h.n, h.push (.lst xs))
  | .sum => ((rdL h v).bind asInts).map fun ns => (.int ns.sum, h)
  | .repr => match v with
    | .ref _ => (dat h 60 v).bind fun d => if Grd (rpOk d) then some (.str d.shown, h) else none
    | .tup _ => (dat h 60 v).bind fun d => if Grd (rpOk d) then some (.str d.shown, h) else none
    | _ => none
  | .fld f => match v with
    | .xcp c ks xs => if G.fx c f then ((ks.zip xs).lookup f).map fun x => (x, h) else none
    | _ => (clsOf h v).bind fun p => if G.fa p.1 f then (p.2.lookup f).map fun x => (x, h) else none
  | .isi ks => match v with
    | .xcp c _ _ => if G.ex c then some (.bl (ks.any (isX G.sub c)), h) else none
    | _ => match clsOf h v with
      | some (c, _) => if G.ic c then some (.bl (ks.any (isK h v)), h) else none
      | none => some (.bl (ks.any (isK h v)), h)
  | _ => none
open Classical in
noncomputable def o2S (o : O2) (x y : AV) (h : AH) : Option (AV × AH) := match o with
  | .add => match x, y with
    | .int i, .int j => some (.int (i + j), h)
    | .str i, .str j => if i.length + j.length ≤ sizeLine then some (.str (i ++ j), h) else none
    | .ref a, .ref b => match h.get a, h.get b with
      | some (.lst xs), some (.lst ys) => if xs.length + ys.length ≤ sizeLine then some (.ref h.n, h.push (.lst (xs ++ ys))) else none
      | _, _ => none
    | _, _ => none
  | .sub => match x, y with | .int i, .int j => some (.int (i - j), h) | _, _ => none
  | .mul => match x, y with | .int i, .int j => if Grd ((-(2 ^ 64) < i ∧ i < 2 ^ 64) ∨ (-(2 ^ 64) < j ∧ j < 2 ^ 64)) then some (.int (i * j), h) else none | _, _ => none
  | .fdiv => match x, y with | .int i, .int j => if Grd (0 < j ∧ j < 1073741824) then some (.int (i / j), h) else none | _, _ => none
  | .mod => match x, y with | .int i, .int j => if 0 < j then some (.int (i % j), h) else none | _, _ => none
  | .pow => match x, y with | .int i, .int j => if Grd (0 ≤ j ∧ j ≤ 1000000 ∧ i.natAbs < 2 ^ 64) then some (.int (i ^ j.toNat), h) else none | _, _ => none
  | .eq => (eqS x y h).map fun b => (.bl b, h)
  | .ne => (eqS x y h).map fun b => (.bl (!b), h)
  | .lt => match x, y with | .int i, .int j => some (.bl (decide (i < j)), h) | _, _ => none
  | .le => match x, y with | .int i, .int j => some (.bl (decide (i ≤ j)), h) | _, _ => none
  | .gt => match x, y with | .int i, .int j => some (.bl (decide (j < i)), h) | _, _ => none
  | .ge => match x, y with | .int i, .int j => some (.bl (decide (j ≤ i)), h) | _, _ => none
  | .ix => match x with
    | .ref a => match h.get a with
      | some (.dK kvs) => (keyOf y).bind fun k => (valA kvs k).map fun v => (v, h)
      | some (.dT kvs) => (tkeyOf y).bind fun k => (valA kvs k).map fun v => (v, h)
      | _ => match y with
        | .int i => (rdL h x).bind fun xs => (L2.atI xs i).map fun v => (v, h)
        | _ => none
    | .tup xs => match y with
      | .int i => (L2.atI xs i).map fun v => (v, h)
      | _ => none
    | .frl ns => match y with
      | .int i => (L2.atI ns i).map fun v => (.int v, h)
      | _ => none
    | _ => none
  | .max => match x, y with | .int i, .int j => some (.int (if j > i then j else i), h) | _, _ => none
  | .min => match x, y with | .int i, .int j => some (.int (if j < i then j else i), h) | _, _ => none
  | .inn => (inS x y h).map fun b => (.bl b, h)
  | .notin => (inS x y h).map fun b => (.bl (!b), h)

def rdI : Option AV → Option (Option Int)
  | none => some none
  | some (.int i) => some (some i)
  | _ => none
def slS (x : AV) (lo hi : Option Int) (h : AH) : Option (AV × AH) := match x with
  | .ref a => (rdL h (.ref a)).map fun xs => (.ref h.n, h.push (.lst (cutA xs lo hi)))
  | _ => none
def bmOk (m : BM) (x : AV) (h : AH) : Bool := match m with
  | .append | .pop | .extend | .insert => (match x with | .ref a => (match h.get a with | some (.lst _) => true | _ => false) | _ => false)
open Classical in
noncomputable def bmS (m : BM) (x : AV) (vs : List AV) (h : AH) : Option (AV × AH) := match x with
  | .ref a => match h.get a with
    | some (.lst xs) => match m, vs with
      | .append, [y] => if xs.length < sizeLine then some (.non, h.put a (.lst (xs ++ [y]))) else none
      | .extend, [.ref b] => match h.get b with
        | some (.lst ys) => if xs.length + ys.length ≤ sizeLine then some (.non, h.put a (.lst (xs ++ ys))) else none
        | _ => none
      | .insert, [.int i, y] => if Grd (xs.length < sizeLine ∧ 0 ≤ i ∧ i < 2 ^ 63) then some (.non, h.put a (.lst (xs.take i.toNat ++ [y] ++ xs.drop i.toNat))) else none
      | .pop, [] => (xs[xs.length - 1]?).map fun y => (y, h.put a (.lst xs.dropLast))
      | .pop, [.int i] => if Grd (0 ≤ i ∧ i < 2 ^ 63) then (xs[i.toNat]?).map fun y => (y, h.put a (.lst (xs.eraseIdx i.toNat))) else none
      | _, _ => none
    | _ => none
  | _ => none
def setS (x i v : AV) (h : AH) : Option AH := match x with
  | .ref a => match h.get a with
    | some (.lst xs) => match i with
      | .int k => (L2.ixN xs.length k).map fun j => h.put a (.lst (xs.set j v))
      | _ => none
    | some (.dK kvs) => (keyOf i).bind fun k => if kvs.length < sizeLine then some (h.put a (.dK (putA kvs k v))) else none
    | some (.dT kvs) => (tkeyOf i).bind fun k => if kvs.length < sizeLine then some (h.put a (.dT (putA kvs k v))) else none
    | _ => none
  | _ => none
def setF (fa : Nat → Nat → Bool) (x : AV) (f : Nat) (v : AV) (h : AH) : Option AH := match x with
  | .ref a => match h.get a with
    | some (.ins c fs) => if fa c f ∧ fs.length < 1000 then some (h.put a (.ins c (putN f v fs))) else none
    | _ => none
  | _ => none

/-- x op= y of ints -/
def augS (o : O2) (x y : AV) : Option Int := match o, x, y with
  | .add, .int i, .int j => some (i + j)
  | .sub, .int i, .int j => some (i - j)
  | _, _, _ => none

/-! ### targets, walks -/
mutual
def asgT : T → AV → Frame → Option Frame
  | .nm i, v, τ => if i < τ.length then some (τ.set i (some v)) else none
  | .tp ts, v, τ => match v with
    | .tup vs => asgTs ts vs τ
    | _ => none
def asgTs : Ts → List AV → Frame → Option Frame
  | .nil, [], τ => some τ
  | .cons t r, v :: vs, τ => (asgT t v τ).bind fun τ' => asgTs r vs τ'
  | _, _, _ => none
end
mutual
def T.slots : T → List Nat
  | .nm i => [i]
  | .tp ts => ts.slots
def Ts.slots : Ts → List Nat
  | .nil => []
  | .cons t r => t.slots ++ r.slots
end
def wipeA (τ : Frame) : List Nat → Frame
  | [] => τ
  | v :: vs => (wipeA τ vs).set v none
abbrev Watch := List (Nat × AO)
def Still (w : Watch) (h : AH) : Prop := ∀ p ∈ w, h.get p.1 = some p.2
open Classical in
noncomputable def lcGo (w : Watch) (step : AV → AH → Res (Option AV)) : List AV → List AV → AH → Res (List AV)
  | [], acc, h => if Still w h then .ok acc h else .bad
  | v :: r, acc, h => if Still w h then (step v h).bind fun o h1 => match o with
      | none => lcGo w step r acc h1
      | some y => if acc.length < sizeLine then lcGo w step r (acc ++ [y]) h1 else .bad
    else .bad
/-- what a walk goes through, and what must stand still meanwhile -/
def itOf (v : AV) (h : AH) : Option (List AV × Watch) := match v with
  | .tup xs => some (xs, [])
  | .ref a => match h.get a with
    | some (.lst xs) => some (xs, [(a, .lst xs)])
    | _ => none
  | .frl ns => some (ns.map .int, [])
  | _ => none
/-- what enumerate goes through -/
def enumOf (v : AV) (h : AH) : Option (List AV × Watch) := match v with
  | .ref a => match h.get a with
    | some (.lst xs) => some (enumA 0 xs, [(a, .lst xs)])
    | _ => none
  | .frl ns => some (enumA 0 (ns.map .int), [])
  | _ => none
def upTo (lo : Int) : Nat → List AV
  | 0 => []
  | n + 1 => .int lo :: upTo (lo + 1) n
open Classical in
noncomputable def rngOf (x y : AV) : Option (List AV × Watch) := match x, y with
  | .int i, .int j => if Grd (-(2 ^ 62) ≤ i ∧ i < 2 ^ 62 ∧ -(2 ^ 62) ≤ j ∧ j < 2 ^ 62) then some (upTo i (j - i).toNat, []) else none
  | _, _ => none

/-- a value that an error's message may show -/
def shows : AV → Bool
  | .int i => decide (i.natAbs.log2 < 1920)
  | _ => false
/-- the fields of an error made with these values, the newest first -/
def mkFs (h : AH) (acc : List (Nat × AV)) : List (Nat × Bool) → List AV → Option (List (Nat × AV) × AH)
  | [], [] => some (acc, h)
  | (f, false) :: r, v :: vs => if shows v then mkFs h ((f, v) :: acc) r vs else none
  | _, _ => none
section
variable (G : PG)
mutual
noncomputable def evalE : E → Frame → AH → Res AV
  | .var i, τ, h => match τ[i]? with
    | some (some v) => .ok v h
    | _ => .bad
  | .con v, _, h => .ok v h
  | .o1 o a, τ, h => (evalE a τ h).bind fun x h1 => ofO (o1S G o x h1)
  | .o2 o a b, τ, h => (evalE a τ h).bind fun x h1 => (evalE b τ h1).bind fun y h2 => ofO (o2S o x y h2)
  | .sl a lo hi, τ, h => (evalE a τ h).bind fun x h1 => (evalO lo τ h1).bind fun l h2 => match rdI l with
      | some l => (evalO hi τ h2).bind fun u h3 => match rdI u with
        | some u => ofO (slS x l u h3)
        | none => .bad
      | none => .bad
  | .chn o o' a b c, τ, h => (evalE a τ h).bind fun x h1 => (evalE b τ h1).bind fun y h2 => (ofO (o2S o x y h2)).bind fun r h3 => match r with
      | .bl true => (evalE c τ h3).bind fun z h4 => ofO (o2S o' y z h4)
      | .bl false => .ok (.bl false) h3
      | _ => .bad
  | .and_ a b, τ, h => (evalE a τ h).bind fun x h1 => match truth x h1 with
      | some true => evalE b τ h1
      | some false => .ok x h1
      | none => .bad
  | .or_ a b, τ, h => (evalE a τ h).bind fun x h1 => match truth x h1 with
      | some true => .ok x h1
      | some false => evalE b τ h1
      | none => .bad
  | .ife c a b, τ, h => (evalE c τ h).bind fun x h1 => match truth x h1 with
      | some true => evalE a τ h1
      | some false => evalE b τ h1
      | none => .bad
  | .tup as, τ, h => (evalEs as τ h).bind fun vs h1 => if vs.length ≤ sizeLine then .ok (.tup vs) h1 else .bad
  | .lst as, τ, h => (evalEs as τ h).bind fun vs h1 => if vs.length ≤ sizeLine then .ok (.ref h1.n) (h1.push (.lst vs)) else .bad
  | .dnew t, _, h => .ok (.ref h.n) (h.push (if t then .dT [] else .dK []))
  | .call f as, τ, h => if G.pln f = true then (evalEs as τ h).bind fun vs h1 => G.call f vs h1 else .bad
  | .meth m o as, τ, h => (evalE o τ h).bind fun x h1 => match clsOf h1 x with
      | some (c, fs) => match G.mt c m, fs.lookup m with
        | some f, none => if G.pln f = true then (evalEs as τ h1).bind fun vs h2 => G.call f (x :: vs) h2 else .bad
        | _, _ => .bad
      | none => .bad
  | .new c as, τ, h => match G.ini c with
      | some f => if G.pln f = true then (evalEs as τ h).bind fun vs h1 => (G.call f (.ref h1.n :: vs) (h1.push (.ins c []))).bind fun r h2 => match r with
          | .non => .ok (.ref h1.n) h2
          | _ => .bad
        else .bad
      | none => .bad
  | .callK f sh as ks, τ, h => if G.sok f sh = true then (evalEs as τ h).bind fun vs h1 => (evalEs ks τ h1).bind fun ws h2 => match placeS (G.shp sh) vs ws with
        | some us => G.call f us h2
        | none => .bad
      else .bad
  | .methK m sh o as ks, τ, h => (evalE o τ h).bind fun x h1 => match clsOf h1 x with
      | some (c, fs) => match G.mt c m, fs.lookup m with
        | some f, none => if G.sok f sh = true then (evalEs as τ h1).bind fun vs h2 => (evalEs ks τ h2).bind fun ws h3 => match placeS (G.shp sh) (x :: vs) ws with
            | some us => G.call f us h3
            | none => .bad
          else .bad
        | _, _ => .bad
      | none => .bad
  | .newK c sh as ks, τ, h => match G.ini c with
      | some f => if G.sok f sh = true then (evalEs as τ h).bind fun vs h1 => (evalEs ks τ h1).bind fun ws h2 => match placeS (G.shp sh) (.ref h2.n :: vs) ws with
          | some us => (G.call f us (h2.push (.ins c []))).bind fun r h3 => match r with
            | .non => .ok (.ref h2.n) h3
            | _ => .bad
          | none => .bad
        else .bad
      | none => .bad
  | .newx c as, τ, h => match G.exf c with
      | some ks => (evalEs as τ h).bind fun vs h1 => match mkFs h1 [] ks vs with
        | some (fs, h2) => .ok (.xcp c (fs.map (·.1)) (fs.map (·.2))) h2
        | none => .bad
      | none => .bad
  | .bm m o as, τ, h => (evalE o τ h).bind fun x h1 => if bmOk m x h1 then (evalEs as τ h1).bind fun vs h2 => ofO (bmS m x vs h2) else .bad
  | .lc t it cnd elt, τ, h => (evalIt it τ h).bind fun p h1 =>
      match lcGo p.2 (fun v h => match asgT t v (wipeA τ t.slots) with
        | some τ' => (evalC cnd τ' h).bind fun b h' => if b then (evalE elt τ' h').bind fun y h'' => .ok (some y) h'' else .ok none h'
        | none => .bad) p.1 [] h1 with
      | .ok acc h2 => .ok (.ref h2.n) (h2.push (.lst acc))
      | _ => .bad
noncomputable def evalEs : Es → Frame → AH → Res (List AV)
  | .nil, _, h => .ok [] h
  | .cons e r, τ, h => (evalE e τ h).bind fun x h1 => (evalEs r τ h1).bind fun xs h2 => .ok (x :: xs) h2
noncomputable def evalO : OE → Frame → AH → Res (Option AV)
  | .non, _, h => .ok none h
  | .som e, τ, h => (evalE e τ h).bind fun x h1 => .ok (some x) h1
noncomputable def evalC : OE → Frame → AH → Res Bool
  | .non, _, h => .ok true h
  | .som e, τ, h => (evalE e τ h).bind fun x h1 => match truth x h1 with
      | some b => .ok b h1
      | none => .bad
noncomputable def evalIt : It → Frame → AH → Res (List AV × Watch)
  | .of a, τ, h => (evalE a τ h).bind fun x h1 => ofO ((itOf x h1).map fun p => (p, h1))
  | .rng1 a, τ, h => (evalE a τ h).bind fun x h1 => ofO ((rngOf (.int 0) x).map fun p => (p, h1))
  | .rng2 a b, τ, h => (evalE a τ h).bind fun x h1 => (evalE b τ h1).bind fun y h2 => ofO ((rngOf x y).map fun p => (p, h2))
  | .zip _ _, _, _ => .bad
  | .enum a, τ, h => (evalE a τ h).bind fun x h1 => ofO ((enumOf x h1).map fun p => (p, h1))
end
/-- a test -/
noncomputable def evalT (e : E) (τ : Frame) (h : AH) : Res Bool := evalC G (.som e) τ h
end

/-! ### statements -/
inductive Fl where
  | nx | rt (v : AV) | bk | ct
inductive SR where
  | ok (f : Fl) (τ : Frame) (h : AH) | exc (c : Nat) (fs : List (Nat × AV)) (τ : Frame) (h : AH) | bad
/-- on with an expression's result -/
def Res.go {α : Type} (r : Res α) (τ : Frame) (f : α → AH → SR) : SR := match r with
  | .ok a h => f a h
  | .exc c fs h => .exc c fs τ h
  | .bad => .bad
@[simp] theorem Res.go_ok {α : Type} {a : α} {h : AH} {τ : Frame} {f : α → AH → SR} : (Res.ok a h).go τ f = f a h := rfl
@[simp] theorem Res.go_exc {α : Type} {c fs} {h : AH} {τ : Frame} {f : α → AH → SR} : (Res.exc c fs h : Res α).go τ f = .exc c fs τ h := rfl
@[simp] theorem Res.go_bad {α : Type} {τ : Frame} {f : α → AH → SR} : (Res.bad : Res α).go τ f = .bad := rfl
def SR.then (r : SR) (f : Frame → AH → SR) : SR := match r with
  | .ok .nx τ h => f τ h
  | r => r
open Classical in
noncomputable def forGo (w : Watch) (step : AV → Frame → AH → SR) : List AV → Frame → AH → SR
  | [], τ, h => if Still w h then .ok .nx τ h else .bad
  | v :: r, τ, h => if Still w h then match step v τ h with
      | .ok .nx τ' h' => forGo w step r τ' h'
      | .ok .ct τ' h' => forGo w step r τ' h'
      | .ok .bk τ' h' => .ok .nx τ' h'
      | r => r
    else .bad
noncomputable def whlGo (cnd : Frame → AH → Res Bool) (body : Frame → AH → SR) : Nat → Frame → AH → SR
  | 0, _, _ => .bad
  | n + 1, τ, h => (cnd τ h).go τ fun b h1 => if b then match body τ h1 with
      | .ok .nx τ' h' => whlGo cnd body n τ' h'
      | .ok .ct τ' h' => whlGo cnd body n τ' h'
      | .ok .bk τ' h' => .ok .nx τ' h'
      | r => r
    else .ok .nx τ h1
section
variable (G : PG)
mutual
noncomputable def exec : S → Frame → AH → SR
  | .expr e, τ, h => (evalE G e τ h).go τ fun _ h1 => .ok .nx τ h1
  | .asg t e, τ, h => (evalE G e τ h).go τ fun v h1 => match asgT t v τ with
      | some τ' => .ok .nx τ' h1
      | none => .bad
  | .asgF o f e, τ, h => (evalE G e τ h).go τ fun v h1 => (evalE G o τ h1).go τ fun x h2 => match setF G.fa x f v h2 with
      | some h3 => .ok .nx τ h3
      | none => .bad
  | .asgS o i e, τ, h => (evalE G e τ h).go τ fun v h1 => (evalE G o τ h1).go τ fun x h2 => (evalE G i τ h2).go τ fun k h3 => match setS x k v h3 with
      | some h4 => .ok .nx τ h4
      | none => .bad
  | .aug i o e, τ, h => match τ[i]? with
      | some (some x) => (evalE G e τ h).go τ fun y h1 => match augS o x y with
        | some z => .ok .nx (τ.set i (some (.int z))) h1
        | none => .bad
      | _ => .bad
  | .ite c a b, τ, h => (evalT G c τ h).go τ fun t h1 => if t then execs a τ h1 else execs b τ h1
  | .for_ t it b, τ, h => (evalIt G it τ h).go τ fun p h1 => forGo p.2 (fun v τ h => match asgT t v τ with
      | some τ' => execs b τ' h
      | none => .bad) p.1 τ h1
  | .whl c b, τ, h => whlGo (fun τ h => evalT G c τ h) (fun τ h => execs b τ h) G.fuel τ h
  | .ret e, τ, h => (evalE G e τ h).go τ fun v h1 => .ok (.rt v) τ h1
  | .retN, τ, h => .ok (.rt .non) τ h
  | .brk, τ, h => .ok .bk τ h
  | .cnt, τ, h => .ok .ct τ h
  | .pass, τ, h => .ok .nx τ h
  | .rais c as, τ, h => match G.exf c with
      | some ks => (evalEs G as τ h).go τ fun vs h1 => match mkFs h1 [] ks vs with
        | some (fs, h2) => .exc c fs τ h2
        | none => .bad
      | none => .bad
  | .try_ b hs, τ, h => match execs b τ h with
      | .exc c fs τ' h' => handle hs c fs τ' h'
      | r => r
noncomputable def execs : Ss → Frame → AH → SR
  | .nil, τ, h => .ok .nx τ h
  | .cons s r, τ, h => (exec s τ h).then fun τ' h' => execs r τ' h'
noncomputable def handle : Hs → Nat → List (Nat × AV) → Frame → AH → SR
  | .nil, c, fs, τ, h => .exc c fs τ h
  | .cons k i b r, c, fs, τ, h => if (G.ex c && G.ex k) = true then
      if G.sub c k = true then
        match i with
        | none => (match execs b τ h with
          | .ok f τ' h' => .ok f τ' h'
          | _ => .bad)
        | some i => (match execs b (τ.set i (some (.xcp c (fs.map (·.1)) (fs.map (·.2))))) h with
          | .ok f τ' h' => .ok f (τ'.set i none) h'
          | _ => .bad)
      else handle r c fs τ h
    else .bad
end
end

/-! ### functions -/
structure FI where
  ar : Nat
  sz : Nat
  body : Ss
structure Tb where
  fn : Nat → Option FI
  mt : Nat → Nat → Option Nat
  ini : Nat → Option Nat
  sub : Nat → Nat → Bool
  exf : Nat → Option (List (Nat × Bool))
  fa : Nat → Nat → Bool
  ic : Nat → Bool
  fx : Nat → Nat → Bool
  ex : Nat → Bool
  shp : Nat → Option (Nat × Nat × List PL)
  sok : Nat → Nat → Bool
  pln : Nat → Bool
  fuel : Nat
noncomputable def Tb.pg (B : Tb) (call : Nat → List AV → AH → Res AV) : PG := ⟨call, B.mt, B.ini, B.sub, B.exf, B.fa, B.ic, B.fx, B.ex, B.shp, B.sok, B.pln, B.fuel⟩
noncomputable def runF (G : PG) (i : FI) (vs : List AV) (h : AH) : Res AV :=
  if vs.length = i.ar ∧ i.ar ≤ i.sz then match execs G i.body (vs.map some ++ List.replicate (i.sz - i.ar) none) h with
    | .ok (.rt v) _ h' => .ok v h'
    | .ok .nx _ h' => .ok .non h'
    | .exc c fs _ h' => .exc c fs h'
    | _ => .bad
  else .bad
noncomputable def Gam (B : Tb) : Nat → Nat → List AV → AH → Res AV
  | 0, _, _, _ => .bad
  | n + 1, f, vs, h => match B.fn f with
    | some i => runF (B.pg (Gam B n)) i vs h
    | none => .bad
/-! ### tables as lists -/
structure TL where
  fnL : List (Nat × FI)
  mtL : List ((Nat × Nat) × Nat)
  iniL : List (Nat × Nat)
  subL : List (Nat × Nat)
  exfL : List (Nat × List (Nat × Bool))
  faL : List (Nat × Nat)
  icL : List Nat
  fxL : List (Nat × Nat)
  exL : List Nat
  shpL : List (Nat × Nat × Nat × List PL)
  sokL : List (Nat × Nat)
  plnL : List Nat
  fuel : Nat
def TL.tb (t : TL) : Tb where
  fn := fun f => t.fnL.lookup f
  mt := fun c m => t.mtL.lookup (c, m)
  ini := fun c => t.iniL.lookup c
  sub := fun c d => t.subL.contains (c, d)
  exf := fun c => t.exfL.lookup c
  fa := fun c f => t.faL.contains (c, f)
  ic := fun c => t.icL.contains c
  fx := fun c f => t.fxL.contains (c, f)
  ex := fun c => t.exL.contains c
  shp := fun s => t.shpL.lookup s
  sok := fun f s => t.sokL.contains (f, s)
  pln := fun f => t.plnL.contains f
  fuel := t.fuel
end Mi
set_option Elab.async false
set_option maxRecDepth 100000
set_option maxHeartbeats 4000000
/-! MiRel: how values and a heap of Mi lie in an abstract heap of the hand layer. -/
namespace Mi
open PySem L2

structure Ks where
  K : PySem.W.Frag
  C : Nat → Addr
  F : Nat → Str
  inj : ∀ a b, F a = F b → a = b
abbrev Io := Nat → Addr
variable (κ : Ks)
/-- an empty tuple, a list of the written part -/
def EmpT (K : PySem.W.Frag) (p : Addr) : Prop := ∃ (o : Obj) (n : Nat), K.lookup p = some o ∧ o.cls = .type "tuple" ∧ o.data = .seq #[] n
def LstK (K : PySem.W.Frag) (p : Addr) (xs : List V) : Prop :=
  ∃ (o : Obj) (its : Array Value) (n : Nat), K.lookup p = some o ∧ o.cls = .type "list" ∧ o.dict = none ∧ o.data = .seq its n ∧ its.size ≤ sizeLine ∧ Vals xs its.toList
mutual
def RV (H : Hp) (ι : Io) (n : Nat) : AV → V → Prop
  | .non, v => v = .non
  | .bl b, v => v = .bl b
  | .int i, v => v = .int i
  | .str s, v => v = .str s
  | .ref a, v => a < n ∧ v = .ref (ι a)
  | .frl ns, v => ∃ p, v = .ref p ∧ ((∃ o, H p = some (.frz o (.lst (ns.map V.int)))) ∨ LstK κ.K p (ns.map V.int))
  | .tup xs, v => ∃ p ys, v = .ref p ∧ RVs H ι n xs ys ∧ (H p = some (.tup ys) ∨ (xs = [] ∧ EmpT κ.K p))
  | .xcp c ks xs, v => ∃ a d ys φ, v = .ref a ∧ RVs H ι n xs ys ∧ ks.length = xs.length ∧ H a = some (.ext φ) ∧ (∀ h, φ h → ∃ oe vs, h.get? a = some oe ∧ L2.Zc (.ref (κ.C c)) (some d) oe ∧ oe.data = .fields vs) ∧
      (H d = some (exd d ((ks.map κ.F).zip ys)) ∨ H d = some (.xd ((ks.map κ.F).zip ys)))
def RVs (H : Hp) (ι : Io) (n : Nat) : List AV → List V → Prop
  | [], vs => vs = []
  | x :: xs, vs => ∃ v ws, vs = v :: ws ∧ RV H ι n x v ∧ RVs H ι n xs ws
end
def RFs (H : Hp) (ι : Io) (n : Nat) : List (Nat × AV) → List (Str × V) → Prop
  | [], vs => vs = []
  | (f, x) :: r, vs => ∃ v ws, vs = (κ.F f, v) :: ws ∧ RV κ H ι n x v ∧ RFs H ι n r ws
def RKs {α : Type} (H : Hp) (ι : Io) (n : Nat) : List (α × AV) → List (α × V) → Prop
  | [], vs => vs = []
  | (k, x) :: r, vs => ∃ v ws, vs = (k, v) :: ws ∧ RV κ H ι n x v ∧ RKs H ι n r ws
def RO (H : Hp) (ι : Io) (n : Nat) (p : Addr) : AO → Prop
  | .lst xs => ∃ ys, H p = some (.lst ys) ∧ RVs κ H ι n xs ys
  | .dK kvs => ∃ ys, H p = some (.dK ys) ∧ RKs κ H ι n kvs ys
  | .dT kvs => ∃ ys, H p = some (.dT ys) ∧ RKs κ H ι n kvs ys
  | .ins c fs => ∃ dx ys, H p = some (.ins (κ.C c) dx ys) ∧ RFs κ H ι n fs ys
/-- the abstract heap lies in H by ι -/
structure Rep (ι : Io) (h : AH) (H : Hp) : Prop where
  ob : ∀ a, a < h.n → RO κ H ι h.n (ι a) (h.m a)
  inj : ∀ a b, a < h.n → b < h.n → ι a = ι b → a = b
/-- the frame's slots -/
def RS (H : Hp) (ι : Io) (n : Nat) (τ : Frame) (σ : St) : Prop := τ.length = σ.length ∧ ∀ (i : Nat) (x : AV), τ[i]? = some (some x) → ∃ v, σ[i]? = some (some v) ∧ RV κ H ι n x v
/-- what is never written -/
def Fix : HO → Prop
  | .lst _ => False
  | .dK _ => False
  | .dT _ => False
  | .ins _ _ _ => False
  | _ => True
/-- what never changes stays -/
def Kept (H H' : Hp) : Prop := ∀ p o, H p = some o → Fix o → H' p = some o
/-- from (ι, h, H) to (ι', h', H') -/
structure Stp (ι : Io) (h : AH) (H : Hp) (ι' : Io) (h' : AH) (H' : Hp) : Prop where
  ext : ∀ a, a < h.n → ι' a = ι a
  le : h.n ≤ h'.n
  rep : Rep κ ι' h' H'
  fr : ∀ p o, H p = some o → (∀ a, a < h.n → ι a ≠ p) → H' p = some o
  nw : ∀ a, h.n ≤ a → a < h'.n → H (ι' a) = none

section
variable {κ}
variable {H H' H2 : Hp} {ι ι' ι2 : Io} {n n' : Nat} {h h' h2 : AH} {p : Addr}
theorem Kept.refl : Kept H H := fun _ _ e _ => e
theorem Kept.trans (a : Kept H H') (b : Kept H' H2) : Kept H H2 := fun p o e f => b p o (a p o e f) f
theorem Kept.new {o : HO} (hp : H p = none) : Kept H (upd H p o) := fun q u e _ => by rw [upd_ne (ne_of_none e hp)]; exact e
theorem EmpT.seq (e : EmpT κ.K p) : SqT κ.K H p [] := by
  obtain ⟨o, n, h1, h2, h3⟩ := e
  exact .inr ⟨o, #[], n, h1, h2, h3, Nat.zero_le _, .nil⟩
mutual
theorem RV.mono (hk : Kept H H') (he : ∀ a, a < n → ι' a = ι a) (hl : n ≤ n') : ∀ (x : AV) (v : V), RV κ H ι n x v → RV κ H' ι' n' x v
  | .non, v, r => r
  | .bl _, v, r => r
  | .int _, v, r => r
  | .str _, v, r => r
  | .ref a, v, r => by
    obtain ⟨l, e⟩ := r
    exact ⟨Nat.lt_of_lt_of_le l hl, by rw [he a l]; exact e⟩
  | .frl ns, v, r => by
    obtain ⟨p, e, q⟩ := r
    exact ⟨p, e, q.imp (fun ⟨o, q⟩ => ⟨o, hk _ _ q trivial⟩) id⟩
  | .tup xs, v, r => by
    obtain ⟨p, ys, e, r, q⟩ := r
    exact ⟨p, ys, e, RVs.mono hk he hl xs ys r, q.imp (fun q => hk _ _ q trivial) id⟩
  | .xcp c ks xs, v, r => by
    obtain ⟨a, d, ys, φ, e, r, l, q1, q2, q⟩ := r
    exact ⟨a, d, ys, φ, e, RVs.mono hk he hl xs ys r, l, hk _ _ q1 trivial, q2, q.imp (fun q => hk _ _ q trivial) fun q => hk _ _ q trivial⟩
theorem RVs.mono (hk : Kept H H') (he : ∀ a, a < n → ι' a = ι a) (hl : n ≤ n') : ∀ (xs : List AV) (vs : List V), RVs κ H ι n xs vs → RVs κ H' ι' n' xs vs
  | [], vs, r => r
  | x :: xs, vs, r => by
    obtain ⟨v, ws, e, r1, r2⟩ := r
    exact ⟨v, ws, e, RV.mono hk he hl x v r1, RVs.mono hk he hl xs ws r2⟩
end
theorem RFs.mono (hk : Kept H H') (he : ∀ a, a < n → ι' a = ι a) (hl : n ≤ n') : ∀ (xs : List (Nat × AV)) (vs : List (Str × V)), RFs κ H ι n xs vs → RFs κ H' ι' n' xs vs
  | [], vs, r => r
  | (f, x) :: xs, vs, r => by
    obtain ⟨v, ws, e, r1, r2⟩ := r
    exact ⟨v, ws, e, RV.mono hk he hl x v r1, RFs.mono hk he hl xs ws r2⟩
theorem RKs.mono {α : Type} (hk : Kept H H') (he : ∀ a, a < n → ι' a = ι a) (hl : n ≤ n') : ∀ (xs : List (α × AV)) (vs : List (α × V)), RKs κ H ι n xs vs → RKs κ H' ι' n' xs vs
  | [], vs, r => r
  | (f, x) :: xs, vs, r => by
    obtain ⟨v, ws, e, r1, r2⟩ := r
    exact ⟨v, ws, e, RV.mono hk he hl x v r1, RKs.mono hk he hl xs ws r2⟩
/-- an object's relation leans on what stands at its own place -/
theorem RO.mono (hk : Kept H H') (he : ∀ a, a < n → ι' a = ι a) (hl : n ≤ n') (e : ∀ o, H p = some o → H' p = some o) : ∀ (o : AO), RO κ H ι n p o → RO κ H' ι' n' p o
  | .lst xs, ⟨ys, q, r⟩ => ⟨ys, e _ q, RVs.mono hk he hl _ _ r⟩
  | .dK kvs, ⟨ys, q, r⟩ => ⟨ys, e _ q, RKs.mono hk he hl _ _ r⟩
  | .dT kvs, ⟨ys, q, r⟩ => ⟨ys, e _ q, RKs.mono hk he hl _ _ r⟩
  | .ins c fs, ⟨dx, ys, q, r⟩ => ⟨dx, ys, e _ q, RFs.mono hk he hl _ _ r⟩
/-- what stands at a tracked place is there, and may be written -/
theorem RO.there (o : AO) (r : RO κ H ι n p o) : ∃ u, H p = some u ∧ ¬ Fix u ∧ Mut (some u) := by
  cases o with
  | lst xs => obtain ⟨ys, q, _⟩ := r; exact ⟨_, q, fun z => z, trivial⟩
  | dK xs => obtain ⟨ys, q, _⟩ := r; exact ⟨_, q, fun z => z, trivial⟩
  | dT xs => obtain ⟨ys, q, _⟩ := r; exact ⟨_, q, fun z => z, trivial⟩
  | ins c xs => obtain ⟨dx, ys, q, _⟩ := r; exact ⟨_, q, fun z => z, trivial⟩
theorem Rep.trk (R : Rep κ ι h H) {a : Nat} (l : a < h.n) : ∃ u, H (ι a) = some u ∧ ¬ Fix u ∧ Mut (some u) := RO.there _ (R.ob a l)
theorem Rep.fresh (R : Rep κ ι h H) (hp : H p = none) {a : Nat} (l : a < h.n) : ι a ≠ p := by
  obtain ⟨u, e, _⟩ := R.trk l
  exact ne_of_none e hp
/-- what is never written is none of the heap's -/
theorem Rep.notFix (R : Rep κ ι h H) {o : HO} (e : H p = some o) (f : Fix o) {a : Nat} (l : a < h.n) : ι a ≠ p := by
  obtain ⟨u, q, n1, _⟩ := R.trk l
  intro z
  rw [z, e] at q
  exact n1 (Option.some.inj q ▸ f)
theorem Stp.kept (S : Stp κ ι h H ι' h' H') (R : Rep κ ι h H) : Kept H H' := fun p o e f => S.fr p _ e fun a l => R.notFix e f l
theorem Stp.refl (R : Rep κ ι h H) : Stp κ ι h H ι h H := ⟨fun _ _ => rfl, Nat.le_refl _, R, fun _ _ e _ => e, fun a l1 l2 => absurd (Nat.lt_of_lt_of_le l2 l1) (Nat.lt_irrefl _)⟩
theorem Stp.trans (a : Stp κ ι h H ι' h' H') (b : Stp κ ι' h' H' ι2 h2 H2) : Stp κ ι h H ι2 h2 H2 where
  ext := fun x l => (b.ext x (Nat.lt_of_lt_of_le l a.le)).trans (a.ext x l)
  le := Nat.le_trans a.le b.le
  rep := b.rep
  fr := fun p o e n => b.fr p o (a.fr p o e n) fun x l z => by
    by_cases hx : x < h.n
    · exact n x hx ((a.ext x hx).symm.trans z)
    · have q := a.nw x (Nat.le_of_not_lt hx) l
      rw [z, e] at q
      cases q
  nw := fun x l1 l2 => by
    by_cases hx : x < h'.n
    · rw [b.ext x hx]
      exact a.nw x l1 hx
    · have q := b.nw x (Nat.le_of_not_lt hx) l2
      cases e : H (ι2 x) with
      | none => rfl
      | some o =>
        have z := a.fr (ι2 x) o e fun y l w => ?_
        · rw [q] at z; cases z
        · have ly : y < h'.n := Nat.lt_of_lt_of_le l a.le
          obtain ⟨u, hu, _⟩ := a.rep.trk ly
          rw [a.ext y l, w, q] at hu
          cases hu
theorem Stp.val (S : Stp κ ι h H ι' h' H') (R : Rep κ ι h H) {x : AV} {v : V} (r : RV κ H ι h.n x v) : RV κ H' ι' h'.n x v := RV.mono (S.kept R) S.ext S.le x v r
theorem Stp.vals (S : Stp κ ι h H ι' h' H') (R : Rep κ ι h H) {x : List AV} {v : List V} (r : RVs κ H ι h.n x v) : RVs κ H' ι' h'.n x v := RVs.mono (S.kept R) S.ext S.le x v r
theorem Stp.flds (S : Stp κ ι h H ι' h' H') (R : Rep κ ι h H) {x : List (Nat × AV)} {v : List (Str × V)} (r : RFs κ H ι h.n x v) : RFs κ H' ι' h'.n x v := RFs.mono (S.kept R) S.ext S.le x v r
theorem Stp.slots (S : Stp κ ι h H ι' h' H') (R : Rep κ ι h H) {τ : Frame} {σ : St} (r : RS κ H ι h.n τ σ) : RS κ H' ι' h'.n τ σ :=
  ⟨r.1, fun i x e => let ⟨v, q, r⟩ := r.2 i x e; ⟨v, q, S.val R r⟩⟩
/-- a new object that is not told of (a tuple, an error's dict) -/
theorem Rep.side (R : Rep κ ι h H) {o : HO} (hp : H p = none) : Stp κ ι h H ι h (upd H p o) where
  ext := fun _ _ => rfl
  le := Nat.le_refl _
  rep := ⟨fun a l => RO.mono (Kept.new hp) (fun _ _ => rfl) (Nat.le_refl _) (fun u e => by rw [upd_ne (R.fresh hp l)]; exact e) _ (R.ob a l), R.inj⟩
  fr := fun q u e _ => by rw [upd_ne (ne_of_none e hp)]; exact e
  nw := fun a l1 l2 => absurd (Nat.lt_of_lt_of_le l2 l1) (Nat.lt_irrefl _)
/-- ι with one place more -/
def ext1 (ι : Io) (n : Nat) (p : Addr) : Io := fun a => if a = n then p else ι a
theorem ext1_new : ext1 ι n p n = p := if_pos rfl
theorem ext1_old {a : Nat} (l : a < n) : ext1 ι n p a = ι a := if_neg (Nat.ne_of_lt l)
/-- a new object -/
theorem Rep.push (R : Rep κ ι h H) {o : HO} {ao : AO} (hp : H p = none) (ho : RO κ (upd H p o) (ext1 ι h.n p) (h.n + 1) p ao) : Stp κ ι h H (ext1 ι h.n p) (h.push ao) (upd H p o) where
  ext := fun a l => ext1_old l
  le := Nat.le_succ _
  rep := by
    refine ⟨fun a l => ?_, fun a b la lb e => ?_⟩
    · by_cases ha : a = h.n
      · subst ha
        rw [ext1_new]
        show RO κ _ _ (h.n + 1) p (if h.n = h.n then ao else _)
        rw [if_pos rfl]
        exact ho
      · have l' : a < h.n := by have : a < h.n + 1 := l; omega
        rw [ext1_old l']
        show RO κ _ _ (h.n + 1) _ (if a = h.n then ao else h.m a)
        rw [if_neg ha]
        exact RO.mono (Kept.new hp) (fun _ l => ext1_old l) (Nat.le_succ _) (fun u e => by rw [upd_ne (R.fresh hp l')]; exact e) _ (R.ob a l')
    · by_cases ha : a = h.n
      · by_cases hb : b = h.n
        · rw [ha, hb]
        · have l' : b < h.n := by have : b < h.n + 1 := lb; omega
          rw [ha, ext1_new, ext1_old l'] at e
          exact absurd e.symm (R.fresh hp l')
      · have l1 : a < h.n := by have : a < h.n + 1 := la; omega
        by_cases hb : b = h.n
        · rw [hb, ext1_new, ext1_old l1] at e
          exact absurd e (R.fresh hp l1)
        · have l' : b < h.n := by have : b < h.n + 1 := lb; omega
          rw [ext1_old l1, ext1_old l'] at e
          exact R.inj a b l1 l' e
  fr := fun q u e _ => by rw [upd_ne (ne_of_none e hp)]; exact e
  nw := fun a l1 l2 => by
    have : a = h.n := by have : a < h.n + 1 := l2; omega
    rw [this, ext1_new]
    exact hp
/-- an object is written -/
theorem Rep.kept_put (R : Rep κ ι h H) {a : Nat} (l : a < h.n) {o : HO} : Kept H (upd H (ι a) o) :=
  fun q u e f => by rw [upd_ne (Ne.symm (R.notFix e f l))]; exact e
theorem Rep.put (R : Rep κ ι h H) {a : Nat} (l : a < h.n) {o : HO} {ao : AO} (ho : RO κ (upd H (ι a) o) ι h.n (ι a) ao) : Stp κ ι h H ι (h.put a ao) (upd H (ι a) o) where
  ext := fun _ _ => rfl
  le := Nat.le_refl _
  rep := by
    refine ⟨fun b lb => ?_, R.inj⟩
    show RO κ _ _ h.n _ (if b = a then ao else h.m b)
    by_cases hb : b = a
    · rw [hb, if_pos rfl]
      exact ho
    · rw [if_neg hb]
      exact RO.mono (R.kept_put l) (fun _ _ => rfl) (Nat.le_refl _) (fun u e => by rw [upd_ne (fun z => hb (R.inj b a lb l z))]; exact e) _ (R.ob b lb)
  fr := fun q u e n => by rw [upd_ne (fun z => n a l z.symm)]; exact e
  nw := fun b l1 l2 => absurd (Nat.lt_of_lt_of_le l2 l1) (Nat.lt_irrefl _)
end
end Mi
set_option Elab.async false
set_option maxRecDepth 100000
set_option maxHeartbeats 4000000
/-! MiOps: readings made of the interpreter's results; the operations on values keep them. -/
namespace Mi
open PySem L2 PySem.Spec PyProof.Rows
section
variable (κ : Ks)
/-- the value | the error behind a step -/
def Post {α β : Type} (R : Hp → Io → Nat → α → β → Prop) (W : WX) (σ : L2.St) (ι : Io) (h : AH) (H : Hp) (r : Res α) (Q : β → Hp → Prop) : Prop := match r with
  | .ok a h' => ∀ ι' H' b, Stp κ ι h H ι' h' H' → R H' ι' h'.n a b → Q b H'
  | .exc c fs h' => ∀ ι' H' d ys, Stp κ ι h H ι' h' H' → H' d = some (.xd ys) → RFs κ H' ι' h'.n fs ys → W (.ref (κ.C c)) (some d) σ H'
  | .bad => False
/-- the reading of a function of slots and heap -/
def RdG {α β : Type} (R : Hp → Io → Nat → α → β → Prop) (W : WX) (f : Frame → AH → Res α) (σ : L2.St) (H : Hp) (Q : β → Hp → Prop) : Prop :=
  ∃ ι τ h, Rep κ ι h H ∧ RS κ H ι h.n τ σ ∧ Post κ R W σ ι h H (f τ h) Q
abbrev Rd (W : WX) (f : Frame → AH → Res AV) : TE := RdG κ (RV κ) W f
abbrev RdA (W : WX) (f : Frame → AH → Res (List AV)) : TA := RdG κ (RVs κ) W f
def RB : Hp → Io → Nat → Bool → Bool → Prop := fun _ _ _ a b => a = b
abbrev RdT (W : WX) (f : Frame → AH → Res Bool) : TT := RdG κ RB W f
/-- an operation that raises nothing -/
def PostO (ι : Io) (h : AH) (H : Hp) (o : Option (AV × AH)) (Q : VK) : Prop := match o with
  | some (v, h') => ∀ ι' H' w, Stp κ ι h H ι' h' H' → RV κ H' ι' h'.n v w → Q w H'
  | none => False
def R1of (f : AV → AH → Option (AV × AH)) : V → Hp → VK → Prop := fun x H Q => ∃ ι h a, Rep κ ι h H ∧ RV κ H ι h.n a x ∧ PostO κ ι h H (f a h) Q
def R2of (f : AV → AV → AH → Option (AV × AH)) : R2 := fun x y H Q => ∃ ι h a b, Rep κ ι h H ∧ RV κ H ι h.n a x ∧ RV κ H ι h.n b y ∧ PostO κ ι h H (f a b h) Q
end
section
variable {κ : Ks} {W : WX} {σ : L2.St} {ι : Io} {h : AH} {H : Hp}
theorem Post.mono {α β : Type} {R : Hp → Io → Nat → α → β → Prop} {r : Res α} {Q Q' : β → Hp → Prop} (p : Post κ R W σ ι h H r Q) (k : ∀ b H', Q b H' → Q' b H') : Post κ R W σ ι h H r Q' := by
  cases r with
  | ok a h' => exact fun ι' H' b S r => k b H' (p ι' H' b S r)
  | exc c fs h' => exact p
  | bad => exact p
theorem Post.pre {α β : Type} {R : Hp → Io → Nat → α → β → Prop} {r : Res α} {Q : β → Hp → Prop} {ι1 : Io} {h1 : AH} {H1 : Hp} (p : Post κ R W σ ι h H r Q) (S : Stp κ ι h H ι1 h1 H1) : Post κ R W σ ι1 h1 H1 r Q := by
  cases r with
  | ok a h' => exact fun ι' H' b S' r => p ι' H' b (S.trans S') r
  | exc c fs h' => exact fun ι' H' d ys S' => p ι' H' d ys (S.trans S')
  | bad => exact p
/-- one step, then what follows -/
theorem Post.bind {α β γ δ : Type} {R : Hp → Io → Nat → α → β → Prop} {R' : Hp → Io → Nat → γ → δ → Prop} {r : Res α} {k : α → AH → Res γ} {Q : δ → Hp → Prop} (p : Post κ R' W σ ι h H (r.bind k) Q) :
    Post κ R W σ ι h H r fun b H1 => ∃ ι1 h1 a, Stp κ ι h H ι1 h1 H1 ∧ R H1 ι1 h1.n a b ∧ Post κ R' W σ ι1 h1 H1 (k a h1) Q := by
  cases r with
  | ok a h' => exact fun ι' H' b S r => ⟨ι', h', a, S, r, Post.pre p S⟩
  | exc c fs h' => exact p
  | bad => exact p
theorem Post.ofO {ι : Io} {o : Option (AV × AH)} {Q : VK} (p : Post κ (RV κ) W σ ι h H (ofO o) Q) : PostO κ ι h H o Q := by
  cases o with
  | none => exact p
  | some q => exact p
theorem PE.imp {X : Cx} {e : Expr} {t t' : TE} (k : ∀ σ H Q, t' σ H Q → t σ H Q) (p : PE X e t) : PE X e t' := ⟨fun pins s σ H Q I q => p.run pins s σ H Q I (k σ H Q q)⟩
theorem PT.imp {X : Cx} {e : Expr} {t t' : TT} (k : ∀ σ H Q, t' σ H Q → t σ H Q) (p : PT X e t) : PT X e t' := ⟨fun pins s σ H Q I q => p.run pins s σ H Q I (k σ H Q q)⟩
theorem PA.imp {X : Cx} {e : List Expr} {t t' : TA} (k : ∀ σ H Q, t' σ H Q → t σ H Q) (p : PA X e t) : PA X e t' := ⟨fun pos pins s σ H Q I q => p.run pos pins s σ H Q I (k σ H Q q)⟩
/-- the reading of a step and what follows -/
theorem RdG.step {α β γ δ : Type} {R : Hp → Io → Nat → α → β → Prop} {R' : Hp → Io → Nat → γ → δ → Prop} {f : Frame → AH → Res α} {kk : α → AH → Res γ} {Q : δ → Hp → Prop} {Q1 : β → Hp → Prop}
    {ι : Io} {τ : Frame} {h : AH} (rep : Rep κ ι h H) (rs : RS κ H ι h.n τ σ) (p : Post κ R' W σ ι h H ((f τ h).bind kk) Q)
    (n : ∀ ι1 h1 H1 a b, Stp κ ι h H ι1 h1 H1 → RS κ H1 ι1 h1.n τ σ → R H1 ι1 h1.n a b → Post κ R' W σ ι1 h1 H1 (kk a h1) Q → Q1 b H1) : RdG κ R W f σ H Q1 :=
  ⟨ι, τ, h, rep, rs, (Post.bind p).mono fun b H1 ⟨ι1, h1, a, S, r, q⟩ => n ι1 h1 H1 a b S (S.slots rep rs) r q⟩

/-! ### values by their kind -/
variable {n : Nat} {v : V}
theorem RVs.length : ∀ {xs : List AV} {vs : List V}, RVs κ H ι n xs vs → xs.length = vs.length
  | [], vs, r => by rw [show vs = [] from r]; rfl
  | x :: xs, vs, r => by
    obtain ⟨v, ws, e, _, r⟩ := r
    subst e
    rw [List.length_cons, List.length_cons, RVs.length r]
theorem RVs.get : ∀ {xs : List AV} {vs : List V} {i : Nat} {x : AV}, RVs κ H ι n xs vs → xs[i]? = some x → ∃ v, vs[i]? = some v ∧ RV κ H ι n x v
  | [], _, _, _, _, e => by simp at e
  | y :: xs, vs, 0, x, r, e => by
    obtain ⟨v, ws, e1, r1, _⟩ := r
    subst e1
    have : y = x := by simpa using e
    subst this
    exact ⟨v, rfl, r1⟩
  | y :: xs, vs, i + 1, x, r, e => by
    obtain ⟨v, ws, e1, _, r⟩ := r
    subst e1
    obtain ⟨w, q1, q2⟩ := RVs.get (i := i) (x := x) r (by simpa using e)
    exact ⟨w, by simpa using q1, q2⟩
theorem RVs.append : ∀ {xs ys : List AV} {vs ws : List V}, RVs κ H ι n xs vs → RVs κ H ι n ys ws → RVs κ H ι n (xs ++ ys) (vs ++ ws)
  | [], _, vs, _, r, s => by rw [show vs = [] from r]; exact s
  | x :: xs, _, vs, _, r, s => by
    obtain ⟨v, us, e, r1, r⟩ := r
    subst e
    exact ⟨v, _, rfl, r1, RVs.append r s⟩
theorem RVs.take : ∀ {xs : List AV} {vs : List V} (k : Nat), RVs κ H ι n xs vs → RVs κ H ι n (xs.take k) (vs.take k)
  | _, _, 0, _ => by rw [List.take_zero, List.take_zero]; rfl
  | [], vs, k + 1, r => by rw [show vs = [] from r]; rfl
  | x :: xs, vs, k + 1, r => by
    obtain ⟨v, us, e, r1, r⟩ := r
    subst e
    exact ⟨v, _, rfl, r1, RVs.take k r⟩
theorem RVs.drop : ∀ {xs : List AV} {vs : List V} (k : Nat), RVs κ H ι n xs vs → RVs κ H ι n (xs.drop k) (vs.drop k)
  | _, _, 0, r => r
  | [], vs, k + 1, r => by rw [show vs = [] from r]; rfl
  | x :: xs, vs, k + 1, r => by
    obtain ⟨v, us, e, r1, r⟩ := r
    subst e
    exact RVs.drop k r
theorem RVs.set {x : AV} {v : V} (rx : RV κ H ι n x v) : ∀ {xs : List AV} {vs : List V} (k : Nat), RVs κ H ι n xs vs → RVs κ H ι n (xs.set k x) (vs.set k v)
  | [], vs, k, r => by rw [show vs = [] from r]; rfl
  | y :: xs, vs, 0, r => by
    obtain ⟨u, us, e, r1, r⟩ := r
    subst e
    exact ⟨v, us, rfl, rx, r⟩
  | y :: xs, vs, k + 1, r => by
    obtain ⟨u, us, e, r1, r⟩ := r
    subst e
    exact ⟨u, _, rfl, r1, RVs.set rx k r⟩
theorem RVs.erase : ∀ {xs : List AV} {vs : List V} (k : Nat), RVs κ H ι n xs vs → RVs κ H ι n (xs.eraseIdx k) (vs.eraseIdx k)
  | [], vs, k, r => by rw [show vs = [] from r]; rfl
  | y :: xs, vs, 0, r => by
    obtain ⟨u, us, e, r1, r⟩ := r
    subst e
    exact r
  | y :: xs, vs, k + 1, r => by
    obtain ⟨u, us, e, r1, r⟩ := r
    subst e
    exact ⟨u, _, rfl, r1, RVs.erase k r⟩
theorem RVs.ints : ∀ (ns : List Int), RVs κ H ι n (ns.map .int) (ns.map V.int)
  | [] => rfl
  | i :: ns => ⟨.int i, ns.map V.int, rfl, rfl, RVs.ints ns⟩
theorem RVs.ints_inv : ∀ {xs : List AV} {vs : List V} {ns : List Int}, RVs κ H ι n xs vs → asInts xs = some ns → vs = ns.map V.int
  | [], vs, ns, r, e => by
    rw [show vs = [] from r]
    have : ns = [] := by simpa [asInts, mapO] using e.symm
    rw [this]; rfl
  | x :: xs, vs, ns, r, e => by
    obtain ⟨v, ws, rfl, r1, r⟩ := r
    have e : (asInt x).bind (fun d => (asInts xs).map fun ds => d :: ds) = some ns := e
    cases x with
    | int i =>
      have e : (asInts xs).map (fun ds => i :: ds) = some ns := e
      cases q : asInts xs with
      | none => rw [q] at e; cases e
      | some ms =>
        rw [q] at e
        have e' : i :: ms = ns := by simpa using e
        subst e'
        have := RVs.ints_inv (ns := ms) r q
        rw [show v = V.int i from r1, this]
        rfl
    | _ => cases e
theorem RVs.bls_inv : ∀ {xs : List AV} {vs : List V} {ns : List Bool}, RVs κ H ι n xs vs → asBls xs = some ns → vs = ns.map V.bl
  | [], vs, ns, r, e => by
    rw [show vs = [] from r]
    have : ns = [] := by simpa [asBls, mapO] using e.symm
    rw [this]; rfl
  | x :: xs, vs, ns, r, e => by
    obtain ⟨v, ws, rfl, r1, r⟩ := r
    have e : (asBl x).bind (fun d => (asBls xs).map fun ds => d :: ds) = some ns := e
    cases x with
    | bl i =>
      have e : (asBls xs).map (fun ds => i :: ds) = some ns := e
      cases q : asBls xs with
      | none => rw [q] at e; cases e
      | some ms =>
        rw [q] at e
        have e' : i :: ms = ns := by simpa using e
        subst e'
        have := RVs.bls_inv (ns := ms) r q
        rw [show v = V.bl i from r1, this]
        rfl
    | _ => cases e
/-- a list in the heap -/
theorem Rep.lst (R : Rep κ ι h H) {a : Nat} {xs : List AV} (e : h.get a = some (.lst xs)) : a < h.n ∧ ∃ ys, H (ι a) = some (.lst ys) ∧ RVs κ H ι h.n xs ys := by
  have l := AH.get_lt e
  have r := R.ob a l
  rw [AH.get_m e] at r
  exact ⟨l, r⟩
theorem Rep.dK (R : Rep κ ι h H) {a : Nat} {xs : List (L2.Key × AV)} (e : h.get a = some (.dK xs)) : a < h.n ∧ ∃ ys, H (ι a) = some (.dK ys) ∧ RKs κ H ι h.n xs ys := by
  have l := AH.get_lt e
  have r := R.ob a l
  rw [AH.get_m e] at r
  exact ⟨l, r⟩
theorem Rep.dT (R : Rep κ ι h H) {a : Nat} {xs : List (List L2.Key × AV)} (e : h.get a = some (.dT xs)) : a < h.n ∧ ∃ ys, H (ι a) = some (.dT ys) ∧ RKs κ H ι h.n xs ys := by
  have l := AH.get_lt e
  have r := R.ob a l
  rw [AH.get_m e] at r
  exact ⟨l, r⟩
theorem Rep.ins (R : Rep κ ι h H) {a : Nat} {c : Nat} {fs : List (Nat × AV)} (e : h.get a = some (.ins c fs)) : a < h.n ∧ ∃ dx ys, H (ι a) = some (.ins (κ.C c) dx ys) ∧ RFs κ H ι h.n fs ys := by
  have l := AH.get_lt e
  have r := R.ob a l
  rw [AH.get_m e] at r
  exact ⟨l, r⟩
/-- a list that is read -/
theorem Rep.rdL (R : Rep κ ι h H) {x : AV} {v : V} {xs : List AV} (r : RV κ H ι h.n x v) (e : rdL h x = some xs) : ∃ p ys, v = .ref p ∧ SqL κ.K H p ys ∧ RVs κ H ι h.n xs ys := by
  cases x with
  | ref a =>
    obtain ⟨_, rfl⟩ := r
    unfold Mi.rdL at e
    dsimp only at e
    split at e
    · rename_i ys q
      cases e
      obtain ⟨l, zs, q1, q2⟩ := R.lst q
      exact ⟨_, zs, rfl, SqL.of q1, q2⟩
    · cases e
  | frl ns =>
    obtain ⟨p, rfl, q⟩ := r
    have e' : ns.map AV.int = xs := by simpa [Mi.rdL] using e
    subst e'
    refine ⟨p, ns.map V.int, rfl, ?_, RVs.ints ns⟩
    rcases q with ⟨o, q⟩ | q
    · exact .inl (.inr ⟨o, q⟩)
    · exact .inr q
  | _ => cases e
theorem Rep.rdS (R : Rep κ ι h H) {x : AV} {v : V} {xs : List AV} (r : RV κ H ι h.n x v) (e : rdS h x = some xs) : ∃ p ys, v = .ref p ∧ (SqL κ.K H p ys ∨ SqT κ.K H p ys) ∧ RVs κ H ι h.n xs ys := by
  cases x with
  | tup zs =>
    obtain ⟨p, ys, rfl, r, q⟩ := r
    have e' : zs = xs := by simpa [Mi.rdS] using e
    subst e'
    refine ⟨p, ys, rfl, .inr ?_, r⟩
    rcases q with q | ⟨rfl, q⟩
    · exact SqT.of q
    · rw [show ys = [] from r]
      exact q.seq
  | _ =>
    obtain ⟨p, ys, e1, q, r⟩ := R.rdL r (by exact e)
    exact ⟨p, ys, e1, .inl q, r⟩
theorem Rep.tup {x : List AV} {v : V} (r : RV κ H ι h.n (.tup x) v) : ∃ p ys, v = .ref p ∧ SqT κ.K H p ys ∧ RVs κ H ι h.n x ys := by
  obtain ⟨p, ys, rfl, r, q⟩ := r
  refine ⟨p, ys, rfl, ?_, r⟩
  rcases q with q | ⟨rfl, q⟩
  · exact SqT.of q
  · rw [show ys = [] from r]
    exact q.seq

/-! ### results that leave the heap, a new list -/
theorem PostO.same (R : Rep κ ι h H) {x : AV} {w : V} {Q : VK} (p : PostO κ ι h H (some (x, h)) Q) (r : RV κ H ι h.n x w) : Q w H := p ι H w (Stp.refl R) r
theorem PostO.newL (R : Rep κ ι h H) {xs : List AV} {ys : List V} {Q : VK} (p : PostO κ ι h H (some (.ref h.n, h.push (.lst xs))) Q) (r : RVs κ H ι h.n xs ys) {a : Addr} (hp : H a = none) : Q (.ref a) (upd H a (.lst ys)) := by
  have S := R.push (o := .lst ys) (ao := .lst xs) hp ⟨ys, upd_same, RVs.mono (Kept.new hp) (fun _ l => ext1_old l) (Nat.le_succ _) _ _ r⟩
  exact p _ _ _ S ⟨Nat.lt_succ_self _, by rw [ext1_new]⟩
theorem PostO.newT (R : Rep κ ι h H) {xs : List AV} {ys : List V} {Q : VK} (p : PostO κ ι h H (some (.tup xs, h)) Q) (r : RVs κ H ι h.n xs ys) {a : Addr} (hp : H a = none) : Q (.ref a) (upd H a (.tup ys)) :=
  p _ _ _ (R.side hp) ⟨a, ys, rfl, RVs.mono (Kept.new hp) (fun _ _ => rfl) (Nat.le_refl _) _ _ r, .inl upd_same⟩
end
end Mi
set_option Elab.async false
set_option maxRecDepth 100000
set_option maxHeartbeats 4000000
/-! MiOps2: the operators, subscripts, built-ins keep the interpreter's operations on values. -/
namespace Mi
open PySem L2 PySem.Spec PyProof.Rows
section
variable {κ : Ks} {σ : L2.St} {ι : Io} {h : AH} {H : Hp} {n : Nat}
/-! ### data -/
theorem asInts_map : ∀ ns : List Int, asInts (ns.map AV.int) = some ns
  | [] => rfl
  | i :: ns => by
    show (some i).bind (fun d => (asInts (ns.map AV.int)).map fun ds => d :: ds) = _
    rw [asInts_map ns]
    rfl
/-- what is known of the data of a value -/
structure DatOk (K : PySem.W.Frag) (H : Hp) (n : Nat) (v : V) (d : PyData) : Prop where
  dp : Dp K H v d
  lay : d.canLay0 = true
  dep : d.depth ≤ n
structure DatsOk (K : PySem.W.Frag) (H : Hp) (n : Nat) (vs : List V) (ds : List PyData) : Prop where
  dp : DpAll K H vs ds
  lay : PyData.canLayAll0 ds = true
  dep : PyData.depthAll ds ≤ n
theorem DatsOk.of {K : PySem.W.Frag} {f : AV → Option PyData} (ok : ∀ x v d, RV κ H ι h.n x v → f x = some d → DatOk K H n v d) : ∀ {xs : List AV} {vs : List V} {ds : List PyData}, RVs κ H ι h.n xs vs → mapO f xs = some ds → DatsOk K H n vs ds
  | [], vs, ds, r, e => by
    rw [show vs = [] from r]
    have : ds = [] := by simpa [mapO] using e.symm
    subst this
    exact ⟨.nil, rfl, Nat.zero_le _⟩
  | x :: xs, vs, ds, r, e => by
    obtain ⟨v, ws, rfl, r1, r⟩ := r
    unfold mapO at e
    cases q1 : f x with
    | none => rw [q1] at e; cases e
    | some d =>
      cases q2 : mapO f xs with
      | none => rw [q1, q2] at e; cases e
      | some es =>
        rw [q1, q2] at e
        have e' : d :: es = ds := by simpa using e
        subst e'
        have o1 := ok x v d r1 q1
        have o2 := DatsOk.of ok r q2
        refine ⟨.cons o1.dp o2.dp, ?_, ?_⟩
        · simp only [PyData.canLayAll0, o1.lay, o2.lay, Bool.and_self]
        · simp only [PyData.depthAll]
          exact Nat.max_le.mpr ⟨o1.dep, o2.dep⟩
theorem ints_lay : ∀ ns : List Int, PyData.canLayAll0 (ns.map .int) = true ∧ PyData.depthAll (ns.map .int) = 0
  | [] => ⟨rfl, rfl⟩
  | i :: ns => by
    obtain ⟨h1, h2⟩ := ints_lay ns
    simp only [List.map_cons, PyData.canLayAll0, PyData.depthAll, PyData.canLay0, PyData.depth, h1, h2]
    exact ⟨rfl, rfl⟩
theorem ints_dp {K : PySem.W.Frag} : ∀ ns : List Int, DpAll K H (ns.map V.int) (ns.map .int)
  | [] => .nil
  | i :: ns => .cons (.int i) (ints_dp ns)
theorem dat_ok (R : Rep κ ι h H) : ∀ (n : Nat) (x : AV) (v : V) (d : PyData), RV κ H ι h.n x v → dat h n x = some d → DatOk κ.K H n v d
  | 0, x, v, d, r, e => by
    cases x with
    | non => cases e; rw [show v = .non from r]; exact ⟨.non, rfl, Nat.le_refl _⟩
    | bl b => cases e; rw [show v = .bl b from r]; exact ⟨.bl b, rfl, Nat.le_refl _⟩
    | int i => cases e; rw [show v = .int i from r]; exact ⟨.int i, rfl, Nat.le_refl _⟩
    | str s =>
      unfold dat at e
      dsimp only at e
      split at e
      · rename_i q
        cases e; rw [show v = .str s from r]; exact ⟨.str s, q, Nat.le_refl _⟩
      · cases e
    | _ => cases e
  | n + 1, x, v, d, r, e => by
    cases x with
    | non => cases e; rw [show v = .non from r]; exact ⟨.non, rfl, Nat.zero_le _⟩
    | bl b => cases e; rw [show v = .bl b from r]; exact ⟨.bl b, rfl, Nat.zero_le _⟩
    | int i => cases e; rw [show v = .int i from r]; exact ⟨.int i, rfl, Nat.zero_le _⟩
    | str s =>
      unfold dat at e
      dsimp only at e
      split at e
      · rename_i q
        cases e; rw [show v = .str s from r]; exact ⟨.str s, q, Nat.zero_le _⟩
      · cases e
    | tup xs =>
      obtain ⟨p, ys, rfl, ht, r⟩ := Rep.tup r
      unfold dat at e
      dsimp only at e
      cases q : mapO (dat h n) xs with
      | none => rw [q] at e; cases e
      | some ds =>
        rw [q] at e; cases e
        have o := DatsOk.of (K := κ.K) (fun x v d => dat_ok R n x v d) r q
        exact ⟨.tup ht o.dp, o.lay, Nat.succ_le_succ o.dep⟩
    | ref a =>
      unfold dat at e
      dsimp only at e
      split at e
      · rename_i xs q0
        obtain ⟨p, ys, rfl, ht, r⟩ := R.rdL r q0
        cases q : mapO (dat h n) xs with
        | none => rw [q] at e; cases e
        | some ds =>
          rw [q] at e; cases e
          have o := DatsOk.of (K := κ.K) (fun x v d => dat_ok R n x v d) r q
          exact ⟨.lst ht o.dp, o.lay, Nat.succ_le_succ o.dep⟩
      · cases e
    | xcp c ks xs => cases e
    | frl ns =>
      cases e
      obtain ⟨p, ys, rfl, ht, r'⟩ := R.rdL r rfl
      have e1 : ys = ns.map V.int := RVs.ints_inv r' (asInts_map ns)
      subst e1
      refine ⟨.lst ht (ints_dp ns), (ints_lay ns).1, ?_⟩
      show PyData.depthAll _ + 1 ≤ n + 1
      rw [(ints_lay ns).2]
      omega
theorem DatOk.shaped {K : PySem.W.Frag} {v : V} {d : PyData} (o : DatOk K H 60 v d) : SeqAt.shaped d = true := by
  show (d.canLay0 && decide (d.depth ≤ 64)) = true
  rw [o.lay, decide_eq_true (Nat.le_trans o.dep (by decide))]
  rfl
theorem DatsOk.shaped {K : PySem.W.Frag} {v : List V} {d : List PyData} (o : DatsOk K H 60 v d) : SeqAt.shaped (.list d) = true := by
  show (PyData.canLayAll0 d && decide (PyData.depthAll d + 1 ≤ 64)) = true
  have := o.dep
  rw [o.lay, decide_eq_true (by omega)]
  rfl
end

/-! ### operators -/
section
variable {κ : Ks} {X : Cx}
theorem ok_add (hK : X.K = κ.K) : OpR X (binaryOp .Add) (R2of κ (o2S .add)) := by
  intro pins s σ H x y v u Q I rx ry q
  obtain ⟨ι, h, a, b, R, ra, rb, P⟩ := q
  cases a with
  | int i =>
    cases b with
    | int j =>
      obtain rfl : x = .int i := ra
      obtain rfl : y = .int j := rb
      exact op_add pins s σ H _ _ v u Q I rx ry ⟨i, j, rfl, rfl, P.same R rfl⟩
    | _ => exact P.elim
  | str i =>
    cases b with
    | str j =>
      obtain rfl : x = .str i := ra
      obtain rfl : y = .str j := rb
      unfold o2S at P
      dsimp only at P
      split at P
      · rename_i hl
        exact op_add_str pins s σ H _ _ v u Q I rx ry ⟨i, j, rfl, rfl, hl, P.same R rfl⟩
      · exact P.elim
    | _ => exact P.elim
  | ref a =>
    cases b with
    | ref b =>
      obtain ⟨_, rfl⟩ := ra
      obtain ⟨_, rfl⟩ := rb
      unfold o2S at P
      dsimp only at P
      split at P
      · rename_i xs ys e1 e2
        split at P
        · rename_i hl
          obtain ⟨_, zs, q1, r1⟩ := R.lst e1
          obtain ⟨_, ws, q2, r2⟩ := R.lst e2
          exact op_cat pins s σ H _ _ v u Q I rx ry ⟨_, _, zs, ws, rfl, rfl, q1, q2, by rw [← r1.length, ← r2.length]; exact hl, fun p hp => P.newL R (r1.append r2) hp⟩
        · exact P.elim
      · exact P.elim
    | _ => exact P.elim
  | _ => exact P.elim
theorem ok_sub : OpR X (binaryOp .Sub) (R2of κ (o2S .sub)) := by
  intro pins s σ H x y v u Q I rx ry q
  obtain ⟨ι, h, a, b, R, ra, rb, P⟩ := q
  cases a with
  | int i =>
    cases b with
    | int j =>
      obtain rfl : x = .int i := ra
      obtain rfl : y = .int j := rb
      exact op_sub pins s σ H _ _ v u Q I rx ry ⟨i, j, rfl, rfl, P.same R rfl⟩
    | _ => exact P.elim
  | _ => exact P.elim
theorem ok_mul : OpR X (binaryOp .Mult) (R2of κ (o2S .mul)) := by
  intro pins s σ H x y v u Q I rx ry q
  obtain ⟨ι, h, a, b, R, ra, rb, P⟩ := q
  cases a with
  | int i =>
    cases b with
    | int j =>
      obtain rfl : x = .int i := ra
      obtain rfl : y = .int j := rb
      unfold o2S at P
      dsimp only at P
      split at P
      · rename_i hl
        exact op_mul pins s σ H _ _ v u Q I rx ry ⟨i, j, rfl, rfl, hl, P.same R rfl⟩
      · exact P.elim
    | _ => exact P.elim
  | _ => exact P.elim
theorem ok_fdiv : OpR X (binaryOp .FloorDiv) (R2of κ (o2S .fdiv)) := by
  intro pins s σ H x y v u Q I rx ry q
  obtain ⟨ι, h, a, b, R, ra, rb, P⟩ := q
  cases a with
  | int i =>
    cases b with
    | int j =>
      obtain rfl : x = .int i := ra
      obtain rfl : y = .int j := rb
      unfold o2S at P
      dsimp only at P
      split at P
      · rename_i hl
        exact op_fdiv pins s σ H _ _ v u Q I rx ry ⟨i, j, rfl, rfl, hl, P.same R rfl⟩
      · exact P.elim
    | _ => exact P.elim
  | _ => exact P.elim
theorem ok_mod : OpR X (binaryOp .Mod) (R2of κ (o2S .mod)) := by
  intro pins s σ H x y v u Q I rx ry q
  obtain ⟨ι, h, a, b, R, ra, rb, P⟩ := q
  cases a with
  | int i =>
    cases b with
    | int j =>
      obtain rfl : x = .int i := ra
      obtain rfl : y = .int j := rb
      unfold o2S at P
      dsimp only at P
      split at P
      · rename_i hl
        exact op_mod pins s σ H _ _ v u Q I rx ry ⟨i, j, rfl, rfl, hl, P.same R rfl⟩
      · exact P.elim
    | _ => exact P.elim
  | _ => exact P.elim
theorem ok_pow : OpR X (binaryOp .Pow) (R2of κ (o2S .pow)) := by
  intro pins s σ H x y v u Q I rx ry q
  obtain ⟨ι, h, a, b, R, ra, rb, P⟩ := q
  cases a with
  | int i =>
    cases b with
    | int j =>
      obtain rfl : x = .int i := ra
      obtain rfl : y = .int j := rb
      unfold o2S at P
      dsimp only at P
      split at P
      · rename_i hl
        exact op_pow pins s σ H _ _ v u Q I rx ry ⟨i, j, rfl, rfl, hl, P.same R rfl⟩
      · exact P.elim
    | _ => exact P.elim
  | _ => exact P.elim
/-- a comparison of ints -/
theorem ok_cmpI {f : Value → Value → Sem Value} {o : O2} {g : Int → Int → Bool} (ho : OpR X f (rI0 fun i j => .bl (g i j)))
    (hs : ∀ i j h, o2S o (.int i) (.int j) h = some (.bl (g i j), h)) (hn : ∀ a b h, (∀ i j, a = .int i → b ≠ .int j) → o2S o a b h = none) : OpR X f (R2of κ (o2S o)) := by
  intro pins s σ H x y v u Q I rx ry q
  obtain ⟨ι, h, a, b, R, ra, rb, P⟩ := q
  by_cases hc : ∃ i j, a = .int i ∧ b = .int j
  · obtain ⟨i, j, rfl, rfl⟩ := hc
    obtain rfl : x = .int i := ra
    obtain rfl : y = .int j := rb
    rw [hs] at P
    exact ho pins s σ H _ _ v u Q I rx ry ⟨i, j, rfl, rfl, P.same R rfl⟩
  · rw [hn a b h fun i j e1 e2 => hc ⟨i, j, e1, e2⟩] at P
    exact P.elim
theorem o2_none {o : O2} (h1 : o = .lt ∨ o = .le ∨ o = .gt ∨ o = .ge) (a b : AV) (h : AH) (k : ∀ i j, a = .int i → b ≠ .int j) : o2S o a b h = none := by
  rcases h1 with rfl | rfl | rfl | rfl <;> (cases a <;> first | rfl | (cases b <;> first | rfl | exact absurd rfl (k _ _ rfl)))
theorem ok_lt : OpR X (compareOp .Lt) (R2of κ (o2S .lt)) := ok_cmpI op_lt (fun _ _ _ => rfl) (o2_none (.inl rfl))
theorem ok_le : OpR X (compareOp .LtE) (R2of κ (o2S .le)) := ok_cmpI op_le (fun _ _ _ => rfl) (o2_none (.inr (.inl rfl)))
theorem ok_gt : OpR X (compareOp .Gt) (R2of κ (o2S .gt)) := ok_cmpI op_gt (fun _ _ _ => rfl) (o2_none (.inr (.inr (.inl rfl))))
theorem ok_ge : OpR X (compareOp .GtE) (R2of κ (o2S .ge)) := ok_cmpI op_ge (fun _ _ _ => rfl) (o2_none (.inr (.inr (.inr rfl))))
theorem eqS_inv {a b : AV} {h : AH} {k : Bool} (e : eqS a b h = some k) : (∃ s t, a = .str s ∧ b = .str t ∧ k = decide (s = t)) ∨ ∃ d d', dat h 60 a = some d ∧ dat h 60 b = some d' ∧ k = PyData.eqv d d' := by
  unfold eqS at e
  split at e
  · exact .inl ⟨_, _, rfl, rfl, (Option.some.inj e).symm⟩
  · right
    cases e1 : dat h 60 a with
    | none => rw [e1] at e; cases e
    | some d =>
      cases e2 : dat h 60 b with
      | none => rw [e1, e2] at e; cases e
      | some d' =>
        rw [e1, e2] at e
        exact ⟨d, d', rfl, rfl, (Option.some.inj e).symm⟩
theorem ok_eq (hK : X.K = κ.K) (hu : X.A.units + 64 < cLine) : OpR X (compareOp .Eq) (R2of κ (o2S .eq)) := by
  intro pins s σ H x y v u Q I rx ry q
  obtain ⟨ι, h, a, b, R, ra, rb, P⟩ := q
  unfold o2S at P
  dsimp only at P
  cases ek : eqS a b h with
  | none => rw [ek] at P; exact P.elim
  | some k =>
    rw [ek] at P
    rcases eqS_inv ek with ⟨s1, s2, rfl, rfl, rfl⟩ | ⟨d, e, e1, e2, rfl⟩
    · obtain rfl : x = .str s1 := ra
      obtain rfl : y = .str s2 := rb
      refine op_eq pins s σ H _ _ v u Q I rx ry ⟨rfl, ?_⟩
      rw [show decide (V.str s1 = V.str s2) = decide (s1 = s2) from by simp]
      exact P.same R rfl
    · have o1 := dat_ok R 60 a x d ra e1
      have o2 := dat_ok R 60 b y e rb e2
      exact op_eqD hu pins s σ H x y v u Q I rx ry ⟨d, e, hK ▸ o1.dp, hK ▸ o2.dp, o1.shaped, o2.shaped, P.same R rfl⟩
theorem ok_ne (hK : X.K = κ.K) (hu : X.A.units + 64 < cLine) : OpR X (compareOp .NotEq) (R2of κ (o2S .ne)) := by
  intro pins s σ H x y v u Q I rx ry q
  obtain ⟨ι, h, a, b, R, ra, rb, P⟩ := q
  unfold o2S at P
  dsimp only at P
  cases ek : eqS a b h with
  | none => rw [ek] at P; exact P.elim
  | some k =>
    rw [ek] at P
    rcases eqS_inv ek with ⟨s1, s2, rfl, rfl, rfl⟩ | ⟨d, e, e1, e2, rfl⟩
    · obtain rfl : x = .str s1 := ra
      obtain rfl : y = .str s2 := rb
      refine op_ne pins s σ H _ _ v u Q I rx ry ⟨rfl, ?_⟩
      rw [show decide (V.str s1 = V.str s2) = decide (s1 = s2) from by simp]
      exact P.same R rfl
    · have o1 := dat_ok R 60 a x d ra e1
      have o2 := dat_ok R 60 b y e rb e2
      exact op_neD hu pins s σ H x y v u Q I rx ry ⟨d, e, hK ▸ o1.dp, hK ▸ o2.dp, o1.shaped, o2.shaped, P.same R rfl⟩
end

/-! ### dicts -/
section
variable {κ : Ks} {σ : L2.St} {ι : Io} {h : AH} {H : Hp} {n : Nat}
theorem RKs.val {α : Type} [DecidableEq α] : ∀ {kvs : List (α × AV)} {ys : List (α × V)} (k : α), RKs κ H ι n kvs ys → (∀ x, valA kvs k = some x → ∃ v, L2.valV ys k = some v ∧ RV κ H ι n x v) ∧ (valA kvs k).isSome = (L2.valV ys k).isSome
  | [], ys, k, r => by
    rw [show ys = [] from r]
    exact ⟨fun x e => by simp [valA] at e, rfl⟩
  | (j, x) :: kvs, ys, k, r => by
    obtain ⟨v, ws, rfl, r1, r⟩ := r
    by_cases e : j = k
    · have e1 : valA ((j, x) :: kvs) k = some x := by simp [valA, List.find?_cons, e]
      have e2 : L2.valV ((j, v) :: ws) k = some v := L2.valV_pos (p := (j, v)) e
      rw [e1, e2]
      exact ⟨fun y q => ⟨v, rfl, by rw [← Option.some.inj q]; exact r1⟩, rfl⟩
    · have e1 : valA ((j, x) :: kvs) k = valA kvs k := by simp [valA, List.find?_cons, e]
      have e2 : L2.valV ((j, v) :: ws) k = L2.valV ws k := L2.valV_neg (p := (j, v)) e
      rw [e1, e2]
      exact RKs.val k r
theorem RKs.length {α : Type} : ∀ {kvs : List (α × AV)} {ys : List (α × V)}, RKs κ H ι n kvs ys → kvs.length = ys.length
  | [], ys, r => by rw [show ys = [] from r]; rfl
  | (j, x) :: kvs, ys, r => by
    obtain ⟨v, ws, rfl, _, r⟩ := r
    rw [List.length_cons, List.length_cons, RKs.length r]
theorem RKs.app {α : Type} : ∀ {kvs : List (α × AV)} {ys : List (α × V)} {k : α} {x : AV} {v : V}, RKs κ H ι n kvs ys → RV κ H ι n x v → RKs κ H ι n (kvs ++ [(k, x)]) (ys ++ [(k, v)])
  | [], ys, k, x, v, r, rx => by rw [show ys = [] from r]; exact ⟨v, [], rfl, rx, rfl⟩
  | (j, x) :: kvs, ys, k, _, _, r, rx => by
    obtain ⟨v, ws, rfl, r1, r⟩ := r
    exact ⟨v, _, rfl, r1, RKs.app r rx⟩
theorem RKs.rep {α : Type} [DecidableEq α] : ∀ {kvs : List (α × AV)} {ys : List (α × V)} {k : α} {x : AV} {v : V}, RKs κ H ι n kvs ys → RV κ H ι n x v →
    RKs κ H ι n (kvs.map fun kv => if kv.1 = k then (kv.1, x) else kv) (ys.map fun kv => if kv.1 = k then (kv.1, v) else kv)
  | [], ys, k, x, v, r, rx => by rw [show ys = [] from r]; rfl
  | (j, y) :: kvs, ys, k, x, v, r, rx => by
    obtain ⟨u, ws, rfl, r1, r⟩ := r
    by_cases e : j = k
    · simp only [List.map_cons, e, if_true]
      exact ⟨v, _, rfl, rx, RKs.rep r rx⟩
    · simp only [List.map_cons, e, if_false]
      exact ⟨u, _, rfl, r1, RKs.rep r rx⟩
theorem RKs.any {α : Type} [DecidableEq α] (k : α) : ∀ {kvs : List (α × AV)} {ys : List (α × V)}, RKs κ H ι n kvs ys → (kvs.any fun kv => decide (kv.1 = k)) = ys.any fun kv => decide (kv.1 = k)
  | [], ys, r => by rw [show ys = [] from r]; rfl
  | (j, y) :: kvs, ys, r => by
    obtain ⟨u, ws, rfl, r1, r⟩ := r
    rw [List.any_cons, List.any_cons, RKs.any k r]
theorem RKs.put {α : Type} [DecidableEq α] {kvs : List (α × AV)} {ys : List (α × V)} {k : α} {x : AV} {v : V} (r : RKs κ H ι n kvs ys) (rx : RV κ H ι n x v) : RKs κ H ι n (putA kvs k x) (L2.putK ys k v) := by
  unfold putA L2.putK
  rw [RKs.any k r]
  split
  · exact RKs.rep r rx
  · exact RKs.app r rx
/-- a key's value -/
theorem key_val {x : AV} {v : V} {k : L2.Key} (r : RV κ H ι n x v) (e : keyOf x = some k) : v = L2.kV k := by
  cases x with
  | int i => cases e; exact r
  | str s => cases e; exact r
  | _ => cases e
theorem keys_val : ∀ {xs : List AV} {vs : List V} {ks : List L2.Key}, RVs κ H ι n xs vs → mapO keyOf xs = some ks → vs = ks.map L2.kV
  | [], vs, ks, r, e => by
    rw [show vs = [] from r]
    have : ks = [] := by simpa [mapO] using e.symm
    rw [this]; rfl
  | x :: xs, vs, ks, r, e => by
    obtain ⟨v, ws, rfl, r1, r⟩ := r
    unfold mapO at e
    cases q1 : keyOf x with
    | none => rw [q1] at e; cases e
    | some d =>
      cases q2 : mapO keyOf xs with
      | none => rw [q1, q2] at e; cases e
      | some es =>
        rw [q1, q2] at e
        have e' : d :: es = ks := by simpa using e
        subst e'
        rw [key_val r1 q1, keys_val r q2]
        rfl
theorem tkey_val {x : AV} {v : V} {k : List L2.Key} (r : RV κ H ι n x v) (e : tkeyOf x = some k) : ∃ b, v = .ref b ∧ H b = some (.tup (k.map L2.kV)) := by
  cases x with
  | tup xs =>
    cases xs with
    | nil => cases e
    | cons z zs =>
      obtain ⟨p, ys, rfl, r, q⟩ := r
      have e' := keys_val r e
      subst e'
      rcases q with q | ⟨q, _⟩
      · exact ⟨p, rfl, q⟩
      · cases q
  | _ => cases e
/-- what a dict holds at a key -/
theorem Rep.dget (R : Rep κ ι h H) {a : Nat} {y : AV} {u : V} (ry : RV κ H ι h.n y u) {o : Option AV}
    (e : (∃ kvs k, h.get a = some (.dK kvs) ∧ keyOf y = some k ∧ o = valA kvs k) ∨ ∃ kvs k, h.get a = some (.dT kvs) ∧ tkeyOf y = some k ∧ o = valA kvs k) :
    ∃ r, L2.DGet H (ι a) u r ∧ o.isSome = r.isSome ∧ ∀ x, o = some x → ∃ v, r = some v ∧ RV κ H ι h.n x v := by
  rcases e with ⟨kvs, k, e1, e2, rfl⟩ | ⟨kvs, k, e1, e2, rfl⟩
  · obtain ⟨_, ys, q, r⟩ := R.dK e1
    obtain ⟨z1, z2⟩ := r.val k
    rw [key_val ry e2]
    exact ⟨_, L2.DGet.k q, z2, fun x e => let ⟨v, q1, q2⟩ := z1 x e; ⟨v, q1, q2⟩⟩
  · obtain ⟨_, ys, q, r⟩ := R.dT e1
    obtain ⟨z1, z2⟩ := r.val k
    obtain ⟨b, rfl, hb⟩ := tkey_val ry e2
    exact ⟨_, L2.DGet.t q hb, z2, fun x e => let ⟨v, q1, q2⟩ := z1 x e; ⟨v, q1, q2⟩⟩
end
end Mi
set_option Elab.async false
set_option maxRecDepth 100000
set_option maxHeartbeats 4000000
/-! MiOps3: subscripts, membership, slices, truth, built-in calls, methods of lists, stores. -/
namespace Mi
open PySem L2 PySem.Spec PyProof.Rows
section
variable {κ : Ks} {X : Cx}
theorem RVs.getA {H : Hp} {ι : Io} {n : Nat} {xs : List AV} {vs : List V} {i : Int} {x : AV} (r : RVs κ H ι n xs vs) (e : L2.atI xs i = some x) : ∃ v, L2.atI vs i = some v ∧ RV κ H ι n x v := by
  unfold L2.atI at e ⊢
  rw [r.length] at e
  cases q : L2.ixN vs.length i with
  | none => rw [q] at e; cases e
  | some j =>
    rw [q] at e
    exact r.get e
/-- d[y] as a subscript by values -/
def rIxD : R2 := fun x y H Q => ∃ a v, x = .ref a ∧ L2.DGet H a y (some v) ∧ Q v H
theorem ix_dict (hu : X.A.units + 1 < cLine) : IxR X rIxD := by
  intro value slice pins s σ H x y v u Q I rx ry q hs
  obtain ⟨a, w, rfl, g, q⟩ := q
  obtain rfl : v = Value.ref a := rx
  exact tail_any (L2.dict_typeIs I g) PySem.F.slot_dict_getitem.lookup (L2.d_getItem hu I g ry fun w' s3 I3 rw' => ⟨w, H, I3, rw', q⟩) hs
theorem ok_ix (hK : X.K = κ.K) (hu : X.A.units + 1 < cLine) : IxR X (R2of κ (o2S .ix)) := by
  intro value slice pins s σ H x y v u Q I rx ry q hs
  obtain ⟨ι, h, a, b, R, ra, rb, P⟩ := q
  cases a with
  | ref a =>
    obtain ⟨_, rfl⟩ := id ra
    unfold o2S at P
    dsimp only at P
    split at P
    · rename_i kvs e
      cases ek : keyOf b with
      | none => rw [ek] at P; exact P.elim
      | some k =>
        cases ev : valA kvs k with
        | none => rw [ek, Option.bind_some, ev] at P; exact P.elim
        | some w =>
          rw [ek, Option.bind_some, ev] at P
          obtain ⟨r, g, _, z⟩ := R.dget rb (o := some w) (.inl ⟨kvs, k, e, ek, ev.symm⟩)
          obtain ⟨w', rfl, rw'⟩ := z w rfl
          exact ix_dict hu value slice pins s σ H _ y v u Q I rx ry ⟨_, w', rfl, g, P.same R rw'⟩ hs
    · rename_i kvs e
      cases ek : tkeyOf b with
      | none => rw [ek] at P; exact P.elim
      | some k =>
        cases ev : valA kvs k with
        | none => rw [ek, Option.bind_some, ev] at P; exact P.elim
        | some w =>
          rw [ek, Option.bind_some, ev] at P
          obtain ⟨r, g, _, z⟩ := R.dget rb (o := some w) (.inr ⟨kvs, k, e, ek, ev.symm⟩)
          obtain ⟨w', rfl, rw'⟩ := z w rfl
          exact ix_dict hu value slice pins s σ H _ y v u Q I rx ry ⟨_, w', rfl, g, P.same R rw'⟩ hs
    · cases b with
      | int i =>
        obtain rfl : y = .int i := rb
        dsimp only at P
        cases er : rdL h (.ref a) with
        | none => rw [er] at P; exact P.elim
        | some xs =>
          cases ei : L2.atI xs i with
          | none => rw [er, Option.bind_some, ei] at P; exact P.elim
          | some w =>
            rw [er, Option.bind_some, ei] at P
            obtain ⟨p, ys, e1, hq, r⟩ := R.rdL ra er
            obtain ⟨w', q1, q2⟩ := r.getA ei
            exact ix_list value slice pins s σ H _ _ v u Q I rx ry ⟨p, ys, i, w', e1, rfl, hK ▸ hq, q1, P.same R q2⟩ hs
      | _ => exact P.elim
  | tup xs =>
    cases b with
    | int i =>
      obtain rfl : y = .int i := rb
      unfold o2S at P
      dsimp only at P
      cases ei : L2.atI xs i with
      | none => rw [ei] at P; exact P.elim
      | some w =>
        rw [ei] at P
        obtain ⟨p, ys, e1, hq, r⟩ := Rep.tup ra
        obtain ⟨w', q1, q2⟩ := r.getA ei
        exact ix_tup value slice pins s σ H _ _ v u Q I rx ry ⟨p, ys, i, w', e1, rfl, hK ▸ hq, q1, P.same R q2⟩ hs
    | _ => exact P.elim
  | frl ns =>
    cases b with
    | int i =>
      obtain rfl : y = .int i := rb
      unfold o2S at P
      dsimp only at P
      cases ei : L2.atI ns i with
      | none => rw [ei] at P; exact P.elim
      | some w =>
        rw [ei] at P
        obtain ⟨p, ys, e1, hq, r⟩ := R.rdL ra rfl
        have ei' : L2.atI (ns.map AV.int) i = some (.int w) := by
          unfold L2.atI at ei ⊢
          rw [List.length_map]
          cases q : L2.ixN ns.length i with
          | none => rw [q] at ei; cases ei
          | some j =>
            rw [q] at ei
            show (ns.map AV.int)[j]? = _
            rw [List.getElem?_map, show ns[j]? = some w from ei]
            rfl
        obtain ⟨w', q1, q2⟩ := r.getA ei'
        exact ix_list value slice pins s σ H _ _ v u Q I rx ry ⟨p, ys, i, w', e1, rfl, hK ▸ hq, q1, P.same R q2⟩ hs
    | _ => exact P.elim
  | _ => exact P.elim
/-- membership: both ways -/
theorem in_data {ι : Io} {h : AH} {H : Hp} {a b : AV} {x y : V} {k : Bool} (R : Rep κ ι h H) (ra : RV κ H ι h.n a x) (rb : RV κ H ι h.n b y) (e : inS a b h = some k) :
    (∃ p r, y = .ref p ∧ L2.DGet H p x r ∧ k = r.isSome) ∨ ∃ d ds, Dp κ.K H x d ∧ Dp κ.K H y (.list ds) ∧ SeqAt.shaped d = true ∧ SeqAt.shaped (.list ds) = true ∧ k = ds.any fun z => PyData.eqv z d := by
  cases b with
  | ref p =>
    obtain ⟨_, rfl⟩ := id rb
    unfold inS at e
    dsimp only at e
    split at e
    · rename_i kvs e0
      cases ek : keyOf a with
      | none => rw [ek] at e; cases e
      | some j =>
        rw [ek] at e
        obtain ⟨r, g, z, _⟩ := R.dget ra (.inl ⟨kvs, j, e0, ek, rfl⟩)
        exact .inl ⟨_, r, rfl, g, by rw [← z]; exact (Option.some.inj e).symm⟩
    · rename_i kvs e0
      cases ek : tkeyOf a with
      | none => rw [ek] at e; cases e
      | some j =>
        rw [ek] at e
        obtain ⟨r, g, z, _⟩ := R.dget ra (.inr ⟨kvs, j, e0, ek, rfl⟩)
        exact .inl ⟨_, r, rfl, g, by rw [← z]; exact (Option.some.inj e).symm⟩
    · cases er : rdL h (.ref p) with
      | none => rw [er] at e; cases e
      | some xs =>
        cases ed : dat h 60 a with
        | none => rw [er, Option.bind_some, ed] at e; cases e
        | some d =>
          cases es : mapO (dat h 60) xs with
          | none => rw [er, Option.bind_some, ed, Option.bind_some, es] at e; cases e
          | some ds =>
            rw [er, Option.bind_some, ed, Option.bind_some, es] at e
            obtain ⟨q, ys, e1, hq, r⟩ := R.rdL rb er
            have o1 := dat_ok R 60 a x d ra ed
            have o2 := DatsOk.of (K := κ.K) (fun x v d => dat_ok R 60 x v d) r es
            rw [e1]
            exact .inr ⟨d, ds, o1.dp, .lst hq o2.dp, o1.shaped, o2.shaped, (Option.some.inj e).symm⟩
  | _ => cases e
theorem ok_in (hK : X.K = κ.K) (hu : X.A.units + 65 < cLine) : OpR X (compareOp .In) (R2of κ (o2S .inn)) := by
  intro pins s σ H x y v u Q I rx ry q
  obtain ⟨ι, h, a, b, R, ra, rb, P⟩ := q
  unfold o2S at P
  dsimp only at P
  cases e : inS a b h with
  | none => rw [e] at P; exact P.elim
  | some k =>
    rw [e] at P
    have fin : Q (.bl k) H := P.same R rfl
    rcases in_data R ra rb e with ⟨p, r, rfl, g, rfl⟩ | ⟨d, ds, h1, h2, h3, h4, rfl⟩
    · obtain rfl : u = Value.ref p := ry
      exact L2.d_in (by omega) I g rx fun s' J => ⟨.bl r.isSome, H, J, rfl, fin⟩
    · exact op_inD hu pins s σ H x y v u Q I rx ry ⟨d, ds, hK ▸ h1, hK ▸ h2, h3, h4, fin⟩
theorem ok_notin (hK : X.K = κ.K) (hu : X.A.units + 65 < cLine) : OpR X (compareOp .NotIn) (R2of κ (o2S .notin)) := by
  intro pins s σ H x y v u Q I rx ry q
  obtain ⟨ι, h, a, b, R, ra, rb, P⟩ := q
  unfold o2S at P
  dsimp only at P
  cases e : inS a b h with
  | none => rw [e] at P; exact P.elim
  | some k =>
    rw [e] at P
    have fin : Q (.bl (!k)) H := P.same R rfl
    rcases in_data R ra rb e with ⟨p, r, rfl, g, rfl⟩ | ⟨d, ds, h1, h2, h3, h4, rfl⟩
    · obtain rfl : u = Value.ref p := ry
      exact L2.d_notIn (by omega) I g rx fun s' J => ⟨.bl (!r.isSome), H, J, rfl, fin⟩
    · exact op_notInD hu pins s σ H x y v u Q I rx ry ⟨d, ds, hK ▸ h1, hK ▸ h2, h3, h4, fin⟩
theorem cutA_rel {H : Hp} {ι : Io} {n : Nat} {xs : List AV} {vs : List V} {lo hi : Option Int} (r : RVs κ H ι n xs vs) : RVs κ H ι n (cutA xs lo hi) (L2.cutV vs lo hi) := by
  unfold cutA L2.cutV
  rw [r.length]
  exact (r.drop _).take _
def RSof (κ : Ks) : V → Option Int → Option Int → Hp → VK → Prop := fun x lo hi H Q => ∃ ι h a, Rep κ ι h H ∧ RV κ H ι h.n a x ∧ PostO κ ι h H (slS a lo hi h) Q
theorem ok_sl (hK : X.K = κ.K) : SlR X (RSof κ) := by
  intro pins s σ H x v vl vu lo hi sl Q I rx hs pl pu q
  obtain ⟨ι, h, a, R, ra, P⟩ := q
  cases a with
  | ref a =>
    unfold slS at P
    dsimp only at P
    cases e : rdL h (.ref a) with
    | none => rw [e] at P; exact P.elim
    | some xs =>
      rw [e] at P
      obtain ⟨p, ys, rfl, hq, r⟩ := R.rdL ra e
      exact sl_list pins s σ H _ v vl vu lo hi sl Q I rx hs pl pu ⟨p, ys, rfl, hK ▸ hq, fun l hl => P.newL R (cutA_rel r) hl⟩
  | _ => exact P.elim
/-- truth -/
def RTru (κ : Ks) : V → Hp → (Bool → Hp → Prop) → Prop := fun x H Q => ∃ ι h a, Rep κ ι h H ∧ RV κ H ι h.n a x ∧ ∃ b, truth a h = some b ∧ Q b H
theorem truth_ok {ι : Io} {h : AH} {H : Hp} {a : AV} {x : V} {b : Bool} (R : Rep κ ι h H) (ra : RV κ H ι h.n a x) (e : truth a h = some b) : TruV κ.K x H b := by
  cases a with
  | non => obtain rfl : x = .non := ra; exact (Option.some.inj e).symm
  | bl c => obtain rfl : x = .bl c := ra; exact (Option.some.inj e).symm
  | int i => obtain rfl : x = .int i := ra; exact (Option.some.inj e).symm
  | str z =>
    obtain rfl : x = .str z := ra
    unfold truth at e
    dsimp only at e
    split at e
    · rename_i hl
      refine ⟨hl, ?_⟩
      have e' := Option.some.inj e
      rw [← e']
      by_cases q : z.length = 0
      · rw [q]; rfl
      · have q2 : ((z.length : Int)) ≠ 0 := by omega
        have z1 : (z.length != 0) = true := bne_iff_ne.mpr q
        have z2 : ((z.length : Int) != 0) = true := bne_iff_ne.mpr q2
        rw [z1, z2]
    · cases e
  | tup xs =>
    obtain ⟨p, ys, rfl, hq, r⟩ := Rep.tup ra
    refine .inr (.inl ⟨ys, hq, ?_⟩)
    rw [← Option.some.inj e]
    cases xs with
    | nil => rw [show ys = [] from r]; rfl
    | cons z zs => obtain ⟨v, ws, rfl, _⟩ := r; rfl
  | frl ns =>
    obtain ⟨p, ys, rfl, hq, r⟩ := R.rdL ra rfl
    refine .inl ⟨ys, hq, ?_⟩
    rw [← Option.some.inj e]
    cases ns with
    | nil => rw [show ys = [] from r]; rfl
    | cons z zs => obtain ⟨v, ws, rfl, _⟩ := r; rfl
  | xcp c ks xs => cases e
  | ref p =>
    obtain ⟨_, rfl⟩ := id ra
    unfold truth at e
    dsimp only at e
    split at e
    · rename_i xs q
      obtain ⟨_, ys, q1, r⟩ := R.lst q
      refine .inl ⟨ys, SqL.of q1, ?_⟩
      rw [← Option.some.inj e]
      cases xs with
      | nil => rw [show ys = [] from r]; rfl
      | cons z zs => obtain ⟨v, ws, rfl, _⟩ := r; rfl
    · rename_i kvs q
      obtain ⟨_, ys, q1, r⟩ := R.dK q
      refine .inr (.inr ⟨ys, q1, ?_⟩)
      rw [← Option.some.inj e]
      cases kvs with
      | nil => rw [show ys = [] from r]; rfl
      | cons z zs => obtain ⟨k, y⟩ := z; obtain ⟨v, ws, rfl, _⟩ := r; rfl
    · cases e
theorem ok_tru (hK : X.K = κ.K) : TruR X (RTru κ) := by
  intro pins s σ H x v Q I rx q
  obtain ⟨ι, h, a, R, ra, b, e, q⟩ := q
  exact tru_ok pins s σ H x v Q I rx ⟨b, hK ▸ truth_ok R ra e, q⟩
end

/-! ### built-ins by values -/
section
variable {κ : Ks} {X : Cx} {G : PG}
def C1of (κ : Ks) (f : AV → AH → Option (AV × AH)) : List V → Hp → VK → Prop := fun xs H Q => ∃ x, xs = [x] ∧ R1of κ f x H Q
def C2of (κ : Ks) (f : AV → AV → AH → Option (AV × AH)) : List V → Hp → VK → Prop := fun xs H Q => ∃ x y, xs = [x, y] ∧ R2of κ f x y H Q
theorem ok_len (hK : X.K = κ.K) : CallR X (.builtin "len") (C1of κ (o1S G .len)) := by
  intro pins s σ H xs us Q I r q
  obtain ⟨x, rfl, ι, h, a, R, ra, P⟩ := q
  unfold o1S at P
  dsimp only at P
  cases e : lenS h a with
  | none => rw [e] at P; exact P.elim
  | some n =>
    rw [e] at P
    have fin : Q (.int n) H := P.same R rfl
    cases a with
    | str z =>
      obtain rfl : x = .str z := ra
      unfold lenS at e
      dsimp only at e
      split at e
      · rename_i hl
        cases e
        exact call_len pins s σ H _ us Q I r ⟨_, z.length, rfl, ⟨hl, rfl⟩, fin⟩
      · cases e
    | tup zs =>
      obtain ⟨p, ys, rfl, hq, rr⟩ := Rep.tup ra
      cases e
      exact call_len pins s σ H _ us Q I r ⟨_, zs.length, rfl, .inr ⟨ys, hK ▸ hq, rr.length⟩, fin⟩
    | frl ns =>
      obtain ⟨p, ys, rfl, hq, rr⟩ := R.rdL ra rfl
      cases e
      exact call_len pins s σ H _ us Q I r ⟨_, ns.length, rfl, .inl ⟨ys, hK ▸ hq, by rw [← rr.length, List.length_map]⟩, fin⟩
    | ref p =>
      obtain ⟨_, rfl⟩ := id ra
      unfold lenS at e
      dsimp only at e
      split at e
      · rename_i zs q
        cases e
        obtain ⟨_, ys, q1, rr⟩ := R.lst q
        exact call_len pins s σ H _ us Q I r ⟨_, zs.length, rfl, .inl ⟨ys, SqL.of q1, rr.length⟩, fin⟩
      · rename_i kvs q
        cases e
        obtain ⟨_, ys, q1, rr⟩ := R.dK q
        obtain ⟨u, rfl, ru⟩ := vals1 r
        obtain rfl : u = Value.ref (ι p) := ru
        refine L2.d_len I (.inl q1) fun t s' J => ⟨.int kvs.length, H, J, ⟨t, by rw [rr.length]⟩, fin⟩
      · cases e
    | _ => cases e
theorem rv_key {H : Hp} {ι : Io} {n : Nat} (k : L2.Key) : RV κ H ι n (keyAV k) (L2.kV k) := by cases k <;> rfl
theorem rvs_keys {H : Hp} {ι : Io} {n : Nat} : ∀ ks : List L2.Key, RVs κ H ι n (ks.map keyAV) (ks.map L2.kV)
  | [] => rfl
  | k :: ks => ⟨_, _, rfl, rv_key k, rvs_keys ks⟩
theorem rvs_dk {H : Hp} {ι : Io} {n : Nat} : ∀ {kvs : List (L2.Key × AV)} {ys : List (L2.Key × V)}, RKs κ H ι n kvs ys → RVs κ H ι n (kvs.map fun kv => keyAV kv.1) (ys.map fun kv => L2.kV kv.1)
  | [], ys, r => by rw [show ys = [] from r]; rfl
  | (k, x) :: kvs, ys, r => by
    obtain ⟨v, ws, rfl, _, r⟩ := r
    exact ⟨_, _, rfl, rv_key k, rvs_dk r⟩
theorem rvs_dt {H : Hp} {ι : Io} {n : Nat} : ∀ {kvs : List (List L2.Key × AV)} {ys : List (List L2.Key × V)} {bs : List Addr}, RKs κ H ι n kvs ys → L2.IsKeys H ys bs → RVs κ H ι n (kvs.map fun kv => .tup (kv.1.map keyAV)) (bs.map V.ref)
  | [], ys, bs, r, b => by
    rw [show ys = [] from r] at b
    cases b
    rfl
  | (k, x) :: kvs, ys, bs, r, b => by
    obtain ⟨v, ws, rfl, _, r⟩ := r
    cases b with
    | cons b1 b2 => exact ⟨_, _, rfl, ⟨_, _, rfl, rvs_keys k, .inl b1⟩, rvs_dt r b2⟩
theorem ok_list (hK : X.K = κ.K) (hc : X.calm = true) : CallR X (.type "list") (C1of κ (o1S G .list)) := by
  intro pins s σ H xs us Q I r q
  obtain ⟨x, rfl, ι, h, a, R, ra, P⟩ := q
  unfold o1S at P
  dsimp only at P
  cases e : lsS h a with
  | none => rw [e] at P; exact P.elim
  | some zs =>
    rw [e] at P
    cases a with
    | ref a =>
      unfold lsS at e
      dsimp only at e
      obtain ⟨_, rfl⟩ := id ra
      split at e
      · rename_i kvs q
        cases e
        obtain ⟨_, ys, q1, rr⟩ := R.dK q
        exact L2.call_list_dK hc pins s σ H _ us Q I r ⟨_, ys, rfl, q1, fun l hl => P.newL R (rvs_dk rr) hl⟩
      · rename_i kvs q
        cases e
        obtain ⟨_, ys, q1, rr⟩ := R.dT q
        exact L2.call_list_dT hc pins s σ H _ us Q I r ⟨_, ys, rfl, .inl q1, fun l bs hl hb => P.newL R (rvs_dt rr hb) hl⟩
      · rename_i ws q
        cases e
        obtain ⟨_, ys, q1, rr⟩ := R.lst q
        exact call_list_of pins s σ H _ us Q I r ⟨_, ys, rfl, .inl (SqL.of q1), fun l hl => P.newL R rr hl⟩
      · cases e
    | _ =>
      obtain ⟨p, ys, rfl, hq, rr⟩ := R.rdS ra (by exact e)
      exact call_list_of pins s σ H _ us Q I r ⟨p, ys, rfl, hK ▸ hq, fun l hl => P.newL R rr hl⟩
theorem ok_tuple (hK : X.K = κ.K) : CallR X (.type "tuple") (C1of κ (o1S G .tuple)) := by
  intro pins s σ H xs us Q I r q
  obtain ⟨x, rfl, ι, h, a, R, ra, P⟩ := q
  unfold o1S at P
  dsimp only at P
  cases e : rdS h a with
  | none => rw [e] at P; exact P.elim
  | some zs =>
    rw [e] at P
    cases a with
    | tup ws =>
      have e' : ws = zs := by simpa [rdS] using e
      subst e'
      obtain ⟨p, ys, rfl, hq, rr⟩ := Rep.tup ra
      exact call_tuple_of pins s σ H _ us Q I r ⟨p, ys, rfl, .inr ⟨hK ▸ hq, P.same R ra⟩⟩
    | _ =>
      obtain ⟨p, ys, rfl, hq, rr⟩ := R.rdL ra (by exact e)
      exact call_tuple_of pins s σ H _ us Q I r ⟨p, ys, rfl, .inl ⟨hK ▸ hq, fun l hl => P.newT R rr hl⟩⟩
theorem ok_int : CallR X (.type "int") (C1of κ (o1S G .int)) := by
  intro pins s σ H xs us Q I r q
  obtain ⟨x, rfl, ι, h, a, R, ra, P⟩ := q
  cases a with
  | int i =>
    obtain rfl : x = .int i := ra
    exact call_int1 pins s σ H _ us Q I r (.inl ⟨i, rfl, P.same R rfl⟩)
  | bl b =>
    obtain rfl : x = .bl b := ra
    exact call_int1 pins s σ H _ us Q I r (.inr ⟨b, rfl, P.same R rfl⟩)
  | _ => exact P.elim
theorem ok_abs : CallR X (.builtin "abs") (C1of κ (o1S G .abs)) := by
  intro pins s σ H xs us Q I r q
  obtain ⟨x, rfl, ι, h, a, R, ra, P⟩ := q
  cases a with
  | int i =>
    obtain rfl : x = .int i := ra
    exact call_abs pins s σ H _ us Q I r ⟨i, rfl, P.same R rfl⟩
  | _ => exact P.elim
theorem ok_max (hc : X.calm = true) : CallR X (.builtin "max") (C2of κ (o2S .max)) := by
  intro pins s σ H xs us Q I r q
  obtain ⟨x, y, rfl, ι, h, a, b, R, ra, rb, P⟩ := q
  cases a with
  | int i =>
    cases b with
    | int j =>
      obtain rfl : x = .int i := ra
      obtain rfl : y = .int j := rb
      exact call_max2 hc pins s σ H _ us Q I r ⟨i, j, rfl, P.same R rfl⟩
    | _ => exact P.elim
  | _ => exact P.elim
theorem ok_min (hc : X.calm = true) : CallR X (.builtin "min") (C2of κ (o2S .min)) := by
  intro pins s σ H xs us Q I r q
  obtain ⟨x, y, rfl, ι, h, a, b, R, ra, rb, P⟩ := q
  cases a with
  | int i =>
    cases b with
    | int j =>
      obtain rfl : x = .int i := ra
      obtain rfl : y = .int j := rb
      exact call_min2 hc pins s σ H _ us Q I r ⟨i, j, rfl, P.same R rfl⟩
    | _ => exact P.elim
  | _ => exact P.elim
theorem ok_all (hK : X.K = κ.K) (hc : X.calm = true) : CallR X (.builtin "all") (C1of κ (o1S G .all)) := by
  intro pins s σ H xs us Q I r q
  obtain ⟨x, rfl, ι, h, a, R, ra, P⟩ := q
  unfold o1S at P
  dsimp only at P
  cases e : rdL h a with
  | none => rw [e] at P; exact P.elim
  | some zs =>
    cases e2 : asBls zs with
    | none => rw [e, Option.bind_some, e2] at P; exact P.elim
    | some bs =>
      rw [e, Option.bind_some, e2] at P
      obtain ⟨p, ys, rfl, hq, rr⟩ := R.rdL ra e
      rw [rr.bls_inv e2] at hq
      exact cr_all hc pins s σ H _ us Q I r ⟨p, bs, rfl, hK ▸ hq, P.same R rfl⟩
theorem ok_any (hK : X.K = κ.K) (hc : X.calm = true) : CallR X (.builtin "any") (C1of κ (o1S G .any)) := by
  intro pins s σ H xs us Q I r q
  obtain ⟨x, rfl, ι, h, a, R, ra, P⟩ := q
  unfold o1S at P
  dsimp only at P
  cases e : rdL h a with
  | none => rw [e] at P; exact P.elim
  | some zs =>
    cases e2 : asBls zs with
    | none => rw [e, Option.bind_some, e2] at P; exact P.elim
    | some bs =>
      rw [e, Option.bind_some, e2] at P
      obtain ⟨p, ys, rfl, hq, rr⟩ := R.rdL ra e
      rw [rr.bls_inv e2] at hq
      exact cr_any hc pins s σ H _ us Q I r ⟨p, bs, rfl, hK ▸ hq, P.same R rfl⟩
theorem ok_sum (hK : X.K = κ.K) (hc : X.calm = true) : CallR X (.builtin "sum") (C1of κ (o1S G .sum)) := by
  intro pins s σ H xs us Q I r q
  obtain ⟨x, rfl, ι, h, a, R, ra, P⟩ := q
  unfold o1S at P
  dsimp only at P
  cases e : rdL h a with
  | none => rw [e] at P; exact P.elim
  | some zs =>
    cases e2 : asInts zs with
    | none => rw [e, Option.bind_some, e2] at P; exact P.elim
    | some bs =>
      rw [e, Option.bind_some, e2] at P
      obtain ⟨p, ys, rfl, hq, rr⟩ := R.rdL ra e
      rw [rr.ints_inv e2] at hq
      exact cr_sum hc pins s σ H _ us Q I r ⟨p, bs, rfl, hK ▸ hq, P.same R rfl⟩
/-- repr of a list or a tuple, where no repr is under way -/
theorem ok_repr (hK : X.K = κ.K) (hg : X.A.guards = some []) (hu : X.A.units + 100 < cLine) : CallR X (.builtin "repr") (C1of κ (o1S G .repr)) := by
  intro pins s σ H xs us Q I r q
  obtain ⟨x, rfl, ι, h, a, R, ra, P⟩ := q
  have key : ∀ p, x = .ref p → PostO κ ι h H (((dat h 60 a).bind fun d => @ite _ (Grd (rpOk d)) (Classical.propDecidable _) (some (AV.str d.shown, h)) none)) Q → wpAny (model X.prog X.w) X.A (call (.builtin "repr") us) (EP X pins σ Q) X.xe s := by
    rintro p rfl P
    cases e : dat h 60 a with
    | none => rw [e] at P; exact P.elim
    | some d =>
      rw [e, Option.bind_some] at P
      by_cases ok : Grd (rpOk d)
      · rw [if_pos ok] at P
        have ok : d.showable = true ∧ d.shown.length ≤ sizeLine := ok
        have o := dat_ok R 60 a _ d ra e
        cases r with
        | cons ru rr =>
          cases rr
          rename_i u
          obtain rfl : u = Value.ref p := ru
          obtain ⟨as, rd⟩ := Dp.reads I d _ _ (hK ▸ o.dp) (show RelV (V.ref p) (Value.ref p) from rfl)
          have dep := o.dep
          exact repr_of_reads' rd ok.1 (PyData.noDict_hsm (PyData.hasDict_of_canLay d o.lay)) hg (by omega) (fun _ _ z => z) (fun h' u tk hk => ⟨.str d.shown, H, I.kept (t' := tk) hk, ⟨u, rfl⟩, P.same R rfl⟩) ok.2
      · rw [if_neg ok] at P
        exact P.elim
  unfold o1S at P
  cases a with
  | ref b =>
    obtain ⟨_, rfl⟩ := id ra
    exact key _ rfl P
  | tup zs =>
    obtain ⟨p, ys, rfl, _⟩ := Rep.tup (h := h) ra
    exact key _ rfl P
  | _ => exact P.elim
theorem ok_neg : UnR X (unaryOp .USub) (R1of κ (o1S G .neg)) := by
  intro pins s σ H x v Q I rx q
  obtain ⟨ι, h, a, R, ra, P⟩ := q
  cases a with
  | int i =>
    obtain rfl : x = .int i := ra
    exact un_neg pins s σ H _ v Q I rx ⟨i, rfl, P.same R rfl⟩
  | _ => exact P.elim
end

/-! ### lists by their methods, stores, fields -/
section
variable {κ : Ks} {X : Cx}
theorem PostO.putL {ι : Io} {h : AH} {H : Hp} {Q : VK} {a : Nat} {xs zs : List AV} {ys : List V} {v : AV} {w : V} (R : Rep κ ι h H) (e : h.get a = some (.lst zs)) (r : RVs κ H ι h.n xs ys) (rv : RV κ H ι h.n v w)
    (p : PostO κ ι h H (some (v, h.put a (.lst xs))) Q) : Q w (upd H (ι a) (.lst ys)) := by
  have l := AH.get_lt e
  have S := R.put (o := .lst ys) (ao := .lst xs) l ⟨ys, upd_same, RVs.mono (R.kept_put l) (fun _ _ => rfl) (Nat.le_refl _) _ _ r⟩
  exact p _ _ _ S (S.val R rv)
def MRof (κ : Ks) (m : BM) : V → List V → Hp → VK → Prop := fun x vs H Q => ∃ ι h a as, Rep κ ι h H ∧ RV κ H ι h.n a x ∧ RVs κ H ι h.n as vs ∧ PostO κ ι h H (bmS m a as h) Q
theorem bm_list {m : BM} {ι : Io} {h : AH} {H : Hp} {a : AV} {as : List AV} {Q : VK} (P : PostO κ ι h H (bmS m a as h) Q) : ∃ p xs, a = .ref p ∧ h.get p = some (.lst xs) := by
  cases a with
  | ref p =>
    unfold bmS at P
    dsimp only at P
    split at P
    · rename_i xs e
      exact ⟨p, xs, rfl, e⟩
    · exact P.elim
  | _ => exact P.elim
theorem ok_append : MtR X "list.append" (MRof κ .append) := by
  intro pins s σ H x vs v us Q I rx rs q
  obtain ⟨ι, h, a, as, R, ra, ras, P⟩ := q
  obtain ⟨p, xs, rfl, e⟩ := bm_list P
  obtain ⟨_, rfl⟩ := id ra
  obtain ⟨_, ys, q1, r⟩ := R.lst e
  unfold bmS at P
  simp only [e] at P
  cases as with
  | nil => exact P.elim
  | cons y r2 =>
    cases r2 with
    | cons _ _ => exact P.elim
    | nil =>
      obtain ⟨w, ws, rfl, ry, hw⟩ := ras
      obtain rfl : ws = [] := hw
      dsimp only at P
      split at P
      · rename_i hl
        exact mt_append pins s σ H _ _ v us Q I rx rs ⟨_, ys, w, rfl, rfl, q1, by rw [← r.length]; exact hl, PostO.putL R e (r.append (show RVs κ H ι h.n [y] [w] from ⟨w, [], rfl, ry, rfl⟩)) (show RV κ H ι h.n .non .non from rfl) P⟩
      · exact P.elim
theorem ok_extend : MtR X "list.extend" (MRof κ .extend) := by
  intro pins s σ H x vs v us Q I rx rs q
  obtain ⟨ι, h, a, as, R, ra, ras, P⟩ := q
  obtain ⟨p, xs, rfl, e⟩ := bm_list P
  obtain ⟨_, rfl⟩ := id ra
  obtain ⟨_, ys, q1, r⟩ := R.lst e
  unfold bmS at P
  simp only [e] at P
  cases as with
  | nil => exact P.elim
  | cons y r2 =>
    cases r2 with
    | cons _ _ => cases y <;> exact P.elim
    | nil =>
      obtain ⟨w, ws, rfl, ry, hw⟩ := ras
      obtain rfl : ws = [] := hw
      cases y with
      | ref b =>
        obtain ⟨_, rfl⟩ := id ry
        dsimp only at P
        split at P
        · rename_i zs e2
          obtain ⟨_, ys2, q2, r2⟩ := R.lst e2
          split at P
          · rename_i hl
            exact mt_extend pins s σ H _ _ v us Q I rx rs ⟨_, _, ys, ys2, rfl, rfl, q1, q2, by rw [← r.length, ← r2.length]; exact hl, PostO.putL R e (r.append r2) (show RV κ H ι h.n .non .non from rfl) P⟩
          · exact P.elim
        · exact P.elim
      | _ => exact P.elim
theorem RVs.dropLast {H : Hp} {ι : Io} {n : Nat} {xs : List AV} {vs : List V} (r : RVs κ H ι n xs vs) : RVs κ H ι n xs.dropLast vs.dropLast := by
  rw [List.dropLast_eq_take, List.dropLast_eq_take, r.length]
  exact r.take _
theorem ok_pop : MtR X "list.pop" (MRof κ .pop) := by
  intro pins s σ H x vs v us Q I rx rs q
  obtain ⟨ι, h, a, as, R, ra, ras, P⟩ := q
  obtain ⟨p, xs, rfl, e⟩ := bm_list P
  obtain ⟨_, rfl⟩ := id ra
  obtain ⟨_, ys, q1, r⟩ := R.lst e
  unfold bmS at P
  simp only [e] at P
  cases as with
  | nil =>
    obtain rfl : vs = [] := ras
    dsimp only at P
    cases ex : xs[xs.length - 1]? with
    | none => rw [ex] at P; exact P.elim
    | some y =>
      rw [ex] at P
      obtain ⟨w, hw, ry⟩ := r.get ex
      exact mt_pop pins s σ H _ _ v us Q I rx rs ⟨_, ys, w, rfl, rfl, q1, by rw [← r.length]; exact hw, PostO.putL R e r.dropLast ry P⟩
  | cons y r2 =>
    cases r2 with
    | cons _ _ => cases y <;> exact P.elim
    | nil =>
      obtain ⟨w, ws, rfl, ry, hw⟩ := ras
      obtain rfl : ws = [] := hw
      cases y with
      | int i =>
        obtain rfl : w = .int i := ry
        dsimp only at P
        split at P
        · rename_i hi
          have hi : 0 ≤ i ∧ i < 2 ^ 63 := hi
          cases ex : xs[i.toNat]? with
          | none => rw [ex] at P; exact P.elim
          | some y =>
            rw [ex] at P
            obtain ⟨w, hw, ry⟩ := r.get ex
            have hlt : i.toNat < ys.length := (List.getElem?_eq_some_iff.mp hw).1
            exact mt_popAt pins s σ H _ _ v us Q I rx rs ⟨_, ys, i, i.toNat, w, rfl, rfl, q1, by omega, hi.2, seqIndex_of hi.1 (by omega), hw, PostO.putL R e (r.erase _) ry P⟩
        · exact P.elim
      | _ => exact P.elim
theorem ok_insert : MtR X "list.insert" (MRof κ .insert) := by
  intro pins s σ H x vs v us Q I rx rs q
  obtain ⟨ι, h, a, as, R, ra, ras, P⟩ := q
  obtain ⟨p, xs, rfl, e⟩ := bm_list P
  obtain ⟨_, rfl⟩ := id ra
  obtain ⟨_, ys, q1, r⟩ := R.lst e
  unfold bmS at P
  simp only [e] at P
  match as, ras, P with
  | [], _, P => exact P.elim
  | [.int i], _, P => exact P.elim
  | .int i :: y :: z :: zs, _, P => exact P.elim
  | [.int i, y], ras, P =>
    obtain ⟨w1, ws, rfl, ri, w2, ws2, rfl, ry, hw⟩ := ras
    obtain rfl : ws2 = [] := hw
    obtain rfl : w1 = .int i := ri
    dsimp only at P
    split at P
    · rename_i hi
      have hl : xs.length < sizeLine := hi.1
      have hi : 0 ≤ i ∧ i < 2 ^ 63 := hi.2
      exact mt_insert pins s σ H _ _ v us Q I rx rs ⟨_, ys, i, w2, rfl, rfl, q1, by rw [← r.length]; exact hl, hi.1, hi.2, PostO.putL R e (((r.take _).append (show RVs κ H ι h.n [y] [w2] from ⟨w2, [], rfl, ry, rfl⟩)).append (r.drop _)) (show RV κ H ι h.n .non .non from rfl) P⟩
    · exact P.elim
  | .non :: _, _, P => exact P.elim
  | .bl _ :: _, _, P => exact P.elim
  | .str _ :: _, _, P => exact P.elim
  | .tup _ :: _, _, P => exact P.elim
  | .frl _ :: _, _, P => exact P.elim
  | .xcp _ _ _ :: _, _, P => exact P.elim
  | .ref _ :: _, _, P => exact P.elim
/-- o[i] = v -/
def SRof (κ : Ks) : V → V → V → Hp → (Hp → Prop) → Prop := fun o i v H Q => ∃ ι h a k x, Rep κ ι h H ∧ RV κ H ι h.n a o ∧ RV κ H ι h.n k i ∧ RV κ H ι h.n x v ∧
  ∃ h', setS a k x h = some h' ∧ ∀ H', Stp κ ι h H ι h' H' → Q H'
theorem ok_set (hu : X.A.units + 1 < cLine) : PSet X (SRof κ) := by
  intro pins s σ H o i v ov iv u Q I ro ri rv q
  obtain ⟨ι, h, a, k, x, R, ra, rk, rx, h', e, P⟩ := q
  cases a with
  | ref p =>
    obtain ⟨_, rfl⟩ := id ra
    obtain rfl : ov = Value.ref (ι p) := ro
    unfold setS at e
    dsimp only at e
    split at e
    · rename_i xs e0
      obtain ⟨l, ys, q1, r⟩ := R.lst e0
      cases k with
      | int j =>
        obtain rfl : i = .int j := rk
        dsimp only at e
        cases ej : L2.ixN xs.length j with
        | none => rw [ej] at e; cases e
        | some m =>
          rw [ej] at e
          cases e
          refine set_list pins s σ H (.ref (ι p)) _ v _ iv u Q I rfl ri rv ⟨_, ys, j, m, rfl, rfl, q1, by rw [← r.length]; exact ej, P _ (R.put l ⟨_, upd_same, RVs.mono (R.kept_put l) (fun _ _ => rfl) (Nat.le_refl _) _ _ (r.set rx m)⟩)⟩
      | _ => cases e
    · rename_i kvs e0
      obtain ⟨l, ys, q1, r⟩ := R.dK e0
      cases ek : keyOf k with
      | none => rw [ek] at e; cases e
      | some j =>
        rw [ek, Option.bind_some] at e
        split at e
        · rename_i hl
          cases e
          rw [key_val rk ek] at ri
          exact L2.d_setItem hu I (.inl ⟨ys, j, q1, rfl, by rw [← r.length]; exact hl, rfl⟩) ri rv fun s' J =>
            ⟨_, J, P _ (R.put l ⟨_, upd_same, RKs.mono (R.kept_put l) (fun _ _ => rfl) (Nat.le_refl _) _ _ (r.put rx)⟩)⟩
        · cases e
    · rename_i kvs e0
      obtain ⟨l, ys, q1, r⟩ := R.dT e0
      cases ek : tkeyOf k with
      | none => rw [ek] at e; cases e
      | some j =>
        rw [ek, Option.bind_some] at e
        split at e
        · rename_i hl
          cases e
          obtain ⟨b, rfl, hb⟩ := tkey_val rk ek
          exact L2.d_setItem hu I (.inr ⟨ys, j, b, q1, rfl, hb, by rw [← r.length]; exact hl, rfl⟩) ri rv fun s' J =>
            ⟨_, J, P _ (R.put l ⟨_, upd_same, RKs.mono (R.kept_put l) (fun _ _ => rfl) (Nat.le_refl _) _ _ (r.put rx)⟩)⟩
        · cases e
    · cases e
  | _ => cases e
/-- fields -/
theorem RFs.lookup {H : Hp} {ι : Io} {n : Nat} : ∀ {fs : List (Nat × AV)} {ys : List (Str × V)} {f : Nat} {x : AV}, RFs κ H ι n fs ys → fs.lookup f = some x → ∃ v, ys.lookup (κ.F f) = some v ∧ RV κ H ι n x v
  | [], ys, f, x, r, e => by cases e
  | (g, y) :: fs, ys, f, x, r, e => by
    obtain ⟨v, ws, rfl, r1, r⟩ := r
    by_cases hg : f = g
    · subst hg
      have e' : y = x := by simpa [List.lookup] using e
      subst e'
      exact ⟨v, by simp [List.lookup], r1⟩
    · have e' : fs.lookup f = some x := by
        have : (f == g) = false := by simpa using hg
        simpa [List.lookup, this] using e
      obtain ⟨w, q1, q2⟩ := RFs.lookup r e'
      have hn : (κ.F f == κ.F g) = false := by
        have : κ.F f ≠ κ.F g := fun z => hg (κ.inj _ _ z)
        simpa using this
      exact ⟨w, by simp [List.lookup, hn, q1], q2⟩
theorem RFs.none {H : Hp} {ι : Io} {n : Nat} : ∀ {fs : List (Nat × AV)} {ys : List (Str × V)} {f : Nat}, RFs κ H ι n fs ys → fs.lookup f = Option.none → ys.lookup (κ.F f) = Option.none
  | [], ys, f, r, e => by rw [show ys = [] from r]; rfl
  | (g, y) :: fs, ys, f, r, e => by
    obtain ⟨v, ws, rfl, _, r⟩ := r
    by_cases hg : f = g
    · subst hg
      simp [List.lookup] at e
    · have b : (f == g) = false := by simpa using hg
      have e' : fs.lookup f = Option.none := by simpa [List.lookup, b] using e
      have hn : (κ.F f == κ.F g) = false := by
        have : κ.F f ≠ κ.F g := fun z => hg (κ.inj _ _ z)
        simpa using this
      simp [List.lookup, hn, RFs.none r e']
theorem RFs.put {H : Hp} {ι : Io} {n : Nat} {x : AV} {v : V} (rx : RV κ H ι n x v) : ∀ {fs : List (Nat × AV)} {ys : List (Str × V)} (f : Nat), RFs κ H ι n fs ys → RFs κ H ι n (putN f x fs) (putF (κ.F f) v ys)
  | [], ys, f, r => by
    rw [show ys = [] from r]
    exact ⟨v, [], rfl, rx, rfl⟩
  | (g, y) :: fs, ys, f, r => by
    obtain ⟨u, ws, rfl, r1, r⟩ := r
    unfold putN putF
    by_cases hg : g = f
    · subst hg
      rw [if_pos rfl, if_pos rfl]
      exact ⟨v, ws, rfl, rx, r⟩
    · rw [if_neg hg, if_neg fun z => hg (κ.inj _ _ z)]
      exact ⟨u, _, rfl, r1, RFs.put rx f r⟩
theorem RFs.length {H : Hp} {ι : Io} {n : Nat} : ∀ {fs : List (Nat × AV)} {ys : List (Str × V)}, RFs κ H ι n fs ys → fs.length = ys.length
  | [], ys, r => by rw [show ys = [] from r]; rfl
  | (g, y) :: fs, ys, r => by
    obtain ⟨u, ws, rfl, r1, r⟩ := r
    rw [List.length_cons, List.length_cons, RFs.length r]
theorem clsOf_ok {ι : Io} {h : AH} {H : Hp} {a : AV} {x : V} {c : Nat} {fs : List (Nat × AV)} (R : Rep κ ι h H) (ra : RV κ H ι h.n a x) (e : clsOf h a = some (c, fs)) :
    ∃ p dx ys, a = .ref p ∧ h.get p = some (.ins c fs) ∧ p < h.n ∧ x = .ref (ι p) ∧ H (ι p) = some (.ins (κ.C c) dx ys) ∧ RFs κ H ι h.n fs ys := by
  cases a with
  | ref p =>
    unfold clsOf at e
    dsimp only at e
    split at e
    · rename_i d gs e0
      cases e
      obtain ⟨l, dx, ys, q, r⟩ := R.ins e0
      exact ⟨p, dx, ys, rfl, e0, l, ra.2, q, r⟩
    · cases e
  | _ => cases e
end
end Mi
set_option Elab.async false
set_option maxRecDepth 100000
set_option maxHeartbeats 4000000
/-! MiSort: sorted(..) of ints, of tuples of ints and None. -/
namespace Mi
open PySem L2 PySem.Spec PyProof.Rows
/-! ### the order -/
theorem ltK_irr : ∀ a : SK, ltK a a = false
  | [] => rfl
  | a :: r => by unfold ltK; rw [if_pos rfl]; exact ltK_irr r
theorem ltK_asym : ∀ a b : SK, ltK a b = true → ltK b a = false
  | [], [], _ => rfl
  | a :: r, [], h => by cases h
  | [], b :: q, _ => rfl
  | a :: r, b :: q, h => by
    unfold ltK at h ⊢
    by_cases e : a = b
    · rw [if_pos e] at h
      rw [if_pos e.symm]
      exact ltK_asym r q h
    · rw [if_neg e] at h
      rw [if_neg (Ne.symm e)]
      simp only [decide_eq_true_eq] at h
      simp only [decide_eq_false_iff_not]
      omega
/-- what is not less either way is the same -/
theorem ltK_eq : ∀ a b : SK, ltK a b = false → ltK b a = false → a = b
  | [], [], _, _ => rfl
  | a :: r, [], _, h => by cases h
  | [], b :: q, h, _ => by cases h
  | a :: r, b :: q, h1, h2 => by
    unfold ltK at h1 h2
    by_cases e : a = b
    · rw [if_pos e] at h1
      rw [if_pos e.symm] at h2
      rw [e, ltK_eq r q h1 h2]
    · rw [if_neg e] at h1
      rw [if_neg (Ne.symm e)] at h2
      simp only [decide_eq_false_iff_not] at h1 h2
      exact absurd (Prod.ext (by omega) (by omega)) e
theorem ltK_tr : ∀ a b c : SK, ltK b a = false → ltK c b = false → ltK c a = false
  | a, b, [], h1, h2 => by
    cases b with
    | nil => exact h1
    | cons b q => cases h2
  | [], b, c :: p, _, _ => rfl
  | a :: r, [], c :: p, h1, h2 => by cases h1
  | a :: r, b :: q, c :: p, h1, h2 => by
    unfold ltK at h1 h2 ⊢
    by_cases e1 : b = a
    · rw [if_pos e1] at h1
      subst e1
      by_cases e2 : c = b
      · rw [if_pos e2] at h2
        rw [if_pos e2]
        exact ltK_tr r q p h1 h2
      · rw [if_neg e2] at h2
        rw [if_neg e2]
        exact h2
    · rw [if_neg e1] at h1
      simp only [decide_eq_false_iff_not] at h1
      by_cases e2 : c = b
      · subst e2
        rw [if_neg e1]
        simpa using h1
      · rw [if_neg e2] at h2
        simp only [decide_eq_false_iff_not] at h2
        have ne : c ≠ a := fun z => by
          subst z
          exact e1 (Prod.ext (by omega) (by omega))
        rw [if_neg ne]
        simp only [decide_eq_false_iff_not]
        omega
theorem insK_perm (x : SK × AV) : ∀ l, (insK x l).Perm (x :: l)
  | [] => List.Perm.refl _
  | y :: r => by
    unfold insK
    split
    · exact ((insK_perm x r).cons y).trans (List.Perm.swap x y r)
    · exact List.Perm.refl _
theorem srtK_perm : ∀ l, (srtK l).Perm l
  | [] => List.Perm.refl _
  | x :: r => (insK_perm x (srtK r)).trans ((srtK_perm r).cons x)
def LeK (a b : SK × AV) : Prop := ltK b.1 a.1 = false
theorem insK_sorted (x : SK × AV) : ∀ l : List (SK × AV), l.Pairwise LeK → (insK x l).Pairwise LeK
  | [], _ => List.pairwise_singleton _ _
  | y :: r, h => by
    obtain ⟨h1, h2⟩ := List.pairwise_cons.mp h
    unfold insK
    split
    · rename_i hl
      refine List.pairwise_cons.mpr ⟨fun z hz => ?_, insK_sorted x r h2⟩
      rcases List.mem_cons.mp ((insK_perm x r).mem_iff.mp hz) with rfl | hz
      · exact ltK_asym _ _ hl
      · exact h1 z hz
    · rename_i hl
      have hl : ltK y.1 x.1 = false := by simpa using hl
      refine List.pairwise_cons.mpr ⟨fun z hz => ?_, h⟩
      rcases List.mem_cons.mp hz with rfl | hz
      · exact hl
      · exact ltK_tr _ _ _ hl (h1 z hz)
theorem srtK_sorted : ∀ l : List (SK × AV), (srtK l).Pairwise LeK
  | [] => List.Pairwise.nil
  | x :: r => insK_sorted x _ (srtK_sorted r)
/-! ### keys of values as they lie -/
def vE : Value → Int × Int
  | .int i _ => (0, i)
  | .none => (1, 0)
  | _ => (2, 0)
def vK (h : Heap) : Value → SK
  | .int i _ => [(0, i)]
  | .ref a => match h.get? a with
    | some ⟨_, _, .seq its _, _⟩ => its.toList.map vE
    | _ => []
  | _ => []
def bk : Value → V
  | .int i _ => .int i
  | .ref a => .ref a
  | _ => .non
section
variable {κ : Ks} {X : Cx} {pins : List (Addr × Obj)} {σ : L2.St} {H : Hp} {s : Shared} {ι : Io} {n : Nat}
theorem elts_vE : ∀ {r : List AV} {vs : List V} {us : List Value} {l : List (Int × Int)}, mapO eltK r = some l → RVs κ H ι n r vs → Vals vs us → us.map vE = l ∧ ∀ u ∈ us, (∃ i t, u = .int i t) ∨ u = .none
  | [], vs, us, l, e, rv, r => by
    cases e
    rw [show vs = [] from rv] at r
    cases r
    exact ⟨rfl, fun _ z => (nomatch z)⟩
  | x :: xs, vs, us, l, e, rv, r => by
    obtain ⟨v, ws, rfl, r1, r2⟩ := rv
    cases r with
    | @cons _ u _ us' q1 q2 =>
      have e : (eltK x).bind (fun d => (mapO eltK xs).map fun ds => d :: ds) = some l := e
      cases e1 : eltK x with
      | none => rw [e1] at e; cases e
      | some k =>
        rw [e1] at e
        cases e2 : mapO eltK xs with
        | none => rw [e2] at e; cases e
        | some ks =>
          rw [e2] at e
          cases e
          obtain ⟨h1, h2⟩ := elts_vE e2 r2 q2
          cases x with
          | int i =>
            cases e1
            obtain rfl : v = .int i := r1
            obtain ⟨t, rfl⟩ := q1
            exact ⟨by rw [List.map_cons, h1]; rfl, fun w hw => by
              rcases List.mem_cons.mp hw with rfl | hw
              · exact .inl ⟨i, t, rfl⟩
              · exact h2 w hw⟩
          | non =>
            cases e1
            obtain rfl : v = .non := r1
            obtain rfl : u = .none := q1
            exact ⟨by rw [List.map_cons, h1]; rfl, fun w hw => by
              rcases List.mem_cons.mp hw with rfl | hw
              · exact .inr rfl
              · exact h2 w hw⟩
          | _ => cases e1
/-- a value that may be sorted, as it lies -/
theorem skey_val {x : AV} {v : V} {u : Value} {k : SK} (hK : X.K = κ.K) (I : L2.Inv X pins σ H s) (e : keyK x = some k) (rv : RV κ H ι n x v) (r : RelV v u) : vK s.heap u = k ∧ bk u = v ∧
    ((isIntA x = true ∧ ∃ i t, u = .int i t) ∨ (isTupA x = true ∧ ∃ (a : Addr) (o : Obj) (its : Array Value) (m : Nat) (i : Int) (t : Tok) (rest : List Value), u = .ref a ∧ s.heap.get? a = some o ∧ o.cls = .type "tuple" ∧ o.data = .seq its m ∧ its.toList = .int i t :: rest ∧ ∀ w ∈ rest, (∃ i t, w = .int i t) ∨ w = .none)) := by
  cases x with
  | int i =>
    cases e
    obtain rfl : v = .int i := rv
    obtain ⟨t, rfl⟩ := r
    exact ⟨rfl, rfl, .inl ⟨rfl, i, t, rfl⟩⟩
  | tup xs =>
    unfold keyK at e
    split at e
    · rename_i z; cases z
    · rename_i i l z
      cases z
      cases em : mapO eltK l with
      | none => rw [em] at e; cases e
      | some ks =>
        rw [em] at e
        cases e
        obtain ⟨p, ys, rfl, hq, rr⟩ := Rep.tup (h := ⟨n, fun _ => .lst []⟩) rv
        obtain rfl : u = Value.ref p := r
        obtain ⟨its, rv2, ⟨o, h1, h2, m, h3⟩, _⟩ := I.tuple (hK ▸ hq)
        obtain ⟨w, ws, rfl, q1, q2⟩ := rr
        cases rv2 with
        | @cons _ u0 _ us p1 p2 =>
          obtain rfl : w = .int i := q1
          obtain ⟨t, rfl⟩ := p1
          obtain ⟨g1, g2⟩ := elts_vE em q2 p2
          refine ⟨?_, rfl, .inr ⟨rfl, p, o, _, m, i, t, us, rfl, h1, h2, h3, rfl, g2⟩⟩
          obtain ⟨oc, od, dt, sl⟩ := o
          simp only at h3
          subst h3
          unfold vK
          simp only [h1]
          rw [List.map_cons, g1]
          rfl
    · cases e
  | _ => cases e
theorem keys_vals {xs : List AV} {ys : List V} {us : List Value} {ks : List SK} (hK : X.K = κ.K) (I : L2.Inv X pins σ H s) : mapO keyK xs = some ks → RVs κ H ι n xs ys → Vals ys us → us.map (vK s.heap) = ks ∧ us.map bk = ys ∧ ks.length = xs.length ∧
    (∀ u ∈ us, ∃ x ∈ xs, keyK x = some (vK s.heap u) ∧ RV κ H ι n x (bk u) ∧ RelV (bk u) u) ∧ ∀ p ∈ ks.zip xs, keyK p.2 = some p.1 ∧ p.2 ∈ xs := by
  induction xs generalizing ys us ks with
  | nil =>
    intro e rv r
    cases e
    rw [show ys = [] from rv] at r ⊢
    cases r
    exact ⟨rfl, rfl, rfl, fun _ z => (nomatch z), fun _ z => (nomatch z)⟩
  | cons x xs ih =>
    intro e rv r
    obtain ⟨v, ws, rfl, r1, r2⟩ := rv
    cases r with
    | @cons _ u _ us' q1 q2 =>
      have e : (keyK x).bind (fun d => (mapO keyK xs).map fun ds => d :: ds) = some ks := e
      cases e1 : keyK x with
      | none => rw [e1] at e; cases e
      | some k =>
        rw [e1] at e
        cases e2 : mapO keyK xs with
        | none => rw [e2] at e; cases e
        | some l =>
          rw [e2] at e
          cases e
          obtain ⟨h1, h2, h3, h4, h5⟩ := ih e2 r2 q2
          obtain ⟨g1, g2, _⟩ := skey_val hK I e1 r1 q1
          refine ⟨by rw [List.map_cons, h1, g1], by rw [List.map_cons, h2, g2], by rw [List.length_cons, List.length_cons, h3], fun w hw => ?_, fun p hp => ?_⟩
          · rcases List.mem_cons.mp hw with rfl | hw
            · exact ⟨x, List.mem_cons_self, by rw [g1]; exact e1, by rw [g2]; exact r1, by rw [g2]; exact q1⟩
            · obtain ⟨y, hy, z⟩ := h4 w hw
              exact ⟨y, List.mem_cons_of_mem _ hy, z⟩
          · rcases List.mem_cons.mp hp with rfl | hp
            · exact ⟨e1, List.mem_cons_self⟩
            · obtain ⟨z1, z2⟩ := h5 p hp
              exact ⟨z1, List.mem_cons_of_mem _ z2⟩
/-- among ints, among tuples, the key tells the value -/
theorem elts_inj : ∀ {r q : List AV} {l : List (Int × Int)}, mapO eltK r = some l → mapO eltK q = some l → r = q
  | [], q, l, e1, e2 => by
    cases e1
    cases q with
    | nil => rfl
    | cons y q =>
      have e2 : (eltK y).bind (fun d => (mapO eltK q).map fun ds => d :: ds) = some [] := e2
      cases g : eltK y with
      | none => rw [g] at e2; cases e2
      | some k => rw [g] at e2; cases g2 : mapO eltK q <;> (rw [g2] at e2; cases e2)
  | x :: r, q, l, e1, e2 => by
    have e1 : (eltK x).bind (fun d => (mapO eltK r).map fun ds => d :: ds) = some l := e1
    cases g : eltK x with
    | none => rw [g] at e1; cases e1
    | some k =>
      rw [g] at e1
      cases g2 : mapO eltK r with
      | none => rw [g2] at e1; cases e1
      | some ks =>
        rw [g2] at e1
        cases e1
        cases q with
        | nil => cases e2
        | cons y q =>
          have e2 : (eltK y).bind (fun d => (mapO eltK q).map fun ds => d :: ds) = some (k :: ks) := e2
          cases g3 : eltK y with
          | none => rw [g3] at e2; cases e2
          | some k' =>
            rw [g3] at e2
            cases g4 : mapO eltK q with
            | none => rw [g4] at e2; cases e2
            | some ks' =>
              rw [g4] at e2
              have e3 : k' = k ∧ ks' = ks := by simpa using e2
              obtain ⟨rfl, rfl⟩ := e3
              rw [elts_inj g2 g4]
              have : x = y := by
                cases x <;> cases y <;> first | rfl | (cases g; cases g3; done) | (cases g; done) | (cases g3; done) | (have := g.trans g3.symm; cases this; rfl)
              rw [this]
theorem key_inj {x y : AV} {k : SK} (hk : (isIntA x = true ∧ isIntA y = true) ∨ (isTupA x = true ∧ isTupA y = true)) (e1 : keyK x = some k) (e2 : keyK y = some k) : x = y := by
  rcases hk with ⟨h1, h2⟩ | ⟨h1, h2⟩
  · cases x <;> first | cases h1 | skip
    cases y <;> first | cases h2 | skip
    have z := e1.trans e2.symm
    unfold keyK at z
    simp at z
    rw [z]
  · cases x <;> first | cases h1 | skip
    cases y <;> first | cases h2 | skip
    unfold keyK at e1 e2
    split at e1
    · rename_i z
      cases z
    · rename_i _ i r z
      split at e2
      · rename_i z2
        cases z2
      · rename_i _ j q z2
        cases z
        cases z2
        cases g1 : mapO eltK r with
        | none => rw [g1] at e1; cases e1
        | some l1 =>
          cases g2 : mapO eltK q with
          | none => rw [g2] at e2; cases e2
          | some l2 =>
            rw [g1] at e1
            rw [g2] at e2
            have e3 := e1.trans e2.symm
            simp at e3
            obtain ⟨rfl, rfl⟩ := e3
            rw [elts_inj g1 g2]
      · cases e2
    · cases e1
end
end Mi
set_option Elab.async false
set_option maxRecDepth 100000
set_option maxHeartbeats 4000000
/-! MiSort2: the rule for sorted(..). -/
namespace Mi
open PySem L2 PySem.Spec PyProof.Rows
def ltv (h : Heap) (v u : Value) : Bool := ltK (vK h v) (vK h u)
theorem swo_ltv (h : Heap) : SrtO.Swo (ltv h) := ⟨fun x y => ltK_asym _ _, fun x y z => ltK_tr _ _ _⟩
section
variable {prog : Program} {w : World} {A : Around} {s : Shared}
theorem ltK_nil (a : SK) : ltK a [] = false := by cases a <;> rfl
/-- two rows of ints and None compared -/
theorem lex_codes {b : Bool} {Q : Bool → Shared → Prop} : ∀ (us ws : List Value) (i : Nat), (∀ u ∈ us, (∃ i t, u = .int i t) ∨ u = Value.none) → (∀ u ∈ ws, (∃ i t, u = .int i t) ∨ u = Value.none) → cmpK (us.map vE) (ws.map vE) = true →
    ∀ fin : Bool, ((∃ r, us.map vE ++ r = ws.map vE) ∨ (∃ r, ws.map vE ++ r = us.map vE) → fin = decide (us.length < ws.length)) → Q (ltK (us.map vE) (ws.map vE)) s → PySem.W.KatLex prog w A b fin Q (us.zip ws) i s
  | [], ws, i, _, _, _, fin, hf, q => by
    rw [List.zip_nil_left]
    refine PySem.W.kat_nil ?_
    rw [hf (.inl ⟨ws.map vE, rfl⟩)]
    cases ws with
    | nil => exact q
    | cons v ws => exact q
  | u :: us, [], i, _, _, _, fin, hf, q => by
    rw [List.zip_nil_right]
    refine PySem.W.kat_nil ?_
    rw [hf (.inr ⟨(u :: us).map vE, rfl⟩)]
    exact q
  | u :: us, v :: ws, i, h1, h2, c, fin, hf, q => by
    have c : (if vE u = vE v then cmpK (us.map vE) (ws.map vE) else decide ((vE u).1 = 0 ∧ (vE v).1 = 0)) = true := c
    have q : Q (if vE u = vE v then ltK (us.map vE) (ws.map vE) else decide ((vE u).1 < (vE v).1 ∨ ((vE u).1 = (vE v).1 ∧ (vE u).2 < (vE v).2))) s := q
    have same : vE u = vE v → PySem.W.KatLex prog w A b fin Q (us.zip ws) (i + 1) s := fun e => by
      rw [if_pos e] at c q
      refine lex_codes us ws (i + 1) (fun x hx => h1 x (List.mem_cons_of_mem _ hx)) (fun x hx => h2 x (List.mem_cons_of_mem _ hx)) c fin (fun z => ?_) q
      rw [hf (z.imp (fun ⟨r, z⟩ => ⟨r, by rw [List.map_cons, List.map_cons, e, List.cons_append, z]⟩) fun ⟨r, z⟩ => ⟨r, by rw [List.map_cons, List.map_cons, e, List.cons_append, z]⟩)]
      rw [List.length_cons, List.length_cons]
      simp
    show PySem.W.KatLex prog w A b fin Q ((u, v) :: us.zip ws) i s
    rcases h1 u List.mem_cons_self with ⟨x, t, rfl⟩ | rfl
    · rcases h2 v List.mem_cons_self with ⟨y, t', rfl⟩ | rfl
      · refine PySem.W.kat_cons (SeqAt.EqAt.int_int x t y t' prog w _ _ (PySem.W.kat_go (fun e => ?_) (fun e => ?_)))
        · have e : x = y := by simpa using e
          exact PySem.W.kat_yes (same (by rw [e]; rfl))
        · have e : x ≠ y := by simpa using e
          have ne : vE (.int x t) ≠ vE (.int y t') := fun z => e (by have := congrArg Prod.snd z; exact this)
          rw [if_neg ne] at q
          refine PySem.W.kat_no (TS.oneLt_ints _ ?_)
          have eb : decide ((vE (.int x t)).1 < (vE (.int y t')).1 ∨ ((vE (.int x t)).1 = (vE (.int y t')).1 ∧ (vE (.int x t)).2 < (vE (.int y t')).2)) = decide (x < y) := by
            show decide ((0 : Int) < 0 ∨ ((0 : Int) = 0 ∧ x < y)) = decide (x < y)
            simp
          rw [eb] at q
          exact q
      · have ne : vE (.int x t) ≠ vE Value.none := fun z => by have := congrArg Prod.fst z; cases this
        rw [if_neg ne] at c
        have c : decide ((0 : Int) = 0 ∧ (1 : Int) = 0) = true := c
        simp at c
    · rcases h2 v List.mem_cons_self with ⟨y, t', rfl⟩ | rfl
      · have ne : vE Value.none ≠ vE (.int y t') := fun z => by have := congrArg Prod.fst z; cases this
        rw [if_neg ne] at c
        have c : decide ((1 : Int) = 0 ∧ (0 : Int) = 0) = true := c
        simp at c
      · exact PySem.W.kat_cons (SeqAt.EqAt.same Value.none prog w _ _ (PySem.W.kat_yes (same rfl)))
/-- how a tuple to be sorted lies -/
def TupAt (h : Heap) (v : Value) : Prop := ∃ (a : Addr) (o : Obj) (its : Array Value) (m : Nat) (i : Int) (t : Tok) (rest : List Value), v = .ref a ∧ h.get? a = some o ∧ o.cls = .type "tuple" ∧ o.data = .seq its m ∧ its.toList = .int i t :: rest ∧ ∀ w ∈ rest, (∃ i t, w = .int i t) ∨ w = .none
theorem vK_tup {h : Heap} {a : Addr} {o : Obj} {its : Array Value} {m : Nat} (h1 : h.get? a = some o) (h2 : o.data = .seq its m) : vK h (.ref a) = its.toList.map vE := by
  obtain ⟨oc, od, dt, sl⟩ := o
  simp only at h2
  subst h2
  unfold vK
  simp only [h1]
theorem firsts_tup {h : Heap} : ∀ {vs : List Value}, (∀ v ∈ vs, TupAt h v) → ∃ fs : List Value, PySem.W.KatTups h vs fs ∧ fs.length = vs.length ∧ ∀ f ∈ fs, ∃ x t, f = Value.int x t
  | [], _ => ⟨[], PySem.W.KatTups.nil, rfl, fun _ hm => (nomatch hm)⟩
  | v :: vs, hp => by
    obtain ⟨fs, h1, h2, h3⟩ := firsts_tup (vs := vs) fun v' hm => hp v' (List.mem_cons_of_mem _ hm)
    obtain ⟨a, o, its, m, i, t, rest, rfl, ho, hc, hd, hi, _⟩ := hp v List.mem_cons_self
    have h0 : its[0]? = some (.int i t) := by
      rw [← Array.getElem?_toList, hi]
      rfl
    refine ⟨.int i t :: fs, PySem.W.KatTups.cons ho hc hd h0 h1, by rw [List.length_cons, List.length_cons, h2], fun f hm => ?_⟩
    rcases List.mem_cons.mp hm with rfl | hm
    · exact ⟨i, t, rfl⟩
    · exact h3 f hm
theorem tups_sortable {a : Addr} {vs : List Value} {h0 : Heap} (hne : 0 < vs.length) (hp : ∀ v ∈ vs, TupAt h0 v) (hc : ∀ v ∈ vs, ∀ u ∈ vs, cmpK (vK h0 v) (vK h0 u) = true) (kp : ∀ b o, h0.get? b = some o → b ≠ a ∧ s.heap.get? b = some o) :
    SrtO.SortableO prog w A s a vs (ltv h0) := by
  intro h' keep
  have there : ∀ {b o}, h0.get? b = some o → h'.get? b = some o := fun {b o} e => keep b o (kp b o e).1 (kp b o e).2
  have hp' : ∀ v ∈ vs, TupAt h' v := fun v hm => by
    obtain ⟨a, o, its, m, i, t, rest, h1, h2, h3⟩ := hp v hm
    exact ⟨a, o, its, m, i, t, rest, h1, there h2, h3⟩
  obtain ⟨fs, h1, h2, h3⟩ := firsts_tup hp'
  refine ⟨tuples' true, fun Q E hq => ?_, fun p q hm hm' => ?_⟩
  · refine PySem.W.kat_kind (T := .type "int") h1 (by omega) (fun f hm => ?_) (by rfl) ?_
    · obtain ⟨x, t, rfl⟩ := h3 f hm
      exact PySem.W.Looks.now
    · have e : (Value.type "int" != Value.type "tuple") = true := by first | decide +kernel | rfl | decide
      rw [e]
      exact hq
  · have c := hc _ hm _ hm'
    show wpAny (model prog w) A (keyLt' (tuples' true) p.1 q.1) (fun r s' => s' = { s with heap := h' } ∧ r = ltv h0 p.1 q.1) (fun _ _ => False) { s with heap := h' }
    unfold ltv
    obtain ⟨a1, o1, its1, m1, i1, t1, rest1, e1, g1, k1, d1, l1, r1⟩ := hp _ hm
    obtain ⟨a2, o2, its2, m2, i2, t2, rest2, e2, g2, k2, d2, l2, r2⟩ := hp _ hm'
    rw [e1, e2, vK_tup g1 d1, vK_tup g2 d2] at c
    rw [e1, e2, vK_tup g1 d1, vK_tup g2 d2]
    refine PySem.W.kat_lt (there g1) d1 (there g2) d2 (lex_codes _ _ 0 (fun u hu => ?_) (fun u hu => ?_) c _ (fun _ => by rw [Array.length_toList, Array.length_toList]) ⟨rfl, rfl⟩)
    · rw [l1] at hu
      rcases List.mem_cons.mp hu with rfl | hu
      · exact .inl ⟨i1, t1, rfl⟩
      · exact r1 u hu
    · rw [l2] at hu
      rcases List.mem_cons.mp hu with rfl | hu
      · exact .inl ⟨i2, t2, rfl⟩
      · exact r2 u hu
theorem ints_ltv {h : Heap} {v u : Value} (hv : ∃ i t, v = Value.int i t) (hu : ∃ i t, u = Value.int i t) : ltv h v u = SrtO.ltIv v u := by
  obtain ⟨i, t, rfl⟩ := hv
  obtain ⟨j, t', rfl⟩ := hu
  show (if ((0 : Int), i) = (0, j) then ltK [] [] else decide ((0 : Int) < 0 ∨ ((0 : Int) = 0 ∧ i < j))) = decide (i < j)
  by_cases e : i = j
  · subst e
    rw [if_pos rfl]
    show false = decide (i < i)
    simp
  · rw [if_neg (fun z => e (congrArg Prod.snd z))]
    simp
end
section
variable {κ : Ks} {X : Cx} {G : PG}
theorem rvs_out {ι : Io} {n : Nat} {H : Hp} {xs : List AV} (hom : (∀ x ∈ xs, isIntA x = true) ∨ (∀ x ∈ xs, isTupA x = true)) {h : Heap} : ∀ (l : List (SK × AV)) (m : List Value), l.map (·.1) = m.map (vK h) → (∀ p ∈ l, keyK p.2 = some p.1 ∧ p.2 ∈ xs) →
    (∀ u ∈ m, ∃ x ∈ xs, keyK x = some (vK h u) ∧ RV κ H ι n x (bk u) ∧ RelV (bk u) u) → RVs κ H ι n (l.map (·.2)) (m.map bk) ∧ Vals (m.map bk) m
  | [], [], _, _, _ => ⟨rfl, .nil⟩
  | [], _ :: _, e, _, _ => by cases e
  | _ :: _, [], e, _, _ => by cases e
  | p :: l, u :: m, e, h1, h2 => by
    have e1 : p.1 = vK h u := by have := congrArg List.head? e; simpa using this
    have e2 : l.map (·.1) = m.map (vK h) := by have := congrArg List.tail e; simpa using this
    obtain ⟨q1, q2⟩ := rvs_out hom l m e2 (fun q hq => h1 q (List.mem_cons_of_mem _ hq)) (fun q hq => h2 q (List.mem_cons_of_mem _ hq))
    obtain ⟨k1, m1⟩ := h1 p List.mem_cons_self
    obtain ⟨x, m2, k2, rv, rl⟩ := h2 u List.mem_cons_self
    rw [← e1] at k2
    have ex : p.2 = x := key_inj (hom.imp (fun z => ⟨z _ m1, z _ m2⟩) fun z => ⟨z _ m1, z _ m2⟩) k1 k2
    rw [← ex] at rv
    exact ⟨⟨_, _, rfl, rv, q1⟩, .cons rl q2⟩
theorem ok_sorted (hK : X.K = κ.K) : CallR X (.builtin "sorted") (C1of κ (o1S G .sorted)) := by
  intro pins s σ H vs us Q I r h
  obtain ⟨x, rfl, ι, h0, a, R, ra, P⟩ := h
  unfold o1S at P
  dsimp only at P
  cases e1 : rdL h0 a with
  | none => rw [e1] at P; exact P.elim
  | some xs =>
  rw [e1, Option.bind_some] at P
  cases e2 : sortA xs with
  | none => rw [e2] at P; exact P.elim
  | some zs =>
  rw [e2] at P
  obtain ⟨p, ys, rfl, hs, rs⟩ := R.rdL ra e1
  obtain ⟨its, rv, hl, hz⟩ := I.list (hK ▸ hs)
  rw [Vals.ref1 r]
  unfold sortA at e2
  split at e2
  case isFalse => cases e2
  rename_i hom0
  have hom : (∀ x ∈ xs, isIntA x = true) ∨ (∀ x ∈ xs, isTupA x = true) := by
    rcases Bool.or_eq_true_iff.mp hom0 with z | z
    · exact .inl (List.all_eq_true.mp z)
    · exact .inr (List.all_eq_true.mp z)
  cases e3 : mapO keyK xs with
  | none => rw [e3] at e2; cases e2
  | some ks =>
  rw [e3, Option.bind_some] at e2
  split at e2
  case isFalse => cases e2
  rename_i hcmp
  cases e2
  obtain ⟨k1, k2, k3, k4, k5⟩ := keys_vals hK I e3 rs rv
  have kinds : ∀ u ∈ its, (∃ i t, u = Value.int i t) ∨ TupAt s.heap u := fun u hu => by
    obtain ⟨y, hy, ky, ry, rl⟩ := k4 u hu
    rcases (skey_val hK I ky ry rl).2.2 with ⟨_, z⟩ | ⟨_, z⟩
    · exact .inl z
    · exact .inr z
  have inK : ∀ u ∈ its, vK s.heap u ∈ ks := fun u hu => by
    rw [← k1]
    exact List.mem_map.mpr ⟨u, hu, rfl⟩
  refine SrtO.sorted_ord (swo_ltv s.heap) hl.isList (by rw [← rv.length]; exact hz) (fun h2 h₁ a' ha' kp => ?_) fun out o1 o2 => ?_
  · rcases hom with hom | hom
    · have allI : ∀ u ∈ its, ∃ i t, u = Value.int i t := fun u hu => by
        obtain ⟨y, hy, ky, ry, rl⟩ := k4 u hu
        have ty := hom y hy
        rcases (skey_val hK I ky ry rl).2.2 with ⟨_, z⟩ | ⟨z, _⟩
        · exact z
        · cases y <;> first | (cases ty; done) | (cases z; done)
      have base := SrtO.ints_sortable (prog := X.prog) (w := X.w) (A := X.A.in1.in1) (s := { s with heap := h₁ }) (a := a') (SrtO.ints_iv allI) h2
      intro h' keep
      obtain ⟨kd, b1, b2⟩ := base h' keep
      refine ⟨kd, b1, fun p q hm hm' => ?_⟩
      have z := b2 p q hm hm'
      have e : SrtO.lt2 (ltv s.heap) p q = SrtO.lt2 SrtO.ltIv p q := ints_ltv (allI _ hm) (allI _ hm')
      rw [e]
      exact z
    · have tups : ∀ u ∈ its, TupAt s.heap u := fun u hu => by
        obtain ⟨y, hy, ky, ry, rl⟩ := k4 u hu
        have ty := hom y hy
        rcases (skey_val hK I ky ry rl).2.2 with ⟨z, _⟩ | ⟨_, z⟩
        · cases y <;> first | (cases ty; done) | (cases z; done)
        · exact z
      exact tups_sortable (h0 := s.heap) (by omega) tups (fun v hv u hu => List.all_eq_true.mp (List.all_eq_true.mp hcmp _ (inK v hv)) _ (inK u hu)) kp
  · have perm : out.Perm its := o2.perm
    have lenz : (ks.zip xs).map (·.1) = ks := by
      rw [List.map_fst_zip]
      rw [k3]
      exact Nat.le_refl _
    have keys : (srtK (ks.zip xs)).map (·.1) = out.map (vK s.heap) := by
      refine List.Perm.eq_of_pairwise (le := fun a b => ltK b a = false) (fun a b _ _ h1 h2 => ltK_eq a b h2 h1) ?_ ?_ ?_
      · exact List.pairwise_map.mpr (srtK_sorted _)
      · exact List.pairwise_map.mpr o1
      · have p1 := (srtK_perm (ks.zip xs)).map (·.1)
        rw [lenz] at p1
        have p2 := perm.map (vK s.heap)
        rw [k1] at p2
        exact p1.trans p2.symm
    obtain ⟨q1, q2⟩ := rvs_out hom (srtK (ks.zip xs)) out keys (fun p hp => k5 p ((srtK_perm _).mem_iff.mp hp)) (fun u hu => k4 u (perm.mem_iff.mp hu))
    obtain ⟨ep, he'⟩ := PyProof.Rows.sortedAll_at s.heap its out.toArray
    have hlen : (out.map bk).length ≤ sizeLine := by
      rw [List.length_map, perm.length_eq, ← rv.length]
      exact hz
    exact ⟨.ref _, upd H (s.heap.objs.size + 1) (.lst (out.map bk)), I.laid (t' := s.toks) (fun _ _ => PyProof.Rows.sortedAll_old) (Nat.le_succ _) ⟨hlen, out, ep, q2, he'⟩, rfl, PostO.newL R P q1 (I.hok.fresh (Nat.le_succ _))⟩
end
end Mi
set_option Elab.async false
set_option maxRecDepth 100000
set_option maxHeartbeats 4000000
/-! MiXcp: errors as values: their fields, their class. -/
namespace Mi
open PySem L2 PySem.Spec PySem.Calls PyProof.Rows
/-- x.__class__, x an error with a dict -/
theorem kin_cls {prog : Program} {w : World} {A : Around} {E : Value → Shared → Prop} {s : Shared} {K : PySem.W.Frag} {x D : Addr} {ox : Obj} {od : Option Obj} {Q : Option Value → Shared → Prop} (C : ExcC K D) (kin : K.In s.heap)
    (at_ : PySem.W.InstAt s.heap x ox D od) (fin : Q (some (.ref D)) { s with toks := s.toks + 1 }) : wpAny (model prog w) A (getAttr? (.ref x) "__class__") Q E s := by
  have found : PySem.W.findObj K D od "__class__" = some (.bind (.builtin "getset_descriptor.__get__") (.builtin "object.__class__")) := by
    obtain ⟨cd, hcd, _⟩ := PySem.W.any_some C.hd
    unfold PySem.W.findObj
    rw [hcd, Option.bind_some, C.ha, Option.bind_some]
    simp [C.hn, C.ht]
  obtain ⟨hp, gs, dr, tk, os⟩ := s
  have ty := at_.type (M := model prog w)
  have ga := PySem.W.looks_findIn (M := model prog w) kin C.hg
  have gt := PySem.W.looks_findIn (M := model prog w) kin C.hk
  have fo := PySem.W.looks_find (M := model prog w) kin at_ found
  have isE : PySem.W.Looks (model prog w) hp (isInstance (.ref x) (.type "BaseException")) true := ty.andThen (PySem.W.looks_subIn kin C.hs)
  have n0 : (false && onTheHeap (Value.builtin "BaseException.__getattribute__")) = false := rfl
  have n2 : (Value.builtin "BaseException.__getattribute__" == Value.builtin "object.__getattribute__") = false := by decide +kernel
  have n1 : (onTheHeap (Value.ref D) && Value.builtin "BaseException.__getattribute__" == Value.builtin "object.__getattribute__") = false := by rw [n2]; rfl
  unfold getAttr? getAttrBy? getAttrBy
  refine wpAny_bind (wpAny_mkText (wpAny_bind (wpAny_attempt (wpAny_holding (wpAny_bind (ty.at (wpAny_bind (ga.at ?_))))))))
  show wpAny _ _ (if (onTheHeap (Value.ref D) && Value.builtin "BaseException.__getattribute__" == Value.builtin "object.__getattribute__") = true then _ else _) _ _ _
  rw [n1, if_neg Bool.false_ne_true]
  unfold getAttrByItsOwn hookBefore
  refine wpAny_bind ?_
  rw [if_pos (show onTheHeap (Value.ref D) = true from rfl)]
  refine gt.at (wpAny_bind (wpAny_attempt (wpAny_holding ?_)))
  unfold callGetattribute
  rw [n0, if_neg Bool.false_ne_true]
  unfold boundAndCalled
  rw [PySem.F.excAttr_ValueError.ga.bind (.ref x)]
  refine wpAny_bind (wpAny_pure ?_)
  show wpAny _ _ (call (.builtin "BaseException.__getattribute__") [.ref x, .str "__class__" tk]) _ _ _
  refine wpAny_call (codeAny_call_builtin PySem.F.excAttr_ValueError.ga.plain PySem.F.entry_bexc_ga ?_)
  refine @PySem.W.check_slot (model prog w) _ _ ⟨hp, gs, dr, tk + 1, os⟩ "BaseException.__getattribute__" "BaseException" "__getattribute__" (.ref x) [.str "__class__" tk] [] _ (by decide +kernel) (by decide +kernel) isE (PySem.F.args_bexc_ga (.ref x) (.str "__class__" tk)) ?_
  unfold Builtin.«object.__getattribute__»
  refine wpAny_bind (wpAny_of_eq (a := ((Value.ref x : Value), [Value.str "__class__" tk])) (by first | rfl | (simp only [slotArgs]; rfl)) (wpAny_bind (wpAny_pure (wpAny_bind (ty.at (wpAny_bind (fo.at ?_)))))))
  show wpAny _ _ (holding [Value.builtin "object.__class__"] (call (.builtin "getset_descriptor.__get__") [.builtin "object.__class__", .ref x, .ref D]) >>= ret) _ _ _
  refine wpAny_bind (wpAny_holding (wpAny_call (PySem.W.class_get (s := ⟨hp, gs, dr, tk + 1, os⟩) (ox := ox) (od := od) kin at_ C.hm (wpAny_pure ?_))))
  show wpAny _ _ (handedOut (.ref D)) _ _ _
  rw [PySem.W.handedOut_of (v := .ref D) rfl]
  first
    | exact wpAny_pure (wpAny_pure fin)
    | exact wpAny_pure fin
    | exact wpAny_pure (wpAny_bind (wpAny_pure (wpAny_pure fin)))
theorem kitx_exc {K : PySem.W.Frag} {x D : Addr} {ox : Obj} {od : Option Obj} (C : ExcC K D) : PySem.W.KitX K (.ref x) (.ref D) (fun h => PySem.W.InstAt h x ox D od) where
  ty := fun _ _ _ at_ => at_.type
  it := fun _ _ kin _ => by
    obtain ⟨cd, hcd, _⟩ := PySem.W.any_some C.hd
    unfold PySem.W.clsIn at hcd
    split at hcd
    · rename_i c' d' cd' sl' ho
      intro A' Q' E' s' keep q
      unfold isType loadHead
      exact wpAny_bind (wpAny_loadPart (keep _ _ (kin _ _ ho)) (wpAny_pure q))
    · cases hcd
  ne := fun h tp dd its n sl kin htp => by
    obtain ⟨cd, hcd, _⟩ := PySem.W.any_some C.hd
    apply Bool.eq_false_iff.mpr
    intro q
    have e : D = tp := Value.ref.inj (beq_iff_eq.mp q)
    rw [← e] at htp
    unfold PySem.W.clsIn at hcd
    split at hcd
    · rename_i c' d' cd' sl' ho
      have z := (kin _ _ ho).symm.trans htp
      cases z
    · cases hcd
  ca := fun kin at_ q => kin_cls C kin at_ q
section
variable {κ : Ks} {X : Cx} {pins : List (Addr × Obj)} {σ : L2.St} {H : Hp} {s : Shared}
/-- an error as it lies -/
theorem xcp_at (I : L2.Inv X pins σ H s) {ι : Io} {m c : Nat} {ks : List Nat} {xs : List AV} {v : V} (r : RV κ H ι m (.xcp c ks xs) v) :
    ∃ (a : Addr) (oe od : Obj) (mA : Str → Option Value) (ys : List V), v = .ref a ∧ PySem.W.InstAt s.heap a oe (κ.C c) (some od) ∧ (∀ nm, PySem.W.lookIn nm od = some (mA nm)) ∧ RVs κ H ι m xs ys ∧ (∀ f, RelO (((ks.map κ.F).zip ys).lookup f) (mA f)) := by
  obtain ⟨a, d, ys, φ, rfl, rs, _, q1, q2, q⟩ := r
  have xa : ObjOk X.prog X.w H s.heap a (.ext φ) := I.hok a _ q1
  obtain ⟨oe, vs, ho, hz, hv⟩ := q2 _ xa.1
  have dict : ∃ mA, s.heap.Ns1 d mA ∧ ∀ f, RelO (((ks.map κ.F).zip ys).lookup f) (mA f) := by
    rcases q with q | q
    · exact exd_at I.hok q
    · have x : ObjOk X.prog X.w H s.heap d (.xd ((ks.map κ.F).zip ys)) := I.hok d _ q
      exact x
  obtain ⟨mA, hns, rel⟩ := dict
  obtain ⟨od, hod, hl⟩ := lookIn_ns hns
  exact ⟨a, oe, od, mA, ys, rfl, ⟨ho, hz.1, by unfold PySem.W.notCls; rw [hv] <;> rfl, by rw [hz.2]; exact hod⟩, hl, rs, rel⟩
/-- a field of an error: names and values -/
theorem zip_lookup {ι : Io} {m : Nat} {f : Nat} : ∀ {ks : List Nat} {xs : List AV} {ys : List V} {x : AV}, RVs κ H ι m xs ys → (ks.zip xs).lookup f = some x → ∃ w, ((ks.map κ.F).zip ys).lookup (κ.F f) = some w ∧ RV κ H ι m x w
  | [], _, _, _, _, e => by cases e
  | k :: ks, [], _, _, _, e => by cases e
  | k :: ks, y :: xs, _, x, r, e => by
    obtain ⟨w, ws, rfl, r1, r2⟩ := r
    have e : ((k, y) :: ks.zip xs).lookup f = some x := e
    show ∃ u, ((κ.F k, w) :: (ks.map κ.F).zip ws).lookup (κ.F f) = some u ∧ _
    rw [List.lookup_cons] at e ⊢
    by_cases h : f = k
    · subst h
      rw [show (f == f) = true by simp] at e
      cases e
      rw [show (κ.F f == κ.F f) = true by simp]
      exact ⟨w, rfl, r1⟩
    · rw [show (f == k) = false by simpa using h] at e
      have h2 : κ.F f ≠ κ.F k := fun z => h (κ.inj _ _ z)
      rw [show (κ.F f == κ.F k) = false by simpa using h2]
      exact zip_lookup r2 e
/-- e.f, e an error -/
theorem xcp_get {A : Around} {E : Value → Shared → Prop} {expr : Bool} (I : L2.Inv X pins σ H s) {ι : Io} {m c f : Nat} {ks : List Nat} {xs : List AV} {v : V} {u : Value} {x : AV} {Q : Value → Shared → Prop} (T : XfC X.K (κ.C c)) (no : PySem.W.findIn X.K (.ref (κ.C c)) (κ.F f) = some none)
    (r : RV κ H ι m (.xcp c ks xs) v) (ru : RelV v u) (e : (ks.zip xs).lookup f = some x) (q : ∀ y u', RV κ H ι m x y → RelV y u' → Q u' { s with toks := s.toks + 1 }) : wpAny (model X.prog X.w) A (getAttr u (κ.F f) expr) Q E s := by
  obtain ⟨a, oe, od, mA, ys, rfl, J, hl, rs, rel⟩ := xcp_at I r
  obtain rfl : u = Value.ref a := ru
  obtain ⟨w, e1, rw1⟩ := zip_lookup rs e
  obtain ⟨u', hu, ru'⟩ := RelO.some_of (v := w) (o := mA (κ.F f)) (by rw [← e1]; exact rel (κ.F f))
  exact HandSPX.exc_get I.kIn J T.ga T.gg T.exC (PySem.W.findObj_own T.hdC no rfl (by rw [hl, hu])) (handed_of ru') (q w u' rw1 ru')
end
end Mi
set_option Elab.async false
set_option maxRecDepth 100000
set_option maxHeartbeats 4000000
/-! MiChk: that a code is the code of a text. -/
namespace Mi
open PySem L2
/-- the names of a module: its defs, its classes, names of fields and methods, built-ins that no name of the module hides -/
structure Ct where
  fns : List (Str × Nat)
  cls : List (Str × Nat)
  att : List (Str × Nat)
  blt : List Str
  shp : List (Nat × Nat × List Str)
/-- where a body stands: its slots' names, its scope, whether it is a def's own, whether an error is in hand -/
structure Cc where
  N : List Str
  sc : Scope
  d : Bool
  hot : Bool
def dun (x : Str) : Bool := (x == ("__debug__" : Str)) || (x == ("__classdict__" : Str)) || decide (x = ("__name__" : Str))
def visB (sc : Scope) (x : Str) : Bool := (match sc.names.lookup x with | some .local => true | some .cell => true | some .free => true | _ => false) && !dun x
def glB (sc : Scope) (x : Str) : Bool := (match sc.names.lookup x with | some .globalImplicit => true | _ => false) && !dun x
def binB : Operator → O2 → Bool
  | .Add, .add => true
  | .Sub, .sub => true
  | .Mult, .mul => true
  | .FloorDiv, .fdiv => true
  | .Mod, .mod => true
  | .Pow, .pow => true
  | _, _ => false
def cmpB : CmpOp → O2 → Bool
  | .Eq, .eq => true
  | .NotEq, .ne => true
  | .Lt, .lt => true
  | .LtE, .le => true
  | .Gt, .gt => true
  | .GtE, .ge => true
  | .In, .inn => true
  | .NotIn, .notin => true
  | _, _ => false
def notSl : Expr → Bool
  | .Slice _ _ _ _ => false
  | _ => true
def notCl : Expr → Bool
  | .Call _ _ _ _ => false
  | _ => true
def notStar : Expr → Bool
  | .Starred _ _ => false
  | _ => true
def notLc : Expr → Bool
  | .ListComp _ _ _ _ => false
  | .SetComp _ _ _ _ => false
  | .DictComp _ _ _ _ _ => false
  | _ => true
def notSet : Expr → Bool
  | .Set _ _ _ => false
  | _ => true
def bl1 : O1 → Option Str
  | .len => some "len"
  | .list => some "list"
  | .tuple => some "tuple"
  | .int => some "int"
  | .abs => some "abs"
  | .all => some "all"
  | .any => some "any"
  | .sum => some "sum"
  | .sorted => some "sorted"
  | .repr => some "repr"
  | _ => none
/-- without need of calm -/
def cool : O1 → Bool
  | .list => false
  | .all => false
  | .any => false
  | .sum => false
  | _ => true
def bl2 : O2 → Option Str
  | .max => some "max"
  | .min => some "min"
  | _ => none
def bmN : BM → Str
  | .append => "append"
  | .pop => "pop"
  | .extend => "extend"
  | .insert => "insert"
def kdN (c : Ct) (sc : Scope) : KD → Expr → Bool
  | .kint, .Name x _ => decide (x = ("int" : Str)) && glB sc x && c.blt.contains x
  | .kbool, .Name x _ => decide (x = ("bool" : Str)) && glB sc x && c.blt.contains x
  | .kstr, .Name x _ => decide (x = ("str" : Str)) && glB sc x && c.blt.contains x
  | .klist, .Name x _ => decide (x = ("list" : Str)) && glB sc x && c.blt.contains x
  | .ktup, .Name x _ => decide (x = ("tuple" : Str)) && glB sc x && c.blt.contains x
  | .kval, .Name x _ => decide (x = ("ValueError" : Str)) && glB sc x && c.blt.contains x
  | .kcls i, .Name x _ => decide (c.cls.lookup x = some i) && glB sc x
  | _, _ => false
def kdNs (c : Ct) (sc : Scope) : List KD → List Expr → Bool
  | [], [] => true
  | k :: ks, e :: es => kdN c sc k e && kdNs c sc ks es
  | _, _ => false
mutual
def chkT (k : Cc) : T → Expr → Bool
  | .nm i, .Name x _ => decide (k.N[i]? = some x) && (match k.sc.names.lookup x with | some .local => true | some .cell => k.d | _ => false)
  | .tp ts, .Tuple es _ _ => chkTs k ts es && !k.hot
  | _, _ => false
def chkTs (k : Cc) : Ts → List Expr → Bool
  | .nil, [] => true
  | .cons t r, e :: es => chkT k t e && notStar e && chkTs k r es
  | _, _ => false
end
mutual
def ownT (N : List Str) : T → List (Str × Nat)
  | .nm i => [((N[i]?).getD "", i)]
  | .tp ts => ownTs N ts
def ownTs (N : List Str) : Ts → List (Str × Nat)
  | .nil => []
  | .cons t r => ownT N t ++ ownTs N r
end
def testable : Expr → Bool
  | .IfExp _ _ _ _ => false
  | _ => true
def kdTy (c : Ct) (sc : Scope) (ks : List KD) (t : Expr) : Bool := match ks, t with
  | [kd], .Name y p => kdN c sc kd (.Name y p)
  | ks, .Tuple es _ _ => !ks.isEmpty && decide (ks.length ≤ 100) && kdNs c sc ks es
  | _, _ => false
/-- a call's written values fit a shape: how many stand by place, the keywords' names -/
def shpB (l : List (Nat × Nat × List Str)) (sh n : Nat) (kws : List Keyword) : Bool := match l.lookup sh with
  | some (m, nms) => decide (m = n) && decide (kws.filterMap (·.arg) = nms)
  | none => false
section
variable (c : Ct)
mutual
def chkE (k : Cc) : E → Expr → Bool
  | .var i, e => match e with
    | .Name x _ => decide (k.N[i]? = some x) && visB k.sc x
    | _ => false
  | .con v, e => match e with
    | .Constant z _ _ => (match v, z with
      | .non, .none => true
      | .bl b, .bool b' => b == b'
      | .int i, .int j => i == j
      | .str s, .str t => decide (s = t)
      | _, _ => false)
    | _ => false
  | .o1 o a, e => match e with
    | .UnaryOp u a' _ => (match u, o with
      | .Not, .not => testable a'
      | .USub, .neg => true
      | _, _ => false) && chkE k a a'
    | .Compare a' ops bs _ => (match ops, bs, o with
      | [.Is], [.Constant .none _ _], .isN => true
      | [.IsNot], [.Constant .none _ _], .notN => true
      | _, _, _ => false) && chkE k a a'
    | .Attribute a' x _ => (match o with
      | .fld f => decide (c.att.lookup x = some f)
      | _ => false) && chkE k a a' && notCl a'
    | .Call (.Name x _) (a' :: r) [] _ => glB k.sc x && c.blt.contains x && chkE k a a' && notStar a' && (match o, r with
      | .isi ks, [t] => decide (x = ("isinstance" : Str)) && notStar t && kdTy c k.sc ks t
      | o, [] => decide (bl1 o = some x) && (!k.hot || cool o)
      | _, _ => false)
    | _ => false
  | .o2 o a b, e => match e with
    | .BinOp a' op b' _ => binB op o && chkE k a a' && chkE k b b'
    | .Compare a' [op] [b'] _ => cmpB op o && chkE k a a' && chkE k b b' && notSet b'
    | .Subscript a' b' _ => (match o with | .ix => true | _ => false) && chkE k a a' && chkE k b b' && notSl b'
    | .Call (.Name x _) [a', b'] [] _ => decide (bl2 o = some x) && !k.hot && glB k.sc x && c.blt.contains x && chkE k a a' && chkE k b b' && notStar a' && notStar b'
    | _ => false
  | .sl a lo hi, e => match e with
    | .Subscript a' (.Slice lo' hi' none _) _ => chkE k a a' && chkO k lo lo' && chkO k hi hi'
    | _ => false
  | .chn o o' a b d, e => match e with
    | .Compare a' [op, op'] [b', d'] _ => cmpB op o && cmpB op' o' && chkE k a a' && chkE k b b' && chkE k d d' && notSet b' && notSet d'
    | _ => false
  | .and_ a b, e => match e with
    | .BoolOp .And (a' :: b' :: r) p => chkE k a a' && testable a' && (match r with | [] => chkE k b b' && testable b' | _ :: _ => chkE k b (.BoolOp .And (b' :: r) p))
    | _ => false
  | .or_ a b, e => match e with
    | .BoolOp .Or (a' :: b' :: r) p => chkE k a a' && testable a' && (match r with | [] => chkE k b b' && testable b' | _ :: _ => chkE k b (.BoolOp .Or (b' :: r) p))
    | _ => false
  | .ife t a b, e => match e with
    | .IfExp t' a' b' _ => chkE k t t' && chkE k a a' && chkE k b b' && testable t'
    | _ => false
  | .tup as, e => match e with
    | .Tuple es _ _ => chkEs k as es
    | _ => false
  | .lst as, e => match e with
    | .List es _ => chkEs k as es
    | _ => false
  | .dnew _, e => match e with
    | .Dict [] [] _ => true
    | _ => false
  | .call f as, e => match e with
    | .Call (.Name x _) es [] _ => decide (c.fns.lookup x = some f) && glB k.sc x && chkEs k as es && !k.hot
    | _ => false
  | .new i as, e => match e with
    | .Call (.Name x _) es [] _ => decide (c.cls.lookup x = some i) && glB k.sc x && chkEs k as es && !k.hot
    | _ => false
  | .callK f sh as ks, e => match e with
    | .Call (.Name x _) es (kw :: kws) _ => decide (c.fns.lookup x = some f) && glB k.sc x && chkEs k as es && chkKs k ks (kw :: kws) && !k.hot && shpB c.shp sh es.length (kw :: kws)
    | .Call (.Name x _) es [] _ => decide (c.fns.lookup x = some f) && glB k.sc x && chkEs k as es && chkKs k ks [] && !k.hot && shpB c.shp sh es.length []
    | _ => false
  | .newK i sh as ks, e => match e with
    | .Call (.Name x _) es (kw :: kws) _ => decide (c.cls.lookup x = some i) && glB k.sc x && chkEs k as es && chkKs k ks (kw :: kws) && !k.hot && shpB c.shp sh (es.length + 1) (kw :: kws)
    | .Call (.Name x _) es [] _ => decide (c.cls.lookup x = some i) && glB k.sc x && chkEs k as es && chkKs k ks [] && !k.hot && shpB c.shp sh (es.length + 1) []
    | _ => false
  | .methK m sh o as ks, e => match e with
    | .Call (.Attribute o' x p) es kws q => !k.hot && decide (c.att.lookup x = some m) && chkE k o o' && notCl o' && chkEs k as es && chkKs k ks kws && (p.endLine == q.line) && decide (es.length + kws.length < 25) && shpB c.shp sh (es.length + 1) kws
    | _ => false
  | .newx i as, e => match e with
    | .Call (.Name x _) (e1 :: es) [] _ => decide (c.cls.lookup x = some i) && glB k.sc x && chkEs k as (e1 :: es) && !k.hot
    | _ => false
  | .meth m o as, e => match e with
    | .Call (.Attribute o' x p) es [] q => !k.hot && decide (c.att.lookup x = some m) && chkE k o o' && notCl o' && chkEs k as es && (p.endLine == q.line) && decide (es.length < 25)
    | _ => false
  | .bm m o as, e => match e with
    | .Call (.Attribute o' x p) es [] q => decide (bmN m = x) && chkE k o o' && notCl o' && chkEs k as es && (p.endLine == q.line) && decide (es.length < 25)
    | _ => false
  | .lc t it cnd elt, e => match e with
    | .ListComp e' [⟨t', i', ifs, 0⟩] scope _ => !k.hot && chkIt k it t' i' && notSet i' && blkC k.N k.sc scope (ownT k.N t) && chkT ⟨k.N, relS scope k.sc, false, false⟩ t t' &&
      (match ifs with
        | [] => chkO ⟨k.N, relS scope k.sc, false, false⟩ cnd none
        | [b'] => chkO ⟨k.N, relS scope k.sc, false, false⟩ cnd (some b') && testable b'
        | _ => false) && chkE ⟨k.N, relS scope k.sc, false, false⟩ elt e'
    | _ => false
def chkEs (k : Cc) : Es → List Expr → Bool
  | .nil, l => l.isEmpty
  | .cons e r, l => match l with
    | e' :: r' => chkE k e e' && notStar e' && chkEs k r r'
    | [] => false
def chkKs (k : Cc) : Es → List Keyword → Bool
  | .nil, l => l.isEmpty
  | .cons e r, l => match l with
    | ⟨some _, e', _⟩ :: r' => chkE k e e' && chkKs k r r'
    | _ => false
def chkO (k : Cc) : OE → Option Expr → Bool
  | .non, o => o.isNone
  | .som e, o => match o with
    | some e' => chkE k e e'
    | none => false
def chkIt (k : Cc) : It → Expr → Expr → Bool
  | .rng1 a, _, e => match e with
    | .Call (.Name x _) [a'] [] _ => decide (x = ("range" : Str)) && glB k.sc x && c.blt.contains x && chkE k a a' && notStar a'
    | _ => false
  | .rng2 a b, _, e => match e with
    | .Call (.Name x _) [a', b'] [] _ => decide (x = ("range" : Str)) && glB k.sc x && c.blt.contains x && chkE k a a' && chkE k b b' && notStar a' && notStar b'
    | _ => false
  | .of a, _, e => chkE k a e && notSet e
  | .zip _ _, _, _ => false
  | .enum a, tg, e => match tg, e with
    | .Tuple _ _ _, .Call (.Name x _) [a'] [] _ => decide (x = ("enumerate" : Str)) && glB k.sc x && c.blt.contains x && chkE k a a' && notStar a'
    | _, _ => false
end
/-- a comprehension's store into a name on one line -/
def lcName (k : Cc) (e : Expr) (tg : Expr) : Bool := match e, tg with
  | .ListComp _ _ scope pos, .Name y py => (match k.sc.names.lookup y with | some .local => true | _ => false) && (py.line == pos.line) && !(scope.names.any fun (n, j) => n == y && (j == .local || j == .cell))
  | _, _ => false
def isTup : Expr → Bool
  | .Tuple _ _ _ => true
  | .List _ _ => true
  | _ => false
def notTgl : Expr → Bool
  | .List _ _ => false
  | _ => true
def augB : Operator → O2 → Bool
  | .Add, .add => true
  | .Sub, .sub => true
  | _, _ => false
mutual
def chkS (k : Cc) : S → Stmt → Bool
  | .expr e, s => match s with
    | .Expr e' _ => chkE c k e e' && notLc e'
    | _ => false
  | .asg t e, s => match s with
    | .Assign [tg] e' _ => chkE c k e e' && chkT k t tg && notStar tg && notTgl tg && (!isTup e' || (match tg with | .Name _ _ => true | _ => false)) && (notLc e' || (lcName k e' tg && !k.hot))
    | _ => false
  | .asgF o f e, s => match s with
    | .Assign [.Attribute o' x _] e' _ => chkE c k e e' && chkE c k o o' && decide (c.att.lookup x = some f)
    | _ => false
  | .asgS o i e, s => match s with
    | .Assign [.Subscript o' i' _] e' _ => chkE c k e e' && chkE c k o o' && chkE c k i i' && notSl i'
    | _ => false
  | .aug i o e, s => match s with
    | .AugAssign (.Name x _) op e' _ => decide (k.N[i]? = some x) && (match k.sc.names.lookup x with | some .local => true | _ => false) && augB op o && chkE c k e e'
    | _ => false
  | .ite t a b, s => match s with
    | .If t' a' b' _ => chkE c k t t' && testable t' && chkSs k a a' && chkSs k b b'
    | _ => false
  | .for_ t it b, s => match s with
    | .For tg e' b' [] _ => chkIt c k it tg e' && notSet e' && chkT k t tg && chkSs k b b' && !k.hot
    | _ => false
  | .whl t b, s => match s with
    | .While t' b' [] _ => chkE c k t t' && testable t' && chkSs k b b' && !k.hot
    | _ => false
  | .ret e, s => match s with
    | .Return (some e') _ => chkE c k e e'
    | _ => false
  | .retN, s => match s with
    | .Return none _ => true
    | _ => false
  | .brk, s => match s with
    | .Break _ => true
    | _ => false
  | .cnt, s => match s with
    | .Continue _ => true
    | _ => false
  | .pass, s => match s with
    | .Pass _ => true
    | _ => false
  | .rais i as, s => match s with
    | .Raise (some (.Call (.Name x _) (e :: es) [] _)) none _ => decide (c.cls.lookup x = some i) && glB k.sc x && chkEs c k as (e :: es) && !k.hot
    | _ => false
  | .try_ b hs, s => match s with
    | .Try b' (h :: l) [] [] _ => chkSs k b b' && chkHs k hs (h :: l) && !k.hot && k.d
    | _ => false
def chkSs (k : Cc) : Ss → List Stmt → Bool
  | .nil, l => l.isEmpty
  | .cons s r, l => match l with
    | s' :: r' => chkS k s s' && chkSs k r r'
    | [] => false
def chkHs (k : Cc) : Hs → List ExceptHandler → Bool
  | .nil, l => l.isEmpty
  | .cons j i b r, l => match l with
    | .ExceptHandler (some (.Name x _)) nm (b0 :: b1) _ :: l' => decide (c.cls.lookup x = some j) && glB k.sc x && (match i, nm with
      | none, none => true
      | some i, some y => decide (k.N[i]? = some y) && (match k.sc.names.lookup y with | some .local => true | _ => false)
      | _, _ => false) && chkSs ⟨k.N, k.sc, k.d, true⟩ b (b0 :: b1) && chkHs k r l'
    | _ => false
end
end
end Mi
set_option Elab.async false
set_option maxRecDepth 100000
set_option maxHeartbeats 4000000
/-! MiGd: the promise of a function where it is known that no repr is under way (the frame's guards are none): for repr of lists. -/
namespace Mi
open PySem L2 PySem.Spec PyProof.Rows
structure FnG (P : Program) (w : World) (K : PySem.W.Frag) (mg : Str → Option Value) (base : Heap) (CX : CXT) (k : Nat) (f : Addr) (fd : FuncData) (ps : List Str) (sp : Sp) : Prop where
  len : ∀ vs H Q E, sp vs H Q E → vs.length = ps.length
  run : ∀ (A : Around) (outer : List Env) (s : Shared) (H : Hp) (args : Args) (us : List Value) (vs : List V) (Q : VK) (E : XK), A.guards = some [] → Room k A → Env0 P w K mg base A outer s H → BindsTo s fd args (ps.zip us) → Vals vs us → sp vs H Q E →
    codeAny (model P w) A (.call (.ref f) args) (CR CX outer P w H s Q E) s
section
variable {CX : CXT} {P : Program} {w : World} {K : PySem.W.Frag} {mg : Str → Option Value} {base : Heap} {k : Nat} {f : Addr} {fd : FuncData} {ps : List Str} {sp sp' : Sp}
theorem FnG.imp (F : FnG P w K mg base CX k f fd ps sp) (q : ∀ vs H Q E, sp' vs H Q E → sp vs H Q E) : FnG P w K mg base CX k f fd ps sp' :=
  ⟨fun vs H Q E z => F.len _ _ _ _ (q _ _ _ _ z), fun A outer s H args us vs Q E g hr he hb hv z => F.run A outer s H args us vs Q E g hr he hb hv (q _ _ _ _ z)⟩
/-- from the body -/
theorem fnG_of {name qual : Str} {params : Arguments} {body : List Stmt} {scope : Scope} {dV kV doc pm cdv ct oc : Value} {an od : Option Addr} {osl : Array (Option Value)} {N : List Str}
    (lk : K.lookup f = some ⟨oc, od, .func (PySem.W.fnOf name qual params body scope dV kV doc pm an cdv ct), osl⟩) (hcd : PySem.W.codeIn K cdv qual = true) (S : FnScope N ps scope) (len : ∀ vs H Q E, sp vs H Q E → vs.length = ps.length)
    (hbody : ∀ (A : Around) (outer : List Env) (s : Shared) (H : Hp) (vs : List V) (Q : VK) (E : XK), A.guards = some [] → Room k (A.deeper (envOfC qual scope s.heap.objs.size f cdv)) → sp vs H Q E →
      ∃ t, PSs (cxOf CX P w K mg base N qual scope f cdv A outer s H E) body t ∧ t { nx := fun _ H' => Q .non H', rt := Q } (L2.start N vs) H) :
    FnG P w K mg base CX (k + 1) f (PySem.W.fnOf name qual params body scope dV kV doc pm an cdv ct) ps sp where
  len := len
  run := by
    intro A outer s H args us vs Q E g room e0 bnd rv z
    have inK : K.In s.heap := e0.mod.kin.keeps fun b o q => (e0.bs b o q).1
    have noLim : s.heap.NoLimit := e0.mod.nolimit.keeps fun b o q => (e0.bs b o q).1
    have kinds : ∀ y ∈ ps.zip us, scope.names.lookup y.1 = some .local ∨ (scope.names.lookup y.1 = some .cell ∧ ((cellsFrom (s.heap.objs.size + 1) scope.names []).lookup y.1).isSome = true) := by
      intro y hy
      have hy' : y.1 ∈ ps := (List.of_mem_zip (a := y.1) (b := y.2) hy).1
      exact (S.par y.1 hy').imp id fun q => ⟨q, PySem.W.cellsFrom_some _ _ _ (.inl q)⟩
    obtain ⟨t, pt, ht⟩ := hbody A outer s H vs Q E g (room.deeper _) z
    apply codeAny_call_function room.depth (inK _ _ lk) rfl S.co S.gen rfl (PySem.W.codeRec_of inK hcd)
    apply bnd
    apply wpAny_newFunctionEnv_cells S.kind kinds
    rintro env rfl s1 x
    have I := inv_start (CX := CX) (E := E) S room.hd e0 (len _ _ _ _ z) rv x
    have ends : ∀ {σ' : L2.St} {H' : Hp} {v : V} {u : Value} {s' : Shared}, L2.Inv (cxOf CX P w K mg base N qual scope f cdv A outer s H E) [] σ' H' s' → RelV v u → Q v H' → CE outer P w H s Q u s' := fun J r q => ⟨_, _, J.os, J.bare, J.base, J.hok, r, q⟩
    refine ⟨noLim.keeps x.toInCall.keep, codeAny_func (wpAny_mono (pt.run [] s1 (L2.start N vs) H _ I ht) (fun fl s' done => ?_) fun _ _ q => q)⟩
    match fl, done with
    | .ret u, ⟨v, σ', H', J, r, q⟩ => exact ends J r q
    | .next, ⟨σ', H', J, q⟩ => exact ends (v := V.non) (u := Value.none) J rfl q
    | .brk, ⟨_, _, _, q⟩ => exact q.elim
    | .cont, ⟨_, _, _, q⟩ => exact q.elim
end
/-- a call within a body -/
theorem run_fnG {X : Cx} {CX : CXT} {k : Nat} {f : Addr} {fd : FuncData} {ps : List Str} {sp : Sp} {E : XK} {pins : List (Addr × Obj)} {σ : L2.St} {H : Hp} {s : Shared} {Q : VK} {us : List Value} {vs : List V} (F : FnG X.prog X.w X.K X.mg X.base CX k f fd ps sp) (g : X.A.guards = some []) (room : Room k X.A)
    (hb : Binds X.K fd ps []) (hx : PassesAt CX X σ E) (I : L2.Inv X pins σ H s) (r : Vals vs us) (z : sp vs H Q E) : wpAny (model X.prog X.w) X.A (call (.ref f) us) (EP X pins σ Q) X.xe s := by
  have ln : us.length = ps.length := r.length.symm.trans (F.len _ _ _ _ z)
  have bnd := hb s us I.kIn (by rw [List.append_nil]; exact ln)
  rw [List.append_nil] at bnd
  refine wpAny_call (codeAny_mono (F.run X.A X.stack s H ⟨us, []⟩ us vs Q E g room I.env0 bnd r z) ?_)
  rintro (e | fl) s' q
  · exact hx pins H s e s' I q
  · match fl, q with
    | .ret u, q => exact I.after q
    | .next, q => exact q.elim
    | .brk, q => exact q.elim
    | .cont, q => exact q.elim
/-- the maker's frame bears no guard -/
theorem make_guards {A : Around} {C : Addr} {us : List Value} {kw : List (Str × Value)} (g : A.guards = some []) : (A.under (.builtin "type.__call__" ⟨.ref C :: us, kw⟩)).guards = some [] := by
  simp [Around.under, Code.guards, Code.isGuard, guardIds, pushGuards, g]
/-! ### the head -/
section
variable {P : Program} {w : World} {K : PySem.W.Frag} {mg mb : Str → Option Value} {CX : CXT} {k : Nat} {fa a : Addr} {fd : FuncData} {x : Str} {sp : Sp} {s₁ : Shared} {vs : List Value} {ns : List Int}
/-- nothing is tracked but, it may be, the script: the law's call -/
theorem headG {H : Hp} (inK : K.In s₁.heap) (hns : s₁.heap.Ns mainGlobals mg) (hb : s₁.heap.Ns builtinsNs mb) (hbb : ∀ x : Str, x ≠ "__name__" → mb x = bootBuiltins x) (noLim : s₁.heap.NoLimit) (noGens : s₁.gens = #[])
    (ha : s₁.heap.get? a = some { cls := .type "list", data := .seq vs.toArray }) (room : Room k callerA) (F : ∀ base : Heap, K.In base → base.Ns mainGlobals mg → FnG P w K mg base CX k fa fd [x] sp) (bnd : ∀ (s : Shared) (u : Value), BindsTo s fd ⟨[u], []⟩ [(x, u)])
    (one : ∀ b, H b ≠ none → b = a ∧ K.lookup a = none) (hO : Only H) (hok : HOk P w H s₁.heap) (z : sp [.ref a] H (fun v _ => v = .bl true) fun _ _ _ => False) (quiet : ∀ e s', CX [] H s₁ (fun _ _ _ => False) e s' → False) :
    codeAny (model P w) callerA (.call (.ref fa) ⟨[.ref a], []⟩) (fun r s' => r = .ok (.ret (.bool true)) ∧ OldK s₁.heap s'.heap ∧ s'.os = s₁.os ∧ AllBare s'.gens) s₁ := by
  have still : ∀ {b : Addr}, ¬(b = a ∧ K.lookup a = none) → H b = none := fun {b} q => Classical.byContradiction fun z => q (one b z)
  have notA : ∀ {b : Addr} {o : Obj} {es : Array DictEntry} {ep : Nat}, s₁.heap.get? b = some o → o.data = .dict es ep → H b = none := by
    intro b o es ep e d
    refine still ?_
    rintro ⟨rfl, _⟩
    rw [ha] at e
    cases e
    cases (show Data.seq vs.toArray _ = Data.dict es ep from d)
  have dicts : ∀ {b : Addr} {m : Str → Option Value}, s₁.heap.Ns b m → (hidT s₁.heap H).Ns b m := by
    rintro b m ⟨o, es, ep, e, d, r⟩
    exact ⟨o, es, ep, hidT_get e (notA e d), d, r⟩
  have inB : K.In (hidT s₁.heap H) := by
    intro b o e
    refine hidT_get (inK b o e) (still ?_)
    rintro ⟨rfl, q⟩
    rw [q] at e
    cases e
  obtain ⟨mc, l1, l2⟩ := noLim
  have e0 : Env0 P w K mg (hidT s₁.heap H) callerA [] s₁ H :=
    { frames := rfl
      mod := ⟨inB, dicts hns, ⟨mb, dicts hb, hbb⟩, mc, dicts l1, l2⟩
      bs := fun b o e => of_hidT e
      bsz := Nat.le_of_eq (hidT_size _ _)
      funs := trivial
      frf := fun b q => (by cases (show b ∈ ([] : List Addr) from q))
      hok := hok
      bare := .of_eq noGens }
  refine codeAny_mono ((F _ inB (dicts hns)).run callerA [] s₁ H ⟨[.ref a], []⟩ [.ref a] [.ref a] _ _ rfl room e0 (bnd s₁ (.ref a)) (.cons rfl .nil) z) ?_
  rintro (e | fl) s' q
  · exact (quiet e s' q).elim
  match fl, q with
  | .ret u, ⟨v, H', os, bare, un, hok', r, q⟩ =>
    obtain rfl : v = .bl true := q
    obtain rfl : u = Value.bool true := r
    refine ⟨rfl, OldK.of_keep fun b o e => ?_, os, bare⟩
    rcases hO b with n | ⟨ob, xs, n⟩
    · exact un.keep b o e n (fun m => by cases (show b ∈ ([] : List Addr) from m)) (by simp)
    · have same := (hok b _ n).1
      rw [e] at same
      rw [Option.some.inj same]
      exact (hok' b _ (un.frzs b ob _ n)).1
  | .next, q => exact q.elim
  | .brk, q => exact q.elim
  | .cont, q => exact q.elim
theorem walkG {l : PySem.W.OpenLaw} {n k : Nat} {q : Program} {loose : List Str} {XP : (Str → Option Value) → Heap → Prop} {YP : World → Heap → Prop} {d : DefRec} {K : Params → PySem.W.Frag} {CX : World → CXT} {sp : World → Sp} {x : Str}
    (hn : l.most = some n) (hn2 : n ≤ sizeLine) (hdf : d.params.defaults = []) (room : Room k callerA) (hY : ∀ (w : World) (h : Heap), YP w h → (K w.params).In h)
    (F : ∀ (w : World) (mg : Str → Option Value) (fa : Addr) (h : Heap), (K w.params).In h → h.Ns mainGlobals mg → mg d.name = some (.ref fa) →
      ∃ fd : FuncData, (∀ (s : Shared) (u : Value), BindsTo s fd ⟨[u], []⟩ [(x, u)]) ∧ ∀ base : Heap, (K w.params).In base → base.Ns mainGlobals mg → FnG l.prog w (K w.params) mg base (CX w) k fa fd [x] (sp w))
    (hsp : ∀ (w : World) (H : Hp) (a : Addr) (ns : List Int), ns.length ≤ n → Only H → SqL (K w.params) H a (ns.map V.int) → sp w [.ref a] H (fun v _ => v = .bl true) fun _ _ _ => False)
    (quiet : ∀ (w : World) (H : Hp) (s : Shared) (e : Value) (s' : Shared), CX w [] H s (fun _ _ _ => False) e s' → False) :
    PySem.W.WalkO q loose XP YP l.row.toRowW d [] (fun f vs => PySem.call f vs) := by
  refine Att.attach_call hn hdf fun w s₀ s₁ mg mb fa o pm cd doc a vs ns G Y ho hd hcd hmg hobj hints hlen hg => ?_
  have inK := hY w _ Y
  obtain ⟨fd, bnd, hF⟩ := F w mg fa _ inK G.T.g hmg
  have room2 : ns.length ≤ sizeLine := Nat.le_trans hlen hn2
  have rv := vals_ints hints
  have lv : vs.length = ns.length := hints.length
  have go := fun (H : Hp) (one : ∀ b, H b ≠ none → b = a ∧ (K w.params).lookup a = none) (hO : Only H) (hok : HOk l.prog w H s₁.heap) (hS : SqL (K w.params) H a (ns.map V.int)) =>
    headG inK G.T.g G.T.b G.T.builtins G.T.nolimit hg hobj room hF bnd one hO hok (hsp w H a ns hlen hO hS) fun e s' => quiet w H s₁ e s'
  cases e : (K w.params).lookup a with
  | some o' =>
    have same := inK a o' e
    rw [hobj] at same
    cases same
    refine go (fun _ => none) (fun b q => absurd rfl q) (fun _ => .inl rfl) (fun b u q => by cases (show (none : Option HO) = some u from q)) (.inr ⟨_, vs.toArray, _, e, rfl, rfl, rfl, ?_, ?_⟩)
    · simpa [lv] using room2
    · simpa using rv
  | none =>
    refine go (upd (fun _ => none) a (.frz { cls := .type "list", data := .seq vs.toArray } (.lst (ns.map V.int)))) (fun b q => ?_) (fun b => ?_) (fun b u q => ?_) (.inl (.inr ⟨_, upd_same⟩))
    · by_cases h : b = a
      · exact ⟨h, e⟩
      · exact absurd (upd_ne h) q
    · by_cases h : b = a
      · subst h
        exact .inr ⟨_, _, upd_same⟩
      · exact .inl (upd_ne h)
    · by_cases h : b = a
      · subst h
        rw [upd_same] at q
        cases q
        exact ⟨hobj, by rw [List.length_map]; exact room2, vs, _, rv, hobj⟩
      · rw [upd_ne h] at q
        cases q
end
end Mi
set_option Elab.async false
set_option maxRecDepth 100000
set_option maxHeartbeats 4000000
/-! MiSnd: the code of an expression does what its text does. -/
namespace Mi
open PySem L2 PySem.Spec PyProof.Rows

/-! ### what is known of the module -/
def kdU (κ : Ks) : KD → Value
  | .kint => .type "int"
  | .kbool => .type "bool"
  | .kstr => .type "str"
  | .klist => .type "list"
  | .ktup => .type "tuple"
  | .kval => .type "ValueError"
  | .kcls c => .ref (κ.C c)
def kdV (κ : Ks) : KD → V
  | .kint => .ty "int"
  | .kbool => .ty "bool"
  | .kstr => .ty "str"
  | .klist => .ty "list"
  | .ktup => .ty "tuple"
  | .kval => .ty "ValueError"
  | .kcls c => .ref (κ.C c)
/-- the built-in types of values -/
inductive BT where
  | tn | tb | ti | ts | tl | tt | td
def btS : BT → String
  | .tn => "NoneType"
  | .tb => "bool"
  | .ti => "int"
  | .ts => "str"
  | .tl => "list"
  | .tt => "tuple"
  | .td => "dict"
def btK : BT → KD → Bool
  | .tb, .kint => true
  | .tb, .kbool => true
  | .ti, .kint => true
  | .ts, .kstr => true
  | .tl, .klist => true
  | .tt, .ktup => true
  | _, _ => false
/-- the promise of the function f at depth n -/
def SP (κ : Ks) (B : Tb) (n f : Nat) : Sp := fun vs H Q E => ∃ ι h as, Rep κ ι h H ∧ RVs κ H ι h.n as vs ∧ Post κ (RV κ) (fun cls d _ H => E cls d H) [] ι h H (Gam B n f as h) Q
/-- the promise of an error's maker: its fields are stored, the newest first -/
def SPX (κ : Ks) (c : Nat) (ks : List (Nat × Bool)) : Sp := fun vs H Q _ => ∃ a ws, vs = .ref a :: ws ∧ ws.length = ks.length ∧ (∀ kb ∈ ks, kb.2 = false) ∧ (∀ w ∈ ws, ∃ i : Int, w = .int i ∧ i.natAbs.log2 < 1920) ∧ H a = some (exo a (κ.C c) none) ∧
  ∀ d H', H d = none → d ≠ a → H' a = some (exo a (κ.C c) (some d)) → H' d = some (exd d ((ks.map fun kb => κ.F kb.1).zip ws).reverse) → (∀ b, b ≠ a → b ≠ d → H' b = H b) → Q .non H'
/-- how a call of a shape binds: m values by place, keywords nms, then the parameters by pl -/
def ShOk (κ : Ks) (K : PySem.W.Frag) (fd : FuncData) (ps : List Str) (m : Nat) (nms : List Str) (pl : List PL) : Prop := ∃ g gV, KBn K fd ps m nms g gV ∧
  ∀ (H : Hp) (ι : Io) (n : Nat) (as : List AV) (vs zs : List V) (us : List AV), RVs κ H ι n as (vs ++ zs) → vs.length = m → zs.length = nms.length → place as pl = some us → RVs κ H ι n us (gV vs zs)
/-- what is known of a function that may be called -/
structure FOk (κ : Ks) (B : Tb) (ct : Ct) (P : Program) (w : World) (K : PySem.W.Frag) (mg : Str → Option Value) (base : Heap) (n f : Nat) (a : Addr) (fd : FuncData) (ps : List Str) : Prop where
  run : FnG P w K mg base (L2.CX P w) (2 * n + 2) a fd ps (SP κ B n f)
  bd : B.pln f = true → Binds K fd ps []
  sh : ∀ sh, B.sok f sh = true → ∃ m nms pl, ct.shp.lookup sh = some (m, nms) ∧ B.shp sh = some (m, nms.length, pl) ∧ ShOk κ K fd ps m nms pl
/-- the functions -/
structure Wf (κ : Ks) (B : Tb) (ct : Ct) (P : Program) (w : World) (K : PySem.W.Frag) (mg : Str → Option Value) (base : Heap) (n : Nat) : Prop where
  fnF : ∀ x f, ct.fns.lookup x = some f → ∃ a fd ps, FOk κ B ct P w K mg base n f a fd ps ∧ mg x = some (.ref a) ∧ PySem.W.keepIn K (.ref a) = true
  mtF : ∀ c m f, B.mt c m = some f → Cls K (κ.C c) ∧ ∃ a fd ps, Meth K (κ.C c) (κ.F m) a ∧ FOk κ B ct P w K mg base n f a fd ps
  inF : ∀ x c f, ct.cls.lookup x = some c → B.ini c = some f → mg x = some (.ref (κ.C c)) ∧ ∃ a fd ps, Mk K (κ.C c) a ∧ FOk κ B ct P w K mg base n f a fd ps
  exF : ∀ x c ks, ct.cls.lookup x = some c → B.exf c = some ks → OexC K (κ.C c) ∧ mg x = some (.ref (κ.C c)) ∧ ks ≠ [] ∧ ks.length ≤ 1000 ∧ ∃ fI fd ps, PySem.W.findIn K (.ref (κ.C c)) "__init__" = some (some (.ref fI)) ∧ PySem.W.typeIn K (.ref fI) = some (.type "function") ∧
    FnOk P w K mg base CX0 2 fI fd ps (SPX κ c ks) ∧ Binds K fd ps []
/-- the classes -/
structure Wc (κ : Ks) (B : Tb) (ct : Ct) (K : PySem.W.Frag) (mg : Str → Option Value) : Prop where
  cls : ∀ x c, ct.cls.lookup x = some c → mg x = some (.ref (κ.C c))
  att : ∀ x f, ct.att.lookup x = some f → κ.F f = x
  blt : ∀ x, x ∈ ct.blt → mg x = none
  fa : ∀ c f, B.fa c f = true → Cls K (κ.C c) ∧ NoAttr K (κ.C c) (κ.F f)
  fx : ∀ c f, B.fx c f = true → XfC K (κ.C c) ∧ PySem.W.findIn K (.ref (κ.C c)) (κ.F f) = some none
  ex : ∀ c, B.ex c = true → ExcC K (κ.C c)
  kB : ∀ t kd, (∀ c, kd = .kcls c → ∃ x, ct.cls.lookup x = some c) → PySem.W.kitOne K (.type (btS t)) (kdU κ kd) = some (btK t kd)
  kC : ∀ c kd, B.ic c = true → (∀ d, kd = .kcls d → ∃ x, ct.cls.lookup x = some d) → PySem.W.kitOne K (.ref (κ.C c)) (kdU κ kd) = some (match kd with | .kcls d => c == d | _ => false)
  kX : ∀ c kd, B.ex c = true → (∀ d, kd = .kcls d → ∃ x, ct.cls.lookup x = some d) → PySem.W.kitOne K (.ref (κ.C c)) (kdU κ kd) = some (isX B.sub c kd)
  ic : ∀ c, B.ic c = true → Cls K (κ.C c) ∧ PySem.W.findIn K (.ref (κ.C c)) "__class__" = some (some (.builtin "object.__class__")) ∧ PySem.W.specialIn K (.builtin "object.__class__") "__get__" = some (some (.builtin "getset_descriptor.__get__")) ∧
    PySem.W.takesIn K (.builtin "object.__class__") = some true ∧ PySem.W.mroIn K (κ.C c) (.type "object") = some true
  hd : ∀ c d y, ct.cls.lookup y = some d → B.ex d = true → B.ex c = true → PySem.W.exmOne K (.ref (κ.C c)) (.ref (κ.C d)) = some (B.sub c d)
/-- a context in which the code k stands, W being wished of errors -/
structure Cok (κ : Ks) (B : Tb) (ct : Ct) (n : Nat) (k : Cc) (X : Cx) (W : WX) : Prop where
  wc : Wc κ B ct X.K X.mg
  wf : k.hot = false → Wf κ B ct X.prog X.w X.K X.mg X.base n
  hK : X.K = κ.K
  N : X.N = k.N
  nd : X.N.Nodup
  sc : X.env.scope = k.sc
  calm : k.hot = false → X.calm = true
  un : X.A.units + 100 < cLine
  gd : X.A.guards = some []
  room : k.hot = false → Room (2 * n + 3) X.A
  tk : Takes X W
  fn : k.d = true → ∀ x, X.fn x = true
  po : PassesOwn (model X.prog X.w) X.A X.env X.xe
  st : k.d = true → X.stack = X.env :: X.outer ∧ X.env.frame = some X.env.locals
section
variable {κ : Ks} {B : Tb} {ct : Ct} {n : Nat} {k : Cc} {X : Cx} {W : WX}
theorem Cok.u64 (C : Cok κ B ct n k X W) : X.A.units + 64 < cLine := by have := C.un; omega
end
/-- the interpreter's tables at depth n -/
noncomputable abbrev GP (B : Tb) (n : Nat) : PG := B.pg (Gam B n)
/-- what is shown of a code and its text -/
structure Snd (κ : Ks) (G : PG) (X : Cx) (W : WX) (c : E) (e : Expr) : Prop where
  pe : PE X e (Rd κ W (evalE G c))
  pt : testable e = true → PT X e (RdT κ W (evalT G c))
  pw : ∀ op vs p, e = .BoolOp op vs p → PW X e (RdT κ W (evalT G c))

section
variable {κ : Ks} {B : Tb} {ct : Ct} {n : Nat} {k : Cc} {X : Cx} {W : WX} {G : PG}
/-- a text whose test is its value's truth -/
def plainT : Expr → Bool
  | .UnaryOp .Not _ _ => false
  | .BoolOp _ _ _ => false
  | .IfExp _ _ _ _ => false
  | .Compare _ _ _ _ => false
  | _ => true
theorem isTrue_plainE {e : Expr} (h : plainT e = true) (env : Env) (whole : Sem Value) : isTrue e env whole = (do let v ← whole; standAt e.pos; holding [v] (truthy v)) := by
  cases e with
  | UnaryOp op a p => cases op <;> first | rfl | cases h
  | BoolOp _ _ _ => cases h
  | IfExp _ _ _ _ => cases h
  | Compare _ _ _ _ => cases h
  | _ => rfl
/-- the truth of a value -/
theorem rdT_of {c : E} {σ : L2.St} {H : Hp} {Q : Bool → Hp → Prop} (h : RdT κ W (evalT G c) σ H Q) : Rd κ W (evalE G c) σ H fun x H1 => ∃ b, TruV κ.K x H1 b ∧ Q b H1 := by
  obtain ⟨ι, τ, h0, R, S, P⟩ := h
  refine RdG.step R S P fun ι1 h1 H1 a b S1 rs r q => ?_
  have q : Post κ RB W σ ι1 h1 H1 (match truth a h1 with | some b => Res.ok b h1 | none => .bad) Q := q
  cases e : truth a h1 with
  | none => rw [e] at q; exact q.elim
  | some t =>
    rw [e] at q
    exact ⟨t, truth_ok S1.rep r e, q ι1 H1 t (Stp.refl S1.rep) rfl⟩
theorem Snd.plain (hK : X.K = κ.K) {c : E} {e : Expr} (p : PE X e (Rd κ W (evalE G c))) (h : plainT e = true) : Snd κ G X W c e where
  pe := p
  pt := fun _ => by
    refine PT.imp (fun σ H Q q => ?_) (pt_truth p (isTrue_plainE h _))
    have q' := rdT_of q
    rw [hK]
    exact q'
  pw := fun op vs p e => by rw [e] at h; cases h
/-- a value that stays -/
theorem rd_ret {σ : L2.St} {H : Hp} {Q : VK} {ι : Io} {h : AH} {x : AV} {v : V} (R : Rep κ ι h H) (r : RV κ H ι h.n x v) (P : Post κ (RV κ) W σ ι h H (.ok x h) Q) : Q v H := P ι H v (Stp.refl R) r
theorem snd_var (C : Cok κ B ct n k X W) {i : Nat} {x : Str} {p : Pos} (h1 : k.N[i]? = some x) (h2 : visB k.sc x = true) : Snd κ G X W (.var i) (.Name x p) := by
  refine Snd.plain C.hK ?_ rfl
  unfold visB dun at h2
  simp only [Bool.and_eq_true, Bool.not_eq_true', Bool.or_eq_false_iff] at h2
  obtain ⟨h3, ⟨h4, h5⟩, _⟩ := h2
  have hv : Vis X.env.scope x := by
    rw [C.sc]
    unfold Vis
    split at h3
    · rename_i e; exact .inl e
    · rename_i e; exact .inr (.inl e)
    · rename_i e; exact .inr (.inr e)
    · cases h3
  refine PE.imp (fun σ H Q q => ?_) (pe_var (i := i) (by rw [C.N]; exact h1) hv h4 h5)
  obtain ⟨ι, τ, h, R, S, P⟩ := q
  unfold evalE at P
  split at P
  · rename_i v e
    obtain ⟨w, q1, q2⟩ := S.2 i v e
    exact ⟨w, q1, rd_ret R q2 P⟩
  · exact P.elim
theorem snd_con (C : Cok κ B ct n k X W) {v : AV} {z : Const} {j : Nat} {p : Pos} (h : (match v, z with
      | .non, .none => true
      | .bl b, .bool b' => b == b'
      | .int i, .int j => i == j
      | .str s, .str t => decide (s = t)
      | _, _ => false) = true) : Snd κ G X W (.con v) (.Constant z j p) := by
  refine Snd.plain C.hK ?_ rfl
  split at h
  · exact PE.imp (fun σ H Q ⟨ι, τ, h, R, S, P⟩ => rd_ret (x := .non) R rfl P) pe_non
  · rename_i b b'
    obtain rfl : b = b' := by simpa using h
    exact PE.imp (fun σ H Q ⟨ι, τ, h, R, S, P⟩ => rd_ret (x := .bl b) R rfl P) pe_bl
  · rename_i b b'
    obtain rfl : b = b' := by simpa using h
    exact PE.imp (fun σ H Q ⟨ι, τ, h, R, S, P⟩ => rd_ret (x := .int b) R rfl P) pe_int
  · rename_i b b'
    obtain rfl : b = b' := by simpa using h
    exact PE.imp (fun σ H Q ⟨ι, τ, h, R, S, P⟩ => rd_ret (x := .str b) R rfl P) pe_str
  · cases h
/-- one operand -/
theorem rd1 {o : AV → AH → Option (AV × AH)} {a : Frame → AH → Res AV} {σ : L2.St} {H : Hp} {Q : VK} (q : RdG κ (RV κ) W (fun τ h => (a τ h).bind fun x h1 => ofO (o x h1)) σ H Q) : RdG κ (RV κ) W a σ H fun x H1 => R1of κ o x H1 Q := by
  obtain ⟨ι, τ, h, R, S, P⟩ := q
  exact RdG.step R S P fun ι1 h1 H1 a b S1 rs r q => ⟨ι1, h1, a, S1.rep, r, q.ofO⟩
/-- two operands -/
theorem rd2 {o : AV → AV → AH → Option (AV × AH)} {a b : Frame → AH → Res AV} {σ : L2.St} {H : Hp} {Q : VK} (q : RdG κ (RV κ) W (fun τ h => (a τ h).bind fun x h1 => (b τ h1).bind fun y h2 => ofO (o x y h2)) σ H Q) :
    RdG κ (RV κ) W a σ H fun x H1 => RdG κ (RV κ) W b σ H1 fun y H2 => R2of κ o x y H2 Q := by
  obtain ⟨ι, τ, h, R, S, P⟩ := q
  refine RdG.step R S P fun ι1 h1 H1 x v S1 rs r q => ?_
  exact RdG.step S1.rep rs q fun ι2 h2 H2 y u S2 rs2 r2 q2 => ⟨ι2, h2, x, y, S2.rep, S2.val S1.rep r, r2, q2.ofO⟩
theorem snd_bin (C : Cok κ B ct n k X W) {o : O2} {a b : E} {a' b' : Expr} {op : Operator} {p : Pos} (h : binB op o = true) (ha : Snd κ G X W a a') (hb : Snd κ G X W b b') : Snd κ G X W (.o2 o a b) (.BinOp a' op b' p) := by
  refine Snd.plain C.hK ?_ rfl
  have hr : OpR X (binaryOp op) (R2of κ (o2S o)) := by
    unfold binB at h
    split at h
    · exact ok_add C.hK
    · exact ok_sub
    · exact ok_mul
    · exact ok_fdiv
    · exact ok_mod
    · exact ok_pow
    · cases h
  exact PE.imp (fun σ H Q q => rd2 q) (pe_op hr ha.pe hb.pe)
theorem cmp_rule (C : Cok κ B ct n k X W) {o : O2} {op : CmpOp} (h : cmpB op o = true) : OpR X (compareOp op) (R2of κ (o2S o)) := by
  have hu := C.u64
  have hu2 : X.A.units + 65 < cLine := by have := C.un; omega
  unfold cmpB at h
  split at h
  · exact ok_eq C.hK hu
  · exact ok_ne C.hK hu
  · exact ok_lt
  · exact ok_le
  · exact ok_gt
  · exact ok_ge
  · exact ok_in C.hK hu2
  · exact ok_notin C.hK hu2
  · cases h
theorem cmp_bool {o : O2} {op : CmpOp} (h : cmpB op o = true) {x y : AV} {h0 : AH} {v : AV} {h1 : AH} (e : o2S o x y h0 = some (v, h1)) : ∃ b, v = .bl b ∧ h1 = h0 := by
  unfold cmpB at h
  split at h
  · unfold o2S at e
    dsimp only at e
    cases e1 : eqS x y h0 with
    | none => rw [e1] at e; cases e
    | some d => rw [e1] at e; cases e; exact ⟨_, rfl, rfl⟩
  · unfold o2S at e
    dsimp only at e
    cases e1 : eqS x y h0 with
    | none => rw [e1] at e; cases e
    | some d => rw [e1] at e; cases e; exact ⟨_, rfl, rfl⟩
  · cases x <;> cases y <;> first | (cases e; done) | (cases e; exact ⟨_, rfl, rfl⟩)
  · cases x <;> cases y <;> first | (cases e; done) | (cases e; exact ⟨_, rfl, rfl⟩)
  · cases x <;> cases y <;> first | (cases e; done) | (cases e; exact ⟨_, rfl, rfl⟩)
  · cases x <;> cases y <;> first | (cases e; done) | (cases e; exact ⟨_, rfl, rfl⟩)
  · unfold o2S at e
    dsimp only at e
    cases e1 : inS x y h0 with
    | none => rw [e1] at e; cases e
    | some d => rw [e1] at e; cases e; exact ⟨_, rfl, rfl⟩
  · unfold o2S at e
    dsimp only at e
    cases e1 : inS x y h0 with
    | none => rw [e1] at e; cases e
    | some d => rw [e1] at e; cases e; exact ⟨_, rfl, rfl⟩
  · cases h
theorem marks (op : CmpOp) {b : Expr} (h : notSet b = true) : behindInMarks op b = false := by
  cases b <;> first | rfl | cases h
/-- a comparison's reading as a test -/
theorem rd2T {o : O2} {a b : E} {op : CmpOp} (h : cmpB op o = true) {σ : L2.St} {H : Hp} {Q : Bool → Hp → Prop} (q : RdT κ W (evalT G (.o2 o a b)) σ H Q) :
    Rd κ W (evalE G a) σ H fun x H1 => Rd κ W (evalE G b) σ H1 fun y H2 => R2of κ (o2S o) x y H2 fun z H3 => ∃ t, z = .bl t ∧ Q t H3 := by
  obtain ⟨ι, τ, h0, R, S, P⟩ := q
  have P : Post κ RB W σ ι h0 H (((evalE G a τ h0).bind fun x h1 => (evalE G b τ h1).bind fun y h2 => ofO (o2S o x y h2)).bind fun x h1 => match truth x h1 with | some b => Res.ok b h1 | none => .bad) Q := P
  have e1 : ∀ (r : Res AV) (f : AV → AH → Res AV) (g : AV → AH → Res Bool), (r.bind f).bind g = r.bind fun x h => (f x h).bind g := fun r f g => by cases r <;> rfl
  rw [e1] at P
  refine RdG.step R S P fun ι1 h1 H1 x v S1 rs r q => ?_
  rw [e1] at q
  refine RdG.step S1.rep rs q fun ι2 h2 H2 y u S2 rs2 r2 q2 => ⟨ι2, h2, x, y, S2.rep, S2.val S1.rep r, r2, ?_⟩
  cases e : o2S o x y h2 with
  | none => rw [e] at q2; exact q2.elim
  | some z =>
    obtain ⟨z, h3⟩ := z
    obtain ⟨t, rfl, rfl⟩ := cmp_bool h e
    rw [e] at q2
    intro ι' H' w S3 r3
    exact ⟨t, r3, q2 ι' H' t S3 rfl⟩
theorem snd_cmp (C : Cok κ B ct n k X W) {o : O2} {a b : E} {a' b' : Expr} {op : CmpOp} {p : Pos} (h : cmpB op o = true) (hm : notSet b' = true) (ha : Snd κ G X W a a') (hb : Snd κ G X W b b') : Snd κ G X W (.o2 o a b) (.Compare a' [op] [b'] p) where
  pe := PE.imp (fun σ H Q q => rd2 q) (pe_cmpR (cmp_rule C h) ha.pe hb.pe (marks op hm))
  pt := fun _ => PT.imp (fun σ H Q q => rd2T h q) (pt_cmpR (cmp_rule C h) ha.pe hb.pe (marks op hm))
  pw := fun _ _ _ e => by cases e
end
end Mi
set_option Elab.async false
set_option maxRecDepth 100000
set_option maxHeartbeats 4000000
/-! MiSnd2: further expressions. -/
namespace Mi
open PySem L2 PySem.Spec PyProof.Rows
theorem Res.bind_bind {α β γ : Type} (r : Res α) (f : α → AH → Res β) (g : β → AH → Res γ) : (r.bind f).bind g = r.bind fun x h => (f x h).bind g := by cases r <;> rfl
theorem RdG.imp_ {κ : Ks} {α β : Type} {R : Hp → Io → Nat → α → β → Prop} {W : WX} {f : Frame → AH → Res α} {σ : L2.St} {H : Hp} {Q Q' : β → Hp → Prop} (q : RdG κ R W f σ H Q) (k : ∀ b H', Q b H' → Q' b H') : RdG κ R W f σ H Q' :=
  let ⟨ι, τ, h, R, S, P⟩ := q; ⟨ι, τ, h, R, S, P.mono k⟩
section
variable {κ : Ks} {B : Tb} {ct : Ct} {n : Nat} {k : Cc} {X : Cx} {W : WX} {G : PG}
theorem evalT_def {c : E} {τ : Frame} {h : AH} : evalT G c τ h = (evalE G c τ h).bind fun x h1 => match truth x h1 with | some b => Res.ok b h1 | none => .bad := rfl
/-- a test through one operation that gives a bool -/
theorem rd1T {o : AV → AH → Option (AV × AH)} {a : E} {c : E} (hc : ∀ τ h, evalE G c τ h = (evalE G a τ h).bind fun x h1 => ofO (o x h1)) (hb : ∀ x h v h1, o x h = some (v, h1) → ∃ b, v = .bl b ∧ h1 = h) {σ : L2.St} {H : Hp} {Q : Bool → Hp → Prop}
    (q : RdT κ W (evalT G c) σ H Q) : Rd κ W (evalE G a) σ H fun x H1 => R1of κ o x H1 fun z H3 => ∃ t, z = .bl t ∧ Q t H3 := by
  obtain ⟨ι, τ, h0, R, S, P⟩ := q
  rw [evalT_def, hc, Res.bind_bind] at P
  refine RdG.step R S P fun ι1 h1 H1 x v S1 rs r q => ⟨ι1, h1, x, S1.rep, r, ?_⟩
  cases e : o x h1 with
  | none => rw [e] at q; exact q.elim
  | some z =>
    obtain ⟨z, h3⟩ := z
    obtain ⟨t, rfl, rfl⟩ := hb _ _ _ _ e
    rw [e] at q
    intro ι' H' w S3 r3
    exact ⟨t, r3, q ι' H' t S3 rfl⟩
theorem isNonA_rel {ι : Io} {m : Nat} {a : AV} {x : V} {H : Hp} (ra : RV κ H ι m a x) : isNonA a = decide (x = .non) := by
  cases a with
  | non => obtain rfl : x = .non := ra; rfl
  | bl b => obtain rfl : x = .bl b := ra; rfl
  | int b => obtain rfl : x = .int b := ra; rfl
  | str b => obtain rfl : x = .str b := ra; rfl
  | ref b => obtain ⟨_, rfl⟩ := ra; rfl
  | tup b => obtain ⟨_, _, rfl, _⟩ := ra; rfl
  | frl b => obtain ⟨_, rfl, _⟩ := ra; rfl
  | xcp c ks xs => obtain ⟨_, _, _, _, rfl, _⟩ := ra; rfl
theorem R1of.isN {G : PG} {x : V} {H : Hp} {Q : VK} (q : R1of κ (o1S G .isN) x H Q) : Q (.bl (decide (x = .non))) H := by
  obtain ⟨ι, h, a, R, ra, P⟩ := q
  rw [← isNonA_rel ra]
  exact PostO.same (x := .bl (isNonA a)) R P rfl
theorem R1of.notN {G : PG} {x : V} {H : Hp} {Q : VK} (q : R1of κ (o1S G .notN) x H Q) : Q (.bl (!decide (x = .non))) H := by
  obtain ⟨ι, h, a, R, ra, P⟩ := q
  rw [← isNonA_rel ra]
  exact PostO.same (x := .bl (!isNonA a)) R P rfl
theorem snd_isN {a : E} {a' : Expr} {j : Nat} {p q : Pos} (ha : Snd κ G X W a a') : Snd κ G X W (.o1 .isN a) (.Compare a' [.Is] [.Constant .none j q] p) where
  pe := PE.imp (fun σ H Q q => (rd1 (o := o1S G .isN) q).imp_ fun x H1 q => ⟨rfl, q.isN⟩) (pe_cmpR op_isN ha.pe pe_non rfl)
  pt := fun _ => PT.imp (fun σ H Q q => (rd1T (c := .o1 .isN a) (o := o1S G .isN) (fun _ _ => rfl) (fun x h v h1 e => by cases e; exact ⟨_, rfl, rfl⟩) q).imp_ fun x H1 q => ⟨rfl, q.isN⟩) (pt_cmpR op_isN ha.pe pe_non rfl)
  pw := fun _ _ _ e => by cases e
theorem snd_notN {a : E} {a' : Expr} {j : Nat} {p q : Pos} (ha : Snd κ G X W a a') : Snd κ G X W (.o1 .notN a) (.Compare a' [.IsNot] [.Constant .none j q] p) where
  pe := PE.imp (fun σ H Q q => (rd1 (o := o1S G .notN) q).imp_ fun x H1 q => ⟨rfl, q.notN⟩) (pe_cmpR op_notN ha.pe pe_non rfl)
  pt := fun _ => PT.imp (fun σ H Q q => (rd1T (c := .o1 .notN a) (o := o1S G .notN) (fun _ _ => rfl) (fun x h v h1 e => by cases e; exact ⟨_, rfl, rfl⟩) q).imp_ fun x H1 q => ⟨rfl, q.notN⟩) (pt_cmpR op_notN ha.pe pe_non rfl)
  pw := fun _ _ _ e => by cases e

theorem snd_neg (C : Cok κ B ct n k X W) {a : E} {a' : Expr} {p : Pos} (ha : Snd κ G X W a a') : Snd κ G X W (.o1 .neg a) (.UnaryOp .USub a' p) :=
  Snd.plain C.hK (PE.imp (fun σ H Q q => rd1 (o := o1S G .neg) q) (pe_un ok_neg ha.pe)) rfl
theorem snd_not (C : Cok κ B ct n k X W) {a : E} {a' : Expr} {p : Pos} (ht : testable a' = true) (ha : Snd κ G X W a a') : Snd κ G X W (.o1 .not a) (.UnaryOp .Not a' p) where
  pe := by
    refine PE.imp (fun σ H Q q => ?_) (pe_notT ha.pe)
    refine (rd1 (o := o1S G .not) q).imp_ fun x H1 ⟨ι, h, v, R, rv, P⟩ => ?_
    unfold o1S at P
    dsimp only at P
    cases e : truth v h with
    | none => rw [e] at P; exact P.elim
    | some b =>
      rw [e] at P
      exact ⟨b, C.hK ▸ truth_ok R rv e, PostO.same (x := .bl (!b)) R P rfl⟩
  pt := fun _ => by
    refine PT.imp (fun σ H Q q => ?_) (pt_not (ha.pt ht))
    obtain ⟨ι, τ, h0, R, S, P⟩ := q
    refine ⟨ι, τ, h0, R, S, ?_⟩
    rw [evalT_def] at P ⊢
    have P : Post κ RB W σ ι h0 H (((evalE G a τ h0).bind fun x h1 => ofO (o1S G .not x h1)).bind fun x h1 => match truth x h1 with | some b => Res.ok b h1 | none => .bad) Q := P
    rw [Res.bind_bind] at P
    cases e : evalE G a τ h0 with
    | ok x h1 =>
      rw [e] at P
      simp only [Res.bind_ok, o1S] at P ⊢
      cases et : truth x h1 with
      | none => rw [et] at P; exact P.elim
      | some b =>
        rw [et] at P
        intro ι' H' c S' r
        obtain rfl : b = c := r
        exact P ι' H' (!b) S' rfl
    | exc c fs h1 => rw [e] at P; exact P
    | bad => rw [e] at P; exact P
  pw := fun _ _ _ e => by cases e
theorem attr_base {o : Expr} (h : notCl o = true) (m : Str) (env : Env) (w : Sem Value) : attributeBase o m env w = w := by
  cases o <;> first | rfl | cases h
theorem snd_fld (C : Cok κ B ct n k X W) {f : Nat} {a : E} {a' : Expr} {x : Str} {p : Pos} (hf : ct.att.lookup x = some f) (hn : notCl a' = true) (hG : G.fa = B.fa) (hG2 : G.fx = B.fx) (ha : Snd κ G X W a a') : Snd κ G X W (.o1 (.fld f) a) (.Attribute a' x p) := by
  refine Snd.plain C.hK ?_ rfl
  refine ⟨fun pins s σ H Q I q => ?_⟩
  refine attr_of (attr_base hn _ _ _) (thn (ha.pe.run pins s σ H _ I (rd1 (o := o1S G (.fld f)) q)) fun u s1 z => ?_)
  obtain ⟨v, H1, I1, ru, ι, h, y, R, rv, P⟩ := z
  have ord : PostO κ ι h H1 ((clsOf h y).bind fun p => if G.fa p.1 f then (p.2.lookup f).map fun x => (x, h) else none) Q → wpAny (model X.prog X.w) X.A (getAttr u x true) (EP X pins σ Q) X.xe s1 := by
    intro P1
    cases e : clsOf h y with
    | none => rw [e] at P1; exact P1.elim
    | some cf =>
      obtain ⟨c, fs⟩ := cf
      rw [e, Option.bind_some] at P1
      dsimp only at P1
      split at P1
      · rename_i hfa
        rw [hG] at hfa
        cases el : fs.lookup f with
        | none => rw [el] at P1; exact P1.elim
        | some z =>
          rw [el] at P1
          obtain ⟨q, dx, ys, rfl, _, _, rfl, hq, rf⟩ := clsOf_ok R rv e
          obtain ⟨w, q1, q2⟩ := rf.lookup el
          obtain ⟨h1, h2⟩ := C.wc.fa c f hfa
          rw [C.wc.att x f hf] at h2 q1
          obtain rfl : u = Value.ref (ι q) := ru
          exact getattr_ok I1 hq h1 h2 q1 fun u' s2 I2 ru' => ⟨w, H1, I2, ru', PostO.same R P1 q2⟩
      · exact P1.elim
  cases y with
  | xcp c ks xs =>
    have P : PostO κ ι h H1 (if G.fx c f then ((ks.zip xs).lookup f).map fun x => (x, h) else none) Q := P
    split at P
    · rename_i hfx
      rw [hG2] at hfx
      cases el : (ks.zip xs).lookup f with
      | none => rw [el] at P; exact P.elim
      | some z =>
        rw [el] at P
        obtain ⟨T, no⟩ := C.wc.fx c f hfx
        have e := C.wc.att x f hf
        rw [← e]
        exact xcp_get I1 T no rv ru el fun w u' rw1 ru' => ⟨w, H1, I1.tok _, ru', PostO.same R P rw1⟩
    · exact P.elim
  | _ => exact ord P
theorem gl_of (C : Cok κ B ct n k X W) {x : Str} (h : glB k.sc x = true) : Gl X x ∧ (x == ("__debug__" : Str)) = false ∧ x ≠ "__name__" := by
  unfold glB dun at h
  simp only [Bool.and_eq_true, Bool.not_eq_true', Bool.or_eq_false_iff, decide_eq_false_iff_not] at h
  obtain ⟨h3, ⟨h4, h5⟩, h6⟩ := h
  refine ⟨?_, h4, h6⟩
  show X.env.scope.names.lookup x = _
  rw [C.sc]
  split at h3
  · assumption
  · cases h3
theorem mem_blt {ct : Ct} {x : Str} (h : ct.blt.contains x = true) : x ∈ ct.blt := by simpa using h
theorem star1 {e : Expr} {es : List Expr} {env : Env} (h : notStar e = true) : starEach (e :: es) env = (false, eval e env) :: starEach es env := by
  cases e <;> first | rfl | cases h
/-- a built-in function of one value -/
theorem pe_b1 {x : Str} {id : String} {o : O1} {a : E} {a' : Expr} {p q : Pos} (C : Cok κ B ct n k X W) (hc : CallR X (.builtin id) (C1of κ (o1S G o))) (hg : glB k.sc x = true) (hx : ct.blt.contains x = true) (hs : notStar a' = true) (hv : bootBuiltins x = some (.builtin id)) (ha : Snd κ G X W a a') :
    Snd κ G X W (.o1 o a) (.Call (.Name x p) [a'] [] q) := by
  obtain ⟨g1, g2, g3⟩ := gl_of C hg
  refine Snd.plain C.hK ?_ rfl
  exact PE.imp (fun σ H Q q => (rd1 (o := o1S G o) q).imp_ fun v H1 r => ⟨v, rfl, r⟩) (pe_callB hc g1 (C.wc.blt x (mem_blt hx)) hv (pa_cons ha.pe pa_nil (star1 hs)) g3 g2 (star1 hs) rfl)
theorem pe_t1 {x : Str} {id : String} {o : O1} {a : E} {a' : Expr} {p q : Pos} (C : Cok κ B ct n k X W) (hc : CallR X (.type id) (C1of κ (o1S G o))) (hg : glB k.sc x = true) (hx : ct.blt.contains x = true) (hs : notStar a' = true) (hv : bootBuiltins x = some (.type id)) (ha : Snd κ G X W a a') :
    Snd κ G X W (.o1 o a) (.Call (.Name x p) [a'] [] q) := by
  obtain ⟨g1, g2, g3⟩ := gl_of C hg
  refine Snd.plain C.hK ?_ rfl
  exact PE.imp (fun σ H Q q => (rd1 (o := o1S G o) q).imp_ fun v H1 r => ⟨v, rfl, r⟩) (pe_callTy hc g1 (C.wc.blt x (mem_blt hx)) hv (pa_cons ha.pe pa_nil (star1 hs)) g3 g2 (star1 hs) rfl)
theorem snd_b1 (C : Cok κ B ct n k X W) {x : Str} {o : O1} {a : E} {a' : Expr} {p q : Pos} (ho : bl1 o = some x) (hc : cool o = true ∨ X.calm = true) (hg : glB k.sc x = true) (hx : ct.blt.contains x = true) (hs : notStar a' = true) (ha : Snd κ G X W a a') : Snd κ G X W (.o1 o a) (.Call (.Name x p) [a'] [] q) := by
  cases o <;> first | cases ho | skip
  · exact pe_b1 C (ok_len C.hK) hg hx hs (by decide +kernel) ha
  · exact pe_t1 C (ok_list C.hK (hc.resolve_left (fun z => (nomatch z)))) hg hx hs (by decide +kernel) ha
  · exact pe_t1 C (ok_tuple C.hK) hg hx hs (by decide +kernel) ha
  · exact pe_t1 C ok_int hg hx hs (by decide +kernel) ha
  · exact pe_b1 C ok_abs hg hx hs (by decide +kernel) ha
  · exact pe_b1 C (ok_all C.hK (hc.resolve_left (fun z => (nomatch z)))) hg hx hs (by decide +kernel) ha
  · exact pe_b1 C (ok_any C.hK (hc.resolve_left (fun z => (nomatch z)))) hg hx hs (by decide +kernel) ha
  · exact pe_b1 C (ok_sum C.hK (hc.resolve_left (fun z => (nomatch z)))) hg hx hs (by decide +kernel) ha
  · exact pe_b1 C (ok_sorted C.hK) hg hx hs (by decide +kernel) ha
  · exact pe_b1 C (ok_repr C.hK C.gd C.un) hg hx hs (by decide +kernel) ha
theorem snd_b2 (C : Cok κ B ct n k X W) (hc : X.calm = true) {x : Str} {o : O2} {a b : E} {a' b' : Expr} {p q : Pos} (ho : bl2 o = some x) (hg : glB k.sc x = true) (hx : ct.blt.contains x = true) (hs : notStar a' = true) (hs2 : notStar b' = true) (ha : Snd κ G X W a a') (hb : Snd κ G X W b b') : Snd κ G X W (.o2 o a b) (.Call (.Name x p) [a', b'] [] q) := by
  obtain ⟨g1, g2, g3⟩ := gl_of C hg
  have go : ∀ {id : String}, CallR X (.builtin id) (C2of κ (o2S o)) → bootBuiltins x = some (.builtin id) → Snd κ G X W (.o2 o a b) (.Call (.Name x p) [a', b'] [] q) := fun {id} hc hv => by
    refine Snd.plain C.hK ?_ rfl
    exact PE.imp (fun σ H Q q => (rd2 q).imp_ fun v H1 r => RdG.imp_ r fun u H2 r => ⟨v, u, rfl, r⟩) (pe_callB hc g1 (C.wc.blt x (mem_blt hx)) hv (pa_cons ha.pe (pa_cons hb.pe pa_nil (star1 hs2)) (star1 hs)) g3 g2 (star1 hs) (by rw [star1 hs2]; rfl))
  cases o <;> first | cases ho | skip
  · exact go (ok_max hc) (by decide +kernel)
  · exact go (ok_min hc) (by decide +kernel)
theorem snd_ix (C : Cok κ B ct n k X W) {a b : E} {a' b' : Expr} {p : Pos} (hs : notSl b' = true) (ha : Snd κ G X W a a') (hb : Snd κ G X W b b') : Snd κ G X W (.o2 .ix a b) (.Subscript a' b' p) := by
  refine Snd.plain C.hK ?_ rfl
  refine PE.imp (fun σ H Q q => rd2 q) (pe_ix (ok_ix C.hK (by have := C.un; omega)) ha.pe hb.pe ?_)
  cases b' <;> first | (intro _ _; rfl) | cases hs
theorem snd_chn (C : Cok κ B ct n k X W) {o o' : O2} {a b d : E} {a' b' d' : Expr} {op op' : CmpOp} {p : Pos} (hc1 : cmpB op o = true) (hc2 : cmpB op' o' = true) (hb' : notSet b' = true) (hd' : notSet d' = true) (ha : Snd κ G X W a a') (hb : Snd κ G X W b b') (hd : Snd κ G X W d d') :
    Snd κ G X W (.chn o o' a b d) (.Compare a' [op, op'] [b', d'] p) := by
  have hm : lastMarks [op, op'] [b', d'] = false := marks op' hd'
  have core : ∀ {γ δ : Type} {R' : Hp → Io → Nat → γ → δ → Prop} (fin : AV → AH → Res γ) (Q1 : V → Hp → Prop) (Qd : δ → Hp → Prop) (σ : L2.St) (H : Hp),
      (∀ ι h H x v, Rep κ ι h H → RV κ H ι h.n x v → Post κ R' W σ ι h H (fin x h) Qd → (∃ b, x = .bl b) → Q1 v H) →
      RdG κ R' W (fun τ h => (evalE G (.chn o o' a b d) τ h).bind fin) σ H Qd → tChain (R2of κ (o2S o)) (R2of κ (o2S o')) (Rd κ W (evalE G a)) (Rd κ W (evalE G b)) (Rd κ W (evalE G d)) σ H Q1 := by
    intro γ δ R' fin Q1 Qd σ H hfin q
    obtain ⟨ι, τ, h0, R, S, P⟩ := q
    have P : Post κ R' W σ ι h0 H (((evalE G a τ h0).bind fun x h1 => (evalE G b τ h1).bind fun y h2 => (ofO (o2S o x y h2)).bind fun r h3 => match r with
      | .bl true => (evalE G d τ h3).bind fun z h4 => ofO (o2S o' y z h4)
      | .bl false => .ok (.bl false) h3
      | _ => .bad).bind fin) Qd := P
    rw [Res.bind_bind] at P
    refine RdG.step R S P fun ι1 h1 H1 x v S1 rs r q => ?_
    rw [Res.bind_bind] at q
    refine RdG.step S1.rep rs q fun ι2 h2 H2 y u S2 rs2 r2 q2 => ⟨ι2, h2, x, y, S2.rep, S2.val S1.rep r, r2, ?_⟩
    cases e : o2S o x y h2 with
    | none => rw [e] at q2; exact q2.elim
    | some z =>
      obtain ⟨z, h3⟩ := z
      obtain ⟨t, rfl, rfl⟩ := cmp_bool hc1 e
      rw [e] at q2
      intro ι' H' w S3 r3
      refine ⟨t, r3, ?_⟩
      have q3 := Post.pre q2 S3
      cases t with
      | false => exact hfin _ _ _ _ _ S3.rep (show RV κ H' ι' _ (.bl false) (.bl false) from rfl) q3 ⟨_, rfl⟩
      | true =>
        simp only [ofO_some, Res.bind_ok] at q3
        rw [Res.bind_bind] at q3
        refine RdG.step S3.rep (S3.slots S2.rep rs2) q3 fun ι4 h4 H4 z w4 S4 rs4 r4 q4 => ⟨ι4, h4, y, z, S4.rep, S4.val S3.rep (S3.val S2.rep r2), r4, ?_⟩
        cases e' : o2S o' y z h4 with
        | none => rw [e'] at q4; exact q4.elim
        | some z2 =>
          obtain ⟨z2, h5⟩ := z2
          obtain ⟨t2, rfl, rfl⟩ := cmp_bool hc2 e'
          rw [e'] at q4
          intro ι5 H5 w5 S5 r5
          exact hfin _ _ _ _ _ S5.rep r5 (Post.pre q4 S5) ⟨_, rfl⟩
  refine ⟨?_, fun _ => ?_, fun _ _ _ e => by cases e⟩
  · refine PE.imp (fun σ H Q q => ?_) (pe_chain (cmp_rule C hc1) (cmp_rule C hc2) ha.pe hb.pe hd.pe hm)
    refine core (R' := RV κ) (fun x h => .ok x h) Q Q σ H (fun ι h H x v R r P _ => P ι H v (Stp.refl R) r) ?_
    obtain ⟨ι, τ, h0, R, S, P⟩ := q
    refine ⟨ι, τ, h0, R, S, ?_⟩
    have e : ∀ r : Res AV, r.bind (fun x h => .ok x h) = r := fun r => by cases r <;> rfl
    show Post κ (RV κ) W σ ι h0 H ((evalE G (.chn o o' a b d) τ h0).bind fun x h => .ok x h) Q
    rw [e]
    exact P
  · refine PT.imp (fun σ H Q q => ?_) (pt_chain (cmp_rule C hc1) (cmp_rule C hc2) ha.pe hb.pe hd.pe hm)
    refine core (R' := RB) (fun x h1 => match truth x h1 with | some b => Res.ok b h1 | none => .bad) _ Q σ H (fun ι h H x v R r P ⟨b, e⟩ => ?_) q
    subst e
    obtain rfl : v = .bl b := r
    exact ⟨b, rfl, P ι H b (Stp.refl R) rfl⟩
end
end Mi
set_option Elab.async false
set_option maxRecDepth 100000
set_option maxHeartbeats 4000000
/-! MiSnd3: isinstance, and, or, displays, calls. -/
namespace Mi
open PySem L2 PySem.Spec PyProof.Rows
section
variable {κ : Ks} {B : Tb} {ct : Ct} {n : Nat} {k : Cc} {X : Cx} {W : WX} {G : PG}
/-- the class of a value -/
theorem ty_of {ι : Io} {h : AH} {H : Hp} {a : AV} {x : V} (R : Rep κ ι h H) (ra : RV κ H ι h.n a x) :
    (∃ t, TyX κ.K H x (.type (btS t)) ∧ clsOf h a = none ∧ (∀ c ks xs, a ≠ .xcp c ks xs) ∧ ∀ kd, isK h a kd = btK t kd) ∨
    (∃ c fs p dx ys, clsOf h a = some (c, fs) ∧ x = .ref p ∧ H p = some (.ins (κ.C c) dx ys) ∧ (∀ c ks xs, a ≠ .xcp c ks xs) ∧ ∀ kd, isK h a kd = (match kd with | .kcls d => c == d | _ => false)) ∨ ∃ c ks xs, a = .xcp c ks xs := by
  cases a with
  | non => obtain rfl : x = .non := ra; exact .inl ⟨.tn, .base .non, rfl, (fun _ _ _ z => nomatch z), fun kd => by cases kd <;> rfl⟩
  | bl b => obtain rfl : x = .bl b := ra; exact .inl ⟨.tb, .base (.bl b), rfl, (fun _ _ _ z => nomatch z), fun kd => by cases kd <;> rfl⟩
  | int b => obtain rfl : x = .int b := ra; exact .inl ⟨.ti, .base (.int b), rfl, (fun _ _ _ z => nomatch z), fun kd => by cases kd <;> rfl⟩
  | str b => obtain rfl : x = .str b := ra; exact .inl ⟨.ts, .base (.str b), rfl, (fun _ _ _ z => nomatch z), fun kd => by cases kd <;> rfl⟩
  | tup xs =>
    obtain ⟨p, ys, rfl, _, q⟩ := ra
    refine .inl ⟨.tt, ?_, rfl, (fun _ _ _ z => nomatch z), fun kd => by cases kd <;> rfl⟩
    rcases q with q | ⟨_, o, m, q1, q2, _⟩
    · exact .base (.tup q)
    · exact .kTuple q1 q2
  | frl ns =>
    obtain ⟨p, rfl, q⟩ := ra
    refine .inl ⟨.tl, ?_, rfl, (fun _ _ _ z => nomatch z), fun kd => by cases kd <;> rfl⟩
    rcases q with ⟨o, q⟩ | ⟨o, its, m, q1, q2, _⟩
    · exact .base (.frz q)
    · exact .kList q1 q2
  | xcp c ks xs => exact .inr (.inr ⟨c, ks, xs, rfl⟩)
  | ref p =>
    obtain ⟨l, rfl⟩ := ra
    have e := AH.get_of l
    have r := R.ob p l
    cases eo : h.m p with
    | lst xs =>
      rw [eo] at e r
      obtain ⟨ys, q, _⟩ := r
      refine .inl ⟨.tl, .base (.lst q), by unfold clsOf; simp only [e], (fun _ _ _ z => nomatch z), fun kd => ?_⟩
      cases kd <;> first | rfl | (unfold isK Mi.rdL; simp only [e]; rfl) | (unfold isK clsOf; simp only [e]; rfl)
    | dK xs =>
      rw [eo] at e r
      obtain ⟨ys, q, _⟩ := r
      refine .inl ⟨.td, .base (.dK q), by unfold clsOf; simp only [e], (fun _ _ _ z => nomatch z), fun kd => ?_⟩
      cases kd <;> first | rfl | (unfold isK Mi.rdL; simp only [e]; rfl) | (unfold isK clsOf; simp only [e]; rfl)
    | dT xs =>
      rw [eo] at e r
      obtain ⟨ys, q, _⟩ := r
      refine .inl ⟨.td, .base (.dT q), by unfold clsOf; simp only [e], (fun _ _ _ z => nomatch z), fun kd => ?_⟩
      cases kd <;> first | rfl | (unfold isK Mi.rdL; simp only [e]; rfl) | (unfold isK clsOf; simp only [e]; rfl)
    | ins c fs =>
      rw [eo] at e r
      obtain ⟨dx, ys, q, _⟩ := r
      refine .inr (.inl ⟨c, fs, _, dx, ys, by unfold clsOf; simp only [e], rfl, q, (fun _ _ _ z => nomatch z), fun kd => ?_⟩)
      cases kd <;> first | rfl | (unfold isK Mi.rdL; simp only [e]; rfl) | (unfold isK clsOf; simp only [e]; exact Bool.beq_comm)
/-- isinstance asks x rightly: its class is t -/
def KitV (X : Cx) (H : Hp) (x : V) (t : Value) : Prop := ∀ (pins : List (Addr × Obj)) (s : Shared) (σ : L2.St) (u : Value), L2.Inv X pins σ H s → RelV x u → ∃ P : Heap → Prop, PySem.W.KitX X.K u t P ∧ P s.heap ∧ u ≠ .builtin "__main__.__loader__#opaque"
theorem KitV.ty {H : Hp} {x : V} {t : Value} (h : TyX X.K H x t) : KitV X H x t := fun _ _ _ _ I r => kit_of I r h
theorem KitV.xcp {ι : Io} {m c : Nat} {ks : List Nat} {xs : List AV} {H : Hp} {v : V} (T : ExcC X.K (κ.C c)) (r : RV κ H ι m (.xcp c ks xs) v) : KitV X H v (.ref (κ.C c)) := fun pins s σ u I ru => by
  obtain ⟨a, oe, od, mA, ys, rfl, J, _⟩ := xcp_at I r
  obtain rfl : u = Value.ref a := ru
  exact ⟨_, kitx_exc T, J, fun z => nomatch z⟩
def rIs1 (X : Cx) : List V → Hp → VK → Prop := fun xs H Q => ∃ (x c : V) (t u : Value) (b : Bool), xs = [x, c] ∧ ClsV c u ∧ KitV X H x t ∧ PySem.W.kitOne X.K t u = some b ∧ Q (.bl b) H
def rIsN (X : Cx) : List V → Hp → VK → Prop := fun xs H Q => ∃ (x : V) (tp : Addr) (cs : List V) (t : Value) (us : List Value) (b : Bool), xs = [x, .ref tp] ∧ H tp = some (.tup cs) ∧ Paired ClsV cs us ∧ KitV X H x t ∧ PySem.W.kitAny X.K t us = some b ∧ Q (.bl b) H
theorem call_is1 : CallR X (.builtin "isinstance") (rIs1 X) := fun pins s σ H xs us Q I r ⟨x, c, t, u, b, ex, k, ty, e, q⟩ => by
  subst ex
  obtain ⟨u1, u2, rfl, r1, r2⟩ := vals2 r
  obtain rfl := k.eq r2
  obtain ⟨P, Z, p, hx⟩ := ty pins s σ u1 I r1
  exact PySem.W.kia_one Z I.kIn p e hx fun tk => ⟨.bl b, H, I.tok tk, rfl, q⟩
theorem call_isN : CallR X (.builtin "isinstance") (rIsN X) := fun pins s σ H xs us Q I r ⟨x, tp, cs, t, ws, b, ex, hT, k, ty, e, q⟩ => by
  subst ex
  obtain ⟨u1, u2, rfl, r1, r2⟩ := vals2 r
  obtain rfl : u2 = Value.ref tp := r2
  obtain ⟨P, Z, p, hx⟩ := ty pins s σ u1 I r1
  have lies : ObjOk X.prog X.w H s.heap tp (.tup cs) := I.hok tp _ hT
  obtain ⟨_, its, rv, ⟨oc, od, dt, sl⟩, h1, h2, m, h3⟩ := lies
  obtain rfl := ClsV.all k rv
  simp only at h2 h3
  subst h2 h3
  exact PySem.W.kia_tup Z I.kIn p h1 e hx fun tk => ⟨.bl b, H, I.tok tk, rfl, q⟩
/-- what isinstance says of a value -/
theorem isi_ok (C : Cok κ B ct n k X W) (hG : G.ic = B.ic) (hG2 : G.ex = B.ex) (hG3 : G.sub = B.sub) {ks : List KD} {x : V} {H : Hp} {Q : VK} (hk : ∀ kd ∈ ks, ∀ c, kd = .kcls c → ∃ y, ct.cls.lookup y = some c) (q : R1of κ (o1S G (.isi ks)) x H Q) :
    ∃ t b, KitV X H x t ∧ (∀ kd ∈ ks, ∃ b', PySem.W.kitOne X.K t (kdU κ kd) = some b') ∧ PySem.W.kitAny X.K t (ks.map (kdU κ)) = some b ∧ Q (.bl b) H := by
  obtain ⟨ι, h, a, R, ra, P⟩ := q
  have any : ∀ (t : Value) (g : KD → Bool) (l : List KD), (∀ kd ∈ l, PySem.W.kitOne X.K t (kdU κ kd) = some (g kd)) → PySem.W.kitAny X.K t (l.map (kdU κ)) = some (l.any g) := by
    intro t g l
    induction l with
    | nil => intro _; rfl
    | cons kd l ih =>
      intro hh
      have h1 := hh kd (List.mem_cons_self ..)
      have h2 := ih fun k' hk' => hh k' (List.mem_cons_of_mem _ hk')
      show PySem.W.kitAny X.K t (kdU κ kd :: l.map (kdU κ)) = _
      unfold PySem.W.kitAny
      rw [h1, List.any_cons]
      cases g kd with
      | true => rfl
      | false => exact h2
  have plain : (∀ c ks' xs, a ≠ .xcp c ks' xs) → o1S G (.isi ks) a h = (match clsOf h a with
      | some (c, _) => if G.ic c then some (.bl (ks.any (isK h a)), h) else none
      | none => some (.bl (ks.any (isK h a)), h)) := by
    intro z
    cases a <;> first | rfl | exact absurd rfl (z _ _ _)
  rcases ty_of R ra with ⟨t, ty, e, nx, hi⟩ | ⟨c, fs, p, dx, ys, e, rfl, hq, nx, hi⟩ | ⟨c, ks', xs, rfl⟩
  · rw [plain nx, e] at P
    dsimp only at P
    have hh : ∀ kd ∈ ks, PySem.W.kitOne X.K (.type (btS t)) (kdU κ kd) = some (isK h a kd) := fun kd hm => by rw [hi]; exact C.wc.kB t kd (hk kd hm)
    exact ⟨_, ks.any (isK h a), KitV.ty (C.hK ▸ ty), fun kd hm => ⟨_, hh kd hm⟩, any _ _ ks hh, PostO.same (x := .bl _) R P rfl⟩
  · rw [plain nx, e] at P
    dsimp only at P
    split at P
    · rename_i hc
      rw [hG] at hc
      obtain ⟨z1, z2, z3, z4, z5⟩ := C.wc.ic c hc
      have hh : ∀ kd ∈ ks, PySem.W.kitOne X.K (.ref (κ.C c)) (kdU κ kd) = some (isK h a kd) := fun kd hm => by rw [hi]; exact C.wc.kC c kd hc (hk kd hm)
      exact ⟨_, ks.any (isK h a), KitV.ty (.base (.ins hq z1 z2 z3 z4 z5)), fun kd hm => ⟨_, hh kd hm⟩, any _ _ ks hh, PostO.same (x := .bl _) R P rfl⟩
    · exact P.elim
  · have P : PostO κ ι h H (if G.ex c then some (.bl (ks.any (isX G.sub c)), h) else none) Q := P
    split at P
    · rename_i hc
      rw [hG2] at hc
      rw [hG3] at P
      have hh : ∀ kd ∈ ks, PySem.W.kitOne X.K (.ref (κ.C c)) (kdU κ kd) = some (isX B.sub c kd) := fun kd hm => C.wc.kX c kd hc (hk kd hm)
      exact ⟨_, ks.any (isX B.sub c), KitV.xcp (C.wc.ex c hc) ra, fun kd hm => ⟨_, hh kd hm⟩, any _ _ ks hh, PostO.same (x := .bl _) R P rfl⟩
    · exact P.elim
theorem kd_cls {sc : Scope} {kd : KD} {e : Expr} (h : kdN ct sc kd e = true) : ∀ c, kd = .kcls c → ∃ y, ct.cls.lookup y = some c := fun c e1 => by
  subst e1
  unfold kdN at h
  split at h <;> first | cases h | skip
  all_goals first
    | (rename_i z; cases z; done)
    | skip
  rename_i i x p z
  cases z
  simp only [Bool.and_eq_true, decide_eq_true_eq] at h
  exact ⟨_, h.1⟩
theorem pe_kd (C : Cok κ B ct n k X W) {kd : KD} {x : Str} {p : Pos} (h : kdN ct k.sc kd (.Name x p) = true) : PE X (.Name x p) (tC (kdV κ kd)) := by
  have go : ∀ (y : Str) (t : String), x = y → glB k.sc x = true → ct.blt.contains x = true → bootBuiltins y = some (.type t) → PE X (.Name x p) (tC (.ty t)) := fun y t e hg hx hv => by
    subst e
    obtain ⟨g1, g2, g3⟩ := gl_of C hg
    exact pe_bltn g1 (C.wc.blt x (mem_blt hx)) hv rfl g3 g2
  unfold kdN at h
  split at h
  · rename_i e; cases e
    simp only [Bool.and_eq_true, decide_eq_true_eq] at h
    exact go _ _ h.1.1 h.1.2 h.2 (by decide +kernel)
  · rename_i e; cases e
    simp only [Bool.and_eq_true, decide_eq_true_eq] at h
    exact go _ _ h.1.1 h.1.2 h.2 (by decide +kernel)
  · rename_i e; cases e
    simp only [Bool.and_eq_true, decide_eq_true_eq] at h
    exact go _ _ h.1.1 h.1.2 h.2 (by decide +kernel)
  · rename_i e; cases e
    simp only [Bool.and_eq_true, decide_eq_true_eq] at h
    exact go _ _ h.1.1 h.1.2 h.2 (by decide +kernel)
  · rename_i e; cases e
    simp only [Bool.and_eq_true, decide_eq_true_eq] at h
    exact go _ _ h.1.1 h.1.2 h.2 (by decide +kernel)
  · rename_i e; cases e
    simp only [Bool.and_eq_true, decide_eq_true_eq] at h
    exact go _ _ h.1.1 h.1.2 h.2 (by decide +kernel)
  · rename_i e; cases e
    simp only [Bool.and_eq_true, decide_eq_true_eq] at h
    obtain ⟨g1, g2, g3⟩ := gl_of C h.2
    exact pe_glob g1 (C.wc.cls x _ h.1) rfl g2
  · cases h
theorem kd_clsV (kd : KD) : ClsV (kdV κ kd) (kdU κ kd) := by cases kd <;> first | exact .ty _ | exact .own _
theorem kdNs_names {sc : Scope} : ∀ {ks : List KD} {es : List Expr}, kdNs ct sc ks es = true → ∀ kd ∈ ks, ∀ c, kd = .kcls c → ∃ y, ct.cls.lookup y = some c
  | [], _, _, kd, hm, _, _ => by cases hm
  | k' :: ks, [], h, _, _, _, _ => by cases h
  | k' :: ks, e :: es, h, kd, hm, c, e1 => by
    unfold kdNs at h
    simp only [Bool.and_eq_true] at h
    rcases List.mem_cons.mp hm with rfl | hm
    · exact kd_cls h.1 c e1
    · exact kdNs_names h.2 kd hm c e1
def tCs : List V → TA
  | [] => tNil
  | v :: vs => tCons (tC v) (tCs vs)
theorem tCs_run (vs : List V) {σ : L2.St} {H : Hp} {Q : List V → Hp → Prop} (q : Q vs H) : tCs vs σ H Q := by
  induction vs generalizing Q with
  | nil => exact q
  | cons v vs ih => exact ih q
theorem pa_kds (C : Cok κ B ct n k X W) : ∀ {ks : List KD} {es : List Expr}, kdNs ct k.sc ks es = true → PA X es (tCs (ks.map (kdV κ)))
  | [], [], _ => pa_nil
  | [], _ :: _, h => by cases h
  | _ :: _, [], h => by cases h
  | kd :: ks, e :: es, h => by
    unfold kdNs at h
    simp only [Bool.and_eq_true] at h
    have hn : ∃ x p, e = .Name x p := by
      have h1 := h.1
      unfold kdN at h1
      split at h1 <;> first | exact ⟨_, _, rfl⟩ | cases h1
    obtain ⟨x, p, rfl⟩ := hn
    exact pa_cons (pe_kd C h.1) (pa_kds C h.2) rfl
theorem paired_kd : ∀ ks : List KD, Paired ClsV (ks.map (kdV κ)) (ks.map (kdU κ))
  | [] => .nil
  | kd :: ks => .cons (kd_clsV kd) (paired_kd ks)
theorem snd_isi (C : Cok κ B ct n k X W) (hG : G.ic = B.ic) (hG2 : G.ex = B.ex) (hG3 : G.sub = B.sub) {ks : List KD} {a : E} {a' t : Expr} {x : Str} {p q : Pos} (hx0 : x = "isinstance") (hg : glB k.sc x = true) (hx : ct.blt.contains x = true) (hs : notStar a' = true) (hst : notStar t = true)
    (ht : kdTy ct k.sc ks t = true) (ha : Snd κ G X W a a') : Snd κ G X W (.o1 (.isi ks) a) (.Call (.Name x p) [a', t] [] q) := by
  subst hx0
  obtain ⟨g1, g2, g3⟩ := gl_of C hg
  refine Snd.plain C.hK ?_ rfl
  have hv : bootBuiltins "isinstance" = some (.builtin "isinstance") := by decide +kernel
  have hcase : (∃ kd y p', ks = [kd] ∧ t = .Name y p' ∧ kdN ct k.sc kd (.Name y p') = true) ∨ ∃ es k' p', t = .Tuple es k' p' ∧ ks.length ≤ 100 ∧ kdNs ct k.sc ks es = true := by
    unfold kdTy at ht
    split at ht
    · exact .inl ⟨_, _, _, rfl, rfl, ht⟩
    · simp only [Bool.and_eq_true, decide_eq_true_eq] at ht
      exact .inr ⟨_, _, _, rfl, ht.1.2, ht.2⟩
    · cases ht
  rcases hcase with ⟨kd, y, p', rfl, rfl, ht⟩ | ⟨es, k', p', rfl, hl100, ht⟩
  · refine PE.imp (fun σ H Q q => ?_) (pe_callB call_is1 g1 (C.wc.blt _ (mem_blt hx)) hv (pa_cons ha.pe (pa_cons (pe_kd C ht) pa_nil (star1 hst)) (star1 hs)) g3 g2 (star1 hs) rfl)
    refine (rd1 (o := o1S G (.isi [kd])) q).imp_ fun v H1 q => ?_
    obtain ⟨t, b, ty, hone, hany, q⟩ := isi_ok C hG hG2 hG3 (fun k' hm => by rw [List.mem_singleton.mp hm]; exact kd_cls ht) q
    obtain ⟨b', hb'⟩ := hone kd (List.mem_singleton.mpr rfl)
    have e : b' = b := by
      have : PySem.W.kitAny X.K t [kdU κ kd] = some b := hany
      unfold PySem.W.kitAny at this
      rw [hb'] at this
      cases b' with
      | true => exact Option.some.inj this
      | false => exact Option.some.inj this
    subst e
    exact ⟨v, kdV κ kd, t, kdU κ kd, b', rfl, kd_clsV kd, ty, hb', q⟩
  · refine PE.imp (fun σ H Q q => ?_) (pe_callB call_isN g1 (C.wc.blt _ (mem_blt hx)) hv (pa_cons ha.pe (pa_cons (pe_tup (pa_kds C ht)) pa_nil (star1 hst)) (star1 hs)) g3 g2 (star1 hs) rfl)
    refine (rd1 (o := o1S G (.isi ks)) q).imp_ fun v H1 q => ?_
    refine tCs_run (ks.map (kdV κ)) ⟨?_, fun tp htp => ?_⟩
    · rw [List.length_map]
      exact Nat.le_trans hl100 (by decide)
    obtain ⟨ι, h, y, R, ra, P⟩ := q
    have S := R.side (o := .tup (ks.map (kdV κ))) htp
    have q2 : R1of κ (o1S G (.isi ks)) v (upd H1 tp (.tup (ks.map (kdV κ)))) Q := by
      refine ⟨ι, h, y, S.rep, S.val R ra, ?_⟩
      cases e : o1S G (.isi ks) y h with
      | none => rw [e] at P; exact P.elim
      | some z =>
        obtain ⟨z, h3⟩ := z
        rw [e] at P
        exact fun ι' H' w S' r => P ι' H' w (S.trans S') r
    obtain ⟨t, b, ty, _, hany, q⟩ := isi_ok C hG hG2 hG3 (kdNs_names ht) q2
    exact ⟨v, tp, _, t, _, b, rfl, upd_same, paired_kd ks, ty, hany, q⟩
end
end Mi
set_option Elab.async false
set_option maxRecDepth 100000
set_option maxHeartbeats 4000000
/-! MiSnd4: and, or, if, displays, calls of defs, methods, makers, methods of lists, slices. -/
namespace Mi
open PySem L2 PySem.Spec PyProof.Rows
theorem Post.any {κ : Ks} {α β : Type} {R : Hp → Io → Nat → α → β → Prop} {W : WX} {σ : L2.St} {ι : Io} {h : AH} {H : Hp} {r : Res α} {Q : β → Hp → Prop} (p : Post κ R W σ ι h H r Q) : Post κ R (fun cls d _ H => W cls d σ H) [] ι h H r Q := by
  cases r <;> exact p
section
variable {κ : Ks} {B : Tb} {ct : Ct} {n : Nat} {k : Cc} {X : Cx} {W : WX} {G : PG}
/-- the rest of a chain of and (or): one operand, or the chain -/
theorem rest_pe {op : BoolOp} {b : E} {b' : Expr} {r : List Expr} {p : Pos} (hb : (r = [] → Snd κ G X W b b') ∧ (r ≠ [] → Snd κ G X W b (.BoolOp op (b' :: r) p))) : PE X (.BoolOp op (b' :: r) p) (Rd κ W (evalE G b)) := by
  cases r with
  | nil => exact pe_one (hb.1 rfl).pe
  | cons e r => exact (hb.2 (by simp)).pe
theorem rest_pwA {b : E} {b' : Expr} {r : List Expr} {p : Pos} (ht : r = [] → testable b' = true) (hb : (r = [] → Snd κ G X W b b') ∧ (r ≠ [] → Snd κ G X W b (.BoolOp .And (b' :: r) p))) : PW X (.BoolOp .And (b' :: r) p) (RdT κ W (evalT G b)) := by
  cases r with
  | nil => exact pw_and1 ((hb.1 rfl).pt (ht rfl))
  | cons e r => exact (hb.2 (by simp)).pw _ _ _ rfl
theorem rest_pwO {b : E} {b' : Expr} {r : List Expr} {p : Pos} (ht : r = [] → testable b' = true) (hb : (r = [] → Snd κ G X W b b') ∧ (r ≠ [] → Snd κ G X W b (.BoolOp .Or (b' :: r) p))) : PW X (.BoolOp .Or (b' :: r) p) (RdT κ W (evalT G b)) := by
  cases r with
  | nil => exact pw_or1 ((hb.1 rfl).pt (ht rfl))
  | cons e r => exact (hb.2 (by simp)).pw _ _ _ rfl
/-- on with a test's answer -/
theorem Post.tru {R : Hp → Io → Nat → Bool → Bool → Prop} {σ : L2.St} {ι : Io} {h : AH} {H : Hp} {x : AV} {Q : Bool → Hp → Prop} {f : Bool → AH → Res Bool}
    (p : Post κ RB W σ ι h H ((match truth x h with | some b => Res.ok b h | none => .bad).bind f) Q) : ∃ b, truth x h = some b ∧ Post κ RB W σ ι h H (f b h) Q := by
  cases e : truth x h with
  | none => rw [e] at p; exact p.elim
  | some b => rw [e] at p; exact ⟨b, rfl, p⟩
theorem evalT_and {a b : E} {τ : Frame} {h : AH} : evalT G (.and_ a b) τ h = (evalT G a τ h).bind fun t h1 => if t = true then evalT G b τ h1 else .ok false h1 := by
  rw [evalT_def, evalT_def]
  show (((evalE G a τ h).bind fun x h1 => match truth x h1 with
      | some true => evalE G b τ h1
      | some false => .ok x h1
      | none => .bad).bind _) = _
  rw [Res.bind_bind, Res.bind_bind]
  congr 1
  funext x h1
  cases e : truth x h1 with
  | none => rfl
  | some t =>
    cases t with
    | true => simp only [Res.bind_ok, if_true]; rw [evalT_def]
    | false => simp only [Res.bind_ok, Bool.false_eq_true, if_false, e]
theorem evalT_or {a b : E} {τ : Frame} {h : AH} : evalT G (.or_ a b) τ h = (evalT G a τ h).bind fun t h1 => if t = true then .ok true h1 else evalT G b τ h1 := by
  rw [evalT_def, evalT_def]
  show (((evalE G a τ h).bind fun x h1 => match truth x h1 with
      | some true => .ok x h1
      | some false => evalE G b τ h1
      | none => .bad).bind _) = _
  rw [Res.bind_bind, Res.bind_bind]
  congr 1
  funext x h1
  cases e : truth x h1 with
  | none => rfl
  | some t =>
    cases t with
    | false => simp only [Res.bind_ok, Bool.false_eq_true, if_false]; rw [evalT_def]
    | true => simp only [Res.bind_ok, if_true, e]
/-- a value's truth, then one way or the other -/
theorem rd_split {a : E} {f g : AV → Frame → AH → Res AV} {σ : L2.St} {H : Hp} {Q : VK} {ι : Io} {τ : Frame} {h : AH} (hK : X.K = κ.K) (R : Rep κ ι h H) (S : RS κ H ι h.n τ σ)
    (P : Post κ (RV κ) W σ ι h H ((evalE G a τ h).bind fun x h1 => match truth x h1 with
      | some true => f x τ h1
      | some false => g x τ h1
      | none => .bad) Q) :
    Rd κ W (evalE G a) σ H fun v H1 => ∃ t, TruV X.K v H1 t ∧ ∃ ι1 h1 x, Rep κ ι1 h1 H1 ∧ RS κ H1 ι1 h1.n τ σ ∧ RV κ H1 ι1 h1.n x v ∧ Post κ (RV κ) W σ ι1 h1 H1 (if t = true then f x τ h1 else g x τ h1) Q := by
  refine RdG.step R S P fun ι1 h1 H1 x v S1 rs r q => ?_
  cases e : truth x h1 with
  | none => rw [e] at q; exact q.elim
  | some t =>
    rw [e] at q
    refine ⟨t, hK ▸ truth_ok S1.rep r e, ι1, h1, x, S1.rep, rs, r, ?_⟩
    cases t <;> exact q
theorem snd_and (C : Cok κ B ct n k X W) {a b : E} {a' b' : Expr} {r : List Expr} {p : Pos} (ha : Snd κ G X W a a') (hta : testable a' = true) (htb : r = [] → testable b' = true)
    (hb : (r = [] → Snd κ G X W b b') ∧ (r ≠ [] → Snd κ G X W b (.BoolOp .And (b' :: r) p))) : Snd κ G X W (.and_ a b) (.BoolOp .And (a' :: b' :: r) p) := by
  have hw : PW X (.BoolOp .And (a' :: b' :: r) p) (RdT κ W (evalT G (.and_ a b))) := by
    have base := pw_and (pos := p) (ha.pt hta) (rest_pwA htb hb)
    refine ⟨fun whole pins s σ H Q I q => base.run whole pins s σ H Q I ?_⟩
    obtain ⟨ι, τ, h0, R, S, P⟩ := q
    rw [evalT_and] at P
    refine RdG.step R S P fun ι1 h1 H1 t c S1 rs r q => ?_
    obtain rfl : t = c := r
    cases t with
    | true => exact iteT ⟨ι1, τ, h1, S1.rep, rs, q⟩
    | false => exact iteF (q ι1 H1 false (Stp.refl S1.rep) rfl)
  refine ⟨?_, fun _ => hw.pt, fun op vs q e => ?_⟩
  · refine PE.imp (fun σ H Q q => ?_) (pe_andT ha.pe (rest_pe hb))
    obtain ⟨ι, τ, h0, R, S, P⟩ := q
    refine (rd_split (X := X) (f := fun x τ h1 => evalE G b τ h1) (g := fun x τ h1 => .ok x h1) C.hK R S P).imp_ fun v H1 ⟨t, tr, ι1, h1, x, R1, S1, r, q⟩ => ⟨t, tr, ?_⟩
    cases t with
    | true => exact iteT ⟨ι1, τ, h1, R1, S1, q⟩
    | false => exact iteF (rd_ret R1 r q)
  · exact hw
theorem snd_or (C : Cok κ B ct n k X W) {a b : E} {a' b' : Expr} {r : List Expr} {p : Pos} (ha : Snd κ G X W a a') (hta : testable a' = true) (htb : r = [] → testable b' = true)
    (hb : (r = [] → Snd κ G X W b b') ∧ (r ≠ [] → Snd κ G X W b (.BoolOp .Or (b' :: r) p))) : Snd κ G X W (.or_ a b) (.BoolOp .Or (a' :: b' :: r) p) := by
  have hw : PW X (.BoolOp .Or (a' :: b' :: r) p) (RdT κ W (evalT G (.or_ a b))) := by
    have base := pw_or (pos := p) (ha.pt hta) (rest_pwO htb hb)
    refine ⟨fun whole pins s σ H Q I q => base.run whole pins s σ H Q I ?_⟩
    obtain ⟨ι, τ, h0, R, S, P⟩ := q
    rw [evalT_or] at P
    refine RdG.step R S P fun ι1 h1 H1 t c S1 rs r q => ?_
    obtain rfl : t = c := r
    cases t with
    | false => exact iteF ⟨ι1, τ, h1, S1.rep, rs, q⟩
    | true => exact iteT (q ι1 H1 true (Stp.refl S1.rep) rfl)
  refine ⟨?_, fun _ => hw.pt, fun op vs q e => ?_⟩
  · refine PE.imp (fun σ H Q q => ?_) (pe_orT ha.pe (rest_pe hb))
    obtain ⟨ι, τ, h0, R, S, P⟩ := q
    refine (rd_split (X := X) (f := fun x τ h1 => .ok x h1) (g := fun x τ h1 => evalE G b τ h1) C.hK R S P).imp_ fun v H1 ⟨t, tr, ι1, h1, x, R1, S1, r, q⟩ => ⟨t, tr, ?_⟩
    cases t with
    | false => exact iteF ⟨ι1, τ, h1, R1, S1, q⟩
    | true => exact iteT (rd_ret R1 r q)
  · exact hw
theorem snd_ife (C : Cok κ B ct n k X W) {t a b : E} {t' a' b' : Expr} {p : Pos} (ht : Snd κ G X W t t') (htt : testable t' = true) (ha : Snd κ G X W a a') (hb : Snd κ G X W b b') : PE X (.IfExp t' a' b' p) (Rd κ W (evalE G (.ife t a b))) := by
  refine PE.imp (fun σ H Q q => ?_) (pe_ifExp (ht.pt htt) ha.pe hb.pe)
  obtain ⟨ι, τ, h0, R, S, P⟩ := q
  have e : evalE G (.ife t a b) τ h0 = (evalT G t τ h0).bind fun c h1 => if c = true then evalE G a τ h1 else evalE G b τ h1 := by
    rw [evalT_def, Res.bind_bind]
    show ((evalE G t τ h0).bind fun x h1 => match truth x h1 with
      | some true => evalE G a τ h1
      | some false => evalE G b τ h1
      | none => .bad) = _
    congr 1
    funext x h1
    cases truth x h1 with
    | none => rfl
    | some c => cases c <;> rfl
  rw [e] at P
  refine RdG.step R S P fun ι1 h1 H1 c d S1 rs r q => ?_
  obtain rfl : c = d := r
  cases c with
  | true => exact iteT ⟨ι1, τ, h1, S1.rep, rs, q⟩
  | false => exact iteF ⟨ι1, τ, h1, S1.rep, rs, q⟩
/-! ### argument lists, displays -/
abbrev SndA (κ : Ks) (G : PG) (X : Cx) (W : WX) (c : Es) (es : List Expr) : Prop := PA X es (RdA κ W (evalEs G c))
theorem snd_nil : SndA κ G X W .nil [] := PA.imp (fun σ H Q ⟨ι, τ, h, R, S, P⟩ => P ι H [] (Stp.refl R) rfl) pa_nil
theorem snd_cons {e : E} {r : Es} {e' : Expr} {r' : List Expr} (hs : notStar e' = true) (he : Snd κ G X W e e') (hr : SndA κ G X W r r') : SndA κ G X W (.cons e r) (e' :: r') := by
  refine PA.imp (fun σ H Q q => ?_) (pa_cons he.pe hr (star1 hs))
  obtain ⟨ι, τ, h0, R, S, P⟩ := q
  have P : Post κ (RVs κ) W σ ι h0 H ((evalE G e τ h0).bind fun x h1 => (evalEs G r τ h1).bind fun xs h2 => .ok (x :: xs) h2) Q := P
  refine RdG.step R S P fun ι1 h1 H1 x v S1 rs r1 q => ?_
  refine RdG.step S1.rep rs q fun ι2 h2 H2 xs vs S2 rs2 r2 q2 => ?_
  exact q2 ι2 H2 (v :: vs) (Stp.refl S2.rep) ⟨v, vs, rfl, S2.val S1.rep r1, r2⟩
theorem snd_tup (C : Cok κ B ct n k X W) {as : Es} {es : List Expr} {j : Nat} {p : Pos} (ha : SndA κ G X W as es) : Snd κ G X W (.tup as) (.Tuple es j p) := by
  refine Snd.plain C.hK ?_ rfl
  refine PE.imp (fun σ H Q q => ?_) (pe_tup ha)
  obtain ⟨ι, τ, h0, R, S, P⟩ := q
  have P : Post κ (RV κ) W σ ι h0 H ((evalEs G as τ h0).bind fun vs h1 => if vs.length ≤ sizeLine then .ok (.tup vs) h1 else .bad) Q := P
  refine RdG.step R S P fun ι1 h1 H1 xs vs S1 rs r q => ?_
  split at q
  · rename_i hl
    exact ⟨by rw [← r.length]; exact hl, fun a ha => PostO.newT S1.rep (show PostO κ ι1 h1 H1 (some (.tup xs, h1)) Q from q) r ha⟩
  · exact q.elim
theorem snd_lst (C : Cok κ B ct n k X W) {as : Es} {es : List Expr} {p : Pos} (ha : SndA κ G X W as es) : Snd κ G X W (.lst as) (.List es p) := by
  refine Snd.plain C.hK ?_ rfl
  refine PE.imp (fun σ H Q q => ?_) (pe_lst ha)
  obtain ⟨ι, τ, h0, R, S, P⟩ := q
  have P : Post κ (RV κ) W σ ι h0 H ((evalEs G as τ h0).bind fun vs h1 => if vs.length ≤ sizeLine then .ok (.ref h1.n) (h1.push (.lst vs)) else .bad) Q := P
  refine RdG.step R S P fun ι1 h1 H1 xs vs S1 rs r q => ?_
  split at q
  · rename_i hl
    exact ⟨by rw [← r.length]; exact hl, fun a ha => PostO.newL S1.rep (show PostO κ ι1 h1 H1 (some (.ref h1.n, h1.push (.lst xs))) Q from q) r ha⟩
  · exact q.elim
theorem snd_dnew (C : Cok κ B ct n k X W) {t : Bool} {p : Pos} : Snd κ G X W (.dnew t) (.Dict [] [] p) := by
  refine Snd.plain C.hK ?_ rfl
  cases t with
  | false =>
    refine PE.imp (fun σ H Q q => ?_) pe_dnewK
    obtain ⟨ι, τ, h0, R, S, P⟩ := q
    have P : Post κ (RV κ) W σ ι h0 H (.ok (.ref h0.n) (h0.push (.dK []))) Q := P
    intro a ha
    exact P _ _ _ (R.push (o := .dK []) (ao := .dK []) ha ⟨[], upd_same, rfl⟩) ⟨Nat.lt_succ_self _, by rw [ext1_new]⟩
  | true =>
    refine PE.imp (fun σ H Q q => ?_) pe_dnewT
    obtain ⟨ι, τ, h0, R, S, P⟩ := q
    have P : Post κ (RV κ) W σ ι h0 H (.ok (.ref h0.n) (h0.push (.dT []))) Q := P
    intro a ha
    exact P _ _ _ (R.push (o := .dT []) (ao := .dT []) ha ⟨[], upd_same, rfl⟩) ⟨Nat.lt_succ_self _, by rw [ext1_new]⟩
/-! ### calls -/
theorem stars_of {k : Cc} : ∀ {as : Es} {es : List Expr}, chkEs ct k as es = true → es.all notStar = true
  | .nil, [], _ => rfl
  | .nil, _ :: _, h => by cases h
  | .cons e r, [], h => by cases h
  | .cons e r, e' :: r', h => by
    unfold chkEs at h
    simp only [Bool.and_eq_true] at h
    rw [List.all_cons, h.1.2, stars_of h.2]
    rfl
theorem star_any {es : List Expr} {pos : Pos} {env : Env} (h : es.all notStar = true) : (backTo pos (starEach es env)).any (·.1) = false := by
  induction es with
  | nil => rfl
  | cons e es ih =>
    rw [List.all_cons, Bool.and_eq_true] at h
    rw [star1 h.1]
    show (false || (backTo pos (starEach es env)).any (·.1)) = false
    rw [ih h.2]
    rfl
theorem star_all {es : List Expr} {pos : Pos} {env : Env} (h : es.all notStar = true) : (backTo pos (starEach es env)).all (fun x => !x.1) = true := by
  induction es with
  | nil => rfl
  | cons e es ih =>
    rw [List.all_cons, Bool.and_eq_true] at h
    rw [star1 h.1]
    show (true && (backTo pos (starEach es env)).all (fun x => !x.1)) = true
    rw [ih h.2]
    rfl
theorem run_at {m f : Nat} {a : Addr} {fd : FuncData} {ps : List Str} {pins : List (Addr × Obj)} {σ : L2.St} {H : Hp} {s : Shared} {Q : VK} {us : List Value} {vs : List V} (F : FnG X.prog X.w X.K X.mg X.base (L2.CX X.prog X.w) m a fd ps (SP κ B n f)) (gd : X.A.guards = some []) (hr : Room m X.A)
    (hb : Binds X.K fd ps []) (tk : Takes X W) (I : L2.Inv X pins σ H s) (r : Vals vs us) {ι : Io} {h : AH} {as : List AV} (R : Rep κ ι h H) (ra : RVs κ H ι h.n as vs) (P : Post κ (RV κ) W σ ι h H (Gam B n f as h) Q) :
    wpAny (model X.prog X.w) X.A (call (.ref a) us) (EP X pins σ Q) X.xe s := by
  exact run_fnG (E := WE W σ) F gd hr hb (passAt tk σ) I r ⟨ι, h, as, R, ra, P.any⟩
theorem snd_call (C : Cok κ B ct n k X W) (hc : k.hot = false) {f : Nat} {as : Es} {es : List Expr} {x : Str} {p q : Pos} (hf : ct.fns.lookup x = some f) (hg : glB k.sc x = true) (hs : es.all notStar = true) (he : es = [] → as = .nil) (hG : G.call = Gam B n) (hp : G.pln = B.pln) (ha : SndA κ G X W as es) :
    Snd κ G X W (.call f as) (.Call (.Name x p) es [] q) := by
  obtain ⟨g1, g2, g3⟩ := gl_of C hg
  obtain ⟨a, fd, ps, ⟨F, hb, _⟩, hm, hk⟩ := (C.wf hc).fnF x f hf
  refine Snd.plain C.hK ?_ rfl
  have hr : Room (2 * n + 2) X.A := (C.room hc).mono (by omega)
  refine ⟨fun pins s σ H Q I rd => ?_⟩
  refine wpAny_Call_Name_kw (ld_glob I g1 hm ?_ g2)
  obtain ⟨ι, τ, h0, R, S, P⟩ := rd
  have P : Post κ (RV κ) W σ ι h0 H (if G.pln f = true then (evalEs G as τ h0).bind fun vs h1 => G.call f vs h1 else .bad) Q := P
  split at P
  case isFalse => exact P.elim
  rename_i hpl
  rw [hp] at hpl
  have hb := hb hpl
  rw [hG] at P
  have args : RdA κ W (evalEs G as) σ H fun vs H1 => ∃ ι1 h1 xs, Rep κ ι1 h1 H1 ∧ RVs κ H1 ι1 h1.n xs vs ∧ Post κ (RV κ) W σ ι1 h1 H1 (Gam B n f xs h1) Q :=
    RdG.step R S P fun ι1 h1 H1 xs vs S1 rs r q => ⟨ι1, h1, xs, S1.rep, r, q⟩
  cases es with
  | nil =>
    obtain rfl : as = .nil := he rfl
    have P : Post κ (RV κ) W σ ι h0 H (Gam B n f [] h0) Q := P
    exact PySem.W.callWith_K0 I.kIn hk (run_at F C.gd hr hb C.tk I (us := []) (vs := []) .nil R (show RVs κ H ι h0.n [] [] from rfl) P)
  | cons e es =>
    have h1 := hs
    rw [List.all_cons, Bool.and_eq_true] at h1
    refine PySem.W.callWith_K (h₀ := X.base) I.ok.mod.kin hk (thn (ha.run q pins s σ H _ I args) fun us s1 ⟨vs, H1, I1, r, ι1, h1, xs, R1, rx, P1⟩ => ⟨I1.kIn, run_at F C.gd hr hb C.tk I1 r R1 rx P1⟩) (star1 h1.1) (star_any h1.2)
/-! ### methods -/
theorem few_ok {es : List Expr} {env : Env} {pos : Pos} (hs : es.all notStar = true) (hl : es.length < 25) : methodCallForm (es.length + ([] : List Keyword).length) (backTo pos (starEach es env)) (backToKw pos (keywordEach [] env)) = true := by
  unfold methodCallForm
  rw [star_all hs]
  show (true && true && decide (es.length + 0 + 0 < 30)) = true
  rw [decide_eq_true (by omega)]
  rfl
theorem meth_eq {o : Expr} {m : Str} {apos pos : Pos} {es : List Expr} {env : Env} (hn : notCl o = true) (hs : es.all notStar = true) (hl : es.length < 25) (hp : (apos.endLine == pos.line) = true) :
    eval (.Call (.Attribute o m apos) es [] pos) env = (do
      let ov ← eval o env
      standAt apos.atName
      let (f, first) ← holding [ov] (getMethod ov m (do return (← importBound o env).getD true))
      callWith pos f first (backTo pos (starEach es env)) (backToKw pos (keywordEach [] env))) := by
  have hp' : methodCallPos true o env apos pos = pure pos := by
    unfold methodCallPos
    rw [hp]
    rfl
  have few := few_ok (env := env) (pos := pos) hs hl
  rw [arm_eval_Call, attr_base hn]
  unfold methodCall
  rw [few, hp']
  rfl
theorem snd_meth (C : Cok κ B ct n k X W) (hc : k.hot = false) {m : Nat} {o : E} {as : Es} {o' : Expr} {es : List Expr} {x : Str} {p q : Pos} (hm : ct.att.lookup x = some m) (hn : notCl o' = true) (hs : es.all notStar = true) (hl : es.length < 25) (hp : (p.endLine == q.line) = true) (he : es = [] → as = .nil)
    (hG : G.call = Gam B n) (hG2 : G.mt = B.mt) (hpn : G.pln = B.pln) (ho : Snd κ G X W o o') (ha : SndA κ G X W as es) : Snd κ G X W (.meth m o as) (.Call (.Attribute o' x p) es [] q) := by
  refine Snd.plain C.hK ?_ rfl
  have hr : Room (2 * n + 2) X.A := (C.room hc).mono (by omega)
  refine ⟨fun pins s σ H Q I rd => ?_⟩
  obtain ⟨ι, τ, h0, R, S, P⟩ := rd
  have P : Post κ (RV κ) W σ ι h0 H ((evalE G o τ h0).bind fun x h1 => match clsOf h1 x with
      | some (c, fs) => match G.mt c m, fs.lookup m with
        | some f, none => if G.pln f = true then (evalEs G as τ h1).bind fun vs h2 => G.call f (x :: vs) h2 else .bad
        | _, _ => .bad
      | none => .bad) Q := P
  have recv : Rd κ W (evalE G o) σ H fun v H1 => ∃ ι1 h1 a c fs f, Rep κ ι1 h1 H1 ∧ RS κ H1 ι1 h1.n τ σ ∧ RV κ H1 ι1 h1.n a v ∧ clsOf h1 a = some (c, fs) ∧ B.mt c m = some f ∧ fs.lookup m = none ∧ B.pln f = true ∧
      Post κ (RV κ) W σ ι1 h1 H1 ((evalEs G as τ h1).bind fun vs h2 => Gam B n f (a :: vs) h2) Q := by
    refine RdG.step R S P fun ι1 h1 H1 a v S1 rs r q => ?_
    cases ec : clsOf h1 a with
    | none => rw [ec] at q; exact q.elim
    | some cf =>
      obtain ⟨c, fs⟩ := cf
      rw [ec, hG, hG2] at q
      dsimp only at q
      split at q
      · rename_i f e1 e2
        split at q
        · rename_i hpl
          rw [hpn] at hpl
          exact ⟨ι1, h1, a, c, fs, f, S1.rep, rs, r, ec, e1, e2, hpl, q⟩
        · exact q.elim
      · exact q.elim
  refine PySem.W.methodCall_KW (thn (ho.pe.run pins s σ H _ I recv) fun u s1 ⟨v, H1, I1, rv, ι1, h1, a, c, fs, f, R1, S1, ra, ec, em, ef, hpl, P1⟩ => ?_) (meth_eq hn hs hl hp)
  obtain ⟨b, dx, ys, rfl, _, hb1, rfl, hq, rf⟩ := clsOf_ok R1 ra ec
  obtain ⟨cl, fa, fd, ps, hM, F, hb, _⟩ := (C.wf hc).mtF c m f em
  have hb := hb hpl
  obtain rfl : u = Value.ref (ι1 b) := rv
  rw [C.wc.att x m hm] at hM
  have nof : ys.lookup x = none := by
    rw [← C.wc.att x m hm]
    exact rf.none ef
  refine getmeth_ok I1 hq cl hM nof ?_
  have args : RdA κ W (evalEs G as) σ H1 fun vs H2 => ∃ ι2 h2 xs, Rep κ ι2 h2 H2 ∧ RVs κ H2 ι2 h2.n (.ref b :: xs) (.ref (ι1 b) :: vs) ∧ Post κ (RV κ) W σ ι2 h2 H2 (Gam B n f (.ref b :: xs) h2) Q :=
    RdG.step R1 S1 P1 fun ι2 h2 H2 xs vs S2 rs r q => ⟨ι2, h2, xs, S2.rep, ⟨_, vs, rfl, S2.val R1 ra, r⟩, q⟩
  cases es with
  | nil =>
    obtain rfl : as = .nil := he rfl
    have P : Post κ (RV κ) W σ ι1 h1 H1 (Gam B n f [.ref b] h1) Q := P1
    exact PySem.W.callWith_K0 (first := [.ref (ι1 b)]) (I1.tok _).kIn hM.kp (run_at F C.gd hr hb C.tk (I1.tok _) (us := [.ref (ι1 b)]) (vs := [.ref (ι1 b)]) (.cons rfl .nil) R1 (show RVs κ H1 ι1 h1.n [.ref b] [.ref (ι1 b)] from ⟨_, [], rfl, ra, rfl⟩) P)
  | cons e es =>
    have h1 := hs
    rw [List.all_cons, Bool.and_eq_true] at h1
    refine PySem.W.callWith_K (first := [.ref (ι1 b)]) (h₀ := X.base) I.ok.mod.kin hM.kp (thn (ha.run q pins _ σ H1 _ (I1.tok _) args) fun us s2 ⟨vs, H2, I2, r, ι2, h2, xs, R2, rx, P2⟩ => ⟨I2.kIn, ?_⟩) (star1 h1.1) (star_any h1.2)
    exact run_at F C.gd hr hb C.tk I2 (us := .ref (ι1 b) :: us) (vs := .ref (ι1 b) :: vs) (.cons rfl r) R2 rx P2
/-! ### makers -/
theorem run_new {m f c : Nat} {fi : Addr} {fd : FuncData} {ps : List Str} {pins : List (Addr × Obj)} {σ : L2.St} {H : Hp} {s : Shared} {Q : VK} {us : List Value} {vs : List V} (M : Mk X.K (κ.C c) fi) (F : FnG X.prog X.w X.K X.mg X.base (L2.CX X.prog X.w) m fi fd ps (SP κ B n f))
    (gd : X.A.guards = some []) (hr : Room (m + 1) X.A) (hb : Binds X.K fd ps []) (tk : Takes X W) (I : L2.Inv X pins σ H s) (r : Vals vs us)
    (q : ∀ x dx, H x = none → H dx = none → dx ≠ x → SP κ B n f (.ref x :: vs) (upd (upd H dx (.own x)) x (.ins (κ.C c) dx [])) (fun v H2 => v = .non ∧ Q (.ref x) H2) (WE W σ)) :
    wpAny (model X.prog X.w) X.A (call (.ref (κ.C c)) us) (EP X pins σ Q) X.xe s := by
  have here := q (s.heap.objs.size + 1) s.heap.objs.size (I.hok.fresh (Nat.le_succ _)) (I.hok.fresh (Nat.le_refl _)) (Nat.ne_of_lt (Nat.lt_succ_self _))
  have J := L2.Inv.made (C := κ.C c) I
  have rr : Vals (V.ref (s.heap.objs.size + 1) :: vs) (Value.ref (s.heap.objs.size + 1) :: us) := .cons rfl r
  have ln : (Value.ref (s.heap.objs.size + 1) :: us).length = ps.length := by
    have e := rr.length
    rw [F.len _ _ _ _ here] at e
    exact e.symm
  have bd := hb { s with heap := (s.heap.push { cls := .type "dict", data := .dict #[] }).push (PySem.W.instObj (κ.C c) s.heap.objs.size) } (Value.ref (s.heap.objs.size + 1) :: us) J.kIn (by rw [List.append_nil]; exact ln)
  rw [List.append_nil] at bd
  refine wpAny_call (L2.make_map (f := fi) I.kIn M.makes M.init (beq_iff_eq.mp M.fn) (codeAny_mono (F.run _ X.stack _ _ ⟨Value.ref (s.heap.objs.size + 1) :: us, []⟩ (Value.ref (s.heap.objs.size + 1) :: us) _ _ (WE W σ) (make_guards gd) (hr.make (κ.C c) us []) (J.env0.make (κ.C c) us []) bd rr here) fun res s2 z => ?_))
  cases res with
  | error er => exact passAt tk σ pins _ _ er s2 J z
  | ok fl =>
    cases fl with
    | ret u =>
      obtain ⟨v, H3, J3, rv, ev, q3⟩ := J.after z
      subst ev
      exact ⟨rv, ⟨V.ref (s.heap.objs.size + 1), H3, J3, rfl, q3⟩⟩
    | _ => exact z.elim
/-- a new object of a class, without fields as yet -/
theorem Rep.made {ι : Io} {h : AH} {H : Hp} (R : Rep κ ι h H) {c : Nat} {x dx : Addr} (h1 : H x = none) (h2 : H dx = none) (h3 : dx ≠ x) : Stp κ ι h H (ext1 ι h.n x) (h.push (.ins c [])) (upd (upd H dx (.own x)) x (.ins (κ.C c) dx [])) := by
  have S := R.side (o := .own x) h2
  exact S.trans (S.rep.push (o := .ins (κ.C c) dx []) (ao := .ins c []) (by rw [upd_ne (Ne.symm h3)]; exact h1) ⟨dx, [], upd_same, rfl⟩)
theorem snd_new (C : Cok κ B ct n k X W) (hc : k.hot = false) {c : Nat} {as : Es} {es : List Expr} {x : Str} {p q : Pos} (hcl : ct.cls.lookup x = some c) (hg : glB k.sc x = true) (hs : es.all notStar = true) (he : es = [] → as = .nil) (hG : G.call = Gam B n) (hG2 : G.ini = B.ini) (hpn : G.pln = B.pln) (ha : SndA κ G X W as es) :
    Snd κ G X W (.new c as) (.Call (.Name x p) es [] q) := by
  obtain ⟨g1, g2, g3⟩ := gl_of C hg
  refine Snd.plain C.hK ?_ rfl
  refine ⟨fun pins s σ H Q I rd => ?_⟩
  obtain ⟨ι, τ, h0, R, S, P⟩ := rd
  have P : Post κ (RV κ) W σ ι h0 H (match G.ini c with
      | some f => if G.pln f = true then (evalEs G as τ h0).bind fun vs h1 => (G.call f (.ref h1.n :: vs) (h1.push (.ins c []))).bind fun r h2 => match r with
          | .non => .ok (.ref h1.n) h2
          | _ => .bad
        else .bad
      | none => .bad) Q := P
  rw [hG, hG2] at P
  cases ei : B.ini c with
  | none => rw [ei] at P; exact P.elim
  | some f =>
    obtain ⟨hm, fi, fd, ps, M, F, hb, _⟩ := (C.wf hc).inF x c f hcl ei
    rw [ei] at P
    dsimp only at P
    split at P
    case isFalse => exact P.elim
    rename_i hpl
    rw [hpn] at hpl
    have hb := hb hpl
    refine wpAny_Call_Name_kw (ld_glob I g1 hm ?_ g2)
    have next : ∀ {ι1 h1 H1 xs vs}, Rep κ ι1 h1 H1 → RVs κ H1 ι1 h1.n xs vs → Post κ (RV κ) W σ ι1 h1 H1 ((Gam B n f (.ref h1.n :: xs) (h1.push (.ins c []))).bind fun r h2 => match r with
        | .non => .ok (.ref h1.n) h2
        | _ => .bad) Q → ∀ x dx, H1 x = none → H1 dx = none → dx ≠ x → SP κ B n f (.ref x :: vs) (upd (upd H1 dx (.own x)) x (.ins (κ.C c) dx [])) (fun v H2 => v = .non ∧ Q (.ref x) H2) (WE W σ) := by
      intro ι1 h1 H1 xs vs R1 rx P1 x dx n1 n2 ne
      have S2 := Rep.made (c := c) R1 n1 n2 ne
      have rself : RV κ (upd (upd H1 dx (.own x)) x (.ins (κ.C c) dx [])) (ext1 ι1 h1.n x) (h1.n + 1) (.ref h1.n) (.ref x) := ⟨Nat.lt_succ_self _, by rw [ext1_new]⟩
      refine ⟨_, _, .ref h1.n :: xs, S2.rep, ⟨_, vs, rfl, rself, S2.vals R1 rx⟩, ?_⟩
      refine Post.any (W := W) (σ := σ) (((Post.pre P1 S2).bind).mono fun v H3 ⟨ι3, h3, r, S3, rr, P3⟩ => ?_)
      cases r with
      | non => exact ⟨rr, P3 ι3 H3 (.ref x) (Stp.refl S3.rep) (S3.val S2.rep rself)⟩
      | _ => exact P3.elim
    cases es with
    | nil =>
      obtain rfl : as = .nil := he rfl
      exact PySem.W.callWith_K0 I.kIn M.kp (run_new M F C.gd ((C.room hc).mono (by omega)) hb C.tk I (us := []) (vs := []) .nil (next R (show RVs κ H ι h0.n [] [] from rfl) P))
    | cons e es =>
      have h1 := hs
      rw [List.all_cons, Bool.and_eq_true] at h1
      have args : RdA κ W (evalEs G as) σ H fun vs H1 => ∃ ι1 h1 xs, Rep κ ι1 h1 H1 ∧ RVs κ H1 ι1 h1.n xs vs ∧ Post κ (RV κ) W σ ι1 h1 H1 ((Gam B n f (.ref h1.n :: xs) (h1.push (.ins c []))).bind fun r h2 => match r with
          | .non => .ok (.ref h1.n) h2
          | _ => .bad) Q := RdG.step R S P fun ι1 h1 H1 xs vs S1 rs r q => ⟨ι1, h1, xs, S1.rep, r, q⟩
      refine PySem.W.callWith_K (h₀ := X.base) I.ok.mod.kin M.kp (thn (ha.run q pins s σ H _ I args) fun us s1 ⟨vs, H1, I1, r, ι1, h1, xs, R1, rx, P1⟩ => ⟨I1.kIn, run_new M F C.gd ((C.room hc).mono (by omega)) hb C.tk I1 r (next R1 rx P1)⟩) (star1 h1.1) (star_any h1.2)
/-! ### methods of lists -/
theorem bm_ty (hK : X.K = κ.K) {m : BM} {ι : Io} {h : AH} {H : Hp} {a : AV} {x : V} (R : Rep κ ι h H) (ra : RV κ H ι h.n a x) (e : bmOk m a h = true) : tyV X.K "list" x H := by
  have key : ∃ p xs, a = .ref p ∧ h.get p = some (.lst xs) := by
    unfold bmOk at e
    split at e
    · split at e
      · split at e
        · rename_i q; exact ⟨_, _, rfl, q⟩
        · cases e
      · cases e
    · split at e
      · split at e
        · rename_i q; exact ⟨_, _, rfl, q⟩
        · cases e
      · cases e
    · split at e
      · split at e
        · rename_i q; exact ⟨_, _, rfl, q⟩
        · cases e
      · cases e
    · split at e
      · split at e
        · rename_i q; exact ⟨_, _, rfl, q⟩
        · cases e
      · cases e
  obtain ⟨p, xs, rfl, q⟩ := key
  obtain ⟨_, rfl⟩ := id ra
  obtain ⟨_, ys, q1, _⟩ := R.lst q
  exact .inl ⟨rfl, ys, SqL.of q1⟩
theorem snd_bm (C : Cok κ B ct n k X W) {m : BM} {o : E} {as : Es} {o' : Expr} {es : List Expr} {x : Str} {p q : Pos} (hm : bmN m = x) (hn : notCl o' = true) (hs : es.all notStar = true) (hl : es.length < 25) (hp : (p.endLine == q.line) = true) (he : es = [] → as = .nil)
    (ho : Snd κ G X W o o') (ha : SndA κ G X W as es) : Snd κ G X W (.bm m o as) (.Call (.Attribute o' x p) es [] q) := by
  refine Snd.plain C.hK ?_ rfl
  have main : ∀ {id : String}, Slot "list" x id → typeOf (.builtin id) = pure (.type "method_descriptor") → MtR X id (MRof κ m) → PE X (.Call (.Attribute o' x p) es [] q) (Rd κ W (evalE G (.bm m o as))) := by
    intro id slot ty rule
    have core : ∀ {σ H Q}, Rd κ W (evalE G (.bm m o as)) σ H Q → Rd κ W (evalE G o) σ H fun v H1 => tyV X.K "list" v H1 ∧ RdA κ W (evalEs G as) σ H1 fun vs H2 => MRof κ m v vs H2 Q := by
      intro σ H Q rd
      obtain ⟨ι, τ, h0, R, S, P⟩ := rd
      have P : Post κ (RV κ) W σ ι h0 H ((evalE G o τ h0).bind fun x h1 => if bmOk m x h1 then (evalEs G as τ h1).bind fun vs h2 => ofO (bmS m x vs h2) else .bad) Q := P
      refine RdG.step R S P fun ι1 h1 H1 a v S1 rs r q => ?_
      cases eb : bmOk m a h1 with
      | false => rw [eb] at q; exact q.elim
      | true =>
        rw [eb] at q
        have q : Post κ (RV κ) W σ ι1 h1 H1 ((evalEs G as τ h1).bind fun vs h2 => ofO (bmS m a vs h2)) Q := q
        refine ⟨bm_ty C.hK S1.rep r eb, RdG.step S1.rep rs q fun ι2 h2 H2 xs vs S2 rs2 r2 q2 => ⟨ι2, h2, a, xs, S2.rep, S2.val S1.rep r, r2, q2.ofO⟩⟩
    cases es with
    | nil =>
      obtain rfl : as = .nil := he rfl
      refine PE.imp (fun σ H Q rd => ?_) (pe_bm0 PySem.F.plainAttrs_list slot ty rule ho.pe (attr_base hn _ _ _) hp)
      refine (core rd).imp_ fun v H1 ⟨t1, q⟩ => ⟨t1, ?_⟩
      obtain ⟨ι, τ, h0, R, S, P⟩ := q
      exact P ι H1 [] (Stp.refl R) rfl
    | cons e es =>
      have h1 := hs
      rw [List.all_cons, Bool.and_eq_true] at h1
      refine PE.imp (fun σ H Q rd => ?_) (pe_bm PySem.F.plainAttrs_list slot ty rule ho.pe ha (attr_base hn _ _ _) (few_ok hs hl) hp (star1 h1.1) (star_any h1.2))
      exact core rd
  cases m with
  | append => subst hm; exact main PySem.F.slot_list_append PySem.F.type_list_append ok_append
  | pop => subst hm; exact main PySem.F.slot_list_pop PySem.F.type_list_pop ok_pop
  | extend => subst hm; exact main PySem.F.slot_list_extend PySem.F.type_list_extend ok_extend
  | insert => subst hm; exact main PySem.F.slot_list_insert PySem.F.type_list_insert ok_insert
/-! ### slices -/
theorem snd_sl (C : Cok κ B ct n k X W) {a : E} {lo hi : OE} {a' : Expr} {lo' hi' : Option Expr} {p p2 : Pos} (ha : Snd κ G X W a a') (hlo : ∀ e, lo = .som e → ∃ e', lo' = some e' ∧ Snd κ G X W e e') (hlo0 : lo = .non → lo' = none)
    (hhi : ∀ e, hi = .som e → ∃ e', hi' = some e' ∧ Snd κ G X W e e') (hhi0 : hi = .non → hi' = none) : Snd κ G X W (.sl a lo hi) (.Subscript a' (.Slice lo' hi' none p2) p) := by
  refine Snd.plain C.hK ?_ rfl
  have part : ∀ {o : OE} {o' : Option Expr}, (∀ e, o = .som e → ∃ e', o' = some e' ∧ Snd κ G X W e e') → (o = .non → o' = none) → ∃ t : TO, PO X o' t ∧
      ∀ {σ H} {Q : Option Int → Hp → Prop} {ι τ h} {kk : Option AV → AH → Res AV} {Q' : VK}, Rep κ ι h H → RS κ H ι h.n τ σ → Post κ (RV κ) W σ ι h H ((evalO G o τ h).bind kk) Q' →
        (∀ ι1 h1 H1 l i, Stp κ ι h H ι1 h1 H1 → RS κ H1 ι1 h1.n τ σ → Post κ (RV κ) W σ ι1 h1 H1 (kk l h1) Q' → (∀ i', rdI l = some i' → i' = i) → ((rdI l).isSome = true → Q i H1)) → ((∀ l h1, rdI l = none → kk l h1 = .bad) → t σ H Q) := by
    intro o o' h1 h2
    cases o with
    | non =>
      obtain rfl := h2 rfl
      exact ⟨tNoPart, po_none, fun R S P nx _ => nx _ _ _ none none (Stp.refl R) S P (fun i' e => (Option.some.inj e).symm) rfl⟩
    | som e =>
      obtain ⟨e', rfl, he⟩ := h1 e rfl
      refine ⟨_, po_some he.pe, fun {σ H Q ι τ h kk Q'} R S P nx bd => ?_⟩
      have P : Post κ (RV κ) W σ ι h H (((evalE G e τ h).bind fun x h1 => .ok (some x) h1).bind kk) Q' := P
      rw [Res.bind_bind] at P
      refine RdG.step R S P fun ι1 h1 H1 x v S1 rs r q => ?_
      have q : Post κ (RV κ) W σ ι1 h1 H1 (kk (some x) h1) Q' := q
      cases x with
      | int i =>
        obtain rfl : v = .int i := r
        exact ⟨i, rfl, nx ι1 h1 H1 (some (.int i)) (some i) S1 rs q (fun i' e => (Option.some.inj e).symm) rfl⟩
      | _ => rw [bd _ _ rfl] at q; exact q.elim
  obtain ⟨tl, pl, kl⟩ := part hlo hlo0
  obtain ⟨th, ph, kh⟩ := part hhi hhi0
  refine PE.imp (fun σ H Q q => ?_) (pe_slice (ok_sl C.hK) ha.pe pl ph)
  obtain ⟨ι, τ, h0, R, S, P⟩ := q
  have P : Post κ (RV κ) W σ ι h0 H ((evalE G a τ h0).bind fun x h1 => (evalO G lo τ h1).bind fun l h2 => match rdI l with
      | some l => (evalO G hi τ h2).bind fun u h3 => match rdI u with
        | some u => ofO (slS x l u h3)
        | none => .bad
      | none => .bad) Q := P
  refine RdG.step R S P fun ι1 h1 H1 x v S1 rs r q => ?_
  refine kl S1.rep rs q (fun ι2 h2 H2 l i S2 rs2 q2 el sl => ?_) (fun l h1 e => by rw [e])
  obtain ⟨l', e1⟩ := Option.isSome_iff_exists.mp sl
  obtain rfl := el _ e1
  rw [e1] at q2
  refine kh S2.rep rs2 q2 (fun ι3 h3 H3 u j S3 rs3 q3 eu su => ?_) (fun l h1 e => by rw [e])
  obtain ⟨u', e2⟩ := Option.isSome_iff_exists.mp su
  obtain rfl := eu _ e2
  rw [e2] at q3
  exact ⟨ι3, h3, x, S3.rep, S3.val S2.rep (S2.val S1.rep r), Post.ofO q3⟩
end
end Mi
set_option Elab.async false
set_option maxRecDepth 100000
set_option maxHeartbeats 4000000
/-! MiSnd4b: errors made as values. -/
namespace Mi
open PySem L2 PySem.Spec PyProof.Rows
section
variable {κ : Ks} {B : Tb} {ct : Ct} {n : Nat} {k : Cc} {X : Cx} {W : WX} {G : PG}
/-- the fields of an error that is made -/
theorem mkFs_ok {ι : Io} {m : Nat} {H : Hp} {h : AH} : ∀ {ks : List (Nat × Bool)} {vs : List AV} {ws : List V} {acc fs : List (Nat × AV)} {h' : AH} {zs : List (Str × V)}, mkFs h acc ks vs = some (fs, h') → RVs κ H ι m vs ws → RFs κ H ι m acc zs →
    h' = h ∧ ws.length = ks.length ∧ (∀ kb ∈ ks, kb.2 = false) ∧ (∀ w ∈ ws, ∃ i : Int, w = .int i ∧ i.natAbs.log2 < 1920) ∧ RFs κ H ι m fs (((ks.map fun kb => κ.F kb.1).zip ws).reverse ++ zs)
  | [], [], ws, acc, fs, h', zs, e, r, ra => by
    cases e
    rw [show ws = [] from r]
    exact ⟨rfl, rfl, fun _ z => (nomatch z), fun _ z => (nomatch z), ra⟩
  | [], v :: vs, ws, acc, fs, h', zs, e, r, ra => by cases e
  | (f, true) :: ks, vs, ws, acc, fs, h', zs, e, r, ra => by cases vs <;> cases e
  | (f, false) :: ks, [], ws, acc, fs, h', zs, e, r, ra => by cases e
  | (f, false) :: ks, v :: vs, ws, acc, fs, h', zs, e, r, ra => by
    obtain ⟨w, ws, rfl, r1, r2⟩ := r
    unfold mkFs at e
    split at e
    · rename_i hs
      obtain ⟨i, rfl, hi⟩ : ∃ i : Int, v = .int i ∧ i.natAbs.log2 < 1920 := by
        cases v with
        | int i => exact ⟨i, rfl, by unfold shows at hs; simpa using hs⟩
        | _ => cases hs
      obtain rfl : w = .int i := r1
      obtain ⟨e1, e2, e3, e4, e5⟩ := mkFs_ok (zs := (κ.F f, .int i) :: zs) e r2 ⟨.int i, zs, rfl, rfl, ra⟩
      refine ⟨e1, by rw [List.length_cons, List.length_cons, e2], fun kb hm => ?_, fun w hm => ?_, ?_⟩
      · rcases List.mem_cons.mp hm with rfl | hm
        · rfl
        · exact e3 kb hm
      · rcases List.mem_cons.mp hm with rfl | hm
        · exact ⟨i, rfl, hi⟩
        · exact e4 w hm
      · have z : ((((f, false) :: ks).map fun kb => κ.F kb.1).zip (V.int i :: ws)).reverse ++ zs = ((ks.map fun kb => κ.F kb.1).zip ws).reverse ++ (κ.F f, .int i) :: zs := by
          simp
        rw [z]
        exact e5
    · cases e
theorem RFs.split {H : Hp} {ι : Io} {m : Nat} : ∀ {fs : List (Nat × AV)} {ys : List (Str × V)}, RFs κ H ι m fs ys → ∃ vs, RVs κ H ι m (fs.map (·.2)) vs ∧ ys = ((fs.map (·.1)).map κ.F).zip vs
  | [], ys, r => ⟨[], rfl, r⟩
  | (f, x) :: fs, ys, r => by
    obtain ⟨v, ws, rfl, r1, r2⟩ := r
    obtain ⟨vs, q1, rfl⟩ := RFs.split r2
    exact ⟨v :: vs, ⟨v, vs, rfl, r1, q1⟩, rfl⟩
/-- C(e, ..) of an error's class, kept -/
def tMkV (C : Addr) (sp : Sp) (ta : TA) : TE := fun σ H Q => ta σ H fun vs H1 => vs.length ≤ 1000 ∧ ∀ a, H1 a = none → sp (.ref a :: vs) (upd H1 a (exo a C none)) (fun v H2 => v = .non ∧ Q (.ref a) H2) (fun _ _ _ => False)
theorem pe_oexV {x : Str} {C fI : Addr} {m : Nat} {fd : FuncData} {ps : List Str} {sp : Sp} {e : Expr} {es : List Expr} {ta : TA} {p pos : Pos} (T : OexC X.K C) (iC : PySem.W.findIn X.K (.ref C) "__init__" = some (some (.ref fI))) (tI : PySem.W.typeIn X.K (.ref fI) = some (.type "function"))
    (F1 : FnOk X.prog X.w X.K X.mg X.base CX0 m fI fd ps sp) (hr : Room (m + 1) X.A) (hb : Binds X.K fd ps []) (hg : Gl X x) (hm : X.mg x = some (.ref C)) (ha : PA X (e :: es) ta)
    (hdb : (x == ("__debug__" : Str)) = false) (he : starEach (e :: es) X.env = (false, eval e X.env) :: starEach es X.env) (hpl : (backTo pos (starEach es X.env)).any (·.1) = false) :
    PE X (.Call (.Name x p) (e :: es) [] pos) (tMkV C sp ta) := by
  constructor
  intro pins s σ H Q I h
  obtain ⟨nm, q, N, bs, bm, sn, sub, ab, col, dd, k0, k1, k2, k3, k5, hC, hbm⟩ := T.cls
  refine wpAny_Call_Name_kw (ld_glob I hg hm (PySem.W.callWith_K (h₀ := X.base) I.ok.mod.kin T.kC (thn (ha.run pos pins s σ H _ I h) fun us s1 z => ?_) he hpl) hdb)
  obtain ⟨vs, H1, I1, r1, hz, q1⟩ := z
  refine ⟨I1.kIn, ?_⟩
  show wpAny _ _ (call (.ref C) us) _ _ _
  obtain ⟨hp, gs, dr, tk, os⟩ := s1
  have big : hp.objs.size ≤ hp.objs.size + 1 := Nat.le_succ _
  have hq := q1 (hp.objs.size + 1) (I1.hok.fresh big)
  have old : ∀ b o, hp.get? b = some o → ((hp.push (PySem.W.kdv_tup us)).push (PySem.HandSPX.excO C hp.objs.size)).get? b = some o := fun b o e => Heap.get?_push_of_some _ (Heap.get?_push_of_some _ e)
  have there : ((hp.push (PySem.W.kdv_tup us)).push (PySem.HandSPX.excO C hp.objs.size)).get? (hp.objs.size + 1) = some (PySem.HandSPX.excO C hp.objs.size) := by heap_get
  have I2 : L2.Inv X pins σ (upd H1 (hp.objs.size + 1) (exo (hp.objs.size + 1) C none)) ⟨(hp.push (PySem.W.kdv_tup us)).push (PySem.HandSPX.excO C hp.objs.size), gs, dr, tk, os⟩ :=
    I1.laid (t' := tk) (a := hp.objs.size + 1) (o := exo (hp.objs.size + 1) C none) old big (exo_ok there)
  have r2 : Vals (V.ref (hp.objs.size + 1) :: vs) (Value.ref (hp.objs.size + 1) :: us) := .cons rfl r1
  have hl : (Value.ref (hp.objs.size + 1) :: us).length = ps.length := by
    have e := r2.length
    rw [F1.len _ _ _ _ hq] at e
    exact e.symm
  have hus : us.length ≤ sizeLine := by
    rw [← Paired.length r1, sizeLine_eq]
    omega
  have bd := hb _ (Value.ref (hp.objs.size + 1) :: us) I2.kIn (by rw [List.append_nil]; exact hl)
  rw [List.append_nil] at bd
  refine wpAny_call (PySem.HandSPX.call_own F.excBase_ValueError (fun Y => PySem.HandSPX.refsVE_contains Y bm hbm) (I1.kIn _ _ hC) (PySem.W.looks_findIn I1.kIn iC) (fun self => PySem.W.bind_fn I1.kIn self tI) hus
    (codeAny_mono (F1.run _ X.stack _ _ ⟨Value.ref (hp.objs.size + 1) :: us, []⟩ (Value.ref (hp.objs.size + 1) :: us) _ _ (fun _ _ _ => False) (hr.make C us []) (I2.env0.make C us []) bd r2 hq) fun r s' z => ?_))
  cases r with
  | error er => exact z.elim
  | ok fl =>
    cases fl with
    | ret u =>
      obtain ⟨v, H3, J3, rv, ev, q3⟩ := I2.after z
      subst ev
      exact ⟨rv, ⟨V.ref (hp.objs.size + 1), H3, J3, rfl, q3⟩⟩
    | _ => exact z.elim
theorem snd_newx (C : Cok κ B ct n k X W) (hc : k.hot = false) {c : Nat} {as : Es} {e0 : Expr} {es : List Expr} {x : Str} {p q : Pos} (hcl : ct.cls.lookup x = some c) (hg : glB k.sc x = true) (hs : (e0 :: es).all notStar = true) (hG : G.exf = B.exf) (ha : SndA κ G X W as (e0 :: es)) :
    Snd κ G X W (.newx c as) (.Call (.Name x p) (e0 :: es) [] q) := by
  obtain ⟨g1, g2, g3⟩ := gl_of C hg
  have h1 := hs
  rw [List.all_cons, Bool.and_eq_true] at h1
  refine Snd.plain C.hK ?_ rfl
  have view : ∀ {σ : L2.St} {H : Hp} {Q : VK}, Rd κ W (evalE G (.newx c as)) σ H Q → ∃ ι τ h, Rep κ ι h H ∧ RS κ H ι h.n τ σ ∧ Post κ (RV κ) W σ ι h H (match B.exf c with
      | some ks => (evalEs G as τ h).bind fun vs h1 => match mkFs h1 [] ks vs with
        | some (fs, h2) => .ok (.xcp c (fs.map (·.1)) (fs.map (·.2))) h2
        | none => .bad
      | none => .bad) Q := by
    intro σ H Q ⟨ι, τ, h, R, S, P⟩
    rw [← hG]
    exact ⟨ι, τ, h, R, S, P⟩
  cases ek : B.exf c with
  | none =>
    refine ⟨fun pins s σ H Q I z => ?_⟩
    obtain ⟨ι, τ, h, R, S, P⟩ := view z
    rw [ek] at P
    exact P.elim
  | some ks =>
    obtain ⟨T, hm, hk0, hkl, fI, fd, ps, iC, tI, F, hb⟩ := (C.wf hc).exF x c ks hcl ek
    refine PE.imp (fun σ H Q z => ?_) (pe_oexV T iC tI F ((C.room hc).mono (by omega)) hb g1 hm ha g2 (star1 h1.1) (star_any h1.2))
    obtain ⟨ι, τ, h0, R, S, P⟩ := view z
    rw [ek] at P
    refine RdG.step R S P fun ι1 h1 H1 vs ws S1 rs r z => ?_
    cases em : mkFs h1 [] ks vs with
    | none => rw [em] at z; exact z.elim
    | some fh =>
      obtain ⟨fs, h2⟩ := fh
      rw [em] at z
      obtain ⟨rfl, e2, e3, e4, e5⟩ := mkFs_ok (zs := []) em r rfl
      rw [List.append_nil] at e5
      refine ⟨by rw [e2]; exact hkl, fun a na => ⟨a, ws, rfl, e2, e3, e4, upd_same, fun d H' nd ne ea ed oth => ⟨rfl, ?_⟩⟩⟩
      have nd' : H1 d = none := by
        rw [upd_ne ne] at nd
        exact nd
      obtain ⟨vs', q1, q2⟩ := e5.split
      have eH : H' = upd (upd H1 d (exd d ((ks.map fun kb => κ.F kb.1).zip ws).reverse)) a (exo a (κ.C c) (some d)) := by
        funext b
        by_cases hba : b = a
        · rw [hba, upd_same, ea]
        · rw [upd_ne hba]
          by_cases hbd : b = d
          · rw [hbd, upd_same, ed]
          · rw [upd_ne hbd, oth b hba hbd, upd_ne hba]
      subst eH
      have S2 := S1.rep.side (o := exd d ((ks.map fun kb => κ.F kb.1).zip ws).reverse) nd'
      have S3 := S2.rep.side (p := a) (o := exo a (κ.C c) (some d)) (by rw [upd_ne (Ne.symm ne)]; exact na)
      have S4 := S2.trans S3
      refine z ι1 _ (.ref a) S4 ⟨a, d, vs', _, rfl, S4.vals S1.rep q1, by rw [List.length_map, List.length_map], upd_same, fun h z => ?_, .inl ?_⟩
      · obtain ⟨t1, ho⟩ := z
        exact ⟨_, _, ho, ⟨rfl, rfl⟩, rfl⟩
      · rw [upd_ne ne, upd_same, q2]
end
end Mi
set_option Elab.async false
set_option maxRecDepth 100000
set_option maxHeartbeats 4000000
/-! MiSnd4c: calls with keywords and defaults. -/
namespace Mi
open PySem L2 PySem.Spec PyProof.Rows
section
variable {κ : Ks} {B : Tb} {ct : Ct} {n : Nat} {k : Cc} {X : Cx} {W : WX} {G : PG}
abbrev SndK (κ : Ks) (G : PG) (X : Cx) (W : WX) (c : Es) (kws : List Keyword) : Prop := PK X kws (RdA κ W (evalEs G c))
theorem PK.imp {kws : List Keyword} {t t' : TA} (kk : ∀ σ H Q, t' σ H Q → t σ H Q) (p : PK X kws t) : PK X kws t' := ⟨fun pos pins s σ H Q I q => p.run pos pins s σ H Q I (kk σ H Q q)⟩
theorem snd_knil : SndK κ G X W .nil [] := PK.imp (fun σ H Q ⟨ι, τ, h, R, S, P⟩ => P ι H [] (Stp.refl R) rfl) pk_nil
theorem snd_kcons {e : E} {r : Es} {nm : Option Str} {e' : Expr} {p : Pos} {r' : List Keyword} (he : Snd κ G X W e e') (hr : SndK κ G X W r r') : SndK κ G X W (.cons e r) (⟨nm, e', p⟩ :: r') := by
  refine PK.imp (fun σ H Q q => ?_) (pk_cons he.pe hr)
  obtain ⟨ι, τ, h0, R, S, P⟩ := q
  have P : Post κ (RVs κ) W σ ι h0 H ((evalE G e τ h0).bind fun x h1 => (evalEs G r τ h1).bind fun xs h2 => .ok (x :: xs) h2) Q := P
  refine RdG.step R S P fun ι1 h1 H1 x v S1 rs r1 q => ?_
  refine RdG.step S1.rep rs q fun ι2 h2 H2 xs vs S2 rs2 r2 q2 => ?_
  exact q2 ι2 H2 (v :: vs) (Stp.refl S2.rep) ⟨v, vs, rfl, S2.val S1.rep r1, r2⟩
theorem kw_all {kws : List Keyword} {pos : Pos} {env : Env} (h : kws.all (·.arg.isSome) = true) : (backToKw pos (keywordEach kws env)).all (·.1.isSome) = true ∧ (backToKw pos (keywordEach kws env)).filterMap (·.1) = kws.filterMap (·.arg) ∧ (backToKw pos (keywordEach kws env)).any (·.1.isNone) = false ∧ (backToKw pos (keywordEach kws env)).length = kws.length := by
  induction kws with
  | nil => exact ⟨rfl, rfl, rfl, rfl⟩
  | cons k kws ih =>
    obtain ⟨nm, e, p⟩ := k
    rw [List.all_cons, Bool.and_eq_true] at h
    obtain ⟨h1, h2, h3, h4⟩ := ih h.2
    have h0 : nm.isSome = true := h.1
    obtain ⟨x, rfl⟩ := Option.isSome_iff_exists.mp h0
    refine ⟨?_, ?_, ?_, ?_⟩
    · show (true && (backToKw pos (keywordEach kws env)).all (·.1.isSome)) = true
      rw [h1]; rfl
    · show x :: (backToKw pos (keywordEach kws env)).filterMap (·.1) = x :: kws.filterMap (·.arg)
      rw [h2]
    · show (false || (backToKw pos (keywordEach kws env)).any (·.1.isNone)) = false
      rw [h3]; rfl
    · show (backToKw pos (keywordEach kws env)).length + 1 = kws.length + 1
      rw [h4]
/-- the written values of a call, by place and by keyword -/
theorem args_run {as ks : Es} {es : List Expr} {kws : List Keyword} {pos : Pos} {fv : Value} {first : List Value} {pins : List (Addr × Obj)} {s : Shared} {σ : L2.St} {H : Hp} {Q : Value → Shared → Prop} {τ : Frame} {ι : Io} {h : AH}
    (hk : PySem.W.keepIn X.K fv = true) (I : L2.Inv X pins σ H s) (R : Rep κ ι h H) (S : RS κ H ι h.n τ σ) (ha : SndA κ G X W as es) (hks : SndK κ G X W ks kws) (hs : es.all notStar = true) (he : es = [] → as = .nil) (hke : kws = [] → ks = .nil) (hall : kws.all (·.arg.isSome) = true)
    {β : Type} {δ : Type} {R' : Hp → Io → Nat → β → δ → Prop} {kk : List AV → List AV → AH → Res β} {Qd : δ → Hp → Prop} (P : Post κ R' W σ ι h H ((evalEs G as τ h).bind fun vs h1 => (evalEs G ks τ h1).bind fun ws h2 => kk vs ws h2) Qd)
    (q : ∀ (us ws : List Value) (vs zs : List V) (s2 : Shared) (H2 : Hp) (ι2 : Io) (h2 : AH) (xs ys : List AV), L2.Inv X pins σ H2 s2 → Vals vs us → Vals zs ws → Stp κ ι h H ι2 h2 H2 → RVs κ H2 ι2 h2.n xs vs → RVs κ H2 ι2 h2.n ys zs → Post κ R' W σ ι2 h2 H2 (kk xs ys h2) Qd →
      wpAny (model X.prog X.w) X.A (call fv (first ++ us) ((kws.filterMap (·.arg)).zip ws)) Q X.xe s2) :
    wpAny (model X.prog X.w) X.A (callWith pos fv first (backTo pos (starEach es X.env)) (backToKw pos (keywordEach kws X.env))) Q X.xe s := by
  obtain ⟨k1, k2, k3, k4⟩ := kw_all (pos := pos) (env := X.env) hall
  have rd : RdA κ W (evalEs G as) σ H fun vs H1 => ∃ ι1 h1 xs, Stp κ ι h H ι1 h1 H1 ∧ RS κ H1 ι1 h1.n τ σ ∧ RVs κ H1 ι1 h1.n xs vs ∧ Post κ R' W σ ι1 h1 H1 ((evalEs G ks τ h1).bind fun ws h2 => kk xs ws h2) Qd :=
    RdG.step R S P fun ι1 h1 H1 xs vs S1 rs r q => ⟨ι1, h1, xs, S1, rs, r, q⟩
  cases kws with
  | nil =>
    obtain rfl : ks = .nil := hke rfl
    cases es with
    | nil =>
      obtain rfl : as = .nil := he rfl
      exact PySem.W.callWith_K0 I.kIn hk (q [] [] [] [] s H ι h [] [] I .nil .nil (Stp.refl R) rfl rfl P)
    | cons e es =>
      have h1 := hs
      rw [List.all_cons, Bool.and_eq_true] at h1
      refine PySem.W.callWith_K (h₀ := X.base) I.ok.mod.kin hk (thn (ha.run pos pins s σ H _ I rd) fun us s1 ⟨vs, H1, I1, r, ι1, h1, xs, S1, rs, rx, P1⟩ => ⟨I1.kIn, ?_⟩) (star1 h1.1) (star_any h1.2)
      exact q us [] vs [] s1 H1 ι1 h1 xs [] I1 r .nil S1 rx rfl P1
  | cons kw kws =>
    cases es with
    | nil =>
      obtain rfl : as = .nil := he rfl
      have rd2 : RdA κ W (evalEs G ks) σ H fun zs H2 => ∃ ι2 h2 ys, Stp κ ι h H ι2 h2 H2 ∧ RVs κ H2 ι2 h2.n ys zs ∧ Post κ R' W σ ι2 h2 H2 (kk [] ys h2) Qd :=
        RdG.step R S P fun ι2 h2 H2 ys zs S2 rs2 r2 q2 => ⟨ι2, h2, ys, S2, r2, q2⟩
      refine PySem.W.callWith_KW0 (h₀ := X.base) I.ok.mod.kin hk k1 (thn (hks.run pos pins s σ H _ I rd2) fun ws s2 ⟨zs, H2, I2, r, ι2, h2, ys, S2, r2, P2⟩ => ⟨I2.kIn, ?_⟩) (by rw [k3]; rfl)
      rw [k2]
      exact q [] ws [] zs s2 H2 ι2 h2 [] ys I2 .nil r S2 rfl r2 P2
    | cons e es =>
      have h1 := hs
      rw [List.all_cons, Bool.and_eq_true] at h1
      refine PySem.W.callWith_KW (h₀ := X.base) I.ok.mod.kin hk k1 (thn (ha.run pos pins s σ H _ I rd) fun us s1 ⟨vs, H1, I1, r, ι1, h1, xs, S1, rs, rx, P1⟩ => ?_) (by rw [k3, star_any hs]; rfl) (star1 h1.1)
      have rd2 : RdA κ W (evalEs G ks) σ H1 fun zs H2 => ∃ ι2 h2 ys, Stp κ ι1 h1 H1 ι2 h2 H2 ∧ RVs κ H2 ι2 h2.n ys zs ∧ Post κ R' W σ ι2 h2 H2 (kk xs ys h2) Qd :=
        RdG.step S1.rep rs P1 fun ι2 h2 H2 ys zs S2 rs2 r2 q2 => ⟨ι2, h2, ys, S2, r2, q2⟩
      refine thn (hks.run pos pins s1 σ H1 _ I1 rd2) fun ws s2 ⟨zs, H2, I2, r2, ι2, h2, ys, S2, ry, P2⟩ => ⟨I2.kIn, ?_⟩
      rw [k2]
      exact q us ws vs zs s2 H2 ι2 h2 xs ys I2 r r2 (S1.trans S2) (S2.vals S1.rep rx) ry P2
theorem run_atK {m f : Nat} {a : Addr} {fd : FuncData} {ps : List Str} {pins : List (Addr × Obj)} {σ : L2.St} {H : Hp} {s : Shared} {Q : VK} {us ws : List Value} {vs zs : List V} {nms : List Str} {pn : Nat} {pl : List PL} (F : FnG X.prog X.w X.K X.mg X.base (L2.CX X.prog X.w) m a fd ps (SP κ B n f)) (gd : X.A.guards = some []) (hr : Room m X.A)
    (so : ShOk κ X.K fd ps pn nms pl) (tk : Takes X W) (I : L2.Inv X pins σ H s) (r : Vals vs us) (rz : Vals zs ws) (l1 : vs.length = pn) (l2 : zs.length = nms.length) {ι : Io} {h : AH} {as bs : List AV} (R : Rep κ ι h H) (ra : RVs κ H ι h.n as (vs ++ zs)) (hp : place as pl = some bs) (P : Post κ (RV κ) W σ ι h H (Gam B n f bs h) Q) :
    wpAny (model X.prog X.w) X.A (call (.ref a) us (nms.zip ws)) (EP X pins σ Q) X.xe s := by
  obtain ⟨g, gV, hb, hrel⟩ := so
  have rb := hrel H ι h.n as vs zs bs ra l1 l2 hp
  have hsp : SP κ B n f (gV vs zs) H Q (fun cls d H => W cls d σ H) := ⟨ι, h, bs, R, rb, P.any⟩
  have r2 := hb.rel r rz
  refine wpAny_call (codeAny_mono (F.run X.A X.stack s H ⟨us, nms.zip ws⟩ (g us ws) (gV vs zs) Q _ gd hr I.env0 (hb.to s us ws I.kIn (by rw [← r.length]; exact l1) (by rw [← rz.length]; exact l2)) r2 hsp) fun r s' hq => ?_)
  cases r with
  | error e => exact passAt tk σ pins _ _ e s' I hq
  | ok fl =>
    cases fl with
    | ret u => exact I.after hq
    | _ => exact hq.elim
theorem shp_ok {l : List (Nat × Nat × List Str)} {sh m : Nat} {kws : List Keyword} {pn : Nat} {nms : List Str} (h : shpB l sh m kws = true) (e : l.lookup sh = some (pn, nms)) : pn = m ∧ kws.filterMap (·.arg) = nms := by
  unfold shpB at h
  rw [e] at h
  simpa using h
theorem placeS_ok {m l : Nat} {pl : List PL} {vs ws bs : List AV} (h : placeS (some (m, l, pl)) vs ws = some bs) : vs.length = m ∧ ws.length = l ∧ place (vs ++ ws) pl = some bs := by
  unfold placeS at h
  rw [Option.bind_some] at h
  split at h
  · rename_i z; exact ⟨z.1, z.2, h⟩
  · cases h
theorem snd_callK (C : Cok κ B ct n k X W) (hc : k.hot = false) {f sh : Nat} {as ks : Es} {es : List Expr} {kws : List Keyword} {x : Str} {p q : Pos} (hf : ct.fns.lookup x = some f) (hg : glB k.sc x = true) (hs : es.all notStar = true) (he : es = [] → as = .nil) (hke : kws = [] → ks = .nil) (hall : kws.all (·.arg.isSome) = true)
    (hsh : shpB ct.shp sh es.length kws = true) (hG : G.call = Gam B n) (hp : G.sok = B.sok) (hp2 : G.shp = B.shp) (ha : SndA κ G X W as es) (hks : SndK κ G X W ks kws) : Snd κ G X W (.callK f sh as ks) (.Call (.Name x p) es kws q) := by
  obtain ⟨g1, g2, g3⟩ := gl_of C hg
  obtain ⟨a, fd, ps, ⟨F, _, hb⟩, hm, hk⟩ := (C.wf hc).fnF x f hf
  refine Snd.plain C.hK ?_ rfl
  refine ⟨fun pins s σ H Q I rd => ?_⟩
  refine wpAny_Call_Name_kw (ld_glob I g1 hm ?_ g2)
  obtain ⟨ι, τ, h0, R, S, P⟩ := rd
  have P : Post κ (RV κ) W σ ι h0 H (if G.sok f sh = true then (evalEs G as τ h0).bind fun vs h1 => (evalEs G ks τ h1).bind fun ws h2 => match placeS (G.shp sh) vs ws with
        | some us => G.call f us h2
        | none => .bad
      else .bad) Q := P
  split at P
  case isFalse => exact P.elim
  rename_i hok
  rw [hp] at hok
  obtain ⟨pn, nms, pl, e1, e2, so⟩ := hb sh hok
  obtain ⟨rfl, rfl⟩ := shp_ok hsh e1
  refine args_run (first := []) hk I R S ha hks hs he hke hall P fun us ws vs zs s2 H2 ι2 h2 xs ys I2 r r2 S2 rx ry P2 => ?_
  rw [hp2, e2] at P2
  cases ep : placeS (some (es.length, (kws.filterMap (·.arg)).length, pl)) xs ys with
  | none => rw [ep] at P2; exact P2.elim
  | some bs =>
    rw [ep, hG] at P2
    obtain ⟨l1, l2, l3⟩ := placeS_ok ep
    exact run_atK F C.gd ((C.room hc).mono (by omega)) so C.tk I2 r r2 (by rw [← rx.length]; exact l1) (by rw [← ry.length]; exact l2) S2.rep (rx.append ry) l3 P2
theorem meth_eqK {o : Expr} {m : Str} {apos pos : Pos} {es : List Expr} {kws : List Keyword} {env : Env} (hn : notCl o = true) (hs : es.all notStar = true) (hk : kws.all (·.arg.isSome) = true) (hl : es.length + kws.length < 25) (hp : (apos.endLine == pos.line) = true) :
    eval (.Call (.Attribute o m apos) es kws pos) env = (do
      let ov ← eval o env
      standAt apos.atName
      let (f, first) ← holding [ov] (getMethod ov m (do return (← importBound o env).getD true))
      callWith pos f first (backTo pos (starEach es env)) (backToKw pos (keywordEach kws env))) := by
  obtain ⟨k1, k2, k3, k4⟩ := kw_all (pos := pos) (env := env) hk
  have hp' : methodCallPos true o env apos pos = pure pos := by
    unfold methodCallPos
    rw [hp]
    rfl
  have few : methodCallForm (es.length + kws.length) (backTo pos (starEach es env)) (backToKw pos (keywordEach kws env)) = true := by
    unfold methodCallForm
    rw [star_all hs, k1]
    have : (if (backToKw pos (keywordEach kws env)).isEmpty = true then 0 else 1) ≤ 1 := by split <;> omega
    show (true && true && decide (es.length + kws.length + (if (backToKw pos (keywordEach kws env)).isEmpty = true then 0 else 1) < 30)) = true
    rw [decide_eq_true (by omega)]
    rfl
  rw [arm_eval_Call, attr_base hn]
  unfold methodCall
  rw [few, hp']
  rfl
theorem snd_methK (C : Cok κ B ct n k X W) (hc : k.hot = false) {m sh : Nat} {o : E} {as ks : Es} {o' : Expr} {es : List Expr} {kws : List Keyword} {x : Str} {p q : Pos} (hm : ct.att.lookup x = some m) (hn : notCl o' = true) (hs : es.all notStar = true) (hl : es.length + kws.length < 25) (hp : (p.endLine == q.line) = true)
    (he : es = [] → as = .nil) (hke : kws = [] → ks = .nil) (hall : kws.all (·.arg.isSome) = true) (hsh : shpB ct.shp sh (es.length + 1) kws = true) (hG : G.call = Gam B n) (hG2 : G.mt = B.mt) (hps : G.sok = B.sok) (hp2 : G.shp = B.shp) (ho : Snd κ G X W o o') (ha : SndA κ G X W as es) (hks : SndK κ G X W ks kws) :
    Snd κ G X W (.methK m sh o as ks) (.Call (.Attribute o' x p) es kws q) := by
  refine Snd.plain C.hK ?_ rfl
  have hr : Room (2 * n + 2) X.A := (C.room hc).mono (by omega)
  refine ⟨fun pins s σ H Q I rd => ?_⟩
  obtain ⟨ι, τ, h0, R, S, P⟩ := rd
  have P : Post κ (RV κ) W σ ι h0 H ((evalE G o τ h0).bind fun x h1 => match clsOf h1 x with
      | some (c, fs) => match G.mt c m, fs.lookup m with
        | some f, none => if G.sok f sh = true then (evalEs G as τ h1).bind fun vs h2 => (evalEs G ks τ h2).bind fun ws h3 => match placeS (G.shp sh) (x :: vs) ws with
            | some us => G.call f us h3
            | none => .bad
          else .bad
        | _, _ => .bad
      | none => .bad) Q := P
  have recv : Rd κ W (evalE G o) σ H fun v H1 => ∃ ι1 h1 a c fs f, Rep κ ι1 h1 H1 ∧ RS κ H1 ι1 h1.n τ σ ∧ RV κ H1 ι1 h1.n a v ∧ clsOf h1 a = some (c, fs) ∧ B.mt c m = some f ∧ fs.lookup m = none ∧ B.sok f sh = true ∧
      Post κ (RV κ) W σ ι1 h1 H1 ((evalEs G as τ h1).bind fun vs h2 => (evalEs G ks τ h2).bind fun ws h3 => match placeS (B.shp sh) (a :: vs) ws with
            | some us => Gam B n f us h3
            | none => .bad) Q := by
    refine RdG.step R S P fun ι1 h1 H1 a v S1 rs r q => ?_
    cases ec : clsOf h1 a with
    | none => rw [ec] at q; exact q.elim
    | some cf =>
      obtain ⟨c, fs⟩ := cf
      rw [ec, hG, hG2, hp2, hps] at q
      dsimp only at q
      split at q
      · rename_i f e1 e2
        split at q
        · rename_i hok
          exact ⟨ι1, h1, a, c, fs, f, S1.rep, rs, r, ec, e1, e2, hok, q⟩
        · exact q.elim
      · exact q.elim
  refine PySem.W.methodCall_KW (thn (ho.pe.run pins s σ H _ I recv) fun u s1 ⟨v, H1, I1, rv, ι1, h1, a, c, fs, f, R1, S1, ra, ec, em, ef, hok, P1⟩ => ?_) (meth_eqK hn hs hall hl hp)
  obtain ⟨b, dx, ys, rfl, _, hb1, rfl, hq, rf⟩ := clsOf_ok R1 ra ec
  obtain ⟨cl, fa, fd, ps, hM, F, _, hb⟩ := (C.wf hc).mtF c m f em
  obtain ⟨pn, nms, pl, e1, e2, so⟩ := hb sh hok
  obtain ⟨rfl, rfl⟩ := shp_ok hsh e1
  obtain rfl : u = Value.ref (ι1 b) := rv
  rw [C.wc.att x m hm] at hM
  have nof : ys.lookup x = none := by
    rw [← C.wc.att x m hm]
    exact rf.none ef
  refine getmeth_ok I1 hq cl hM nof ?_
  refine args_run (first := [.ref (ι1 b)]) hM.kp (I1.tok _) R1 S1 ha hks hs he hke hall P1 fun us ws vs zs s2 H2 ι2 h2 xs ys I2 r r2 S2 rx ry P2 => ?_
  rw [e2] at P2
  cases ep : placeS (some (es.length + 1, (kws.filterMap (·.arg)).length, pl)) (.ref b :: xs) ys with
  | none => rw [ep] at P2; exact P2.elim
  | some bs =>
    rw [ep] at P2
    obtain ⟨l1, l2, l3⟩ := placeS_ok ep
    have rx' : RVs κ H2 ι2 h2.n (.ref b :: xs) (.ref (ι1 b) :: vs) := ⟨_, _, rfl, S2.val R1 ra, rx⟩
    exact run_atK (us := .ref (ι1 b) :: us) (vs := .ref (ι1 b) :: vs) F C.gd hr so C.tk I2 (.cons rfl r) r2 (by rw [← rx'.length]; exact l1) (by rw [← ry.length]; exact l2) S2.rep (rx'.append ry) l3 P2
theorem run_newK {m f c : Nat} {fi : Addr} {fd : FuncData} {ps : List Str} {pins : List (Addr × Obj)} {σ : L2.St} {H : Hp} {s : Shared} {Q : VK} {us ws : List Value} {vs zs : List V} {nms : List Str} {pn : Nat} {pl : List PL} (M : Mk X.K (κ.C c) fi) (F : FnG X.prog X.w X.K X.mg X.base (L2.CX X.prog X.w) m fi fd ps (SP κ B n f))
    (gd : X.A.guards = some []) (hr : Room (m + 1) X.A) (so : ShOk κ X.K fd ps pn nms pl) (tk : Takes X W) (I : L2.Inv X pins σ H s) (r : Vals vs us) (rz : Vals zs ws) (l1 : vs.length + 1 = pn) (l2 : zs.length = nms.length) {ι : Io} {h : AH} {xs ys bs : List AV} (R : Rep κ ι h H) (rx : RVs κ H ι h.n xs vs) (ry : RVs κ H ι h.n ys zs) (hp : place (.ref h.n :: (xs ++ ys)) pl = some bs)
    (P : Post κ (RV κ) W σ ι h H ((Gam B n f bs (h.push (.ins c []))).bind fun r h2 => match r with
        | .non => .ok (.ref h.n) h2
        | _ => .bad) Q) : wpAny (model X.prog X.w) X.A (call (.ref (κ.C c)) us (nms.zip ws)) (EP X pins σ Q) X.xe s := by
  obtain ⟨g, gV, hb, hrel⟩ := so
  obtain ⟨xa, hxa⟩ : ∃ xa, xa = s.heap.objs.size + 1 := ⟨_, rfl⟩
  have n1 : H xa = none := I.hok.fresh (by omega)
  have n2 : H s.heap.objs.size = none := I.hok.fresh (Nat.le_refl _)
  have ne : s.heap.objs.size ≠ xa := by omega
  have S2 := Rep.made (c := c) R n1 n2 ne
  have rself : RV κ (upd (upd H s.heap.objs.size (.own xa)) xa (.ins (κ.C c) s.heap.objs.size [])) (ext1 ι h.n xa) (h.n + 1) (.ref h.n) (.ref xa) := ⟨Nat.lt_succ_self _, by rw [ext1_new]⟩
  have J := L2.Inv.made (C := κ.C c) I
  rw [← hxa] at J
  have rall : RVs κ (upd (upd H s.heap.objs.size (.own xa)) xa (.ins (κ.C c) s.heap.objs.size [])) (ext1 ι h.n xa) (h.n + 1) (.ref h.n :: (xs ++ ys)) ((.ref xa :: vs) ++ zs) := ⟨_, _, rfl, rself, (S2.vals R rx).append (S2.vals R ry)⟩
  have rb := hrel _ _ _ _ (.ref xa :: vs) zs bs rall (by simpa using l1) l2 hp
  have hsp : SP κ B n f (gV (.ref xa :: vs) zs) (upd (upd H s.heap.objs.size (.own xa)) xa (.ins (κ.C c) s.heap.objs.size [])) (fun v H2 => v = .non ∧ Q (.ref xa) H2) (WE W σ) := by
    refine ⟨_, _, bs, S2.rep, rb, ?_⟩
    refine Post.any (W := W) (σ := σ) (((Post.pre P S2).bind).mono fun v H3 ⟨ι3, h3, r, S3, rr, P3⟩ => ?_)
    cases r with
    | non => exact ⟨rr, P3 ι3 H3 (.ref xa) (Stp.refl S3.rep) (S3.val S2.rep rself)⟩
    | _ => exact P3.elim
  have r1 : Vals (V.ref xa :: vs) (Value.ref xa :: us) := .cons rfl r
  have r2 := hb.rel r1 rz
  refine wpAny_call (L2.make_map (f := fi) I.kIn M.makes M.init (beq_iff_eq.mp M.fn) ?_)
  rw [← hxa]
  refine codeAny_mono (F.run _ X.stack _ _ ⟨Value.ref xa :: us, nms.zip ws⟩ (g (Value.ref xa :: us) ws) _ _ (WE W σ) (make_guards gd) (hr.make (κ.C c) us (nms.zip ws)) (J.env0.make (κ.C c) us (nms.zip ws)) (hb.to _ (Value.ref xa :: us) ws J.kIn (by rw [← r1.length]; simpa using l1) (by rw [← rz.length]; exact l2)) r2 hsp) fun res s2 z => ?_
  cases res with
  | error er => exact passAt tk σ pins _ _ er s2 J z
  | ok fl =>
    cases fl with
    | ret u =>
      obtain ⟨v, H3, J3, rv, ev, q3⟩ := J.after z
      subst ev
      exact ⟨rv, ⟨V.ref xa, H3, J3, rfl, q3⟩⟩
    | _ => exact z.elim
theorem snd_newK (C : Cok κ B ct n k X W) (hc : k.hot = false) {c sh : Nat} {as ks : Es} {es : List Expr} {kws : List Keyword} {x : Str} {p q : Pos} (hcl : ct.cls.lookup x = some c) (hg : glB k.sc x = true) (hs : es.all notStar = true) (he : es = [] → as = .nil) (hke : kws = [] → ks = .nil) (hall : kws.all (·.arg.isSome) = true)
    (hsh : shpB ct.shp sh (es.length + 1) kws = true) (hG : G.call = Gam B n) (hG2 : G.ini = B.ini) (hp : G.sok = B.sok) (hp2 : G.shp = B.shp) (ha : SndA κ G X W as es) (hks : SndK κ G X W ks kws) : Snd κ G X W (.newK c sh as ks) (.Call (.Name x p) es kws q) := by
  obtain ⟨g1, g2, g3⟩ := gl_of C hg
  refine Snd.plain C.hK ?_ rfl
  refine ⟨fun pins s σ H Q I rd => ?_⟩
  obtain ⟨ι, τ, h0, R, S, P⟩ := rd
  have P : Post κ (RV κ) W σ ι h0 H (match G.ini c with
      | some f => if G.sok f sh = true then (evalEs G as τ h0).bind fun vs h1 => (evalEs G ks τ h1).bind fun ws h2 => match placeS (G.shp sh) (.ref h2.n :: vs) ws with
          | some us => (G.call f us (h2.push (.ins c []))).bind fun r h3 => match r with
            | .non => .ok (.ref h2.n) h3
            | _ => .bad
          | none => .bad
        else .bad
      | none => .bad) Q := P
  rw [hG, hG2, hp, hp2] at P
  cases ei : B.ini c with
  | none => rw [ei] at P; exact P.elim
  | some f =>
    obtain ⟨hm, fi, fd, ps, M, F, _, hb⟩ := (C.wf hc).inF x c f hcl ei
    rw [ei] at P
    dsimp only at P
    split at P
    case isFalse => exact P.elim
    rename_i hok
    obtain ⟨pn, nms, pl, e1, e2, so⟩ := hb sh hok
    obtain ⟨rfl, rfl⟩ := shp_ok hsh e1
    refine wpAny_Call_Name_kw (ld_glob I g1 hm ?_ g2)
    refine args_run (first := []) M.kp I R S ha hks hs he hke hall P fun us ws vs zs s2 H2 ι2 h2 xs ys I2 r r2 S2 rx ry P2 => ?_
    rw [e2] at P2
    cases ep : placeS (some (es.length + 1, (kws.filterMap (·.arg)).length, pl)) (.ref h2.n :: xs) ys with
    | none => rw [ep] at P2; exact P2.elim
    | some bs =>
      rw [ep] at P2
      obtain ⟨l1, l2, l3⟩ := placeS_ok ep
      exact run_newK M F C.gd ((C.room hc).mono (by omega)) so C.tk I2 r r2 (by rw [← rx.length]; simpa using l1) (by rw [← ry.length]; exact l2) S2.rep rx ry l3 P2
end
end Mi
set_option Elab.async false
set_option maxRecDepth 100000
set_option maxHeartbeats 4000000
/-! MiSnd5: targets, walks, comprehensions of lists. -/
namespace Mi
open PySem L2 PySem.Spec PyProof.Rows
/-! ### targets -/
/-- a target's reading: the slots after it -/
def gTg (κ : Ks) (t : T) : TG := fun v σ H Q => ∃ ι τ h a τ', Rep κ ι h H ∧ RS κ H ι h.n τ σ ∧ RV κ H ι h.n a v ∧ asgT t a τ = some τ' ∧
  ∀ σ', RS κ H ι h.n τ' σ' → σ'.length = σ.length → (∀ i, i ∉ t.slots → σ'[i]? = σ[i]?) → Q σ' H
def gTgs (κ : Ks) (t : Ts) : TGs := fun vs σ H Q => ∃ ι τ h as τ', Rep κ ι h H ∧ RS κ H ι h.n τ σ ∧ RVs κ H ι h.n as vs ∧ asgTs t as τ = some τ' ∧
  ∀ σ', RS κ H ι h.n τ' σ' → σ'.length = σ.length → (∀ i, i ∉ t.slots → σ'[i]? = σ[i]?) → Q σ' H
theorem RS.set {κ : Ks} {H : Hp} {ι : Io} {n : Nat} {τ : Frame} {σ : L2.St} (r : RS κ H ι n τ σ) {a : AV} {v : V} (rv : RV κ H ι n a v) (i : Nat) : RS κ H ι n (τ.set i (some a)) (σ.set i (some v)) := by
  refine ⟨by rw [List.length_set, List.length_set]; exact r.1, fun j x e => ?_⟩
  by_cases hj : i = j
  · subst hj
    have hl : i < τ.length := by
      have := List.getElem?_eq_some_iff.mp e
      obtain ⟨q, _⟩ := this
      rwa [List.length_set] at q
    rw [List.getElem?_set_self hl] at e
    have e2 : a = x := by simpa using e
    subst e2
    exact ⟨v, List.getElem?_set_self (r.1 ▸ hl), rv⟩
  · rw [List.getElem?_set_ne hj] at e
    rw [List.getElem?_set_ne hj]
    exact r.2 j x e
theorem RS.wipe {κ : Ks} {H : Hp} {ι : Io} {n : Nat} {τ : Frame} {σ : L2.St} (r : RS κ H ι n τ σ) : ∀ vs : List Nat, RS κ H ι n (wipeA τ vs) (L2.wipe σ vs)
  | [] => r
  | v :: vs => by
    have q := RS.wipe r vs
    refine ⟨by show ((wipeA τ vs).set v none).length = ((L2.wipe σ vs).set v none).length; rw [List.length_set, List.length_set]; exact q.1, fun j x e => ?_⟩
    have e : ((wipeA τ vs).set v none)[j]? = some (some x) := e
    show ∃ u, ((L2.wipe σ vs).set v none)[j]? = some (some u) ∧ _
    by_cases hj : v = j
    · subst hj
      by_cases hl : v < (wipeA τ vs).length
      · rw [List.getElem?_set_self hl] at e; cases e
      · rw [List.getElem?_eq_none (by simpa using hl)] at e; cases e
    · rw [List.getElem?_set_ne hj] at e
      rw [List.getElem?_set_ne hj]
      exact q.2 j x e
theorem wipe_off {σ σ' : L2.St} (hl : σ'.length = σ.length) : ∀ (vs : List Nat), (∀ i, i ∉ vs → σ'[i]? = (L2.wipe σ vs)[i]?) → L2.wipe σ' vs = L2.wipe σ vs := by
  have get : ∀ (τ : L2.St) (vs : List Nat) (i : Nat), i ∈ vs → (L2.wipe τ vs)[i]? = if i < τ.length then some none else none := by
    intro τ vs
    induction vs with
    | nil => intro i hi; cases hi
    | cons v vs ih =>
      intro i hi
      show ((L2.wipe τ vs).set v none)[i]? = _
      by_cases hv : v = i
      · subst hv
        by_cases hl : v < τ.length
        · rw [if_pos hl, List.getElem?_set_self (by rw [L2.wipe_length]; exact hl)]
        · rw [if_neg hl, List.getElem?_eq_none (by rw [List.length_set, L2.wipe_length]; omega)]
      · rw [List.getElem?_set_ne hv]
        rcases List.mem_cons.mp hi with e | hi
        · exact absurd e.symm hv
        · exact ih i hi
  have off : ∀ (τ : L2.St) (vs : List Nat) (i : Nat), i ∉ vs → (L2.wipe τ vs)[i]? = τ[i]? := by
    intro τ vs
    induction vs with
    | nil => intro i _; rfl
    | cons v vs ih =>
      intro i hi
      rw [List.mem_cons, not_or] at hi
      show ((L2.wipe τ vs).set v none)[i]? = _
      rw [List.getElem?_set_ne (fun e => hi.1 e.symm)]
      exact ih i hi.2
  intro vs h
  apply List.ext_getElem?
  intro i
  by_cases hi : i ∈ vs
  · rw [get σ' vs i hi, get σ vs i hi, hl]
  · rw [off σ' vs i hi, h i hi, off σ vs i hi]
theorem L2wipe_wipe_len (σ : L2.St) (vs : List Nat) : (L2.wipe σ vs).length = σ.length := L2.wipe_length σ vs
section
variable {κ : Ks} {B : Tb} {ct : Ct} {n : Nat} {k : Cc} {X : Cx} {W : WX} {G : PG}
theorem chkT_tp {ts : Ts} {e : Expr} (h : chkT k (.tp ts) e = true) : ∃ es j p, e = .Tuple es j p ∧ chkTs k ts es = true ∧ k.hot = false := by
  unfold chkT at h
  split at h
  · rename_i z; cases z
  · rename_i z; cases z
    simp only [Bool.and_eq_true, Bool.not_eq_true'] at h
    exact ⟨_, _, _, rfl, h⟩
  · cases h
theorem asg1 {e : Expr} {es : List Expr} {env : Env} (h : notStar e = true) : assignEach (e :: es) env = (false, assign e env) :: assignEach es env := by cases e <;> first | rfl | cases h
mutual
theorem pg_T (C : Cok κ B ct n k X W) : ∀ (t : T) (e : Expr), chkT k t e = true → L2.PG X e (gTg κ t)
  | .nm i, e, h => by
    unfold chkT at h
    split at h
    · rename_i j x p z
      cases z
      simp only [Bool.and_eq_true, decide_eq_true_eq] at h
      obtain ⟨h1, h2⟩ := h
      have hl : L2.Loc X.env.scope x ∧ (X.fn x = true ∨ X.env.scope.names.lookup x = some .local) := by
        rw [C.sc]
        unfold L2.Loc
        split at h2
        · rename_i e; exact ⟨.inl e, .inr e⟩
        · rename_i e; exact ⟨.inr e, .inl (C.fn h2 x)⟩
        · cases h2
      have base := pg_name (pos := p) C.nd (by rw [C.N]; exact h1) hl.1 hl.2
      refine ⟨fun pins s σ H v u Q I r q => base.run pins s σ H v u Q I r ?_⟩
      obtain ⟨ι, τ, h0, a, τ', R, S, rv, ea, q⟩ := q
      unfold asgT at ea
      split at ea
      · cases ea
        refine q _ (S.set rv i) (by rw [List.length_set]) fun j hj => ?_
        have hj : i ≠ j := fun z => hj (by subst z; unfold T.slots; simp)
        rw [List.getElem?_set_ne hj]
      · cases ea
    · rename_i z
      exact T.noConfusion z
    · cases h
  | .tp ts, e, h => by
    obtain ⟨es, j, p, rfl, h, hc⟩ := chkT_tp h
    obtain ⟨hs, hst⟩ := pgs_T C ts es h
    have base := pg_tup (pos := p) (k := j) (n := es.length) (C.calm hc) hs (by
      have : ∀ (ts : Ts) (es : List Expr), chkTs k ts es = true → (assignEach es X.env).length = es.length := by
        intro ts es
        induction es generalizing ts with
        | nil => intro _; rfl
        | cons e es ih =>
          intro h
          cases ts with
          | nil => cases h
          | cons t r =>
            unfold chkTs at h
            simp only [Bool.and_eq_true] at h
            rw [asg1 h.1.2, List.length_cons, List.length_cons, ih r h.2]
      exact this ts es h) hst
    refine ⟨fun pins s σ H v u Q I r q => base.run pins s σ H v u Q I r ?_⟩
    obtain ⟨ι, τ, h0, a, τ', R, S, rv, ea, q⟩ := q
    cases a with
    | tup vs =>
      obtain ⟨q0, ys, rfl, hq, rr⟩ := Rep.tup (h := h0) rv
      have ea : asgTs ts vs τ = some τ' := ea
      refine ⟨q0, ys, rfl, C.hK ▸ hq, ?_, ι, τ, h0, vs, τ', R, S, rr, ea, q⟩
      rw [← rr.length]
      have : ∀ (ts : Ts) (es : List Expr) (vs : List AV) (τ τ' : Frame), chkTs k ts es = true → asgTs ts vs τ = some τ' → vs.length = es.length := by
        intro ts es
        induction es generalizing ts with
        | nil =>
          intro vs τ τ' h e
          cases ts with
          | nil => cases vs with
            | nil => rfl
            | cons v vs => cases e
          | cons t r => cases h
        | cons e0 es ih =>
          intro vs τ τ' h e
          cases ts with
          | nil => cases h
          | cons t r =>
            unfold chkTs at h
            simp only [Bool.and_eq_true] at h
            cases vs with
            | nil => cases e
            | cons v vs =>
              unfold asgTs at e
              cases e1 : asgT t v τ with
              | none => rw [e1] at e; cases e
              | some τ1 =>
                rw [e1] at e
                have := ih r vs τ1 τ' h.2 e
                rw [List.length_cons, List.length_cons, this]
      exact this ts es vs τ τ' h ea
    | _ => cases ea
theorem pgs_T (C : Cok κ B ct n k X W) : ∀ (ts : Ts) (es : List Expr), chkTs k ts es = true → PGs X es (gTgs κ ts) ∧ (assignEach es X.env).findIdx? (·.1) = none
  | .nil, [], _ => by
    refine ⟨⟨fun pins s σ H vs us Q I r q => pgs_nil.run pins s σ H vs us Q I r ?_⟩, rfl⟩
    obtain ⟨ι, τ, h0, as, τ', R, S, rv, ea, q⟩ := q
    cases as with
    | nil =>
      cases ea
      exact ⟨rv, q σ S rfl fun _ _ => rfl⟩
    | cons a as => cases ea
  | .nil, _ :: _, h => by cases h
  | .cons t r, [], h => by cases h
  | .cons t r, e :: es, h => by
    unfold chkTs at h
    simp only [Bool.and_eq_true] at h
    obtain ⟨⟨h1, h2⟩, h3⟩ := h
    have p1 := pg_T C t e h1
    obtain ⟨p2, f2⟩ := pgs_T C r es h3
    have he := asg1 (es := es) (env := X.env) h2
    have base := pgs_cons p1 p2 (by rw [he]; rfl)
    refine ⟨⟨fun pins s σ H vs us Q I r' q => base.run pins s σ H vs us Q I r' ?_⟩, ?_⟩
    · obtain ⟨ι, τ, h0, as, τ', R, S, rv, ea, q⟩ := q
      cases as with
      | nil => cases ea
      | cons a as =>
        obtain ⟨v, ws, rfl, rv1, rv2⟩ := rv
        unfold asgTs at ea
        cases e1 : asgT t a τ with
        | none => rw [e1] at ea; cases ea
        | some τ1 =>
          rw [e1] at ea
          have ea : asgTs r as τ1 = some τ' := ea
          refine ⟨v, ws, rfl, ι, τ, h0, a, τ1, R, S, rv1, e1, fun σ1 S1 l1 o1 => ?_⟩
          refine ⟨ι, τ1, h0, as, τ', R, S1, rv2, ea, fun σ2 S2 l2 o2 => q σ2 S2 (l2.trans l1) fun i hi => ?_⟩
          have hi : i ∉ t.slots ++ r.slots := hi
          rw [List.mem_append, not_or] at hi
          rw [o2 i hi.2, o1 i hi.1]
    · rw [he, List.findIdx?_cons]
      show (if false = true then some 0 else _) = none
      rw [if_neg (by simp), f2]
      rfl
end
/-! ### walks -/
/-- an iterator serves a walk -/
def JR (κ : Ks) (ι : Io) (h : AH) (H : Hp) (p : List AV × Watch) (J : L2.It) : Prop := ∀ ι' h' H', Stp κ ι h H ι' h' H' → Still p.2 h' →
  (∀ i, i < p.1.length → J.go i H' ∧ ∀ x H2, J.yld i H' x H2 → Stp κ ι' h' H' ι' h' H2 ∧ ∃ a, p.1[i]? = some a ∧ RV κ H2 ι' h'.n a x) ∧ ∀ i, p.1.length ≤ i → J.stop i H'
theorem JR.pre {ι ι1 : Io} {h h1 : AH} {H H1 : Hp} {p : List AV × Watch} {J : L2.It} (j : JR κ ι h H p J) (S : Stp κ ι h H ι1 h1 H1) : JR κ ι1 h1 H1 p J := fun ι' h' H' S' => j ι' h' H' (S.trans S')
def PostI (κ : Ks) (W : WX) (σ : L2.St) (ι : Io) (h : AH) (H : Hp) (r : Res (List AV × Watch)) (Q : L2.It → Hp → Prop) : Prop := match r with
  | .ok p h' => ∀ ι' H' J, Stp κ ι h H ι' h' H' → JR κ ι' h' H' p J → Q J H'
  | .exc c fs h' => ∀ ι' H' d ys, Stp κ ι h H ι' h' H' → H' d = some (.xd ys) → RFs κ H' ι' h'.n fs ys → W (.ref (κ.C c)) (some d) σ H'
  | .bad => False
def RdI (κ : Ks) (W : WX) (f : Frame → AH → Res (List AV × Watch)) : TI := fun σ H Q => ∃ ι τ h, Rep κ ι h H ∧ RS κ H ι h.n τ σ ∧ PostI κ W σ ι h H (f τ h) Q
theorem PostI.pre {σ : L2.St} {ι ι1 : Io} {h h1 : AH} {H H1 : Hp} {r : Res (List AV × Watch)} {Q : L2.It → Hp → Prop} (p : PostI κ W σ ι h H r Q) (S : Stp κ ι h H ι1 h1 H1) : PostI κ W σ ι1 h1 H1 r Q := by
  cases r with
  | ok a h' => exact fun ι' H' b S' r => p ι' H' b (S.trans S') r
  | exc c fs h' => exact fun ι' H' d ys S' => p ι' H' d ys (S.trans S')
  | bad => exact p
theorem PostI.bind {α β : Type} {R : Hp → Io → Nat → α → β → Prop} {σ : L2.St} {ι : Io} {h : AH} {H : Hp} {r : Res α} {kk : α → AH → Res (List AV × Watch)} {Q : L2.It → Hp → Prop} (p : PostI κ W σ ι h H (r.bind kk) Q) :
    Post κ R W σ ι h H r fun b H1 => ∃ ι1 h1 a, Stp κ ι h H ι1 h1 H1 ∧ R H1 ι1 h1.n a b ∧ PostI κ W σ ι1 h1 H1 (kk a h1) Q := by
  cases r with
  | ok a h' => exact fun ι' H' b S r => ⟨ι', h', a, S, r, PostI.pre p S⟩
  | exc c fs h' => exact p
  | bad => exact p
theorem jr_list {ι : Io} {h : AH} {H : Hp} {xs : List AV} {w : Watch} {q : Addr} (hh : ∀ ι' h' H', Stp κ ι h H ι' h' H' → Still w h' → ∃ ys, SqL κ.K H' q ys ∧ RVs κ H' ι' h'.n xs ys) : JR κ ι h H (xs, w) (Itl κ.K q) := by
  intro ι' h' H' S st
  obtain ⟨ys, h1, h2⟩ := hh ι' h' H' S st
  have hl := h2.length
  refine ⟨fun i hi => ⟨⟨ys, ys[i]'(by rw [← hl]; exact hi), h1, List.getElem?_eq_getElem _⟩, fun x H2 ⟨e, y⟩ => ?_⟩, fun i hi => ⟨ys, h1, by rw [← hl]; exact hi⟩⟩
  subst e
  refine ⟨Stp.refl S.rep, ?_⟩
  have ea : xs[i]? = some (xs[i]'hi) := List.getElem?_eq_getElem _
  obtain ⟨v, e1, e2⟩ := h2.get ea
  rw [y ys h1] at e1
  cases e1
  exact ⟨_, ea, e2⟩
theorem jr_tup {ι : Io} {h : AH} {H : Hp} {xs : List AV} {w : Watch} {q : Addr} (hh : ∀ ι' h' H', Stp κ ι h H ι' h' H' → Still w h' → ∃ ys, SqT κ.K H' q ys ∧ RVs κ H' ι' h'.n xs ys) : JR κ ι h H (xs, w) (Itt κ.K q) := by
  intro ι' h' H' S st
  obtain ⟨ys, h1, h2⟩ := hh ι' h' H' S st
  have hl := h2.length
  refine ⟨fun i hi => ⟨⟨ys, ys[i]'(by rw [← hl]; exact hi), h1, List.getElem?_eq_getElem _⟩, fun x H2 ⟨e, y⟩ => ?_⟩, fun i hi => ⟨ys, h1, by rw [← hl]; exact hi⟩⟩
  subst e
  refine ⟨Stp.refl S.rep, ?_⟩
  have ea : xs[i]? = some (xs[i]'hi) := List.getElem?_eq_getElem _
  obtain ⟨v, e1, e2⟩ := h2.get ea
  rw [y ys h1] at e1
  cases e1
  exact ⟨_, ea, e2⟩
theorem upTo_len : ∀ (n : Nat) (lo : Int), (upTo lo n).length = n
  | 0, _ => rfl
  | n + 1, lo => by unfold upTo; rw [List.length_cons, upTo_len n]
theorem upTo_get : ∀ (n : Nat) (lo : Int) (i : Nat), i < n → (upTo lo n)[i]? = some (.int (lo + i))
  | 0, _, i, h => absurd h (Nat.not_lt_zero _)
  | n + 1, lo, 0, h => by unfold upTo; simp
  | n + 1, lo, i + 1, h => by
    unfold upTo
    rw [List.getElem?_cons_succ, upTo_get n (lo + 1) i (by omega)]
    congr 2
    omega
theorem jr_rng {ι : Io} {h : AH} {H : Hp} {lo : Int} {m : Nat} : JR κ ι h H (upTo lo m, []) (Itr lo m) := by
  intro ι' h' H' S st
  refine ⟨fun i hi => ?_, fun i hi => ?_⟩
  · have hi : i < m := by rw [← upTo_len m lo]; exact hi
    refine ⟨hi, fun x H2 ⟨e1, e2⟩ => ?_⟩
    subst e1
    exact ⟨Stp.refl S.rep, _, upTo_get m lo i hi, e2⟩
  · show m ≤ i
    rw [← upTo_len m lo]; exact hi
/-- a list or tuple is walked -/
theorem pi_seq {tg l : Expr} {tl : TE} (hl : PE X l tl) : PI X tg l fun σ H R => tl σ H fun x H1 => ∃ q, x = V.ref q ∧ (((∃ xs, SqL X.K H1 q xs) ∧ R (Itl X.K q) H1) ∨ ((∃ xs, SqT X.K H1 q xs) ∧ R (Itt X.K q) H1)) := by
  constructor
  intro pins s σ H R I hw
  refine thn (hl.run pins s σ H _ I hw) fun v s1 z => ?_
  obtain ⟨x, H1, I1, r1, q, rfl, z⟩ := z
  obtain rfl : v = Value.ref q := r1
  have old : ∀ b ∈ [s1.heap.objs.size], FpOk X pins H1 b := fun b hb => by
    rw [List.mem_singleton.mp hb]
    exact I1.fpOk (Nat.le_refl s1.heap.objs.size) (I1.hok.fresh (Nat.le_refl s1.heap.objs.size))
  rcases z with ⟨⟨xs, hq⟩, z⟩ | ⟨⟨xs, hq⟩, z⟩
  · obtain ⟨its, rv, p, _⟩ := I1.list hq
    exact wpAny_pyIter_list p.isList ⟨_, _, _, _, H1, rfl,
      I1.kept (t' := s1.toks) (fun b o e => Heap.get?_push_of_some _ e), turn_list q _, ⟨_, Heap.get?_push_size _ rfl, rfl, rfl⟩, old, z⟩
  · obtain ⟨its, rv, p, _⟩ := I1.tuple hq
    exact wpAny_pyIter_tuple (items := its.toArray) p ⟨_, _, _, _, H1, rfl,
      I1.kept (t' := s1.toks) (fun b o e => Heap.get?_push_of_some _ e), turn_tuple q _, ⟨_, Heap.get?_push_size _ rfl, rfl, rfl⟩, old, z⟩
theorem PI.imp {tg e : Expr} {t t' : TI} (kk : ∀ σ H Q, t' σ H Q → t σ H Q) (p : PI X tg e t) : PI X tg e t' := ⟨fun pins s σ H Q I q => p.run pins s σ H Q I (kk σ H Q q)⟩
theorem snd_of (C : Cok κ B ct n k X W) {a : E} {tg a' : Expr} (ha : Snd κ G X W a a') : PI X tg a' (RdI κ W (evalIt G (.of a))) := by
  refine PI.imp (fun σ H Q q => ?_) (pi_seq ha.pe)
  obtain ⟨ι, τ, h0, R, S, P⟩ := q
  have P : PostI κ W σ ι h0 H ((evalE G a τ h0).bind fun x h1 => ofO ((itOf x h1).map fun p => (p, h1))) Q := P
  refine ⟨ι, τ, h0, R, S, (PostI.bind (R := RV κ) P).mono fun v H1 ⟨ι1, h1, x, S1, r, q⟩ => ?_⟩
  have R1 := S1.rep
  rw [C.hK]
  cases x with
  | tup xs =>
    obtain ⟨p, ys, rfl, hq, _⟩ := Rep.tup (h := h1) r
    refine ⟨p, rfl, .inr ⟨⟨ys, hq⟩, q ι1 H1 _ (Stp.refl R1) (jr_tup fun ι' h' H' S' _ => ?_)⟩⟩
    obtain ⟨p', ys', e, hq', rr⟩ := Rep.tup (h := h') (S'.val R1 r)
    cases e
    exact ⟨ys', hq', rr⟩
  | frl ns =>
    obtain ⟨p, ys, rfl, hq, _⟩ := R1.rdL r rfl
    refine ⟨p, rfl, .inl ⟨⟨ys, hq⟩, q ι1 H1 _ (Stp.refl R1) (jr_list fun ι' h' H' S' _ => ?_)⟩⟩
    obtain ⟨p', ys', e, hq', rr⟩ := S'.rep.rdL (S'.val R1 r) rfl
    cases e
    exact ⟨ys', hq', rr⟩
  | ref b =>
    unfold itOf at q
    dsimp only at q
    split at q
    · rename_i xs eb
      obtain ⟨p, ys, rfl, hq, _⟩ := R1.rdL (xs := xs) r (by unfold Mi.rdL; simp only [eb])
      refine ⟨p, rfl, .inl ⟨⟨ys, hq⟩, q ι1 H1 _ (Stp.refl R1) (jr_list fun ι' h' H' S' st => ?_)⟩⟩
      have eb' : h'.get b = some (.lst xs) := st (b, .lst xs) (List.mem_singleton.mpr rfl)
      obtain ⟨p', ys', e, hq', rr⟩ := S'.rep.rdL (xs := xs) (S'.val R1 r) (by unfold Mi.rdL; simp only [eb'])
      cases e
      exact ⟨ys', hq', rr⟩
    · exact q.elim
  | _ => exact q.elim
theorem enumA_len : ∀ (xs : List AV) (i : Nat), (enumA i xs).length = xs.length
  | [], _ => rfl
  | x :: r, i => by unfold enumA; rw [List.length_cons, List.length_cons, enumA_len r]
theorem enumA_get : ∀ (xs : List AV) (i j : Nat) (x : AV), xs[j]? = some x → (enumA i xs)[j]? = some (.tup [.int ((i + j : Nat) : Int), x])
  | [], _, _, _, e => by simp at e
  | y :: r, i, 0, x, e => by
    cases e
    unfold enumA
    rfl
  | y :: r, i, j + 1, x, e => by
    unfold enumA
    rw [List.getElem?_cons_succ, enumA_get r (i + 1) j x e]
    congr 5
    omega
theorem jr_enum {ι : Io} {h : AH} {H : Hp} {xs : List AV} {w : Watch} {q : Addr} (hh : ∀ ι' h' H', Stp κ ι h H ι' h' H' → Still w h' → ∃ ys, SqL κ.K H' q ys ∧ RVs κ H' ι' h'.n xs ys) : JR κ ι h H (enumA 0 xs, w) (Ite κ.K q) := by
  intro ι' h' H' S st
  obtain ⟨ys, h1, h2⟩ := hh ι' h' H' S st
  have hl := h2.length
  refine ⟨fun i hi => ?_, fun i hi => ⟨ys, h1, by rw [← hl]; rw [enumA_len] at hi; exact hi⟩⟩
  have hi : i < xs.length := by rw [enumA_len] at hi; exact hi
  refine ⟨⟨ys, ys[i]'(by rw [← hl]; exact hi), h1, List.getElem?_eq_getElem _⟩, ?_⟩
  rintro v H2 ⟨T, x, rfl, hT, rfl, y⟩
  have ea : xs[i]? = some (xs[i]'hi) := List.getElem?_eq_getElem _
  obtain ⟨u, e1, e2⟩ := h2.get ea
  rw [y ys h1] at e1
  cases e1
  have S2 := S.rep.side (o := .tup [.int (i : Nat), x]) hT
  refine ⟨S2, _, enumA_get xs 0 i _ ea, ?_⟩
  have e0 : ((0 + i : Nat) : Int) = (i : Int) := by omega
  rw [e0]
  exact ⟨T, [.int i, x], rfl, ⟨_, _, rfl, rfl, _, _, rfl, S2.val S.rep e2, rfl⟩, .inl upd_same⟩
theorem snd_enum (C : Cok κ B ct n k X W) (hu : k.hot = false ∨ True) {a : E} {a' : Expr} {p q tpos : Pos} {elts : List Expr} {kk : Nat} {x : Str} (hx0 : x = "enumerate") (hg : glB k.sc x = true) (hx : ct.blt.contains x = true) (hs : notStar a' = true) (ha : Snd κ G X W a a') :
    PI X (.Tuple elts kk tpos) (.Call (.Name x p) [a'] [] q) (RdI κ W (evalIt G (.enum a))) := by
  subst hx0
  obtain ⟨g1, g2, g3⟩ := gl_of C hg
  refine PI.imp (fun σ H Q q => ?_) (pi_enum g1 (C.wc.blt _ (mem_blt hx)) (pa_cons ha.pe pa_nil (star1 hs)) (star1 hs))
  obtain ⟨ι, τ, h0, R, S, P⟩ := q
  have P : PostI κ W σ ι h0 H ((evalE G a τ h0).bind fun x h1 => ofO ((enumOf x h1).map fun p => (p, h1))) Q := P
  refine ⟨ι, τ, h0, R, S, (PostI.bind (R := RV κ) P).mono fun v H1 ⟨ι1, h1, x, S1, r, q⟩ => ?_⟩
  have R1 := S1.rep
  rw [C.hK]
  cases x with
  | frl ns =>
    obtain ⟨p, ys, rfl, hq, _⟩ := R1.rdL r rfl
    refine ⟨p, ys, rfl, hq, q ι1 H1 _ (Stp.refl R1) (jr_enum fun ι' h' H' S' _ => ?_)⟩
    obtain ⟨p', ys', e, hq', rr⟩ := S'.rep.rdL (S'.val R1 r) rfl
    cases e
    exact ⟨ys', hq', rr⟩
  | ref b =>
    unfold enumOf at q
    dsimp only at q
    split at q
    · rename_i xs eb
      obtain ⟨p, ys, rfl, hq, _⟩ := R1.rdL (xs := xs) r (by unfold Mi.rdL; simp only [eb])
      refine ⟨p, ys, rfl, hq, q ι1 H1 _ (Stp.refl R1) (jr_enum fun ι' h' H' S' st => ?_)⟩
      have eb' : h'.get b = some (.lst xs) := st (b, .lst xs) (List.mem_singleton.mpr rfl)
      obtain ⟨p', ys', e, hq', rr⟩ := S'.rep.rdL (xs := xs) (S'.val R1 r) (by unfold Mi.rdL; simp only [eb'])
      cases e
      exact ⟨ys', hq', rr⟩
    · exact q.elim
  | _ => exact q.elim
theorem snd_rng1 (C : Cok κ B ct n k X W) {a : E} {tg a' : Expr} {p q : Pos} {x : Str} (hx0 : x = "range") (hg : glB k.sc x = true) (hx : ct.blt.contains x = true) (hs : notStar a' = true) (ha : Snd κ G X W a a') : PI X tg (.Call (.Name x p) [a'] [] q) (RdI κ W (evalIt G (.rng1 a))) := by
  subst hx0
  obtain ⟨g1, g2, g3⟩ := gl_of C hg
  refine PI.imp (fun σ H Q q => ?_) (pi_range1 g1 (C.wc.blt _ (mem_blt hx)) (pa_cons ha.pe pa_nil (star1 hs)) (star1 hs))
  obtain ⟨ι, τ, h0, R, S, P⟩ := q
  have P : PostI κ W σ ι h0 H ((evalE G a τ h0).bind fun x h1 => ofO ((rngOf (.int 0) x).map fun p => (p, h1))) Q := P
  refine ⟨ι, τ, h0, R, S, (PostI.bind (R := RV κ) P).mono fun v H1 ⟨ι1, h1, x, S1, r, q⟩ => ?_⟩
  cases x with
  | int j =>
    obtain rfl : v = .int j := r
    unfold rngOf at q
    dsimp only at q
    split at q
    · rename_i hb
      refine ⟨j, rfl, hb.2.2.1, hb.2.2.2, ?_⟩
      have e : (j - 0).toNat = j.toNat := by simp
      rw [e] at q
      exact q ι1 H1 _ (Stp.refl S1.rep) jr_rng
    · exact q.elim
  | _ => exact q.elim
theorem snd_rng2 (C : Cok κ B ct n k X W) {a b : E} {tg a' b' : Expr} {p q : Pos} {x : Str} (hx0 : x = "range") (hg : glB k.sc x = true) (hx : ct.blt.contains x = true) (hs : notStar a' = true) (hs2 : notStar b' = true) (ha : Snd κ G X W a a') (hb : Snd κ G X W b b') :
    PI X tg (.Call (.Name x p) [a', b'] [] q) (RdI κ W (evalIt G (.rng2 a b))) := by
  subst hx0
  obtain ⟨g1, g2, g3⟩ := gl_of C hg
  refine PI.imp (fun σ H Q q => ?_) (pi_range2 g1 (C.wc.blt _ (mem_blt hx)) (pa_cons ha.pe (pa_cons hb.pe pa_nil (star1 hs2)) (star1 hs)) (by rw [star1 hs, star1 hs2]; rfl) (star1 hs2))
  obtain ⟨ι, τ, h0, R, S, P⟩ := q
  have P : PostI κ W σ ι h0 H ((evalE G a τ h0).bind fun x h1 => (evalE G b τ h1).bind fun y h2 => ofO ((rngOf x y).map fun p => (p, h2))) Q := P
  refine ⟨ι, τ, h0, R, S, (PostI.bind (R := RV κ) P).mono fun v H1 ⟨ι1, h1, x, S1, r, q⟩ => ?_⟩
  refine ⟨ι1, τ, h1, S1.rep, S1.slots R S, (PostI.bind (R := RV κ) q).mono fun u H2 ⟨ι2, h2, y, S2, r2, q2⟩ => ?_⟩
  cases x with
  | int i =>
    cases y with
    | int j =>
      obtain rfl : v = .int i := r
      obtain rfl : u = .int j := r2
      unfold rngOf at q2
      dsimp only at q2
      split at q2
      · rename_i hb
        exact ⟨i, j, rfl, hb, q2 ι2 H2 _ (Stp.refl S2.rep) jr_rng⟩
      · exact q2.elim
    | _ => exact q2.elim
  | _ => exact q2.elim
end
end Mi
set_option Elab.async false
set_option maxRecDepth 100000
set_option maxHeartbeats 4000000
/-! MiSnd6: comprehensions; all expressions. -/
namespace Mi
open PySem L2 PySem.Spec PyProof.Rows
/-- an untracked list is given a number -/
theorem Rep.adopt {κ : Ks} {ι : Io} {h : AH} {H : Hp} {D : Addr} {xs : List AV} {ys : List V} (R : Rep κ ι h H) (un : ∀ a, a < h.n → ι a ≠ D) (hD : H D = some (.lst ys)) (r : RVs κ H ι h.n xs ys) : Rep κ (ext1 ι h.n D) (h.push (.lst xs)) H where
  ob := fun a l => by
    by_cases ha : a = h.n
    · subst ha
      rw [ext1_new]
      show RO κ _ _ (h.n + 1) D (if h.n = h.n then AO.lst xs else _)
      rw [if_pos rfl]
      exact ⟨ys, hD, RVs.mono Kept.refl (fun _ l => ext1_old l) (Nat.le_succ _) _ _ r⟩
    · have l' : a < h.n := by have : a < h.n + 1 := l; omega
      rw [ext1_old l']
      show RO κ _ _ (h.n + 1) _ (if a = h.n then _ else h.m a)
      rw [if_neg ha]
      exact RO.mono Kept.refl (fun _ l => ext1_old l) (Nat.le_succ _) (fun u e => e) _ (R.ob a l')
  inj := fun a b la lb e => by
    by_cases ha : a = h.n
    · by_cases hb : b = h.n
      · rw [ha, hb]
      · have l' : b < h.n := by have : b < h.n + 1 := lb; omega
        rw [ha, ext1_new, ext1_old l'] at e
        exact absurd e.symm (un b l')
    · have l1 : a < h.n := by have : a < h.n + 1 := la; omega
      by_cases hb : b = h.n
      · rw [hb, ext1_new, ext1_old l1] at e
        exact absurd e (un a l1)
      · have l' : b < h.n := by have : b < h.n + 1 := lb; omega
        rw [ext1_old l1, ext1_old l'] at e
        exact R.inj a b l1 l' e
/-- a step since (ι, h, H) beside an untracked list at D -/
structure Beside (κ : Ks) (ι : Io) (h : AH) (H : Hp) (D : Addr) (ys : List V) (ι' : Io) (h' : AH) (H' : Hp) : Prop where
  st : Stp κ ι h H ι' h' H'
  un : ∀ a, a < h'.n → ι' a ≠ D
  at_ : H' D = some (.lst ys)
theorem Beside.go {κ : Ks} {ι ι1 ι2 : Io} {h h1 h2 : AH} {H H1 H2 : Hp} {D : Addr} {ys : List V} (b : Beside κ ι h H D ys ι1 h1 H1) (S : Stp κ ι1 h1 H1 ι2 h2 H2) : Beside κ ι h H D ys ι2 h2 H2 where
  st := b.st.trans S
  un := fun a l => by
    by_cases ha : a < h1.n
    · rw [S.ext a ha]; exact b.un a ha
    · intro z
      have q := S.nw a (Nat.le_of_not_lt ha) l
      rw [z, b.at_] at q
      cases q
  at_ := S.fr D _ b.at_ b.un
theorem Beside.set {κ : Ks} {ι ι1 : Io} {h h1 : AH} {H H1 : Hp} {D : Addr} {ys : List V} (b : Beside κ ι h H D ys ι1 h1 H1) (hD : H D = none) (zs : List V) : Kept H1 (upd H1 D (.lst zs)) ∧ Beside κ ι h H D zs ι1 h1 (upd H1 D (.lst zs)) := by
  have kp : Kept H1 (upd H1 D (.lst zs)) := fun p o e f => by
    have : p ≠ D := fun z => by
      rw [z, b.at_] at e
      cases e
      exact f.elim
    rw [upd_ne this]; exact e
  refine ⟨kp, ⟨⟨b.st.ext, b.st.le, ⟨fun a l => RO.mono kp (fun _ _ => rfl) (Nat.le_refl _) (fun u e => by rw [upd_ne (b.un a l)]; exact e) _ (b.st.rep.ob a l), b.st.rep.inj⟩, fun p o e nt => ?_, b.st.nw⟩, b.un, upd_same⟩⟩
  rw [upd_ne (ne_of_none e hD)]
  exact b.st.fr p o e nt
theorem Beside.new {κ : Ks} {ι : Io} {h : AH} {H : Hp} {D : Addr} (R : Rep κ ι h H) (hD : H D = none) (ys : List V) : Beside κ ι h H D ys ι h (upd H D (.lst ys)) := ⟨R.side hD, fun a l => R.fresh hD l, upd_same⟩
theorem Beside.fin {κ : Ks} {ι ι1 : Io} {h h1 : AH} {H H1 : Hp} {D : Addr} {xs : List AV} {ys : List V} (b : Beside κ ι h H D ys ι1 h1 H1) (hD : H D = none) (r : RVs κ H1 ι1 h1.n xs ys) : Stp κ ι h H (ext1 ι1 h1.n D) (h1.push (.lst xs)) H1 where
  ext := fun a l => by rw [ext1_old (Nat.lt_of_lt_of_le l b.st.le)]; exact b.st.ext a l
  le := Nat.le_succ_of_le b.st.le
  rep := b.st.rep.adopt b.un b.at_ r
  fr := b.st.fr
  nw := fun a l1 l2 => by
    by_cases ha : a = h1.n
    · rw [ha, ext1_new]; exact hD
    · have : a < h1.n := by have : a < h1.n + 1 := l2; omega
      rw [ext1_old this]
      exact b.st.nw a l1 this
/-- no error -/
abbrev WN : WX := fun _ _ _ _ => False
section
variable {κ : Ks} {B : Tb} {ct : Ct} {n : Nat} {k : Cc} {X : Cx} {W : WX} {G : PG}
theorem Cok.blk (C : Cok κ B ct n k X W) (hc : k.hot = false) (s : Shared) (H : Hp) (D : Addr) (cl : List (Str × Addr)) (fp : List Addr) (scope : Scope) : Cok κ B ct n ⟨k.N, relS scope k.sc, false, false⟩ (X.blk s H scope (compEnvC scope cl D X.env) fp) WN where
  wc := C.wc
  wf := fun _ => C.wf hc
  hK := C.hK
  N := C.N
  nd := C.nd
  sc := by
    rw [← C.sc]
    rfl
  calm := fun _ => C.calm hc
  un := C.un
  gd := C.gd
  room := fun _ => C.room hc
  tk := fun u s' ⟨_, _, _, _, _, _, _, _, _, _, _, _, _, _, _, _, w⟩ => w.elim
  fn := fun h => by cases h
  po := PassesOwn.never
  st := fun h => by cases h
theorem own_slots (N : List Str) : ∀ t : T, (ownT N t).map (·.2) = t.slots
  | .nm i => rfl
  | .tp ts => owns_slots N ts
where owns_slots (N : List Str) : ∀ t : Ts, (ownTs N t).map (·.2) = t.slots
  | .nil => rfl
  | .cons t r => by
    show (ownT N t ++ ownTs N r).map (·.2) = t.slots ++ r.slots
    rw [List.map_append, own_slots N t, owns_slots N r]
theorem evalC_ok {c : OE} {τ : Frame} {h : AH} : ∀ {σ : L2.St} {ι : Io} {H : Hp} {b : Bool} {h1 : AH} {Q : Bool → Hp → Prop}, evalC G c τ h = .ok b h1 → (∀ ι' H', Stp κ ι h H ι' h1 H' → Q b H') → Post κ RB W σ ι h H (evalC G c τ h) Q := by
  intro σ ι H b h1 Q e q
  rw [e]
  intro ι' H' c S r
  obtain rfl : b = c := r
  exact q ι' H' S
theorem lc_run {t : T} {it : It} {cnd : OE} {elt : E} {σ : L2.St} {H : Hp} {Q : VK} (q : Rd κ W (evalE G (.lc t it cnd elt)) σ H Q) : tLc (RdI κ W (evalIt G it)) (gTg κ t) (RdT κ WN (evalC G cnd)) (Rd κ WN (evalE G elt)) t.slots σ H Q := by
  obtain ⟨ι, τ, h0, R, S, P⟩ := q
  obtain ⟨step, hstep⟩ : ∃ step : AV → AH → Res (Option AV), step = fun v h => match asgT t v (wipeA τ t.slots) with
        | some τ' => (evalC G cnd τ' h).bind fun b h' => if b then (evalE G elt τ' h').bind fun y h'' => .ok (some y) h'' else .ok none h'
        | none => .bad := ⟨_, rfl⟩
  have P : Post κ (RV κ) W σ ι h0 H ((evalIt G it τ h0).bind fun p h1 => match lcGo p.2 step p.1 [] h1 with
      | .ok acc h2 => .ok (.ref h2.n) (h2.push (.lst acc))
      | _ => .bad) Q := by rw [hstep]; exact P
  have P2 : PostI κ W σ ι h0 H (evalIt G it τ h0) fun J H1 => ∃ ι1 h1 p, Stp κ ι h0 H ι1 h1 H1 ∧ JR κ ι1 h1 H1 p J ∧ Post κ (RV κ) W σ ι1 h1 H1 (match lcGo p.2 step p.1 [] h1 with
      | .ok acc h2 => .ok (.ref h2.n) (h2.push (.lst acc))
      | _ => .bad) Q := by
    cases e : evalIt G it τ h0 with
    | ok p h1 =>
      rw [e] at P
      exact fun ι' H' J S' j => ⟨ι', h1, p, S', j, Post.pre P S'⟩
    | exc c fs h1 => rw [e] at P; exact P
    | bad => rw [e] at P; exact P
  refine ⟨ι, τ, h0, R, S, ?_⟩
  revert P2
  generalize evalIt G it τ h0 = rr
  intro P2
  have weak : ∀ {r : Res (List AV × Watch)} {Q1 Q2 : L2.It → Hp → Prop}, PostI κ W σ ι h0 H r Q1 → (∀ J H', Q1 J H' → Q2 J H') → PostI κ W σ ι h0 H r Q2 := by
    intro r Q1 Q2 p k
    cases r with
    | ok a h' => exact fun ι' H' b S r => k b H' (p ι' H' b S r)
    | exc c fs h' => exact p
    | bad => exact p
  refine weak P2 fun J H1 ⟨ι1, h1, p, S1, j, P3⟩ => ?_
  intro D hD
  have R1 := S1.rep
  cases el : lcGo p.2 step p.1 [] h1 with
  | exc c fs h2 => rw [el] at P3; exact P3.elim
  | bad => rw [el] at P3; exact P3.elim
  | ok accF hF =>
  rw [el] at P3
  refine ⟨fun i m H' => m = p.1.length - i ∧ i ≤ p.1.length ∧ ∃ ι' h' acc ys, Beside κ ι1 h1 H1 D ys ι' h' H' ∧ RVs κ H' ι' h'.n acc ys ∧ lcGo p.2 step (p.1.drop i) acc h' = .ok accF hF, ⟨p.1.length, rfl, Nat.zero_le _, ι1, h1, [], [], Beside.new R1 hD [], rfl, by rw [List.drop_zero]; exact el⟩, ?_⟩
  rintro i m H' ⟨rfl, hi, ι', h', acc, ys, bs, ra, eg⟩
  by_cases hlt : i < p.1.length
  · right
    have ed : p.1.drop i = p.1[i] :: p.1.drop (i + 1) := List.drop_eq_getElem_cons hlt
    rw [ed] at eg
    unfold lcGo at eg
    have hst : Still p.2 h' := by
      by_cases z : Still p.2 h'
      · exact z
      · rw [if_neg z] at eg; cases eg
    rw [if_pos hst] at eg
    obtain ⟨jgo, jy⟩ := (j ι' h' H' bs.st hst).1 i hlt
    refine ⟨jgo, fun H'' => p.1.length - (i + 1) < p.1.length - i ∧ ∃ ι' h' acc ys, Beside κ ι1 h1 H1 D ys ι' h' H'' ∧ RVs κ H'' ι' h'.n acc ys ∧ lcGo p.2 step (p.1.drop (i + 1)) acc h' = .ok accF hF, fun H'' ⟨hm, z⟩ => ⟨_, hm, rfl, hlt, z⟩, fun x H2 y => ?_⟩
    obtain ⟨SJ, a, ea, rx⟩ := jy x H2 y
    have ra := SJ.vals bs.st.rep ra
    have bs := bs.go SJ
    have e1 : p.1[i] = a := by rw [List.getElem?_eq_getElem hlt] at ea; exact Option.some.inj ea
    rw [e1] at eg
    have hm : p.1.length - (i + 1) < p.1.length - i := by omega
    cases es : asgT t a (wipeA τ t.slots) with
    | none => rw [hstep] at eg; simp only [es] at eg; cases eg
    | some τ' =>
      have eg : ((((evalC G cnd τ' h').bind fun b h'' => if b then (evalE G elt τ' h'').bind fun y h3 => .ok (some y) h3 else .ok none h'') : Res (Option AV)).bind fun o h1 => match o with
        | none => lcGo p.2 step (p.1.drop (i + 1)) acc h1
        | some y => if acc.length < sizeLine then lcGo p.2 step (p.1.drop (i + 1)) (acc ++ [y]) h1 else .bad) = .ok accF hF := by
        have hs : step a h' = ((evalC G cnd τ' h').bind fun b h'' => if b then (evalE G elt τ' h'').bind fun y h3 => .ok (some y) h3 else .ok none h'') := by
          rw [hstep]
          simp only [es]
        rw [hs] at eg
        exact eg
      refine ⟨ι', wipeA τ t.slots, h', a, τ', bs.st.rep, (bs.st.slots R1 (S1.slots R S)).wipe _, rx, es, fun σ' S' l' o' => ⟨wipe_off (by rw [l', L2.wipe_length]) _ o', ?_⟩⟩
      cases ec : evalC G cnd τ' h' with
      | exc c fs h2 => rw [ec] at eg; cases eg
      | bad => rw [ec] at eg; cases eg
      | ok b h2 =>
        refine ⟨ι', τ', h', bs.st.rep, S', evalC_ok ec fun ι2 H2 S2 => ?_⟩
        rw [ec, Res.bind_ok] at eg
        have bs2 := bs.go S2
        cases b with
        | false =>
          exact iteF ⟨hm, ι2, h2, acc, ys, bs2, S2.vals bs.st.rep ra, eg⟩
        | true =>
          refine iteT ⟨ι2, τ', h2, S2.rep, S2.slots bs.st.rep S', ?_⟩
          have eg : (((evalE G elt τ' h2).bind fun y h3 => .ok (some y) h3 : Res (Option AV)).bind fun o h1 => match o with
            | none => lcGo p.2 step (p.1.drop (i + 1)) acc h1
            | some y => if acc.length < sizeLine then lcGo p.2 step (p.1.drop (i + 1)) (acc ++ [y]) h1 else .bad) = .ok accF hF := eg
          cases ee : evalE G elt τ' h2 with
          | exc c fs h3 => rw [ee] at eg; cases eg
          | bad => rw [ee] at eg; cases eg
          | ok y h3 =>
            rw [ee, Res.bind_ok, Res.bind_ok] at eg
            intro ι3 H3 w S3 rw3
            have bs3 := bs2.go S3
            dsimp only at eg
            by_cases hsz : acc.length < sizeLine
            · rw [if_pos hsz] at eg
              have ra3 := S3.vals S2.rep (S2.vals bs.st.rep ra)
              obtain ⟨kp, bs4⟩ := bs3.set hD (ys ++ [w])
              have ra4 : RVs κ (upd H3 D (.lst (ys ++ [w]))) ι3 h3.n (acc ++ [y]) (ys ++ [w]) := RVs.mono kp (fun _ _ => rfl) (Nat.le_refl _) _ _ (ra3.append ⟨w, [], rfl, rw3, rfl⟩)
              exact ⟨ys, bs3.at_, by rw [← ra3.length]; exact hsz, hm, ι3, h3, _, _, bs4, ra4, eg⟩
            · rw [if_neg hsz] at eg; cases eg
  · left
    have e : i = p.1.length := by omega
    subst e
    rw [List.drop_length] at eg
    unfold lcGo at eg
    have hst : Still p.2 h' := by
      by_cases z : Still p.2 h'
      · exact z
      · rw [if_neg z] at eg; cases eg
    rw [if_pos hst] at eg
    cases eg
    refine ⟨(j ι' hF H' bs.st hst).2 _ (Nat.le_refl _), ?_⟩
    exact P3 _ H' (.ref D) (bs.fin hD ra) ⟨Nat.lt_succ_self _, by rw [ext1_new]⟩
theorem snd_lc (C : Cok κ B ct n k X W) (hc : k.hot = false) {t : T} {it : It} {cnd : OE} {elt : E} {tg iter elt' : Expr} {ifs : List Expr} {scope : Scope} {p : Pos} (hi : PI X tg iter (RdI κ W (evalIt G it))) (ok : blkC k.N k.sc scope (ownT k.N t) = true) (hns : notSet iter = true)
    (hg : chkT ⟨k.N, relS scope k.sc, false, false⟩ t tg = true)
    (ht : ∀ (s : Shared) (H : Hp) (D : Addr) (cl : List (Str × Addr)) (fp : List Addr), PTs (X.blk s H scope (compEnvC scope cl D X.env) fp) ifs (RdT κ WN (evalC G cnd)))
    (he : ∀ (s : Shared) (H : Hp) (D : Addr) (cl : List (Str × Addr)) (fp : List Addr), PE (X.blk s H scope (compEnvC scope cl D X.env) fp) elt' (Rd κ WN (evalE G elt))) :
    Snd κ G X W (.lc t it cnd elt) (.ListComp elt' [⟨tg, iter, ifs, 0⟩] scope p) := by
  refine Snd.plain C.hK ?_ rfl
  have okB : BlkOk X.N X.env.scope scope (ownT k.N t) := blkOk_by (by rw [C.N, C.sc]; exact ok)
  refine PE.imp (fun σ H Q q => ?_) (pe_lc (C.calm hc) C.nd hi okB (fun s H D cl fp => pg_T (C.blk hc s H D cl fp scope) t tg hg) ht he (by intro x; cases iter <;> first | rfl | cases hns))
  rw [own_slots]
  exact lc_run q
end
end Mi
set_option Elab.async false
set_option maxRecDepth 100000
set_option maxHeartbeats 4000000
/-! MiSnd7: every expression that the checker takes. -/
namespace Mi
open PySem L2 PySem.Spec PyProof.Rows
structure GOk (B : Tb) (n : Nat) (G : PG) : Prop where
  call : G.call = Gam B n
  mt : G.mt = B.mt
  ini : G.ini = B.ini
  fa : G.fa = B.fa
  ic : G.ic = B.ic
  fx : G.fx = B.fx
  ex : G.ex = B.ex
  sub : G.sub = B.sub
  exf : G.exf = B.exf
  sok : G.sok = B.sok
  shp : G.shp = B.shp
  pln : G.pln = B.pln
section
variable {κ : Ks} {B : Tb} {ct : Ct} {n : Nat} {G : PG}
theorem bl1_name {o : O1} {x : Str} (h : bl1 o = some x) : x ≠ "isinstance" := by
  cases o <;> first | cases h | skip
  all_goals decide +kernel
theorem knil_of {k : Cc} {as : Es} {kws : List Keyword} (h : chkKs ct k as kws = true) : kws = [] → as = .nil := fun e => by
  subst e
  cases as with
  | nil => rfl
  | cons e r => unfold chkKs at h; cases h
theorem kall_of {k : Cc} : ∀ {as : Es} {kws : List Keyword}, chkKs ct k as kws = true → kws.all (·.arg.isSome) = true
  | .nil, [], _ => rfl
  | .nil, _ :: _, h => by unfold chkKs at h; cases h
  | .cons e r, [], h => by unfold chkKs at h; cases h
  | .cons e r, ⟨none, e', p⟩ :: kws, h => by unfold chkKs at h; cases h
  | .cons e r, ⟨some x, e', p⟩ :: kws, h => by
    unfold chkKs at h
    simp only [Bool.and_eq_true] at h
    rw [List.all_cons, kall_of h.2]
    rfl
theorem nil_of {k : Cc} {as : Es} {es : List Expr} (h : chkEs ct k as es = true) : es = [] → as = .nil := fun e => by
  subst e
  cases as with
  | nil => rfl
  | cons e r => unfold chkEs at h; cases h
mutual
theorem snd_E (gk : GOk B n G) : ∀ (c : E) (k : Cc) (X : Cx) (W : WX) (C : Cok κ B ct n k X W) (e : Expr), chkE ct k c e = true → Snd κ G X W c e
  | .var i, k, X, W, C, e, h => by
    unfold chkE at h
    split at h
    · simp only [Bool.and_eq_true, decide_eq_true_eq] at h
      exact snd_var C h.1 h.2
    · cases h
  | .con v, k, X, W, C, e, h => by
    unfold chkE at h
    split at h
    · exact snd_con C h
    · cases h
  | .o1 o a, k, X, W, C, e, h => by
    unfold chkE at h
    split at h
    · simp only [Bool.and_eq_true] at h
      obtain ⟨h1, h2⟩ := h
      have ih := snd_E gk a k X W C _ h2
      split at h1
      · exact snd_not C h1 ih
      · exact snd_neg C ih
      · cases h1
    · simp only [Bool.and_eq_true] at h
      obtain ⟨h1, h2⟩ := h
      have ih := snd_E gk a k X W C _ h2
      split at h1
      · exact snd_isN ih
      · exact snd_notN ih
      · cases h1
    · simp only [Bool.and_eq_true] at h
      obtain ⟨⟨h1, h2⟩, h3⟩ := h
      have ih := snd_E gk a k X W C _ h2
      split at h1
      · simp only [decide_eq_true_eq] at h1
        exact snd_fld C h1 h3 gk.fa gk.fx ih
      · cases h1
    · simp only [Bool.and_eq_true] at h
      obtain ⟨⟨⟨⟨g1, g2⟩, h2⟩, h3⟩, h4⟩ := h
      have ih := snd_E gk a k X W C _ h2
      split at h4
      · simp only [Bool.and_eq_true, decide_eq_true_eq] at h4
        exact snd_isi C gk.ic gk.ex gk.sub h4.1.1 g1 g2 h3 h4.1.2 h4.2 ih
      · simp only [decide_eq_true_eq, Bool.and_eq_true, Bool.or_eq_true, Bool.not_eq_true'] at h4
        exact snd_b1 C h4.1 (h4.2.symm.imp id C.calm) g1 g2 h3 ih
      · cases h4
    · cases h
  | .o2 o a b, k, X, W, C, e, h => by
    unfold chkE at h
    split at h
    · simp only [Bool.and_eq_true] at h
      exact snd_bin C h.1.1 (snd_E gk a k X W C _ h.1.2) (snd_E gk b k X W C _ h.2)
    · simp only [Bool.and_eq_true] at h
      exact snd_cmp C h.1.1.1 h.2 (snd_E gk a k X W C _ h.1.1.2) (snd_E gk b k X W C _ h.1.2)
    · simp only [Bool.and_eq_true] at h
      obtain ⟨⟨⟨h1, h2⟩, h3⟩, h4⟩ := h
      split at h1
      · exact snd_ix C h4 (snd_E gk a k X W C _ h2) (snd_E gk b k X W C _ h3)
      · cases h1
    · simp only [Bool.and_eq_true, decide_eq_true_eq] at h
      obtain ⟨⟨⟨⟨⟨⟨⟨h1, h0⟩, h2⟩, h3⟩, h4⟩, h5⟩, h6⟩, h7⟩ := h
      exact snd_b2 C (C.calm (by simpa using h0)) h1 h2 h3 h6 h7 (snd_E gk a k X W C _ h4) (snd_E gk b k X W C _ h5)
    · cases h
  | .sl a lo hi, k, X, W, C, e, h => by
    unfold chkE at h
    split at h
    · simp only [Bool.and_eq_true] at h
      obtain ⟨⟨h1, h2⟩, h3⟩ := h
      obtain ⟨l1, l2⟩ := snd_O gk lo k X W C _ h2
      obtain ⟨u1, u2⟩ := snd_O gk hi k X W C _ h3
      exact snd_sl C (snd_E gk a k X W C _ h1) l2 l1 u2 u1
    · cases h
  | .chn o o' a b d, k, X, W, C, e, h => by
    unfold chkE at h
    split at h
    · simp only [Bool.and_eq_true] at h
      obtain ⟨⟨⟨⟨⟨⟨h1, h2⟩, h3⟩, h4⟩, h5⟩, h6⟩, h7⟩ := h
      exact snd_chn C h1 h2 h6 h7 (snd_E gk a k X W C _ h3) (snd_E gk b k X W C _ h4) (snd_E gk d k X W C _ h5)
    · cases h
  | .and_ a b, k, X, W, C, e, h => by
    unfold chkE at h
    split at h
    · simp only [Bool.and_eq_true] at h
      obtain ⟨⟨h1, h2⟩, h3⟩ := h
      refine snd_and C (snd_E gk a k X W C _ h1) h2 (fun e => ?_) ⟨fun e => ?_, fun e => ?_⟩
      · subst e
        simp only [Bool.and_eq_true] at h3
        exact h3.2
      · subst e
        simp only [Bool.and_eq_true] at h3
        exact snd_E gk b k X W C _ h3.1
      · split at h3
        · exact absurd rfl e
        · exact snd_E gk b k X W C _ h3
    · cases h
  | .or_ a b, k, X, W, C, e, h => by
    unfold chkE at h
    split at h
    · simp only [Bool.and_eq_true] at h
      obtain ⟨⟨h1, h2⟩, h3⟩ := h
      refine snd_or C (snd_E gk a k X W C _ h1) h2 (fun e => ?_) ⟨fun e => ?_, fun e => ?_⟩
      · subst e
        simp only [Bool.and_eq_true] at h3
        exact h3.2
      · subst e
        simp only [Bool.and_eq_true] at h3
        exact snd_E gk b k X W C _ h3.1
      · split at h3
        · exact absurd rfl e
        · exact snd_E gk b k X W C _ h3
    · cases h
  | .ife t a b, k, X, W, C, e, h => by
    unfold chkE at h
    split at h
    · simp only [Bool.and_eq_true] at h
      obtain ⟨⟨⟨h1, h2⟩, h3⟩, h4⟩ := h
      exact ⟨snd_ife C (snd_E gk t k X W C _ h1) h4 (snd_E gk a k X W C _ h2) (snd_E gk b k X W C _ h3), fun z => (by cases z), fun _ _ _ z => (by cases z)⟩
    · cases h
  | .tup as, k, X, W, C, e, h => by
    unfold chkE at h
    split at h
    · exact snd_tup C (snd_Es gk as k X W C _ h)
    · cases h
  | .lst as, k, X, W, C, e, h => by
    unfold chkE at h
    split at h
    · exact snd_lst C (snd_Es gk as k X W C _ h)
    · cases h
  | .dnew t, k, X, W, C, e, h => by
    unfold chkE at h
    split at h
    · exact snd_dnew C
    · cases h
  | .call f as, k, X, W, C, e, h => by
    unfold chkE at h
    split at h
    · simp only [Bool.and_eq_true, decide_eq_true_eq] at h
      obtain ⟨⟨⟨h1, h2⟩, h3⟩, hc⟩ := h
      exact snd_call C (by simpa using hc) h1 h2 (stars_of h3) (nil_of h3) gk.call gk.pln (snd_Es gk as k X W C _ h3)
    · cases h
  | .meth m o as, k, X, W, C, e, h => by
    unfold chkE at h
    split at h
    · simp only [Bool.and_eq_true, decide_eq_true_eq] at h
      obtain ⟨⟨⟨⟨⟨⟨hc, h1⟩, h2⟩, h3⟩, h4⟩, h5⟩, h6⟩ := h
      exact snd_meth C (by simpa using hc) h1 h3 (stars_of h4) h6 h5 (nil_of h4) gk.call gk.mt gk.pln (snd_E gk o k X W C _ h2) (snd_Es gk as k X W C _ h4)
    · cases h
  | .new i as, k, X, W, C, e, h => by
    unfold chkE at h
    split at h
    · simp only [Bool.and_eq_true, decide_eq_true_eq] at h
      obtain ⟨⟨⟨h1, h2⟩, h3⟩, hc⟩ := h
      exact snd_new C (by simpa using hc) h1 h2 (stars_of h3) (nil_of h3) gk.call gk.ini gk.pln (snd_Es gk as k X W C _ h3)
    · cases h
  | .callK f sh as ks, k, X, W, C, e, h => by
    unfold chkE at h
    split at h
    · simp only [Bool.and_eq_true, decide_eq_true_eq] at h
      obtain ⟨⟨⟨⟨⟨h1, h2⟩, h3⟩, h4⟩, hc⟩, h5⟩ := h
      exact snd_callK C (by simpa using hc) h1 h2 (stars_of h3) (nil_of h3) (knil_of h4) (kall_of h4) h5 gk.call gk.sok gk.shp (snd_Es gk as k X W C _ h3) (snd_Ks gk ks k X W C _ h4)
    · simp only [Bool.and_eq_true, decide_eq_true_eq] at h
      obtain ⟨⟨⟨⟨⟨h1, h2⟩, h3⟩, h4⟩, hc⟩, h5⟩ := h
      exact snd_callK C (by simpa using hc) h1 h2 (stars_of h3) (nil_of h3) (knil_of h4) (kall_of h4) h5 gk.call gk.sok gk.shp (snd_Es gk as k X W C _ h3) (snd_Ks gk ks k X W C _ h4)
    · cases h
  | .newK i sh as ks, k, X, W, C, e, h => by
    unfold chkE at h
    split at h
    · simp only [Bool.and_eq_true, decide_eq_true_eq] at h
      obtain ⟨⟨⟨⟨⟨h1, h2⟩, h3⟩, h4⟩, hc⟩, h5⟩ := h
      exact snd_newK C (by simpa using hc) h1 h2 (stars_of h3) (nil_of h3) (knil_of h4) (kall_of h4) h5 gk.call gk.ini gk.sok gk.shp (snd_Es gk as k X W C _ h3) (snd_Ks gk ks k X W C _ h4)
    · simp only [Bool.and_eq_true, decide_eq_true_eq] at h
      obtain ⟨⟨⟨⟨⟨h1, h2⟩, h3⟩, h4⟩, hc⟩, h5⟩ := h
      exact snd_newK C (by simpa using hc) h1 h2 (stars_of h3) (nil_of h3) (knil_of h4) (kall_of h4) h5 gk.call gk.ini gk.sok gk.shp (snd_Es gk as k X W C _ h3) (snd_Ks gk ks k X W C _ h4)
    · cases h
  | .methK m sh o as ks, k, X, W, C, e, h => by
    unfold chkE at h
    split at h
    · simp only [Bool.and_eq_true, decide_eq_true_eq] at h
      obtain ⟨⟨⟨⟨⟨⟨⟨⟨hc, h1⟩, h2⟩, h3⟩, h4⟩, h5⟩, h6⟩, h7⟩, h8⟩ := h
      exact snd_methK C (by simpa using hc) h1 h3 (stars_of h4) h7 h6 (nil_of h4) (knil_of h5) (kall_of h5) h8 gk.call gk.mt gk.sok gk.shp (snd_E gk o k X W C _ h2) (snd_Es gk as k X W C _ h4) (snd_Ks gk ks k X W C _ h5)
    · cases h
  | .newx i as, k, X, W, C, e, h => by
    unfold chkE at h
    split at h
    · simp only [Bool.and_eq_true, decide_eq_true_eq] at h
      obtain ⟨⟨⟨h1, h2⟩, h3⟩, hc⟩ := h
      exact snd_newx C (by simpa using hc) h1 h2 (stars_of h3) gk.exf (snd_Es gk as k X W C _ h3)
    · cases h
  | .bm m o as, k, X, W, C, e, h => by
    unfold chkE at h
    split at h
    · simp only [Bool.and_eq_true, decide_eq_true_eq] at h
      obtain ⟨⟨⟨⟨⟨h1, h2⟩, h3⟩, h4⟩, h5⟩, h6⟩ := h
      exact snd_bm C h1 h3 (stars_of h4) h6 h5 (nil_of h4) (snd_E gk o k X W C _ h2) (snd_Es gk as k X W C _ h4)
    · cases h
  | .lc t it cnd elt, k, X, W, C, e, h => by
    unfold chkE at h
    split at h
    · simp only [Bool.and_eq_true] at h
      obtain ⟨⟨⟨⟨⟨⟨hc, h1⟩, h2⟩, h3⟩, h4⟩, h5⟩, h6⟩ := h
      have hc : k.hot = false := by simpa using hc
      refine snd_lc C hc (snd_It gk it k X W C _ _ h1) h3 h2 h4 (fun s H D cl fp => ?_) (fun s H D cl fp => (snd_E gk elt _ _ _ (C.blk hc s H D cl fp _) _ h6).pe)
      split at h5
      · obtain ⟨l1, l2⟩ := snd_O gk cnd _ _ _ (C.blk hc s H D cl fp _) _ h5
        cases cnd with
        | non => exact ⟨fun pins s σ H Q I ⟨ι, τ, h, R, S, P⟩ => pts_nil.run pins s σ H Q I (P ι H true (Stp.refl R) rfl)⟩
        | som e => obtain ⟨e', z, _⟩ := l2 e rfl; cases z
      · simp only [Bool.and_eq_true] at h5
        obtain ⟨l1, l2⟩ := snd_O gk cnd _ _ _ (C.blk hc s H D cl fp _) _ h5.1
        cases cnd with
        | non => cases l1 rfl
        | som e =>
          obtain ⟨e', z, sd⟩ := l2 e rfl
          cases z
          exact pts_one (sd.pt h5.2)
      · cases h5
    · cases h
theorem snd_Es (gk : GOk B n G) : ∀ (c : Es) (k : Cc) (X : Cx) (W : WX) (C : Cok κ B ct n k X W) (es : List Expr), chkEs ct k c es = true → SndA κ G X W c es
  | .nil, k, X, W, C, es, h => by
    cases es with
    | nil => exact snd_nil
    | cons e es => unfold chkEs at h; cases h
  | .cons e r, k, X, W, C, es, h => by
    cases es with
    | nil => unfold chkEs at h; cases h
    | cons e' es =>
      unfold chkEs at h
      simp only [Bool.and_eq_true] at h
      exact snd_cons h.1.2 (snd_E gk e k X W C _ h.1.1) (snd_Es gk r k X W C _ h.2)
theorem snd_Ks (gk : GOk B n G) : ∀ (c : Es) (k : Cc) (X : Cx) (W : WX) (C : Cok κ B ct n k X W) (kws : List Keyword), chkKs ct k c kws = true → SndK κ G X W c kws
  | .nil, k, X, W, C, kws, h => by
    cases kws with
    | nil => exact snd_knil
    | cons e es => unfold chkKs at h; cases h
  | .cons e r, k, X, W, C, kws, h => by
    unfold chkKs at h
    split at h
    · simp only [Bool.and_eq_true] at h
      exact snd_kcons (snd_E gk e k X W C _ h.1) (snd_Ks gk r k X W C _ h.2)
    · cases h
theorem snd_O (gk : GOk B n G) : ∀ (c : OE) (k : Cc) (X : Cx) (W : WX) (C : Cok κ B ct n k X W) (o : Option Expr), chkO ct k c o = true → (c = .non → o = none) ∧ ∀ e, c = .som e → ∃ e', o = some e' ∧ Snd κ G X W e e'
  | .non, k, X, W, C, o, h => by
    unfold chkO at h
    refine ⟨fun _ => ?_, fun e z => by cases z⟩
    cases o with
    | none => rfl
    | some e => cases h
  | .som e, k, X, W, C, o, h => by
    unfold chkO at h
    cases o with
    | none => cases h
    | some e' =>
      have ih := snd_E gk e k X W C e' h
      exact ⟨fun z => (by cases z), fun e2 z => by cases z; exact ⟨e', rfl, ih⟩⟩
theorem snd_It (gk : GOk B n G) : ∀ (c : It) (k : Cc) (X : Cx) (W : WX) (C : Cok κ B ct n k X W) (tg e : Expr), chkIt ct k c tg e = true → PI X tg e (RdI κ W (evalIt G c))
  | .of a, k, X, W, C, tg, e, h => by
    unfold chkIt at h
    simp only [Bool.and_eq_true] at h
    exact snd_of C (snd_E gk a k X W C _ h.1)
  | .rng1 a, k, X, W, C, tg, e, h => by
    unfold chkIt at h
    split at h
    · simp only [Bool.and_eq_true, decide_eq_true_eq] at h
      obtain ⟨⟨⟨⟨h1, h2⟩, h3⟩, h4⟩, h5⟩ := h
      exact snd_rng1 C h1 h2 h3 h5 (snd_E gk a k X W C _ h4)
    · cases h
  | .rng2 a b, k, X, W, C, tg, e, h => by
    unfold chkIt at h
    split at h
    · simp only [Bool.and_eq_true, decide_eq_true_eq] at h
      obtain ⟨⟨⟨⟨⟨⟨h1, h2⟩, h3⟩, h4⟩, h5⟩, h6⟩, h7⟩ := h
      exact snd_rng2 C h1 h2 h3 h6 h7 (snd_E gk a k X W C _ h4) (snd_E gk b k X W C _ h5)
    · cases h
  | .zip a b, k, X, W, C, tg, e, h => by unfold chkIt at h; cases h
  | .enum a, k, X, W, C, tg, e, h => by
    unfold chkIt at h
    split at h
    · simp only [Bool.and_eq_true, decide_eq_true_eq] at h
      obtain ⟨⟨⟨⟨h1, h2⟩, h3⟩, h4⟩, h5⟩ := h
      exact snd_enum C (.inr trivial) h1 h2 h3 h5 (snd_E gk a k X W C _ h4)
    · cases h
end
end
end Mi
set_option Elab.async false
set_option maxRecDepth 100000
set_option maxHeartbeats 4000000
/-! MiTry: try with any clauses, the error told of while its suite runs. -/
namespace Mi
open PySem L2 PySem.Spec PyProof.Rows
/-- an object is an error of the class cls with the dict d -/
def ErrP (a : Addr) (cls : Value) (d : Option Addr) (φ : Heap → Prop) : Prop := ∀ h, φ h → ∃ oe vs, h.get? a = some oe ∧ L2.Zc cls d oe ∧ oe.data = .fields vs
def wN (K : PySem.W.Frag) (Wout : WX) (D : Ends) : List (Value × Option Nat × TS) → WX
  | [] => Wout
  | (c, o, ts) :: r => fun cls d σ H => ∃ b, PySem.W.exmOne K cls c = some b ∧ (b = true → ∀ a φ, H a = none → ErrP a cls d φ → match o with
      | none => ts D σ (upd H a (.ext φ))
      | some i => ts ⟨fun σ' H' => D.nx (σ'.set i none) H', D.rt, fun σ' H' => D.bk (σ'.set i none) H', fun σ' H' => D.ct (σ'.set i none) H'⟩ (σ.set i (some (.ref a))) (upd H a (.ext φ))) ∧ (b = false → wN K Wout D r cls d σ H)
inductive HdN (X : Cx) : List ExceptHandler → List (Value × Option Nat × TS) → Prop
  | nil : HdN X [] []
  | only {x : Str} {c : Value} {ts : TS} {b₀ : Stmt} {suite : List Stmt} {np pos' : Pos} {hds : List ExceptHandler} {l : List (Value × Option Nat × TS)} (hc : L2.Names X x c) (hsu : ∀ (a : Addr) (pn : List (Addr × Obj)), PSs (X.suite a pn) (b₀ :: suite) ts) (r : HdN X hds l) :
      HdN X (.ExceptHandler (some (.Name x np)) none (b₀ :: suite) pos' :: hds) ((c, none, ts) :: l)
  | named {x nm : Str} {i : Nat} {c : Value} {ts : TS} {b₀ : Stmt} {suite : List Stmt} {np pos' : Pos} {hds : List ExceptHandler} {l : List (Value × Option Nat × TS)} (hc : L2.Names X x c) (hi : X.N[i]? = some nm) (hl : X.env.kindOf nm = some .local)
      (hsu : ∀ (a : Addr) (pn : List (Addr × Obj)), PSs (X.suite a pn) (b₀ :: suite) ts) (r : HdN X hds l) :
      HdN X (.ExceptHandler (some (.Name x np)) (some nm) (b₀ :: suite) pos' :: hds) ((c, some i, ts) :: l)
section
variable {X : Cx} {pins : List (Addr × Obj)} {σ : L2.St} {H : Hp} {s sI : Shared}
/-- an object that came is told of from here on -/
theorem Inv.track (I : L2.Inv X pins σ H sI) (J : L2.Inv X pins σ H s) {a : Addr} {oe : Obj} {vs : Array Value} (no : sI.heap.get? a = none) (ha : s.heap.get? a = some oe) (hd : oe.data = .fields vs) (na : H a = none) (nL : a ≠ X.env.locals) :
    L2.Inv (X.suite a (X.pn ++ pins)) [] σ (upd H a (.ext fun h => h.get? a = some oe)) s where
  ok := J.ok.suite _ _
  os := J.os
  bare := J.bare
  base := {
    keep := J.base.keep
    slot := J.base.slot
    free := fun b o e n hb => by
      have ne : b ≠ a := fun z => by
        subst z
        obtain ⟨o', e'⟩ := I.base.there b o e hb
        rw [no] at e'
        cases e'
      rw [upd_ne ne]
      exact J.base.free b o e n hb
    there := J.base.there
    tups := fun b xs e => by
      have e := J.base.tups b xs e
      rw [upd_ne (ne_of_none e na)]
      exact e
    frzs := fun b o u e => by
      have e := J.base.frzs b o u e
      rw [upd_ne (ne_of_none e na)]
      exact e
    tbls := fun b ps e => by
      obtain ⟨more, e⟩ := J.base.tbls b ps e
      exact ⟨more, by rw [upd_ne (ne_of_none e na)]; exact e⟩ }
  loc := J.loc
  cell := J.cell
  free := by rw [upd_ne (Ne.symm nL)]; exact J.free
  freeC := fun x c e => by
    have ne : c ≠ a := fun z => by
      subst z
      obtain ⟨v, hv⟩ := I.cell x c e
      obtain ⟨o, q, _⟩ := hv
      rw [no] at q
      cases q
    rw [upd_ne ne]
    exact J.freeC x c e
  pin := fun p hp => by
    have hp' : p ∈ X.pn ++ pins := by rw [List.append_nil] at hp; exact hp
    obtain ⟨q1, q2, q3, q4, q5⟩ := J.pin p hp'
    have ne : p.1 ≠ a := fun z => by
      have q := (I.pin p hp').1
      rw [z, no] at q
      cases q
    exact ⟨q1, by rw [upd_ne ne]; exact q2, q3, q4, q5⟩
  hok := fun b u e => by
    by_cases hb : b = a
    · subst hb
      rw [upd_same] at e
      cases e
      exact ⟨ha, ⟨_, ha⟩, fun h1 h2 z k => k _ z⟩
    · rw [upd_ne hb] at e
      exact (J.hok b u e).stay (fun c w hc q => q) (fun c hc => by rw [upd_ne (ne_of_none hc na)]; exact hc) fun c xs hc => by rw [upd_ne (ne_of_none hc na)]; exact hc
  len := J.len
theorem Inv.unhot {a : Addr} {pn' : List (Addr × Obj)} (I : L2.Inv (X.suite a (X.pn ++ pins)) pn' σ H s) (ok : X.Ok) : L2.Inv X pins σ H s :=
  ⟨ok, I.os, I.bare, I.base, I.loc, I.cell, I.free, I.freeC, fun p hp => I.pin p (List.mem_append_left _ hp), I.hok, I.len⟩
end
section
variable {X : Cx} {body : List Stmt} {h₀ : ExceptHandler} {hds : List ExceptHandler} {l : List (Value × Option Nat × TS)} {pos : Pos} {tb : WX → TS} {Wout : WX}
theorem ps_tryN (hs : X.stack = X.env :: X.outer) (hf : X.env.frame = some X.env.locals) (hN : X.N.Nodup) (tk : Takes X Wout)
    (hb : ∀ (W : WX) (pn : List (Addr × Obj)) (xe : Value → Shared → Prop), Takes (X.tr pn xe) W → PassesOwn (model X.prog X.w) X.A X.env xe → PSs (X.tr pn xe) body (tb W))
    (hh : HdN X (h₀ :: hds) l) : PS X (.Try body (h₀ :: hds) [] [] pos) (fun D σ H => tb (wN X.K Wout D l) D σ H) := by
  constructor
  intro pins s σ H D I h
  have ok := I.ok
  have frm : X.A.frames = some (X.env :: X.outer) := by rw [ok.frames, hs]
  refine wpAny_Try_except (wpAny_mono ((hb (wN X.K Wout D l) (X.pn ++ pins) (fun e s₁ => wpAny (model X.prog X.w) X.A (noteFrame e X.env) (fun _ s₂ => wpAny (model X.prog X.w) X.A (setFlight e none) (fun _ s₃ =>
    wpAny (model X.prog X.w) X.A (handleBy e X.env (h₀ :: hds)) (L2.SP X pins D) X.xe s₃) X.xe s₂) X.xe s₁) (fun u s' air => ?_) PassesOwn.looking).run [] s σ H D (I.toTry _) h) (fun f s1 fin => ?_) (fun e s1 he => he))
  · obtain ⟨a, B, sI, pins', σ', H', cls, d, rfl, J', nb, up, sky, na, os, ag, w⟩ := air
    have J : L2.Inv X pins σ' H' sI := J'.ofTry ok
    have sky' : Sky B (X.env :: X.outer) a (L2.Zc cls d) X.env.locals s'.heap := by rw [← hs]; exact sky
    show wpAny (model X.prog X.w) X.A (noteFrame (.ref a) X.env) _ _ _
    refine Sky.land L2.Zc.steady frm hf sky' fun h3 fl3 up3 => ?_
    have J3 : L2.Inv X pins σ' H' { s' with heap := h3 } := J.landed nb fl3.1 (up.trans up3) os ag
    obtain ⟨oe3, vs3, he3, hz3, hd3⟩ := fl3.there
    have apart : a ∉ frs (X.env :: X.outer) := fun hm => by
      obtain ⟨_, o', e', hnf⟩ := fl3.2.2.1.mem hm
      rw [he3] at e'
      cases e'
      exact hnf _ hd3
    have nL : a ≠ X.env.locals := fun z => apart (List.mem_filterMap.mpr ⟨X.env, List.mem_cons_self, by rw [hf, z]⟩)
    have nF : a ∉ X.fs := fun hm => by
      obtain ⟨e, he, q⟩ := List.mem_filterMap.mp hm
      exact apart (List.mem_filterMap.mpr ⟨e, List.mem_cons_of_mem _ he, q⟩)
    have noB : B.get? a = none := by
      rcases sky' with z | z | z
      · exact z.2.1
      · exact z.2.1
      · exact z.2.1
    have no : sI.heap.get? a = none := by
      cases q : sI.heap.get? a with
      | none => rfl
      | some o =>
        have z := nb a o q (by rw [hs]; exact apart)
        rw [noB] at z
        cases z
    have S3 := J3.suite he3 hd3 na nL nF
    have go : ∀ {hds' : List ExceptHandler} {l' : List (Value × Option Nat × TS)}, HdN X hds' l' → wN X.K Wout D l' cls d σ' H' →
        wpAny (model X.prog X.w) X.A (handleBy (.ref a) X.env hds') (L2.SP X pins D) X.xe { s' with heap := h3 } := by
      intro hds' l' hk
      have LT : PySem.W.Looks (model X.prog X.w) h3 (typeOf (.ref a)) cls := fun A Q E s k q => wpAny_typeOf_ref (k _ _ he3) (by rw [hz3.1]; exact q)
      have test : ∀ {x : Str} {c : Value} {np : Pos} {Q : Value → Shared → Prop} {E : Value → Shared → Prop}, L2.Names X x c → Q c { s' with heap := h3 } → wpAny (model X.prog X.w) (X.A.mark (some (.ref a))) (eval (.Name x np) X.env) Q E { s' with heap := h3 } := fun {x c np Q E} hc q => by
        obtain ⟨g, db, m | ⟨m, v, nn⟩⟩ := hc
        · exact ld_glob (X := X.suite a ((a, oe3) :: (X.pn ++ pins))) S3 g m q db
        · exact ld_blt (X := X.suite a ((a, oe3) :: (X.pn ++ pins))) S3 g m v q nn db
      induction hk with
      | nil =>
        intro w
        refine wpAny_handleBy_nil ?_
        obtain ⟨k1, k2, k3, oe, vs, T, oT, ts', he, hz, hd, h1, hr⟩ := id fl3
        unfold PySem.passOn
        refine wpAny_bind (wpAny_field he hd h1 ?_)
        rw [if_neg (show ¬ ((Value.ref T == Value.none) = true) from by simp)]
        have out : wpAny (model X.prog X.w) X.A (setFlight (.ref a) X.env.frame) (fun _ s4 => wpAny (model X.prog X.w) X.A (throw (.ref a) : Sem Flow) (L2.SP X pins D) X.xe s4) X.xe { s' with heap := h3 } := by
          rw [hf]
          exact HandSPX.setFlight_upZ fl3 fun h4 hh4 up4 => wpAny_throw (tk _ _
            ⟨a, B, sI, pins, σ', H', cls, d, rfl, J, nb, (up.trans up3).trans up4, .inr (.inr (by rw [hs]; exact hh4)), na, os, ag, w⟩)
        first
          | exact wpAny_bind (wpAny_pure (wpAny_bind out))
          | exact wpAny_bind out
      | @only x c ts b₀ suite np pos' hds2 l2 hc hsu r ih =>
        intro w
        obtain ⟨b, hb1, yes, nay⟩ := w
        refine wpAny_handleBy_cons (codeAny_handlers_test (test hc ((PySem.W.exm_one (M := model X.prog X.w) (J3.kIn) LT hb1).here ?_))) (by intro q; cases q)
        cases b with
        | true =>
          refine codeAny_handlers_suite (HandSPX.lands_againZ fl3 fun h4 fl4 up4 => ?_)
          have J4 : L2.Inv X pins σ' H' { s' with heap := h4 } := J.landed nb fl4.1 ((up.trans up3).trans up4) os ag
          obtain ⟨oe4, vs4, he4, hz4, hd4⟩ := fl4.there
          have S4 := Inv.track J J4 no he4 hd4 na nL
          refine wpAny_mono ((hsu a (X.pn ++ pins)).run [] _ _ _ _ S4 (yes rfl a _ na fun h z => ⟨oe4, vs4, z, hz4, hd4⟩)) (fun f s6 fin => ?_) (fun _ _ z => False.elim z)
          cases f with
          | ret u =>
            obtain ⟨v6, σ6, H6, S6, r6, q6⟩ := fin
            exact ⟨v6, σ6, H6, Inv.unhot S6 ok, r6, q6⟩
          | _ =>
            obtain ⟨σ6, H6, S6, q6⟩ := fin
            exact ⟨σ6, H6, Inv.unhot S6 ok, q6⟩
        | false =>
          show wpAny _ X.A (handleBy (.ref a) X.env hds2) _ _ _
          exact ih (nay rfl)
      | @named x nm i c ts b₀ suite np pos' hds2 l2 hc hi hln hsu r ih =>
        intro w
        obtain ⟨b, hb1, yes, nay⟩ := w
        refine wpAny_handleBy_cons (codeAny_handlers_test (test hc ((PySem.W.exm_one (M := model X.prog X.w) (J3.kIn) LT hb1).here ?_))) (by intro q; cases q)
        cases b with
        | true =>
          refine codeAny_handlers_suite_as (HandSPX.lands_againZ fl3 fun h4 fl4 up4 => ?_)
          have J4 : L2.Inv X pins σ' H' { s' with heap := h4 } := J.landed nb fl4.1 ((up.trans up3).trans up4) os ag
          obtain ⟨oe4, vs4, he4, hz4, hd4⟩ := fl4.there
          have S4 := Inv.track J J4 no he4 hd4 na nL
          have loc : L2.Loc X.env.scope nm := .inl hln
          refine store_ok (X := X.suite a (X.pn ++ pins)) (v := .ref a) S4 hN hi loc rfl (fun s5 S5 => ?_) (.inr hln)
          refine wpAny_mono ((hsu a (X.pn ++ pins)).run [] s5 _ _ _ S5 (yes rfl a _ na fun h z => ⟨oe4, vs4, z, hz4, hd4⟩)) (fun f s6 fin => ?_) (fun _ _ z => False.elim z)
          have end_ : ∀ {σ6 : L2.St} {H6 : Hp} {Q : Shared → Prop}, L2.Inv (X.suite a (X.pn ++ pins)) [] σ6 H6 s6 → (∀ s7, L2.Inv X pins (σ6.set i none) H6 s7 → Q s7) →
              wpAny (model X.prog X.w) X.A (do bindName X.env nm .none; unbindBehindTheSuite X.env nm pos') (fun _ s7 => Q s7) X.xe s6 := fun {σ6 H6 Q} S6 hq => gone_ok (Inv.unhot S6 ok) hN hi hln hq
          cases f with
          | ret u =>
            obtain ⟨v6, σ6, H6, S6, r6, q6⟩ := fin
            exact end_ S6 fun s7 J7 => ⟨v6, _, H6, J7, r6, q6⟩
          | _ =>
            obtain ⟨σ6, H6, S6, q6⟩ := fin
            exact end_ S6 fun s7 J7 => ⟨_, H6, J7, q6⟩
        | false =>
          show wpAny _ X.A (handleBy (.ref a) X.env hds2) _ _ _
          exact ih (nay rfl)
    exact go hh w
  · cases f with
    | next =>
      obtain ⟨σ', H', J', q⟩ := fin
      exact wpAny_execs_nil ⟨σ', H', J'.ofTry ok, q⟩
    | ret u =>
      obtain ⟨v, σ', H', J', r, q⟩ := fin
      exact ⟨v, σ', H', J'.ofTry ok, r, q⟩
    | _ =>
      obtain ⟨σ', H', J', q⟩ := fin
      exact ⟨σ', H', J'.ofTry ok, q⟩
end
end Mi
set_option Elab.async false
set_option maxRecDepth 100000
set_option maxHeartbeats 4000000
/-! MiStm: the code of a statement does what its text does. -/
namespace Mi
open PySem L2 PySem.Spec PyProof.Rows
def PostS (κ : Ks) (W : WX) (ι : Io) (h : AH) (H : Hp) (r : SR) (D : Ends) : Prop := match r with
  | .ok .nx τ' h' => ∀ ι' H' σ', Stp κ ι h H ι' h' H' → RS κ H' ι' h'.n τ' σ' → D.nx σ' H'
  | .ok .bk τ' h' => ∀ ι' H' σ', Stp κ ι h H ι' h' H' → RS κ H' ι' h'.n τ' σ' → D.bk σ' H'
  | .ok .ct τ' h' => ∀ ι' H' σ', Stp κ ι h H ι' h' H' → RS κ H' ι' h'.n τ' σ' → D.ct σ' H'
  | .ok (.rt v) _ h' => ∀ ι' H' w, Stp κ ι h H ι' h' H' → RV κ H' ι' h'.n v w → D.rt w H'
  | .exc c fs τ' h' => ∀ ι' H' σ' d ys, Stp κ ι h H ι' h' H' → RS κ H' ι' h'.n τ' σ' → H' d = some (.xd ys) → RFs κ H' ι' h'.n fs ys → W (.ref (κ.C c)) (some d) σ' H'
  | .bad => False
def RSt (κ : Ks) (W : WX) (f : Frame → AH → SR) : TS := fun D σ H => ∃ ι τ h, Rep κ ι h H ∧ RS κ H ι h.n τ σ ∧ PostS κ W ι h H (f τ h) D
section
variable {κ : Ks} {W : WX} {ι : Io} {h : AH} {H : Hp} {D : Ends}
theorem PostS.pre {r : SR} {ι1 : Io} {h1 : AH} {H1 : Hp} (p : PostS κ W ι h H r D) (S : Stp κ ι h H ι1 h1 H1) : PostS κ W ι1 h1 H1 r D := by
  cases r with
  | ok f τ' h' =>
    cases f with
    | rt v => exact fun ι' H' w S' => p ι' H' w (S.trans S')
    | _ => exact fun ι' H' σ' S' => p ι' H' σ' (S.trans S')
  | exc c fs τ' h' => exact fun ι' H' σ' d ys S' => p ι' H' σ' d ys (S.trans S')
  | bad => exact p
theorem PostS.go {α β : Type} {R : Hp → Io → Nat → α → β → Prop} {r : Res α} {f : α → AH → SR} {τ : Frame} {σ : L2.St} (rep : Rep κ ι h H) (rs : RS κ H ι h.n τ σ) (p : PostS κ W ι h H (r.go τ f) D) :
    Post κ R W σ ι h H r fun b H1 => ∃ ι1 h1 a, Stp κ ι h H ι1 h1 H1 ∧ RS κ H1 ι1 h1.n τ σ ∧ R H1 ι1 h1.n a b ∧ PostS κ W ι1 h1 H1 (f a h1) D := by
  cases r with
  | ok a h' => exact fun ι' H' b S r => ⟨ι', h', a, S, S.slots rep rs, r, PostS.pre p S⟩
  | exc c fs h' => exact fun ι' H' d ys S => p ι' H' σ d ys S (S.slots rep rs)
  | bad => exact p
theorem PostS.goI {r : Res (List AV × Watch)} {f : (List AV × Watch) → AH → SR} {τ : Frame} {σ : L2.St} (rep : Rep κ ι h H) (rs : RS κ H ι h.n τ σ) (p : PostS κ W ι h H (r.go τ f) D) :
    PostI κ W σ ι h H r fun J H1 => ∃ ι1 h1 a, Stp κ ι h H ι1 h1 H1 ∧ RS κ H1 ι1 h1.n τ σ ∧ JR κ ι1 h1 H1 a J ∧ PostS κ W ι1 h1 H1 (f a h1) D := by
  cases r with
  | ok a h' => exact fun ι' H' J S j => ⟨ι', h', a, S, S.slots rep rs, j, PostS.pre p S⟩
  | exc c fs h' => exact fun ι' H' d ys S => p ι' H' σ d ys S (S.slots rep rs)
  | bad => exact p
theorem PS.imp {X : Cx} {st : Stmt} {t t' : TS} (k : ∀ D σ H, t' D σ H → t D σ H) (p : PS X st t) : PS X st t' := ⟨fun pins s σ H D I q => p.run pins s σ H D I (k D σ H q)⟩
theorem PSs.imp {X : Cx} {st : List Stmt} {t t' : TS} (k : ∀ D σ H, t' D σ H → t D σ H) (p : PSs X st t) : PSs X st t' := ⟨fun pins s σ H D I q => p.run pins s σ H D I (k D σ H q)⟩
end
section
variable {κ : Ks} {B : Tb} {ct : Ct} {n : Nat} {k : Cc} {X : Cx} {W : WX} {G : PG}
theorem nLc {e : Expr} (h : notLc e = true) (tg : Option Expr) (l : Nat) (env : Env) : swapsWith e tg l env = pure false := by
  cases e <;> first | rfl | cases h
theorem st_expr (C : Cok κ B ct n k X W) {e : E} {e' : Expr} {p : Pos} (he : Snd κ G X W e e') (h : notLc e' = true) : PS X (.Expr e' p) (RSt κ W (exec G (.expr e))) := by
  refine PS.imp (fun D σ H q => ?_) (ps_expr he.pe (nLc h _ _ _))
  obtain ⟨ι, τ, h0, R, S, P⟩ := q
  refine ⟨ι, τ, h0, R, S, (PostS.go (R := RV κ) R S P).mono fun v H1 ⟨ι1, h1, a, S1, rs, r, q⟩ => ?_⟩
  exact q ι1 H1 σ (Stp.refl S1.rep) rs
theorem st_pass : PS X (.Pass p) (RSt κ W (exec G .pass)) := PS.imp (fun D σ H ⟨ι, τ, h0, R, S, P⟩ => P ι H σ (Stp.refl R) S) ps_pass
theorem st_brk : PS X (.Break p) (RSt κ W (exec G .brk)) := PS.imp (fun D σ H ⟨ι, τ, h0, R, S, P⟩ => P ι H σ (Stp.refl R) S) ps_break
theorem st_cnt : PS X (.Continue p) (RSt κ W (exec G .cnt)) := PS.imp (fun D σ H ⟨ι, τ, h0, R, S, P⟩ => P ι H σ (Stp.refl R) S) ps_continue
theorem st_retN : PS X (.Return none p) (RSt κ W (exec G .retN)) := PS.imp (fun D σ H ⟨ι, τ, h0, R, S, P⟩ => P ι H .non (Stp.refl R) rfl) ps_retN
theorem st_ret {e : E} {e' : Expr} {p : Pos} (he : Snd κ G X W e e') : PS X (.Return (some e') p) (RSt κ W (exec G (.ret e))) := by
  refine PS.imp (fun D σ H q => ?_) (ps_ret he.pe)
  obtain ⟨ι, τ, h0, R, S, P⟩ := q
  refine ⟨ι, τ, h0, R, S, (PostS.go (R := RV κ) R S P).mono fun v H1 ⟨ι1, h1, a, S1, rs, r, q⟩ => ?_⟩
  exact q ι1 H1 v (Stp.refl S1.rep) r
theorem st_ite {t : E} {a b : Ss} {t' : Expr} {a' b' : List Stmt} {p : Pos} (ht : Snd κ G X W t t') (tt : testable t' = true) (ha : PSs X a' (RSt κ W (execs G a))) (hb : PSs X b' (RSt κ W (execs G b))) : PS X (.If t' a' b' p) (RSt κ W (exec G (.ite t a b))) := by
  refine PS.imp (fun D σ H q => ?_) (ps_if (ht.pt tt) ha hb)
  obtain ⟨ι, τ, h0, R, S, P⟩ := q
  have P : PostS κ W ι h0 H ((evalT G t τ h0).go τ fun c h1 => if c then execs G a τ h1 else execs G b τ h1) D := P
  refine ⟨ι, τ, h0, R, S, (PostS.go (R := RB) R S P).mono fun c H1 ⟨ι1, h1, d, S1, rs, r, q⟩ => ?_⟩
  obtain rfl : d = c := r
  cases d with
  | true => exact iteT ⟨ι1, τ, h1, S1.rep, rs, q⟩
  | false => exact iteF ⟨ι1, τ, h1, S1.rep, rs, q⟩
theorem st_nil : PSs X [] (RSt κ W (execs G .nil)) := PSs.imp (fun D σ H ⟨ι, τ, h0, R, S, P⟩ => P ι H σ (Stp.refl R) S) pss_nil
theorem st_cons {s : S} {r : Ss} {s' : Stmt} {r' : List Stmt} (hs : PS X s' (RSt κ W (exec G s))) (hr : PSs X r' (RSt κ W (execs G r))) : PSs X (s' :: r') (RSt κ W (execs G (.cons s r))) := by
  refine PSs.imp (fun D σ H q => ?_) (pss_cons hs hr)
  obtain ⟨ι, τ, h0, R, S, P⟩ := q
  have P : PostS κ W ι h0 H ((exec G s τ h0).then fun τ' h' => execs G r τ' h') D := P
  refine ⟨ι, τ, h0, R, S, ?_⟩
  cases e : exec G s τ h0 with
  | ok f τ' h' =>
    rw [e] at P
    cases f with
    | nx => exact fun ι' H' σ' S' rs => ⟨ι', τ', h', S'.rep, rs, PostS.pre P S'⟩
    | _ => exact P
  | exc c fs τ' h' => rw [e] at P; exact P
  | bad => rw [e] at P; exact P
theorem st_asg (C : Cok κ B ct n k X W) {t : T} {e : E} {tg e' : Expr} {p : Pos} (he : Snd κ G X W e e') (hg : chkT k t tg = true) (h1 : notStar tg = true) (h2 : notTgl tg = true) (h3 : isTup e' = false ∨ ∃ x q, tg = .Name x q) (h4 : notLc e' = true) : PS X (.Assign [tg] e' p) (RSt κ W (exec G (.asg t e))) := by
  refine PS.imp (fun D σ H q => ?_) (ps_asg he.pe (pg_T C t tg hg) (nLc h4 _ _ _) ?_ (by rw [asg1 h1]; rfl))
  · obtain ⟨ι, τ, h0, R, S, P⟩ := q
    refine ⟨ι, τ, h0, R, S, (PostS.go (R := RV κ) R S P).mono fun v H1 ⟨ι1, h1, a, S1, rs, r, q⟩ => ?_⟩
    cases ea : asgT t a τ with
    | none => rw [ea] at q; exact q.elim
    | some τ' =>
      rw [ea] at q
      exact ⟨ι1, τ, h1, a, τ', S1.rep, rs, r, ea, fun σ' S' _ _ => q ι1 H1 σ' (Stp.refl S1.rep) S'⟩
  · rcases h3 with h3 | ⟨x, q, rfl⟩
    · cases tg <;> cases e' <;> first | rfl | cases h3 | cases h2
    · rfl
theorem st_asgLc (C : Cok κ B ct n k X W) (hc : k.hot = false) {i : Nat} {it : It} {t : T} {cnd : OE} {elt : E} {y : Str} {py : Pos} {tg iter elt' : Expr} {ifs : List Expr} {scope : Scope} {p p2 : Pos} (hy : k.N[i]? = some y) (hln : lcName k (.ListComp elt' [⟨tg, iter, ifs, 0⟩] scope p) (.Name y py) = true)
    (hi : PI X tg iter (RdI κ W (evalIt G it))) (ok : blkC k.N k.sc scope (ownT k.N t) = true) (hns : notSet iter = true)
    (hg : chkT ⟨k.N, relS scope k.sc, false, false⟩ t tg = true)
    (ht : ∀ (s : Shared) (H : Hp) (D : Addr) (cl : List (Str × Addr)) (fp : List Addr), PTs (X.blk s H scope (compEnvC scope cl D X.env) fp) ifs (RdT κ WN (evalC G cnd)))
    (he : ∀ (s : Shared) (H : Hp) (D : Addr) (cl : List (Str × Addr)) (fp : List Addr), PE (X.blk s H scope (compEnvC scope cl D X.env) fp) elt' (Rd κ WN (evalE G elt))) :
    PS X (.Assign [.Name y py] (.ListComp elt' [⟨tg, iter, ifs, 0⟩] scope p) p2) (RSt κ W (exec G (.asg (.nm i) (.lc t it cnd elt)))) := by
  unfold lcName at hln
  simp only [Bool.and_eq_true, Bool.not_eq_true'] at hln
  obtain ⟨⟨l1, l2⟩, l3⟩ := hln
  have loc : X.env.scope.names.lookup y = some .local := by
    rw [C.sc]
    split at l1
    · assumption
    · cases l1
  have okB : BlkOk X.N X.env.scope scope (ownT k.N t) := blkOk_by (by rw [C.N, C.sc]; exact ok)
  have kind : X.env.scope.kind = .function ∨ ¬ X.env.scope.kind = .function := Decidable.em _
  rcases kind with kind | kind
  · refine PS.imp (fun D σ H q => ?_) (ps_setLc (C.calm hc) C.nd (by rw [C.N]; exact hy) loc (sw_true kind loc l2 l3) hi okB (fun s H D cl fp => pg_T (C.blk hc s H D cl fp scope) t tg hg) ht he (by intro x; cases iter <;> first | rfl | cases hns))
    rw [own_slots]
    obtain ⟨ι, τ, h0, R, S, P⟩ := q
    refine lc_run (κ := κ) (W := W) (G := G) (t := t) (it := it) (cnd := cnd) (elt := elt) ⟨ι, τ, h0, R, S, (PostS.go (R := RV κ) R S P).mono fun v H1 ⟨ι1, h1, a, S1, rs, r, q⟩ => ?_⟩
    cases ea : asgT (.nm i) a τ with
    | none => rw [ea] at q; exact q.elim
    | some τ' =>
      rw [ea] at q
      unfold asgT at ea
      split at ea
      · cases ea
        exact q ι1 H1 _ (Stp.refl S1.rep) (rs.set r i)
      · cases ea
  · exact ⟨fun pins s σ H D I q => absurd I.ok.kind kind⟩
theorem st_asgF (C : Cok κ B ct n k X W) {o e : E} {f : Nat} {o' e' : Expr} {x : Str} {p p2 : Pos} (hf : ct.att.lookup x = some f) (hG : G.fa = B.fa) (he : Snd κ G X W e e') (ho : Snd κ G X W o o') : PS X (.Assign [.Attribute o' x p2] e' p) (RSt κ W (exec G (.asgF o f e))) := by
  refine PS.imp (fun D σ H q => ?_) (ps_fld ho.pe he.pe (by cases e' <;> rfl))
  obtain ⟨ι, τ, h0, R, S, P⟩ := q
  have P : PostS κ W ι h0 H ((evalE G e τ h0).go τ fun v h1 => (evalE G o τ h1).go τ fun x h2 => match setF G.fa x f v h2 with
      | some h3 => .ok .nx τ h3
      | none => .bad) D := P
  refine ⟨ι, τ, h0, R, S, (PostS.go (R := RV κ) R S P).mono fun v H1 ⟨ι1, h1, a, S1, rs, r, q⟩ => ?_⟩
  refine ⟨ι1, τ, h1, S1.rep, rs, (PostS.go (R := RV κ) S1.rep rs q).mono fun u H2 ⟨ι2, h2, b, S2, rs2, r2, q2⟩ => ?_⟩
  cases es : setF G.fa b f a h2 with
  | none => rw [es] at q2; exact q2.elim
  | some h3 =>
    rw [es] at q2
    unfold setF at es
    split at es
    · rename_i p3
      split at es
      · rename_i c fs eg
        split at es
        · rename_i hc
          cases es
          obtain ⟨l, dx, ys, q3, rf⟩ := S2.rep.ins eg
          obtain ⟨_, rfl⟩ := r2
          obtain ⟨c1, c2⟩ := C.wc.fa c f (hG ▸ hc.1)
          rw [C.wc.att x f hf] at c2
          refine ⟨_, _, dx, ys, rfl, q3, C.hK ▸ c1, C.hK ▸ c2, by rw [← rf.length]; exact hc.2, ?_⟩
          have S3 := S2.rep.put (o := .ins (κ.C c) dx (putF x v ys)) (ao := .ins c (putN f a fs)) l ⟨dx, _, upd_same, by
            have z := RFs.put (S2.val S1.rep r) f rf
            rw [C.wc.att x f hf] at z
            exact RFs.mono (S2.rep.kept_put l) (fun _ _ => rfl) (Nat.le_refl _) _ _ z⟩
          exact q2 ι2 _ σ S3 (S3.slots S2.rep rs2)
        · cases es
      · cases es
    · cases es
theorem st_asgS (C : Cok κ B ct n k X W) {o i e : E} {o' i' e' : Expr} {p p2 : Pos} (hs : notSl i' = true) (he : Snd κ G X W e e') (ho : Snd κ G X W o o') (hi : Snd κ G X W i i') : PS X (.Assign [.Subscript o' i' p2] e' p) (RSt κ W (exec G (.asgS o i e))) := by
  refine PS.imp (fun D σ H q => ?_) (ps_asg he.pe (pg_sub ho.pe hi.pe (ok_set (κ := κ) (by have := C.un; omega)) (by cases i' <;> first | (intro _; rfl) | cases hs)) (by cases e' <;> rfl) (by cases e' <;> rfl) rfl)
  obtain ⟨ι, τ, h0, R, S, P⟩ := q
  have P : PostS κ W ι h0 H ((evalE G e τ h0).go τ fun v h1 => (evalE G o τ h1).go τ fun x h2 => (evalE G i τ h2).go τ fun k h3 => match setS x k v h3 with
      | some h4 => .ok .nx τ h4
      | none => .bad) D := P
  refine ⟨ι, τ, h0, R, S, (PostS.go (R := RV κ) R S P).mono fun v H1 ⟨ι1, h1, a, S1, rs, r, q⟩ => ?_⟩
  refine ⟨ι1, τ, h1, S1.rep, rs, (PostS.go (R := RV κ) S1.rep rs q).mono fun u H2 ⟨ι2, h2, b, S2, rs2, r2, q2⟩ => ?_⟩
  refine ⟨ι2, τ, h2, S2.rep, rs2, (PostS.go (R := RV κ) S2.rep rs2 q2).mono fun w H3 ⟨ι3, h3, c, S3, rs3, r3, q3⟩ => ?_⟩
  refine ⟨ι3, h3, b, c, a, S3.rep, S3.val S2.rep r2, r3, S3.val S2.rep (S2.val S1.rep r), ?_⟩
  cases es : setS b c a h3 with
  | none => rw [es] at q3; exact q3.elim
  | some h4 =>
    rw [es] at q3
    exact ⟨h4, rfl, fun H4 S4 => q3 ι3 H4 σ S4 (S4.slots S3.rep rs3)⟩
theorem st_aug (C : Cok κ B ct n k X W) {i : Nat} {o : O2} {op : Operator} {e : E} {e' : Expr} {x : Str} {p p2 : Pos} (hi : k.N[i]? = some x) (hl : k.sc.names.lookup x = some .local) (ho : augB op o = true) (he : Snd κ G X W e e') : PS X (.AugAssign (.Name x p2) op e' p) (RSt κ W (exec G (.aug i o e))) := by
  have loc : X.env.scope.names.lookup x = some .local := by rw [C.sc]; exact hl
  have core : ∀ (g : Int → Int → Int), (∀ a b z, augS o a b = some z → ∃ i j, a = .int i ∧ b = .int j ∧ z = g i j) → ∀ D σ H, RSt κ W (exec G (.aug i o e)) D σ H → tAug i (Rd κ W (evalE G e)) (ipI g) D σ H := by
    intro g hg D σ H q
    obtain ⟨ι, τ, h0, R, S, P⟩ := q
    unfold exec at P
    split at P
    · rename_i a ea
      obtain ⟨v, ev, rv⟩ := S.2 i a ea
      refine ⟨v, ev, ι, τ, h0, R, S, (PostS.go (R := RV κ) R S P).mono fun u H1 ⟨ι1, h1, b, S1, rs, r, q⟩ => ?_⟩
      cases es : augS o a b with
      | none => rw [es] at q; exact q.elim
      | some z =>
        rw [es] at q
        obtain ⟨i0, j0, rfl, rfl, rfl⟩ := hg a b z es
        obtain rfl : v = .int i0 := rv
        obtain rfl : u = .int j0 := r
        exact ⟨i0, j0, rfl, rfl, q ι1 H1 _ (Stp.refl S1.rep) (rs.set (a := .int (g i0 j0)) (v := .int (g i0 j0)) rfl i)⟩
    · exact P.elim
  unfold augB at ho
  split at ho
  · refine PS.imp (core (fun i j => i + j) fun a b z e => ?_) (ps_aug C.nd (by rw [C.N]; exact hi) (.inl loc) he.pe ip_add (.inr loc))
    cases a <;> cases b <;> first | (cases e; done) | (cases e; exact ⟨_, _, rfl, rfl, rfl⟩)
  · refine PS.imp (core (fun i j => i - j) fun a b z e => ?_) (ps_aug C.nd (by rw [C.N]; exact hi) (.inl loc) he.pe ip_sub (.inr loc))
    cases a <;> cases b <;> first | (cases e; done) | (cases e; exact ⟨_, _, rfl, rfl, rfl⟩)
  · cases ho
theorem st_while (C : Cok κ B ct n k X W) {t : E} {b : Ss} {t' : Expr} {b' : List Stmt} {p : Pos} (ht : Snd κ G X W t t') (tt : testable t' = true) (hb : PSs X b' (RSt κ W (execs G b))) : PS X (.While t' b' [] p) (RSt κ W (exec G (.whl t b))) := by
  refine PS.imp (fun D σ H q => ?_) (ps_while C.po (ht.pt tt) hb)
  obtain ⟨ι, τ, h0, R, S, P⟩ := q
  refine ⟨fun m σ H => ∃ ι τ h, Rep κ ι h H ∧ RS κ H ι h.n τ σ ∧ PostS κ W ι h H (whlGo (fun τ h => evalT G t τ h) (fun τ h => execs G b τ h) m τ h) D, ⟨G.fuel, ι, τ, h0, R, S, P⟩, ?_⟩
  rintro m σ1 H1 ⟨ι1, τ1, h1, R1, S1, P1⟩
  cases m with
  | zero => exact P1.elim
  | succ m =>
    unfold whlGo at P1
    refine ⟨ι1, τ1, h1, R1, S1, (PostS.go (R := RB) R1 S1 P1).mono fun c H2 ⟨ι2, h2, d, S2, rs2, r2, q⟩ => ?_⟩
    obtain rfl : d = c := r2
    cases d with
    | false => exact iteF (q ι2 H2 σ1 (Stp.refl S2.rep) rs2)
    | true =>
      refine iteT ⟨fun σ' H' => ∃ ι τ h, Rep κ ι h H' ∧ RS κ H' ι h.n τ σ' ∧ PostS κ W ι h H' (whlGo (fun τ h => evalT G t τ h) (fun τ h => execs G b τ h) m τ h) D, fun σ' H' z => ⟨m, Nat.lt_succ_self m, z⟩, ι2, τ1, h2, S2.rep, rs2, ?_⟩
      have q : PostS κ W ι2 h2 H2 (match execs G b τ1 h2 with
        | .ok .nx τ' h' => whlGo (fun τ h => evalT G t τ h) (fun τ h => execs G b τ h) m τ' h'
        | .ok .ct τ' h' => whlGo (fun τ h => evalT G t τ h) (fun τ h => execs G b τ h) m τ' h'
        | .ok .bk τ' h' => .ok .nx τ' h'
        | r => r) D := q
      cases e : execs G b τ1 h2 with
      | ok f τ' h' =>
        rw [e] at q
        cases f with
        | nx => exact fun ι' H' σ' S' rs => ⟨ι', τ', h', S'.rep, rs, PostS.pre q S'⟩
        | ct => exact fun ι' H' σ' S' rs => ⟨ι', τ', h', S'.rep, rs, PostS.pre q S'⟩
        | bk => exact q
        | rt v => exact q
      | exc c fs τ' h' => rw [e] at q; exact q
      | bad => rw [e] at q; exact q
theorem st_for (C : Cok κ B ct n k X W) (hc : k.hot = false) {t : T} {it : It} {b : Ss} {tg e' : Expr} {b' : List Stmt} {p : Pos} (hi : PI X tg e' (RdI κ W (evalIt G it))) (hns : notSet e' = true) (hg : chkT k t tg = true) (hb : PSs X b' (RSt κ W (execs G b))) :
    PS X (.For tg e' b' [] p) (RSt κ W (exec G (.for_ t it b))) := by
  refine PS.imp (fun D σ H q => ?_) (ps_for C.po (C.calm hc) hi (pg_T C t tg hg) hb (by intro x; cases e' <;> first | rfl | cases hns))
  obtain ⟨ι, τ, h0, R, S, P⟩ := q
  obtain ⟨step, hstep⟩ : ∃ step : AV → Frame → AH → SR, step = fun v τ h => match asgT t v τ with
      | some τ' => execs G b τ' h
      | none => .bad := ⟨_, rfl⟩
  have P : PostS κ W ι h0 H ((evalIt G it τ h0).go τ fun p h1 => forGo p.2 step p.1 τ h1) D := by rw [hstep]; exact P
  have P2 := PostS.goI R S P
  refine ⟨ι, τ, h0, R, S, ?_⟩
  revert P2
  generalize evalIt G it τ h0 = rr
  intro P2
  have weak : ∀ {r : Res (List AV × Watch)} {Q1 Q2 : L2.It → Hp → Prop}, PostI κ W σ ι h0 H r Q1 → (∀ J H', Q1 J H' → Q2 J H') → PostI κ W σ ι h0 H r Q2 := by
    intro r Q1 Q2 p k
    cases r with
    | ok a h' => exact fun ι' H' b S r => k b H' (p ι' H' b S r)
    | exc c fs h' => exact p
    | bad => exact p
  refine weak P2 fun J H1 ⟨ι1, h1, p, S1, rs1, j, P3⟩ => ?_
  refine ⟨fun i m σ' H' => m = p.1.length - i ∧ i ≤ p.1.length ∧ ∃ ι' τ' h', Stp κ ι1 h1 H1 ι' h' H' ∧ RS κ H' ι' h'.n τ' σ' ∧ PostS κ W ι' h' H' (forGo p.2 step (p.1.drop i) τ' h') D, ⟨p.1.length, rfl, Nat.zero_le _, ι1, τ, h1, Stp.refl S1.rep, rs1, by rw [List.drop_zero]; exact P3⟩, ?_⟩
  rintro i m σ' H' ⟨rfl, hi, ι', τ', h', S', rs', P4⟩
  have still : ∀ {l : List AV}, PostS κ W ι' h' H' (forGo p.2 step l τ' h') D → Still p.2 h' := by
    intro l z
    by_cases w : Still p.2 h'
    · exact w
    · cases l <;> (unfold forGo at z; rw [if_neg w] at z; exact z.elim)
  have hst := still P4
  by_cases hlt : i < p.1.length
  · right
    have ed : p.1.drop i = p.1[i] :: p.1.drop (i + 1) := List.drop_eq_getElem_cons hlt
    rw [ed] at P4
    unfold forGo at P4
    rw [if_pos hst] at P4
    obtain ⟨jgo, jy⟩ := (j ι' h' H' S' hst).1 i hlt
    have hm : p.1.length - (i + 1) < p.1.length - i := by omega
    refine ⟨jgo, fun σ2 H2 => ∃ ι' τ' h', Stp κ ι1 h1 H1 ι' h' H2 ∧ RS κ H2 ι' h'.n τ' σ2 ∧ PostS κ W ι' h' H2 (forGo p.2 step (p.1.drop (i + 1)) τ' h') D, fun σ2 H2 z => ⟨_, hm, rfl, hlt, z⟩, fun x H2 y => ?_⟩
    obtain ⟨SJ, a, ea, rx⟩ := jy x H2 y
    have rs' := SJ.slots S'.rep rs'
    have P4 := PostS.pre P4 SJ
    have S' := S'.trans SJ
    have e1 : p.1[i] = a := by rw [List.getElem?_eq_getElem hlt] at ea; exact Option.some.inj ea
    rw [e1] at P4
    cases es : asgT t a τ' with
    | none =>
      have hs : step a τ' h' = .bad := by rw [hstep]; simp only [es]
      rw [hs] at P4
      exact P4.elim
    | some τ2 =>
      have hs : step a τ' h' = execs G b τ2 h' := by rw [hstep]; simp only [es]
      rw [hs] at P4
      refine ⟨ι', τ', h', a, τ2, S'.rep, rs', rx, es, fun σ2 rs2 _ _ => ⟨ι', τ2, h', S'.rep, rs2, ?_⟩⟩
      cases ee : execs G b τ2 h' with
      | ok f τ3 h3 =>
        rw [ee] at P4
        cases f with
        | nx => exact fun ι3 H3 σ3 S3 rs3 => ⟨ι3, τ3, h3, S'.trans S3, rs3, PostS.pre P4 S3⟩
        | ct => exact fun ι3 H3 σ3 S3 rs3 => ⟨ι3, τ3, h3, S'.trans S3, rs3, PostS.pre P4 S3⟩
        | bk => exact P4
        | rt v => exact P4
      | exc c fs τ3 h3 => rw [ee] at P4; exact P4
      | bad => rw [ee] at P4; exact P4
  · left
    have e : i = p.1.length := by omega
    subst e
    rw [List.drop_length] at P4
    unfold forGo at P4
    rw [if_pos hst] at P4
    exact ⟨(j ι' h' _ S' hst).2 _ (Nat.le_refl _), P4 ι' _ _ (Stp.refl S'.rep) rs'⟩
end
end Mi
set_option Elab.async false
set_option maxRecDepth 100000
set_option maxHeartbeats 4000000
/-! MiStm2: raise, try; all statements. -/
namespace Mi
open PySem L2 PySem.Spec PyProof.Rows
section
variable {κ : Ks} {B : Tb} {ct : Ct} {n : Nat} {k : Cc} {X : Cx} {W : WX} {G : PG}
theorem st_rais (C : Cok κ B ct n k X W) (hc : k.hot = false) {c : Nat} {as : Es} {e0 : Expr} {es : List Expr} {x : Str} {p q p2 : Pos} (hcl : ct.cls.lookup x = some c) (hg : glB k.sc x = true) (hs : (e0 :: es).all notStar = true) (hG : G.exf = B.exf)
    (ha : SndA κ G X W as (e0 :: es)) : PS X (.Raise (some (.Call (.Name x p) (e0 :: es) [] q)) none p2) (RSt κ W (exec G (.rais c as))) := by
  obtain ⟨g1, g2, g3⟩ := gl_of C hg
  have h1 := hs
  rw [List.all_cons, Bool.and_eq_true] at h1
  have view : ∀ {D : Ends} {σ : L2.St} {H : Hp}, RSt κ W (exec G (.rais c as)) D σ H → ∃ ι τ h, Rep κ ι h H ∧ RS κ H ι h.n τ σ ∧ PostS κ W ι h H (match B.exf c with
      | some ks => (evalEs G as τ h).go τ fun vs h1 => match mkFs h1 [] ks vs with
        | some (fs, h2) => .exc c fs τ h2
        | none => .bad
      | none => .bad) D := by
    intro D σ H ⟨ι, τ, h, R, S, P⟩
    rw [← hG]
    exact ⟨ι, τ, h, R, S, P⟩
  cases ek : B.exf c with
  | none =>
    refine ⟨fun pins s σ H D I z => ?_⟩
    obtain ⟨ι, τ, h, R, S, P⟩ := view z
    rw [ek] at P
    exact P.elim
  | some ks =>
    obtain ⟨T, hm, hk0, hkl, fI, fd, ps, iC, tI, F, hb⟩ := (C.wf hc).exF x c ks hcl ek
    have mk := pmk_oex (pos := q) (p := p) (ds := []) (dvs := []) T iC tI F ((C.room hc).mono (by omega)) hb .nil (fun _ _ _ _ _ _ _ h => h.elim) g1 hm ha g2 (star1 h1.1) (star_any h1.2)
    refine PS.imp (fun D σ H z => ?_) (ps_raise (pos := p2) (C.calm hc) C.tk mk)
    obtain ⟨ι, τ, h0, R, S, P⟩ := view z
    rw [ek] at P
    refine ⟨ι, τ, h0, R, S, (PostS.go (R := RVs κ) R S P).mono fun ws H1 ⟨ι1, h1, vs, S1, rs, r, z⟩ => ?_⟩
    cases em : mkFs h1 [] ks vs with
    | none => rw [em] at z; exact z.elim
    | some fh =>
      obtain ⟨fs, h2⟩ := fh
      rw [em] at z
      obtain ⟨rfl, e2, e3, e4, e5⟩ := mkFs_ok (zs := []) em r rfl
      rw [List.append_nil] at e5
      refine ⟨by rw [e2]; exact hkl, fun a na => ?_⟩
      rw [List.append_nil]
      refine ⟨a, ws, rfl, e2, e3, e4, upd_same, fun d H' nd ne ea ed oth => ⟨rfl, d, ((ks.map fun kb => κ.F kb.1).zip ws).reverse, ea, ed, ?_, ?_⟩⟩
      · rw [upd_ne ne] at nd
        exact nd
      · have eH : upd (del H' a) d (.xd ((ks.map fun kb => κ.F kb.1).zip ws).reverse) = upd H1 d (.xd ((ks.map fun kb => κ.F kb.1).zip ws).reverse) := by
          funext b
          by_cases hbd : b = d
          · rw [hbd, upd_same, upd_same]
          · rw [upd_ne hbd, upd_ne hbd]
            by_cases hba : b = a
            · rw [hba, del_same, na]
            · rw [del_ne hba, oth b hba hbd, upd_ne hba]
        rw [eH]
        have nd' : H1 d = none := by
          rw [upd_ne ne] at nd
          exact nd
        have S2 := S1.rep.side (o := .xd ((ks.map fun kb => κ.F kb.1).zip ws).reverse) nd'
        exact z ι1 _ σ d _ S2 (S2.slots S1.rep rs) upd_same (S2.flds S1.rep e5)
theorem RS.clear {H : Hp} {ι : Io} {m : Nat} {τ : Frame} {σ : L2.St} (r : RS κ H ι m τ σ) (i : Nat) : RS κ H ι m (τ.set i none) (σ.set i none) := by
  refine ⟨by rw [List.length_set, List.length_set]; exact r.1, fun j x e => ?_⟩
  by_cases hj : i = j
  · subst hj
    by_cases hl : i < τ.length
    · rw [List.getElem?_set_self hl] at e; cases e
    · rw [List.getElem?_eq_none (by simpa using hl)] at e; cases e
  · rw [List.getElem?_set_ne hj] at e
    rw [List.getElem?_set_ne hj]
    exact r.2 j x e
noncomputable def hdL (κ : Ks) (G : PG) : Hs → List (Value × Option Nat × TS)
  | .nil => []
  | .cons j i b r => (.ref (κ.C j), i, RSt κ WN (execs G b)) :: hdL κ G r
theorem handle_ok (C : Cok κ B ct n k X W) (hx : G.ex = B.ex) (hs : G.sub = B.sub) {D : Ends} {c : Nat} {fs : List (Nat × AV)} : ∀ (hd : Hs) (l : List ExceptHandler), chkHs ct k hd l = true → ∀ {ι : Io} {h : AH} {H : Hp} {τ : Frame} {σ : L2.St} {d : Addr} {ys : List (Str × V)},
    Rep κ ι h H → RS κ H ι h.n τ σ → H d = some (.xd ys) → RFs κ H ι h.n fs ys → PostS κ W ι h H (handle G hd c fs τ h) D → wN X.K W D (hdL κ G hd) (.ref (κ.C c)) (some d) σ H
  | .nil, l, _, ι, h, H, τ, σ, d, ys, R, S, hd, rf, P => P ι H σ d ys (Stp.refl R) S hd rf
  | .cons j i b r, l, hc, ι, h, H, τ, σ, d, ys, R, S, hd, rf, P => by
    unfold chkHs at hc
    split at hc
    · rename_i x p nm b0 b1 pos' l'
      simp only [Bool.and_eq_true, decide_eq_true_eq] at hc
      obtain ⟨⟨⟨⟨h1, h2⟩, h3⟩, h4⟩, h5⟩ := hc
      unfold handle at P
      split at P
      · rename_i hex
        rw [hx, Bool.and_eq_true] at hex
        refine ⟨B.sub c j, C.wc.hd c j x h1 hex.2 hex.1, fun hb a φ na er => ?_, fun hb => ?_⟩
        · rw [hs, if_pos hb] at P
          obtain ⟨vs, q1, rfl⟩ := rf.split
          have S2 := R.side (o := .ext φ) na
          have nd : d ≠ a := ne_of_none hd na
          have rx : RV κ (upd H a (.ext φ)) ι h.n (.xcp c (fs.map (·.1)) (fs.map (·.2))) (.ref a) := ⟨a, d, vs, φ, rfl, S2.vals R q1, by rw [List.length_map, List.length_map], upd_same, er, .inr (by rw [upd_ne nd]; exact hd)⟩
          cases i with
          | none =>
            have P : PostS κ W ι h H (match execs G b τ h with
              | .ok f τ' h' => .ok f τ' h'
              | _ => .bad) D := P
            refine ⟨ι, τ, h, S2.rep, S2.slots R S, ?_⟩
            cases e : execs G b τ h with
            | ok f τ' h' =>
              rw [e] at P
              have P := PostS.pre P S2
              cases f <;> exact P
            | exc c fs τ' h' => rw [e] at P; exact P.elim
            | bad => rw [e] at P; exact P.elim
          | some i =>
            have P : PostS κ W ι h H (match execs G b (τ.set i (some (.xcp c (fs.map (·.1)) (fs.map (·.2))))) h with
              | .ok f τ' h' => .ok f (τ'.set i none) h'
              | _ => .bad) D := P
            refine ⟨ι, τ.set i (some (.xcp c (fs.map (·.1)) (fs.map (·.2)))), h, S2.rep, (S2.slots R S).set rx i, ?_⟩
            cases e : execs G b (τ.set i (some (.xcp c (fs.map (·.1)) (fs.map (·.2))))) h with
            | ok f τ' h' =>
              rw [e] at P
              have P := PostS.pre P S2
              cases f with
              | rt v => exact P
              | _ => exact fun ι' H' σ' S' rs => P ι' H' _ S' (rs.clear i)
            | exc c fs τ' h' => rw [e] at P; exact P.elim
            | bad => rw [e] at P; exact P.elim
        · rw [hs, if_neg (by rw [hb]; exact Bool.false_ne_true)] at P
          exact handle_ok C hx hs r l' h5 R S hd rf P
      · exact P.elim
    · cases hc
theorem Cok.tr (C : Cok κ B ct n k X W) (hc : k.hot = false) {W' : WX} {pn : List (Addr × Obj)} {xe : Value → Shared → Prop} (tk : Takes (X.tr pn xe) W') (po : PassesOwn (model X.prog X.w) X.A X.env xe) : Cok κ B ct n k (X.tr pn xe) W' where
  wc := C.wc
  wf := C.wf
  hK := C.hK
  N := C.N
  nd := C.nd
  sc := C.sc
  calm := C.calm
  un := C.un
  gd := C.gd
  room := C.room
  tk := tk
  fn := C.fn
  po := po
  st := C.st
theorem Cok.suite (C : Cok κ B ct n k X W) (a : Addr) (pn : List (Addr × Obj)) : Cok κ B ct n ⟨k.N, k.sc, k.d, true⟩ (X.suite a pn) WN where
  wc := C.wc
  wf := fun h => by cases h
  hK := C.hK
  N := C.N
  nd := C.nd
  sc := C.sc
  calm := fun h => by cases h
  un := C.un
  gd := C.gd
  room := fun h => by cases h
  tk := fun u s' ⟨_, _, _, _, _, _, _, _, _, _, _, _, _, _, _, _, w⟩ => w.elim
  fn := C.fn
  po := PassesOwn.never
  st := C.st
theorem st_try (C : Cok κ B ct n k X W) (hc : k.hot = false) (hd : k.d = true) (hx : G.ex = B.ex) (hs : G.sub = B.sub) {b : Ss} {hds : Hs} {b' : List Stmt} {h0 : ExceptHandler} {l : List ExceptHandler} {p : Pos} (hh : chkHs ct k hds (h0 :: l) = true)
    (hb : ∀ (W' : WX) (pn : List (Addr × Obj)) (xe : Value → Shared → Prop), Cok κ B ct n k (X.tr pn xe) W' → PSs (X.tr pn xe) b' (RSt κ W' (execs G b))) (hn : HdN X (h0 :: l) (hdL κ G hds)) :
    PS X (.Try b' (h0 :: l) [] [] p) (RSt κ W (exec G (.try_ b hds))) := by
  refine PS.imp (fun D σ H q => ?_) (ps_tryN (tb := fun W' => RSt κ W' (execs G b)) (C.st hd).1 (C.st hd).2 C.nd C.tk (fun W' pn xe tk po => hb W' pn xe (C.tr hc tk po)) hn)
  obtain ⟨ι, τ, h, R, S, P⟩ := q
  have P : PostS κ W ι h H (match execs G b τ h with
      | .exc c fs τ' h' => handle G hds c fs τ' h'
      | r => r) D := P
  refine ⟨ι, τ, h, R, S, ?_⟩
  cases e : execs G b τ h with
  | ok f τ' h' => rw [e] at P; cases f <;> exact P
  | exc c fs τ' h' =>
    rw [e] at P
    exact fun ι' H' σ' d ys S' rs hd rf => handle_ok C hx hs hds (h0 :: l) hh S'.rep rs hd rf (PostS.pre P S')
  | bad => rw [e] at P; exact P.elim
end
end Mi
set_option Elab.async false
set_option maxRecDepth 100000
set_option maxHeartbeats 4000000
/-! MiStm3: every statement that the checker takes. -/
namespace Mi
open PySem L2 PySem.Spec PyProof.Rows
section
variable {κ : Ks} {B : Tb} {ct : Ct} {n : Nat} {G : PG}
theorem lc_of {k : Cc} {e : E} {elt : Expr} {gs : List Comprehension} {scope : Scope} {p : Pos} (h : chkE ct k e (.ListComp elt gs scope p) = true) : ∃ t it cnd el, e = .lc t it cnd el := by
  cases e <;> first | exact ⟨_, _, _, _, rfl⟩ | (unfold chkE at h; cases h)
theorem st_asgL (gk : GOk B n G) {k : Cc} {X : Cx} {W : WX} (C : Cok κ B ct n k X W) (hc : k.hot = false) {t : T} {e : E} {tg e' : Expr} {p : Pos} (he : chkE ct k e e' = true) (ht : chkT k t tg = true) (hl : lcName k e' tg = true) : PS X (.Assign [tg] e' p) (RSt κ W (exec G (.asg t e))) := by
  have hl0 := hl
  unfold lcName at hl
  split at hl
  · rename_i elt gs scope pos y py
    obtain ⟨t2, it, cnd, el, rfl⟩ := lc_of he
    unfold chkE at he
    split at he
    · rename_i z
      cases z
      rename_i t' i' ifs
      simp only [Bool.and_eq_true] at he
      obtain ⟨⟨⟨⟨⟨⟨_, h1⟩, h2⟩, h3⟩, h4⟩, h5⟩, h6⟩ := he
      cases t with
      | nm i =>
        have hy : k.N[i]? = some y := by
          unfold chkT at ht
          simp only [Bool.and_eq_true, decide_eq_true_eq] at ht
          exact ht.1
        refine st_asgLc C hc hy hl0 (snd_It gk it k X W C _ _ h1) h3 h2 h4 (fun s H D cl fp => ?_) (fun s H D cl fp => (snd_E gk el _ _ _ (C.blk hc s H D cl fp _) _ h6).pe)
        split at h5
        · obtain ⟨l1, l2⟩ := snd_O gk cnd _ _ _ (C.blk hc s H D cl fp _) _ h5
          cases cnd with
          | non => exact ⟨fun pins s σ H Q I ⟨ι, τ, h, R, S, P⟩ => pts_nil.run pins s σ H Q I (P ι H true (Stp.refl R) rfl)⟩
          | som e => obtain ⟨e', z, _⟩ := l2 e rfl; cases z
        · simp only [Bool.and_eq_true] at h5
          obtain ⟨l1, l2⟩ := snd_O gk cnd _ _ _ (C.blk hc s H D cl fp _) _ h5.1
          cases cnd with
          | non => cases l1 rfl
          | som e =>
            obtain ⟨e', z, sd⟩ := l2 e rfl
            cases z
            exact pts_one (sd.pt h5.2)
        · cases h5
      | tp ts =>
        unfold chkT at ht
        cases ht
    · cases he
  · cases hl
mutual
theorem st_S (gk : GOk B n G) (hxf : G.exf = B.exf) : ∀ (c : Mi.S) (k : Cc) (X : Cx) (W : WX) (C : Cok κ B ct n k X W) (s : Stmt), chkS ct k c s = true → PS X s (RSt κ W (exec G c))
  | .expr e, k, X, W, C, s, h => by
    unfold chkS at h
    split at h
    · simp only [Bool.and_eq_true] at h
      exact st_expr C (snd_E gk e k X W C _ h.1) h.2
    · cases h
  | .asg t e, k, X, W, C, s, h => by
    unfold chkS at h
    split at h
    · simp only [Bool.and_eq_true, Bool.or_eq_true] at h
      obtain ⟨⟨⟨⟨⟨h1, h2⟩, h3⟩, h4⟩, h5⟩, h6⟩ := h
      rcases h6 with h6 | ⟨h6, hc⟩
      · refine st_asg C (snd_E gk e k X W C _ h1) h2 h3 h4 (h5.imp (by simp) fun z => ?_) h6
        split at z
        · exact ⟨_, _, rfl⟩
        · cases z
      · exact st_asgL gk C (by simpa using hc) h1 h2 h6
    · cases h
  | .asgF o f e, k, X, W, C, s, h => by
    unfold chkS at h
    split at h
    · simp only [Bool.and_eq_true, decide_eq_true_eq] at h
      exact st_asgF C h.2 gk.fa (snd_E gk e k X W C _ h.1.1) (snd_E gk o k X W C _ h.1.2)
    · cases h
  | .asgS o i e, k, X, W, C, s, h => by
    unfold chkS at h
    split at h
    · simp only [Bool.and_eq_true] at h
      exact st_asgS C h.2 (snd_E gk e k X W C _ h.1.1.1) (snd_E gk o k X W C _ h.1.1.2) (snd_E gk i k X W C _ h.1.2)
    · cases h
  | .aug i o e, k, X, W, C, s, h => by
    unfold chkS at h
    split at h
    · simp only [Bool.and_eq_true, decide_eq_true_eq] at h
      obtain ⟨⟨⟨h1, h2⟩, h3⟩, h4⟩ := h
      refine st_aug C h1 ?_ h3 (snd_E gk e k X W C _ h4)
      split at h2
      · assumption
      · cases h2
    · cases h
  | .ite t a b, k, X, W, C, s, h => by
    unfold chkS at h
    split at h
    · simp only [Bool.and_eq_true] at h
      exact st_ite (snd_E gk t k X W C _ h.1.1.1) h.1.1.2 (st_Ss gk hxf a k X W C _ h.1.2) (st_Ss gk hxf b k X W C _ h.2)
    · cases h
  | .for_ t it b, k, X, W, C, s, h => by
    unfold chkS at h
    split at h
    · simp only [Bool.and_eq_true] at h
      obtain ⟨⟨⟨⟨h1, h2⟩, h3⟩, h4⟩, hc⟩ := h
      exact st_for C (by simpa using hc) (snd_It gk it k X W C _ _ h1) h2 h3 (st_Ss gk hxf b k X W C _ h4)
    · cases h
  | .whl t b, k, X, W, C, s, h => by
    unfold chkS at h
    split at h
    · simp only [Bool.and_eq_true] at h
      obtain ⟨⟨⟨h1, h2⟩, h3⟩, hc⟩ := h
      exact st_while C (snd_E gk t k X W C _ h1) h2 (st_Ss gk hxf b k X W C _ h3)
    · cases h
  | .ret e, k, X, W, C, s, h => by
    unfold chkS at h
    split at h
    · exact st_ret (snd_E gk e k X W C _ h)
    · cases h
  | .retN, k, X, W, C, s, h => by
    unfold chkS at h
    split at h
    · exact st_retN
    · cases h
  | .brk, k, X, W, C, s, h => by
    unfold chkS at h
    split at h
    · exact st_brk
    · cases h
  | .cnt, k, X, W, C, s, h => by
    unfold chkS at h
    split at h
    · exact st_cnt
    · cases h
  | .pass, k, X, W, C, s, h => by
    unfold chkS at h
    split at h
    · exact st_pass
    · cases h
  | .rais i as, k, X, W, C, s, h => by
    unfold chkS at h
    split at h
    · simp only [Bool.and_eq_true, decide_eq_true_eq] at h
      obtain ⟨⟨⟨h1, h2⟩, h3⟩, hc⟩ := h
      exact st_rais C (by simpa using hc) h1 h2 (stars_of h3) hxf (snd_Es gk as k X W C _ h3)
    · cases h
  | .try_ b hs, k, X, W, C, s, h => by
    unfold chkS at h
    split at h
    · simp only [Bool.and_eq_true] at h
      obtain ⟨⟨⟨h1, h2⟩, hc⟩, hd⟩ := h
      have hc : k.hot = false := by simpa using hc
      exact st_try C hc hd gk.ex gk.sub h2 (fun W' pn xe C' => st_Ss gk hxf b k _ W' C' _ h1) (st_Hs gk hxf hs k X W C _ h2)
    · cases h
theorem st_Ss (gk : GOk B n G) (hxf : G.exf = B.exf) : ∀ (c : Ss) (k : Cc) (X : Cx) (W : WX) (C : Cok κ B ct n k X W) (s : List Stmt), chkSs ct k c s = true → PSs X s (RSt κ W (execs G c))
  | .nil, k, X, W, C, s, h => by
    unfold chkSs at h
    cases s with
    | nil => exact st_nil
    | cons a b => cases h
  | .cons c r, k, X, W, C, s, h => by
    unfold chkSs at h
    split at h
    · simp only [Bool.and_eq_true] at h
      exact st_cons (st_S gk hxf c k X W C _ h.1) (st_Ss gk hxf r k X W C _ h.2)
    · cases h
theorem st_Hs (gk : GOk B n G) (hxf : G.exf = B.exf) : ∀ (c : Hs) (k : Cc) (X : Cx) (W : WX) (C : Cok κ B ct n k X W) (l : List ExceptHandler), chkHs ct k c l = true → HdN X l (hdL κ G c)
  | .nil, k, X, W, C, l, h => by
    unfold chkHs at h
    cases l with
    | nil => exact .nil
    | cons a b => cases h
  | .cons j i b r, k, X, W, C, l, h => by
    unfold chkHs at h
    split at h
    · rename_i x p nm b0 b1 pos' l'
      simp only [Bool.and_eq_true, decide_eq_true_eq] at h
      obtain ⟨⟨⟨⟨h1, h2⟩, h3⟩, h4⟩, h5⟩ := h
      obtain ⟨g1, g2, g3⟩ := gl_of C h2
      have nm0 : L2.Names X x (.ref (κ.C j)) := ⟨g1, g2, .inl (C.wc.cls x j h1)⟩
      have su : ∀ (a : Addr) (pn : List (Addr × Obj)), PSs (X.suite a pn) (b0 :: b1) (RSt κ WN (execs G b)) := fun a pn => st_Ss gk hxf b _ _ _ (C.suite a pn) _ h4
      have rest := st_Hs gk hxf r k X W C l' h5
      cases i with
      | none =>
        cases nm with
        | none => exact .only nm0 su rest
        | some y => cases h3
      | some i =>
        cases nm with
        | none => cases h3
        | some y =>
          simp only [Bool.and_eq_true, decide_eq_true_eq] at h3
          refine .named nm0 (by rw [C.N]; exact h3.1) ?_ su rest
          have h3 := h3.2
          show X.env.scope.names.lookup y = some .local
          rw [C.sc]
          split at h3
          · assumption
          · cases h3
    · cases h
end
end
end Mi
set_option Elab.async false
set_option maxRecDepth 100000
set_option maxHeartbeats 4000000
/-! MiFn: functions, the module. -/
namespace Mi
open PySem L2 PySem.Spec PyProof.Rows
/-- a def whose code is known -/
structure FD (κ : Ks) (B : Tb) (ct : Ct) (K : PySem.W.Frag) (f : Nat) (a : Addr) (fd : FuncData) (ps : List Str) : Prop where
  ex : ∃ (x qual : Str) (st : Stmt) (N : List Str) (i : FI) (oc dV kV doc pm cdv c' : Value) (od an : Option Addr) (osl : Array (Option Value)), fd = PySem.W.fnOf x qual (defArgs st) (defBody st) (defScope st) dV kV doc pm an cdv c' ∧ K.lookup a = some ⟨oc, od, .func fd, osl⟩ ∧ PySem.W.codeIn K cdv qual = true ∧
    FnScope N ps (defScope st) ∧ B.fn f = some i ∧ i.ar = ps.length ∧ i.sz = N.length ∧ chkSs ct ⟨N, defScope st, true, false⟩ i.body (defBody st) = true ∧ (B.pln f = true → Binds K fd ps []) ∧
    ∀ sh, B.sok f sh = true → ∃ m nms pl, ct.shp.lookup sh = some (m, nms) ∧ B.shp sh = some (m, nms.length, pl) ∧ ShOk κ K fd ps m nms pl
/-- the module: its defs' codes, its errors' makers -/
structure Md (κ : Ks) (B : Tb) (ct : Ct) (P : Program) (w : World) (K : PySem.W.Frag) (mg : Str → Option Value) (base : Heap) : Prop where
  fnD : ∀ x f, ct.fns.lookup x = some f → ∃ a fd ps, FD κ B ct K f a fd ps ∧ mg x = some (.ref a) ∧ PySem.W.keepIn K (.ref a) = true
  mtD : ∀ c m f, B.mt c m = some f → Cls K (κ.C c) ∧ ∃ a fd ps, Meth K (κ.C c) (κ.F m) a ∧ FD κ B ct K f a fd ps
  inD : ∀ x c f, ct.cls.lookup x = some c → B.ini c = some f → mg x = some (.ref (κ.C c)) ∧ ∃ a fd ps, Mk K (κ.C c) a ∧ FD κ B ct K f a fd ps
  exF : ∀ x c ks, ct.cls.lookup x = some c → B.exf c = some ks → OexC K (κ.C c) ∧ mg x = some (.ref (κ.C c)) ∧ ks ≠ [] ∧ ks.length ≤ 1000 ∧ ∃ fI fd ps, PySem.W.findIn K (.ref (κ.C c)) "__init__" = some (some (.ref fI)) ∧ PySem.W.typeIn K (.ref fI) = some (.type "function") ∧
    FnOk P w K mg base CX0 2 fI fd ps (SPX κ c ks) ∧ Binds K fd ps []
  wc : Wc κ B ct K mg
  hK : K = κ.K
section
variable {κ : Ks} {B : Tb} {ct : Ct} {P : Program} {w : World} {K : PySem.W.Frag} {mg : Str → Option Value} {base : Heap}
theorem rs_start {H : Hp} {ι : Io} {m : Nat} {as : List AV} {vs : List V} {N : List Str} {sz : Nat} (r : RVs κ H ι m as vs) (hl : sz = N.length) : RS κ H ι m (as.map some ++ List.replicate (sz - as.length) none) (L2.start N vs) := by
  subst hl
  have hl := r.length
  refine ⟨by unfold L2.start; simp [hl], fun i x e => ?_⟩
  have hi : i < as.length := by
    by_cases hi : i < as.length
    · exact hi
    · rw [List.getElem?_append_right (by simpa using hi), List.getElem?_replicate] at e
      split at e <;> cases e
  rw [List.getElem?_append_left (by simpa using hi), List.getElem?_map] at e
  cases ea : as[i]? with
  | none => rw [ea] at e; cases e
  | some y =>
    rw [ea] at e
    cases e
    obtain ⟨v, e1, e2⟩ := r.get ea
    refine ⟨v, ?_, e2⟩
    unfold L2.start
    rw [List.getElem?_append_left (by rw [List.length_map, ← hl]; exact hi), List.getElem?_map, e1]
    rfl
theorem gp_ok (n : Nat) : GOk B n (GP B n) := ⟨rfl, rfl, rfl, rfl, rfl, rfl, rfl, rfl, rfl, rfl, rfl, rfl⟩
theorem fn_ok (M : Md κ B ct P w K mg base) : ∀ (n : Nat) {f : Nat} {a : Addr} {fd : FuncData} {ps : List Str}, FD κ B ct K f a fd ps → FOk κ B ct P w K mg base n f a fd ps
  | 0, f, a, fd, ps, D => by
    obtain ⟨x, qual, st, N, i, oc, dV, kV, doc, pm, cdv, c', od, an, osl, rfl, lk, hcd, S, hi, har, hsz, hc, hb, hs⟩ := D.ex
    refine ⟨?_, hb, hs⟩
    have no : ∀ vs H Q E, ¬ SP κ B 0 f vs H Q E := fun vs H Q E ⟨ι, h, as, R, r, p⟩ => p
    exact fnG_of lk hcd S (fun vs H Q E h => absurd h (no vs H Q E)) (fun A outer s H vs Q E gd hr h => absurd h (no vs H Q E))
  | n + 1, f, a, fd, ps, D => by
    have wf : Wf κ B ct P w K mg base n := {
      fnF := fun x f e => by
        obtain ⟨a, fd, ps, D, h1, h2⟩ := M.fnD x f e
        exact ⟨a, fd, ps, fn_ok M n D, h1, h2⟩
      mtF := fun c m f e => by
        obtain ⟨h1, a, fd, ps, h2, D⟩ := M.mtD c m f e
        exact ⟨h1, a, fd, ps, h2, fn_ok M n D⟩
      inF := fun x c f e1 e2 => by
        obtain ⟨h1, a, fd, ps, h2, D⟩ := M.inD x c f e1 e2
        exact ⟨h1, a, fd, ps, h2, fn_ok M n D⟩
      exF := M.exF }
    obtain ⟨x, qual, st, N, i, oc, dV, kV, doc, pm, cdv, c', od, an, osl, rfl, lk, hcd, S, hi, har, hsz, hc, hb, hs⟩ := D.ex
    refine ⟨?_, hb, hs⟩
    have view : ∀ {as : List AV} {h : AH}, Gam B (n + 1) f as h = runF (GP B n) i as h := fun {as h} => by
      show (match B.fn f with
        | some i => runF (B.pg (Gam B n)) i as h
        | none => .bad) = _
      rw [hi]
    refine fnG_of lk hcd S (fun vs H Q E hp => ?_) (fun A outer s H vs Q E gd hr hp => ?_)
    · obtain ⟨ι, h, as, R, r, p⟩ := hp
      rw [view] at p
      unfold runF at p
      split at p
      · rename_i hl
        rw [← r.length, hl.1, har]
      · exact p.elim
    · refine ⟨RSt κ (fun cls d _ H => E cls d H) (execs (GP B n) i.body), ?_, ?_⟩
      · refine st_Ss (gp_ok n) rfl i.body ⟨N, defScope st, true, false⟩ _ _ ?_ _ hc
        exact {
          wc := M.wc
          wf := fun _ => wf
          hK := M.hK
          N := rfl
          nd := S.nd
          sc := rfl
          calm := fun _ => rfl
          un := by
            have := hr.un
            show (A.deeper (envOfC qual (defScope st) s.heap.objs.size a cdv)).units + 100 < cLine
            omega
          gd := gd
          room := fun _ => hr
          tk := takes_of rfl rfl rfl rfl
          fn := fun _ _ => rfl
          po := passes_of rfl
          st := fun _ => ⟨rfl, rfl⟩ }
      · obtain ⟨ι, h, as, R, r, p⟩ := hp
        rw [view] at p
        unfold runF at p
        split at p
        · rename_i hl
          refine ⟨ι, _, h, R, rs_start (N := N) r hsz, ?_⟩
          rw [← hl.1] at p
          cases e : execs (GP B n) i.body (as.map some ++ List.replicate (i.sz - as.length) none) h with
          | ok fl τ' h' =>
            rw [e] at p
            cases fl with
            | nx => exact fun ι' H' σ' S' _ => p ι' H' .non S' rfl
            | rt v => exact p
            | bk => exact p.elim
            | ct => exact p.elim
          | exc c fs τ' h' =>
            rw [e] at p
            exact fun ι' H' σ' d ys S' _ hd rf => p ι' H' d ys S' hd rf
          | bad => rw [e] at p; exact p.elim
        · exact p.elim
end
/-- the heap without a thing -/
def AH.nil : AH := ⟨0, fun _ => .lst []⟩
/-- the law's own promise: the heap told of is the script alone -/
theorem law_sp {κ : Ks} {B : Tb} {n f : Nat} (law : ∀ ns : List Int, ∃ h, Gam B n f [.frl ns] AH.nil = .ok (.bl true) h) {H : Hp} {a : Addr} {ns : List Int} (hO : Only H) (hS : SqL κ.K H a (ns.map V.int)) : SP κ B n f [.ref a] H (fun v _ => v = .bl true) fun _ _ _ => False := by
  obtain ⟨h, e⟩ := law ns
  have rv : RV κ H (fun _ => 0) 0 (.frl ns) (.ref a) := by
    refine ⟨a, rfl, ?_⟩
    rcases hS with (q | ⟨o, q⟩) | q
    · rcases hO a with z | ⟨o, xs, z⟩
      · rw [z] at q; cases q
      · rw [z] at q; cases q
    · exact .inl ⟨o, q⟩
    · exact .inr q
  refine ⟨fun _ => 0, AH.nil, [.frl ns], ⟨fun a l => absurd l (Nat.not_lt_zero _), fun a b l => absurd l (Nat.not_lt_zero _)⟩, ⟨_, [], rfl, rv, rfl⟩, ?_⟩
  rw [e]
  intro ι' H' w S r
  exact r
end Mi
set_option Elab.async false
set_option maxRecDepth 100000
set_option maxHeartbeats 4000000
/-! MiInit: an error's own __init__: super().__init__(f'..'), then its fields. -/
namespace Mi
open PySem L2 PySem.Spec PySem.Calls PyProof.Rows
/-! ### the fields are stored -/
/-- self.f = x of such rows: the field's name, the slot -/
def tIni (K : PySem.W.Frag) : List (Str × Nat) → TS
  | [] => tNext
  | (f, i) :: r => tSeq (tOst K f (tVar 0) (tVar i)) (tIni K r)
/-- the field's name, the parameter's name of each row -/
def asgB (ps : List Str) : List (Str × Nat) → List Stmt → Bool
  | [], [] => true
  | (f, i) :: r, .Assign [.Attribute (.Name s _) g _] (.Name x _) _ :: l => decide (ps[0]? = some s) && decide (g = f) && decide (ps[i]? = some x) && asgB ps r l
  | _, _ => false
section
variable {X : Cx} {ps : List Str}
theorem pss_ini (hN : X.N = ps) (hv : ∀ x ∈ ps, X.env.scope.names.lookup x = some .local ∧ dun x = false) : ∀ {l : List (Str × Nat)} {body : List Stmt}, asgB ps l body = true → PSs X body (tIni X.K l)
  | [], [], _ => pss_nil
  | [], _ :: _, h => by cases h
  | (f, i) :: r, [], h => by cases h
  | (f, i) :: r, st :: l, h => by
    unfold asgB at h
    split at h
    · rename_i z _; cases z
    · rename_i f' i' r' s p1 g p2 x p3 p4 l' e1 e2
      cases e1
      cases e2
      simp only [Bool.and_eq_true, decide_eq_true_eq] at h
      obtain ⟨⟨⟨h1, rfl⟩, h3⟩, h4⟩ := h
      have var : ∀ {x : Str} {i : Nat} {p : Pos}, ps[i]? = some x → PE X (.Name x p) (tVar i) := fun {x i p} e => by
        obtain ⟨q1, q2⟩ := hv x (List.mem_of_getElem? e)
        unfold dun at q2
        simp only [Bool.or_eq_false_iff] at q2
        exact pe_var (by rw [hN]; exact e) (.inl q1) q2.1.1 q2.1.2
      exact pss_cons (ps_ost (var h1) (var h3)) (pss_ini hN hv h4)
    · cases h
end
/-- what an error under way looks like: nothing stored | its dict -/
def OnWay (H0 : Hp) (a C : Addr) (zs : List (Str × V)) (H : Hp) : Prop := (zs = [] ∧ H = H0) ∨ (zs ≠ [] ∧ ∃ d, H0 d = none ∧ d ≠ a ∧ H = upd (upd H0 d (exd d zs)) a (exo a C (some d)))
theorem ini_run {K : PySem.W.Frag} {a C : Addr} (T : OexC K C) {H0 : Hp} (h0 : H0 a = some (exo a C none)) {σ : L2.St} (hs : σ[0]? = some (some (.ref a))) {D : Ends} : ∀ (l : List (Str × Nat)) (ws : List V) (zs : List (Str × V)) (H : Hp),
    (∀ p ∈ l, PySem.W.findIn K (.ref C) p.1 = some none) → l.length = ws.length → (∀ (j i : Nat) (f : Str) (w : V), l[j]? = some (f, i) → ws[j]? = some w → σ[i]? = some (some w)) → zs.length + l.length ≤ 900 → OnWay H0 a C zs H →
    (∀ H', OnWay H0 a C (((l.map (·.1)).zip ws).reverse ++ zs) H' → D.nx σ H') → tIni K l D σ H
  | [], ws, zs, H, _, hl, _, _, on, k => by
    cases ws with
    | nil => exact k H on
    | cons w ws => cases hl
  | (f, i) :: l, [], zs, H, _, hl, _, _, on, k => by cases hl
  | (f, i) :: l, w :: ws, zs, H, hf, hl, hw, hz, on, k => by
    have hz' : zs.length + (l.length + 1) ≤ 900 := hz
    have e1 : σ[i]? = some (some w) := hw 0 i f w rfl rfl
    have next : ∀ H', OnWay H0 a C ((f, w) :: zs) H' → tIni K l D σ H' := fun H' on' => by
      refine ini_run T h0 hs l ws ((f, w) :: zs) H' (fun p hp => hf p (List.mem_cons_of_mem _ hp)) (by simpa using hl) (fun j i f w q1 q2 => hw (j + 1) i f w (by simpa using q1) (by simpa using q2)) (by rw [List.length_cons]; omega) on' fun H2 on2 => k H2 ?_
      have e : ((((f, i) :: l).map (·.1)).zip (w :: ws)).reverse ++ zs = ((l.map (·.1)).zip ws).reverse ++ (f, w) :: zs := by simp
      rw [e]
      exact on2
    refine ⟨w, e1, .ref a, hs, a, C, rfl, T, hf (f, i) List.mem_cons_self, ?_⟩
    rcases on with ⟨rfl, rfl⟩ | ⟨ne, d, nd, nda, rfl⟩
    · exact .inl ⟨h0, fun dx n1 n2 => next _ (.inr ⟨by simp, dx, n1, n2, rfl⟩)⟩
    · refine .inr ⟨d, zs, upd_same, by rw [upd_ne nda, upd_same], by omega, next _ (.inr ⟨by simp, d, nd, nda, ?_⟩)⟩
      funext b
      by_cases hb : b = d
      · subst hb
        rw [upd_same, upd_ne nda, upd_same]
      · rw [upd_ne hb]
        by_cases ha : b = a
        · rw [ha, upd_same, upd_same]
        · rw [upd_ne ha, upd_ne ha, upd_ne hb, upd_ne hb]
/-! ### the text of an f-string of ints -/
/-- the parts: texts, and {x} of parameters -/
def partB (ps : List Str) : Expr → Bool
  | .Constant (.str z) _ _ => decide (z.length ≤ 1000)
  | .FormattedValue (.Name x _) c none _ => decide (x ∈ ps) && decide (c = -1)
  | _ => false
section
variable {X : Cx} {ps : List Str}
theorem js_ok {σ : L2.St} {H : Hp} {Q : Str → Hp → Prop} (hN : X.N = ps) (hv : ∀ x ∈ ps, X.env.scope.names.lookup x = some .local ∧ dun x = false) (hs : ∀ (i : Nat) (x : Str), ps[i]? = some x → x ≠ ps.headD "" → ∃ n : Int, σ[i]? = some (some (.int n)) ∧ n.natAbs.log2 < 1920) (hq : ∀ out, Q out H) :
    ∀ (es : List Expr), (∀ e ∈ es, partB ps e = true ∧ ∀ x p c q, e = .FormattedValue (.Name x p) c none q → x ≠ ps.headD "") → ∃ ts, PJ X es ts ∧ ∀ acc : Str, acc.length + 2000 * es.length ≤ sizeLine → tJs ts acc σ H Q
  | [], _ => ⟨[], .nil, fun acc _ => hq acc⟩
  | e :: es, h => by
    obtain ⟨ts, j, k⟩ := js_ok hN hv hs hq es fun e' he => h e' (List.mem_cons_of_mem _ he)
    obtain ⟨h1, h2⟩ := h e List.mem_cons_self
    have app : ∀ (a b : Str), (a ++ b).length = a.length + b.length := fun a b => by
      exact Str.length_append a b
    unfold partB at h1
    split at h1
    · rename_i z jj p
      refine ⟨_ :: ts, .cons pe_str j, fun acc hl => ?_⟩
      have hl : acc.length + 2000 * (es.length + 1) ≤ sizeLine := hl
      have hz : z.length ≤ 1000 := by simpa using h1
      exact ⟨z, rfl, by rw [app]; omega, k _ (by rw [app]; omega)⟩
    · rename_i x p c q
      simp only [Bool.and_eq_true, decide_eq_true_eq] at h1
      obtain ⟨h3, rfl⟩ := h1
      obtain ⟨i, hi⟩ := List.getElem?_of_mem h3
      obtain ⟨n, e1, e2⟩ := hs i x hi (h2 x p _ q rfl)
      obtain ⟨q1, q2⟩ := hv x h3
      unfold dun at q2
      simp only [Bool.or_eq_false_iff] at q2
      refine ⟨_ :: ts, .cons (pe_fmt (pe_var (by rw [hN]; exact hi) (.inl q1) q2.1.1 q2.1.2)) j, fun acc hl => ?_⟩
      have hl : acc.length + 2000 * (es.length + 1) ≤ sizeLine := hl
      have hlen : (Str.ofString (toString n)).length ≤ 1930 := by
        have z := int_text_length_le (k := 1920) (by decide) e2
        rw [PySem.ofString_length]
        omega
      exact ⟨.int n, e1, .inr ⟨n, rfl, e2, Str.ofString (toString n), rfl, by rw [app]; omega, k _ (by rw [app]; omega)⟩⟩
    · cases h1
end
end Mi
set_option Elab.async false
set_option maxRecDepth 100000
set_option maxHeartbeats 4000000
/-! MiInit2: the promise of an error's __init__. -/
namespace Mi
open PySem L2 PySem.Spec PySem.Calls PyProof.Rows
/-- a def with one captured cell -/
def fnC (name qual : Str) (params : Arguments) (body : List Stmt) (scope : Scope) (cl : Addr) (dV kV doc pm : Value) (an : Option Addr) (cdv ct : Value) : FuncData :=
  { PySem.W.fnOf name qual params body scope dV kV doc pm an cdv ct with closure := [("__class__", cl)] }
section
variable {prog : Program} {w : World} {A : Around} {E : Value → Shared → Prop} {h : Heap} {g : Array GenState} {d : Drawn} {t : Nat} {os : OsState}
variable {nm q : Str} {C N : Addr} {bs bm : List Value} {hdct : Bool} {sn : List Str} {sub : List Value} {ab : Bool} {col : Option Bool} {dd : Option Addr} {k0 k1 k2 k3 k5 : Option Value}
/-- ValueError.__init__ bound to an error, called -/
theorem call_mw {u e t0 : Addr} {rest : List Value} {Q : Value → Shared → Prop}
    (hC : h.get? C = some (excClassObj nm q C N bs bm hdct sn sub ab col dd k0 k1 k2 k3 k5 "ValueError.__new__")) (he : h.get? e = some ({ cls := .ref C, dict := none, data := .fields #[.ref t0, .none, .none, .none, .bool false, .none] } : Obj)) (hu : h.get? u = some (PySem.W.kxs_mw "ValueError.__init__" e)) (hrest : rest.length ≤ sizeLine)
    (hq : ∀ h' t1, (∀ b o, b ≠ e → h.get? b = some o → h'.get? b = some o) → h'.get? e = some ({ cls := .ref C, dict := none, data := .fields #[.ref t1, .none, .none, .none, .bool false, .none] } : Obj) → Q .none ⟨h', g, d, t, os⟩) :
    wpAny (model prog w) A (call (.ref u) rest) Q E ⟨h, g, d, t, os⟩ := by
  refine wpAny_call (codeAny_of_tree ?_)
  show wpAny _ A.in1 (callAny (.ref u) ⟨rest, []⟩) _ _ _
  simp only [callAny]
  refine wpAny_bind (wpAny_load hu ?_)
  simp only [PySem.W.kxs_mw, show (Value.type "method-wrapper" == Value.type "method" || Value.type "method-wrapper" == Value.type "builtin_function_or_method" || Value.type "method-wrapper" == Value.type "method-wrapper") = true by decide, if_true]
  refine PySem.W.KFB.if_so (by decide) (wpAny_bind (PySem.ESX.check_bound F.excBase_ValueError hC he rfl (wpAny_bind (wpAny_pure (wpAny_pure ?_)))))
  refine ⟨Code.quiet_builtin _ (by decide +kernel), codeAny_builtin F.excBase_ValueError.initEntry ?_⟩
  rw [Around.under_plainId F.excBase_ValueError.init.plain _]
  wp_walk
  refine hq _ h.objs.size (fun b o hb ho => ?_) ?_
  · rw [Heap.get?_update_other _ _ (Ne.symm hb)]
    exact Heap.get?_push_of_some _ ho
  · rw [Heap.get?_update_self _ (Heap.get?_push_of_some _ he) rfl]
    rfl
end
/-- the text of an __init__ -/
def iniB (ps : List Str) (fs : List Str) (st : Stmt) : Bool := match defBody st with
  | .Expr (.Call (.Attribute (.Call (.Name s _) [] [] _) i p2) [.JoinedStr (v1 :: v2 :: vs) _] [] p3) _ :: rest => decide (s = ("super" : Str)) && decide (i = ("__init__" : Str)) && (p2.endLine == p3.line) &&
      ((v1 :: v2 :: vs).all fun e => partB ps e && (match e with | .FormattedValue (.Name x _) _ none _ => decide (x ≠ ps.headD "") | _ => true)) && decide ((v1 :: v2 :: vs).length ≤ 100) && asgB ps (fs.zip ((List.range fs.length).map (· + 1))) rest
  | _ => false
def scoB (ps : List Str) (st : Stmt) : Bool := (match (defScope st).kind with | .function => true | _ => false) && !(defScope st).isCoroutine && !(defScope st).isGenerator && decide ps.Nodup &&
  (ps.all fun x => (match (defScope st).names.lookup x with | some .local => true | _ => false) && !dun x) && ((defScope st).names.all fun y => decide (y.2 ≠ .cell) && (decide (y.2 ≠ .free) || decide (y.1 = ("__class__" : Str)))) &&
  (match (defScope st).names.lookup ("__class__" : Str) with | some .free => true | _ => false) && (match (defScope st).names.lookup ("super" : Str) with | some .globalImplicit => true | _ => false) &&
  (match ((defArgs st).posonlyargs ++ (defArgs st).args).head? with | some ar => decide (ps[0]? = some ar.arg) | none => false)
/-- what is known of an error's class and its __init__ -/
structure IniT (P : Program) (K : PySem.W.Frag) (mg : Str → Option Value) (C fI : Addr) (fd : FuncData) (ps fs : List Str) : Prop where
  ex : ∃ (qual : Str) (st : Stmt) (cc cl : Addr) (oc dV kV doc pm ct : Value) (od an : Option Addr) (osl : Array (Option Value)), fd = fnC "__init__" qual (defArgs st) (defBody st) (defScope st) cl dV kV doc pm an (.ref cc) ct ∧ K.lookup fI = some ⟨oc, od, .func fd, osl⟩ ∧
    PySem.W.codeIn K (.ref cc) qual = true ∧ iniB ps fs st = true ∧ scoB ps st = true ∧ (∃ oc' file tf, K.lookup cc = some oc' ∧ ∃ vs', oc'.data = .fields vs' ∧ vs'[2]? = some (.str file tf) ∧ (P.main.file == file) = true) ∧ ∃ o, K.lookup cl = some o ∧ o.data = .cell (some (.ref C))
  htop : (P.main.scope.names.lookup ("super" : Str)).isSome = false
  msup : mg "super" = none
  T : OexC K C
  opq : PySem.W.nsIn K cStatics "thirdparty.any" = some none
  sup : PySem.W.ks_superIn K C C "__init__" = some (some (.builtin "ValueError.__init__"))
  sve : PySem.W.subIn K (.ref C) (.type "ValueError") = some true
  self : PySem.W.subIn K (.ref C) (.ref C) = some true
  nf : ∀ f ∈ fs, PySem.W.findIn K (.ref C) f = some none
  len : ps.length = fs.length + 1
  few : fs.length ≤ 100
section
variable {P : Program} {w : World} {K : PySem.W.Frag} {mg : Str → Option Value} {base : Heap}
/-- the context of an __init__ that captured its class -/
def cxI (P : Program) (w : World) (K : PySem.W.Frag) (mg : Str → Option Value) (base : Heap) (ps : List Str) (A : Around) (outer : List Env) (s : Shared) (H : Hp) (env : Env) : Cx where
  prog := P
  w := w
  K := K
  mg := mg
  base := base
  A := A.deeper env
  N := ps
  s_0 := s
  H_0 := H
  env := env
  outer := outer
  stack := env :: outer
  ex := []
  calm := true
  fn := fun _ => false
  pn := []
  xe := fun _ _ => False
theorem inv_ini {fd : FuncData} {fI cl : Addr} {ps : List Str} {A : Around} {outer : List Env} {s : Shared} {H : Hp} {us : List Value} {vs : List V} {h₀ : Heap} {tk : Nat} {oc : Obj} {v0 : Option Value} (hk : fd.scope.kind = .function) (hg : fd.globals = mainGlobals) (hb : fd.builtins = builtinsNs) (hc : fd.closure = [(("__class__" : Str), cl)])
    (hcl : K.lookup cl = some oc) (hcd : oc.data = .cell v0) (hloc : ∀ x ∈ ps, fd.scope.names.lookup x = some .local) (hnd : ps.Nodup) (hfree : ∀ y ∈ fd.scope.names, y.2 ≠ .cell ∧ (y.2 = .free → y.1 = ("__class__" : Str)))
    (hd : A.handled = none) (e0 : Env0 P w K mg base A outer s H) (hl : vs.length = ps.length) (r : Vals vs us) (hns : h₀.Ns s.heap.objs.size (fun x => (ps.zip us).reverse.lookup x)) (hkeep : ∀ b o, s.heap.get? b = some o → h₀.get? b = some o) :
    L2.Inv (cxI P w K mg base ps A outer s H (callEnv fd s.heap.objs.size fI)) [] (L2.start ps vs) H { s with heap := h₀, toks := tk } := by
  have cb : base.get? cl = some oc := e0.mod.kin _ _ hcl
  obtain ⟨cs, cH⟩ := e0.bs _ _ cb
  have only : ∀ x c, (callEnv fd s.heap.objs.size fI).cells.lookup x = some c → x = ("__class__" : Str) ∧ c = cl := fun x c e => by
    have e : List.lookup x fd.closure = some c := e
    rw [hc, List.lookup_cons] at e
    split at e
    · rename_i q
      exact ⟨by simpa using q, (Option.some.inj e).symm⟩
    · cases e
  refine ⟨⟨e0.mod, hk, hg, hb, Nat.le_refl _, fun y z c h1 h2 => ?_, fun y hy => ?_, fun y c z => (by cases z), fun _ => hd, Around.frames_deeper e0.frames, .inr ⟨rfl, rfl⟩, fun b z => (nomatch z), e0.bs, e0.bsz, fun b _ _ z => (nomatch z), fun b z => (nomatch z), e0.funs, e0.frf⟩,
    rfl, e0.bare, Un.kept hkeep, ⟨_, hns, fun i y v h1 h2 h3 => ?_⟩, fun y c e => ?_, e0.hok.fresh (Nat.le_refl _), fun y c e => ?_, fun p hp => (nomatch hp), e0.hok.kept hkeep, ?_⟩
  · rw [(only _ _ h1).1, (only _ _ h2).1]
  · have hy : fd.scope.names.lookup y = some .cell ∨ fd.scope.names.lookup y = some .free := hy
    rcases hy with hy | hy
    · exact absurd rfl (hfree _ (PySem.mem_of_lookup hy)).1
    · have e : y = ("__class__" : Str) := (hfree _ (PySem.mem_of_lookup hy)).2 rfl
      refine ⟨cl, ?_⟩
      show List.lookup y fd.closure = some cl
      rw [hc, e]
      rfl
  · have hi : i < vs.length := by
      unfold L2.start at h2
      by_cases hi : i < vs.length
      · exact hi
      · rw [List.getElem?_append_right (by simpa using hi), List.getElem?_replicate] at h2
        split at h2 <;> cases h2
    have ha : vs[i]? = some v := by
      unfold L2.start at h2
      rw [List.getElem?_append_left (by simpa using hi), List.getElem?_map] at h2
      cases e : vs[i]? with
      | none => rw [e] at h2; cases h2
      | some a => rw [e] at h2; cases h2; rfl
    obtain ⟨u, hu, rv⟩ := r.get ha
    refine ⟨u, rv, .inl ⟨hloc y (List.mem_of_getElem? h1), ?_⟩⟩
    have h1' : ps[i]? = some y := h1
    have key : ∀ (ps : List Str) (us : List Value) (i : Nat), ps.Nodup → ps[i]? = some y → us[i]? = some u → (ps.zip us).reverse.lookup y = some u := by
      intro ps
      induction ps with
      | nil => intro us i _ e; simp at e
      | cons p ps ih =>
        intro us i nd e1 e2
        cases us with
        | nil => simp at e2
        | cons w us =>
          have nd' := List.nodup_cons.mp nd
          show ((p, w) :: ps.zip us).reverse.lookup y = some u
          rw [List.reverse_cons, List.lookup_append]
          cases i with
          | zero =>
            have e1 : p = y := by simpa using e1
            have e2 : w = u := by simpa using e2
            subst e1 e2
            have no : (ps.zip us).reverse.lookup p = none := by
              rw [List.lookup_eq_none_iff]
              intro q hq
              have hq : q ∈ ps.zip us := List.mem_reverse.mp hq
              have := (List.of_mem_zip (a := q.1) (b := q.2) hq).1
              simp only [bne_iff_ne, ne_eq, beq_iff_eq, Bool.not_eq_true, beq_eq_false_iff_ne]
              intro z
              exact nd'.1 (z ▸ this)
            rw [no]
            simp
          | succ i =>
            rw [ih us i nd'.2 (by simpa using e1) (by simpa using e2)]
            rfl
    exact key ps us i hnd h1' hu
  · obtain ⟨_, rfl⟩ := only _ _ e
    exact ⟨v0, oc, hkeep _ _ cs, hcd⟩
  · obtain ⟨_, rfl⟩ := only _ _ e
    exact cH
  · unfold L2.start
    show _ = ps.length
    rw [List.length_append, List.length_map, List.length_replicate]
    omega
end
end Mi
set_option Elab.async false
set_option maxRecDepth 100000
set_option maxHeartbeats 4000000
/-! MiInit3: the promise of an error's __init__ holds. -/
namespace Mi
open PySem L2 PySem.Spec PySem.Calls PyProof.Rows
section
variable {P : Program} {w : World} {K : PySem.W.Frag} {mg : Str → Option Value} {base : Heap}
theorem sup_eq {o : Expr} {m : Str} {apos pos : Pos} {e : Expr} {env : Env} (hs : notStar e = true) (hp : (apos.endLine == pos.line) = true) :
    eval (.Call (.Attribute o m apos) [e] [] pos) env = (do
      let ov ← attributeBase o m env (eval o env)
      standAt apos.atName
      let (f, first) ← holding [ov] (getMethod ov m (do return (← importBound o env).getD true))
      callWith pos f first (backTo pos (starEach [e] env)) []) := by
  have hp' : methodCallPos true o env apos pos = pure pos := by
    unfold methodCallPos
    rw [hp]
    rfl
  have few := few_ok (es := [e]) (env := env) (pos := pos) (by rw [List.all_cons, hs]; rfl) (by show 1 < 25; decide)
  rw [arm_eval_Call]
  unfold methodCall
  rw [few, hp']
  rfl
theorem ini_ok {C fI : Addr} {fd : FuncData} {ps fs : List Str} (T : IniT P K mg C fI fd ps fs) {sp : Sp}
    (hsp : ∀ vs H Q E, sp vs H Q E → ∃ a ws, vs = .ref a :: ws ∧ ws.length = fs.length ∧ (∀ w ∈ ws, ∃ i : Int, w = .int i ∧ i.natAbs.log2 < 1920) ∧ H a = some (exo a C none) ∧
      ∀ d H', H d = none → d ≠ a → H' a = some (exo a C (some d)) → H' d = some (exd d (fs.zip ws).reverse) → (∀ b, b ≠ a → b ≠ d → H' b = H b) → Q .non H') (hne : fs ≠ []) : FnOk P w K mg base CX0 2 fI fd ps sp := by
  obtain ⟨qual, st, cc, cl, oc, dV, kV, doc, pm, ct, od, an, osl, rfl, lk, hcd, hB, hS, ⟨oc', file, tf, hcc, vs', hcv, hv2, hfile⟩, ocl, hcl, hcld⟩ := T.ex
  refine ⟨fun vs H Q E h => ?_, fun A outer s H args us vs Q E hr e0 hb r h => ?_⟩
  · obtain ⟨a, ws, rfl, hl, _⟩ := hsp vs H Q E h
    rw [List.length_cons, hl, T.len]
  obtain ⟨a, ws, rfl, hl, hws, ha, kq⟩ := hsp vs H Q E h
  -- the text
  unfold scoB at hS
  simp only [Bool.and_eq_true, Bool.not_eq_true', decide_eq_true_eq, List.all_eq_true, Bool.or_eq_true] at hS
  obtain ⟨⟨⟨⟨⟨⟨⟨⟨s1, s2⟩, s3⟩, s4⟩, s5⟩, s6⟩, s7⟩, s8⟩, s9⟩ := hS
  have kind : (defScope st).kind = .function := by
    split at s1
    · assumption
    · cases s1
  have loc : ∀ x ∈ ps, (defScope st).names.lookup x = some .local ∧ dun x = false := fun x hx => by
    obtain ⟨q1, q2⟩ := s5 x hx
    refine ⟨?_, q2⟩
    split at q1
    · assumption
    · cases q1
  have hk : (defScope st).names.lookup ("__class__" : Str) = some .free := by
    split at s7
    · assumption
    · cases s7
  have hsu : (defScope st).names.lookup ("super" : Str) = some .globalImplicit := by
    split at s8
    · assumption
    · cases s8
  obtain ⟨ar, har, hp0⟩ : ∃ ar, ((defArgs st).posonlyargs ++ (defArgs st).args).head? = some ar ∧ ps[0]? = some ar.arg := by
    split at s9
    · rename_i ar q
      exact ⟨ar, q, by simpa using s9⟩
    · cases s9
  unfold iniB at hB
  split at hB
  case h_2 => cases hB
  rename_i s0 p0 p1 i0 p2 v1 v2 vrest pj p3 p4 rest hbody
  simp only [Bool.and_eq_true, decide_eq_true_eq] at hB
  obtain ⟨⟨⟨⟨⟨rfl, rfl⟩, b1⟩, b2⟩, b3⟩, b4⟩ := hB
  obtain ⟨nm, q, N, bs, bm, sn, sub, ab, col, dd, k0, k1, k2, k3, k5, hC, hbm⟩ := T.T.cls
  have kept : ∀ b o, base.get? b = some o → s.heap.get? b = some o := fun b o e => (e0.bs b o e).1
  have KX : K.In s.heap := e0.mod.kin.keeps kept
  have lim : s.heap.NoLimit := e0.mod.nolimit.keeps kept
  obtain ⟨fd, hfd⟩ : ∃ fd, fd = fnC "__init__" qual (defArgs st) (defBody st) (defScope st) cl dV kV doc pm an (.ref cc) ct := ⟨_, rfl⟩
  rw [← hfd] at lk hb
  have f1 : fd.scope = defScope st := by rw [hfd]; rfl
  have f2 : fd.body = .stmts (defBody st) := by rw [hfd]; rfl
  have f3 : fd.closure = [(("__class__" : Str), cl)] := by rw [hfd]; rfl
  have f4 : fd.params = defArgs st := by rw [hfd]; rfl
  have f5 : fd.code = .ref cc := by rw [hfd]; rfl
  have f6 : fd.qualname = qual := by rw [hfd]; rfl
  have f7 : fd.globals = mainGlobals := by rw [hfd]; rfl
  have f8 : fd.builtins = builtinsNs := by rw [hfd]; rfl
  refine ks_codeAny_call_defAt (fd := fd) (body := defBody st) hr.depth (KX _ _ lk) rfl lim (by rw [f5, f6]; exact PySem.W.codeRec_of KX hcd) f2 hb (by rw [f1]; intro x hx; exact (s6 x hx).1)
    (fun x hx => by rw [f1]; exact (loc x.1 (List.of_mem_zip (a := x.1) (b := x.2) hx).1).1) (fun h₀ hns hkeep => ?_) (by rw [f1]; exact s2) (by rw [f1]; exact s3) (by rw [f1]; exact kind)
  obtain ⟨env, henv⟩ : ∃ env, env = callEnv fd s.heap.objs.size fI := ⟨_, rfl⟩
  have e1 : env.scope = defScope st := by rw [henv]; exact f1
  have e2 : env.func = some fI := by rw [henv]; rfl
  have e3 : env.code = .ref cc := by rw [henv]; exact f5
  have e4 : env.cells.lookup ("__class__" : Str) = some cl := by
    rw [henv]
    show List.lookup ("__class__" : Str) fd.closure = some cl
    rw [f3]
    rfl
  have e5 : env.locals = s.heap.objs.size := by rw [henv]; rfl
  have e6 : env.kindOf ("super" : Str) = some .globalImplicit := by
    show env.scope.names.lookup ("super" : Str) = _
    rw [e1]
    exact hsu
  have e7 : env.kindOf ("__class__" : Str) = some .free := by
    show env.scope.names.lookup ("__class__" : Str) = _
    rw [e1]
    exact hk
  have e8 : env.scope.kind = .function := by rw [e1]; exact kind
  have hl2 : (V.ref a :: ws).length = ps.length := by rw [List.length_cons, hl, T.len]
  have I : L2.Inv (cxI P w K mg base ps A outer s H env) [] (L2.start ps (.ref a :: ws)) H { s with heap := h₀, toks := s.toks + (ps.zip us).length } := by
    rw [henv]
    exact inv_ini (by rw [f1]; exact kind) f7 f8 f3 hcl hcld (fun x hx => by rw [f1]; exact (loc x hx).1) s4 (fun y hy => by
      rw [f1] at hy
      obtain ⟨q1, q2⟩ := s6 y hy
      exact ⟨q1, fun z => q2.resolve_left (fun n => n z)⟩) hr.hd e0 hl2 r hns hkeep
  rw [← henv]
  obtain ⟨X, hX⟩ : ∃ X, X = cxI P w K mg base ps A outer s H env := ⟨_, rfl⟩
  rw [← hX] at I
  have x1 : X.env = env := by rw [hX]; rfl
  have x2 : X.A = A.deeper env := by rw [hX]; rfl
  have x3 : X.K = K := by rw [hX]; rfl
  have x4 : X.N = ps := by rw [hX]; rfl
  have x5 : X.prog = P := by rw [hX]; rfl
  have x6 : X.w = w := by rw [hX]; rfl
  have x7 : X.xe = fun _ _ => False := by rw [hX]; rfl
  have x8 : X.mg = mg := by rw [hX]; rfl
  obtain ⟨σ, hσ⟩ : ∃ σ, σ = L2.start ps (.ref a :: ws) := ⟨_, rfl⟩
  rw [← hσ] at I
  have sv : ∀ (i : Nat) (v : V), (V.ref a :: ws)[i]? = some v → σ[i]? = some (some v) := fun i v e => by
    rw [hσ]
    unfold L2.start
    have hi : i < (V.ref a :: ws).length := by
      obtain ⟨q, _⟩ := List.getElem?_eq_some_iff.mp e
      exact q
    rw [List.getElem?_append_left (by simpa using hi), List.getElem?_map, e]
    rfl
  have s0v := sv 0 _ rfl
  refine ks_wpAt_mono (Q := L2.SP X [] ⟨fun _ H' => Q .non H', Q, fun _ _ => False, fun _ _ => False⟩) (E := fun _ _ => False) ?_ (fun f s' z => ?_) (fun _ _ z => z.elim)
  rotate_left
  · have fin : ∀ {σ' : L2.St} {H' : Hp} {v : V} {u : Value}, L2.Inv X [] σ' H' s' → RelV v u → Q v H' → CE outer P w H s Q u s' := fun {σ' H' v u} J rv q => by
      have os := J.os
      have b := J.base
      have ok := J.hok
      rw [hX] at os b ok
      exact ⟨v, H', os, J.bare, b, ok, rv, q⟩
    cases f with
    | ret u => obtain ⟨v, σ', H', J, rv, q⟩ := z; exact fin J rv q
    | next => obtain ⟨σ', H', J, q⟩ := z; exact fin (v := V.non) (u := Value.none) J rfl q
    | brk => obtain ⟨_, _, _, q⟩ := z; exact q.elim
    | cont => obtain ⟨_, _, _, q⟩ := z; exact q.elim
  rw [hbody]
  refine ks_wpAt_execs_cons (ks_wpAt_Expr_any (ks_wpAt_MethodCall (he := sup_eq rfl b1) ?_) (by simp [interactive, e8]) rfl)
  have hcn : ∃ cd, PySem.W.clsIn K C = some cd ∧ PySem.W.alongIn K "__init__" ((cd.mro.dropWhile (· != .ref C)).drop 1) = some (some (.builtin "ValueError.__init__")) := by
    have z := T.sup
    unfold PySem.W.ks_superIn at z
    cases q : PySem.W.clsIn K C with
    | none => rw [q] at z; cases z
    | some cd => rw [q] at z; exact ⟨cd, rfl, z⟩
  obtain ⟨cd, hcd2, along⟩ := hcn
  have ki := I.kIn
  rw [x3] at ki
  obtain ⟨m, hnm, hlook⟩ := id I.loc
  obtain ⟨us0, rus0, look0⟩ := hlook 0 ar.arg (.ref a) (by rw [x4]; exact hp0) s0v (.inl (by rw [x1, e1]; exact (loc _ (List.mem_of_getElem? hp0)).1))
  obtain rfl : us0 = Value.ref a := rus0
  have mself : m ar.arg = some (.ref a) := by
    rcases look0 with ⟨_, q⟩ | ⟨q, _⟩
    · exact q
    · have z := (loc _ (List.mem_of_getElem? hp0)).1
      rw [x1] at q
      have q : (defScope st).names.lookup ar.arg = some .cell ∨ (defScope st).names.lookup ar.arg = some .free := by rw [← e1]; exact q
      rcases q with q | q <;> (rw [z] at q; cases q)
  rw [x1] at hnm
  obtain ⟨hp, gs, dr, tk, os⟩ := s
  have keepC : h₀.get? cc = some oc' := hkeep _ _ (KX _ _ hcc)
  obtain ⟨cdd, hcdd, _⟩ : ∃ cdd, (excClassObj nm q C N bs bm true sn sub ab col dd k0 k1 k2 k3 k5 "ValueError.__new__").data = .cls cdd ∧ True := ⟨_, rfl, trivial⟩
  have hCh : h₀.get? C = some (excClassObj nm q C N bs bm true sn sub ab col dd k0 k1 k2 k3 k5 "ValueError.__new__") := hkeep _ _ (KX _ _ hC)
  obtain ⟨t1, hao⟩ := exo_at I.hok ha
  refine ks_wpAt_super_base (f := fI) (cc := cc) (ar := ar) e6 e7 (by decide) e2 (hkeep _ _ (KX _ _ lk)) rfl (by rw [f4]; exact har) e3 keepC hcv hv2 hfile T.htop ?_
  have ldsup : ∀ {Q : Value → Shared → Prop}, Q (.type "super") ⟨h₀, gs, dr, tk + (ps.zip us).length, os⟩ → wpAny (model P w) (A.deeper env) (loadName env "super") Q (fun _ _ => False) ⟨h₀, gs, dr, tk + (ps.zip us).length, os⟩ := by
    intro Q q
    unfold loadName
    simp only [Env.blockKind, e8, e6, ScopeKind.isAnnotationScope, Bool.false_and, Bool.false_eq_true, if_false]
    obtain ⟨mb, g1, g2⟩ := I.mod.blt
    have z1 := I.ok.glob
    have z2 := I.ok.blt
    rw [x1] at z1 z2
    exact Calls.loadGlobal_builtin (by rw [z1]; exact I.mod.glob.keeps I.bk) (by rw [x8]; exact T.msup) (by rw [z2]; exact g1.keeps I.bk) ((g2 _ (by decide)).trans (show bootBuiltins "super" = some (.type "super") by decide +kernel)) q
  refine ldsup ⟨rfl, ?_⟩
  refine wpAny_loadName_free e8 e7 e4 (v := .ref C) ⟨ocl, hkeep _ _ (KX _ _ hcl), hcld⟩ ?_
  refine wpAny_loadName_local e8 (by show env.scope.names.lookup ar.arg = some .local; rw [e1]; exact (loc _ (List.mem_of_getElem? hp0)).1) hnm mself ?_
  refine ks_wpAny_isType_cls hCh hcdd ⟨rfl, ?_⟩
  refine ks_wpAny_call_super hCh hcdd hao rfl (fun c z => by cases z) (PySem.W.looks_subIn ki T.self) (fun h1 hso keep1 => ?_)
  have I1 : L2.Inv X [] σ H ⟨h1, gs, dr, tk + (ps.zip us).length, os⟩ := I.kept (h' := h1) (t' := tk + (ps.zip us).length) keep1
  have k1' := I1.kIn
  rw [x3] at k1'
  have hao1 := keep1 _ _ hao
  have at1 : PySem.W.InstAt h1 a _ C none := ⟨hao1, rfl, rfl, trivial⟩
  refine PySem.W.kxs_getMethod PySem.W.kxs_ValueError hso (PySem.W.looks_opaque k1' T.opq) (l₀ := cd.mro) (fun A Q E s k q => wpAny_bind ((PySem.W.looks_clsIn k1' hcd2) A _ E s k (wpAny_pure q))) rfl k1' along
    (at1.type.andThen (PySem.W.looks_subIn k1' T.sve)) (PySem.W.ks_ne k1' at1 hcd2) (by decide) ?_
  have I2 : L2.Inv X [] σ H ⟨h1.push (PySem.W.kxs_mw "ValueError.__init__" a), gs, dr, tk + (ps.zip us).length + 1, os⟩ := I1.kept (h' := h1.push (PySem.W.kxs_mw "ValueError.__init__" a)) (t' := tk + (ps.zip us).length + 1) fun b o e => Heap.get?_push_of_some _ e
  have I3 : L2.Inv X [(h1.objs.size, PySem.W.kxs_mw "ValueError.__init__" a)] σ H ⟨h1.push (PySem.W.kxs_mw "ValueError.__init__" a), gs, dr, tk + (ps.zip us).length + 1, os⟩ := I2.pins_of fun p hp => by
    rw [List.mem_singleton.mp hp]
    refine ⟨Heap.get?_push_at rfl rfl, I1.hok.fresh (Nat.le_refl _), Nat.ne_of_gt I1.lt, I1.nofs (Nat.le_refl _), fun v z => ?_⟩
    cases z
  obtain ⟨ts, pj', run⟩ := js_ok (X := X) (ps := ps) (σ := σ) (H := H) (Q := fun out H1 => ∃ o : Str, [V.str out] = [V.str o] ∧ H1 = H) x4 (fun x hx => by rw [x1, e1]; exact loc x hx) (fun i x e ne => by
      cases i with
      | zero =>
        have : ps.headD "" = x := by
          cases ps with
          | nil => cases e
          | cons p ps => exact Option.some.inj e
        exact absurd this.symm ne
      | succ i =>
        have hi : i < ws.length := by
          obtain ⟨q, _⟩ := List.getElem?_eq_some_iff.mp e
          rw [T.len] at q
          omega
        obtain ⟨n, e2, e3⟩ := hws ws[i] (List.getElem_mem hi)
        refine ⟨n, sv (i + 1) _ ?_, e3⟩
        rw [List.getElem?_cons_succ, List.getElem?_eq_getElem hi, e2]) (fun out => ⟨out, rfl, rfl⟩) (v1 :: v2 :: vrest) (fun e he => by
      have z := List.all_eq_true.mp b2 e he
      simp only [Bool.and_eq_true] at z
      refine ⟨z.1, fun x p c q e1 => ?_⟩
      subst e1
      simpa using z.2)
  have hst : starEach [Expr.JoinedStr (v1 :: v2 :: vrest) pj] env = (false, eval (Expr.JoinedStr (v1 :: v2 :: vrest) pj) env) :: starEach [] env := rfl
  have pa := pa_cons (pe_joined (pos := pj) pj') (pa_nil (X := X)) (by rw [x1]; exact hst)
  have ra := pa.run p3 _ _ σ H (fun vs H1 => ∃ out : Str, vs = [.str out] ∧ H1 = H) I3 (by
    have z := run Str.empty (by
      show 0 + 2000 * (v1 :: v2 :: vrest).length ≤ sizeLine
      rw [sizeLine_eq]
      omega)
    exact z)
  rw [x1, x2, x5, x6, x7, hst] at ra
  rw [hst]
  refine PySem.W.kxs_callWith (i := "ValueError.__init__") (x := a) rfl (evalArgs_plain (wpAny_mono ra (fun us1 s4 z => ?_) fun _ _ z => z))
  obtain ⟨vs4, H4, I4, rv4, out, rfl, rfl⟩ := z
  obtain ⟨hu4, _⟩ := I4.pin (h1.objs.size, PySem.W.kxs_mw "ValueError.__init__" a) (List.mem_append_right _ (List.mem_singleton.mpr rfl))
  refine ⟨hu4, ?_⟩
  obtain ⟨h4, g4, d4, t4, os4⟩ := s4
  obtain ⟨t5, ho5⟩ := exo_at I4.hok ha
  have ki4 := I4.kIn
  rw [x3] at ki4
  refine call_mw (ki4 _ _ hC) ho5 hu4 (by
    have := rv4.length
    show us1.length ≤ _
    rw [← this, sizeLine_eq]
    exact (by decide : 1 ≤ 16777216)) (fun h6 t6 k6 hx6 => ?_)
  have J := I4.write (t' := t4) (x := a) (e := a) (o := exo a C none) (by rw [ha]; exact True.intro) (.inl rfl) k6 ⟨_, hx6⟩ (exo_ok hx6)
  have eu : upd H4 a (exo a C none) = H4 := by
    funext b
    by_cases hb : b = a
    · rw [hb, upd_same, ha]
    · rw [upd_ne hb]
  rw [eu] at J
  have J' : L2.Inv X [] σ H4 ⟨h6, g4, d4, t4, os4⟩ := J.pins_of fun p hp => (nomatch hp)
  have body := pss_ini (X := X) (ps := ps) x4 (fun x hx => by rw [x1, e1]; exact loc x hx) b4
  have rr := body.run [] _ σ H4 ⟨fun _ H' => Q .non H', Q, fun _ _ => False, fun _ _ => False⟩ J' (by
    rw [x3]
    refine ini_run T.T ha s0v _ ws [] H4 (fun p hp => T.nf _ (List.of_mem_zip (a := p.1) (b := p.2) hp).1) (by simp [hl]) (fun j i f w q1 q2 => ?_) ?_ (.inl ⟨rfl, rfl⟩) fun H' on => ?_
    · have hj := List.getElem?_zip_eq_some.mp q1
      have hi : i = j + 1 := by
        have z := hj.2
        rw [List.getElem?_map] at z
        cases e : (List.range fs.length)[j]? with
        | none => rw [e] at z; cases z
        | some y =>
          rw [e] at z
          have ey : y = j := by
            have := List.getElem?_eq_some_iff.mp e
            obtain ⟨_, q⟩ := this
            simpa using q.symm
          cases z
          rw [ey]
      rw [hi]
      exact sv (j + 1) w (by rw [List.getElem?_cons_succ]; exact q2)
    · have := T.few
      simp
      omega
    · have em : (fs.zip ((List.range fs.length).map (· + 1))).map (·.1) = fs := by
        rw [List.map_fst_zip]
        simp
      rw [em, List.append_nil] at on
      rcases on with ⟨z, _⟩ | ⟨_, d, nd, nda, rfl⟩
      · exfalso
        have : ((fs.zip ws).reverse).length = 0 := by rw [z]; rfl
        rw [List.length_reverse, List.length_zip, hl, Nat.min_self] at this
        exact hne (List.length_eq_zero_iff.mp this)
      · exact kq d _ nd nda upd_same (by rw [upd_ne nda, upd_same]) fun b b1 b2 => by rw [upd_ne b1, upd_ne b2])
  rw [x1, x2, x5, x6, x7] at rr
  exact wpAt_of_wpAny rr
end
end Mi
set_option Elab.async false
set_option maxRecDepth 100000
set_option maxHeartbeats 4000000
/-! MiMod: a module's tables as lists, and what is to be asked of the written part. -/
namespace Mi
open PySem L2 PySem.Spec PyProof.Rows
/-- a shape that keeps the order -/
theorem sh_id {κ : Ks} {K : PySem.W.Frag} {fd : FuncData} {ps nms : List Str} {m : Nat} {pl : List PL} (h : ∀ us ws : List Value, us.length = m → ws.length = nms.length → bindArgs fd ⟨us, nms.zip ws⟩ = pure (ps.zip (us ++ ws))) (hp : pl = (List.range (m + nms.length)).map PL.arg) : ShOk κ K fd ps m nms pl := by
  refine ⟨fun us ws => us ++ ws, fun vs zs => vs ++ zs, ⟨fun s us ws _ l1 l2 => .of_eq (h us ws l1 l2), fun r1 r2 => r1.append r2⟩, fun H ι n as vs zs us r l1 l2 e => ?_⟩
  have hl : as.length = m + nms.length := by rw [r.length, List.length_append, l1, l2]
  have key : ∀ (k : Nat), k ≤ as.length → place as ((List.range k).map PL.arg) = some (as.take k) := by
    have gen : ∀ (l : List Nat), (∀ i ∈ l, i < as.length) → place as (l.map PL.arg) = some (l.map fun i => as.getD i .non) := by
      intro l
      induction l with
      | nil => intro _; rfl
      | cons i l ih =>
        intro hi
        have h0 := hi i List.mem_cons_self
        show (as[i]?.bind fun v => (place as (l.map PL.arg)).map fun q => v :: q) = _
        rw [ih fun j hj => hi j (List.mem_cons_of_mem _ hj), List.getElem?_eq_getElem h0]
        simp [List.getD, h0]
    intro k hk
    rw [gen _ fun i hi => by have := List.mem_range.mp hi; omega]
    congr 1
    apply List.ext_getElem?
    intro i
    by_cases hi : i < k
    · rw [List.getElem?_map, List.getElem?_range hi, List.getElem?_take_of_lt hi]
      have : i < as.length := by omega
      simp [List.getD, this]
    · rw [List.getElem?_eq_none (by simp; omega), List.getElem?_eq_none (by simp; omega)]
  rw [hp, key _ (Nat.le_of_eq hl.symm), ← hl, List.take_length] at e
  cases e
  exact r
/-! ### names -/
def fbN (n : Nat) : Str := ⟨Array.replicate (n + 1) 126⟩
def nmB (l : List Str) : Bool := decide l.Nodup && l.all fun x => decide (x.cps[0]? ≠ some 126)
def nmF (l : List Str) (n : Nat) : Str := (l[n]?).getD (fbN n)
theorem nmF_inj {l : List Str} (h : nmB l = true) : ∀ a b, nmF l a = nmF l b → a = b := by
  unfold nmB at h
  simp only [Bool.and_eq_true, decide_eq_true_eq, List.all_eq_true] at h
  obtain ⟨h1, h2⟩ := h
  intro a b e
  unfold nmF at e
  have far : ∀ (n : Nat) (x : Str), x ∈ l → x ≠ fbN n := fun n x hx z => h2 x hx (by rw [z]; unfold fbN; simp)
  cases ea : l[a]? with
  | none =>
    rw [ea] at e
    cases eb : l[b]? with
    | none =>
      rw [eb] at e
      have e : fbN a = fbN b := e
      have := congrArg (fun x : Str => x.cps.size) e
      unfold fbN at this
      simpa using this
    | some y => rw [eb] at e; exact absurd e.symm (far a y (List.mem_of_getElem? eb))
  | some x =>
    rw [ea] at e
    cases eb : l[b]? with
    | none => rw [eb] at e; exact absurd e (far b x (List.mem_of_getElem? ea))
    | some y =>
      rw [eb] at e
      have e : x = y := e
      subst e
      exact L2.nodup_ix h1 ea eb
/-- names and places of a module -/
def ksOf (K : PySem.W.Frag) (cl : List Addr) (nm : List Str) (h : nmB nm = true) : Ks where
  K := K
  C := fun c => cl.getD c 0
  F := nmF nm
  inj := nmF_inj h
/-! ### shapes with defaults -/
/-- values by a shape: those written, then the defaults in turn -/
def placeG {α : Type} (d : α) (xs : List α) : List PL → List α → List α
  | [], _ => []
  | .arg i :: r, us => xs.getD i d :: placeG d xs r us
  | .dfl _ :: r, u :: us => u :: placeG d xs r us
  | .dfl _ :: r, [] => d :: placeG d xs r []
def dfls : List PL → List AV
  | [] => []
  | .arg _ :: r => dfls r
  | .dfl v :: r => v :: dfls r
/-- a default's value -/
def DflU (κ : Ks) (av : AV) (u : Value) : Prop := ∃ v, RelV v u ∧ ∀ H ι n, RV κ H ι n av v
def DflUs (κ : Ks) : List AV → List Value → Prop
  | [], [] => True
  | a :: as, u :: us => DflU κ a u ∧ DflUs κ as us
  | _, _ => False
section
variable {κ : Ks} {K : PySem.W.Frag}
theorem dfl_empT {p : Addr} (e : EmpT κ.K p) : DflU κ (.tup []) (.ref p) := ⟨.ref p, rfl, fun _ _ _ => ⟨p, [], rfl, rfl, .inr ⟨rfl, e⟩⟩⟩
theorem dfl_int {i : Int} {t : Tok} : DflU κ (.int i) (.int i t) := ⟨.int i, ⟨t, rfl⟩, fun _ _ _ => rfl⟩
theorem dfl_bl {b : Bool} : DflU κ (.bl b) (.bool b) := ⟨.bl b, rfl, fun _ _ _ => rfl⟩
theorem dfl_all : ∀ {as : List AV} {us : List Value}, DflUs κ as us → ∃ vs, Vals vs us ∧ ∀ H ι n, RVs κ H ι n as vs
  | [], [], _ => ⟨[], .nil, fun _ _ _ => rfl⟩
  | a :: as, u :: us, ⟨⟨v, r, q⟩, h⟩ => by
    obtain ⟨vs, rs, qs⟩ := dfl_all h
    exact ⟨v :: vs, .cons r rs, fun H ι n => ⟨v, vs, rfl, q H ι n, qs H ι n⟩⟩
  | [], _ :: _, h => h.elim
  | _ :: _, [], h => h.elim
theorem vals_getD : ∀ {xs : List V} {us : List Value}, Vals xs us → ∀ i, RelV (xs.getD i .non) (us.getD i .none)
  | _, _, .nil, i => by simp [List.getD]; rfl
  | _, _, .cons r rs, 0 => r
  | _, _, .cons r rs, i + 1 => vals_getD rs i
theorem placeG_vals {xs : List V} {us : List Value} (r : Vals xs us) : ∀ (pl : List PL) {dv : List V} {du : List Value}, Vals dv du → Vals (placeG .non xs pl dv) (placeG .none us pl du)
  | [], _, _, _ => .nil
  | .arg i :: pl, _, _, rd => .cons (vals_getD r i) (placeG_vals r pl rd)
  | .dfl _ :: pl, _, _, .nil => .cons rfl (placeG_vals r pl .nil)
  | .dfl _ :: pl, _, _, .cons q rd => .cons q (placeG_vals r pl rd)
theorem placeG_rel {H : Hp} {ι : Io} {n : Nat} {as : List AV} {xs : List V} (r : RVs κ H ι n as xs) : ∀ (pl : List PL) {dv : List V} {bs : List AV}, RVs κ H ι n (dfls pl) dv → place as pl = some bs → RVs κ H ι n bs (placeG .non xs pl dv)
  | [], dv, bs, _, e => by
    cases e
    rfl
  | .arg i :: pl, dv, bs, rd, e => by
    have e : (as[i]?.bind fun v => (place as pl).map fun l => v :: l) = some bs := e
    cases e1 : as[i]? with
    | none => rw [e1] at e; cases e
    | some v =>
      cases e2 : place as pl with
      | none => rw [e1, e2] at e; cases e
      | some l =>
        rw [e1, e2] at e
        cases e
        obtain ⟨u, q1, q2⟩ := r.get e1
        refine ⟨u, _, ?_, q2, placeG_rel r pl rd e2⟩
        show xs.getD i .non :: _ = _
        rw [List.getD, q1]
        rfl
  | .dfl w :: pl, dv, bs, rd, e => by
    have e : ((place as pl).map fun l => w :: l) = some bs := e
    cases e2 : place as pl with
    | none => rw [e2] at e; cases e
    | some l =>
      rw [e2] at e
      cases e
      obtain ⟨u, us, rfl, q, rd⟩ := rd
      exact ⟨u, _, rfl, q, placeG_rel r pl rd e2⟩
/-- keyword-only parameters that lack -/
theorem sh_kw {fd : FuncData} {ps nms : List Str} {m : Nat} {pl : List PL} (D : Addr) (names : List Str) (uv : List Value) (hn : ∀ q ∈ names.zip uv, PySem.W.nsIn K D q.1 = some (some q.2)) (hd : DflUs κ (dfls pl) uv)
    (h : ∀ us ws : List Value, us.length = m → ws.length = nms.length → KwChain D (names.zip uv) (bindArgs fd ⟨us, nms.zip ws⟩) (ps.zip (placeG .none (us ++ ws) pl uv))) : ShOk κ K fd ps m nms pl := by
  obtain ⟨dv, rd, qd⟩ := dfl_all hd
  refine ⟨fun us ws => placeG .none (us ++ ws) pl uv, fun vs zs => placeG .non (vs ++ zs) pl dv, ⟨fun s us ws inK l1 l2 => BindsTo.of_looks fun M => KwChain.looks inK hn (h us ws l1 l2), fun r1 r2 => placeG_vals (r1.append r2) pl rd⟩, ?_⟩
  intro H ι n as vs zs us r l1 l2 e
  exact placeG_rel r pl (qd H ι n) e
end
/-! ### what is asked -/
def kdL (ct : Ct) : List KD := [.kint, .kbool, .kstr, .klist, .ktup, .kval] ++ ct.cls.map fun p => .kcls p.2
def btL : List BT := [.tn, .tb, .ti, .ts, .tl, .tt, .td]
def clsB (K : PySem.W.Frag) (C : Addr) : Bool := PySem.W.plainGet K C Str.empty && PySem.W.hasDictIn K C && PySem.W.plainOver K C && decide (PySem.W.findIn K (.ref C) "__setattr__" = some (some (.builtin "object.__setattr__")))
def objB (K : PySem.W.Frag) (C : Addr) : Bool := decide (PySem.W.findIn K (.ref C) "__class__" = some (some (.builtin "object.__class__"))) && decide (PySem.W.specialIn K (.builtin "object.__class__") "__get__" = some (some (.builtin "getset_descriptor.__get__"))) &&
  decide (PySem.W.takesIn K (.builtin "object.__class__") = some true) && decide (PySem.W.mroIn K C (.type "object") = some true)
def wcB (K : PySem.W.Frag) (κ : Ks) (t : TL) (ct : Ct) : Bool :=
  (ct.cls.all fun p => decide (PySem.W.nsIn K mainGlobals p.1 = some (some (.ref (κ.C p.2))))) &&
  (ct.att.all fun p => decide (κ.F p.2 = p.1)) &&
  (ct.blt.all fun x => decide (PySem.W.nsIn K mainGlobals x = some none)) &&
  (t.faL.all fun p => clsB K (κ.C p.1) && decide (PySem.W.findIn K (.ref (κ.C p.1)) (κ.F p.2) = some none)) &&
  (t.fxL.all fun p => xfB K (κ.C p.1) && decide (PySem.W.findIn K (.ref (κ.C p.1)) (κ.F p.2) = some none)) &&
  (t.exL.all fun c => xfB K (κ.C c) && objB K (κ.C c)) &&
  (btL.all fun b => (kdL ct).all fun kd => decide (PySem.W.kitOne K (.type (btS b)) (kdU κ kd) = some (btK b kd))) &&
  (t.icL.all fun c => clsB K (κ.C c) && objB K (κ.C c) && (kdL ct).all fun kd => decide (PySem.W.kitOne K (.ref (κ.C c)) (kdU κ kd) = some (match kd with | .kcls d => c == d | _ => false))) &&
  (t.exL.all fun c => (kdL ct).all fun kd => decide (PySem.W.kitOne K (.ref (κ.C c)) (kdU κ kd) = some (isX t.tb.sub c kd))) &&
  (t.exL.all fun c => t.exL.all fun d => decide (PySem.W.exmOne K (.ref (κ.C c)) (.ref (κ.C d)) = some (t.tb.sub c d)))
theorem mem_look {α β : Type} [BEq α] [LawfulBEq α] : ∀ {l : List (α × β)} {x : α} {y : β}, l.lookup x = some y → (x, y) ∈ l
  | [], _, _, h => by cases h
  | (a, b) :: l, x, y, h => by
    rw [List.lookup_cons] at h
    split at h
    · rename_i q
      have : x = a := by simpa using q
      subst this
      cases h
      exact List.mem_cons_self
    · exact List.mem_cons_of_mem _ (mem_look h)
theorem clsB_ok {K : PySem.W.Frag} {C : Addr} (h : clsB K C = true) : Cls K C := by
  unfold clsB at h
  simp only [Bool.and_eq_true, decide_eq_true_eq] at h
  exact ⟨h.1.1.1, h.1.1.2, h.1.2, h.2⟩
theorem wc_ok {K : PySem.W.Frag} {κ : Ks} {t : TL} {ct : Ct} {h : Heap} {mg : Str → Option Value} (X : K.In h) (G : h.Ns mainGlobals mg) (e : wcB K κ t ct = true) : Wc κ t.tb ct K mg := by
  unfold wcB at e
  simp only [Bool.and_eq_true, List.all_eq_true, decide_eq_true_eq] at e
  obtain ⟨⟨⟨⟨⟨⟨⟨⟨⟨e1, e2⟩, e3⟩, e4⟩, e5⟩, e6⟩, e7⟩, e8⟩, e9⟩, e10⟩ := e
  have kds : ∀ kd : KD, (∀ c, kd = .kcls c → ∃ x, ct.cls.lookup x = some c) → kd ∈ kdL ct := fun kd hk => by
    unfold kdL
    cases kd with
    | kcls c =>
      obtain ⟨x, q⟩ := hk c rfl
      exact List.mem_append_right _ (List.mem_map.mpr ⟨(x, c), mem_look q, rfl⟩)
    | _ => exact List.mem_append_left _ (by simp)
  have obj : ∀ {c : Nat}, objB K (κ.C c) = true → PySem.W.findIn K (.ref (κ.C c)) "__class__" = some (some (.builtin "object.__class__")) ∧ PySem.W.specialIn K (.builtin "object.__class__") "__get__" = some (some (.builtin "getset_descriptor.__get__")) ∧
      PySem.W.takesIn K (.builtin "object.__class__") = some true ∧ PySem.W.mroIn K (κ.C c) (.type "object") = some true := fun {c} q => by
    unfold objB at q
    simp only [Bool.and_eq_true, decide_eq_true_eq] at q
    exact ⟨q.1.1.1, q.1.1.2, q.1.2, q.2⟩
  have con : ∀ {l : List Nat} {c : Nat}, l.contains c = true → c ∈ l := fun {l c} q => by simpa using q
  have con2 : ∀ {l : List (Nat × Nat)} {c f : Nat}, l.contains (c, f) = true → (c, f) ∈ l := fun {l c f} q => by simpa using q
  refine ⟨fun x c q => PySem.W.mg_of X G (e1 _ (mem_look q)), fun x f q => e2 _ (mem_look q), fun x q => PySem.W.mg_none_of X G (e3 x q), fun c f q => ?_, fun c f q => ?_, fun c q => ?_, fun b kd hk => ?_, fun c kd q hk => ?_, fun c kd q hk => ?_, fun c q => ?_, fun c d y _ q1 q2 => ?_⟩
  · obtain ⟨z1, z2⟩ := e4 _ (con2 q)
    exact ⟨clsB_ok z1, z2⟩
  · obtain ⟨z1, z2⟩ := e5 _ (con2 q)
    exact ⟨xfB_ok z1, z2⟩
  · obtain ⟨z1, z2⟩ := e6 _ (con q)
    have z1 := xfB_ok z1
    obtain ⟨o1, o2, o3, o4⟩ := obj z2
    exact ⟨z1.ga, z1.gg, z1.exC, z1.hdC, o1, o2, o3, o4⟩
  · exact e7 b (by cases b <;> simp [btL]) kd (kds kd hk)
  · exact (e8 _ (con q)).2 kd (kds kd hk)
  · exact e9 _ (con q) kd (kds kd hk)
  · obtain ⟨⟨z1, z2⟩, _⟩ := e8 _ (con q)
    exact ⟨clsB_ok z1, obj z2⟩
  · exact e10 _ (con q2) _ (con q1)
/-! ### the end -/
def spLaw (K : PySem.W.Frag) : Sp := fun vs H Q _ => ∃ (a : Addr) (ns : List Int), vs = [.ref a] ∧ Only H ∧ SqL K H a (ns.map V.int) ∧ ∀ H', Q (.bl true) H'
theorem law_sp2 {κ : Ks} {B : Tb} {n f : Nat} (law : ∀ ns : List Int, ∃ h, Gam B n f [.frl ns] AH.nil = .ok (.bl true) h) {vs : List V} {H : Hp} {Q : VK} {E : XK} (h : spLaw κ.K vs H Q E) : SP κ B n f vs H Q E := by
  obtain ⟨a, ns, rfl, hO, hS, k⟩ := h
  obtain ⟨h', e⟩ := law ns
  obtain ⟨ι, h0, as, R, ra, P⟩ := law_sp law hO hS
  have rv : RV κ H (fun _ => 0) 0 (.frl ns) (.ref a) := by
    refine ⟨a, rfl, ?_⟩
    rcases hS with (q | ⟨o, q⟩) | q
    · rcases hO a with z | ⟨o, xs, z⟩
      · rw [z] at q; cases q
      · rw [z] at q; cases q
    · exact .inl ⟨o, q⟩
    · exact .inr q
  refine ⟨fun _ => 0, AH.nil, [.frl ns], ⟨fun a l => absurd l (Nat.not_lt_zero _), fun a b l => absurd l (Nat.not_lt_zero _)⟩, ⟨_, [], rfl, rv, rfl⟩, ?_⟩
  rw [e]
  intro ι' H' w S r
  obtain rfl : w = .bl true := r
  exact k H'
theorem walk {l : PySem.W.OpenLaw} {q : Program} {loose : List Str} {XP : (Str → Option Value) → Heap → Prop} {YP : World → Heap → Prop} {d : DefRec} {K : Params → PySem.W.Frag} (D : Nat) (hn : l.most = some 63) (hdf : d.params.defaults = []) (hr : Room (2 * D + 2) callerA)
    (hY : ∀ (w : World) (h : Heap), YP w h → (K w.params).In h)
    (F : ∀ (w : World) (mg : Str → Option Value) (fa : Addr) (h : Heap), (K w.params).In h → h.Ns mainGlobals mg → mg d.name = some (.ref fa) →
      ∃ fd : FuncData, (∀ (s : Shared) (u : Value), BindsTo s fd ⟨[u], []⟩ [("_law_script", u)]) ∧ ∀ base : Heap, (K w.params).In base → base.Ns mainGlobals mg → FnG l.prog w (K w.params) mg base (L2.CX l.prog w) (2 * D + 2) fa fd ["_law_script"] (spLaw (K w.params))) :
    PySem.W.WalkO q loose XP YP l.row.toRowW d [] (fun f vs => PySem.call f vs) :=
  walkG (n := 63) (k := 2 * D + 2) (x := "_law_script") (CX := fun w => L2.CX l.prog w) (sp := fun w => spLaw (K w.params)) hn (by decide) hdf hr hY F (fun _ _ a ns _ hO hS => ⟨a, ns, rfl, hO, hS, fun _ => rfl⟩)
    fun _ _ _ _ _ ⟨_, _, _, _, _, _, _, _, _, _, _, _, z⟩ => z
end Mi
set_option Elab.async false
set_option maxRecDepth 100000
set_option maxHeartbeats 4000000
/-! MiWp: what must hold ahead of a code so that a wish holds behind it: rules that `simp` steps with, the head alone. -/
namespace Mi
open PySem
universe u
section
variable {α β γ : Type}
/-- keeps `simp` from entering what comes behind -/
structure Tg {α : Sort u} (a : α) : Type where
def RW (r : Res α) (Q : α → AH → Prop) (X : Nat → List (Nat × AV) → AH → Prop) (_ : Tg Q := ⟨⟩) (_ : Tg X := ⟨⟩) : Prop := match r with
  | .ok a h => Q a h
  | .exc c fs h => X c fs h
  | .bad => False
def SW (r : SR) (K : Fl → Frame → AH → Prop) (X : Nat → List (Nat × AV) → Frame → AH → Prop) (_ : Tg K := ⟨⟩) (_ : Tg X := ⟨⟩) : Prop := match r with
  | .ok f τ h => K f τ h
  | .exc c fs τ h => X c fs τ h
  | .bad => False
def OW (o : Option (α × AH)) (Q : α → AH → Prop) (_ : Tg Q := ⟨⟩) : Prop := match o with
  | some (a, h) => Q a h
  | none => False
def VW (o : Option α) (Q : α → Prop) (_ : Tg Q := ⟨⟩) : Prop := match o with
  | some a => Q a
  | none => False
/-- a test whose answer is a Bool -/
def BW (t : Bool) (A B : Prop) (_ : Tg A := ⟨⟩) (_ : Tg B := ⟨⟩) : Prop := match t with
  | true => A
  | false => B
def thenK (r : Frame → AH → Prop) (K : Fl → Frame → AH → Prop) : Fl → Frame → AH → Prop
  | .nx, τ, h => r τ h
  | f, τ, h => K f τ h
def noX : Nat → List (Nat × AV) → AH → Prop := fun _ _ _ => False
def upX (X : Nat → List (Nat × AV) → Frame → AH → Prop) (τ : Frame) : Nat → List (Nat × AV) → AH → Prop := fun c fs h => X c fs τ h
variable {Q : α → AH → Prop} {X : Nat → List (Nat × AV) → AH → Prop} {K : Fl → Frame → AH → Prop} {XS : Nat → List (Nat × AV) → Frame → AH → Prop} {h : AH} {τ : Frame}
theorem RW_ext {r : Res α} {Q Q' : α → AH → Prop} (e : ∀ a h, Q a h = Q' a h) : RW r Q X = RW r Q' X := by
  obtain rfl : Q = Q' := funext fun a => funext fun h => e a h
  rfl
theorem OW_ext {r : Option (α × AH)} {Q Q' : α → AH → Prop} (e : ∀ a h, Q a h = Q' a h) : OW r Q = OW r Q' := by
  obtain rfl : Q = Q' := funext fun a => funext fun h => e a h
  rfl
theorem and_ext {p a b : Prop} (e : a = b) : (p ∧ a) = (p ∧ b) := by rw [e]
theorem RW_mono {r : Res α} {Q' : α → AH → Prop} {X' : Nat → List (Nat × AV) → AH → Prop} (H : RW r Q' X') (f : ∀ a h, Q' a h → Q a h) (g : ∀ c fs h, X' c fs h → X c fs h) : RW r Q X := by
  cases r with
  | ok a h => exact f _ _ H
  | exc c fs h => exact g _ _ _ H
  | bad => exact H.elim
theorem SW_mono {r : SR} {K' : Fl → Frame → AH → Prop} {X' : Nat → List (Nat × AV) → Frame → AH → Prop} (H : SW r K' X') (f : ∀ a τ h, K' a τ h → K a τ h) (g : ∀ c fs τ h, X' c fs τ h → XS c fs τ h) : SW r K XS := by
  cases r with
  | ok a τ h => exact f _ _ _ H
  | exc c fs τ h => exact g _ _ _ _ H
  | bad => exact H.elim
@[simp] theorem RW_ok {a : α} : RW (.ok a h) Q X = Q a h := rfl
@[simp] theorem RW_exc {c fs} : RW (.exc c fs h) Q X = X c fs h := rfl
@[simp] theorem RW_bad : RW .bad Q X = False := rfl
@[simp] theorem SW_ok {f : Fl} : SW (.ok f τ h) K XS = K f τ h := rfl
@[simp] theorem SW_exc {c fs} : SW (.exc c fs τ h) K XS = XS c fs τ h := rfl
@[simp] theorem SW_bad : SW .bad K XS = False := rfl
@[simp] theorem upX_eq {X : Nat → List (Nat × AV) → Frame → AH → Prop} {c fs} : upX X τ c fs h = X c fs τ h := rfl
@[simp] theorem thenK_nx {r : Frame → AH → Prop} : thenK r K .nx τ h = r τ h := rfl
@[simp] theorem thenK_rt {r : Frame → AH → Prop} {v : AV} : thenK r K (.rt v) τ h = K (.rt v) τ h := rfl
@[simp] theorem thenK_bk {r : Frame → AH → Prop} : thenK r K .bk τ h = K .bk τ h := rfl
@[simp] theorem thenK_ct {r : Frame → AH → Prop} : thenK r K .ct τ h = K .ct τ h := rfl
@[simp] theorem OW_some {a : α} : OW (some (a, h)) Q = Q a h := rfl
@[simp] theorem OW_none : OW none Q = False := rfl
@[simp] theorem VW_some {a : α} {Q : α → Prop} : VW (some a) Q = Q a := rfl
@[simp] theorem VW_none {Q : α → Prop} : VW none Q = False := rfl
@[simp] theorem BW_t {A B : Prop} : BW true A B = A := rfl
@[simp] theorem BW_f {A B : Prop} : BW false A B = B := rfl
theorem BW_of {t : Bool} {A B : Prop} (a : t = true → A) (b : t = false → B) : BW t A B := by
  cases t
  · exact b rfl
  · exact a rfl
theorem BW_dec {p : Prop} [Decidable p] {A B : Prop} (a : p → A) (b : ¬p → B) : BW (decide p) A B := by
  by_cases h : p
  · simpa [h] using a h
  · simpa [h] using b h
@[simp ↓] theorem RW_bind {r : Res β} {f : β → AH → Res α} : RW (r.bind f) Q X = RW r (fun a h => RW (f a h) Q X) X := by cases r <;> rfl
@[simp ↓] theorem SW_go {r : Res β} {f : β → AH → SR} : SW (r.go τ f) K XS = RW r (fun a h => SW (f a h) K XS) (upX XS τ) := by cases r <;> rfl
@[simp ↓] theorem SW_then {r : SR} {f : Frame → AH → SR} : SW (r.then f) K XS = SW r (thenK (fun τ h => SW (f τ h) K XS) K) XS := by
  cases r with
  | ok f τ h => cases f <;> rfl
  | _ => rfl
@[simp ↓] theorem RW_ofO {o : Option (α × AH)} : RW (ofO o) Q X = OW o Q := by
  rcases o with _ | ⟨a, h⟩ <;> rfl
@[simp ↓] theorem OW_map {o : Option β} {f : β → α} : OW (o.map fun v => (f v, h)) Q = VW o fun v => Q (f v) h := by cases o <;> rfl
@[simp ↓] theorem OW_bind {o : Option β} {f : β → Option (α × AH)} : OW (o.bind f) Q = VW o fun v => OW (f v) Q := by cases o <;> rfl
@[simp ↓] theorem OW_mapO {o : Option β} {f : β → α × AH} : OW (o.map f) Q = VW o fun v => Q (f v).1 (f v).2 := by cases o <;> rfl
@[simp ↓] theorem VW_bind {o : Option β} {f : β → Option α} {Q : α → Prop} : VW (o.bind f) Q = VW o fun v => VW (f v) Q := by cases o <;> rfl
@[simp ↓] theorem VW_map {o : Option β} {f : β → α} {Q : α → Prop} : VW (o.map f) Q = VW o fun v => Q (f v) := by cases o <;> rfl
@[simp] theorem OW_ite {p : Prop} [Decidable p] {a : α} : OW (if p then some (a, h) else none) Q = (p ∧ Q a h) := by
  by_cases q : p <;> simp [q]
@[simp] theorem VW_ite {p : Prop} [Decidable p] {a : α} {Q : α → Prop} : VW (if p then some a else none) Q = (p ∧ Q a) := by
  by_cases q : p <;> simp [q]
@[simp] theorem RW_ite_bad {p : Prop} [Decidable p] {r : Res α} : RW (if p then r else .bad) Q X = (p ∧ RW r Q X) := by
  by_cases q : p <;> simp [q]
end
/-! ### expressions -/
section
variable {G : PG} {τ : Frame} {h : AH} {Q : AV → AH → Prop} {X : Nat → List (Nat × AV) → AH → Prop}
def varW (o : Option (Option AV)) (Q : AV → Prop) (_ : Tg Q := ⟨⟩) : Prop := match o with
  | some (some v) => Q v
  | _ => False
@[simp] theorem varW_s {v : AV} {Q : AV → Prop} : varW (some (some v)) Q = Q v := rfl
@[simp] theorem varW_n {Q : AV → Prop} : varW (some none) Q = False := rfl
@[simp] theorem varW_nn {Q : AV → Prop} : varW none Q = False := rfl
@[simp ↓] theorem w_var {i : Nat} : RW (evalE G (.var i) τ h) Q X = varW τ[i]? (fun v => Q v h) := by
  rw [evalE]
  cases τ[i]? with
  | none => rfl
  | some o => cases o <;> rfl
@[simp ↓] theorem w_con {v : AV} : RW (evalE G (.con v) τ h) Q X = Q v h := by rw [evalE]; rfl
@[simp ↓] theorem w_o1 {o a} : RW (evalE G (.o1 o a) τ h) Q X = RW (evalE G a τ h) (fun x h1 => OW (o1S G o x h1) Q) X := by
  rw [evalE, RW_bind]
  exact RW_ext fun _ _ => RW_ofO
@[simp ↓] theorem w_o2 {o a b} : RW (evalE G (.o2 o a b) τ h) Q X = RW (evalE G a τ h) (fun x h1 => RW (evalE G b τ h1) (fun y h2 => OW (o2S o x y h2) Q) X) X := by
  rw [evalE, RW_bind]
  refine RW_ext fun _ _ => ?_
  rw [RW_bind]
  exact RW_ext fun _ _ => RW_ofO
/-- a Bool that a value is told to be -/
def trW (o : Option Bool) (A B : Prop) (_ : Tg A := ⟨⟩) (_ : Tg B := ⟨⟩) : Prop := match o with
  | some true => A
  | some false => B
  | none => False
@[simp] theorem trW_s {b : Bool} {A B : Prop} : trW (some b) A B = BW b A B := by cases b <;> rfl
@[simp] theorem trW_n {A B : Prop} : trW none A B = False := rfl
@[simp ↓] theorem w_chn {o o' a b c} : RW (evalE G (.chn o o' a b c) τ h) Q X = RW (evalE G a τ h) (fun x h1 => RW (evalE G b τ h1) (fun y h2 => OW (o2S o x y h2) (fun r h3 => VW (asBl r) fun t => BW t (RW (evalE G c τ h3) (fun z h4 => OW (o2S o' y z h4) Q) X) (Q (.bl false) h3))) X) X := by
  rw [evalE, RW_bind]
  refine RW_ext fun x h1 => ?_
  rw [RW_bind]
  refine RW_ext fun y h2 => ?_
  rw [RW_bind, RW_ofO]
  refine OW_ext fun r h3 => ?_
  cases r with
  | bl b =>
    cases b
    · rfl
    · show RW _ Q X = RW _ _ X
      rw [RW_bind]
      exact RW_ext fun _ _ => RW_ofO
  | _ => rfl
@[simp ↓] theorem w_and {a b} : RW (evalE G (.and_ a b) τ h) Q X = RW (evalE G a τ h) (fun x h1 => trW (truth x h1) (RW (evalE G b τ h1) Q X) (Q x h1)) X := by
  rw [evalE, RW_bind]
  refine RW_ext fun x h1 => ?_
  rcases truth x h1 with _ | _ | _ <;> rfl
@[simp ↓] theorem w_or {a b} : RW (evalE G (.or_ a b) τ h) Q X = RW (evalE G a τ h) (fun x h1 => trW (truth x h1) (Q x h1) (RW (evalE G b τ h1) Q X)) X := by
  rw [evalE, RW_bind]
  refine RW_ext fun x h1 => ?_
  rcases truth x h1 with _ | _ | _ <;> rfl
@[simp ↓] theorem w_ife {c a b} : RW (evalE G (.ife c a b) τ h) Q X = RW (evalE G c τ h) (fun x h1 => trW (truth x h1) (RW (evalE G a τ h1) Q X) (RW (evalE G b τ h1) Q X)) X := by
  rw [evalE, RW_bind]
  refine RW_ext fun x h1 => ?_
  rcases truth x h1 with _ | _ | _ <;> rfl
variable {Qs : List AV → AH → Prop}
@[simp ↓] theorem w_nil : RW (evalEs G .nil τ h) Qs X = Qs [] h := by rw [evalEs]; rfl
@[simp ↓] theorem w_cons {e r} : RW (evalEs G (.cons e r) τ h) Qs X = RW (evalE G e τ h) (fun x h1 => RW (evalEs G r τ h1) (fun xs h2 => Qs (x :: xs) h2) X) X := by
  rw [evalEs, RW_bind]
  refine RW_ext fun _ _ => ?_
  rw [RW_bind]
  exact RW_ext fun _ _ => rfl
@[simp ↓] theorem w_tup {as} : RW (evalE G (.tup as) τ h) Q X = RW (evalEs G as τ h) (fun vs h1 => vs.length ≤ sizeLine ∧ Q (.tup vs) h1) X := by
  rw [evalE, RW_bind]
  exact RW_ext fun _ _ => RW_ite_bad
@[simp ↓] theorem w_lst {as} : RW (evalE G (.lst as) τ h) Q X = RW (evalEs G as τ h) (fun vs h1 => vs.length ≤ sizeLine ∧ Q (.ref h1.n) (h1.push (.lst vs))) X := by
  rw [evalE, RW_bind]
  exact RW_ext fun _ _ => RW_ite_bad
@[simp ↓] theorem w_dnew {t} : RW (evalE G (.dnew t) τ h) Q X = Q (.ref h.n) (h.push (if t then .dT [] else .dK [])) := by rw [evalE]; rfl
@[simp ↓] theorem w_call {f as} : RW (evalE G (.call f as) τ h) Q X = (G.pln f = true ∧ RW (evalEs G as τ h) (fun vs h1 => RW (G.call f vs h1) Q X) X) := by
  rw [evalE, RW_ite_bad, RW_bind]
def methW (o : Option (Nat × List (Nat × AV))) (F : Nat → List (Nat × AV) → Prop) (_ : Tg F := ⟨⟩) : Prop := match o with
  | some (c, fs) => F c fs
  | none => False
@[simp] theorem methW_s {c fs} {F : Nat → List (Nat × AV) → Prop} : methW (some (c, fs)) F = F c fs := rfl
@[simp ↓] theorem w_meth {m o as} : RW (evalE G (.meth m o as) τ h) Q X = RW (evalE G o τ h) (fun x h1 => methW (clsOf h1 x) fun c fs => VW (G.mt c m) fun f => fs.lookup m = none ∧ G.pln f = true ∧ RW (evalEs G as τ h1) (fun vs h2 => RW (G.call f (x :: vs) h2) Q X) X) X := by
  rw [evalE, RW_bind]
  refine RW_ext fun x h1 => ?_
  rcases clsOf h1 x with _ | ⟨c, fs⟩
  · rfl
  · rcases q1 : G.mt c m with _ | f
    · simp [q1]
    · rcases q2 : fs.lookup m with _ | v
      · simp [q1, q2]
      · simp [q1, q2]
@[simp ↓] theorem w_newK {c sh as ks} : RW (evalE G (.newK c sh as ks) τ h) Q X = VW (G.ini c) fun f => G.sok f sh = true ∧ RW (evalEs G as τ h) (fun vs h1 => RW (evalEs G ks τ h1) (fun ws h2 => VW (placeS (G.shp sh) (.ref h2.n :: vs) ws) fun us => RW (G.call f us (h2.push (.ins c []))) (fun r h3 => isNonA r = true ∧ Q (.ref h2.n) h3) X) X) X := by
  rw [evalE]
  rcases G.ini c with _ | f
  · rfl
  · show RW _ Q X = (_ ∧ _)
    simp only [RW_ite_bad, RW_bind]
    refine and_ext (RW_ext fun vs h1 => ?_)
    rw [RW_bind]
    refine RW_ext fun ws h2 => ?_
    rcases placeS (G.shp sh) (.ref h2.n :: vs) ws with _ | us
    · rfl
    · show RW _ Q X = RW _ _ X
      rw [RW_bind]
      refine RW_ext fun r h3 => ?_
      cases r <;> simp [isNonA]
@[simp ↓] theorem w_new {c as} : RW (evalE G (.new c as) τ h) Q X = VW (G.ini c) fun f => G.pln f = true ∧ RW (evalEs G as τ h) (fun vs h1 => RW (G.call f (.ref h1.n :: vs) (h1.push (.ins c []))) (fun r h2 => isNonA r = true ∧ Q (.ref h1.n) h2) X) X := by
  rw [evalE]
  rcases G.ini c with _ | f
  · rfl
  · show RW _ Q X = (_ ∧ _)
    simp only [RW_ite_bad, RW_bind]
    refine and_ext (RW_ext fun vs h1 => ?_)
    rw [RW_bind]
    refine RW_ext fun r h3 => ?_
    cases r <;> simp [isNonA]
@[simp ↓] theorem w_callK {f sh as ks} : RW (evalE G (.callK f sh as ks) τ h) Q X = (G.sok f sh = true ∧ RW (evalEs G as τ h) (fun vs h1 => RW (evalEs G ks τ h1) (fun ws h2 => VW (placeS (G.shp sh) vs ws) fun us => RW (G.call f us h2) Q X) X) X) := by
  rw [evalE]
  simp only [RW_ite_bad, RW_bind]
  refine and_ext (RW_ext fun vs h1 => ?_)
  rw [RW_bind]
  refine RW_ext fun ws h2 => ?_
  rcases placeS (G.shp sh) vs ws with _ | us <;> rfl
@[simp ↓] theorem w_newx {c as} : RW (evalE G (.newx c as) τ h) Q X = VW (G.exf c) fun ks => RW (evalEs G as τ h) (fun vs h1 => OW (mkFs h1 [] ks vs) fun fs h2 => Q (.xcp c (fs.map (·.1)) (fs.map (·.2))) h2) X := by
  rw [evalE]
  rcases G.exf c with _ | ks
  · rfl
  · show RW _ Q X = RW _ _ X
    rw [RW_bind]
    refine RW_ext fun vs h1 => ?_
    rcases mkFs h1 [] ks vs with _ | ⟨fs, h2⟩ <;> rfl
@[simp ↓] theorem w_bm {m o as} : RW (evalE G (.bm m o as) τ h) Q X = RW (evalE G o τ h) (fun x h1 => bmOk m x h1 = true ∧ RW (evalEs G as τ h1) (fun vs h2 => OW (bmS m x vs h2) Q) X) X := by
  rw [evalE, RW_bind]
  refine RW_ext fun _ _ => ?_
  rw [RW_ite_bad, RW_bind]
  exact and_ext (RW_ext fun _ _ => RW_ofO)
def rdIW (o : Option (Option Int)) (F : Option Int → Prop) : Prop := VW o F
@[simp ↓] theorem w_oN {Qo : Option AV → AH → Prop} : RW (evalO G .non τ h) Qo X = Qo none h := by rw [evalO]; rfl
@[simp ↓] theorem w_oS {Qo : Option AV → AH → Prop} {e} : RW (evalO G (.som e) τ h) Qo X = RW (evalE G e τ h) (fun x h1 => Qo (some x) h1) X := by
  rw [evalO, RW_bind]
  rfl
@[simp ↓] theorem w_sl {a lo hi} : RW (evalE G (.sl a lo hi) τ h) Q X = RW (evalE G a τ h) (fun x h1 => RW (evalO G lo τ h1) (fun l h2 => VW (rdI l) fun l => RW (evalO G hi τ h2) (fun u h3 => VW (rdI u) fun u => OW (slS x l u h3) Q) X) X) X := by
  rw [evalE, RW_bind]
  refine RW_ext fun x h1 => ?_
  rw [RW_bind]
  refine RW_ext fun l h2 => ?_
  rcases rdI l with _ | l
  · rfl
  · show RW _ Q X = RW _ _ X
    rw [RW_bind]
    refine RW_ext fun u h3 => ?_
    rcases rdI u with _ | u
    · rfl
    · exact RW_ofO
variable {Qb : Bool → AH → Prop}
@[simp ↓] theorem w_cN : RW (evalC G .non τ h) Qb X = Qb true h := by rw [evalC]; rfl
@[simp ↓] theorem w_cS {e} : RW (evalC G (.som e) τ h) Qb X = RW (evalE G e τ h) (fun x h1 => trW (truth x h1) (Qb true h1) (Qb false h1)) X := by
  rw [evalC, RW_bind]
  refine RW_ext fun x h1 => ?_
  rcases truth x h1 with _ | _ | _ <;> rfl
variable {Qi : List AV × Watch → AH → Prop}
@[simp ↓] theorem w_itOf {a} : RW (evalIt G (.of a) τ h) Qi X = RW (evalE G a τ h) (fun x h1 => VW (itOf x h1) fun p => Qi p h1) X := by
  rw [evalIt, RW_bind]
  refine RW_ext fun _ _ => ?_
  rw [RW_ofO, OW_mapO]
@[simp ↓] theorem w_rng1 {a} : RW (evalIt G (.rng1 a) τ h) Qi X = RW (evalE G a τ h) (fun x h1 => VW (rngOf (.int 0) x) fun p => Qi p h1) X := by
  rw [evalIt, RW_bind]
  refine RW_ext fun _ _ => ?_
  rw [RW_ofO, OW_mapO]
@[simp ↓] theorem w_rng2 {a b} : RW (evalIt G (.rng2 a b) τ h) Qi X = RW (evalE G a τ h) (fun x h1 => RW (evalE G b τ h1) (fun y h2 => VW (rngOf x y) fun p => Qi p h2) X) X := by
  rw [evalIt, RW_bind]
  refine RW_ext fun _ _ => ?_
  rw [RW_bind]
  refine RW_ext fun _ _ => ?_
  rw [RW_ofO, OW_mapO]
/-! a list made of a walk: the step -/
noncomputable def lcStep (G : PG) (t : T) (cnd : OE) (elt : E) (τ : Frame) : AV → AH → Res (Option AV) := fun v h => match asgT t v (wipeA τ t.slots) with
  | some τ' => (evalC G cnd τ' h).bind fun b h' => if b then (evalE G elt τ' h').bind fun y h'' => .ok (some y) h'' else .ok none h'
  | none => .bad
def LW (r : Res (List AV)) (Q : List AV → AH → Prop) (_ : Tg Q := ⟨⟩) : Prop := match r with
  | .ok acc h => Q acc h
  | _ => False
@[simp ↓] theorem w_lc {t it cnd elt} : RW (evalE G (.lc t it cnd elt) τ h) Q X = RW (evalIt G it τ h) (fun p h1 => LW (lcGo p.2 (lcStep G t cnd elt τ) p.1 [] h1) fun acc h2 => Q (.ref h2.n) (h2.push (.lst acc))) X := by
  rw [evalE, RW_bind]
  refine RW_ext fun p h1 => ?_
  show RW (match lcGo p.2 (lcStep G t cnd elt τ) p.1 [] h1 with
    | .ok acc h2 => Res.ok (.ref h2.n) (h2.push (.lst acc))
    | _ => .bad) Q X = _
  rcases lcGo p.2 (lcStep G t cnd elt τ) p.1 [] h1 with _ | _ | _ <;> rfl
end
/-! ### statements -/
section
variable {G : PG} {τ : Frame} {h : AH} {K : Fl → Frame → AH → Prop} {X : Nat → List (Nat × AV) → Frame → AH → Prop}
@[simp ↓] theorem s_nil : SW (execs G .nil τ h) K X = K .nx τ h := by rw [execs]; rfl
@[simp ↓] theorem s_cons {s r} : SW (execs G (.cons s r) τ h) K X = SW (exec G s τ h) (thenK (fun τ h => SW (execs G r τ h) K X) K) X := by rw [execs, SW_then]
@[simp ↓] theorem s_expr {e} : SW (exec G (.expr e) τ h) K X = RW (evalE G e τ h) (fun _ h1 => K .nx τ h1) (upX X τ) := by
  rw [exec, SW_go]
  rfl
@[simp ↓] theorem s_asg {t e} : SW (exec G (.asg t e) τ h) K X = RW (evalE G e τ h) (fun v h1 => VW (asgT t v τ) fun τ' => K .nx τ' h1) (upX X τ) := by
  rw [exec, SW_go]
  refine RW_ext fun v h1 => ?_
  rcases asgT t v τ with _ | τ' <;> rfl
@[simp ↓] theorem s_asgF {o f e} : SW (exec G (.asgF o f e) τ h) K X = RW (evalE G e τ h) (fun v h1 => RW (evalE G o τ h1) (fun x h2 => VW (setF G.fa x f v h2) fun h3 => K .nx τ h3) (upX X τ)) (upX X τ) := by
  rw [exec, SW_go]
  refine RW_ext fun v h1 => ?_
  rw [SW_go]
  refine RW_ext fun x h2 => ?_
  rcases setF G.fa x f v h2 with _ | h3 <;> rfl
@[simp ↓] theorem s_asgS {o i e} : SW (exec G (.asgS o i e) τ h) K X = RW (evalE G e τ h) (fun v h1 => RW (evalE G o τ h1) (fun x h2 => RW (evalE G i τ h2) (fun k h3 => VW (setS x k v h3) fun h4 => K .nx τ h4) (upX X τ)) (upX X τ)) (upX X τ) := by
  rw [exec, SW_go]
  refine RW_ext fun v h1 => ?_
  rw [SW_go]
  refine RW_ext fun x h2 => ?_
  rw [SW_go]
  refine RW_ext fun k h3 => ?_
  rcases setS x k v h3 with _ | h4 <;> rfl
@[simp ↓] theorem s_aug {i o e} : SW (exec G (.aug i o e) τ h) K X = varW τ[i]? fun x => RW (evalE G e τ h) (fun y h1 => VW (augS o x y) fun z => K .nx (τ.set i (some (.int z))) h1) (upX X τ) := by
  rw [exec]
  rcases τ[i]? with _ | _ | x
  · rfl
  · rfl
  · show SW _ K X = RW _ _ _
    rw [SW_go]
    refine RW_ext fun y h1 => ?_
    rcases augS o x y with _ | z <;> rfl
@[simp ↓] theorem s_ite {c a b} : SW (exec G (.ite c a b) τ h) K X = RW (evalE G c τ h) (fun x h1 => trW (truth x h1) (SW (execs G a τ h1) K X) (SW (execs G b τ h1) K X)) (upX X τ) := by
  rw [exec, SW_go, evalT, w_cS]
  rfl
noncomputable def stepF (G : PG) (t : T) (b : Ss) : AV → Frame → AH → SR := fun v τ h => match asgT t v τ with
  | some τ' => execs G b τ' h
  | none => .bad
@[simp ↓] theorem s_for {t it b} : SW (exec G (.for_ t it b) τ h) K X = RW (evalIt G it τ h) (fun p h1 => SW (forGo p.2 (stepF G t b) p.1 τ h1) K X) (upX X τ) := by
  rw [exec, SW_go]
  rfl
@[simp ↓] theorem s_step {t b v} : SW (stepF G t b v τ h) K X = VW (asgT t v τ) fun τ' => SW (execs G b τ' h) K X := by
  unfold stepF
  rcases asgT t v τ with _ | τ' <;> rfl
@[simp ↓] theorem s_whl {c b} : SW (exec G (.whl c b) τ h) K X = SW (whlGo (fun τ h => evalT G c τ h) (fun τ h => execs G b τ h) G.fuel τ h) K X := by rw [exec]
@[simp ↓] theorem s_ret {e} : SW (exec G (.ret e) τ h) K X = RW (evalE G e τ h) (fun v h1 => K (.rt v) τ h1) (upX X τ) := by
  rw [exec, SW_go]
  rfl
@[simp ↓] theorem s_retN : SW (exec G .retN τ h) K X = K (.rt .non) τ h := by rw [exec]; rfl
@[simp ↓] theorem s_brk : SW (exec G .brk τ h) K X = K .bk τ h := by rw [exec]; rfl
@[simp ↓] theorem s_cnt : SW (exec G .cnt τ h) K X = K .ct τ h := by rw [exec]; rfl
@[simp ↓] theorem s_pass : SW (exec G .pass τ h) K X = K .nx τ h := by rw [exec]; rfl
@[simp ↓] theorem s_rais {c as} : SW (exec G (.rais c as) τ h) K X = VW (G.exf c) fun ks => RW (evalEs G as τ h) (fun vs h1 => OW (mkFs h1 [] ks vs) fun fs h2 => X c fs τ h2) (upX X τ) := by
  rw [exec]
  rcases G.exf c with _ | ks
  · rfl
  · show SW _ K X = RW _ _ _
    rw [SW_go]
    refine RW_ext fun vs h1 => ?_
    rcases mkFs h1 [] ks vs with _ | ⟨fs, h2⟩ <;> rfl
@[simp ↓] theorem s_try {b hs} : SW (exec G (.try_ b hs) τ h) K X = SW (execs G b τ h) K (fun c fs τ h => SW (handle G hs c fs τ h) K X) := by
  rw [exec]
  cases execs G b τ h <;> rfl
/-- a clause's suite may not raise -/
def HW (r : SR) (K : Fl → Frame → AH → Prop) : Prop := SW r K fun _ _ _ _ => False
@[simp ↓] theorem HW_eq {r : SR} : HW r K = SW r K fun _ _ _ _ => False := rfl
@[simp ↓] theorem s_hn {c fs} : SW (handle G .nil c fs τ h) K X = X c fs τ h := by rw [handle]; rfl
@[simp ↓] theorem s_h0 {k b r c fs} : SW (handle G (.cons k none b r) c fs τ h) K X = ((G.ex c && G.ex k) = true ∧ BW (G.sub c k) (HW (execs G b τ h) K) (SW (handle G r c fs τ h) K X)) := by
  rw [handle]
  generalize (G.ex c && G.ex k) = q
  cases q
  · simp
  · simp only [if_true, true_and]
    cases G.sub c k
    · simp
    · simp only [if_true, BW_t]
      show SW _ K X = SW (execs G b τ h) K fun _ _ _ _ => False
      cases execs G b τ h <;> rfl
@[simp ↓] theorem s_h1 {k i b r c fs} : SW (handle G (.cons k (some i) b r) c fs τ h) K X = ((G.ex c && G.ex k) = true ∧ BW (G.sub c k) (HW (execs G b (τ.set i (some (.xcp c (fs.map (·.1)) (fs.map (·.2))))) h) fun f τ' h' => K f (τ'.set i none) h') (SW (handle G r c fs τ h) K X)) := by
  rw [handle]
  generalize (G.ex c && G.ex k) = q
  cases q
  · simp
  · simp only [if_true, true_and]
    cases G.sub c k
    · simp
    · simp only [if_true, BW_t]
      show SW _ K X = SW (execs G b _ h) _ fun _ _ _ _ => False
      cases execs G b (τ.set i (some (.xcp c (fs.map (·.1)) (fs.map (·.2))))) h <;> rfl
end
/-! ### functions -/
section
variable {B : Tb} {n f : Nat} {vs : List AV} {h : AH} {Q : AV → AH → Prop} {X : Nat → List (Nat × AV) → AH → Prop}
noncomputable abbrev GPn (B : Tb) (n : Nat) : PG := B.pg (Gam B n)
def endK (Q : AV → AH → Prop) : Fl → Frame → AH → Prop
  | .rt v, _, h => Q v h
  | .nx, _, h => Q .non h
  | _, _, _ => False
@[simp] theorem endK_rt {v τ} : endK Q (.rt v) τ h = Q v h := rfl
@[simp] theorem endK_nx {τ} : endK Q .nx τ h = Q .non h := rfl
@[simp] theorem endK_bk {τ} : endK Q .bk τ h = False := rfl
@[simp] theorem endK_ct {τ} : endK Q .ct τ h = False := rfl
def fnX (X : Nat → List (Nat × AV) → AH → Prop) : Nat → List (Nat × AV) → Frame → AH → Prop := fun c fs _ h => X c fs h
@[simp] theorem fnX_eq {c fs τ} : fnX X c fs τ h = X c fs h := rfl
theorem enter {i : FI} (e : B.fn f = some i) (hl : vs.length = i.ar ∧ i.ar ≤ i.sz) (H : SW (execs (GPn B n) i.body (vs.map some ++ List.replicate (i.sz - i.ar) none) h) (endK Q) (fnX X)) : RW (Gam B (n + 1) f vs h) Q X := by
  show RW (match B.fn f with
    | some i => runF (B.pg (Gam B n)) i vs h
    | none => .bad) Q X
  rw [e]
  show RW (runF (B.pg (Gam B n)) i vs h) Q X
  unfold runF
  rw [if_pos hl]
  revert H
  show SW (execs (B.pg (Gam B n)) i.body _ h) (endK Q) (fnX X) → _
  cases execs (B.pg (Gam B n)) i.body (vs.map some ++ List.replicate (i.sz - i.ar) none) h with
  | ok fl τ h => cases fl <;> exact fun H => H
  | exc c fs τ h => exact fun H => H
  | bad => exact fun H => H.elim
@[simp] theorem pg_call : (B.pg (Gam B n)).call = Gam B n := rfl
@[simp] theorem pg_mt : (B.pg (Gam B n)).mt = B.mt := rfl
@[simp] theorem pg_ini : (B.pg (Gam B n)).ini = B.ini := rfl
@[simp] theorem pg_sub : (B.pg (Gam B n)).sub = B.sub := rfl
@[simp] theorem pg_exf : (B.pg (Gam B n)).exf = B.exf := rfl
@[simp] theorem pg_fa : (B.pg (Gam B n)).fa = B.fa := rfl
@[simp] theorem pg_ic : (B.pg (Gam B n)).ic = B.ic := rfl
@[simp] theorem pg_fx : (B.pg (Gam B n)).fx = B.fx := rfl
@[simp] theorem pg_ex : (B.pg (Gam B n)).ex = B.ex := rfl
@[simp] theorem pg_shp : (B.pg (Gam B n)).shp = B.shp := rfl
@[simp] theorem pg_sok : (B.pg (Gam B n)).sok = B.sok := rfl
@[simp] theorem pg_pln : (B.pg (Gam B n)).pln = B.pln := rfl
@[simp] theorem pg_fuel : (B.pg (Gam B n)).fuel = B.fuel := rfl
end
end Mi
set_option Elab.async false
set_option maxRecDepth 100000
set_option maxHeartbeats 4000000
/-! MiWp2: what the operations answer, as rules for `simp`; loops; what a call leaves as it was. -/
namespace Mi
open PySem
theorem OW_g {α : Type} {p : Prop} {o : Option (α × AH)} {Q : α → AH → Prop} : OW (@ite _ (Grd p) (Classical.propDecidable _) o none) Q = (p ∧ OW o Q) := by
  by_cases q : Grd p
  · rw [if_pos q]
    have q : p := q
    simp [q]
  · rw [if_neg q]
    have q : ¬p := q
    simp [q]
theorem VW_g {α : Type} {p : Prop} {o : Option α} {Q : α → Prop} : VW (@ite _ (Grd p) (Classical.propDecidable _) o none) Q = (p ∧ VW o Q) := by
  by_cases q : Grd p
  · rw [if_pos q]
    have q : p := q
    simp [q]
  · rw [if_neg q]
    have q : ¬p := q
    simp [q]
/-! ### what stands at a place -/
def lenO : Option AO → Option Nat
  | some (.lst xs) => some xs.length
  | some (.dK kvs) => some kvs.length
  | _ => none
def lstO : Option AO → Option (List AV)
  | some (.lst xs) => some xs
  | _ => none
def lsO : Option AO → Option (List AV)
  | some (.dK kvs) => some (kvs.map fun kv => keyAV kv.1)
  | some (.dT kvs) => some (kvs.map fun kv => .tup (kv.1.map keyAV))
  | some (.lst xs) => some xs
  | _ => none
def ixO (o : Option AO) (y : AV) : Option AV := match o with
  | some (.dK kvs) => (keyOf y).bind fun k => valA kvs k
  | some (.dT kvs) => (tkeyOf y).bind fun k => valA kvs k
  | some (.lst xs) => match y with
    | .int i => L2.atI xs i
    | _ => none
  | _ => none
def addO (o u : Option AO) (h : AH) : Option (AV × AH) := match o, u with
  | some (.lst xs), some (.lst ys) => if xs.length + ys.length ≤ sizeLine then some (.ref h.n, h.push (.lst (xs ++ ys))) else none
  | _, _ => none
def isLstO : Option AO → Bool
  | some (.lst _) => true
  | _ => false
def appO (o : Option AO) (a : Nat) (y : AV) (h : AH) : Option (AV × AH) := match o with
  | some (.lst xs) => if xs.length < sizeLine then some (.non, h.put a (.lst (xs ++ [y]))) else none
  | _ => none
def extO (o u : Option AO) (a : Nat) (h : AH) : Option (AV × AH) := match o, u with
  | some (.lst xs), some (.lst ys) => if xs.length + ys.length ≤ sizeLine then some (.non, h.put a (.lst (xs ++ ys))) else none
  | _, _ => none
def popO (o : Option AO) (a : Nat) (h : AH) : Option (AV × AH) := match o with
  | some (.lst xs) => (xs[xs.length - 1]?).map fun y => (y, h.put a (.lst xs.dropLast))
  | _ => none
open Classical in
noncomputable def popIO (o : Option AO) (a : Nat) (i : Int) (h : AH) : Option (AV × AH) := match o with
  | some (.lst xs) => if Grd (0 ≤ i ∧ i < 2 ^ 63) then (xs[i.toNat]?).map fun y => (y, h.put a (.lst (xs.eraseIdx i.toNat))) else none
  | _ => none
def setO (o : Option AO) (a : Nat) (i v : AV) (h : AH) : Option AH := match o with
  | some (.lst xs) => match i with
    | .int k => (L2.ixN xs.length k).map fun j => h.put a (.lst (xs.set j v))
    | _ => none
  | some (.dK kvs) => (keyOf i).bind fun k => if kvs.length < sizeLine then some (h.put a (.dK (putA kvs k v))) else none
  | some (.dT kvs) => (tkeyOf i).bind fun k => if kvs.length < sizeLine then some (h.put a (.dT (putA kvs k v))) else none
  | _ => none
def setFO (o : Option AO) (fa : Nat → Nat → Bool) (a f : Nat) (v : AV) (h : AH) : Option AH := match o with
  | some (.ins c fs) => if fa c f ∧ fs.length < 1000 then some (h.put a (.ins c (putN f v fs))) else none
  | _ => none
def clsO : Option AO → Option (Nat × List (Nat × AV))
  | some (.ins c fs) => some (c, fs)
  | _ => none
def itO (o : Option AO) (a : Nat) : Option (List AV × Watch) := match o with
  | some (.lst xs) => some (xs, [(a, .lst xs)])
  | _ => none
def enO (o : Option AO) (a : Nat) : Option (List AV × Watch) := match o with
  | some (.lst xs) => some (enumA 0 xs, [(a, .lst xs)])
  | _ => none
open Classical in
noncomputable def insO (o : Option AO) (a : Nat) (i : Int) (y : AV) (h : AH) : Option (AV × AH) := match o with
  | some (.lst xs) => if Grd (xs.length < sizeLine ∧ 0 ≤ i ∧ i < 2 ^ 63) then some (.non, h.put a (.lst (xs.take i.toNat ++ [y] ++ xs.drop i.toNat))) else none
  | _ => none
def truO : Option AO → Option Bool
  | some (.lst xs) => some (!xs.isEmpty)
  | some (.dK kvs) => some (!kvs.isEmpty)
  | _ => none
def inO (o : Option AO) (x : AV) (h : AH) : Option Bool := match o with
  | some (.dK kvs) => (keyOf x).map fun k => (valA kvs k).isSome
  | some (.dT kvs) => (tkeyOf x).map fun k => (valA kvs k).isSome
  | some (.lst xs) => (dat h 60 x).bind fun d => (mapO (dat h 60) xs).map fun ds => ds.any fun z => PyData.eqv z d
  | _ => none
section
variable {G : PG} {h : AH} {a b : Nat} {v y : AV} {xs vs : List AV} {i j : Int} {p q : Bool} {kvs : List (L2.Key × AV)} {kts : List (List L2.Key × AV)} {c : Nat} {fs : List (Nat × AV)}
@[simp] theorem lenO_l : lenO (some (.lst xs)) = some xs.length := rfl
@[simp] theorem lenO_k : lenO (some (.dK kvs)) = some kvs.length := rfl
@[simp] theorem lstO_l : lstO (some (.lst xs)) = some xs := rfl
@[simp] theorem lsO_l : lsO (some (.lst xs)) = some xs := rfl
@[simp] theorem lsO_k : lsO (some (.dK kvs)) = some (kvs.map fun kv => keyAV kv.1) := rfl
@[simp] theorem lsO_t : lsO (some (.dT kts)) = some (kts.map fun kv => .tup (kv.1.map keyAV)) := rfl
@[simp] theorem ixO_k : ixO (some (.dK kvs)) y = (keyOf y).bind fun k => valA kvs k := rfl
@[simp] theorem ixO_t : ixO (some (.dT kts)) y = (tkeyOf y).bind fun k => valA kts k := rfl
@[simp] theorem ixO_l : ixO (some (.lst xs)) (.int i) = L2.atI xs i := rfl
@[simp] theorem addO_l {ys : List AV} : addO (some (.lst xs)) (some (.lst ys)) h = if xs.length + ys.length ≤ sizeLine then some (.ref h.n, h.push (.lst (xs ++ ys))) else none := rfl
@[simp] theorem isLstO_l : isLstO (some (.lst xs)) = true := rfl
@[simp] theorem appO_l : appO (some (.lst xs)) a y h = if xs.length < sizeLine then some (.non, h.put a (.lst (xs ++ [y]))) else none := rfl
@[simp] theorem extO_l {ys : List AV} : extO (some (.lst xs)) (some (.lst ys)) a h = if xs.length + ys.length ≤ sizeLine then some (.non, h.put a (.lst (xs ++ ys))) else none := rfl
@[simp] theorem popO_l : popO (some (.lst xs)) a h = (xs[xs.length - 1]?).map fun y => (y, h.put a (.lst xs.dropLast)) := rfl
theorem grd_pos {p : Prop} (h : p) : Grd p := h
@[simp] theorem popIO_l {Q : AV → AH → Prop} : OW (popIO (some (.lst xs)) a i h) Q = ((0 ≤ i ∧ i < 2 ^ 63) ∧ VW (xs[i.toNat]?) fun y => Q y (h.put a (.lst (xs.eraseIdx i.toNat)))) := by
  refine (OW_g (o := (xs[i.toNat]?).map fun y => (y, h.put a (.lst (xs.eraseIdx i.toNat))))).trans ?_
  rw [OW_mapO]
@[simp] theorem setO_l : setO (some (.lst xs)) a (.int i) v h = (L2.ixN xs.length i).map fun j => h.put a (.lst (xs.set j v)) := rfl
@[simp] theorem setO_k : setO (some (.dK kvs)) a y v h = (keyOf y).bind fun k => if kvs.length < sizeLine then some (h.put a (.dK (putA kvs k v))) else none := rfl
@[simp] theorem setO_t : setO (some (.dT kts)) a y v h = (tkeyOf y).bind fun k => if kts.length < sizeLine then some (h.put a (.dT (putA kts k v))) else none := rfl
@[simp] theorem setFO_i {fa : Nat → Nat → Bool} {f : Nat} : setFO (some (.ins c fs)) fa a f v h = if fa c f ∧ fs.length < 1000 then some (h.put a (.ins c (putN f v fs))) else none := rfl
@[simp] theorem clsO_i : clsO (some (.ins c fs)) = some (c, fs) := rfl
@[simp] theorem clsO_l : clsO (some (.lst xs)) = none := rfl
@[simp] theorem clsO_k : clsO (some (.dK kvs)) = none := rfl
@[simp] theorem clsO_t : clsO (some (.dT kts)) = none := rfl
@[simp] theorem itO_l : itO (some (.lst xs)) a = some (xs, [(a, .lst xs)]) := rfl
@[simp] theorem enO_l : enO (some (.lst xs)) a = some (enumA 0 xs, [(a, .lst xs)]) := rfl
@[simp] theorem insO_l {Q : AV → AH → Prop} : OW (insO (some (.lst xs)) a i y h) Q = ((xs.length < sizeLine ∧ 0 ≤ i ∧ i < 2 ^ 63) ∧ Q .non (h.put a (.lst (xs.take i.toNat ++ [y] ++ xs.drop i.toNat)))) := OW_g
@[simp] theorem truO_l : truO (some (.lst xs)) = some (!xs.isEmpty) := rfl
@[simp] theorem inO_k : inO (some (.dK kvs)) y h = (keyOf y).map fun k => (valA kvs k).isSome := rfl
@[simp] theorem inO_t : inO (some (.dT kts)) y h = (tkeyOf y).map fun k => (valA kts k).isSome := rfl
/-! ### operations -/
@[simp] theorem truth_bl : truth (.bl p) h = some p := rfl
@[simp] theorem truth_int : truth (.int i) h = some (i != 0) := rfl
@[simp] theorem truth_non : truth .non h = some false := rfl
@[simp] theorem truth_ref : truth (.ref a) h = truO (h.get a) := by unfold truth truO; rfl
@[simp] theorem isNonA_non : isNonA .non = true := rfl
@[simp] theorem isNonA_int : isNonA (.int i) = false := rfl
@[simp] theorem isNonA_bl : isNonA (.bl p) = false := rfl
@[simp] theorem isNonA_ref : isNonA (.ref a) = false := rfl
@[simp] theorem isNonA_tup : isNonA (.tup xs) = false := rfl
@[simp] theorem isNonA_str {s} : isNonA (.str s) = false := rfl
@[simp] theorem asBl_bl : asBl (.bl p) = some p := rfl
@[simp] theorem o1_not : o1S G .not v h = (truth v h).map fun b => (.bl (!b), h) := rfl
@[simp] theorem o1_neg : o1S G .neg (.int i) h = some (.int (-i), h) := rfl
@[simp] theorem o1_isN : o1S G .isN v h = some (.bl (isNonA v), h) := rfl
@[simp] theorem o1_notN : o1S G .notN v h = some (.bl (!isNonA v), h) := rfl
@[simp] theorem o1_len : o1S G .len v h = (lenS h v).map fun n => (.int (n : Int), h) := by
  simp only [o1S]
  cases lenS h v <;> rfl
@[simp] theorem o1_list : o1S G .list v h = (lsS h v).map fun xs => (.ref h.n, h.push (.lst xs)) := rfl
@[simp] theorem o1_tuple : o1S G .tuple v h = (rdS h v).map fun xs => (.tup xs, h) := rfl
@[simp] theorem o1_int : o1S G .int (.int i) h = some (.int i, h) := rfl
@[simp] theorem o1_abs : o1S G .abs (.int i) h = some (.int (if i < 0 then -i else i), h) := rfl
@[simp] theorem o1_sorted : o1S G .sorted v h = ((rdL h v).bind sortA).map fun xs => (.ref h.n, h.push (.lst xs)) := rfl
@[simp] theorem o1_sum : o1S G .sum v h = ((rdL h v).bind asInts).map fun ns => (.int ns.sum, h) := rfl
@[simp] theorem o1_fld {f : Nat} : o1S G (.fld f) (.ref a) h = (clsO (h.get a)).bind fun p => if G.fa p.1 f then (p.2.lookup f).map fun x => (x, h) else none := by
  show (clsOf h (.ref a)).bind _ = _
  congr 1
@[simp] theorem o1_fldx {f c : Nat} {ks : List Nat} : o1S G (.fld f) (.xcp c ks xs) h = if G.fx c f then ((ks.zip xs).lookup f).map fun x => (x, h) else none := rfl
@[simp] theorem o1_isix {c : Nat} {ks : List Nat} {kd : List KD} : o1S G (.isi kd) (.xcp c ks xs) h = if G.ex c then some (.bl (kd.any (isX G.sub c)), h) else none := rfl
@[simp] theorem o1_isi_int {kd : List KD} : o1S G (.isi kd) (.int i) h = some (.bl (kd.any (isK h (.int i))), h) := rfl
@[simp] theorem o1_isi_bl {kd : List KD} : o1S G (.isi kd) (.bl p) h = some (.bl (kd.any (isK h (.bl p))), h) := rfl
@[simp] theorem o1_isi_str {kd : List KD} {s : Str} : o1S G (.isi kd) (.str s) h = some (.bl (kd.any (isK h (.str s))), h) := rfl
@[simp] theorem o1_isi_non {kd : List KD} : o1S G (.isi kd) .non h = some (.bl (kd.any (isK h .non)), h) := rfl
@[simp] theorem o1_isi_tup {kd : List KD} : o1S G (.isi kd) (.tup xs) h = some (.bl (kd.any (isK h (.tup xs))), h) := rfl
def isiO (o : Option AO) (ic : Nat → Bool) (r : Bool) (h : AH) : Option (AV × AH) := match clsO o with
  | some (c, _) => if ic c then some (.bl r, h) else none
  | none => some (.bl r, h)
@[simp] theorem o1_isi_ref {kd : List KD} : o1S G (.isi kd) (.ref a) h = isiO (h.get a) G.ic (kd.any (isK h (.ref a))) h := rfl
@[simp] theorem isiO_l {ic} : isiO (some (.lst xs)) ic p h = some (.bl p, h) := rfl
@[simp] theorem isiO_i {ic} : isiO (some (.ins c fs)) ic p h = if ic c then some (.bl p, h) else none := rfl
@[simp] theorem isX_c {sub : Nat → Nat → Bool} {d : Nat} : isX sub c (.kcls d) = sub c d := rfl
@[simp] theorem isX_v {sub : Nat → Nat → Bool} : isX sub c .kval = true := rfl
@[simp] theorem isK_int_i : isK h (.int i) .kint = true := rfl
@[simp] theorem isK_int_b : isK h (.int i) .kbool = false := rfl
@[simp] theorem isK_int_s : isK h (.int i) .kstr = false := rfl
@[simp] theorem isK_int_l : isK h (.int i) .klist = false := rfl
@[simp] theorem isK_int_t : isK h (.int i) .ktup = false := rfl
@[simp] theorem isK_bl_i : isK h (.bl p) .kint = true := rfl
@[simp] theorem isK_bl_b : isK h (.bl p) .kbool = true := rfl
@[simp] theorem isK_bl_s : isK h (.bl p) .kstr = false := rfl
@[simp] theorem isK_bl_l : isK h (.bl p) .klist = false := rfl
@[simp] theorem isK_bl_t : isK h (.bl p) .ktup = false := rfl
@[simp] theorem isK_str_i {s} : isK h (.str s) .kint = false := rfl
@[simp] theorem isK_str_b {s} : isK h (.str s) .kbool = false := rfl
@[simp] theorem isK_str_s {s} : isK h (.str s) .kstr = true := rfl
@[simp] theorem isK_str_l {s} : isK h (.str s) .klist = false := rfl
@[simp] theorem isK_str_t {s} : isK h (.str s) .ktup = false := rfl
@[simp] theorem isK_non_i : isK h .non .kint = false := rfl
@[simp] theorem isK_non_b : isK h .non .kbool = false := rfl
@[simp] theorem isK_non_s : isK h .non .kstr = false := rfl
@[simp] theorem isK_non_l : isK h .non .klist = false := rfl
@[simp] theorem isK_non_t : isK h .non .ktup = false := rfl
@[simp] theorem isK_tup_i : isK h (.tup xs) .kint = false := rfl
@[simp] theorem isK_tup_b : isK h (.tup xs) .kbool = false := rfl
@[simp] theorem isK_tup_s : isK h (.tup xs) .kstr = false := rfl
@[simp] theorem isK_tup_l : isK h (.tup xs) .klist = false := rfl
@[simp] theorem isK_tup_t : isK h (.tup xs) .ktup = true := rfl
@[simp] theorem isK_ref_i : isK h (.ref a) .kint = false := rfl
@[simp] theorem isK_ref_b : isK h (.ref a) .kbool = false := rfl
@[simp] theorem isK_ref_s : isK h (.ref a) .kstr = false := rfl
@[simp] theorem isK_ref_l : isK h (.ref a) .klist = (lstO (h.get a)).isSome := rfl
@[simp] theorem isK_ref_t : isK h (.ref a) .ktup = false := rfl
@[simp] theorem lenS_ref : lenS h (.ref a) = lenO (h.get a) := rfl
@[simp] theorem lenS_tup : lenS h (.tup xs) = some xs.length := rfl
@[simp] theorem lenS_frl {ns} : lenS h (.frl ns) = some ns.length := rfl
@[simp] theorem rdL_ref : rdL h (.ref a) = lstO (h.get a) := rfl
@[simp] theorem rdS_ref : rdS h (.ref a) = lstO (h.get a) := rfl
@[simp] theorem rdS_tup : rdS h (.tup xs) = some xs := rfl
@[simp] theorem lsS_ref : lsS h (.ref a) = lsO (h.get a) := rfl
@[simp] theorem lsS_tup : lsS h (.tup xs) = some xs := rfl
@[simp] theorem clsOf_ref : clsOf h (.ref a) = clsO (h.get a) := rfl
@[simp] theorem itOf_ref : itOf (.ref a) h = itO (h.get a) a := rfl
@[simp] theorem itOf_tup : itOf (.tup xs) h = some (xs, []) := rfl
@[simp] theorem itOf_frl {ns} : itOf (.frl ns) h = some (ns.map .int, []) := rfl
@[simp] theorem VW_rngI {Q : List AV × Watch → Prop} : VW (rngOf (.int i) (.int j)) Q = ((-(2 ^ 62) ≤ i ∧ i < 2 ^ 62 ∧ -(2 ^ 62) ≤ j ∧ j < 2 ^ 62) ∧ Q (upTo i (j - i).toNat, [])) := VW_g
theorem rng_nat_le (n : Nat) (q : n < 4611686018427387904) : -(2 ^ 62) ≤ (0 : Int) ∧ (0 : Int) < 2 ^ 62 ∧ -(2 ^ 62) ≤ (n : Int) ∧ (n : Int) < 2 ^ 62 := by omega
def lt62 (n : Nat) : Prop := n < 4611686018427387904
theorem lt62_of {n : Nat} (h : n < 4000000000) : lt62 n := by
  unfold lt62
  omega
@[simp ↓ high] theorem VW_rng {n : Nat} {Q : List AV × Watch → Prop} : VW (rngOf (.int 0) (.int (n : Int))) Q = (lt62 n ∧ Q (upTo 0 n, [])) := by
  have e : ((n : Int) - 0).toNat = n := by omega
  rw [VW_rngI, e]
  by_cases q : lt62 n
  · simp only [q, true_and, rng_nat_le n q, and_self]
  · have q2 : ¬(-(2 ^ 62) ≤ (0 : Int) ∧ (0 : Int) < 2 ^ 62 ∧ -(2 ^ 62) ≤ (n : Int) ∧ (n : Int) < 2 ^ 62) := by
      rintro ⟨_, _, _, z⟩
      unfold lt62 at q
      omega
    simp only [q, q2, false_and]
@[simp] theorem o2_add : o2S .add (.int i) (.int j) h = some (.int (i + j), h) := rfl
@[simp] theorem o2_sub : o2S .sub (.int i) (.int j) h = some (.int (i - j), h) := rfl
@[simp] theorem o2_mul {Q : AV → AH → Prop} : OW (o2S .mul (.int i) (.int j) h) Q = (((-(2 ^ 64) < i ∧ i < 2 ^ 64) ∨ (-(2 ^ 64) < j ∧ j < 2 ^ 64)) ∧ Q (.int (i * j)) h) := OW_g
@[simp] theorem o2_fdiv {Q : AV → AH → Prop} : OW (o2S .fdiv (.int i) (.int j) h) Q = ((0 < j ∧ j < 1073741824) ∧ Q (.int (i / j)) h) := OW_g
@[simp] theorem o2_mod : o2S .mod (.int i) (.int j) h = if 0 < j then some (.int (i % j), h) else none := rfl
@[simp] theorem o2_pow {Q : AV → AH → Prop} : OW (o2S .pow (.int i) (.int j) h) Q = ((0 ≤ j ∧ j ≤ 1000000 ∧ i.natAbs < 2 ^ 64) ∧ Q (.int (i ^ j.toNat)) h) := OW_g
@[simp] theorem o2_lt : o2S .lt (.int i) (.int j) h = some (.bl (decide (i < j)), h) := rfl
@[simp] theorem o2_le : o2S .le (.int i) (.int j) h = some (.bl (decide (i ≤ j)), h) := rfl
@[simp] theorem o2_gt : o2S .gt (.int i) (.int j) h = some (.bl (decide (j < i)), h) := rfl
@[simp] theorem o2_ge : o2S .ge (.int i) (.int j) h = some (.bl (decide (j ≤ i)), h) := rfl
@[simp] theorem o2_max : o2S .max (.int i) (.int j) h = some (.int (if j > i then j else i), h) := rfl
@[simp] theorem o2_min : o2S .min (.int i) (.int j) h = some (.int (if j < i then j else i), h) := rfl
@[simp] theorem o2_eq : o2S .eq (.int i) (.int j) h = some (.bl (decide (i = j)), h) := rfl
@[simp] theorem o2_ne : o2S .ne (.int i) (.int j) h = some (.bl (!decide (i = j)), h) := rfl
@[simp] theorem o2_eqb : o2S .eq (.bl p) (.bl q) h = some (.bl (p == q), h) := rfl
@[simp] theorem o2_neb : o2S .ne (.bl p) (.bl q) h = some (.bl (!(p == q)), h) := rfl
@[simp] theorem o2_eqs {s t : Str} : o2S .eq (.str s) (.str t) h = some (.bl (decide (s = t)), h) := rfl
@[simp] theorem o2_nes {s t : Str} : o2S .ne (.str s) (.str t) h = some (.bl (!decide (s = t)), h) := rfl
theorem repr_ref {d : PyData} (e : dat h 60 (.ref a) = some d) (ok : rpOk d) : o1S G .repr (.ref a) h = some (.str d.shown, h) := by
  show ((dat h 60 (.ref a)).bind fun d => @ite _ (Grd (rpOk d)) (Classical.propDecidable _) (some (AV.str d.shown, h)) none) = _
  rw [e, Option.bind_some]
  exact if_pos ok
theorem repr_tup {d : PyData} (e : dat h 60 (.tup xs) = some d) (ok : rpOk d) : o1S G .repr (.tup xs) h = some (.str d.shown, h) := by
  show ((dat h 60 (.tup xs)).bind fun d => @ite _ (Grd (rpOk d)) (Classical.propDecidable _) (some (AV.str d.shown, h)) none) = _
  rw [e, Option.bind_some]
  exact if_pos ok
@[simp] theorem o2_ix_ref : o2S .ix (.ref a) y h = (ixO (h.get a) y).map fun v => (v, h) := by
  show (match h.get a with
    | some (.dK kvs) => (keyOf y).bind fun k => (valA kvs k).map fun v => (v, h)
    | some (.dT kvs) => (tkeyOf y).bind fun k => (valA kvs k).map fun v => (v, h)
    | _ => match y with
      | .int i => (rdL h (.ref a)).bind fun xs => (L2.atI xs i).map fun v => (v, h)
      | _ => none) = _
  rw [rdL_ref]
  rcases h.get a with _ | o
  · cases y <;> rfl
  · cases o with
    | lst xs => cases y <;> rfl
    | dK kvs =>
      show ((keyOf y).bind fun k => (valA kvs k).map fun v => (v, h)) = ((keyOf y).bind fun k => valA kvs k).map fun v => (v, h)
      cases keyOf y <;> rfl
    | dT kvs =>
      show ((tkeyOf y).bind fun k => (valA kvs k).map fun v => (v, h)) = ((tkeyOf y).bind fun k => valA kvs k).map fun v => (v, h)
      cases tkeyOf y <;> rfl
    | ins c fs => cases y <;> rfl
@[simp] theorem o2_ix_tup : o2S .ix (.tup xs) (.int i) h = (L2.atI xs i).map fun v => (v, h) := rfl
@[simp] theorem o2_ix_frl {ns : List Int} : o2S .ix (.frl ns) (.int i) h = (L2.atI ns i).map fun v => (.int v, h) := rfl
@[simp] theorem o2_addr : o2S .add (.ref a) (.ref b) h = addO (h.get a) (h.get b) h := rfl
@[simp] theorem o2_in {x : AV} : o2S .inn x (.ref a) h = (inO (h.get a) x h).map fun b => (.bl b, h) := by
  show (inS x (.ref a) h).map _ = _
  congr 1
  simp only [inS, rdL_ref]
  rcases h.get a with _ | o
  · rfl
  · cases o <;> rfl
@[simp] theorem o2_nin {x : AV} : o2S .notin x (.ref a) h = (inO (h.get a) x h).map fun b => (.bl (!b), h) := by
  show (inS x (.ref a) h).map _ = _
  congr 1
  simp only [inS, rdL_ref]
  rcases h.get a with _ | o
  · rfl
  · cases o <;> rfl
@[simp] theorem rdI_n : rdI none = some none := rfl
@[simp] theorem rdI_s : rdI (some (.int i)) = some (some i) := rfl
@[simp] theorem slS_ref {lo hi} : slS (.ref a) lo hi h = (lstO (h.get a)).map fun xs => (.ref h.n, h.push (.lst (cutA xs lo hi))) := rfl
@[simp] theorem bmOk_app : bmOk .append (.ref a) h = isLstO (h.get a) := by unfold bmOk isLstO; rfl
@[simp] theorem bmOk_ext : bmOk .extend (.ref a) h = isLstO (h.get a) := by unfold bmOk isLstO; rfl
@[simp] theorem bmOk_pop : bmOk .pop (.ref a) h = isLstO (h.get a) := by unfold bmOk isLstO; rfl
@[simp] theorem bmOk_ins : bmOk .insert (.ref a) h = isLstO (h.get a) := by unfold bmOk isLstO; rfl
@[simp] theorem bm_ins : bmS .insert (.ref a) [.int i, y] h = insO (h.get a) a i y h := by
  simp only [bmS, insO]
  all_goals rcases h.get a with _ | o
  all_goals first | rfl | (cases o <;> rfl)
@[simp] theorem enumOf_ref : enumOf (.ref a) h = enO (h.get a) a := by
  simp only [enumOf, enO]
  all_goals rcases h.get a with _ | o
  all_goals first | rfl | (cases o <;> rfl)
@[simp] theorem bm_app : bmS .append (.ref a) [y] h = appO (h.get a) a y h := by
  simp only [bmS, appO]
  all_goals rcases h.get a with _ | o
  all_goals first | rfl | (cases o <;> rfl)
@[simp] theorem bm_ext : bmS .extend (.ref a) [.ref b] h = extO (h.get a) (h.get b) a h := by
  simp only [bmS, extO]
  rcases h.get a with _ | o
  · rfl
  · cases o with
    | lst xs =>
      rcases h.get b with _ | u
      · rfl
      · cases u <;> rfl
    | _ => rfl
@[simp] theorem bm_pop : bmS .pop (.ref a) [] h = popO (h.get a) a h := by
  simp only [bmS, popO]
  all_goals rcases h.get a with _ | o
  all_goals first | rfl | (cases o <;> rfl)
@[simp] theorem bm_popi : bmS .pop (.ref a) [.int i] h = popIO (h.get a) a i h := by
  simp only [bmS, popIO]
  all_goals rcases h.get a with _ | o
  all_goals first | rfl | (cases o <;> rfl)
@[simp] theorem setS_ref : setS (.ref a) y v h = setO (h.get a) a y v h := by
  simp only [setS, setO]
  all_goals rcases h.get a with _ | o
  all_goals first | rfl | (cases o <;> rfl)
@[simp] theorem setF_ref {fa : Nat → Nat → Bool} {f : Nat} : setF fa (.ref a) f v h = setFO (h.get a) fa a f v h := by
  simp only [setF, setFO]
  all_goals rcases h.get a with _ | o
  all_goals first | rfl | (cases o <;> rfl)
@[simp] theorem augS_add : augS .add (.int i) (.int j) = some (i + j) := rfl
@[simp] theorem augS_sub : augS .sub (.int i) (.int j) = some (i - j) := rfl
@[simp] theorem keyOf_int : keyOf (.int i) = some (.inl i) := rfl
@[simp] theorem keyAV_i : keyAV (.inl i) = .int i := rfl
@[simp] theorem tkey_2 : tkeyOf (.tup [.int i, .int j]) = some [.inl i, .inl j] := rfl
@[simp] theorem tkey_3 {k : Int} : tkeyOf (.tup [.int i, .int j, .int k]) = some [.inl i, .inl j, .inl k] := rfl
@[simp] theorem putN_nil {f : Nat} : putN f v [] = [(f, v)] := rfl
@[simp] theorem putN_cons {f g : Nat} {u : AV} {r} : putN f v ((g, u) :: r) = if g = f then (f, v) :: r else (g, u) :: putN f v r := rfl
@[simp] theorem shows_int : shows (.int i) = decide (i.natAbs.log2 < 1920) := rfl
@[simp] theorem mkFs_nil {acc} : mkFs h acc [] [] = some (acc, h) := rfl
@[simp] theorem mkFs_cons {acc f r} : mkFs h acc ((f, false) :: r) (v :: vs) = if shows v then mkFs h ((f, v) :: acc) r vs else none := rfl
end
/-! ### targets -/
section
variable {τ : Frame} {v : AV} {vs : List AV} {i : Nat} {ts : Ts} {t : T}
@[simp] theorem asgT_nm : asgT (.nm i) v τ = if i < τ.length then some (τ.set i (some v)) else none := by rw [asgT]
@[simp] theorem asgT_tp : asgT (.tp ts) (.tup vs) τ = asgTs ts vs τ := by rw [asgT]
@[simp] theorem asgTs_nil : asgTs .nil [] τ = some τ := by rw [asgTs]
@[simp] theorem asgTs_cons : asgTs (.cons t ts) (v :: vs) τ = (asgT t v τ).bind fun τ' => asgTs ts vs τ' := by rw [asgTs]
@[simp] theorem slots_nm : T.slots (.nm i) = [i] := by rw [T.slots]
@[simp] theorem slots_tp : T.slots (.tp ts) = ts.slots := by rw [T.slots]
@[simp] theorem slots_nil : Ts.slots .nil = [] := by rw [Ts.slots]
@[simp] theorem slots_cons : Ts.slots (.cons t ts) = t.slots ++ ts.slots := by rw [Ts.slots]
@[simp] theorem wipe_nil : wipeA τ [] = τ := rfl
@[simp] theorem wipe_cons {vs : List Nat} : wipeA τ (i :: vs) = (wipeA τ vs).set i none := rfl
end
section
variable {G : PG} {τ : Frame} {h : AH} {X : Nat → List (Nat × AV) → AH → Prop} {Qi : List AV × Watch → AH → Prop}
@[simp ↓] theorem w_enum {a} : RW (evalIt G (.enum a) τ h) Qi X = RW (evalE G a τ h) (fun x h1 => VW (enumOf x h1) fun p => Qi p h1) X := by
  rw [evalIt, RW_bind]
  refine RW_ext fun _ _ => ?_
  rw [RW_ofO, OW_mapO]
theorem enumA_map {α : Type} (f : α → AV) : ∀ (l : List α) (i : Nat), enumA i (l.map f) = (l.zipIdx i).map fun p => .tup [.int (p.2 : Nat), f p.1]
  | [], _ => rfl
  | x :: r, i => by
    rw [List.map_cons, List.zipIdx_cons, List.map_cons]
    show AV.tup [.int (i : Nat), f x] :: enumA (i + 1) (r.map f) = _
    rw [enumA_map f r (i + 1)]
end
/-! ### loops -/
def loopK (J : Frame → AH → Prop) (K : Fl → Frame → AH → Prop) : Fl → Frame → AH → Prop
  | .nx, τ, h => J τ h
  | .ct, τ, h => J τ h
  | .bk, τ, h => K .nx τ h
  | .rt v, τ, h => K (.rt v) τ h
section
variable {J : Frame → AH → Prop} {K : Fl → Frame → AH → Prop} {τ : Frame} {h : AH} {v : AV} {X : Nat → List (Nat × AV) → Frame → AH → Prop}
@[simp] theorem loopK_nx : loopK J K .nx τ h = J τ h := rfl
@[simp] theorem loopK_ct : loopK J K .ct τ h = J τ h := rfl
@[simp] theorem loopK_bk : loopK J K .bk τ h = K .nx τ h := rfl
@[simp] theorem loopK_rt : loopK J K (.rt v) τ h = K (.rt v) τ h := rfl
@[simp] theorem still_nil : Still [] h := fun _ q => nomatch q
@[simp] theorem still_one {a : Nat} {o : AO} : Still [(a, o)] h ↔ h.get a = some o := by simp [Still]
theorem for_rule {α : Type} {w : Watch} {step : AV → Frame → AH → SR} (f : α → AV) (xs : List α) (I : List α → List α → Frame → AH → Prop) (h0 : I [] xs τ h)
    (st : ∀ d x r τ h, d ++ x :: r = xs → I d (x :: r) τ h → Still w h ∧ SW (step (f x) τ h) (loopK (I (d ++ [x]) r) K) X)
    (en : ∀ τ h, I xs [] τ h → Still w h ∧ K .nx τ h) : SW (forGo w step (xs.map f) τ h) K X := by
  classical
  have gen : ∀ (r d : List α) (τ : Frame) (h : AH), d ++ r = xs → I d r τ h → SW (forGo w step (r.map f) τ h) K X := by
    intro r
    induction r with
    | nil =>
      intro d τ h e i
      rw [List.append_nil] at e
      subst e
      obtain ⟨z1, z2⟩ := en τ h i
      show SW (if Still w h then _ else _) K X
      rw [if_pos z1]
      exact z2
    | cons x r ih =>
      intro d τ h e i
      obtain ⟨z1, z2⟩ := st d x r τ h e i
      show SW (if Still w h then match step (f x) τ h with
        | .ok .nx τ' h' => forGo w step (r.map f) τ' h'
        | .ok .ct τ' h' => forGo w step (r.map f) τ' h'
        | .ok .bk τ' h' => .ok .nx τ' h'
        | r => r
        else _) K X
      rw [if_pos z1]
      revert z2
      cases step (f x) τ h with
      | ok fl τ' h' =>
        cases fl with
        | nx => exact fun z => ih (d ++ [x]) τ' h' (by simp [← e]) z
        | ct => exact fun z => ih (d ++ [x]) τ' h' (by simp [← e]) z
        | bk => exact fun z => z
        | rt v => exact fun z => z
      | exc c fs τ h => exact fun z => z
      | bad => exact fun z => z.elim
  exact gen xs [] τ h rfl h0
theorem upTo_map : ∀ (n : Nat) (lo : Int), upTo lo n = (List.range n).map fun (i : Nat) => .int (lo + i)
  | 0, _ => rfl
  | n + 1, lo => by
    rw [List.range_succ_eq_map, List.map_cons, List.map_map]
    show AV.int lo :: upTo (lo + 1) n = _
    rw [upTo_map n (lo + 1)]
    congr 1
    · simp
    · refine List.map_congr_left fun i _ => ?_
      show AV.int _ = AV.int _
      congr 1
      show lo + 1 + (i : Int) = lo + ((i + 1 : Nat) : Int)
      omega
theorem for_range {step : AV → Frame → AH → SR} {lo : Int} {n : Nat} (I : Nat → Frame → AH → Prop) (h0 : I 0 τ h)
    (st : ∀ (i : Nat) τ h, i < n → I i τ h → SW (step (.int (lo + i)) τ h) (loopK (I (i + 1)) K) X)
    (en : ∀ τ h, I n τ h → K .nx τ h) : SW (forGo [] step (upTo lo n) τ h) K X := by
  rw [upTo_map]
  refine for_rule (w := []) (fun (i : Nat) => AV.int (lo + i)) (List.range n) (fun d r τ h => I d.length τ h) h0 (fun d x r τ h e i => ⟨still_nil, ?_⟩) fun τ h i => ⟨still_nil, en τ h (by simpa using i)⟩
  have hx : x = d.length := by
    have := congrArg (fun l => l[d.length]?) e
    simp at this
    have hl := congrArg List.length e
    simp at hl
    rw [List.getElem?_range (by omega)] at this
    have := Option.some.inj this
    omega
  have hd : d.length < n := by
    have := congrArg List.length e
    simp at this
    omega
  subst hx
  have z := st d.length τ h hd i
  have e2 : (fun τ h => I (d ++ [d.length]).length τ h) = I (d.length + 1) := by simp
  show SW _ (loopK (fun τ h => I (d ++ [d.length]).length τ h) K) X
  rw [e2]
  exact z
theorem for_range0 {step : AV → Frame → AH → SR} {n : Nat} (I : Nat → Frame → AH → Prop) (h0 : I 0 τ h)
    (st : ∀ (i : Nat) τ h, i < n → I i τ h → SW (step (.int i) τ h) (loopK (I (i + 1)) K) X)
    (en : ∀ τ h, I n τ h → K .nx τ h) : SW (forGo [] step (upTo 0 n) τ h) K X := for_range I h0 (fun i τ h l z => by simpa using st i τ h l z) en
theorem lc_rule {α : Type} {w : Watch} {step : AV → AH → Res (Option AV)} {Q : List AV → AH → Prop} (f : α → AV) (xs : List α) (I : List α → List AV → AH → Prop) (h0 : I [] [] h)
    (st : ∀ d x r acc h, d ++ x :: r = xs → I d acc h → Still w h ∧ acc.length < sizeLine ∧ RW (step (f x) h) (fun o h1 => I (d ++ [x]) (acc ++ o.toList) h1) noX)
    (en : ∀ acc h, I xs acc h → Still w h ∧ Q acc h) : LW (lcGo w step (xs.map f) [] h) Q := by
  classical
  have gen : ∀ (r d : List α) (acc : List AV) (h : AH), d ++ r = xs → I d acc h → LW (lcGo w step (r.map f) acc h) Q := by
    intro r
    induction r with
    | nil =>
      intro d acc h e i
      rw [List.append_nil] at e
      subst e
      obtain ⟨z1, z2⟩ := en acc h i
      show LW (if Still w h then _ else _) Q
      rw [if_pos z1]
      exact z2
    | cons x r ih =>
      intro d acc h e i
      obtain ⟨z1, z3, z2⟩ := st d x r acc h e i
      show LW (if Still w h then (step (f x) h).bind fun o h1 => match o with
        | none => lcGo w step (r.map f) acc h1
        | some y => if acc.length < sizeLine then lcGo w step (r.map f) (acc ++ [y]) h1 else .bad
        else _) Q
      rw [if_pos z1]
      revert z2
      cases step (f x) h with
      | ok o h1 =>
        cases o with
        | none => exact fun z => ih (d ++ [x]) acc h1 (by simp [← e]) (by simpa using z)
        | some y =>
          intro z
          show LW (if acc.length < sizeLine then _ else _) Q
          rw [if_pos z3]
          exact ih (d ++ [x]) (acc ++ [y]) h1 (by simp [← e]) (by simpa using z)
      | exc c fs h => exact fun z => z.elim
      | bad => exact fun z => z.elim
  exact gen xs [] [] h rfl h0
end
section
variable {G : PG} {t : T} {cnd : OE} {elt : E} {τ : Frame} {h : AH} {v : AV} {Q : Option AV → AH → Prop} {X : Nat → List (Nat × AV) → AH → Prop}
@[simp ↓] theorem w_lcStep : RW (lcStep G t cnd elt τ v h) Q X = VW (asgT t v (wipeA τ t.slots)) fun τ' => RW (evalC G cnd τ' h) (fun b h' => BW b (RW (evalE G elt τ' h') (fun y h2 => Q (some y) h2) X) (Q none h')) X := by
  unfold lcStep
  rcases asgT t v (wipeA τ t.slots) with _ | τ'
  · rfl
  · show RW _ Q X = RW _ _ X
    rw [RW_bind]
    refine RW_ext fun b h' => ?_
    cases b
    · rfl
    · show RW ((evalE G elt τ' h').bind _) Q X = RW _ _ X
      rw [RW_bind]
      rfl
end
section
variable {G : PG} {τ : Frame} {h : AH} {K : Fl → Frame → AH → Prop} {X : Nat → List (Nat × AV) → Frame → AH → Prop} {s : S} {r : Ss}
theorem cut2 {sr : SR} {r : Frame → AH → Prop} (R : Frame → AH → Prop) (H1 : SW sr (thenK R K) X) (H2 : ∀ τ h, R τ h → r τ h) : SW sr (thenK r K) X := by
  refine SW_mono H1 (fun f τ h q => ?_) fun _ _ _ _ q => q
  cases f with
  | nx => exact H2 τ h q
  | _ => exact q
/-- what holds between a statement and the rest -/
theorem cut (R : Frame → AH → Prop) (H1 : SW (exec G s τ h) (thenK R K) X) (H2 : ∀ τ h, R τ h → SW (execs G r τ h) K X) : SW (execs G (.cons s r) τ h) K X := by
  rw [s_cons]
  refine SW_mono H1 (fun f τ h q => ?_) fun _ _ _ _ q => q
  cases f with
  | nx => exact H2 τ h q
  | _ => exact q
end
theorem BWp {t : Bool} {A B : Prop} : BW t A B = ((t = true → A) ∧ (t = false → B)) := by cases t <;> simp
theorem abs1 {x : Int} : ((if x < 0 then -x else x) = 1) = (x = 1 ∨ x = -1) := by
  apply propext
  split <;> omega
section
variable {G : PG} {τ : Frame} {h : AH} {K : Fl → Frame → AH → Prop} {X : Nat → List (Nat × AV) → Frame → AH → Prop} {c : E} {a b : Ss}
/-- a test that only looks -/
theorem ite_pure (P P' : Prop) (H : RW (evalE G c τ h) (fun x h1 => h1 = h ∧ ((truth x h = some true ∧ P) ∨ (truth x h = some false ∧ P'))) noX) (Ha : P → SW (execs G a τ h) K X) (Hb : P' → SW (execs G b τ h) K X) : SW (exec G (.ite c a b) τ h) K X := by
  rw [s_ite]
  refine RW_mono H (fun x h1 ⟨e, q⟩ => ?_) fun _ _ _ q => q.elim
  subst e
  rcases q with ⟨e, p⟩ | ⟨e, p⟩
  · rw [e, trW_s]
    exact Ha p
  · rw [e, trW_s]
    exact Hb p
end
theorem atI_nat {α : Type} {xs : List α} {i : Nat} (h : i < xs.length) : L2.atI xs (i : Int) = some xs[i] := by
  unfold L2.atI L2.ixN
  rw [if_pos (by omega), if_pos (by omega)]
  show xs[((i : Int)).toNat]? = _
  simp [h]
theorem atI_ok {α : Type} {xs : List α} {i : Int} (h0 : 0 ≤ i) (h1 : i < xs.length) : ∃ x, x ∈ xs ∧ xs[i.toNat]? = some x ∧ L2.atI xs i = some x := by
  have hl : i.toNat < xs.length := by omega
  refine ⟨xs[i.toNat], List.getElem_mem _, List.getElem?_eq_getElem hl, ?_⟩
  have := atI_nat hl
  rwa [Int.toNat_of_nonneg h0] at this
@[simp] theorem atI_0 {α : Type} {a : α} {l : List α} : L2.atI (a :: l) 0 = some a := atI_nat (xs := a :: l) (i := 0) (by simp)
@[simp] theorem atI_1 {α : Type} {a b : α} {l : List α} : L2.atI (a :: b :: l) 1 = some b := atI_nat (xs := a :: b :: l) (i := 1) (by simp)
@[simp] theorem atI_2 {α : Type} {a b c : α} {l : List α} : L2.atI (a :: b :: c :: l) 2 = some c := atI_nat (xs := a :: b :: c :: l) (i := 2) (by simp)
@[simp] theorem atI_3 {α : Type} {a b c d : α} {l : List α} : L2.atI (a :: b :: c :: d :: l) 3 = some d := atI_nat (xs := a :: b :: c :: d :: l) (i := 3) (by simp)
@[simp] theorem atI_4 {α : Type} {a b c d e : α} {l : List α} : L2.atI (a :: b :: c :: d :: e :: l) 4 = some e := atI_nat (xs := a :: b :: c :: d :: e :: l) (i := 4) (by simp)
theorem atI_map {α β : Type} (f : α → β) {xs : List α} {i : Int} (h0 : 0 ≤ i) (h1 : i < xs.length) : ∃ x, x ∈ xs ∧ xs[i.toNat]? = some x ∧ L2.atI (xs.map f) i = some (f x) := by
  obtain ⟨x, hm, e, _⟩ := atI_ok h0 h1
  obtain ⟨y, _, e2, e3⟩ := atI_ok (xs := xs.map f) h0 (by simpa using h1)
  refine ⟨x, hm, e, ?_⟩
  rw [e3, ← e2, List.getElem?_map, e]
  rfl
theorem ixN_ok {n : Nat} {i : Int} (h0 : 0 ≤ i) (h1 : i < n) : L2.ixN n i = some i.toNat := by
  unfold L2.ixN
  rw [if_pos h0, if_pos h1]
@[simp] theorem get_push_eq {h : AH} {a : Nat} {o : AO} (e : (a == h.n) = true) : (h.push o).get a = some o := by
  have := eq_of_beq e
  rw [this]
  exact AH.get_push_new
@[simp] theorem sizeLine_eq : sizeLine = 16777216 := rfl
/-- a frame with known slots at its head -/
structure Hd (pre : List (Option AV)) (sz : Nat) (τ : Frame) : Prop where
  ex : ∃ rest : List (Option AV), τ = pre ++ rest ∧ rest.length = sz
theorem Hd.of {pre rest : List (Option AV)} {sz : Nat} {τ : Frame} (e : τ = pre ++ rest) (h : rest.length = sz) : Hd pre sz τ := ⟨rest, e, h⟩
/-- `simp` does not look inside -/
def Bx (P : Prop) (_ : Tg P := ⟨⟩) : Prop := P
theorem Bx.mk {P : Prop} (h : P) : Bx P := h
/-- a frame that is known -/
structure Tq (τ t : Frame) : Prop where
  eq : τ = t
theorem rest1 {l : List (Option AV)} (h : l.length = 1) : ∃ a, l = [a] := by
  match l, h with
  | [a], _ => exact ⟨a, rfl⟩
theorem rest2 {l : List (Option AV)} (h : l.length = 2) : ∃ a b, l = [a, b] := by
  match l, h with
  | [a, b], _ => exact ⟨a, b, rfl⟩
theorem rest3 {l : List (Option AV)} (h : l.length = 3) : ∃ a b c, l = [a, b, c] := by
  match l, h with
  | [a, b, c], _ => exact ⟨a, b, c, rfl⟩
theorem rest4 {l : List (Option AV)} (h : l.length = 4) : ∃ a b c d, l = [a, b, c, d] := by
  match l, h with
  | [a, b, c, d], _ => exact ⟨a, b, c, d, rfl⟩
theorem rest5 {l : List (Option AV)} (h : l.length = 5) : ∃ a b c d e, l = [a, b, c, d, e] := by
  match l, h with
  | [a, b, c, d, e], _ => exact ⟨a, b, c, d, e, rfl⟩
theorem rest6 {l : List (Option AV)} (h : l.length = 6) : ∃ a b c d e f, l = [a, b, c, d, e, f] := by
  match l, h with
  | [a, b, c, d, e, f], _ => exact ⟨a, b, c, d, e, f, rfl⟩
theorem rest7 {l : List (Option AV)} (h : l.length = 7) : ∃ a b c d e f g, l = [a, b, c, d, e, f, g] := by
  match l, h with
  | [a, b, c, d, e, f, g], _ => exact ⟨a, b, c, d, e, f, g, rfl⟩
theorem rest8 {l : List (Option AV)} (h : l.length = 8) : ∃ a b c d e f g i, l = [a, b, c, d, e, f, g, i] := by
  match l, h with
  | [a, b, c, d, e, f, g, i], _ => exact ⟨a, b, c, d, e, f, g, i, rfl⟩
/-! ### what a call leaves as it was -/
structure Fr (S : List Nat) (h h' : AH) : Prop where
  le : h.n ≤ h'.n
  eq : ∀ a, a < h.n → a ∉ S → h'.get a = h.get a
section
variable {S S' : List Nat} {h h' h2 : AH} {a : Nat} {o u : AO}
theorem Fr.refl : Fr S h h := ⟨Nat.le_refl _, fun _ _ _ => rfl⟩
theorem Fr.get (F : Fr S h h') (e : h.get a = some o) (ne : a ∉ S) : h'.get a = some o := (F.eq a (AH.get_lt e) ne).trans e
theorem Fr.get0 (F : Fr [] h h') (e : h.get a = some o) : h'.get a = some o := F.get e (by simp)
theorem Fr.trans (F : Fr S h h') (F' : Fr S h' h2) : Fr S h h2 := ⟨Nat.le_trans F.le F'.le, fun a l ne => (F'.eq a (Nat.lt_of_lt_of_le l F.le) ne).trans (F.eq a l ne)⟩
/-- what came new may be changed -/
theorem Fr.trans2 (F : Fr S h h') (F' : Fr S' h' h2) (q : ∀ a ∈ S', a < h.n → a ∈ S) : Fr S h h2 := ⟨Nat.le_trans F.le F'.le, fun a l ne => (F'.eq a (Nat.lt_of_lt_of_le l F.le) fun z => ne (q a z l)).trans (F.eq a l ne)⟩
theorem Fr.mono (F : Fr S h h') (q : ∀ a ∈ S, a < h.n → a ∈ S') : Fr S' h h' := ⟨F.le, fun a l ne => F.eq a l fun z => ne (q a z l)⟩
theorem Fr.push : Fr S h (h.push o) := ⟨Nat.le_succ _, fun a l _ => AH.get_push_ne (Nat.ne_of_lt l)⟩
theorem Fr.put (q : a < h.n → a ∈ S) : Fr S h (h.put a o) := ⟨Nat.le_refl _, fun b l ne => AH.get_put_ne fun z => ne (z ▸ q (z ▸ l))⟩
theorem AH.put_put : (h.put a o).put a u = h.put a u := by
  unfold AH.put
  congr 1
  funext b
  by_cases e : b = a <;> simp [e]
end
end Mi
set_option Elab.async false
set_option maxRecDepth 100000
set_option maxHeartbeats 4000000
/-! MiSrt: sorting by two ints at the head. -/
namespace Mi
open PySem
section
variable {α β : Type}
def insB (lt : α → α → Bool) (x : α) : List α → List α
  | [] => [x]
  | y :: r => if lt y x then y :: insB lt x r else x :: y :: r
def srtB (lt : α → α → Bool) : List α → List α
  | [] => []
  | x :: r => insB lt x (srtB lt r)
theorem insB_perm (lt : α → α → Bool) (x : α) : ∀ l : List α, (insB lt x l).Perm (x :: l)
  | [] => List.Perm.refl _
  | y :: r => by
    show (if lt y x then y :: insB lt x r else x :: y :: r).Perm _
    split
    · exact ((insB_perm lt x r).cons y).trans (List.Perm.swap x y r)
    · exact List.Perm.refl _
theorem srtB_perm (lt : α → α → Bool) : ∀ l : List α, (srtB lt l).Perm l
  | [] => List.Perm.refl _
  | x :: r => (insB_perm lt x (srtB lt r)).trans ((srtB_perm lt r).cons x)
theorem insB_map (lt : β → β → Bool) (g : α → β) (x : α) : ∀ l : List α, insB lt (g x) (l.map g) = (insB (fun a b => lt (g a) (g b)) x l).map g
  | [] => rfl
  | y :: r => by
    show (if lt (g y) (g x) then g y :: insB lt (g x) (r.map g) else g x :: g y :: r.map g) = (if lt (g y) (g x) then y :: insB _ x r else x :: y :: r).map g
    rw [insB_map lt g x r]
    split <;> rfl
theorem srtB_map (lt : β → β → Bool) (g : α → β) : ∀ l : List α, srtB lt (l.map g) = (srtB (fun a b => lt (g a) (g b)) l).map g
  | [] => rfl
  | x :: r => by
    show insB lt (g x) (srtB lt (r.map g)) = (insB _ x (srtB _ r)).map g
    rw [srtB_map lt g r, insB_map]
theorem insB_congr {lt lt' : α → α → Bool} {x : α} : ∀ {l : List α}, (∀ y ∈ l, lt y x = lt' y x) → insB lt x l = insB lt' x l
  | [], _ => rfl
  | y :: r, h => by
    show (if lt y x then y :: insB lt x r else x :: y :: r) = (if lt' y x then y :: insB lt' x r else x :: y :: r)
    rw [h y List.mem_cons_self, insB_congr fun z hz => h z (List.mem_cons_of_mem _ hz)]
theorem srtB_congr {lt lt' : α → α → Bool} : ∀ {l : List α}, l.Pairwise (fun a b => lt b a = lt' b a) → srtB lt l = srtB lt' l
  | [], _ => rfl
  | x :: r, h => by
    obtain ⟨h1, h2⟩ := List.pairwise_cons.mp h
    show insB lt x (srtB lt r) = insB lt' x (srtB lt' r)
    rw [srtB_congr h2]
    exact insB_congr fun y hy => h1 y ((srtB_perm lt' r).mem_iff.mp hy)
def insK' : SK × AV → List (SK × AV) → List (SK × AV) := insB fun a b => ltK a.1 b.1
theorem insK_eq (x : SK × AV) : ∀ l, insK x l = insB (fun a b => ltK a.1 b.1) x l
  | [] => rfl
  | y :: r => by
    show (if ltK y.1 x.1 then y :: insK x r else x :: y :: r) = _
    rw [insK_eq x r]
    rfl
theorem srtK_eq : ∀ l, srtK l = srtB (fun a b : SK × AV => ltK a.1 b.1) l
  | [] => rfl
  | x :: r => by
    show insK x (srtK r) = _
    rw [srtK_eq r, insK_eq]
    rfl
theorem mapO_map {γ : Type} {f : β → Option γ} {g : α → β} {k : α → γ} : ∀ {l : List α}, (∀ x ∈ l, f (g x) = some (k x)) → mapO f (l.map g) = some (l.map k)
  | [], _ => rfl
  | x :: r, h => by
    show ((f (g x)).bind fun d => (mapO f (r.map g)).map fun ds => d :: ds) = _
    rw [h x List.mem_cons_self, mapO_map fun z hz => h z (List.mem_cons_of_mem _ hz)]
    rfl
theorem sortA_map (f : α → AV) (kf : α → SK) {xs : List α} (hk : ∀ x ∈ xs, keyK (f x) = some (kf x)) (ht : (∀ x, isTupA (f x) = true) ∨ ∀ x, isIntA (f x) = true) (hc : ∀ a ∈ xs, ∀ b ∈ xs, cmpK (kf a) (kf b) = true) :
    sortA (xs.map f) = some ((srtB (fun a b => ltK (kf a) (kf b)) xs).map f) := by
  unfold sortA
  have h1 : ((xs.map f).all isIntA || (xs.map f).all isTupA) = true := by
    rcases ht with h | h
    · rw [Bool.or_eq_true]
      exact .inr (List.all_eq_true.mpr fun y hy => by
        obtain ⟨x, _, rfl⟩ := List.mem_map.mp hy
        exact h x)
    · rw [Bool.or_eq_true]
      exact .inl (List.all_eq_true.mpr fun y hy => by
        obtain ⟨x, _, rfl⟩ := List.mem_map.mp hy
        exact h x)
  rw [if_pos h1, mapO_map hk]
  have h2 : ((xs.map kf).all fun a => (xs.map kf).all fun b => cmpK a b) = true := by
    simp only [List.all_eq_true, List.mem_map]
    rintro _ ⟨a, ha, rfl⟩ _ ⟨b, hb, rfl⟩
    exact hc a ha b hb
  show (if _ then _ else _) = _
  rw [if_pos h2, srtK_eq]
  have h3 : (xs.map kf).zip (xs.map f) = xs.map fun x => (kf x, f x) := by
    rw [List.zip_map']
  rw [h3, srtB_map, List.map_map]
  rfl
/-! two ints at the head, different for different items -/
def ltP (a b : Int × Int) : Prop := a.1 < b.1 ∨ (a.1 = b.1 ∧ a.2 < b.2)
instance ltP_dec (a b : Int × Int) : Decidable (ltP a b) := inferInstanceAs (Decidable (_ ∨ _))
theorem ltP.trans {a b c : Int × Int} (h : ltP a b) (g : ltP b c) : ltP a c := by
  unfold ltP at *
  omega
theorem ltP.ne {a b : Int × Int} (h : ltP a b) : a ≠ b := fun e => by
  subst e
  unfold ltP at h
  omega
theorem ltP.asymm {a b : Int × Int} (h : ltP a b) : ¬ltP b a := by
  unfold ltP at *
  omega
theorem ltP.tri {a b : Int × Int} (h : a ≠ b) (g : ¬ltP a b) : ltP b a := by
  have : a.1 ≠ b.1 ∨ a.2 ≠ b.2 := by
    rcases a with ⟨a, a'⟩
    rcases b with ⟨b, b'⟩
    by_cases e : a = b
    · subst e
      exact .inr fun (e : a' = b') => h (by rw [e])
    · exact .inl e
  unfold ltP at *
  omega
def ltQ (kp : α → Int × Int) : α → α → Bool := fun a b => decide (ltP (kp a) (kp b))
def hdK (p : Int × Int) (r : SK) : SK := (0, p.1) :: (0, p.2) :: r
theorem ltK_hd {p q : Int × Int} {r s : SK} (ne : p ≠ q) : ltK (hdK p r) (hdK q s) = decide (ltP p q) := by
  rcases p with ⟨a, b⟩
  rcases q with ⟨c, d⟩
  show (if ((0 : Int), a) = (0, c) then (if ((0 : Int), b) = (0, d) then ltK r s else decide _) else decide _) = decide (a < c ∨ (a = c ∧ b < d))
  by_cases e : a = c
  · subst e
    have : b ≠ d := fun e => ne (by rw [e])
    simp [this]
  · simp [e]
theorem cmpK_refl : ∀ a : SK, cmpK a a = true
  | [] => rfl
  | x :: r => by
    show (if x = x then cmpK r r else _) = true
    rw [if_pos rfl, cmpK_refl r]
theorem cmpK_hd {p q : Int × Int} {r s : SK} (ne : p ≠ q) : cmpK (hdK p r) (hdK q s) = true := by
  rcases p with ⟨a, b⟩
  rcases q with ⟨c, d⟩
  show (if ((0 : Int), a) = (0, c) then (if ((0 : Int), b) = (0, d) then cmpK r s else decide _) else decide _) = true
  by_cases e : a = c
  · subst e
    have : b ≠ d := fun e => ne (by rw [e])
    simp [this]
  · simp [e]
/-- no two items have the same two ints -/
def Dst (kp : α → Int × Int) (xs : List α) : Prop := xs.Pairwise fun a b => kp a ≠ kp b
def Asc (kp : α → Int × Int) (xs : List α) : Prop := xs.Pairwise fun a b => ltP (kp a) (kp b)
theorem Asc.dst {kp : α → Int × Int} {xs : List α} (h : Asc kp xs) : Dst kp xs := h.imp fun h => h.ne
theorem Dst.perm {kp : α → Int × Int} {xs ys : List α} (h : Dst kp xs) (p : xs.Perm ys) : Dst kp ys := (p.pairwise_iff fun h => Ne.symm h).mp h
theorem dst_mem {kp : α → Int × Int} : ∀ {xs : List α}, Dst kp xs → ∀ {a b : α}, a ∈ xs → b ∈ xs → kp a = kp b → a = b
  | x :: r, h, a, b, ha, hb, e => by
    obtain ⟨h1, h2⟩ := List.pairwise_cons.mp h
    rcases List.mem_cons.mp ha with ea | ha'
    · rcases List.mem_cons.mp hb with eb | hb'
      · rw [ea, eb]
      · subst ea
        exact absurd e (h1 b hb')
    · rcases List.mem_cons.mp hb with eb | hb'
      · subst eb
        exact absurd e.symm (h1 a ha')
      · exact dst_mem h2 ha' hb' e
theorem insB_asc {kp : α → Int × Int} {x : α} : ∀ {l : List α}, Asc kp l → (∀ y ∈ l, kp y ≠ kp x) → Asc kp (insB (ltQ kp) x l)
  | [], _, _ => List.pairwise_singleton _ _
  | y :: r, h, d => by
    obtain ⟨h1, h2⟩ := List.pairwise_cons.mp h
    show Asc kp (if ltQ kp y x then y :: insB (ltQ kp) x r else x :: y :: r)
    split
    · rename_i q
      refine List.pairwise_cons.mpr ⟨fun z hz => ?_, insB_asc h2 fun z hz => d z (List.mem_cons_of_mem _ hz)⟩
      rcases List.mem_cons.mp ((insB_perm (ltQ kp) x r).mem_iff.mp hz) with rfl | hz
      · exact of_decide_eq_true q
      · exact h1 z hz
    · rename_i q
      have lt : ltP (kp x) (kp y) := ltP.tri (d y List.mem_cons_self) fun z => q (decide_eq_true z)
      refine List.pairwise_cons.mpr ⟨fun z hz => ?_, h⟩
      rcases List.mem_cons.mp hz with rfl | hz
      · exact lt
      · exact lt.trans (h1 z hz)
theorem srtB_asc {kp : α → Int × Int} : ∀ {l : List α}, Dst kp l → Asc kp (srtB (ltQ kp) l)
  | [], _ => List.Pairwise.nil
  | x :: r, h => by
    obtain ⟨h1, h2⟩ := List.pairwise_cons.mp h
    exact insB_asc (srtB_asc h2) fun y hy => (h1 y ((srtB_perm _ r).mem_iff.mp hy)).symm
theorem asc_unique {kp : α → Int × Int} : ∀ {l m : List α}, Asc kp l → Asc kp m → l.Perm m → l = m
  | [], m, _, _, p => (p.nil_eq).symm ▸ rfl
  | x :: r, [], _, _, p => absurd p.length_eq (by simp)
  | x :: r, y :: q, h, g, p => by
    obtain ⟨h1, h2⟩ := List.pairwise_cons.mp h
    obtain ⟨g1, g2⟩ := List.pairwise_cons.mp g
    have e : x = y := by
      rcases List.mem_cons.mp (p.mem_iff.mp List.mem_cons_self) with e | hx
      · exact e
      · rcases List.mem_cons.mp (p.mem_iff.mpr List.mem_cons_self) with e | hy
        · exact e.symm
        · exact absurd (g1 x hx) (h1 y hy).asymm
    subst e
    rw [asc_unique h2 g2 p.cons_inv]
theorem sortA_hd (f : α → AV) (kp : α → Int × Int) (rs : α → SK) {xs : List α} (hk : ∀ x ∈ xs, keyK (f x) = some (hdK (kp x) (rs x))) (ht : ∀ x, isTupA (f x) = true) (d : Dst kp xs) :
    sortA (xs.map f) = some ((srtB (ltQ kp) xs).map f) := by
  rw [sortA_map f (fun x => hdK (kp x) (rs x)) hk (.inl ht) fun a ha b hb => by
    by_cases e : kp a = kp b
    · rw [dst_mem d ha hb e]
      exact cmpK_refl _
    · exact cmpK_hd e]
  congr 2
  refine srtB_congr (d.imp fun h => ?_)
  exact ltK_hd h.symm
/-- sorting by the two ints, of the items or of what they become -/
theorem srt_map {kp : α → Int × Int} {kq : β → Int × Int} (g : α → β) (e : ∀ x, kq (g x) = kp x) (l : List α) : srtB (ltQ kq) (l.map g) = (srtB (ltQ kp) l).map g := by
  rw [srtB_map]
  congr 1
  have : (fun a b => ltQ kq (g a) (g b)) = ltQ kp := by
    funext a b
    unfold ltQ
    simp only [e]
  rw [this]
end
end Mi
/-! The codes of law k02 that no earlier law has: made by gen.py. -/
namespace Cd
open PySem Mi
/-- _wall -/
def b0_1 : Ss := (.cons .pass .nil)
def c0 : Ss := (.cons (.whl (.con (.bl true)) b0_1) .nil)
def i0 : FI := ⟨1, 1, c0⟩
/-- check_box -/
def c1 : Ss := (.cons (.ite (.o1 .not (.chn .le .lt (.con (.int 0)) (.var 1) (.var 0))) (.cons (.rais 2 (.cons (.var 1) .nil)) .nil) .nil) .nil)
def i1 : FI := ⟨2, 2, c1⟩
/-- checked_wires -/
def b2_1 : Ss := (.cons (.expr (.call 1 (.cons (.var 0) (.cons (.var 3) .nil)))) (.cons (.expr (.call 1 (.cons (.var 0) (.cons (.var 4) .nil)))) (.cons (.ite (.or_ (.o2 .eq (.var 3) (.var 4)) (.or_ (.o2 .lt (.var 5) (.con (.int 1))) (.o2 .inn (.tup (.cons (.var 3) (.cons (.var 4) .nil))) (.var 2)))) (.cons (.rais 3 (.cons (.var 3) (.cons (.var 4) .nil))) .nil) .nil) (.cons (.ite (.and_ (.o1 .notN (.var 6)) (.o2 .lt (.var 6) (.var 5))) (.cons (.rais 3 (.cons (.var 3) (.cons (.var 4) .nil))) .nil) .nil) (.cons (.asgS (.var 2) (.tup (.cons (.var 3) (.cons (.var 4) .nil))) (.tup (.cons (.var 5) (.cons (.var 6) .nil)))) .nil)))))
def c2 : Ss := (.cons (.asg (.nm 2) (.dnew true)) (.cons (.for_ (.tp (.cons (.nm 3) (.cons (.nm 4) (.cons (.nm 5) (.cons (.nm 6) .nil))))) (.of (.var 1)) b2_1) (.cons (.ret (.var 2)) .nil)))
def i2 : FI := ⟨2, 7, c2⟩
/-- checked_bounds -/
def b3_1 : Ss := (.cons (.expr (.call 1 (.cons (.var 0) (.cons (.var 3) .nil)))) (.cons (.expr (.call 1 (.cons (.var 0) (.cons (.var 4) .nil)))) (.cons (.ite (.or_ (.o2 .eq (.var 3) (.var 4)) (.or_ (.o2 .lt (.var 5) (.con (.int 0))) (.o2 .inn (.tup (.cons (.var 3) (.cons (.var 4) .nil))) (.var 2)))) (.cons (.rais 4 (.cons (.var 3) (.cons (.var 4) .nil))) .nil) .nil) (.cons (.asgS (.var 2) (.tup (.cons (.var 3) (.cons (.var 4) .nil))) (.var 5)) .nil))))
def c3 : Ss := (.cons (.asg (.nm 2) (.dnew true)) (.cons (.for_ (.tp (.cons (.nm 3) (.cons (.nm 4) (.cons (.nm 5) .nil)))) (.of (.var 1)) b3_1) (.cons (.ret (.var 2)) .nil)))
def i3 : FI := ⟨2, 6, c3⟩
/-- ascending_wires -/
def b4_1 : Ss := (.cons (.asg (.tp (.cons (.nm 4) (.cons (.nm 5) .nil))) (.o2 .ix (.var 0) (.tup (.cons (.var 2) (.cons (.var 3) .nil))))) (.cons (.expr (.bm .append (.var 1) (.cons (.tup (.cons (.var 2) (.cons (.var 3) (.cons (.var 4) (.cons (.var 5) .nil))))) .nil))) .nil))
def c4 : Ss := (.cons (.asg (.nm 1) (.lst .nil)) (.cons (.for_ (.tp (.cons (.nm 2) (.cons (.nm 3) .nil))) (.of (.o1 .sorted (.o1 .list (.var 0)))) b4_1) (.cons (.ret (.var 1)) .nil)))
def i4 : FI := ⟨1, 6, c4⟩
/-- Line.__init__ -/
def c5 : Ss := (.cons (.ite (.o2 .lt (.var 1) (.con (.int 1))) (.cons (.rais 1 (.cons (.var 1) .nil)) .nil) .nil) (.cons (.asgF (.var 0) 8 (.var 1)) (.cons (.asgF (.var 0) 7 (.call 2 (.cons (.var 1) (.cons (.var 2) .nil)))) (.cons (.asgF (.var 0) 6 (.call 4 (.cons (.o1 (.fld 7) (.var 0)) .nil))) (.cons (.asg (.nm 4) (.call 3 (.cons (.var 1) (.cons (.var 3) .nil)))) (.cons (.asgF (.var 0) 5 (.lc (.tp (.cons (.nm 5) (.cons (.nm 6) .nil))) (.of (.o1 .sorted (.o1 .list (.var 4)))) .non (.tup (.cons (.var 5) (.cons (.var 6) (.cons (.o2 .ix (.var 4) (.tup (.cons (.var 5) (.cons (.var 6) .nil)))) .nil)))))) .nil))))))
def i5 : FI := ⟨4, 7, c5⟩
/-- Line.wires -/
def c6 : Ss := (.cons (.ret (.o1 .list (.o1 (.fld 6) (.var 0)))) .nil)
def i6 : FI := ⟨1, 1, c6⟩
/-- Line.bounds -/
def c7 : Ss := (.cons (.ret (.o1 .list (.o1 (.fld 5) (.var 0)))) .nil)
def i7 : FI := ⟨1, 1, c7⟩
/-- Line.wire -/
def c8 : Ss := (.cons (.expr (.call 1 (.cons (.o1 (.fld 8) (.var 0)) (.cons (.var 1) .nil)))) (.cons (.expr (.call 1 (.cons (.o1 (.fld 8) (.var 0)) (.cons (.var 2) .nil)))) (.cons (.ite (.o2 .notin (.tup (.cons (.var 1) (.cons (.var 2) .nil))) (.o1 (.fld 7) (.var 0))) (.cons (.rais 5 (.cons (.var 1) (.cons (.var 2) .nil))) .nil) .nil) (.cons (.ret (.o2 .ix (.o1 (.fld 7) (.var 0)) (.tup (.cons (.var 1) (.cons (.var 2) .nil))))) .nil))))
def i8 : FI := ⟨3, 3, c8⟩
/-- Line.sources -/
def c9 : Ss := (.cons (.expr (.call 0 (.cons (.con (.int 0)) .nil))) .nil)
def i9 : FI := ⟨2, 2, c9⟩
/-- Line.targets -/
def c10 : Ss := (.cons (.expr (.call 0 (.cons (.con (.int 1)) .nil))) .nil)
def i10 : FI := ⟨2, 2, c10⟩
/-- _law_is_int -/
def c11 : Ss := (.cons (.ret (.and_ (.o1 (.isi [.kint]) (.var 0)) (.o1 .not (.o1 (.isi [.kbool]) (.var 0))))) .nil)
def i11 : FI := ⟨1, 1, c11⟩
/-- _law_cell -/
def c12 : Ss := (.cons (.ite (.o2 .lt (.var 1) (.o1 .len (.var 0))) (.cons (.ret (.o2 .ix (.var 0) (.var 1))) .nil) .nil) (.cons (.ret (.o2 .add (.o2 .mul (.con (.int 131)) (.var 1)) (.con (.int 7)))) .nil))
def i12 : FI := ⟨2, 2, c12⟩
/-- _law_pen -/
def c13 : Ss := (.cons (.asg (.nm 2) (.call 12 (.cons (.var 0) (.cons (.var 1) .nil)))) (.cons (.ret (.lst (.cons (.var 2) (.cons (.con (.int 0)) (.cons (.var 2) .nil))))) .nil))
def i13 : FI := ⟨2, 3, c13⟩
/-- _law_take -/
def c14 : Ss := (.cons (.asgS (.var 0) (.con (.int 1)) (.o2 .add (.o2 .ix (.var 0) (.con (.int 1))) (.con (.int 1)))) (.cons (.ite (.and_ (.o2 .ge (.o2 .ix (.var 0) (.con (.int 0))) (.o2 .pow (.con (.int 10)) (.con (.int 18)))) (.o2 .gt (.o2 .ix (.var 0) (.con (.int 2))) (.con (.int 0)))) (.cons (.asg (.nm 3) (.o2 .mod (.o1 .int (.o2 .ix (.var 0) (.con (.int 2)))) (.var 1))) (.cons (.asgS (.var 0) (.con (.int 2)) (.o2 .fdiv (.o1 .int (.o2 .ix (.var 0) (.con (.int 2)))) (.var 1))) (.cons (.ret (.var 3)) .nil))) .nil) (.cons (.asg (.nm 2) (.o2 .mod (.o1 .int (.o2 .add (.o2 .add (.o2 .ix (.var 0) (.con (.int 0))) (.o2 .mul (.con (.int 7919)) (.o2 .ix (.var 0) (.con (.int 1))))) (.con (.int 13)))) (.con (.int 2147483647)))) (.cons (.asg (.nm 2) (.o2 .mod (.o1 .int (.o2 .mul (.var 2) (.o2 .add (.var 2) (.con (.int 48271))))) (.con (.int 2147483629)))) (.cons (.asg (.nm 2) (.o2 .mod (.o1 .int (.o2 .add (.o2 .mul (.var 2) (.o2 .add (.var 2) (.con (.int 69621)))) (.o2 .mul (.con (.int 31)) (.o2 .ix (.var 0) (.con (.int 1)))))) (.con (.int 2147483647)))) (.cons (.ret (.o2 .mod (.o1 .int (.o2 .fdiv (.var 2) (.con (.int 9)))) (.var 1))) .nil))))))
def i14 : FI := ⟨2, 4, c14⟩
/-- _law_size -/
def c15 : Ss := (.cons (.ret (.o2 .ix (.lst (.cons (.con (.int 2)) (.cons (.con (.int 3)) (.cons (.con (.int 2)) (.cons (.con (.int 3)) (.cons (.con (.int 2)) (.cons (.con (.int 3)) (.cons (.con (.int 4)) (.cons (.con (.int 1)) .nil))))))))) (.call 14 (.cons (.var 0) (.cons (.con (.int 8)) .nil))))) .nil)
def i15 : FI := ⟨1, 1, c15⟩
/-- _law_wires -/
def b16_1 : Ss := (.cons (.asg (.nm 5) (.call 14 (.cons (.var 0) (.cons (.con (.int 8)) .nil)))) (.cons (.asg (.nm 6) (.o2 .eq (.o1 .abs (.o2 .sub (.var 3) (.var 4))) (.con (.int 1)))) (.cons (.ite (.or_ (.and_ (.var 6) (.o2 .lt (.var 5) (.con (.int 7)))) (.and_ (.o2 .ne (.var 3) (.var 4)) (.o2 .eq (.var 5) (.con (.int 7))))) (.cons (.asg (.nm 7) (.o2 .add (.con (.int 1)) (.call 14 (.cons (.var 0) (.cons (.con (.int 2)) .nil))))) (.cons (.asg (.nm 8) (.o2 .add (.var 7) (.call 14 (.cons (.var 0) (.cons (.con (.int 4)) .nil))))) (.cons (.ite (.o2 .eq (.var 5) (.con (.int 6))) (.cons (.asg (.nm 8) (.con .non)) .nil) .nil) (.cons (.expr (.bm .append (.var 2) (.cons (.tup (.cons (.var 3) (.cons (.var 4) (.cons (.var 7) (.cons (.var 8) .nil))))) .nil))) .nil)))) .nil) .nil)))
def b16_2 : Ss := (.cons (.for_ (.nm 4) (.rng1 (.var 1)) b16_1) .nil)
def c16 : Ss := (.cons (.asg (.nm 2) (.lst .nil)) (.cons (.for_ (.nm 3) (.rng1 (.var 1)) b16_2) (.cons (.ret (.var 2)) .nil)))
def i16 : FI := ⟨2, 9, c16⟩
/-- _law_told -/
def b17_1 : Ss := (.cons (.asg (.nm 4) (.call 14 (.cons (.var 0) (.cons (.var 1) .nil)))) (.cons (.asg (.nm 5) (.call 14 (.cons (.var 0) (.cons (.var 1) .nil)))) (.cons (.asg (.nm 6) (.lc (.nm 7) (.of (.var 2)) .non (.tup (.cons (.o2 .ix (.var 7) (.con (.int 0))) (.cons (.o2 .ix (.var 7) (.con (.int 1))) .nil))))) (.cons (.ite (.and_ (.o2 .ne (.var 4) (.var 5)) (.o2 .notin (.tup (.cons (.var 4) (.cons (.var 5) .nil))) (.var 6))) (.cons (.expr (.bm .append (.var 2) (.cons (.tup (.cons (.var 4) (.cons (.var 5) (.cons (.call 14 (.cons (.var 0) (.cons (.con (.int 5)) .nil))) .nil)))) .nil))) .nil) .nil) .nil))))
def c17 : Ss := (.cons (.asg (.nm 2) (.lst .nil)) (.cons (.for_ (.nm 3) (.rng1 (.call 14 (.cons (.var 0) (.cons (.con (.int 3)) .nil)))) b17_1) (.cons (.ret (.o1 .sorted (.var 2))) .nil)))
def i17 : FI := ⟨2, 8, c17⟩
/-- _law_plan_wires -/
def b18_1 : Ss := (.cons (.ite (.o2 .eq (.o1 .abs (.o2 .sub (.var 3) (.var 4))) (.con (.int 1))) (.cons (.asg (.nm 5) (.o2 .add (.con (.int 1)) (.call 14 (.cons (.var 0) (.cons (.con (.int 2)) .nil))))) (.cons (.expr (.bm .append (.var 2) (.cons (.tup (.cons (.var 3) (.cons (.var 4) (.cons (.var 5) (.cons (.o2 .add (.var 5) (.call 14 (.cons (.var 0) (.cons (.con (.int 3)) .nil)))) .nil))))) .nil))) .nil)) .nil) .nil)
def b18_2 : Ss := (.cons (.for_ (.nm 4) (.rng1 (.var 1)) b18_1) .nil)
def c18 : Ss := (.cons (.asg (.nm 2) (.lst .nil)) (.cons (.for_ (.nm 3) (.rng1 (.var 1)) b18_2) (.cons (.ret (.var 2)) .nil)))
def i18 : FI := ⟨2, 6, c18⟩
/-- _law_same -/
def b19_1 : Ss := (.cons (.ite (.o1 .not (.call 19 (.cons (.o2 .ix (.var 0) (.var 2)) (.cons (.o2 .ix (.var 1) (.var 2)) .nil)))) (.cons (.ret (.con (.bl false))) .nil) .nil) .nil)
def c19 : Ss := (.cons (.ite (.o1 .isN (.var 1)) (.cons (.ret (.o1 .isN (.var 0))) .nil) .nil) (.cons (.ite (.o1 (.isi [.kbool]) (.var 1)) (.cons (.ret (.and_ (.o1 (.isi [.kbool]) (.var 0)) (.o2 .eq (.var 0) (.var 1)))) .nil) .nil) (.cons (.ite (.o1 (.isi [.kint]) (.var 1)) (.cons (.ret (.and_ (.call 11 (.cons (.var 0) .nil)) (.o2 .eq (.var 0) (.var 1)))) .nil) .nil) (.cons (.ite (.o1 (.isi [.kstr]) (.var 1)) (.cons (.ret (.and_ (.o1 (.isi [.kstr]) (.var 0)) (.o2 .eq (.var 0) (.var 1)))) .nil) .nil) (.cons (.ite (.and_ (.o1 (.isi [.klist]) (.var 1)) (.o1 .not (.o1 (.isi [.klist]) (.var 0)))) (.cons (.ret (.con (.bl false))) .nil) .nil) (.cons (.ite (.and_ (.o1 (.isi [.ktup]) (.var 1)) (.o1 .not (.o1 (.isi [.ktup]) (.var 0)))) (.cons (.ret (.con (.bl false))) .nil) .nil) (.cons (.ite (.o2 .ne (.o1 .len (.var 0)) (.o1 .len (.var 1))) (.cons (.ret (.con (.bl false))) .nil) .nil) (.cons (.for_ (.nm 2) (.rng1 (.o1 .len (.var 1))) b19_1) (.cons (.ret (.con (.bl true))) .nil)))))))))
def i19 : FI := ⟨2, 3, c19⟩
/-- _law_mixed -/
def b20_1 : Ss := (.cons (.expr (.bm .append (.var 3) (.cons (.bm .pop (.var 2) (.cons (.call 14 (.cons (.var 0) (.cons (.o1 .len (.var 2)) .nil))) .nil)) .nil))) .nil)
def c20 : Ss := (.cons (.asg (.nm 2) (.o1 .list (.var 1))) (.cons (.asg (.nm 3) (.lst .nil)) (.cons (.for_ (.nm 4) (.rng1 (.o1 .len (.var 1))) b20_1) (.cons (.ret (.var 3)) .nil))))
def i20 : FI := ⟨2, 5, c20⟩
/-- _law_wide_hours -/
def b21_1 : Ss := (.cons (.asg (.nm 6) (.o2 .add (.con (.int 1)) (.call 14 (.cons (.var 0) (.cons (.var 2) .nil))))) (.cons (.ite (.o1 .notN (.var 7)) (.cons (.asg (.nm 7) (.o2 .add (.var 6) (.call 14 (.cons (.var 0) (.cons (.var 2) .nil))))) .nil) .nil) (.cons (.expr (.bm .append (.var 3) (.cons (.tup (.cons (.var 4) (.cons (.var 5) (.cons (.var 6) (.cons (.var 7) .nil))))) .nil))) .nil)))
def c21 : Ss := (.cons (.asg (.nm 2) (.o2 .ix (.lst (.cons (.con (.int 20)) (.cons (.o2 .pow (.con (.int 10)) (.con (.int 5))) (.cons (.o2 .mul (.con (.int 4)) (.o2 .pow (.con (.int 10)) (.con (.int 8)))) .nil)))) (.call 14 (.cons (.var 0) (.cons (.con (.int 3)) .nil))))) (.cons (.asg (.nm 3) (.lst .nil)) (.cons (.for_ (.tp (.cons (.nm 4) (.cons (.nm 5) (.cons (.nm 6) (.cons (.nm 7) .nil))))) (.of (.var 1)) b21_1) (.cons (.ret (.var 3)) .nil))))
def i21 : FI := ⟨2, 8, c21⟩
/-- _law_ring_wires -/
def b22_1 : Ss := (.cons (.asg (.nm 4) (.o2 .add (.var 3) (.con (.int 1)))) (.cons (.ite (.o2 .eq (.var 4) (.var 1)) (.cons (.asg (.nm 4) (.con (.int 0))) .nil) .nil) (.cons (.ite (.o2 .ne (.var 4) (.var 3)) (.cons (.asg (.nm 5) (.o2 .add (.con (.int 1)) (.call 14 (.cons (.var 0) (.cons (.con (.int 3)) .nil))))) (.cons (.expr (.bm .append (.var 2) (.cons (.tup (.cons (.var 3) (.cons (.var 4) (.cons (.var 5) (.cons (.o2 .add (.var 5) (.call 14 (.cons (.var 0) (.cons (.con (.int 3)) .nil)))) .nil))))) .nil))) .nil)) .nil) .nil)))
def c22 : Ss := (.cons (.asg (.nm 2) (.lst .nil)) (.cons (.for_ (.nm 3) (.rng1 (.var 1)) b22_1) (.cons (.ret (.var 2)) .nil)))
def i22 : FI := ⟨2, 6, c22⟩
/-- _law_line -/
def c23 : Ss := (.cons (.asg (.nm 1) (.call 13 (.cons (.var 0) (.cons (.con (.int 0)) .nil)))) (.cons (.asg (.nm 2) (.call 15 (.cons (.var 1) .nil))) (.cons (.ite (.o2 .eq (.call 14 (.cons (.var 1) (.cons (.con (.int 16)) .nil))) (.con (.int 15))) (.cons (.asg (.nm 2) (.o2 .add (.con (.int 5)) (.call 14 (.cons (.var 1) (.cons (.con (.int 2)) .nil))))) (.cons (.asg (.nm 5) (.call 18 (.cons (.var 1) (.cons (.var 2) .nil)))) .nil)) (.cons (.asg (.nm 5) (.call 16 (.cons (.var 1) (.cons (.var 2) .nil)))) .nil)) (.cons (.asg (.nm 3) (.call 17 (.cons (.call 13 (.cons (.var 0) (.cons (.con (.int 6)) .nil))) (.cons (.var 2) .nil)))) (.cons (.asg (.nm 1) (.call 13 (.cons (.var 0) (.cons (.con (.int 5)) .nil)))) (.cons (.asg (.nm 4) (.call 14 (.cons (.var 1) (.cons (.con (.int 8)) .nil)))) (.cons (.ite (.o2 .eq (.var 4) (.con (.int 0))) (.cons (.asg (.nm 5) (.lst .nil)) .nil) (.cons (.ite (.o2 .lt (.var 4) (.con (.int 3))) (.cons (.asg (.nm 5) (.lc (.nm 6) (.of (.var 5)) (.som (.o2 .gt (.call 14 (.cons (.var 1) (.cons (.con (.int 3)) .nil))) (.con (.int 0)))) (.var 6))) .nil) (.cons (.ite (.o2 .eq (.var 4) (.con (.int 3))) (.cons (.asg (.nm 5) (.call 22 (.cons (.var 1) (.cons (.var 2) .nil)))) .nil) (.cons (.ite (.o2 .eq (.var 4) (.con (.int 4))) (.cons (.asg (.nm 5) (.call 21 (.cons (.var 1) (.cons (.var 5) .nil)))) (.cons (.asg (.nm 3) (.lc (.nm 6) (.of (.var 3)) .non (.tup (.cons (.o2 .ix (.var 6) (.con (.int 0))) (.cons (.o2 .ix (.var 6) (.con (.int 1))) (.cons (.call 14 (.cons (.var 1) (.cons (.o2 .pow (.con (.int 10)) (.con (.int 9))) .nil))) .nil)))))) .nil)) .nil) .nil)) .nil)) .nil)) (.cons (.ret (.tup (.cons (.var 2) (.cons (.var 5) (.cons (.var 3) .nil))))) .nil))))))))
def i23 : FI := ⟨1, 7, c23⟩
/-- _law_bad_box -/
def c24 : Ss := (.cons (.ret (.o2 .ix (.lst (.cons (.o1 .neg (.con (.int 1))) (.cons (.var 1) (.cons (.o2 .add (.var 1) (.con (.int 5))) .nil)))) (.call 14 (.cons (.var 0) (.cons (.con (.int 3)) .nil))))) .nil)
def i24 : FI := ⟨2, 2, c24⟩
/-- _law_crossed -/
def c25 : Ss := (.cons (.asg (.nm 3) (.o1 .list (.var 2))) (.cons (.asg (.nm 4) (.call 14 (.cons (.var 0) (.cons (.o2 .sub (.o1 .len (.var 2)) (.con (.int 1))) .nil)))) (.cons (.asgS (.var 3) (.var 4) (.tup (.cons (.o2 .ix (.o2 .ix (.var 3) (.var 4)) (.con (.int 0))) (.cons (.call 24 (.cons (.var 0) (.cons (.var 1) .nil))) (.cons (.o2 .ix (.o2 .ix (.var 3) (.var 4)) (.con (.int 2))) (.cons (.o2 .ix (.o2 .ix (.var 3) (.var 4)) (.con (.int 3))) .nil)))))) (.cons (.asgS (.var 3) (.o2 .add (.var 4) (.con (.int 1))) (.tup (.cons (.call 24 (.cons (.var 0) (.cons (.var 1) .nil))) (.cons (.o2 .ix (.o2 .ix (.var 3) (.o2 .add (.var 4) (.con (.int 1)))) (.con (.int 1))) (.cons (.o2 .ix (.o2 .ix (.var 3) (.o2 .add (.var 4) (.con (.int 1)))) (.con (.int 2))) (.cons (.o2 .ix (.o2 .ix (.var 3) (.o2 .add (.var 4) (.con (.int 1)))) (.con (.int 3))) .nil)))))) (.cons (.ret (.var 3)) .nil)))))
def i25 : FI := ⟨3, 5, c25⟩
/-- _law_changed_wires -/
def c26 : Ss := (.cons (.ite (.o2 .eq (.o1 .len (.var 2)) (.con (.int 0))) (.cons (.ret (.lst (.cons (.tup (.cons (.con (.int 0)) (.cons (.call 14 (.cons (.var 0) (.cons (.var 1) .nil))) (.cons (.call 14 (.cons (.var 0) (.cons (.con (.int 3)) .nil))) (.cons (.call 14 (.cons (.var 0) (.cons (.con (.int 3)) .nil))) .nil))))) .nil))) .nil) .nil) (.cons (.asg (.nm 3) (.call 14 (.cons (.var 0) (.cons (.o1 .len (.var 2)) .nil)))) (.cons (.asg (.tp (.cons (.nm 5) (.cons (.nm 6) (.cons (.nm 7) (.cons (.nm 8) .nil))))) (.o2 .ix (.var 2) (.var 3))) (.cons (.asg (.nm 4) (.call 14 (.cons (.var 0) (.cons (.con (.int 13)) .nil)))) (.cons (.ite (.and_ (.o2 .eq (.var 4) (.con (.int 12))) (.o2 .gt (.o1 .len (.var 2)) (.con (.int 1)))) (.cons (.ret (.call 25 (.cons (.var 0) (.cons (.var 1) (.cons (.var 2) .nil))))) .nil) .nil) (.cons (.ite (.o2 .lt (.var 4) (.con (.int 2))) (.cons (.asg (.nm 5) (.call 24 (.cons (.var 0) (.cons (.var 1) .nil)))) .nil) (.cons (.ite (.o2 .lt (.var 4) (.con (.int 4))) (.cons (.asg (.nm 6) (.call 24 (.cons (.var 0) (.cons (.var 1) .nil)))) .nil) (.cons (.ite (.o2 .eq (.var 4) (.con (.int 4))) (.cons (.asg (.nm 6) (.var 5)) .nil) (.cons (.ite (.o2 .eq (.var 4) (.con (.int 5))) (.cons (.asg (.nm 7) (.o2 .ix (.lst (.cons (.con (.int 0)) (.cons (.o1 .neg (.con (.int 3))) .nil))) (.call 14 (.cons (.var 0) (.cons (.con (.int 2)) .nil))))) .nil) (.cons (.ite (.o2 .eq (.var 4) (.con (.int 6))) (.cons (.asg (.nm 8) (.o2 .sub (.var 7) (.con (.int 1)))) .nil) (.cons (.ite (.o2 .eq (.var 4) (.con (.int 7))) (.cons (.asg (.nm 8) (.var 7)) .nil) (.cons (.ite (.o2 .eq (.var 4) (.con (.int 8))) (.cons (.asg (.nm 8) (.con .non)) .nil) (.cons (.ite (.o2 .eq (.var 4) (.con (.int 9))) (.cons (.ret (.o2 .add (.o2 .add (.sl (.var 2) .non (.som (.var 3))) (.lst (.cons (.tup (.cons (.var 6) (.cons (.var 5) (.cons (.var 7) (.cons (.var 8) .nil))))) .nil))) (.sl (.var 2) (.som (.o2 .add (.var 3) (.con (.int 1)))) .non))) .nil) (.cons (.asg (.nm 9) (.call 14 (.cons (.var 0) (.cons (.o2 .add (.o1 .len (.var 2)) (.con (.int 1))) .nil)))) (.cons (.ret (.o2 .add (.o2 .add (.sl (.var 2) .non (.som (.var 9))) (.lst (.cons (.tup (.cons (.var 5) (.cons (.var 6) (.cons (.o2 .add (.var 7) (.con (.int 1))) (.cons (.con .non) .nil))))) .nil))) (.sl (.var 2) (.som (.var 9)) .non))) .nil))) .nil)) .nil)) .nil)) .nil)) .nil)) .nil)) .nil)) (.cons (.ret (.o2 .add (.o2 .add (.sl (.var 2) .non (.som (.var 3))) (.lst (.cons (.tup (.cons (.var 5) (.cons (.var 6) (.cons (.var 7) (.cons (.var 8) .nil))))) .nil))) (.sl (.var 2) (.som (.o2 .add (.var 3) (.con (.int 1)))) .non))) .nil)))))))
def i26 : FI := ⟨3, 10, c26⟩
/-- _law_changed_told -/
def c27 : Ss := (.cons (.ite (.o2 .eq (.o1 .len (.var 2)) (.con (.int 0))) (.cons (.ret (.lst (.cons (.tup (.cons (.con (.int 0)) (.cons (.call 14 (.cons (.var 0) (.cons (.var 1) .nil))) (.cons (.o2 .sub (.call 14 (.cons (.var 0) (.cons (.con (.int 3)) .nil))) (.con (.int 1))) .nil)))) .nil))) .nil) .nil) (.cons (.asg (.nm 3) (.call 14 (.cons (.var 0) (.cons (.o1 .len (.var 2)) .nil)))) (.cons (.asg (.tp (.cons (.nm 5) (.cons (.nm 6) (.cons (.nm 7) .nil)))) (.o2 .ix (.var 2) (.var 3))) (.cons (.asg (.nm 4) (.call 14 (.cons (.var 0) (.cons (.con (.int 8)) .nil)))) (.cons (.ite (.o2 .eq (.var 4) (.con (.int 0))) (.cons (.asg (.nm 5) (.call 24 (.cons (.var 0) (.cons (.var 1) .nil)))) .nil) (.cons (.ite (.o2 .eq (.var 4) (.con (.int 1))) (.cons (.asg (.nm 6) (.call 24 (.cons (.var 0) (.cons (.var 1) .nil)))) .nil) (.cons (.ite (.o2 .eq (.var 4) (.con (.int 2))) (.cons (.asg (.nm 6) (.var 5)) .nil) (.cons (.ite (.o2 .eq (.var 4) (.con (.int 3))) (.cons (.asg (.nm 7) (.o2 .ix (.lst (.cons (.o1 .neg (.con (.int 1))) (.cons (.o1 .neg (.con (.int 5))) .nil))) (.call 14 (.cons (.var 0) (.cons (.con (.int 2)) .nil))))) .nil) (.cons (.ite (.o2 .eq (.var 4) (.con (.int 4))) (.cons (.asg (.nm 7) (.con (.int 0))) .nil) (.cons (.ite (.o2 .eq (.var 4) (.con (.int 5))) (.cons (.ret (.o2 .add (.o2 .add (.sl (.var 2) .non (.som (.var 3))) (.lst (.cons (.tup (.cons (.var 6) (.cons (.var 5) (.cons (.var 7) .nil)))) .nil))) (.sl (.var 2) (.som (.var 3)) .non))) .nil) (.cons (.asg (.nm 8) (.call 14 (.cons (.var 0) (.cons (.o2 .add (.o1 .len (.var 2)) (.con (.int 1))) .nil)))) (.cons (.ret (.o2 .add (.o2 .add (.sl (.var 2) .non (.som (.var 8))) (.lst (.cons (.tup (.cons (.var 5) (.cons (.var 6) (.cons (.o2 .add (.var 7) (.con (.int 1))) .nil)))) .nil))) (.sl (.var 2) (.som (.var 8)) .non))) .nil))) .nil)) .nil)) .nil)) .nil)) .nil)) (.cons (.ret (.o2 .add (.o2 .add (.sl (.var 2) .non (.som (.var 3))) (.lst (.cons (.tup (.cons (.var 5) (.cons (.var 6) (.cons (.var 7) .nil)))) .nil))) (.sl (.var 2) (.som (.o2 .add (.var 3) (.con (.int 1)))) .non))) .nil))))))
def i27 : FI := ⟨3, 9, c27⟩
/-- _law_fault -/
def b28_1 : Ss := (.cons (.ite (.or_ (.o2 .lt (.var 8) (.con (.int 0))) (.o2 .ge (.var 8) (.var 0))) (.cons (.ret (.tup (.cons (.con (.str "NoBox")) (.cons (.tup (.cons (.var 8) .nil)) (.cons (.con (.bl true)) .nil))))) .nil) .nil) .nil)
def b28_2 : Ss := (.cons (.for_ (.nm 8) (.of (.lst (.cons (.var 10) (.cons (.var 11) .nil)))) b28_1) (.cons (.ite (.or_ (.o2 .eq (.var 10) (.var 11)) (.or_ (.o2 .lt (.var 12) (.con (.int 0))) (.o2 .inn (.tup (.cons (.var 10) (.cons (.var 11) .nil))) (.var 3)))) (.cons (.ret (.tup (.cons (.con (.str "BadBound")) (.cons (.tup (.cons (.var 10) (.cons (.var 11) .nil))) (.cons (.con (.bl true)) .nil))))) .nil) .nil) (.cons (.expr (.bm .append (.var 3) (.cons (.tup (.cons (.var 10) (.cons (.var 11) .nil))) .nil))) .nil)))
def b28_3 : Ss := (.cons (.ite (.or_ (.o2 .lt (.var 8) (.con (.int 0))) (.o2 .ge (.var 8) (.var 0))) (.cons (.ret (.tup (.cons (.con (.str "NoBox")) (.cons (.tup (.cons (.var 8) .nil)) (.cons (.con (.bl true)) .nil))))) .nil) .nil) .nil)
def b28_4 : Ss := (.cons (.for_ (.nm 8) (.of (.lst (.cons (.var 4) (.cons (.var 5) .nil)))) b28_3) (.cons (.asg (.nm 9) (.and_ (.o1 .notN (.var 7)) (.o2 .lt (.var 7) (.var 6)))) (.cons (.ite (.or_ (.o2 .eq (.var 4) (.var 5)) (.or_ (.o2 .lt (.var 6) (.con (.int 1))) (.or_ (.var 9) (.o2 .inn (.tup (.cons (.var 4) (.cons (.var 5) .nil))) (.var 3))))) (.cons (.ret (.tup (.cons (.con (.str "BadWire")) (.cons (.tup (.cons (.var 4) (.cons (.var 5) .nil))) (.cons (.con (.bl true)) .nil))))) .nil) .nil) (.cons (.expr (.bm .append (.var 3) (.cons (.tup (.cons (.var 4) (.cons (.var 5) .nil))) .nil))) .nil))))
def c28 : Ss := (.cons (.ite (.o2 .lt (.var 0) (.con (.int 1))) (.cons (.ret (.tup (.cons (.con (.str "BadSize")) (.cons (.tup (.cons (.var 0) .nil)) (.cons (.con (.bl true)) .nil))))) .nil) .nil) (.cons (.asg (.nm 3) (.lst .nil)) (.cons (.for_ (.tp (.cons (.nm 4) (.cons (.nm 5) (.cons (.nm 6) (.cons (.nm 7) .nil))))) (.of (.var 1)) b28_4) (.cons (.asg (.nm 3) (.lst .nil)) (.cons (.for_ (.tp (.cons (.nm 10) (.cons (.nm 11) (.cons (.nm 12) .nil)))) (.of (.var 2)) b28_2) (.cons (.ret (.con .non)) .nil))))))
def i28 : FI := ⟨3, 13, c28⟩
/-- _law_made -/
def c29 : Ss := (.cons (.try_ (.cons (.asg (.nm 4) (.newK 6 0 (.cons (.var 0) (.cons (.var 1) .nil)) (.cons (.var 2) .nil))) .nil) (.cons 1 (some 3) (.cons (.asg (.nm 5) (.and_ (.o1 (.isi [.kcls 0]) (.var 3)) (.o1 .not (.o1 (.isi [.kcls 2, .kcls 3, .kcls 4]) (.var 3))))) (.cons (.ret (.tup (.cons (.con (.str "BadSize")) (.cons (.tup (.cons (.o1 (.fld 8) (.var 3)) .nil)) (.cons (.and_ (.var 5) (.o1 (.isi [.kval]) (.var 3))) .nil))))) .nil)) (.cons 2 (some 3) (.cons (.asg (.nm 5) (.and_ (.o1 (.isi [.kcls 0]) (.var 3)) (.o1 .not (.o1 (.isi [.kcls 1, .kcls 3, .kcls 4]) (.var 3))))) (.cons (.ret (.tup (.cons (.con (.str "NoBox")) (.cons (.tup (.cons (.o1 (.fld 13) (.var 3)) .nil)) (.cons (.and_ (.var 5) (.o1 (.isi [.kval]) (.var 3))) .nil))))) .nil)) (.cons 3 (some 3) (.cons (.asg (.nm 5) (.and_ (.o1 (.isi [.kcls 0]) (.var 3)) (.o1 .not (.o1 (.isi [.kcls 1, .kcls 2, .kcls 4]) (.var 3))))) (.cons (.ret (.tup (.cons (.con (.str "BadWire")) (.cons (.tup (.cons (.o1 (.fld 12) (.var 3)) (.cons (.o1 (.fld 11) (.var 3)) .nil))) (.cons (.and_ (.var 5) (.o1 (.isi [.kval]) (.var 3))) .nil))))) .nil)) (.cons 4 (some 3) (.cons (.asg (.nm 5) (.and_ (.o1 (.isi [.kcls 0]) (.var 3)) (.o1 .not (.o1 (.isi [.kcls 1, .kcls 2, .kcls 3]) (.var 3))))) (.cons (.ret (.tup (.cons (.con (.str "BadBound")) (.cons (.tup (.cons (.o1 (.fld 10) (.var 3)) (.cons (.o1 (.fld 9) (.var 3)) .nil))) (.cons (.and_ (.var 5) (.o1 (.isi [.kval]) (.var 3))) .nil))))) .nil)) .nil))))) (.cons (.ret (.tup (.cons (.con (.str "told")) (.cons (.o1 (.fld 8) (.var 4)) (.cons (.meth 0 (.var 4) .nil) (.cons (.meth 1 (.var 4) .nil) .nil)))))) .nil))
def i29 : FI := ⟨3, 6, c29⟩
/-- _law_keeps_fields -/
def c30 : Ss := (.cons (.asg (.nm 2) (.newx 1 (.cons (.var 0) .nil))) (.cons (.asg (.nm 3) (.newx 2 (.cons (.var 0) .nil))) (.cons (.asg (.nm 4) (.newx 3 (.cons (.var 0) (.cons (.var 1) .nil)))) (.cons (.asg (.nm 5) (.newx 4 (.cons (.var 0) (.cons (.var 1) .nil)))) (.cons (.asg (.nm 6) (.lst (.cons (.o1 (.fld 8) (.var 2)) (.cons (.o1 (.fld 13) (.var 3)) (.cons (.o1 (.fld 12) (.var 4)) (.cons (.o1 (.fld 11) (.var 4)) (.cons (.o1 (.fld 10) (.var 5)) (.cons (.o1 (.fld 9) (.var 5)) .nil)))))))) (.cons (.ret (.call 19 (.cons (.var 6) (.cons (.lst (.cons (.var 0) (.cons (.var 0) (.cons (.var 0) (.cons (.var 1) (.cons (.var 0) (.cons (.var 1) .nil))))))) .nil)))) .nil))))))
def i30 : FI := ⟨2, 7, c30⟩
/-- _law_refused -/
def c31 : Ss := (.cons (.try_ (.cons (.expr (.newK 6 0 (.cons (.var 0) (.cons (.var 1) .nil)) (.cons (.var 2) .nil))) .nil) (.cons 0 (some 3) (.cons (.ret (.o1 (.isi [.kval]) (.var 3))) .nil) .nil)) (.cons (.ret (.con (.bl false))) .nil))
def i31 : FI := ⟨3, 4, c31⟩
/-- law -/
def b32_1 : Ss := (.cons (.ite (.o2 .gt (.call 14 (.cons (.var 1) (.cons (.con (.int 3)) .nil))) (.con (.int 0))) (.cons (.asg (.nm 2) (.call 26 (.cons (.var 1) (.cons (.var 10) (.cons (.var 2) .nil))))) .nil) (.cons (.asg (.nm 3) (.call 27 (.cons (.var 1) (.cons (.var 10) (.cons (.var 3) .nil))))) .nil)) .nil)
def c32 : Ss := (.cons (.asg (.tp (.cons (.nm 10) (.cons (.nm 2) (.cons (.nm 3) .nil)))) (.call 23 (.cons (.var 0) .nil))) (.cons (.asg (.nm 1) (.call 13 (.cons (.var 0) (.cons (.con (.int 8)) .nil)))) (.cons (.asg (.nm 2) (.call 20 (.cons (.var 1) (.cons (.var 2) .nil)))) (.cons (.asg (.nm 3) (.call 20 (.cons (.var 1) (.cons (.var 3) .nil)))) (.cons (.asg (.nm 4) (.tup (.cons (.con (.str "told")) (.cons (.var 10) (.cons (.o1 .sorted (.var 2)) (.cons (.o1 .sorted (.var 3)) .nil)))))) (.cons (.asg (.nm 5) (.lst (.cons (.var 10) (.cons (.o1 .list (.var 2)) (.cons (.o1 .list (.var 3)) .nil))))) (.cons (.asg (.nm 1) (.call 13 (.cons (.var 0) (.cons (.con (.int 9)) .nil)))) (.cons (.for_ (.nm 6) (.rng1 (.o2 .ix (.lst (.cons (.con (.int 0)) (.cons (.con (.int 1)) (.cons (.con (.int 2)) (.cons (.con (.int 2)) .nil))))) (.call 14 (.cons (.var 1) (.cons (.con (.int 4)) .nil))))) b32_1) (.cons (.ite (.o2 .eq (.call 14 (.cons (.var 1) (.cons (.con (.int 10)) .nil))) (.con (.int 9))) (.cons (.asg (.nm 10) (.o2 .ix (.lst (.cons (.con (.int 0)) (.cons (.o1 .neg (.con (.int 2))) .nil))) (.call 14 (.cons (.var 1) (.cons (.con (.int 2)) .nil))))) .nil) .nil) (.cons (.asg (.nm 7) (.call 28 (.cons (.var 10) (.cons (.var 2) (.cons (.var 3) .nil))))) (.cons (.asg (.nm 8) (.o1 .notN (.var 7))) (.cons (.ite (.o1 .isN (.var 7)) (.cons (.asg (.nm 7) (.tup (.cons (.con (.str "told")) (.cons (.var 10) (.cons (.o1 .sorted (.var 2)) (.cons (.o1 .sorted (.var 3)) .nil)))))) .nil) .nil) (.cons (.asg (.nm 9) (.lst (.cons (.o1 .list (.var 2)) (.cons (.o1 .list (.var 3)) .nil)))) (.cons (.ite (.o1 .not (.call 19 (.cons (.call 29 (.cons (.var 10) (.cons (.o2 .ix (.var 9) (.con (.int 0))) (.cons (.o2 .ix (.var 9) (.con (.int 1))) .nil)))) (.cons (.var 7) .nil)))) (.cons (.ret (.con (.bl false))) .nil) .nil) (.cons (.ite (.o2 .ne (.call 31 (.cons (.var 10) (.cons (.o2 .ix (.var 9) (.con (.int 0))) (.cons (.o1 .tuple (.o2 .ix (.var 9) (.con (.int 1)))) .nil)))) (.var 8)) (.cons (.ret (.con (.bl false))) .nil) .nil) (.cons (.ite (.or_ (.o1 .not (.call 19 (.cons (.var 9) (.cons (.lst (.cons (.var 2) (.cons (.var 3) .nil))) .nil)))) (.o1 .not (.call 30 (.cons (.var 10) (.cons (.o2 .add (.var 10) (.con (.int 3))) .nil))))) (.cons (.ret (.con (.bl false))) .nil) .nil) (.cons (.ret (.call 19 (.cons (.call 29 (.cons (.o2 .ix (.var 5) (.con (.int 0))) (.cons (.o2 .ix (.var 5) (.con (.int 1))) (.cons (.o2 .ix (.var 5) (.con (.int 2))) .nil)))) (.cons (.var 4) .nil)))) .nil)))))))))))))))))
def i32 : FI := ⟨1, 11, c32⟩
end Cd
namespace Tk02
open PySem L2 Mi Cd
def tl : TL where
  fnL := [(0, i0), (1, i1), (2, i2), (3, i3), (4, i4), (5, i5), (6, i6), (7, i7), (8, i8), (9, i9), (10, i10), (11, i11), (12, i12), (13, i13), (14, i14), (15, i15), (16, i16), (17, i17), (18, i18), (19, i19), (20, i20), (21, i21), (22, i22), (23, i23), (24, i24), (25, i25), (26, i26), (27, i27), (28, i28), (29, i29), (30, i30), (31, i31), (32, i32)]
  mtL := [((6, 0), 6), ((6, 1), 7), ((6, 2), 8), ((6, 3), 9), ((6, 4), 10)]
  iniL := [(6, 5)]
  subL := [(0, 0), (1, 1), (1, 0), (2, 2), (2, 0), (3, 3), (3, 0), (4, 4), (4, 0), (5, 5), (5, 0)]
  exfL := [(1, [(8, false)]), (2, [(13, false)]), (3, [(12, false), (11, false)]), (4, [(10, false), (9, false)]), (5, [(12, false), (11, false)])]
  faL := [(6, 5), (6, 6), (6, 7), (6, 8)]
  icL := [6]
  fxL := [(1, 8), (2, 13), (3, 12), (3, 11), (4, 10), (4, 9), (5, 12), (5, 11)]
  exL := [0, 1, 2, 3, 4, 5]
  shpL := [(0, 3, 1, [.arg 0, .arg 1, .arg 2, .arg 3])]
  sokL := [(5, 0)]
  plnL := [0, 1, 2, 3, 4, 6, 7, 11, 12, 13, 14, 15, 16, 17, 18, 19, 20, 21, 22, 23, 24, 25, 26, 27, 28, 29, 30, 31, 32]
  fuel := 1000
def B : Tb := tl.tb
theorem B_fn (f : Nat) : B.fn f = tl.fnL.lookup f := rfl
theorem fn0 : B.fn 0 = some i0 := rfl
theorem fn1 : B.fn 1 = some i1 := rfl
theorem fn2 : B.fn 2 = some i2 := rfl
theorem fn3 : B.fn 3 = some i3 := rfl
theorem fn4 : B.fn 4 = some i4 := rfl
theorem fn5 : B.fn 5 = some i5 := rfl
theorem fn6 : B.fn 6 = some i6 := rfl
theorem fn7 : B.fn 7 = some i7 := rfl
theorem fn8 : B.fn 8 = some i8 := rfl
theorem fn9 : B.fn 9 = some i9 := rfl
theorem fn10 : B.fn 10 = some i10 := rfl
theorem fn11 : B.fn 11 = some i11 := rfl
theorem fn12 : B.fn 12 = some i12 := rfl
theorem fn13 : B.fn 13 = some i13 := rfl
theorem fn14 : B.fn 14 = some i14 := rfl
theorem fn15 : B.fn 15 = some i15 := rfl
theorem fn16 : B.fn 16 = some i16 := rfl
theorem fn17 : B.fn 17 = some i17 := rfl
theorem fn18 : B.fn 18 = some i18 := rfl
theorem fn19 : B.fn 19 = some i19 := rfl
theorem fn20 : B.fn 20 = some i20 := rfl
theorem fn21 : B.fn 21 = some i21 := rfl
theorem fn22 : B.fn 22 = some i22 := rfl
theorem fn23 : B.fn 23 = some i23 := rfl
theorem fn24 : B.fn 24 = some i24 := rfl
theorem fn25 : B.fn 25 = some i25 := rfl
theorem fn26 : B.fn 26 = some i26 := rfl
theorem fn27 : B.fn 27 = some i27 := rfl
theorem fn28 : B.fn 28 = some i28 := rfl
theorem fn29 : B.fn 29 = some i29 := rfl
theorem fn30 : B.fn 30 = some i30 := rfl
theorem fn31 : B.fn 31 = some i31 := rfl
theorem fn32 : B.fn 32 = some i32 := rfl
theorem pl0 : B.pln 0 = true := rfl
theorem pl1 : B.pln 1 = true := rfl
theorem pl2 : B.pln 2 = true := rfl
theorem pl3 : B.pln 3 = true := rfl
theorem pl4 : B.pln 4 = true := rfl
theorem pl6 : B.pln 6 = true := rfl
theorem pl7 : B.pln 7 = true := rfl
theorem pl11 : B.pln 11 = true := rfl
theorem pl12 : B.pln 12 = true := rfl
theorem pl13 : B.pln 13 = true := rfl
theorem pl14 : B.pln 14 = true := rfl
theorem pl15 : B.pln 15 = true := rfl
theorem pl16 : B.pln 16 = true := rfl
theorem pl17 : B.pln 17 = true := rfl
theorem pl18 : B.pln 18 = true := rfl
theorem pl19 : B.pln 19 = true := rfl
theorem pl20 : B.pln 20 = true := rfl
theorem pl21 : B.pln 21 = true := rfl
theorem pl22 : B.pln 22 = true := rfl
theorem pl23 : B.pln 23 = true := rfl
theorem pl24 : B.pln 24 = true := rfl
theorem pl25 : B.pln 25 = true := rfl
theorem pl26 : B.pln 26 = true := rfl
theorem pl27 : B.pln 27 = true := rfl
theorem pl28 : B.pln 28 = true := rfl
theorem pl29 : B.pln 29 = true := rfl
theorem pl30 : B.pln 30 = true := rfl
theorem pl31 : B.pln 31 = true := rfl
theorem pl32 : B.pln 32 = true := rfl
@[simp] theorem ex0 : B.ex 0 = true := rfl
@[simp] theorem ex1 : B.ex 1 = true := rfl
@[simp] theorem ex2 : B.ex 2 = true := rfl
@[simp] theorem ex3 : B.ex 3 = true := rfl
@[simp] theorem ex4 : B.ex 4 = true := rfl
@[simp] theorem ex5 : B.ex 5 = true := rfl
@[simp] theorem sub0_0 : B.sub 0 0 = true := rfl
@[simp] theorem sub0_1 : B.sub 0 1 = false := rfl
@[simp] theorem sub0_2 : B.sub 0 2 = false := rfl
@[simp] theorem sub0_3 : B.sub 0 3 = false := rfl
@[simp] theorem sub0_4 : B.sub 0 4 = false := rfl
@[simp] theorem sub0_5 : B.sub 0 5 = false := rfl
@[simp] theorem sub1_0 : B.sub 1 0 = true := rfl
@[simp] theorem sub1_1 : B.sub 1 1 = true := rfl
@[simp] theorem sub1_2 : B.sub 1 2 = false := rfl
@[simp] theorem sub1_3 : B.sub 1 3 = false := rfl
@[simp] theorem sub1_4 : B.sub 1 4 = false := rfl
@[simp] theorem sub1_5 : B.sub 1 5 = false := rfl
@[simp] theorem sub2_0 : B.sub 2 0 = true := rfl
@[simp] theorem sub2_1 : B.sub 2 1 = false := rfl
@[simp] theorem sub2_2 : B.sub 2 2 = true := rfl
@[simp] theorem sub2_3 : B.sub 2 3 = false := rfl
@[simp] theorem sub2_4 : B.sub 2 4 = false := rfl
@[simp] theorem sub2_5 : B.sub 2 5 = false := rfl
@[simp] theorem sub3_0 : B.sub 3 0 = true := rfl
@[simp] theorem sub3_1 : B.sub 3 1 = false := rfl
@[simp] theorem sub3_2 : B.sub 3 2 = false := rfl
@[simp] theorem sub3_3 : B.sub 3 3 = true := rfl
@[simp] theorem sub3_4 : B.sub 3 4 = false := rfl
@[simp] theorem sub3_5 : B.sub 3 5 = false := rfl
@[simp] theorem sub4_0 : B.sub 4 0 = true := rfl
@[simp] theorem sub4_1 : B.sub 4 1 = false := rfl
@[simp] theorem sub4_2 : B.sub 4 2 = false := rfl
@[simp] theorem sub4_3 : B.sub 4 3 = false := rfl
@[simp] theorem sub4_4 : B.sub 4 4 = true := rfl
@[simp] theorem sub4_5 : B.sub 4 5 = false := rfl
@[simp] theorem sub5_0 : B.sub 5 0 = true := rfl
@[simp] theorem sub5_1 : B.sub 5 1 = false := rfl
@[simp] theorem sub5_2 : B.sub 5 2 = false := rfl
@[simp] theorem sub5_3 : B.sub 5 3 = false := rfl
@[simp] theorem sub5_4 : B.sub 5 4 = false := rfl
@[simp] theorem sub5_5 : B.sub 5 5 = true := rfl
@[simp] theorem exf1 : B.exf 1 = some [(8, false)] := rfl
@[simp] theorem fx1_8 : B.fx 1 8 = true := rfl
@[simp] theorem exf2 : B.exf 2 = some [(13, false)] := rfl
@[simp] theorem fx2_13 : B.fx 2 13 = true := rfl
@[simp] theorem exf3 : B.exf 3 = some [(12, false), (11, false)] := rfl
@[simp] theorem fx3_12 : B.fx 3 12 = true := rfl
@[simp] theorem fx3_11 : B.fx 3 11 = true := rfl
@[simp] theorem exf4 : B.exf 4 = some [(10, false), (9, false)] := rfl
@[simp] theorem fx4_10 : B.fx 4 10 = true := rfl
@[simp] theorem fx4_9 : B.fx 4 9 = true := rfl
@[simp] theorem exf5 : B.exf 5 = some [(12, false), (11, false)] := rfl
@[simp] theorem fx5_12 : B.fx 5 12 = true := rfl
@[simp] theorem fx5_11 : B.fx 5 11 = true := rfl
@[simp] theorem fa6_5 : B.fa 6 5 = true := rfl
@[simp] theorem fa6_6 : B.fa 6 6 = true := rfl
@[simp] theorem fa6_7 : B.fa 6 7 = true := rfl
@[simp] theorem fa6_8 : B.fa 6 8 = true := rfl
@[simp] theorem ic6 : B.ic 6 = true := rfl
@[simp] theorem mt6_0 : B.mt 6 0 = some 6 := rfl
@[simp] theorem mt6_1 : B.mt 6 1 = some 7 := rfl
@[simp] theorem mt6_2 : B.mt 6 2 = some 8 := rfl
@[simp] theorem mt6_3 : B.mt 6 3 = some 9 := rfl
@[simp] theorem mt6_4 : B.mt 6 4 = some 10 := rfl
@[simp] theorem ini6 : B.ini 6 = some 5 := rfl
@[simp] theorem shp0 : B.shp 0 = some (3, 1, [.arg 0, .arg 1, .arg 2, .arg 3]) := rfl
@[simp] theorem sok5_0 : B.sok 5 0 = true := rfl
end Tk02
/-! The codes of law k01 that no earlier law has: made by gen.py. -/
namespace Cd
open PySem Mi
/-- Line.sources -/
def c33 : Ss := (.cons (.expr (.call 1 (.cons (.o1 (.fld 8) (.var 0)) (.cons (.var 1) .nil)))) (.cons (.ret (.lc (.tp (.cons (.nm 2) (.cons (.nm 3) (.cons (.nm 4) (.cons (.nm 5) .nil))))) (.of (.o1 (.fld 6) (.var 0))) (.som (.o2 .eq (.var 3) (.var 1))) (.var 2))) .nil))
def i33 : FI := ⟨2, 6, c33⟩
/-- Line.targets -/
def c34 : Ss := (.cons (.expr (.call 1 (.cons (.o1 (.fld 8) (.var 0)) (.cons (.var 1) .nil)))) (.cons (.ret (.lc (.tp (.cons (.nm 2) (.cons (.nm 3) (.cons (.nm 4) (.cons (.nm 5) .nil))))) (.of (.o1 (.fld 6) (.var 0))) (.som (.o2 .eq (.var 2) (.var 1))) (.var 3))) .nil))
def i34 : FI := ⟨2, 6, c34⟩
/-- _law_wire -/
def c35 : Ss := (.cons (.try_ (.cons (.ret (.tup (.cons (.con (.str "told")) (.cons (.meth 2 (.var 0) (.cons (.var 1) (.cons (.var 2) .nil))) .nil)))) .nil) (.cons 2 (some 3) (.cons (.ret (.tup (.cons (.con (.str "NoBox")) (.cons (.tup (.cons (.o1 (.fld 13) (.var 3)) .nil)) (.cons (.and_ (.o1 (.isi [.kcls 0]) (.var 3)) (.o1 .not (.o1 (.isi [.kcls 5]) (.var 3)))) .nil))))) .nil) (.cons 5 (some 3) (.cons (.ret (.tup (.cons (.con (.str "NoWire")) (.cons (.tup (.cons (.o1 (.fld 12) (.var 3)) (.cons (.o1 (.fld 11) (.var 3)) .nil))) (.cons (.and_ (.o1 (.isi [.kcls 0]) (.var 3)) (.o1 .not (.o1 (.isi [.kcls 2]) (.var 3)))) .nil))))) .nil) .nil))) .nil)
def i35 : FI := ⟨3, 4, c35⟩
/-- _law_sources -/
def c36 : Ss := (.cons (.try_ (.cons (.ite (.o2 .eq (.var 1) (.con (.int 0))) (.cons (.ret (.tup (.cons (.con (.str "told")) (.cons (.methK 3 1 (.var 0) .nil (.cons (.var 1) .nil)) .nil)))) .nil) .nil) (.cons (.ret (.tup (.cons (.con (.str "told")) (.cons (.meth 3 (.var 0) (.cons (.var 1) .nil)) .nil)))) .nil)) (.cons 2 (some 2) (.cons (.ret (.tup (.cons (.con (.str "NoBox")) (.cons (.tup (.cons (.o1 (.fld 13) (.var 2)) .nil)) (.cons (.and_ (.o1 (.isi [.kcls 0]) (.var 2)) (.o1 .not (.o1 (.isi [.kcls 5]) (.var 2)))) .nil))))) .nil) .nil)) .nil)
def i36 : FI := ⟨2, 3, c36⟩
/-- _law_targets -/
def c37 : Ss := (.cons (.try_ (.cons (.ite (.o2 .eq (.var 1) (.con (.int 0))) (.cons (.ret (.tup (.cons (.con (.str "told")) (.cons (.methK 4 1 (.var 0) .nil (.cons (.var 1) .nil)) .nil)))) .nil) .nil) (.cons (.ret (.tup (.cons (.con (.str "told")) (.cons (.meth 4 (.var 0) (.cons (.var 1) .nil)) .nil)))) .nil)) (.cons 2 (some 2) (.cons (.ret (.tup (.cons (.con (.str "NoBox")) (.cons (.tup (.cons (.o1 (.fld 13) (.var 2)) .nil)) (.cons (.and_ (.o1 (.isi [.kcls 0]) (.var 2)) (.o1 .not (.o1 (.isi [.kcls 5]) (.var 2)))) .nil))))) .nil) .nil)) .nil)
def i37 : FI := ⟨2, 3, c37⟩
/-- _law_answers -/
def b38_1 : Ss := (.cons (.expr (.bm .append (.var 2) (.cons (.call 35 (.cons (.var 0) (.cons (.var 3) (.cons (.var 4) .nil)))) .nil))) .nil)
def b38_2 : Ss := (.cons (.expr (.bm .append (.var 2) (.cons (.call 36 (.cons (.var 0) (.cons (.var 3) .nil))) .nil))) (.cons (.expr (.bm .append (.var 2) (.cons (.call 37 (.cons (.var 0) (.cons (.var 3) .nil))) .nil))) (.cons (.for_ (.nm 4) (.rng2 (.o1 .neg (.con (.int 1))) (.o2 .add (.var 1) (.con (.int 1)))) b38_1) .nil)))
def c38 : Ss := (.cons (.asg (.nm 2) (.lst (.cons (.o1 (.fld 8) (.var 0)) (.cons (.meth 0 (.var 0) .nil) (.cons (.meth 1 (.var 0) .nil) .nil))))) (.cons (.for_ (.nm 3) (.rng2 (.o1 .neg (.con (.int 1))) (.o2 .add (.var 1) (.con (.int 1)))) b38_2) (.cons (.ret (.var 2)) .nil)))
def i38 : FI := ⟨2, 5, c38⟩
/-- _law_due_wire -/
def b39_1 : Ss := (.cons (.ite (.and_ (.o2 .eq (.var 5) (.var 2)) (.o2 .eq (.var 6) (.var 3))) (.cons (.ret (.tup (.cons (.con (.str "told")) (.cons (.tup (.cons (.var 7) (.cons (.var 8) .nil))) .nil)))) .nil) .nil) .nil)
def b39_2 : Ss := (.cons (.ite (.or_ (.o2 .lt (.var 4) (.con (.int 0))) (.o2 .ge (.var 4) (.var 0))) (.cons (.ret (.tup (.cons (.con (.str "NoBox")) (.cons (.tup (.cons (.var 4) .nil)) (.cons (.con (.bl true)) .nil))))) .nil) .nil) .nil)
def c39 : Ss := (.cons (.for_ (.nm 4) (.of (.lst (.cons (.var 2) (.cons (.var 3) .nil)))) b39_2) (.cons (.for_ (.tp (.cons (.nm 5) (.cons (.nm 6) (.cons (.nm 7) (.cons (.nm 8) .nil))))) (.of (.var 1)) b39_1) (.cons (.ret (.tup (.cons (.con (.str "NoWire")) (.cons (.tup (.cons (.var 2) (.cons (.var 3) .nil))) (.cons (.con (.bl true)) .nil))))) .nil)))
def i39 : FI := ⟨4, 9, c39⟩
/-- _law_due -/
def b40_1 : Ss := (.cons (.expr (.bm .append (.var 3) (.cons (.call 39 (.cons (.var 0) (.cons (.var 1) (.cons (.var 4) (.cons (.var 5) .nil))))) .nil))) .nil)
def b40_2 : Ss := (.cons (.ite (.or_ (.o2 .lt (.var 4) (.con (.int 0))) (.o2 .ge (.var 4) (.var 0))) (.cons (.expr (.bm .append (.var 3) (.cons (.tup (.cons (.con (.str "NoBox")) (.cons (.tup (.cons (.var 4) .nil)) (.cons (.con (.bl true)) .nil)))) .nil))) (.cons (.expr (.bm .append (.var 3) (.cons (.tup (.cons (.con (.str "NoBox")) (.cons (.tup (.cons (.var 4) .nil)) (.cons (.con (.bl true)) .nil)))) .nil))) .nil)) (.cons (.expr (.bm .append (.var 3) (.cons (.tup (.cons (.con (.str "told")) (.cons (.o1 .sorted (.lc (.nm 6) (.of (.var 1)) (.som (.o2 .eq (.o2 .ix (.var 6) (.con (.int 1))) (.var 4))) (.o2 .ix (.var 6) (.con (.int 0))))) .nil))) .nil))) (.cons (.expr (.bm .append (.var 3) (.cons (.tup (.cons (.con (.str "told")) (.cons (.o1 .sorted (.lc (.nm 6) (.of (.var 1)) (.som (.o2 .eq (.o2 .ix (.var 6) (.con (.int 0))) (.var 4))) (.o2 .ix (.var 6) (.con (.int 1))))) .nil))) .nil))) .nil))) (.cons (.for_ (.nm 5) (.rng2 (.o1 .neg (.con (.int 1))) (.o2 .add (.var 0) (.con (.int 1)))) b40_1) .nil))
def c40 : Ss := (.cons (.asg (.nm 3) (.lst (.cons (.var 0) (.cons (.o1 .sorted (.var 1)) (.cons (.o1 .sorted (.var 2)) .nil))))) (.cons (.for_ (.nm 4) (.rng2 (.o1 .neg (.con (.int 1))) (.o2 .add (.var 0) (.con (.int 1)))) b40_2) (.cons (.ret (.var 3)) .nil)))
def i40 : FI := ⟨3, 7, c40⟩
/-- _law_spoil -/
def c41 : Ss := (.cons (.expr (.bm .append (.var 0) (.cons (.tup (.cons (.con (.int 0)) (.cons (.con (.int 0)) (.cons (.con (.int 0)) (.cons (.con (.int 0)) .nil))))) .nil))) (.cons (.asgS (.var 0) (.con (.int 0)) (.tup (.cons (.con (.int 7)) (.cons (.con (.int 7)) (.cons (.con (.int 7)) (.cons (.con (.int 7)) .nil)))))) .nil))
def i41 : FI := ⟨1, 1, c41⟩
/-- _law_made -/
def c42 : Ss := (.cons (.asg (.nm 4) (.call 14 (.cons (.var 0) (.cons (.con (.int 2)) .nil)))) (.cons (.ite (.and_ (.o2 .eq (.var 4) (.con (.int 0))) (.o2 .eq (.o1 .len (.var 3)) (.con (.int 0)))) (.cons (.ret (.newK 6 2 (.cons (.var 1) (.cons (.var 2) .nil)) .nil)) .nil) .nil) (.cons (.ite (.o2 .eq (.var 4) (.con (.int 0))) (.cons (.ret (.newK 6 0 (.cons (.var 1) (.cons (.var 2) .nil)) (.cons (.var 3) .nil))) .nil) .nil) (.cons (.ret (.newK 6 0 (.cons (.var 1) (.cons (.var 2) .nil)) (.cons (.o1 .tuple (.var 3)) .nil))) .nil))))
def i42 : FI := ⟨4, 5, c42⟩
/-- law -/
def b43_1 : Ss := (.cons (.ite (.o1 (.isi [.klist]) (.var 9)) (.cons (.expr (.call 41 (.cons (.var 9) .nil))) .nil) .nil) (.cons (.ite (.and_ (.o1 (.isi [.ktup]) (.var 9)) (.o1 (.isi [.klist]) (.o2 .ix (.var 9) (.con (.int 1))))) (.cons (.expr (.call 41 (.cons (.o2 .ix (.var 9) (.con (.int 1))) .nil))) .nil) .nil) .nil))
def c43 : Ss := (.cons (.asg (.tp (.cons (.nm 11) (.cons (.nm 12) (.cons (.nm 13) .nil)))) (.call 23 (.cons (.var 0) .nil))) (.cons (.asg (.nm 1) (.call 40 (.cons (.var 11) (.cons (.var 12) (.cons (.var 13) .nil))))) (.cons (.asg (.nm 2) (.call 13 (.cons (.var 0) (.cons (.con (.int 8)) .nil)))) (.cons (.asg (.nm 3) (.call 20 (.cons (.var 2) (.cons (.var 12) .nil)))) (.cons (.asg (.nm 4) (.call 20 (.cons (.var 2) (.cons (.var 13) .nil)))) (.cons (.asg (.nm 5) (.lst (.cons (.o1 .list (.var 3)) (.cons (.o1 .list (.var 4)) .nil)))) (.cons (.asg (.nm 6) (.call 42 (.cons (.var 2) (.cons (.var 11) (.cons (.var 3) (.cons (.var 4) .nil)))))) (.cons (.ite (.or_ (.o1 .not (.call 19 (.cons (.var 3) (.cons (.o2 .ix (.var 5) (.con (.int 0))) .nil)))) (.o1 .not (.call 19 (.cons (.var 4) (.cons (.o2 .ix (.var 5) (.con (.int 1))) .nil))))) (.cons (.ret (.con (.bl false))) .nil) .nil) (.cons (.asg (.nm 7) (.call 38 (.cons (.var 6) (.cons (.var 11) .nil)))) (.cons (.ite (.o1 .not (.call 19 (.cons (.var 7) (.cons (.var 1) .nil)))) (.cons (.ret (.con (.bl false))) .nil) .nil) (.cons (.asg (.nm 8) (.o1 .repr (.var 7))) (.cons (.expr (.call 41 (.cons (.var 3) .nil))) (.cons (.expr (.call 41 (.cons (.var 4) .nil))) (.cons (.for_ (.nm 9) (.of (.var 7)) b43_1) (.cons (.asg (.nm 10) (.call 38 (.cons (.var 6) (.cons (.var 11) .nil)))) (.cons (.ret (.and_ (.o2 .eq (.o1 .repr (.var 10)) (.var 8)) (.call 19 (.cons (.var 10) (.cons (.var 1) .nil))))) .nil))))))))))))))))
def i43 : FI := ⟨1, 14, c43⟩
end Cd
namespace Tk01
open PySem L2 Mi Cd
def tl : TL where
  fnL := [(1, i1), (2, i2), (3, i3), (4, i4), (5, i5), (6, i6), (7, i7), (8, i8), (33, i33), (34, i34), (11, i11), (12, i12), (13, i13), (14, i14), (15, i15), (16, i16), (17, i17), (18, i18), (19, i19), (20, i20), (21, i21), (22, i22), (23, i23), (35, i35), (36, i36), (37, i37), (38, i38), (39, i39), (40, i40), (41, i41), (42, i42), (43, i43)]
  mtL := [((6, 0), 6), ((6, 1), 7), ((6, 2), 8), ((6, 3), 33), ((6, 4), 34)]
  iniL := [(6, 5)]
  subL := [(0, 0), (1, 1), (1, 0), (2, 2), (2, 0), (3, 3), (3, 0), (4, 4), (4, 0), (5, 5), (5, 0)]
  exfL := [(1, [(8, false)]), (2, [(13, false)]), (3, [(12, false), (11, false)]), (4, [(10, false), (9, false)]), (5, [(12, false), (11, false)])]
  faL := [(6, 5), (6, 6), (6, 7), (6, 8)]
  icL := [6]
  fxL := [(1, 8), (2, 13), (3, 12), (3, 11), (4, 10), (4, 9), (5, 12), (5, 11)]
  exL := [0, 1, 2, 3, 4, 5]
  shpL := [(1, 1, 1, [.arg 0, .arg 1]), (0, 3, 1, [.arg 0, .arg 1, .arg 2, .arg 3]), (2, 3, 0, [.arg 0, .arg 1, .arg 2, .dfl (.tup [])])]
  sokL := [(5, 0), (5, 2), (33, 1), (34, 1)]
  plnL := [1, 2, 3, 4, 6, 7, 8, 11, 12, 13, 14, 15, 16, 17, 18, 19, 20, 21, 22, 23, 33, 34, 35, 36, 37, 38, 39, 40, 41, 42, 43]
  fuel := 1000
def B : Tb := tl.tb
theorem B_fn (f : Nat) : B.fn f = tl.fnL.lookup f := rfl
theorem fn1 : B.fn 1 = some i1 := rfl
theorem fn2 : B.fn 2 = some i2 := rfl
theorem fn3 : B.fn 3 = some i3 := rfl
theorem fn4 : B.fn 4 = some i4 := rfl
theorem fn5 : B.fn 5 = some i5 := rfl
theorem fn6 : B.fn 6 = some i6 := rfl
theorem fn7 : B.fn 7 = some i7 := rfl
theorem fn8 : B.fn 8 = some i8 := rfl
theorem fn33 : B.fn 33 = some i33 := rfl
theorem fn34 : B.fn 34 = some i34 := rfl
theorem fn11 : B.fn 11 = some i11 := rfl
theorem fn12 : B.fn 12 = some i12 := rfl
theorem fn13 : B.fn 13 = some i13 := rfl
theorem fn14 : B.fn 14 = some i14 := rfl
theorem fn15 : B.fn 15 = some i15 := rfl
theorem fn16 : B.fn 16 = some i16 := rfl
theorem fn17 : B.fn 17 = some i17 := rfl
theorem fn18 : B.fn 18 = some i18 := rfl
theorem fn19 : B.fn 19 = some i19 := rfl
theorem fn20 : B.fn 20 = some i20 := rfl
theorem fn21 : B.fn 21 = some i21 := rfl
theorem fn22 : B.fn 22 = some i22 := rfl
theorem fn23 : B.fn 23 = some i23 := rfl
theorem fn35 : B.fn 35 = some i35 := rfl
theorem fn36 : B.fn 36 = some i36 := rfl
theorem fn37 : B.fn 37 = some i37 := rfl
theorem fn38 : B.fn 38 = some i38 := rfl
theorem fn39 : B.fn 39 = some i39 := rfl
theorem fn40 : B.fn 40 = some i40 := rfl
theorem fn41 : B.fn 41 = some i41 := rfl
theorem fn42 : B.fn 42 = some i42 := rfl
theorem fn43 : B.fn 43 = some i43 := rfl
theorem pl1 : B.pln 1 = true := rfl
theorem pl2 : B.pln 2 = true := rfl
theorem pl3 : B.pln 3 = true := rfl
theorem pl4 : B.pln 4 = true := rfl
theorem pl6 : B.pln 6 = true := rfl
theorem pl7 : B.pln 7 = true := rfl
theorem pl8 : B.pln 8 = true := rfl
theorem pl11 : B.pln 11 = true := rfl
theorem pl12 : B.pln 12 = true := rfl
theorem pl13 : B.pln 13 = true := rfl
theorem pl14 : B.pln 14 = true := rfl
theorem pl15 : B.pln 15 = true := rfl
theorem pl16 : B.pln 16 = true := rfl
theorem pl17 : B.pln 17 = true := rfl
theorem pl18 : B.pln 18 = true := rfl
theorem pl19 : B.pln 19 = true := rfl
theorem pl20 : B.pln 20 = true := rfl
theorem pl21 : B.pln 21 = true := rfl
theorem pl22 : B.pln 22 = true := rfl
theorem pl23 : B.pln 23 = true := rfl
theorem pl33 : B.pln 33 = true := rfl
theorem pl34 : B.pln 34 = true := rfl
theorem pl35 : B.pln 35 = true := rfl
theorem pl36 : B.pln 36 = true := rfl
theorem pl37 : B.pln 37 = true := rfl
theorem pl38 : B.pln 38 = true := rfl
theorem pl39 : B.pln 39 = true := rfl
theorem pl40 : B.pln 40 = true := rfl
theorem pl41 : B.pln 41 = true := rfl
theorem pl42 : B.pln 42 = true := rfl
theorem pl43 : B.pln 43 = true := rfl
@[simp] theorem ex0 : B.ex 0 = true := rfl
@[simp] theorem ex1 : B.ex 1 = true := rfl
@[simp] theorem ex2 : B.ex 2 = true := rfl
@[simp] theorem ex3 : B.ex 3 = true := rfl
@[simp] theorem ex4 : B.ex 4 = true := rfl
@[simp] theorem ex5 : B.ex 5 = true := rfl
@[simp] theorem sub0_0 : B.sub 0 0 = true := rfl
@[simp] theorem sub0_1 : B.sub 0 1 = false := rfl
@[simp] theorem sub0_2 : B.sub 0 2 = false := rfl
@[simp] theorem sub0_3 : B.sub 0 3 = false := rfl
@[simp] theorem sub0_4 : B.sub 0 4 = false := rfl
@[simp] theorem sub0_5 : B.sub 0 5 = false := rfl
@[simp] theorem sub1_0 : B.sub 1 0 = true := rfl
@[simp] theorem sub1_1 : B.sub 1 1 = true := rfl
@[simp] theorem sub1_2 : B.sub 1 2 = false := rfl
@[simp] theorem sub1_3 : B.sub 1 3 = false := rfl
@[simp] theorem sub1_4 : B.sub 1 4 = false := rfl
@[simp] theorem sub1_5 : B.sub 1 5 = false := rfl
@[simp] theorem sub2_0 : B.sub 2 0 = true := rfl
@[simp] theorem sub2_1 : B.sub 2 1 = false := rfl
@[simp] theorem sub2_2 : B.sub 2 2 = true := rfl
@[simp] theorem sub2_3 : B.sub 2 3 = false := rfl
@[simp] theorem sub2_4 : B.sub 2 4 = false := rfl
@[simp] theorem sub2_5 : B.sub 2 5 = false := rfl
@[simp] theorem sub3_0 : B.sub 3 0 = true := rfl
@[simp] theorem sub3_1 : B.sub 3 1 = false := rfl
@[simp] theorem sub3_2 : B.sub 3 2 = false := rfl
@[simp] theorem sub3_3 : B.sub 3 3 = true := rfl
@[simp] theorem sub3_4 : B.sub 3 4 = false := rfl
@[simp] theorem sub3_5 : B.sub 3 5 = false := rfl
@[simp] theorem sub4_0 : B.sub 4 0 = true := rfl
@[simp] theorem sub4_1 : B.sub 4 1 = false := rfl
@[simp] theorem sub4_2 : B.sub 4 2 = false := rfl
@[simp] theorem sub4_3 : B.sub 4 3 = false := rfl
@[simp] theorem sub4_4 : B.sub 4 4 = true := rfl
@[simp] theorem sub4_5 : B.sub 4 5 = false := rfl
@[simp] theorem sub5_0 : B.sub 5 0 = true := rfl
@[simp] theorem sub5_1 : B.sub 5 1 = false := rfl
@[simp] theorem sub5_2 : B.sub 5 2 = false := rfl
@[simp] theorem sub5_3 : B.sub 5 3 = false := rfl
@[simp] theorem sub5_4 : B.sub 5 4 = false := rfl
@[simp] theorem sub5_5 : B.sub 5 5 = true := rfl
@[simp] theorem exf1 : B.exf 1 = some [(8, false)] := rfl
@[simp] theorem fx1_8 : B.fx 1 8 = true := rfl
@[simp] theorem exf2 : B.exf 2 = some [(13, false)] := rfl
@[simp] theorem fx2_13 : B.fx 2 13 = true := rfl
@[simp] theorem exf3 : B.exf 3 = some [(12, false), (11, false)] := rfl
@[simp] theorem fx3_12 : B.fx 3 12 = true := rfl
@[simp] theorem fx3_11 : B.fx 3 11 = true := rfl
@[simp] theorem exf4 : B.exf 4 = some [(10, false), (9, false)] := rfl
@[simp] theorem fx4_10 : B.fx 4 10 = true := rfl
@[simp] theorem fx4_9 : B.fx 4 9 = true := rfl
@[simp] theorem exf5 : B.exf 5 = some [(12, false), (11, false)] := rfl
@[simp] theorem fx5_12 : B.fx 5 12 = true := rfl
@[simp] theorem fx5_11 : B.fx 5 11 = true := rfl
@[simp] theorem fa6_5 : B.fa 6 5 = true := rfl
@[simp] theorem fa6_6 : B.fa 6 6 = true := rfl
@[simp] theorem fa6_7 : B.fa 6 7 = true := rfl
@[simp] theorem fa6_8 : B.fa 6 8 = true := rfl
@[simp] theorem ic6 : B.ic 6 = true := rfl
@[simp] theorem mt6_0 : B.mt 6 0 = some 6 := rfl
@[simp] theorem mt6_1 : B.mt 6 1 = some 7 := rfl
@[simp] theorem mt6_2 : B.mt 6 2 = some 8 := rfl
@[simp] theorem mt6_3 : B.mt 6 3 = some 33 := rfl
@[simp] theorem mt6_4 : B.mt 6 4 = some 34 := rfl
@[simp] theorem ini6 : B.ini 6 = some 5 := rfl
@[simp] theorem shp1 : B.shp 1 = some (1, 1, [.arg 0, .arg 1]) := rfl
@[simp] theorem shp0 : B.shp 0 = some (3, 1, [.arg 0, .arg 1, .arg 2, .arg 3]) := rfl
@[simp] theorem shp2 : B.shp 2 = some (3, 0, [.arg 0, .arg 1, .arg 2, .dfl (.tup [])]) := rfl
@[simp] theorem sok5_0 : B.sok 5 0 = true := rfl
@[simp] theorem sok5_2 : B.sok 5 2 = true := rfl
@[simp] theorem sok33_1 : B.sok 33 1 = true := rfl
@[simp] theorem sok34_1 : B.sok 34 1 = true := rfl
end Tk01
set_option Elab.async false
set_option maxRecDepth 100000
set_option maxHeartbeats 8000000
/-! The tables of law k01: made by gen.py. -/
namespace Tk01
open PySem L2 Mi Cd
abbrev top : List Stmt := PySem.Challenge.pw_surerails_k01_line_keeps_wires.main.body
def st (i : Nat) : Stmt := top.getD i (.Pass ⟨0, 0, 0, 0⟩)
def cst (i j : Nat) : Stmt := match st i with
  | .ClassDef (body := b) .. => b.getD j (.Pass ⟨0, 0, 0, 0⟩)
  | _ => .Pass ⟨0, 0, 0, 0⟩
def ct : Ct where
  fns := [("check_box", 1), ("checked_wires", 2), ("checked_bounds", 3), ("ascending_wires", 4), ("_law_is_int", 11), ("_law_cell", 12), ("_law_pen", 13), ("_law_take", 14), ("_law_size", 15), ("_law_wires", 16), ("_law_told", 17), ("_law_plan_wires", 18), ("_law_same", 19), ("_law_mixed", 20), ("_law_wide_hours", 21), ("_law_ring_wires", 22), ("_law_line", 23), ("_law_wire", 35), ("_law_sources", 36), ("_law_targets", 37), ("_law_answers", 38), ("_law_due_wire", 39), ("_law_due", 40), ("_law_spoil", 41), ("_law_made", 42), ("law", 43)]
  cls := [("RailsError", 0), ("BadSize", 1), ("NoBox", 2), ("BadWire", 3), ("BadBound", 4), ("NoWire", 5), ("Line", 6)]
  att := [("wires", 0), ("bounds", 1), ("wire", 2), ("sources", 3), ("targets", 4), ("_bounds", 5), ("_wires", 6), ("_hours", 7), ("size", 8), ("target", 11), ("source", 12), ("box", 13), ("later", 10), ("earlier", 9)]
  blt := ["abs", "bool", "int", "isinstance", "len", "list", "range", "repr", "sorted", "str", "tuple"]
  shp := [(1, 1, ["box"]), (0, 3, ["bounds"]), (2, 3, [])]
def nms : List Str := ["wires", "bounds", "wire", "sources", "targets", "_bounds", "_wires", "_hours", "size", "earlier", "later", "target", "source", "box"]
theorem nms_ok : nmB nms = true := by decide +kernel
def n1 : List Str := ["size", "box"]
theorem k1 : chkSs ct ⟨n1, defScope (st 8), true, false⟩ c1 (defBody (st 8)) = true := by decide +kernel
def n2 : List Str := ["size", "wires", "hours", "source", "target", "low", "high"]
theorem k2 : chkSs ct ⟨n2, defScope (st 10), true, false⟩ c2 (defBody (st 10)) = true := by decide +kernel
def n3 : List Str := ["size", "bounds", "greatest", "later", "earlier", "most"]
theorem k3 : chkSs ct ⟨n3, defScope (st 11), true, false⟩ c3 (defBody (st 11)) = true := by decide +kernel
def n4 : List Str := ["hours", "wires", "source", "target", "low", "high"]
theorem k4 : chkSs ct ⟨n4, defScope (st 12), true, false⟩ c4 (defBody (st 12)) = true := by decide +kernel
def n5 : List Str := ["self", "size", "wires", "bounds", "greatest", "later", "earlier"]
theorem k5 : chkSs ct ⟨n5, defScope (cst 13 0), true, false⟩ c5 (defBody (cst 13 0)) = true := by decide +kernel
def n6 : List Str := ["self"]
theorem k6 : chkSs ct ⟨n6, defScope (cst 13 1), true, false⟩ c6 (defBody (cst 13 1)) = true := by decide +kernel
def n7 : List Str := ["self"]
theorem k7 : chkSs ct ⟨n7, defScope (cst 13 2), true, false⟩ c7 (defBody (cst 13 2)) = true := by decide +kernel
def n8 : List Str := ["self", "source", "target"]
theorem k8 : chkSs ct ⟨n8, defScope (cst 13 3), true, false⟩ c8 (defBody (cst 13 3)) = true := by decide +kernel
def n33 : List Str := ["self", "box", "source", "target", "low", "high"]
theorem k33 : chkSs ct ⟨n33, defScope (cst 13 4), true, false⟩ c33 (defBody (cst 13 4)) = true := by decide +kernel
def n34 : List Str := ["self", "box", "source", "target", "low", "high"]
theorem k34 : chkSs ct ⟨n34, defScope (cst 13 5), true, false⟩ c34 (defBody (cst 13 5)) = true := by decide +kernel
def n11 : List Str := ["_law_value"]
theorem k11 : chkSs ct ⟨n11, defScope (st 15), true, false⟩ c11 (defBody (st 15)) = true := by decide +kernel
def n12 : List Str := ["_law_script", "_law_k"]
theorem k12 : chkSs ct ⟨n12, defScope (st 16), true, false⟩ c12 (defBody (st 16)) = true := by decide +kernel
def n13 : List Str := ["_law_script", "_law_k", "_law_cell_here"]
theorem k13 : chkSs ct ⟨n13, defScope (st 17), true, false⟩ c13 (defBody (st 17)) = true := by decide +kernel
def n14 : List Str := ["_law_pen_here", "_law_size_here", "_law_mixed_here", "_law_digit"]
theorem k14 : chkSs ct ⟨n14, defScope (st 18), true, false⟩ c14 (defBody (st 18)) = true := by decide +kernel
def n15 : List Str := ["_law_pen_here"]
theorem k15 : chkSs ct ⟨n15, defScope (st 19), true, false⟩ c15 (defBody (st 19)) = true := by decide +kernel
def n16 : List Str := ["_law_pen_here", "_law_size_here", "_law_wires_here", "_law_source", "_law_target", "_law_kind", "_law_near", "_law_low", "_law_high"]
theorem k16 : chkSs ct ⟨n16, defScope (st 20), true, false⟩ c16 (defBody (st 20)) = true := by decide +kernel
def n17 : List Str := ["_law_pen_here", "_law_size_here", "_law_told_here", "_law_turn", "_law_later", "_law_earlier", "_law_pairs", "_law_row"]
theorem k17 : chkSs ct ⟨n17, defScope (st 21), true, false⟩ c17 (defBody (st 21)) = true := by decide +kernel
def n18 : List Str := ["_law_pen_here", "_law_size_here", "_law_wires_here", "_law_source", "_law_target", "_law_low"]
theorem k18 : chkSs ct ⟨n18, defScope (st 22), true, false⟩ c18 (defBody (st 22)) = true := by decide +kernel
def n19 : List Str := ["_law_actual", "_law_due_here", "_law_at"]
theorem k19 : chkSs ct ⟨n19, defScope (st 23), true, false⟩ c19 (defBody (st 23)) = true := by decide +kernel
def n20 : List Str := ["_law_pen_here", "_law_row", "_law_rest", "_law_mixed_here", "_law_turn"]
theorem k20 : chkSs ct ⟨n20, defScope (st 24), true, false⟩ c20 (defBody (st 24)) = true := by decide +kernel
def n21 : List Str := ["_law_pen_here", "_law_wires_here", "_law_most", "_law_rows", "_law_source", "_law_target", "_law_low", "_law_high"]
theorem k21 : chkSs ct ⟨n21, defScope (st 25), true, false⟩ c21 (defBody (st 25)) = true := by decide +kernel
def n22 : List Str := ["_law_pen_here", "_law_size_here", "_law_rows", "_law_source", "_law_target", "_law_low"]
theorem k22 : chkSs ct ⟨n22, defScope (st 26), true, false⟩ c22 (defBody (st 26)) = true := by decide +kernel
def n23 : List Str := ["_law_script", "_law_pen_here", "_law_size_here", "_law_told_here", "_law_kind", "_law_wires_here", "_law_row"]
theorem k23 : chkSs ct ⟨n23, defScope (st 27), true, false⟩ c23 (defBody (st 27)) = true := by decide +kernel
def n35 : List Str := ["_law_line_here", "_law_source", "_law_target", "e"]
theorem k35 : chkSs ct ⟨n35, defScope (st 28), true, false⟩ c35 (defBody (st 28)) = true := by decide +kernel
def n36 : List Str := ["_law_line_here", "_law_point", "e"]
theorem k36 : chkSs ct ⟨n36, defScope (st 29), true, false⟩ c36 (defBody (st 29)) = true := by decide +kernel
def n37 : List Str := ["_law_line_here", "_law_point", "e"]
theorem k37 : chkSs ct ⟨n37, defScope (st 30), true, false⟩ c37 (defBody (st 30)) = true := by decide +kernel
def n38 : List Str := ["_law_line_here", "_law_size_here", "_law_answers_here", "_law_point", "_law_other"]
theorem k38 : chkSs ct ⟨n38, defScope (st 31), true, false⟩ c38 (defBody (st 31)) = true := by decide +kernel
def n39 : List Str := ["_law_size_here", "_law_wires_here", "_law_point", "_law_other", "_law_number", "_law_source", "_law_target", "_law_low", "_law_high"]
theorem k39 : chkSs ct ⟨n39, defScope (st 32), true, false⟩ c39 (defBody (st 32)) = true := by decide +kernel
def n40 : List Str := ["_law_size_here", "_law_wires_here", "_law_told_here", "_law_due_here", "_law_point", "_law_other", "_law_row"]
theorem k40 : chkSs ct ⟨n40, defScope (st 33), true, false⟩ c40 (defBody (st 33)) = true := by decide +kernel
def n41 : List Str := ["_law_row"]
theorem k41 : chkSs ct ⟨n41, defScope (st 34), true, false⟩ c41 (defBody (st 34)) = true := by decide +kernel
def n42 : List Str := ["_law_pen_here", "_law_size_here", "_law_wires_here", "_law_told_here", "_law_kind"]
theorem k42 : chkSs ct ⟨n42, defScope (st 35), true, false⟩ c42 (defBody (st 35)) = true := by decide +kernel
def n43 : List Str := ["_law_script", "_law_due_here", "_law_pen_here", "_law_passed", "_law_limits", "_law_kept", "_law_line_here", "_law_first", "_law_text", "_law_answer", "_law_second", "_law_size_here", "_law_wires_here", "_law_told_here"]
theorem k43 : chkSs ct ⟨n43, defScope (st 36), true, false⟩ c43 (defBody (st 36)) = true := by decide +kernel
def p1 : List Str := ["size", "box"]
theorem s1 : FnScope n1 p1 (defScope (st 8)) := ⟨rfl, rfl, rfl, by decide +kernel, rfl, by decide +kernel, by decide +kernel⟩
def p2 : List Str := ["size", "wires"]
theorem s2 : FnScope n2 p2 (defScope (st 10)) := ⟨rfl, rfl, rfl, by decide +kernel, rfl, by decide +kernel, by decide +kernel⟩
def p3 : List Str := ["size", "bounds"]
theorem s3 : FnScope n3 p3 (defScope (st 11)) := ⟨rfl, rfl, rfl, by decide +kernel, rfl, by decide +kernel, by decide +kernel⟩
def p4 : List Str := ["hours"]
theorem s4 : FnScope n4 p4 (defScope (st 12)) := ⟨rfl, rfl, rfl, by decide +kernel, rfl, by decide +kernel, by decide +kernel⟩
def p5 : List Str := ["self", "size", "wires", "bounds"]
theorem s5 : FnScope n5 p5 (defScope (cst 13 0)) := ⟨rfl, rfl, rfl, by decide +kernel, rfl, by decide +kernel, by decide +kernel⟩
def p6 : List Str := ["self"]
theorem s6 : FnScope n6 p6 (defScope (cst 13 1)) := ⟨rfl, rfl, rfl, by decide +kernel, rfl, by decide +kernel, by decide +kernel⟩
def p7 : List Str := ["self"]
theorem s7 : FnScope n7 p7 (defScope (cst 13 2)) := ⟨rfl, rfl, rfl, by decide +kernel, rfl, by decide +kernel, by decide +kernel⟩
def p8 : List Str := ["self", "source", "target"]
theorem s8 : FnScope n8 p8 (defScope (cst 13 3)) := ⟨rfl, rfl, rfl, by decide +kernel, rfl, by decide +kernel, by decide +kernel⟩
def p33 : List Str := ["self", "box"]
theorem s33 : FnScope n33 p33 (defScope (cst 13 4)) := ⟨rfl, rfl, rfl, by decide +kernel, rfl, by decide +kernel, by decide +kernel⟩
def p34 : List Str := ["self", "box"]
theorem s34 : FnScope n34 p34 (defScope (cst 13 5)) := ⟨rfl, rfl, rfl, by decide +kernel, rfl, by decide +kernel, by decide +kernel⟩
def p11 : List Str := ["_law_value"]
theorem s11 : FnScope n11 p11 (defScope (st 15)) := ⟨rfl, rfl, rfl, by decide +kernel, rfl, by decide +kernel, by decide +kernel⟩
def p12 : List Str := ["_law_script", "_law_k"]
theorem s12 : FnScope n12 p12 (defScope (st 16)) := ⟨rfl, rfl, rfl, by decide +kernel, rfl, by decide +kernel, by decide +kernel⟩
def p13 : List Str := ["_law_script", "_law_k"]
theorem s13 : FnScope n13 p13 (defScope (st 17)) := ⟨rfl, rfl, rfl, by decide +kernel, rfl, by decide +kernel, by decide +kernel⟩
def p14 : List Str := ["_law_pen_here", "_law_size_here"]
theorem s14 : FnScope n14 p14 (defScope (st 18)) := ⟨rfl, rfl, rfl, by decide +kernel, rfl, by decide +kernel, by decide +kernel⟩
def p15 : List Str := ["_law_pen_here"]
theorem s15 : FnScope n15 p15 (defScope (st 19)) := ⟨rfl, rfl, rfl, by decide +kernel, rfl, by decide +kernel, by decide +kernel⟩
def p16 : List Str := ["_law_pen_here", "_law_size_here"]
theorem s16 : FnScope n16 p16 (defScope (st 20)) := ⟨rfl, rfl, rfl, by decide +kernel, rfl, by decide +kernel, by decide +kernel⟩
def p17 : List Str := ["_law_pen_here", "_law_size_here"]
theorem s17 : FnScope n17 p17 (defScope (st 21)) := ⟨rfl, rfl, rfl, by decide +kernel, rfl, by decide +kernel, by decide +kernel⟩
def p18 : List Str := ["_law_pen_here", "_law_size_here"]
theorem s18 : FnScope n18 p18 (defScope (st 22)) := ⟨rfl, rfl, rfl, by decide +kernel, rfl, by decide +kernel, by decide +kernel⟩
def p19 : List Str := ["_law_actual", "_law_due_here"]
theorem s19 : FnScope n19 p19 (defScope (st 23)) := ⟨rfl, rfl, rfl, by decide +kernel, rfl, by decide +kernel, by decide +kernel⟩
def p20 : List Str := ["_law_pen_here", "_law_row"]
theorem s20 : FnScope n20 p20 (defScope (st 24)) := ⟨rfl, rfl, rfl, by decide +kernel, rfl, by decide +kernel, by decide +kernel⟩
def p21 : List Str := ["_law_pen_here", "_law_wires_here"]
theorem s21 : FnScope n21 p21 (defScope (st 25)) := ⟨rfl, rfl, rfl, by decide +kernel, rfl, by decide +kernel, by decide +kernel⟩
def p22 : List Str := ["_law_pen_here", "_law_size_here"]
theorem s22 : FnScope n22 p22 (defScope (st 26)) := ⟨rfl, rfl, rfl, by decide +kernel, rfl, by decide +kernel, by decide +kernel⟩
def p23 : List Str := ["_law_script"]
theorem s23 : FnScope n23 p23 (defScope (st 27)) := ⟨rfl, rfl, rfl, by decide +kernel, rfl, by decide +kernel, by decide +kernel⟩
def p35 : List Str := ["_law_line_here", "_law_source", "_law_target"]
theorem s35 : FnScope n35 p35 (defScope (st 28)) := ⟨rfl, rfl, rfl, by decide +kernel, rfl, by decide +kernel, by decide +kernel⟩
def p36 : List Str := ["_law_line_here", "_law_point"]
theorem s36 : FnScope n36 p36 (defScope (st 29)) := ⟨rfl, rfl, rfl, by decide +kernel, rfl, by decide +kernel, by decide +kernel⟩
def p37 : List Str := ["_law_line_here", "_law_point"]
theorem s37 : FnScope n37 p37 (defScope (st 30)) := ⟨rfl, rfl, rfl, by decide +kernel, rfl, by decide +kernel, by decide +kernel⟩
def p38 : List Str := ["_law_line_here", "_law_size_here"]
theorem s38 : FnScope n38 p38 (defScope (st 31)) := ⟨rfl, rfl, rfl, by decide +kernel, rfl, by decide +kernel, by decide +kernel⟩
def p39 : List Str := ["_law_size_here", "_law_wires_here", "_law_point", "_law_other"]
theorem s39 : FnScope n39 p39 (defScope (st 32)) := ⟨rfl, rfl, rfl, by decide +kernel, rfl, by decide +kernel, by decide +kernel⟩
def p40 : List Str := ["_law_size_here", "_law_wires_here", "_law_told_here"]
theorem s40 : FnScope n40 p40 (defScope (st 33)) := ⟨rfl, rfl, rfl, by decide +kernel, rfl, by decide +kernel, by decide +kernel⟩
def p41 : List Str := ["_law_row"]
theorem s41 : FnScope n41 p41 (defScope (st 34)) := ⟨rfl, rfl, rfl, by decide +kernel, rfl, by decide +kernel, by decide +kernel⟩
def p42 : List Str := ["_law_pen_here", "_law_size_here", "_law_wires_here", "_law_told_here"]
theorem s42 : FnScope n42 p42 (defScope (st 35)) := ⟨rfl, rfl, rfl, by decide +kernel, rfl, by decide +kernel, by decide +kernel⟩
def p43 : List Str := ["_law_script"]
theorem s43 : FnScope n43 p43 (defScope (st 36)) := ⟨rfl, rfl, rfl, by decide +kernel, rfl, by decide +kernel, by decide +kernel⟩
section
open PySem.Spec PyProof.Rows
abbrev kk (K : PySem.W.Frag) (C0 C1 C2 C3 C4 C5 C6 : Addr) : Ks := ksOf K [C0, C1, C2, C3, C4, C5, C6] nms nms_ok
theorem all_mk {w : World} {K : PySem.W.Frag} {h : Heap} {mg : Str → Option Value} {fa : Addr} (X : K.In h) (G : h.Ns mainGlobals mg) (hfa : mg "law" = some (.ref fa))
    {C0 C1 C2 C3 C4 C5 C6 : Addr}
    {f1 : Addr} {oc1 kV1 dc1 pm1 cd1 ct1 : Value} {od1 an1 : Option Addr} {sl1 : Array (Option Value)}
    {f2 : Addr} {oc2 kV2 dc2 pm2 cd2 ct2 : Value} {od2 an2 : Option Addr} {sl2 : Array (Option Value)}
    {f3 : Addr} {oc3 kV3 dc3 pm3 cd3 ct3 : Value} {od3 an3 : Option Addr} {sl3 : Array (Option Value)}
    {f4 : Addr} {oc4 kV4 dc4 pm4 cd4 ct4 : Value} {od4 an4 : Option Addr} {sl4 : Array (Option Value)}
    {kD5 : Addr}
    {f5 : Addr} {oc5 dc5 pm5 cd5 ct5 : Value} {od5 an5 : Option Addr} {sl5 : Array (Option Value)}
    {kp5_0 : Addr} {ko5_0 : Option Addr} {kn5_0 : Nat} {ks5_0 : Array (Option Value)}
    {f6 : Addr} {oc6 kV6 dc6 pm6 cd6 ct6 : Value} {od6 an6 : Option Addr} {sl6 : Array (Option Value)}
    {f7 : Addr} {oc7 kV7 dc7 pm7 cd7 ct7 : Value} {od7 an7 : Option Addr} {sl7 : Array (Option Value)}
    {f8 : Addr} {oc8 kV8 dc8 pm8 cd8 ct8 : Value} {od8 an8 : Option Addr} {sl8 : Array (Option Value)}
    {f33 : Addr} {oc33 kV33 dc33 pm33 cd33 ct33 : Value} {od33 an33 : Option Addr} {sl33 : Array (Option Value)}
    {f34 : Addr} {oc34 kV34 dc34 pm34 cd34 ct34 : Value} {od34 an34 : Option Addr} {sl34 : Array (Option Value)}
    {f11 : Addr} {oc11 kV11 dc11 pm11 cd11 ct11 : Value} {od11 an11 : Option Addr} {sl11 : Array (Option Value)}
    {f12 : Addr} {oc12 kV12 dc12 pm12 cd12 ct12 : Value} {od12 an12 : Option Addr} {sl12 : Array (Option Value)}
    {f13 : Addr} {oc13 kV13 dc13 pm13 cd13 ct13 : Value} {od13 an13 : Option Addr} {sl13 : Array (Option Value)}
    {f14 : Addr} {oc14 kV14 dc14 pm14 cd14 ct14 : Value} {od14 an14 : Option Addr} {sl14 : Array (Option Value)}
    {f15 : Addr} {oc15 kV15 dc15 pm15 cd15 ct15 : Value} {od15 an15 : Option Addr} {sl15 : Array (Option Value)}
    {f16 : Addr} {oc16 kV16 dc16 pm16 cd16 ct16 : Value} {od16 an16 : Option Addr} {sl16 : Array (Option Value)}
    {f17 : Addr} {oc17 kV17 dc17 pm17 cd17 ct17 : Value} {od17 an17 : Option Addr} {sl17 : Array (Option Value)}
    {f18 : Addr} {oc18 kV18 dc18 pm18 cd18 ct18 : Value} {od18 an18 : Option Addr} {sl18 : Array (Option Value)}
    {f19 : Addr} {oc19 kV19 dc19 pm19 cd19 ct19 : Value} {od19 an19 : Option Addr} {sl19 : Array (Option Value)}
    {f20 : Addr} {oc20 kV20 dc20 pm20 cd20 ct20 : Value} {od20 an20 : Option Addr} {sl20 : Array (Option Value)}
    {f21 : Addr} {oc21 kV21 dc21 pm21 cd21 ct21 : Value} {od21 an21 : Option Addr} {sl21 : Array (Option Value)}
    {f22 : Addr} {oc22 kV22 dc22 pm22 cd22 ct22 : Value} {od22 an22 : Option Addr} {sl22 : Array (Option Value)}
    {f23 : Addr} {oc23 kV23 dc23 pm23 cd23 ct23 : Value} {od23 an23 : Option Addr} {sl23 : Array (Option Value)}
    {f35 : Addr} {oc35 kV35 dc35 pm35 cd35 ct35 : Value} {od35 an35 : Option Addr} {sl35 : Array (Option Value)}
    {f36 : Addr} {oc36 kV36 dc36 pm36 cd36 ct36 : Value} {od36 an36 : Option Addr} {sl36 : Array (Option Value)}
    {f37 : Addr} {oc37 kV37 dc37 pm37 cd37 ct37 : Value} {od37 an37 : Option Addr} {sl37 : Array (Option Value)}
    {f38 : Addr} {oc38 kV38 dc38 pm38 cd38 ct38 : Value} {od38 an38 : Option Addr} {sl38 : Array (Option Value)}
    {f39 : Addr} {oc39 kV39 dc39 pm39 cd39 ct39 : Value} {od39 an39 : Option Addr} {sl39 : Array (Option Value)}
    {f40 : Addr} {oc40 kV40 dc40 pm40 cd40 ct40 : Value} {od40 an40 : Option Addr} {sl40 : Array (Option Value)}
    {f41 : Addr} {oc41 kV41 dc41 pm41 cd41 ct41 : Value} {od41 an41 : Option Addr} {sl41 : Array (Option Value)}
    {f42 : Addr} {oc42 kV42 dc42 pm42 cd42 ct42 : Value} {od42 an42 : Option Addr} {sl42 : Array (Option Value)}
    {f43 : Addr} {oc43 kV43 dc43 pm43 cd43 ct43 : Value} {od43 an43 : Option Addr} {sl43 : Array (Option Value)}
    {x1 xc1 xl1 N1 : Addr} {nm1 q1 file1 : Str} {bs1 bm1 : List Value} {sn1 : List Str} {su1 : List Value} {ab1 : Bool} {co1 : Option Bool} {dd1 : Option Addr} {ka1 kb1 kc1 kd1 ke1 : Option Value}
    {xo1 xk1 xe1 xp1 xt1 : Value} {xw1 xa1 : Option Addr} {xs1 : Array (Option Value)} {ob1 ov1 : Obj} {vs1 : Array Value} {tf1 : Tok}
    {x2 xc2 xl2 N2 : Addr} {nm2 q2 file2 : Str} {bs2 bm2 : List Value} {sn2 : List Str} {su2 : List Value} {ab2 : Bool} {co2 : Option Bool} {dd2 : Option Addr} {ka2 kb2 kc2 kd2 ke2 : Option Value}
    {xo2 xk2 xe2 xp2 xt2 : Value} {xw2 xa2 : Option Addr} {xs2 : Array (Option Value)} {ob2 ov2 : Obj} {vs2 : Array Value} {tf2 : Tok}
    {x3 xc3 xl3 N3 : Addr} {nm3 q3 file3 : Str} {bs3 bm3 : List Value} {sn3 : List Str} {su3 : List Value} {ab3 : Bool} {co3 : Option Bool} {dd3 : Option Addr} {ka3 kb3 kc3 kd3 ke3 : Option Value}
    {xo3 xk3 xe3 xp3 xt3 : Value} {xw3 xa3 : Option Addr} {xs3 : Array (Option Value)} {ob3 ov3 : Obj} {vs3 : Array Value} {tf3 : Tok}
    {x4 xc4 xl4 N4 : Addr} {nm4 q4 file4 : Str} {bs4 bm4 : List Value} {sn4 : List Str} {su4 : List Value} {ab4 : Bool} {co4 : Option Bool} {dd4 : Option Addr} {ka4 kb4 kc4 kd4 ke4 : Option Value}
    {xo4 xk4 xe4 xp4 xt4 : Value} {xw4 xa4 : Option Addr} {xs4 : Array (Option Value)} {ob4 ov4 : Obj} {vs4 : Array Value} {tf4 : Tok}
    {x5 xc5 xl5 N5 : Addr} {nm5 q5 file5 : Str} {bs5 bm5 : List Value} {sn5 : List Str} {su5 : List Value} {ab5 : Bool} {co5 : Option Bool} {dd5 : Option Addr} {ka5 kb5 kc5 kd5 ke5 : Option Value}
    {xo5 xk5 xe5 xp5 xt5 : Value} {xw5 xa5 : Option Addr} {xs5 : Array (Option Value)} {ob5 ov5 : Obj} {vs5 : Array Value} {tf5 : Tok}
    (aC0 : PySem.W.nsIn K mainGlobals "RailsError" = some (some (.ref C0)))
    (aC1 : PySem.W.nsIn K mainGlobals "BadSize" = some (some (.ref C1)))
    (aC2 : PySem.W.nsIn K mainGlobals "NoBox" = some (some (.ref C2)))
    (aC3 : PySem.W.nsIn K mainGlobals "BadWire" = some (some (.ref C3)))
    (aC4 : PySem.W.nsIn K mainGlobals "BadBound" = some (some (.ref C4)))
    (aC5 : PySem.W.nsIn K mainGlobals "NoWire" = some (some (.ref C5)))
    (aC6 : PySem.W.nsIn K mainGlobals "Line" = some (some (.ref C6)))
    (a1 : PySem.W.nsIn K mainGlobals "check_box" = some (some (.ref f1)))
    (l1 : K.lookup f1 = some ⟨oc1, od1, .func (PySem.W.fnOf "check_box" "check_box" (defArgs (st 8)) (defBody (st 8)) (defScope (st 8)) .none kV1 dc1 pm1 an1 cd1 ct1), sl1⟩)
    (c1_ : PySem.W.codeIn K cd1 "check_box" = true)
    (e1 : PySem.W.keepIn K (.ref f1) = true)
    (a2 : PySem.W.nsIn K mainGlobals "checked_wires" = some (some (.ref f2)))
    (l2 : K.lookup f2 = some ⟨oc2, od2, .func (PySem.W.fnOf "checked_wires" "checked_wires" (defArgs (st 10)) (defBody (st 10)) (defScope (st 10)) .none kV2 dc2 pm2 an2 cd2 ct2), sl2⟩)
    (c2_ : PySem.W.codeIn K cd2 "checked_wires" = true)
    (e2 : PySem.W.keepIn K (.ref f2) = true)
    (a3 : PySem.W.nsIn K mainGlobals "checked_bounds" = some (some (.ref f3)))
    (l3 : K.lookup f3 = some ⟨oc3, od3, .func (PySem.W.fnOf "checked_bounds" "checked_bounds" (defArgs (st 11)) (defBody (st 11)) (defScope (st 11)) .none kV3 dc3 pm3 an3 cd3 ct3), sl3⟩)
    (c3_ : PySem.W.codeIn K cd3 "checked_bounds" = true)
    (e3 : PySem.W.keepIn K (.ref f3) = true)
    (a4 : PySem.W.nsIn K mainGlobals "ascending_wires" = some (some (.ref f4)))
    (l4 : K.lookup f4 = some ⟨oc4, od4, .func (PySem.W.fnOf "ascending_wires" "ascending_wires" (defArgs (st 12)) (defBody (st 12)) (defScope (st 12)) .none kV4 dc4 pm4 an4 cd4 ct4), sl4⟩)
    (c4_ : PySem.W.codeIn K cd4 "ascending_wires" = true)
    (e4 : PySem.W.keepIn K (.ref f4) = true)
    (a5 : PySem.W.findIn K (.ref C6) "__init__" = some (some (.ref f5)))
    (g5 : PySem.W.isFn K (.ref f5) = true)
    (l5 : K.lookup f5 = some ⟨oc5, od5, .func (PySem.W.fnOf "__init__" "Line.__init__" (defArgs (cst 13 0)) (defBody (cst 13 0)) (defScope (cst 13 0)) .none (.ref kD5) dc5 pm5 an5 cd5 ct5), sl5⟩)
    (kq5_0 : PySem.W.nsIn K kD5 "bounds" = some (some (.ref kp5_0)))
    (kl5_0 : K.lookup kp5_0 = some ⟨.type "tuple", ko5_0, .seq #[] kn5_0, ks5_0⟩)
    (c5_ : PySem.W.codeIn K cd5 "Line.__init__" = true)
    (e5 : PySem.W.keepIn K (.ref f5) = true)
    (a6 : PySem.W.findIn K (.ref C6) "wires" = some (some (.ref f6)))
    (g6 : PySem.W.isFn K (.ref f6) = true)
    (l6 : K.lookup f6 = some ⟨oc6, od6, .func (PySem.W.fnOf "wires" "Line.wires" (defArgs (cst 13 1)) (defBody (cst 13 1)) (defScope (cst 13 1)) .none kV6 dc6 pm6 an6 cd6 ct6), sl6⟩)
    (c6_ : PySem.W.codeIn K cd6 "Line.wires" = true)
    (e6 : PySem.W.keepIn K (.ref f6) = true)
    (a7 : PySem.W.findIn K (.ref C6) "bounds" = some (some (.ref f7)))
    (g7 : PySem.W.isFn K (.ref f7) = true)
    (l7 : K.lookup f7 = some ⟨oc7, od7, .func (PySem.W.fnOf "bounds" "Line.bounds" (defArgs (cst 13 2)) (defBody (cst 13 2)) (defScope (cst 13 2)) .none kV7 dc7 pm7 an7 cd7 ct7), sl7⟩)
    (c7_ : PySem.W.codeIn K cd7 "Line.bounds" = true)
    (e7 : PySem.W.keepIn K (.ref f7) = true)
    (a8 : PySem.W.findIn K (.ref C6) "wire" = some (some (.ref f8)))
    (g8 : PySem.W.isFn K (.ref f8) = true)
    (l8 : K.lookup f8 = some ⟨oc8, od8, .func (PySem.W.fnOf "wire" "Line.wire" (defArgs (cst 13 3)) (defBody (cst 13 3)) (defScope (cst 13 3)) .none kV8 dc8 pm8 an8 cd8 ct8), sl8⟩)
    (c8_ : PySem.W.codeIn K cd8 "Line.wire" = true)
    (e8 : PySem.W.keepIn K (.ref f8) = true)
    (a33 : PySem.W.findIn K (.ref C6) "sources" = some (some (.ref f33)))
    (g33 : PySem.W.isFn K (.ref f33) = true)
    (l33 : K.lookup f33 = some ⟨oc33, od33, .func (PySem.W.fnOf "sources" "Line.sources" (defArgs (cst 13 4)) (defBody (cst 13 4)) (defScope (cst 13 4)) .none kV33 dc33 pm33 an33 cd33 ct33), sl33⟩)
    (c33_ : PySem.W.codeIn K cd33 "Line.sources" = true)
    (e33 : PySem.W.keepIn K (.ref f33) = true)
    (a34 : PySem.W.findIn K (.ref C6) "targets" = some (some (.ref f34)))
    (g34 : PySem.W.isFn K (.ref f34) = true)
    (l34 : K.lookup f34 = some ⟨oc34, od34, .func (PySem.W.fnOf "targets" "Line.targets" (defArgs (cst 13 5)) (defBody (cst 13 5)) (defScope (cst 13 5)) .none kV34 dc34 pm34 an34 cd34 ct34), sl34⟩)
    (c34_ : PySem.W.codeIn K cd34 "Line.targets" = true)
    (e34 : PySem.W.keepIn K (.ref f34) = true)
    (a11 : PySem.W.nsIn K mainGlobals "_law_is_int" = some (some (.ref f11)))
    (l11 : K.lookup f11 = some ⟨oc11, od11, .func (PySem.W.fnOf "_law_is_int" "_law_is_int" (defArgs (st 15)) (defBody (st 15)) (defScope (st 15)) .none kV11 dc11 pm11 an11 cd11 ct11), sl11⟩)
    (c11_ : PySem.W.codeIn K cd11 "_law_is_int" = true)
    (e11 : PySem.W.keepIn K (.ref f11) = true)
    (a12 : PySem.W.nsIn K mainGlobals "_law_cell" = some (some (.ref f12)))
    (l12 : K.lookup f12 = some ⟨oc12, od12, .func (PySem.W.fnOf "_law_cell" "_law_cell" (defArgs (st 16)) (defBody (st 16)) (defScope (st 16)) .none kV12 dc12 pm12 an12 cd12 ct12), sl12⟩)
    (c12_ : PySem.W.codeIn K cd12 "_law_cell" = true)
    (e12 : PySem.W.keepIn K (.ref f12) = true)
    (a13 : PySem.W.nsIn K mainGlobals "_law_pen" = some (some (.ref f13)))
    (l13 : K.lookup f13 = some ⟨oc13, od13, .func (PySem.W.fnOf "_law_pen" "_law_pen" (defArgs (st 17)) (defBody (st 17)) (defScope (st 17)) .none kV13 dc13 pm13 an13 cd13 ct13), sl13⟩)
    (c13_ : PySem.W.codeIn K cd13 "_law_pen" = true)
    (e13 : PySem.W.keepIn K (.ref f13) = true)
    (a14 : PySem.W.nsIn K mainGlobals "_law_take" = some (some (.ref f14)))
    (l14 : K.lookup f14 = some ⟨oc14, od14, .func (PySem.W.fnOf "_law_take" "_law_take" (defArgs (st 18)) (defBody (st 18)) (defScope (st 18)) .none kV14 dc14 pm14 an14 cd14 ct14), sl14⟩)
    (c14_ : PySem.W.codeIn K cd14 "_law_take" = true)
    (e14 : PySem.W.keepIn K (.ref f14) = true)
    (a15 : PySem.W.nsIn K mainGlobals "_law_size" = some (some (.ref f15)))
    (l15 : K.lookup f15 = some ⟨oc15, od15, .func (PySem.W.fnOf "_law_size" "_law_size" (defArgs (st 19)) (defBody (st 19)) (defScope (st 19)) .none kV15 dc15 pm15 an15 cd15 ct15), sl15⟩)
    (c15_ : PySem.W.codeIn K cd15 "_law_size" = true)
    (e15 : PySem.W.keepIn K (.ref f15) = true)
    (a16 : PySem.W.nsIn K mainGlobals "_law_wires" = some (some (.ref f16)))
    (l16 : K.lookup f16 = some ⟨oc16, od16, .func (PySem.W.fnOf "_law_wires" "_law_wires" (defArgs (st 20)) (defBody (st 20)) (defScope (st 20)) .none kV16 dc16 pm16 an16 cd16 ct16), sl16⟩)
    (c16_ : PySem.W.codeIn K cd16 "_law_wires" = true)
    (e16 : PySem.W.keepIn K (.ref f16) = true)
    (a17 : PySem.W.nsIn K mainGlobals "_law_told" = some (some (.ref f17)))
    (l17 : K.lookup f17 = some ⟨oc17, od17, .func (PySem.W.fnOf "_law_told" "_law_told" (defArgs (st 21)) (defBody (st 21)) (defScope (st 21)) .none kV17 dc17 pm17 an17 cd17 ct17), sl17⟩)
    (c17_ : PySem.W.codeIn K cd17 "_law_told" = true)
    (e17 : PySem.W.keepIn K (.ref f17) = true)
    (a18 : PySem.W.nsIn K mainGlobals "_law_plan_wires" = some (some (.ref f18)))
    (l18 : K.lookup f18 = some ⟨oc18, od18, .func (PySem.W.fnOf "_law_plan_wires" "_law_plan_wires" (defArgs (st 22)) (defBody (st 22)) (defScope (st 22)) .none kV18 dc18 pm18 an18 cd18 ct18), sl18⟩)
    (c18_ : PySem.W.codeIn K cd18 "_law_plan_wires" = true)
    (e18 : PySem.W.keepIn K (.ref f18) = true)
    (a19 : PySem.W.nsIn K mainGlobals "_law_same" = some (some (.ref f19)))
    (l19 : K.lookup f19 = some ⟨oc19, od19, .func (PySem.W.fnOf "_law_same" "_law_same" (defArgs (st 23)) (defBody (st 23)) (defScope (st 23)) .none kV19 dc19 pm19 an19 cd19 ct19), sl19⟩)
    (c19_ : PySem.W.codeIn K cd19 "_law_same" = true)
    (e19 : PySem.W.keepIn K (.ref f19) = true)
    (a20 : PySem.W.nsIn K mainGlobals "_law_mixed" = some (some (.ref f20)))
    (l20 : K.lookup f20 = some ⟨oc20, od20, .func (PySem.W.fnOf "_law_mixed" "_law_mixed" (defArgs (st 24)) (defBody (st 24)) (defScope (st 24)) .none kV20 dc20 pm20 an20 cd20 ct20), sl20⟩)
    (c20_ : PySem.W.codeIn K cd20 "_law_mixed" = true)
    (e20 : PySem.W.keepIn K (.ref f20) = true)
    (a21 : PySem.W.nsIn K mainGlobals "_law_wide_hours" = some (some (.ref f21)))
    (l21 : K.lookup f21 = some ⟨oc21, od21, .func (PySem.W.fnOf "_law_wide_hours" "_law_wide_hours" (defArgs (st 25)) (defBody (st 25)) (defScope (st 25)) .none kV21 dc21 pm21 an21 cd21 ct21), sl21⟩)
    (c21_ : PySem.W.codeIn K cd21 "_law_wide_hours" = true)
    (e21 : PySem.W.keepIn K (.ref f21) = true)
    (a22 : PySem.W.nsIn K mainGlobals "_law_ring_wires" = some (some (.ref f22)))
    (l22 : K.lookup f22 = some ⟨oc22, od22, .func (PySem.W.fnOf "_law_ring_wires" "_law_ring_wires" (defArgs (st 26)) (defBody (st 26)) (defScope (st 26)) .none kV22 dc22 pm22 an22 cd22 ct22), sl22⟩)
    (c22_ : PySem.W.codeIn K cd22 "_law_ring_wires" = true)
    (e22 : PySem.W.keepIn K (.ref f22) = true)
    (a23 : PySem.W.nsIn K mainGlobals "_law_line" = some (some (.ref f23)))
    (l23 : K.lookup f23 = some ⟨oc23, od23, .func (PySem.W.fnOf "_law_line" "_law_line" (defArgs (st 27)) (defBody (st 27)) (defScope (st 27)) .none kV23 dc23 pm23 an23 cd23 ct23), sl23⟩)
    (c23_ : PySem.W.codeIn K cd23 "_law_line" = true)
    (e23 : PySem.W.keepIn K (.ref f23) = true)
    (a35 : PySem.W.nsIn K mainGlobals "_law_wire" = some (some (.ref f35)))
    (l35 : K.lookup f35 = some ⟨oc35, od35, .func (PySem.W.fnOf "_law_wire" "_law_wire" (defArgs (st 28)) (defBody (st 28)) (defScope (st 28)) .none kV35 dc35 pm35 an35 cd35 ct35), sl35⟩)
    (c35_ : PySem.W.codeIn K cd35 "_law_wire" = true)
    (e35 : PySem.W.keepIn K (.ref f35) = true)
    (a36 : PySem.W.nsIn K mainGlobals "_law_sources" = some (some (.ref f36)))
    (l36 : K.lookup f36 = some ⟨oc36, od36, .func (PySem.W.fnOf "_law_sources" "_law_sources" (defArgs (st 29)) (defBody (st 29)) (defScope (st 29)) .none kV36 dc36 pm36 an36 cd36 ct36), sl36⟩)
    (c36_ : PySem.W.codeIn K cd36 "_law_sources" = true)
    (e36 : PySem.W.keepIn K (.ref f36) = true)
    (a37 : PySem.W.nsIn K mainGlobals "_law_targets" = some (some (.ref f37)))
    (l37 : K.lookup f37 = some ⟨oc37, od37, .func (PySem.W.fnOf "_law_targets" "_law_targets" (defArgs (st 30)) (defBody (st 30)) (defScope (st 30)) .none kV37 dc37 pm37 an37 cd37 ct37), sl37⟩)
    (c37_ : PySem.W.codeIn K cd37 "_law_targets" = true)
    (e37 : PySem.W.keepIn K (.ref f37) = true)
    (a38 : PySem.W.nsIn K mainGlobals "_law_answers" = some (some (.ref f38)))
    (l38 : K.lookup f38 = some ⟨oc38, od38, .func (PySem.W.fnOf "_law_answers" "_law_answers" (defArgs (st 31)) (defBody (st 31)) (defScope (st 31)) .none kV38 dc38 pm38 an38 cd38 ct38), sl38⟩)
    (c38_ : PySem.W.codeIn K cd38 "_law_answers" = true)
    (e38 : PySem.W.keepIn K (.ref f38) = true)
    (a39 : PySem.W.nsIn K mainGlobals "_law_due_wire" = some (some (.ref f39)))
    (l39 : K.lookup f39 = some ⟨oc39, od39, .func (PySem.W.fnOf "_law_due_wire" "_law_due_wire" (defArgs (st 32)) (defBody (st 32)) (defScope (st 32)) .none kV39 dc39 pm39 an39 cd39 ct39), sl39⟩)
    (c39_ : PySem.W.codeIn K cd39 "_law_due_wire" = true)
    (e39 : PySem.W.keepIn K (.ref f39) = true)
    (a40 : PySem.W.nsIn K mainGlobals "_law_due" = some (some (.ref f40)))
    (l40 : K.lookup f40 = some ⟨oc40, od40, .func (PySem.W.fnOf "_law_due" "_law_due" (defArgs (st 33)) (defBody (st 33)) (defScope (st 33)) .none kV40 dc40 pm40 an40 cd40 ct40), sl40⟩)
    (c40_ : PySem.W.codeIn K cd40 "_law_due" = true)
    (e40 : PySem.W.keepIn K (.ref f40) = true)
    (a41 : PySem.W.nsIn K mainGlobals "_law_spoil" = some (some (.ref f41)))
    (l41 : K.lookup f41 = some ⟨oc41, od41, .func (PySem.W.fnOf "_law_spoil" "_law_spoil" (defArgs (st 34)) (defBody (st 34)) (defScope (st 34)) .none kV41 dc41 pm41 an41 cd41 ct41), sl41⟩)
    (c41_ : PySem.W.codeIn K cd41 "_law_spoil" = true)
    (e41 : PySem.W.keepIn K (.ref f41) = true)
    (a42 : PySem.W.nsIn K mainGlobals "_law_made" = some (some (.ref f42)))
    (l42 : K.lookup f42 = some ⟨oc42, od42, .func (PySem.W.fnOf "_law_made" "_law_made" (defArgs (st 35)) (defBody (st 35)) (defScope (st 35)) .none kV42 dc42 pm42 an42 cd42 ct42), sl42⟩)
    (c42_ : PySem.W.codeIn K cd42 "_law_made" = true)
    (e42 : PySem.W.keepIn K (.ref f42) = true)
    (a43 : PySem.W.nsIn K mainGlobals "law" = some (some (.ref f43)))
    (l43 : K.lookup f43 = some ⟨oc43, od43, .func (PySem.W.fnOf "law" "law" (defArgs (st 36)) (defBody (st 36)) (defScope (st 36)) .none kV43 dc43 pm43 an43 cd43 ct43), sl43⟩)
    (c43_ : PySem.W.codeIn K cd43 "law" = true)
    (e43 : PySem.W.keepIn K (.ref f43) = true)
    (xL1 : K.lookup C1 = some (excClassObj nm1 q1 C1 N1 bs1 bm1 true sn1 su1 ab1 co1 dd1 ka1 kb1 kc1 kd1 ke1 "ValueError.__new__"))
    (xr1 : PySem.HandSPX.refsVE bm1 = true)
    (xA1 : PySem.W.findIn K (.ref C1) "__setattr__" = some (some (.builtin "object.__setattr__")))
    (xB1 : PySem.W.subIn K (.ref C1) (.type "BaseException") = some true)
    (xT1 : PySem.W.typeIn K (.ref C1) = some (.type "type"))
    (xK1 : PySem.W.keepIn K (.ref C1) = true)
    (xI1 : PySem.W.findIn K (.ref C1) "__init__" = some (some (.ref x1)))
    (xY1 : PySem.W.typeIn K (.ref x1) = some (.type "function"))
    (xF1 : K.lookup x1 = some ⟨xo1, xw1, .func (fnC "__init__" "BadSize.__init__" (defArgs (cst 2 0)) (defBody (cst 2 0)) (defScope (cst 2 0)) xl1 .none xk1 xe1 xp1 xa1 (.ref xc1) xt1), xs1⟩)
    (xC1 : PySem.W.codeIn K (.ref xc1) "BadSize.__init__" = true)
    (xG1 : K.lookup xc1 = some ob1)
    (xD1 : ob1.data = .fields vs1)
    (xE1 : vs1[2]? = some (.str file1 tf1))
    (xH1 : ((PySem.Challenge.pw_surerails_k01_line_keeps_wires.main.file : Str) == file1) = true)
    (xM1 : K.lookup xl1 = some ov1)
    (xN1 : ov1.data = .cell (some (.ref C1)))
    (xS1 : PySem.W.ks_superIn K C1 C1 "__init__" = some (some (.builtin "ValueError.__init__")))
    (xV1 : PySem.W.subIn K (.ref C1) (.type "ValueError") = some true)
    (xU1 : PySem.W.subIn K (.ref C1) (.ref C1) = some true)
    (xZ1_8 : PySem.W.findIn K (.ref C1) "size" = some none)
    (xL2 : K.lookup C2 = some (excClassObj nm2 q2 C2 N2 bs2 bm2 true sn2 su2 ab2 co2 dd2 ka2 kb2 kc2 kd2 ke2 "ValueError.__new__"))
    (xr2 : PySem.HandSPX.refsVE bm2 = true)
    (xA2 : PySem.W.findIn K (.ref C2) "__setattr__" = some (some (.builtin "object.__setattr__")))
    (xB2 : PySem.W.subIn K (.ref C2) (.type "BaseException") = some true)
    (xT2 : PySem.W.typeIn K (.ref C2) = some (.type "type"))
    (xK2 : PySem.W.keepIn K (.ref C2) = true)
    (xI2 : PySem.W.findIn K (.ref C2) "__init__" = some (some (.ref x2)))
    (xY2 : PySem.W.typeIn K (.ref x2) = some (.type "function"))
    (xF2 : K.lookup x2 = some ⟨xo2, xw2, .func (fnC "__init__" "NoBox.__init__" (defArgs (cst 3 0)) (defBody (cst 3 0)) (defScope (cst 3 0)) xl2 .none xk2 xe2 xp2 xa2 (.ref xc2) xt2), xs2⟩)
    (xC2 : PySem.W.codeIn K (.ref xc2) "NoBox.__init__" = true)
    (xG2 : K.lookup xc2 = some ob2)
    (xD2 : ob2.data = .fields vs2)
    (xE2 : vs2[2]? = some (.str file2 tf2))
    (xH2 : ((PySem.Challenge.pw_surerails_k01_line_keeps_wires.main.file : Str) == file2) = true)
    (xM2 : K.lookup xl2 = some ov2)
    (xN2 : ov2.data = .cell (some (.ref C2)))
    (xS2 : PySem.W.ks_superIn K C2 C2 "__init__" = some (some (.builtin "ValueError.__init__")))
    (xV2 : PySem.W.subIn K (.ref C2) (.type "ValueError") = some true)
    (xU2 : PySem.W.subIn K (.ref C2) (.ref C2) = some true)
    (xZ2_13 : PySem.W.findIn K (.ref C2) "box" = some none)
    (xL3 : K.lookup C3 = some (excClassObj nm3 q3 C3 N3 bs3 bm3 true sn3 su3 ab3 co3 dd3 ka3 kb3 kc3 kd3 ke3 "ValueError.__new__"))
    (xr3 : PySem.HandSPX.refsVE bm3 = true)
    (xA3 : PySem.W.findIn K (.ref C3) "__setattr__" = some (some (.builtin "object.__setattr__")))
    (xB3 : PySem.W.subIn K (.ref C3) (.type "BaseException") = some true)
    (xT3 : PySem.W.typeIn K (.ref C3) = some (.type "type"))
    (xK3 : PySem.W.keepIn K (.ref C3) = true)
    (xI3 : PySem.W.findIn K (.ref C3) "__init__" = some (some (.ref x3)))
    (xY3 : PySem.W.typeIn K (.ref x3) = some (.type "function"))
    (xF3 : K.lookup x3 = some ⟨xo3, xw3, .func (fnC "__init__" "BadWire.__init__" (defArgs (cst 4 0)) (defBody (cst 4 0)) (defScope (cst 4 0)) xl3 .none xk3 xe3 xp3 xa3 (.ref xc3) xt3), xs3⟩)
    (xC3 : PySem.W.codeIn K (.ref xc3) "BadWire.__init__" = true)
    (xG3 : K.lookup xc3 = some ob3)
    (xD3 : ob3.data = .fields vs3)
    (xE3 : vs3[2]? = some (.str file3 tf3))
    (xH3 : ((PySem.Challenge.pw_surerails_k01_line_keeps_wires.main.file : Str) == file3) = true)
    (xM3 : K.lookup xl3 = some ov3)
    (xN3 : ov3.data = .cell (some (.ref C3)))
    (xS3 : PySem.W.ks_superIn K C3 C3 "__init__" = some (some (.builtin "ValueError.__init__")))
    (xV3 : PySem.W.subIn K (.ref C3) (.type "ValueError") = some true)
    (xU3 : PySem.W.subIn K (.ref C3) (.ref C3) = some true)
    (xZ3_12 : PySem.W.findIn K (.ref C3) "source" = some none)
    (xZ3_11 : PySem.W.findIn K (.ref C3) "target" = some none)
    (xL4 : K.lookup C4 = some (excClassObj nm4 q4 C4 N4 bs4 bm4 true sn4 su4 ab4 co4 dd4 ka4 kb4 kc4 kd4 ke4 "ValueError.__new__"))
    (xr4 : PySem.HandSPX.refsVE bm4 = true)
    (xA4 : PySem.W.findIn K (.ref C4) "__setattr__" = some (some (.builtin "object.__setattr__")))
    (xB4 : PySem.W.subIn K (.ref C4) (.type "BaseException") = some true)
    (xT4 : PySem.W.typeIn K (.ref C4) = some (.type "type"))
    (xK4 : PySem.W.keepIn K (.ref C4) = true)
    (xI4 : PySem.W.findIn K (.ref C4) "__init__" = some (some (.ref x4)))
    (xY4 : PySem.W.typeIn K (.ref x4) = some (.type "function"))
    (xF4 : K.lookup x4 = some ⟨xo4, xw4, .func (fnC "__init__" "BadBound.__init__" (defArgs (cst 5 0)) (defBody (cst 5 0)) (defScope (cst 5 0)) xl4 .none xk4 xe4 xp4 xa4 (.ref xc4) xt4), xs4⟩)
    (xC4 : PySem.W.codeIn K (.ref xc4) "BadBound.__init__" = true)
    (xG4 : K.lookup xc4 = some ob4)
    (xD4 : ob4.data = .fields vs4)
    (xE4 : vs4[2]? = some (.str file4 tf4))
    (xH4 : ((PySem.Challenge.pw_surerails_k01_line_keeps_wires.main.file : Str) == file4) = true)
    (xM4 : K.lookup xl4 = some ov4)
    (xN4 : ov4.data = .cell (some (.ref C4)))
    (xS4 : PySem.W.ks_superIn K C4 C4 "__init__" = some (some (.builtin "ValueError.__init__")))
    (xV4 : PySem.W.subIn K (.ref C4) (.type "ValueError") = some true)
    (xU4 : PySem.W.subIn K (.ref C4) (.ref C4) = some true)
    (xZ4_10 : PySem.W.findIn K (.ref C4) "later" = some none)
    (xZ4_9 : PySem.W.findIn K (.ref C4) "earlier" = some none)
    (xL5 : K.lookup C5 = some (excClassObj nm5 q5 C5 N5 bs5 bm5 true sn5 su5 ab5 co5 dd5 ka5 kb5 kc5 kd5 ke5 "ValueError.__new__"))
    (xr5 : PySem.HandSPX.refsVE bm5 = true)
    (xA5 : PySem.W.findIn K (.ref C5) "__setattr__" = some (some (.builtin "object.__setattr__")))
    (xB5 : PySem.W.subIn K (.ref C5) (.type "BaseException") = some true)
    (xT5 : PySem.W.typeIn K (.ref C5) = some (.type "type"))
    (xK5 : PySem.W.keepIn K (.ref C5) = true)
    (xI5 : PySem.W.findIn K (.ref C5) "__init__" = some (some (.ref x5)))
    (xY5 : PySem.W.typeIn K (.ref x5) = some (.type "function"))
    (xF5 : K.lookup x5 = some ⟨xo5, xw5, .func (fnC "__init__" "NoWire.__init__" (defArgs (cst 6 0)) (defBody (cst 6 0)) (defScope (cst 6 0)) xl5 .none xk5 xe5 xp5 xa5 (.ref xc5) xt5), xs5⟩)
    (xC5 : PySem.W.codeIn K (.ref xc5) "NoWire.__init__" = true)
    (xG5 : K.lookup xc5 = some ob5)
    (xD5 : ob5.data = .fields vs5)
    (xE5 : vs5[2]? = some (.str file5 tf5))
    (xH5 : ((PySem.Challenge.pw_surerails_k01_line_keeps_wires.main.file : Str) == file5) = true)
    (xM5 : K.lookup xl5 = some ov5)
    (xN5 : ov5.data = .cell (some (.ref C5)))
    (xS5 : PySem.W.ks_superIn K C5 C5 "__init__" = some (some (.builtin "ValueError.__init__")))
    (xV5 : PySem.W.subIn K (.ref C5) (.type "ValueError") = some true)
    (xU5 : PySem.W.subIn K (.ref C5) (.ref C5) = some true)
    (xZ5_12 : PySem.W.findIn K (.ref C5) "source" = some none)
    (xZ5_11 : PySem.W.findIn K (.ref C5) "target" = some none)
    (zs : PySem.W.nsIn K mainGlobals "super" = some none)
    (zo : PySem.W.nsIn K cStatics "thirdparty.any" = some none)
    (mk6 : PySem.W.makesIn K C6 = true)
    (mc6 : clsB K C6 = true)
    (mq6 : PySem.W.keepIn K (.ref C6) = true)
    (wb : wcB K (kk K C0 C1 C2 C3 C4 C5 C6) tl ct = true)
    (D : Nat) (ans : ∀ ns : List Int, ∃ h, Gam B D 43 [.frl ns] AH.nil = .ok (.bl true) h) :
    ∃ fd : FuncData, (∀ (s : Shared) (v : Value), BindsTo s fd ⟨[v], []⟩ [("_law_script", v)]) ∧ ∀ base : Heap, K.In base → base.Ns mainGlobals mg → FnG PySem.Challenge.pw_surerails_k01_line_keeps_wires w K mg base (L2.CX PySem.Challenge.pw_surerails_k01_line_keeps_wires w) (2 * D + 2) fa fd ["_law_script"] (spLaw K) := by
  have e := hfa.symm.trans (PySem.W.mg_of X G a43)
  have e2 : f43 = fa := by
    cases e
    rfl
  subst e2
  have sok : ∀ f sh, B.sok f sh = true → (f, sh) ∈ tl.sokL := fun f sh q => by
    have q : tl.sokL.contains (f, sh) = true := q
    simpa using q
  have D1 : FD (kk K C0 C1 C2 C3 C4 C5 C6) B ct K 1 f1 (PySem.W.fnOf "check_box" "check_box" (defArgs (st 8)) (defBody (st 8)) (defScope (st 8)) .none kV1 dc1 pm1 an1 cd1 ct1) p1 := by
    refine ⟨_, _, (st 8), n1, i1, _, _, _, _, _, _, _, _, _, _, rfl, l1, c1_, s1, rfl, rfl, rfl, k1, (fun _ => Binds.all fun us hl => match us, hl with | [_, _], _ => rfl), fun sh q => ?_⟩
    have q := sok 1 sh q
    exact absurd q (by simp [tl])
  have D2 : FD (kk K C0 C1 C2 C3 C4 C5 C6) B ct K 2 f2 (PySem.W.fnOf "checked_wires" "checked_wires" (defArgs (st 10)) (defBody (st 10)) (defScope (st 10)) .none kV2 dc2 pm2 an2 cd2 ct2) p2 := by
    refine ⟨_, _, (st 10), n2, i2, _, _, _, _, _, _, _, _, _, _, rfl, l2, c2_, s2, rfl, rfl, rfl, k2, (fun _ => Binds.all fun us hl => match us, hl with | [_, _], _ => rfl), fun sh q => ?_⟩
    have q := sok 2 sh q
    exact absurd q (by simp [tl])
  have D3 : FD (kk K C0 C1 C2 C3 C4 C5 C6) B ct K 3 f3 (PySem.W.fnOf "checked_bounds" "checked_bounds" (defArgs (st 11)) (defBody (st 11)) (defScope (st 11)) .none kV3 dc3 pm3 an3 cd3 ct3) p3 := by
    refine ⟨_, _, (st 11), n3, i3, _, _, _, _, _, _, _, _, _, _, rfl, l3, c3_, s3, rfl, rfl, rfl, k3, (fun _ => Binds.all fun us hl => match us, hl with | [_, _], _ => rfl), fun sh q => ?_⟩
    have q := sok 3 sh q
    exact absurd q (by simp [tl])
  have D4 : FD (kk K C0 C1 C2 C3 C4 C5 C6) B ct K 4 f4 (PySem.W.fnOf "ascending_wires" "ascending_wires" (defArgs (st 12)) (defBody (st 12)) (defScope (st 12)) .none kV4 dc4 pm4 an4 cd4 ct4) p4 := by
    refine ⟨_, _, (st 12), n4, i4, _, _, _, _, _, _, _, _, _, _, rfl, l4, c4_, s4, rfl, rfl, rfl, k4, (fun _ => Binds.all fun us hl => match us, hl with | [_], _ => rfl), fun sh q => ?_⟩
    have q := sok 4 sh q
    exact absurd q (by simp [tl])
  have D5 : FD (kk K C0 C1 C2 C3 C4 C5 C6) B ct K 5 f5 (PySem.W.fnOf "__init__" "Line.__init__" (defArgs (cst 13 0)) (defBody (cst 13 0)) (defScope (cst 13 0)) .none (.ref kD5) dc5 pm5 an5 cd5 ct5) p5 := by
    refine ⟨_, _, (cst 13 0), n5, i5, _, _, _, _, _, _, _, _, _, _, rfl, l5, c5_, s5, rfl, rfl, rfl, k5, (fun q => absurd q (by decide)), fun sh q => ?_⟩
    have q := sok 5 sh q
    have q : sh = 0 ∨ sh = 2 := by simpa [tl] using q
    rcases q with rfl | rfl
    · refine ⟨3, ["bounds"], _, rfl, rfl, ?_⟩
      exact sh_id (fun us ws l1 l2 => match us, ws, l1, l2 with | [_, _, _], [_], _, _ => rfl) rfl
    · refine ⟨3, [], _, rfl, rfl, ?_⟩
      exact sh_kw kD5 ["bounds"] [Value.ref kp5_0] (by simp [kq5_0]) (⟨dfl_empT ⟨_, _, kl5_0, rfl, rfl⟩, trivial⟩) (fun us ws l1 l2 => match us, ws, l1, l2 with | [_, _, _], [], _, _ => ⟨_, _, _, _, _, _, rfl, rfl, rfl⟩)
  have D6 : FD (kk K C0 C1 C2 C3 C4 C5 C6) B ct K 6 f6 (PySem.W.fnOf "wires" "Line.wires" (defArgs (cst 13 1)) (defBody (cst 13 1)) (defScope (cst 13 1)) .none kV6 dc6 pm6 an6 cd6 ct6) p6 := by
    refine ⟨_, _, (cst 13 1), n6, i6, _, _, _, _, _, _, _, _, _, _, rfl, l6, c6_, s6, rfl, rfl, rfl, k6, (fun _ => Binds.all fun us hl => match us, hl with | [_], _ => rfl), fun sh q => ?_⟩
    have q := sok 6 sh q
    exact absurd q (by simp [tl])
  have D7 : FD (kk K C0 C1 C2 C3 C4 C5 C6) B ct K 7 f7 (PySem.W.fnOf "bounds" "Line.bounds" (defArgs (cst 13 2)) (defBody (cst 13 2)) (defScope (cst 13 2)) .none kV7 dc7 pm7 an7 cd7 ct7) p7 := by
    refine ⟨_, _, (cst 13 2), n7, i7, _, _, _, _, _, _, _, _, _, _, rfl, l7, c7_, s7, rfl, rfl, rfl, k7, (fun _ => Binds.all fun us hl => match us, hl with | [_], _ => rfl), fun sh q => ?_⟩
    have q := sok 7 sh q
    exact absurd q (by simp [tl])
  have D8 : FD (kk K C0 C1 C2 C3 C4 C5 C6) B ct K 8 f8 (PySem.W.fnOf "wire" "Line.wire" (defArgs (cst 13 3)) (defBody (cst 13 3)) (defScope (cst 13 3)) .none kV8 dc8 pm8 an8 cd8 ct8) p8 := by
    refine ⟨_, _, (cst 13 3), n8, i8, _, _, _, _, _, _, _, _, _, _, rfl, l8, c8_, s8, rfl, rfl, rfl, k8, (fun _ => Binds.all fun us hl => match us, hl with | [_, _, _], _ => rfl), fun sh q => ?_⟩
    have q := sok 8 sh q
    exact absurd q (by simp [tl])
  have D33 : FD (kk K C0 C1 C2 C3 C4 C5 C6) B ct K 33 f33 (PySem.W.fnOf "sources" "Line.sources" (defArgs (cst 13 4)) (defBody (cst 13 4)) (defScope (cst 13 4)) .none kV33 dc33 pm33 an33 cd33 ct33) p33 := by
    refine ⟨_, _, (cst 13 4), n33, i33, _, _, _, _, _, _, _, _, _, _, rfl, l33, c33_, s33, rfl, rfl, rfl, k33, (fun _ => Binds.all fun us hl => match us, hl with | [_, _], _ => rfl), fun sh q => ?_⟩
    have q := sok 33 sh q
    have q : sh = 1 := by simpa [tl] using q
    rcases q with rfl
    · refine ⟨1, ["box"], _, rfl, rfl, ?_⟩
      exact sh_id (fun us ws l1 l2 => match us, ws, l1, l2 with | [_], [_], _, _ => rfl) rfl
  have D34 : FD (kk K C0 C1 C2 C3 C4 C5 C6) B ct K 34 f34 (PySem.W.fnOf "targets" "Line.targets" (defArgs (cst 13 5)) (defBody (cst 13 5)) (defScope (cst 13 5)) .none kV34 dc34 pm34 an34 cd34 ct34) p34 := by
    refine ⟨_, _, (cst 13 5), n34, i34, _, _, _, _, _, _, _, _, _, _, rfl, l34, c34_, s34, rfl, rfl, rfl, k34, (fun _ => Binds.all fun us hl => match us, hl with | [_, _], _ => rfl), fun sh q => ?_⟩
    have q := sok 34 sh q
    have q : sh = 1 := by simpa [tl] using q
    rcases q with rfl
    · refine ⟨1, ["box"], _, rfl, rfl, ?_⟩
      exact sh_id (fun us ws l1 l2 => match us, ws, l1, l2 with | [_], [_], _, _ => rfl) rfl
  have D11 : FD (kk K C0 C1 C2 C3 C4 C5 C6) B ct K 11 f11 (PySem.W.fnOf "_law_is_int" "_law_is_int" (defArgs (st 15)) (defBody (st 15)) (defScope (st 15)) .none kV11 dc11 pm11 an11 cd11 ct11) p11 := by
    refine ⟨_, _, (st 15), n11, i11, _, _, _, _, _, _, _, _, _, _, rfl, l11, c11_, s11, rfl, rfl, rfl, k11, (fun _ => Binds.all fun us hl => match us, hl with | [_], _ => rfl), fun sh q => ?_⟩
    have q := sok 11 sh q
    exact absurd q (by simp [tl])
  have D12 : FD (kk K C0 C1 C2 C3 C4 C5 C6) B ct K 12 f12 (PySem.W.fnOf "_law_cell" "_law_cell" (defArgs (st 16)) (defBody (st 16)) (defScope (st 16)) .none kV12 dc12 pm12 an12 cd12 ct12) p12 := by
    refine ⟨_, _, (st 16), n12, i12, _, _, _, _, _, _, _, _, _, _, rfl, l12, c12_, s12, rfl, rfl, rfl, k12, (fun _ => Binds.all fun us hl => match us, hl with | [_, _], _ => rfl), fun sh q => ?_⟩
    have q := sok 12 sh q
    exact absurd q (by simp [tl])
  have D13 : FD (kk K C0 C1 C2 C3 C4 C5 C6) B ct K 13 f13 (PySem.W.fnOf "_law_pen" "_law_pen" (defArgs (st 17)) (defBody (st 17)) (defScope (st 17)) .none kV13 dc13 pm13 an13 cd13 ct13) p13 := by
    refine ⟨_, _, (st 17), n13, i13, _, _, _, _, _, _, _, _, _, _, rfl, l13, c13_, s13, rfl, rfl, rfl, k13, (fun _ => Binds.all fun us hl => match us, hl with | [_, _], _ => rfl), fun sh q => ?_⟩
    have q := sok 13 sh q
    exact absurd q (by simp [tl])
  have D14 : FD (kk K C0 C1 C2 C3 C4 C5 C6) B ct K 14 f14 (PySem.W.fnOf "_law_take" "_law_take" (defArgs (st 18)) (defBody (st 18)) (defScope (st 18)) .none kV14 dc14 pm14 an14 cd14 ct14) p14 := by
    refine ⟨_, _, (st 18), n14, i14, _, _, _, _, _, _, _, _, _, _, rfl, l14, c14_, s14, rfl, rfl, rfl, k14, (fun _ => Binds.all fun us hl => match us, hl with | [_, _], _ => rfl), fun sh q => ?_⟩
    have q := sok 14 sh q
    exact absurd q (by simp [tl])
  have D15 : FD (kk K C0 C1 C2 C3 C4 C5 C6) B ct K 15 f15 (PySem.W.fnOf "_law_size" "_law_size" (defArgs (st 19)) (defBody (st 19)) (defScope (st 19)) .none kV15 dc15 pm15 an15 cd15 ct15) p15 := by
    refine ⟨_, _, (st 19), n15, i15, _, _, _, _, _, _, _, _, _, _, rfl, l15, c15_, s15, rfl, rfl, rfl, k15, (fun _ => Binds.all fun us hl => match us, hl with | [_], _ => rfl), fun sh q => ?_⟩
    have q := sok 15 sh q
    exact absurd q (by simp [tl])
  have D16 : FD (kk K C0 C1 C2 C3 C4 C5 C6) B ct K 16 f16 (PySem.W.fnOf "_law_wires" "_law_wires" (defArgs (st 20)) (defBody (st 20)) (defScope (st 20)) .none kV16 dc16 pm16 an16 cd16 ct16) p16 := by
    refine ⟨_, _, (st 20), n16, i16, _, _, _, _, _, _, _, _, _, _, rfl, l16, c16_, s16, rfl, rfl, rfl, k16, (fun _ => Binds.all fun us hl => match us, hl with | [_, _], _ => rfl), fun sh q => ?_⟩
    have q := sok 16 sh q
    exact absurd q (by simp [tl])
  have D17 : FD (kk K C0 C1 C2 C3 C4 C5 C6) B ct K 17 f17 (PySem.W.fnOf "_law_told" "_law_told" (defArgs (st 21)) (defBody (st 21)) (defScope (st 21)) .none kV17 dc17 pm17 an17 cd17 ct17) p17 := by
    refine ⟨_, _, (st 21), n17, i17, _, _, _, _, _, _, _, _, _, _, rfl, l17, c17_, s17, rfl, rfl, rfl, k17, (fun _ => Binds.all fun us hl => match us, hl with | [_, _], _ => rfl), fun sh q => ?_⟩
    have q := sok 17 sh q
    exact absurd q (by simp [tl])
  have D18 : FD (kk K C0 C1 C2 C3 C4 C5 C6) B ct K 18 f18 (PySem.W.fnOf "_law_plan_wires" "_law_plan_wires" (defArgs (st 22)) (defBody (st 22)) (defScope (st 22)) .none kV18 dc18 pm18 an18 cd18 ct18) p18 := by
    refine ⟨_, _, (st 22), n18, i18, _, _, _, _, _, _, _, _, _, _, rfl, l18, c18_, s18, rfl, rfl, rfl, k18, (fun _ => Binds.all fun us hl => match us, hl with | [_, _], _ => rfl), fun sh q => ?_⟩
    have q := sok 18 sh q
    exact absurd q (by simp [tl])
  have D19 : FD (kk K C0 C1 C2 C3 C4 C5 C6) B ct K 19 f19 (PySem.W.fnOf "_law_same" "_law_same" (defArgs (st 23)) (defBody (st 23)) (defScope (st 23)) .none kV19 dc19 pm19 an19 cd19 ct19) p19 := by
    refine ⟨_, _, (st 23), n19, i19, _, _, _, _, _, _, _, _, _, _, rfl, l19, c19_, s19, rfl, rfl, rfl, k19, (fun _ => Binds.all fun us hl => match us, hl with | [_, _], _ => rfl), fun sh q => ?_⟩
    have q := sok 19 sh q
    exact absurd q (by simp [tl])
  have D20 : FD (kk K C0 C1 C2 C3 C4 C5 C6) B ct K 20 f20 (PySem.W.fnOf "_law_mixed" "_law_mixed" (defArgs (st 24)) (defBody (st 24)) (defScope (st 24)) .none kV20 dc20 pm20 an20 cd20 ct20) p20 := by
    refine ⟨_, _, (st 24), n20, i20, _, _, _, _, _, _, _, _, _, _, rfl, l20, c20_, s20, rfl, rfl, rfl, k20, (fun _ => Binds.all fun us hl => match us, hl with | [_, _], _ => rfl), fun sh q => ?_⟩
    have q := sok 20 sh q
    exact absurd q (by simp [tl])
  have D21 : FD (kk K C0 C1 C2 C3 C4 C5 C6) B ct K 21 f21 (PySem.W.fnOf "_law_wide_hours" "_law_wide_hours" (defArgs (st 25)) (defBody (st 25)) (defScope (st 25)) .none kV21 dc21 pm21 an21 cd21 ct21) p21 := by
    refine ⟨_, _, (st 25), n21, i21, _, _, _, _, _, _, _, _, _, _, rfl, l21, c21_, s21, rfl, rfl, rfl, k21, (fun _ => Binds.all fun us hl => match us, hl with | [_, _], _ => rfl), fun sh q => ?_⟩
    have q := sok 21 sh q
    exact absurd q (by simp [tl])
  have D22 : FD (kk K C0 C1 C2 C3 C4 C5 C6) B ct K 22 f22 (PySem.W.fnOf "_law_ring_wires" "_law_ring_wires" (defArgs (st 26)) (defBody (st 26)) (defScope (st 26)) .none kV22 dc22 pm22 an22 cd22 ct22) p22 := by
    refine ⟨_, _, (st 26), n22, i22, _, _, _, _, _, _, _, _, _, _, rfl, l22, c22_, s22, rfl, rfl, rfl, k22, (fun _ => Binds.all fun us hl => match us, hl with | [_, _], _ => rfl), fun sh q => ?_⟩
    have q := sok 22 sh q
    exact absurd q (by simp [tl])
  have D23 : FD (kk K C0 C1 C2 C3 C4 C5 C6) B ct K 23 f23 (PySem.W.fnOf "_law_line" "_law_line" (defArgs (st 27)) (defBody (st 27)) (defScope (st 27)) .none kV23 dc23 pm23 an23 cd23 ct23) p23 := by
    refine ⟨_, _, (st 27), n23, i23, _, _, _, _, _, _, _, _, _, _, rfl, l23, c23_, s23, rfl, rfl, rfl, k23, (fun _ => Binds.all fun us hl => match us, hl with | [_], _ => rfl), fun sh q => ?_⟩
    have q := sok 23 sh q
    exact absurd q (by simp [tl])
  have D35 : FD (kk K C0 C1 C2 C3 C4 C5 C6) B ct K 35 f35 (PySem.W.fnOf "_law_wire" "_law_wire" (defArgs (st 28)) (defBody (st 28)) (defScope (st 28)) .none kV35 dc35 pm35 an35 cd35 ct35) p35 := by
    refine ⟨_, _, (st 28), n35, i35, _, _, _, _, _, _, _, _, _, _, rfl, l35, c35_, s35, rfl, rfl, rfl, k35, (fun _ => Binds.all fun us hl => match us, hl with | [_, _, _], _ => rfl), fun sh q => ?_⟩
    have q := sok 35 sh q
    exact absurd q (by simp [tl])
  have D36 : FD (kk K C0 C1 C2 C3 C4 C5 C6) B ct K 36 f36 (PySem.W.fnOf "_law_sources" "_law_sources" (defArgs (st 29)) (defBody (st 29)) (defScope (st 29)) .none kV36 dc36 pm36 an36 cd36 ct36) p36 := by
    refine ⟨_, _, (st 29), n36, i36, _, _, _, _, _, _, _, _, _, _, rfl, l36, c36_, s36, rfl, rfl, rfl, k36, (fun _ => Binds.all fun us hl => match us, hl with | [_, _], _ => rfl), fun sh q => ?_⟩
    have q := sok 36 sh q
    exact absurd q (by simp [tl])
  have D37 : FD (kk K C0 C1 C2 C3 C4 C5 C6) B ct K 37 f37 (PySem.W.fnOf "_law_targets" "_law_targets" (defArgs (st 30)) (defBody (st 30)) (defScope (st 30)) .none kV37 dc37 pm37 an37 cd37 ct37) p37 := by
    refine ⟨_, _, (st 30), n37, i37, _, _, _, _, _, _, _, _, _, _, rfl, l37, c37_, s37, rfl, rfl, rfl, k37, (fun _ => Binds.all fun us hl => match us, hl with | [_, _], _ => rfl), fun sh q => ?_⟩
    have q := sok 37 sh q
    exact absurd q (by simp [tl])
  have D38 : FD (kk K C0 C1 C2 C3 C4 C5 C6) B ct K 38 f38 (PySem.W.fnOf "_law_answers" "_law_answers" (defArgs (st 31)) (defBody (st 31)) (defScope (st 31)) .none kV38 dc38 pm38 an38 cd38 ct38) p38 := by
    refine ⟨_, _, (st 31), n38, i38, _, _, _, _, _, _, _, _, _, _, rfl, l38, c38_, s38, rfl, rfl, rfl, k38, (fun _ => Binds.all fun us hl => match us, hl with | [_, _], _ => rfl), fun sh q => ?_⟩
    have q := sok 38 sh q
    exact absurd q (by simp [tl])
  have D39 : FD (kk K C0 C1 C2 C3 C4 C5 C6) B ct K 39 f39 (PySem.W.fnOf "_law_due_wire" "_law_due_wire" (defArgs (st 32)) (defBody (st 32)) (defScope (st 32)) .none kV39 dc39 pm39 an39 cd39 ct39) p39 := by
    refine ⟨_, _, (st 32), n39, i39, _, _, _, _, _, _, _, _, _, _, rfl, l39, c39_, s39, rfl, rfl, rfl, k39, (fun _ => Binds.all fun us hl => match us, hl with | [_, _, _, _], _ => rfl), fun sh q => ?_⟩
    have q := sok 39 sh q
    exact absurd q (by simp [tl])
  have D40 : FD (kk K C0 C1 C2 C3 C4 C5 C6) B ct K 40 f40 (PySem.W.fnOf "_law_due" "_law_due" (defArgs (st 33)) (defBody (st 33)) (defScope (st 33)) .none kV40 dc40 pm40 an40 cd40 ct40) p40 := by
    refine ⟨_, _, (st 33), n40, i40, _, _, _, _, _, _, _, _, _, _, rfl, l40, c40_, s40, rfl, rfl, rfl, k40, (fun _ => Binds.all fun us hl => match us, hl with | [_, _, _], _ => rfl), fun sh q => ?_⟩
    have q := sok 40 sh q
    exact absurd q (by simp [tl])
  have D41 : FD (kk K C0 C1 C2 C3 C4 C5 C6) B ct K 41 f41 (PySem.W.fnOf "_law_spoil" "_law_spoil" (defArgs (st 34)) (defBody (st 34)) (defScope (st 34)) .none kV41 dc41 pm41 an41 cd41 ct41) p41 := by
    refine ⟨_, _, (st 34), n41, i41, _, _, _, _, _, _, _, _, _, _, rfl, l41, c41_, s41, rfl, rfl, rfl, k41, (fun _ => Binds.all fun us hl => match us, hl with | [_], _ => rfl), fun sh q => ?_⟩
    have q := sok 41 sh q
    exact absurd q (by simp [tl])
  have D42 : FD (kk K C0 C1 C2 C3 C4 C5 C6) B ct K 42 f42 (PySem.W.fnOf "_law_made" "_law_made" (defArgs (st 35)) (defBody (st 35)) (defScope (st 35)) .none kV42 dc42 pm42 an42 cd42 ct42) p42 := by
    refine ⟨_, _, (st 35), n42, i42, _, _, _, _, _, _, _, _, _, _, rfl, l42, c42_, s42, rfl, rfl, rfl, k42, (fun _ => Binds.all fun us hl => match us, hl with | [_, _, _, _], _ => rfl), fun sh q => ?_⟩
    have q := sok 42 sh q
    exact absurd q (by simp [tl])
  have D43 : FD (kk K C0 C1 C2 C3 C4 C5 C6) B ct K 43 f43 (PySem.W.fnOf "law" "law" (defArgs (st 36)) (defBody (st 36)) (defScope (st 36)) .none kV43 dc43 pm43 an43 cd43 ct43) p43 := by
    refine ⟨_, _, (st 36), n43, i43, _, _, _, _, _, _, _, _, _, _, rfl, l43, c43_, s43, rfl, rfl, rfl, k43, (fun _ => Binds.all fun us hl => match us, hl with | [_], _ => rfl), fun sh q => ?_⟩
    have q := sok 43 sh q
    exact absurd q (by simp [tl])
  refine ⟨PySem.W.fnOf "law" "law" (defArgs (st 36)) (defBody (st 36)) (defScope (st 36)) .none kV43 dc43 pm43 an43 cd43 ct43, fun s v => .of_eq rfl, fun base kb gb => ?_⟩
  have T1 : IniT PySem.Challenge.pw_surerails_k01_line_keeps_wires K mg C1 x1 (fnC "__init__" "BadSize.__init__" (defArgs (cst 2 0)) (defBody (cst 2 0)) (defScope (cst 2 0)) xl1 .none xk1 xe1 xp1 xa1 (.ref xc1) xt1) ["self", "size"] ["size"] := by
    refine ⟨⟨_, (cst 2 0), xc1, xl1, _, _, _, _, _, _, _, _, _, rfl, xF1, xC1, by decide +kernel, by decide +kernel, ⟨ob1, _, _, xG1, vs1, xD1, xE1, xH1⟩, ov1, xM1, xN1⟩, by decide +kernel, PySem.W.mg_none_of X G zs, ⟨⟨_, _, _, _, _, _, _, _, _, _, _, _, _, _, _, xL1, xr1⟩, xA1, xB1, xT1, xK1⟩, zo, xS1, xV1, xU1, ?_, rfl, by decide⟩
    exact fun f q => by
      simp only [List.mem_cons, List.not_mem_nil, or_false] at q
      subst q
      exact xZ1_8
  have b1 : Binds K (fnC "__init__" "BadSize.__init__" (defArgs (cst 2 0)) (defBody (cst 2 0)) (defScope (cst 2 0)) xl1 .none xk1 xe1 xp1 xa1 (.ref xc1) xt1) ["self", "size"] [] := Binds.all fun us hl => match us, hl with | [_, _], _ => rfl
  have T2 : IniT PySem.Challenge.pw_surerails_k01_line_keeps_wires K mg C2 x2 (fnC "__init__" "NoBox.__init__" (defArgs (cst 3 0)) (defBody (cst 3 0)) (defScope (cst 3 0)) xl2 .none xk2 xe2 xp2 xa2 (.ref xc2) xt2) ["self", "box"] ["box"] := by
    refine ⟨⟨_, (cst 3 0), xc2, xl2, _, _, _, _, _, _, _, _, _, rfl, xF2, xC2, by decide +kernel, by decide +kernel, ⟨ob2, _, _, xG2, vs2, xD2, xE2, xH2⟩, ov2, xM2, xN2⟩, by decide +kernel, PySem.W.mg_none_of X G zs, ⟨⟨_, _, _, _, _, _, _, _, _, _, _, _, _, _, _, xL2, xr2⟩, xA2, xB2, xT2, xK2⟩, zo, xS2, xV2, xU2, ?_, rfl, by decide⟩
    exact fun f q => by
      simp only [List.mem_cons, List.not_mem_nil, or_false] at q
      subst q
      exact xZ2_13
  have b2 : Binds K (fnC "__init__" "NoBox.__init__" (defArgs (cst 3 0)) (defBody (cst 3 0)) (defScope (cst 3 0)) xl2 .none xk2 xe2 xp2 xa2 (.ref xc2) xt2) ["self", "box"] [] := Binds.all fun us hl => match us, hl with | [_, _], _ => rfl
  have T3 : IniT PySem.Challenge.pw_surerails_k01_line_keeps_wires K mg C3 x3 (fnC "__init__" "BadWire.__init__" (defArgs (cst 4 0)) (defBody (cst 4 0)) (defScope (cst 4 0)) xl3 .none xk3 xe3 xp3 xa3 (.ref xc3) xt3) ["self", "source", "target"] ["source", "target"] := by
    refine ⟨⟨_, (cst 4 0), xc3, xl3, _, _, _, _, _, _, _, _, _, rfl, xF3, xC3, by decide +kernel, by decide +kernel, ⟨ob3, _, _, xG3, vs3, xD3, xE3, xH3⟩, ov3, xM3, xN3⟩, by decide +kernel, PySem.W.mg_none_of X G zs, ⟨⟨_, _, _, _, _, _, _, _, _, _, _, _, _, _, _, xL3, xr3⟩, xA3, xB3, xT3, xK3⟩, zo, xS3, xV3, xU3, ?_, rfl, by decide⟩
    exact fun f q => by
      simp only [List.mem_cons, List.not_mem_nil, or_false] at q
      rcases q with rfl | rfl
      · exact xZ3_12
      · exact xZ3_11
  have b3 : Binds K (fnC "__init__" "BadWire.__init__" (defArgs (cst 4 0)) (defBody (cst 4 0)) (defScope (cst 4 0)) xl3 .none xk3 xe3 xp3 xa3 (.ref xc3) xt3) ["self", "source", "target"] [] := Binds.all fun us hl => match us, hl with | [_, _, _], _ => rfl
  have T4 : IniT PySem.Challenge.pw_surerails_k01_line_keeps_wires K mg C4 x4 (fnC "__init__" "BadBound.__init__" (defArgs (cst 5 0)) (defBody (cst 5 0)) (defScope (cst 5 0)) xl4 .none xk4 xe4 xp4 xa4 (.ref xc4) xt4) ["self", "later", "earlier"] ["later", "earlier"] := by
    refine ⟨⟨_, (cst 5 0), xc4, xl4, _, _, _, _, _, _, _, _, _, rfl, xF4, xC4, by decide +kernel, by decide +kernel, ⟨ob4, _, _, xG4, vs4, xD4, xE4, xH4⟩, ov4, xM4, xN4⟩, by decide +kernel, PySem.W.mg_none_of X G zs, ⟨⟨_, _, _, _, _, _, _, _, _, _, _, _, _, _, _, xL4, xr4⟩, xA4, xB4, xT4, xK4⟩, zo, xS4, xV4, xU4, ?_, rfl, by decide⟩
    exact fun f q => by
      simp only [List.mem_cons, List.not_mem_nil, or_false] at q
      rcases q with rfl | rfl
      · exact xZ4_10
      · exact xZ4_9
  have b4 : Binds K (fnC "__init__" "BadBound.__init__" (defArgs (cst 5 0)) (defBody (cst 5 0)) (defScope (cst 5 0)) xl4 .none xk4 xe4 xp4 xa4 (.ref xc4) xt4) ["self", "later", "earlier"] [] := Binds.all fun us hl => match us, hl with | [_, _, _], _ => rfl
  have T5 : IniT PySem.Challenge.pw_surerails_k01_line_keeps_wires K mg C5 x5 (fnC "__init__" "NoWire.__init__" (defArgs (cst 6 0)) (defBody (cst 6 0)) (defScope (cst 6 0)) xl5 .none xk5 xe5 xp5 xa5 (.ref xc5) xt5) ["self", "source", "target"] ["source", "target"] := by
    refine ⟨⟨_, (cst 6 0), xc5, xl5, _, _, _, _, _, _, _, _, _, rfl, xF5, xC5, by decide +kernel, by decide +kernel, ⟨ob5, _, _, xG5, vs5, xD5, xE5, xH5⟩, ov5, xM5, xN5⟩, by decide +kernel, PySem.W.mg_none_of X G zs, ⟨⟨_, _, _, _, _, _, _, _, _, _, _, _, _, _, _, xL5, xr5⟩, xA5, xB5, xT5, xK5⟩, zo, xS5, xV5, xU5, ?_, rfl, by decide⟩
    exact fun f q => by
      simp only [List.mem_cons, List.not_mem_nil, or_false] at q
      rcases q with rfl | rfl
      · exact xZ5_12
      · exact xZ5_11
  have b5 : Binds K (fnC "__init__" "NoWire.__init__" (defArgs (cst 6 0)) (defBody (cst 6 0)) (defScope (cst 6 0)) xl5 .none xk5 xe5 xp5 xa5 (.ref xc5) xt5) ["self", "source", "target"] [] := Binds.all fun us hl => match us, hl with | [_, _, _], _ => rfl
  have M : Md (kk K C0 C1 C2 C3 C4 C5 C6) B ct PySem.Challenge.pw_surerails_k01_line_keeps_wires w K mg base := by
    refine ⟨fun x f q => ?_, fun c mm f q => ?_, fun x c f q1 q2 => ?_, fun x c ks q1 q2 => ?_, wc_ok X G wb, rfl⟩
    · have all : ∀ p ∈ ct.fns, ∃ a fd ps, FD (kk K C0 C1 C2 C3 C4 C5 C6) B ct K p.2 a fd ps ∧ mg p.1 = some (.ref a) ∧ PySem.W.keepIn K (.ref a) = true := by
        refine List.forall_mem_cons.mpr ⟨⟨f1, _, _, D1, PySem.W.mg_of X G a1, e1⟩, List.forall_mem_cons.mpr ⟨⟨f2, _, _, D2, PySem.W.mg_of X G a2, e2⟩, List.forall_mem_cons.mpr ⟨⟨f3, _, _, D3, PySem.W.mg_of X G a3, e3⟩, List.forall_mem_cons.mpr ⟨⟨f4, _, _, D4, PySem.W.mg_of X G a4, e4⟩, List.forall_mem_cons.mpr ⟨⟨f11, _, _, D11, PySem.W.mg_of X G a11, e11⟩, List.forall_mem_cons.mpr ⟨⟨f12, _, _, D12, PySem.W.mg_of X G a12, e12⟩, List.forall_mem_cons.mpr ⟨⟨f13, _, _, D13, PySem.W.mg_of X G a13, e13⟩, List.forall_mem_cons.mpr ⟨⟨f14, _, _, D14, PySem.W.mg_of X G a14, e14⟩, List.forall_mem_cons.mpr ⟨⟨f15, _, _, D15, PySem.W.mg_of X G a15, e15⟩, List.forall_mem_cons.mpr ⟨⟨f16, _, _, D16, PySem.W.mg_of X G a16, e16⟩, List.forall_mem_cons.mpr ⟨⟨f17, _, _, D17, PySem.W.mg_of X G a17, e17⟩, List.forall_mem_cons.mpr ⟨⟨f18, _, _, D18, PySem.W.mg_of X G a18, e18⟩, List.forall_mem_cons.mpr ⟨⟨f19, _, _, D19, PySem.W.mg_of X G a19, e19⟩, List.forall_mem_cons.mpr ⟨⟨f20, _, _, D20, PySem.W.mg_of X G a20, e20⟩, List.forall_mem_cons.mpr ⟨⟨f21, _, _, D21, PySem.W.mg_of X G a21, e21⟩, List.forall_mem_cons.mpr ⟨⟨f22, _, _, D22, PySem.W.mg_of X G a22, e22⟩, List.forall_mem_cons.mpr ⟨⟨f23, _, _, D23, PySem.W.mg_of X G a23, e23⟩, List.forall_mem_cons.mpr ⟨⟨f35, _, _, D35, PySem.W.mg_of X G a35, e35⟩, List.forall_mem_cons.mpr ⟨⟨f36, _, _, D36, PySem.W.mg_of X G a36, e36⟩, List.forall_mem_cons.mpr ⟨⟨f37, _, _, D37, PySem.W.mg_of X G a37, e37⟩, List.forall_mem_cons.mpr ⟨⟨f38, _, _, D38, PySem.W.mg_of X G a38, e38⟩, List.forall_mem_cons.mpr ⟨⟨f39, _, _, D39, PySem.W.mg_of X G a39, e39⟩, List.forall_mem_cons.mpr ⟨⟨f40, _, _, D40, PySem.W.mg_of X G a40, e40⟩, List.forall_mem_cons.mpr ⟨⟨f41, _, _, D41, PySem.W.mg_of X G a41, e41⟩, List.forall_mem_cons.mpr ⟨⟨f42, _, _, D42, PySem.W.mg_of X G a42, e42⟩, List.forall_mem_cons.mpr ⟨⟨f43, _, _, D43, PySem.W.mg_of X G a43, e43⟩, fun _ z => (nomatch z)⟩⟩⟩⟩⟩⟩⟩⟩⟩⟩⟩⟩⟩⟩⟩⟩⟩⟩⟩⟩⟩⟩⟩⟩⟩⟩
      exact all _ (mem_look q)
    · have all : ∀ p ∈ tl.mtL, Cls K ((kk K C0 C1 C2 C3 C4 C5 C6).C p.1.1) ∧ ∃ a fd ps, Meth K ((kk K C0 C1 C2 C3 C4 C5 C6).C p.1.1) ((kk K C0 C1 C2 C3 C4 C5 C6).F p.1.2) a ∧ FD (kk K C0 C1 C2 C3 C4 C5 C6) B ct K p.2 a fd ps := by
        refine List.forall_mem_cons.mpr ⟨⟨clsB_ok mc6, f6, _, _, ⟨a6, g6, e6⟩, D6⟩, List.forall_mem_cons.mpr ⟨⟨clsB_ok mc6, f7, _, _, ⟨a7, g7, e7⟩, D7⟩, List.forall_mem_cons.mpr ⟨⟨clsB_ok mc6, f8, _, _, ⟨a8, g8, e8⟩, D8⟩, List.forall_mem_cons.mpr ⟨⟨clsB_ok mc6, f33, _, _, ⟨a33, g33, e33⟩, D33⟩, List.forall_mem_cons.mpr ⟨⟨clsB_ok mc6, f34, _, _, ⟨a34, g34, e34⟩, D34⟩, fun _ z => (nomatch z)⟩⟩⟩⟩⟩
      exact all _ (mem_look q)
    · have all : ∀ p ∈ tl.iniL, ∃ a fd ps, Mk K ((kk K C0 C1 C2 C3 C4 C5 C6).C p.1) a ∧ FD (kk K C0 C1 C2 C3 C4 C5 C6) B ct K p.2 a fd ps := by
        refine List.forall_mem_cons.mpr ⟨⟨f5, _, _, ⟨mk6, a5, g5, mq6⟩, D5⟩, fun _ z => (nomatch z)⟩
      exact ⟨(wc_ok X G wb).cls x c q1, all _ (mem_look q2)⟩
    · have all : ∀ p ∈ tl.exfL, OexC K ((kk K C0 C1 C2 C3 C4 C5 C6).C p.1) ∧ p.2 ≠ [] ∧ p.2.length ≤ 1000 ∧ ∃ fI fd ps, PySem.W.findIn K (.ref ((kk K C0 C1 C2 C3 C4 C5 C6).C p.1)) "__init__" = some (some (.ref fI)) ∧ PySem.W.typeIn K (.ref fI) = some (.type "function") ∧ FnOk PySem.Challenge.pw_surerails_k01_line_keeps_wires w K mg base CX0 2 fI fd ps (SPX (kk K C0 C1 C2 C3 C4 C5 C6) p.1 p.2) ∧ Binds K fd ps [] := by
        refine List.forall_mem_cons.mpr ⟨⟨T1.T, by decide, by decide, x1, _, _, xI1, xY1, ini_ok T1 (fun vs H Q E ⟨a, ws, q1, q2, _, q3, q4, q5⟩ => ⟨a, ws, q1, q2, q3, q4, q5⟩) (by decide), b1⟩, List.forall_mem_cons.mpr ⟨⟨T2.T, by decide, by decide, x2, _, _, xI2, xY2, ini_ok T2 (fun vs H Q E ⟨a, ws, q1, q2, _, q3, q4, q5⟩ => ⟨a, ws, q1, q2, q3, q4, q5⟩) (by decide), b2⟩, List.forall_mem_cons.mpr ⟨⟨T3.T, by decide, by decide, x3, _, _, xI3, xY3, ini_ok T3 (fun vs H Q E ⟨a, ws, q1, q2, _, q3, q4, q5⟩ => ⟨a, ws, q1, q2, q3, q4, q5⟩) (by decide), b3⟩, List.forall_mem_cons.mpr ⟨⟨T4.T, by decide, by decide, x4, _, _, xI4, xY4, ini_ok T4 (fun vs H Q E ⟨a, ws, q1, q2, _, q3, q4, q5⟩ => ⟨a, ws, q1, q2, q3, q4, q5⟩) (by decide), b4⟩, List.forall_mem_cons.mpr ⟨⟨T5.T, by decide, by decide, x5, _, _, xI5, xY5, ini_ok T5 (fun vs H Q E ⟨a, ws, q1, q2, _, q3, q4, q5⟩ => ⟨a, ws, q1, q2, q3, q4, q5⟩) (by decide), b5⟩, fun _ z => (nomatch z)⟩⟩⟩⟩⟩
      obtain ⟨z1, z2, z3, z4⟩ := all _ (mem_look q2)
      exact ⟨z1, (wc_ok X G wb).cls x c q1, z2, z3, z4⟩
  exact (fn_ok M D D43).run.imp fun vs H Q E => law_sp2 (κ := kk K C0 C1 C2 C3 C4 C5 C6) ans
end
end Tk01
set_option Elab.async false
set_option maxRecDepth 100000
set_option maxHeartbeats 4000000
/-! PnSp: what the laws' pens do. -/
namespace Mi
open PySem Cd
def Pen (h : AH) (p : Nat) : Prop := ∃ a t r : Int, h.get p = some (.lst [.int a, .int t, .int r])
theorem Pen.lt {h : AH} {p : Nat} (P : Pen h p) : p < h.n := by
  obtain ⟨a, t, r, e⟩ := P
  exact AH.get_lt e
theorem Pen.fr {S : List Nat} {h h' : AH} {p : Nat} (P : Pen h p) (F : Fr S h h') (ne : p ∉ S) : Pen h' p := by
  obtain ⟨a, t, r, e⟩ := P
  exact ⟨a, t, r, F.get e ne⟩
structure PenB (B : Tb) : Prop where
  cell : B.fn 12 = some i12
  pen : B.fn 13 = some i13
  take : B.fn 14 = some i14
  p12 : B.pln 12 = true
  p13 : B.pln 13 = true
  p14 : B.pln 14 = true
section
variable {B : Tb} {n : Nat} {h : AH} {Q : AV → AH → Prop} {X : Nat → List (Nat × AV) → AH → Prop}
theorem take_sp (hB : PenB B) {p : Nat} {s : Int} (P : Pen h p) (h1 : 0 < s) (h2 : s < 1073741824)
    (k : ∀ (d : Int) h', 0 ≤ d → d < s → Pen h' p → Fr [p] h h' → Q (.int d) h') : RW (Gam B (n + 1) 14 [.ref p, .int s] h) Q X := by
  obtain ⟨a, t, r, e⟩ := P
  refine enter hB.take (by simp [i14]) ?_
  have pu : ∀ {u o : AO}, h.get p = some o → (h.put p u).get p = some u := fun {u o} q => AH.get_put_same q
  simp only [i14, c14, List.map_cons, List.map_nil, List.cons_append, List.nil_append, List.replicate]
  have e' := pu (u := .lst [.int a, .int (t + 1), .int r]) e
  refine cut (fun τ h' => τ = [some (.ref p), some (.int s), none, none] ∧ h' = h.put p (.lst [.int a, .int (t + 1), .int r])) (by simp [e, L2.atI, L2.ixN]) ?_
  rintro τ h' ⟨rfl, rfl⟩
  refine cut (fun τ h' => τ = [some (.ref p), some (.int s), none, none] ∧ h' = h.put p (.lst [.int a, .int (t + 1), .int r])) ?_ ?_
  · simp [e', L2.atI, L2.ixN]
    refine BW_dec (fun c1 => ?_) (fun c1 => ?_)
    · simp [e', L2.atI, L2.ixN]
      refine BW_dec (fun c2 => ?_) (fun c2 => ?_)
      · simp [e', L2.atI, L2.ixN, h1, h2, AH.put_put]
        exact k _ _ (Int.emod_nonneg _ (by omega)) (Int.emod_lt_of_pos _ h1) ⟨_, _, _, pu e⟩ (Fr.put (by simp))
      · simp [c2]
    · simp [c1]
  · rintro τ h' ⟨rfl, rfl⟩
    simp [e', L2.atI, L2.ixN, h1, h2]
    refine ⟨by left; omega, by left; omega, ?_⟩
    exact k _ _ (Int.emod_nonneg _ (by omega)) (Int.emod_lt_of_pos _ h1) ⟨_, _, _, e'⟩ (Fr.put (by simp))
theorem cell_sp (hB : PenB B) {ns : List Int} {i : Int} (h0 : 0 ≤ i) (k : ∀ d : Int, Q (.int d) h) : RW (Gam B (n + 1) 12 [.frl ns, .int i] h) Q X := by
  refine enter hB.cell (by simp [i12]) ?_
  simp only [i12, c12, List.map_cons, List.map_nil, List.cons_append, List.nil_append, List.replicate]
  simp
  refine BW_dec (fun c => ?_) (fun c => ?_)
  · obtain ⟨x, _, _, e⟩ := atI_ok h0 c
    simp [e, k]
  · simp [k]
theorem pen_sp (hB : PenB B) {ns : List Int} {i : Int} (h0 : 0 ≤ i) (k : ∀ h', h'.n = h.n + 1 → Pen h' h.n → Fr [] h h' → Q (.ref h.n) h') : RW (Gam B (n + 2) 13 [.frl ns, .int i] h) Q X := by
  refine enter hB.pen (by simp [i13]) ?_
  simp only [i13, c13, List.map_cons, List.map_nil, List.cons_append, List.nil_append, List.replicate]
  simp [hB.p12]
  refine cell_sp hB h0 fun d => ?_
  simp [sizeLine]
  exact k _ rfl ⟨_, _, _, AH.get_push_new⟩ Fr.push
end
end Mi
set_option Elab.async false
set_option maxRecDepth 100000
set_option maxHeartbeats 4000000
/-! LnSp: the laws' lines. -/
namespace Mi
open PySem Cd
abbrev W := Int × Int × Int × Option Int
abbrev Bd := Int × Int × Int
def oAV : Option Int → AV
  | none => .non
  | some i => .int i
def wAV (w : W) : AV := .tup [.int w.1, .int w.2.1, .int w.2.2.1, oAV w.2.2.2]
def bAV (b : Bd) : AV := .tup [.int b.1, .int b.2.1, .int b.2.2]
@[simp] theorem oAV_n : oAV none = .non := rfl
@[simp] theorem oAV_s {i : Int} : oAV (some i) = .int i := rfl
def wp (w : W) : Int × Int := (w.1, w.2.1)
def bp (b : Bd) : Int × Int := (b.1, b.2.1)
def pAV (p : Int × Int) : AV := .tup [.int p.1, .int p.2]
structure WOk (s : Int) (w : W) : Prop where
  s0 : 0 ≤ w.1
  s1 : w.1 < s
  t0 : 0 ≤ w.2.1
  t1 : w.2.1 < s
  ne : w.1 ≠ w.2.1
  lo : 1 ≤ w.2.2.1
  hi : ∀ x, w.2.2.2 = some x → w.2.2.1 ≤ x
  up : w.2.2.1 ≤ 4000000000
  hu : ∀ x, w.2.2.2 = some x → x ≤ 4000000000
structure BOk (s : Int) (b : Bd) : Prop where
  s0 : 0 ≤ b.1
  s1 : b.1 < s
  t0 : 0 ≤ b.2.1
  t1 : b.2.1 < s
  ne : b.1 ≠ b.2.1
  lo : 0 ≤ b.2.2
  up : b.2.2 ≤ 4000000000
/-- wires as a law draws them: each in order, ascending -/
structure WsA (s : Int) (ws : List W) : Prop where
  ok : ∀ w ∈ ws, WOk s w
  asc : Asc wp ws
  len : ws.length ≤ 100
structure BsA (s : Int) (bs : List Bd) : Prop where
  ok : ∀ b ∈ bs, BOk s b
  asc : Asc bp bs
  len : bs.length ≤ 100
structure LineB (B : Tb) : Prop extends PenB B where
  e15 : B.fn 15 = some i15
  e16 : B.fn 16 = some i16
  e17 : B.fn 17 = some i17
  e18 : B.fn 18 = some i18
  e21 : B.fn 21 = some i21
  e22 : B.fn 22 = some i22
  e23 : B.fn 23 = some i23
  p15 : B.pln 15 = true
  p16 : B.pln 16 = true
  p17 : B.pln 17 = true
  p18 : B.pln 18 = true
  p21 : B.pln 21 = true
  p22 : B.pln 22 = true
  p23 : B.pln 23 = true
section
variable {B : Tb} {n : Nat} {h : AH} {Q : AV → AH → Prop} {X : Nat → List (Nat × AV) → AH → Prop}
theorem size_sp (hB : LineB B) {p : Nat} (P : Pen h p) (k : ∀ (d : Int) h', 1 ≤ d → d ≤ 4 → Pen h' p → Fr [p] h h' → Q (.int d) h') : RW (Gam B (n + 2) 15 [.ref p] h) Q X := by
  refine enter hB.e15 (by simp [i15]) ?_
  simp only [i15, c15, List.map_cons, List.map_nil, List.cons_append, List.nil_append, List.replicate]
  simp [hB.p14, sizeLine]
  have P1 : Pen (h.push (.lst [.int 2, .int 3, .int 2, .int 3, .int 2, .int 3, .int 4, .int 1])) p := P.fr Fr.push (S := []) (by simp)
  refine take_sp hB.toPenB P1 (by omega) (by omega) fun d h' d0 d1 P' F' => ?_
  have F0 : Fr [p] h h' := Fr.push.trans F'
  have g := F'.get (a := h.n) AH.get_push_new (by have := P.lt; simp; omega)
  simp [g]
  have : d = 0 ∨ d = 1 ∨ d = 2 ∨ d = 3 ∨ d = 4 ∨ d = 5 ∨ d = 6 ∨ d = 7 := by omega
  rcases this with rfl | rfl | rfl | rfl | rfl | rfl | rfl | rfl <;> simp [L2.atI, L2.ixN] <;> exact k _ _ (by omega) (by omega) P' F0
/-- what the list in the making is, up to a place -/
structure WsTo (s : Int) (i j : Int) (ws : List W) : Prop where
  ok : ∀ w ∈ ws, WOk s w ∧ (w.1 < i ∨ (w.1 = i ∧ w.2.1 < j))
  asc : Asc wp ws
  len : (ws.length : Int) ≤ 6 * i + j
theorem WsTo.nil {s : Int} : WsTo s 0 0 [] := ⟨by simp, List.Pairwise.nil, by simp⟩
theorem WsTo.mono {s i j i' j' : Int} {ws : List W} (w : WsTo s i j ws) (q : i < i' ∨ (i = i' ∧ j ≤ j')) (l : 6 * i + j ≤ 6 * i' + j') : WsTo s i' j' ws :=
  ⟨fun x hx => ⟨(w.ok x hx).1, by have := (w.ok x hx).2; omega⟩, w.asc, by have := w.len; omega⟩
theorem WsTo.snoc {s i j lo : Int} {hi : Option Int} {ws : List W} (w : WsTo s i j ws) (hi0 : 0 ≤ i) (hi1 : i < s) (hj0 : 0 ≤ j) (hj1 : j < s) (ne : i ≠ j) (h1 : 1 ≤ lo ∧ lo ≤ 4000000000) (h2 : ∀ x, hi = some x → lo ≤ x ∧ x ≤ 4000000000) : WsTo s i (j + 1) (ws ++ [(i, j, lo, hi)]) := by
  refine ⟨fun x hx => ?_, ?_, ?_⟩
  · rcases List.mem_append.mp hx with hx | hx
    · exact ⟨(w.ok x hx).1, by have := (w.ok x hx).2; omega⟩
    · obtain rfl := List.mem_singleton.mp hx
      exact ⟨⟨hi0, hi1, hj0, hj1, ne, h1.1, fun x e => (h2 x e).1, h1.2, fun x e => (h2 x e).2⟩, by simp; omega⟩
  · refine List.pairwise_append.mpr ⟨w.asc, by simp, fun a ha b hb => ?_⟩
    obtain rfl := List.mem_singleton.mp hb
    exact (w.ok a ha).2
  · have := w.len
    simp
    omega
theorem WsTo.done {s : Int} {ws : List W} (w : WsTo s s 0 ws) (hs : s ≤ 6) : WsA s ws := ⟨fun x hx => (w.ok x hx).1, w.asc, by have := w.len; omega⟩
/-- the walk over all pairs of boxes: what holds ahead of the pair i, j -/
def WI (p : Nat) (s : Int) (r : Nat) (h0 : AH) (pre : List (Option AV)) (sz : Nat) (i j : Int) (τ : Frame) (h : AH) : Prop :=
  ∃ rest : List (Option AV), τ = some (.ref p) :: some (.int s) :: some (.ref r) :: (pre ++ rest) ∧ rest.length = sz ∧ Pen h p ∧ Fr [p] h0 h ∧ ∃ ws : List W, h.get r = some (.lst (ws.map wAV)) ∧ WsTo s i j ws
theorem WI.mk {p : Nat} {s : Int} {r : Nat} {h0 : AH} {pre : List (Option AV)} {sz : Nat} {i j : Int} {τ : Frame} {h : AH} (rest : List (Option AV)) (e : τ = some (.ref p) :: some (.int s) :: some (.ref r) :: (pre ++ rest)) (hl : rest.length = sz) (P : Pen h p) (F : Fr [p] h0 h)
    (ws : List W) (g : h.get r = some (.lst (ws.map wAV))) (w : WsTo s i j ws) : WI p s r h0 pre sz i j τ h := ⟨rest, e, hl, P, F, ws, g, w⟩
/-- one wire more -/
theorem WI.snoc {p : Nat} {s : Int} {r : Nat} {h0 h : AH} {pre : List (Option AV)} {sz : Nat} {i j lo : Int} {hi : Option Int} {τ : Frame} {ws : List W} (rest : List (Option AV)) (e : τ = some (.ref p) :: some (.int s) :: some (.ref r) :: (pre ++ rest)) (hl : rest.length = sz) (P : Pen h p) (F : Fr [p] h0 h)
    (hr : h0.n ≤ r) (hp : p < h0.n) (g : h.get r = some (.lst (ws.map wAV))) (w : WsTo s i j ws) (hi0 : 0 ≤ i) (hi1 : i < s) (hj0 : 0 ≤ j) (hj1 : j < s) (ne : i ≠ j) (h1 : 1 ≤ lo ∧ lo ≤ 4000000000) (h2 : ∀ x, hi = some x → lo ≤ x ∧ x ≤ 4000000000) :
    WI p s r h0 pre sz i (j + 1) τ (h.put r (.lst (ws.map wAV ++ [.tup [.int i, .int j, .int lo, oAV hi]]))) :=
  WI.mk rest e hl (P.fr (S := [r]) (Fr.put (by simp)) (by simp; omega)) (F.trans2 (S' := [r]) (Fr.put (by simp)) (by simp; omega)) (ws ++ [(i, j, lo, hi)]) (by rw [AH.get_put_same g]; simp [wAV]) (w.snoc hi0 hi1 hj0 hj1 ne h1 h2)
theorem plan_sp (hB : LineB B) {p : Nat} {s : Int} (P : Pen h p) (s1 : 1 ≤ s) (s6 : s ≤ 6)
    (k : ∀ r h' ws, h.n ≤ r → h'.get r = some (.lst (ws.map wAV)) → WsA s ws → Pen h' p → Fr [p] h h' → Q (.ref r) h') : RW (Gam B (n + 2) 18 [.ref p, .int s] h) Q X := by
  refine enter hB.e18 (by simp [i18]) ?_
  simp only [i18, c18, List.map_cons, List.map_nil, List.cons_append, List.nil_append, List.replicate]
  simp [sizeLine]
  have hp := P.lt
  refine ⟨by omega, for_range0 (fun i τ h' => WI p s h.n h [] 3 i 0 τ h') (WI.mk _ rfl rfl (P.fr (S := []) Fr.push (by simp)) Fr.push [] (by simp) WsTo.nil) ?_ ?_⟩
  · rintro i τ h1 hi ⟨rest, rfl, hl, P1, F1, ws, g1, w1⟩
    obtain ⟨a, b, c, rfl⟩ := rest3 hl
    simp [b18_2]
    refine ⟨by omega, for_range0 (fun j τ h' => WI p s h.n h [some (.int i)] 2 i j τ h') (WI.mk _ rfl rfl P1 F1 ws g1 (by simpa using w1)) ?_ ?_⟩
    · rintro j τ h2 hj ⟨rest, rfl, hl, P2, F2, ws, g2, w2⟩
      obtain ⟨b, c, rfl⟩ := rest2 hl
      simp [b18_1]
      refine BW_dec (fun c1 => ?_) (fun c1 => ?_)
      · simp [hB.p14]
        refine take_sp hB.toPenB P2 (by omega) (by omega) fun d h3 d0 d1 P3 F3 => ?_
        have g3 := F3.get g2 (by simp; omega)
        simp [g3, hB.p14]
        refine take_sp hB.toPenB P3 (by omega) (by omega) fun d' h4 d0' d1' P4 F4 => ?_
        have g4 := F4.get g3 (by simp; omega)
        have hws := w2.len
        simp [g4, sizeLine]
        exact ⟨by omega, WI.snoc (hi := some (1 + d + d')) _ rfl rfl P4 ((F2.trans F3).trans F4) (Nat.le_refl _) hp g4 w2 (by omega) (by omega) (by omega) (by omega) (by intro z; rw [z] at c1; simp at c1) (by omega) (by simp; omega)⟩
      · simp
        exact WI.mk _ rfl rfl P2 F2 ws g2 (w2.mono (by omega) (by omega))
    · rintro τ h2 ⟨rest, rfl, hl, P2, F2, ws, g2, w2⟩
      simp
      exact WI.mk (_ :: rest) rfl (by simp [hl]) P2 F2 ws g2 (w2.mono (by omega) (by omega))
  · rintro τ h1 ⟨rest, rfl, hl, P1, F1, ws, g1, w1⟩
    simp
    refine k _ _ ws (Nat.le_refl _) g1 (WsTo.done (s := s) ?_ s6) P1 F1
    have : ((s.toNat : Nat) : Int) = s := by omega
    rwa [this] at w1
theorem wires_sp (hB : LineB B) {p : Nat} {s : Int} (P : Pen h p) (s1 : 1 ≤ s) (s6 : s ≤ 6)
    (k : ∀ r h' ws, h.n ≤ r → h'.get r = some (.lst (ws.map wAV)) → WsA s ws → Pen h' p → Fr [p] h h' → Q (.ref r) h') : RW (Gam B (n + 2) 16 [.ref p, .int s] h) Q X := by
  refine enter hB.e16 (by simp [i16]) ?_
  simp only [i16, c16, List.map_cons, List.map_nil, List.cons_append, List.nil_append, List.replicate]
  simp [sizeLine]
  have hp := P.lt
  refine ⟨by omega, for_range0 (fun i τ h' => WI p s h.n h [] 6 i 0 τ h') (WI.mk _ rfl rfl (P.fr (S := []) Fr.push (by simp)) Fr.push [] (by simp) WsTo.nil) ?_ ?_⟩
  · rintro i τ h1 hi ⟨rest, rfl, hl, P1, F1, ws, g1, w1⟩
    obtain ⟨a, b, c, d, e, f, rfl⟩ := rest6 hl
    simp [b16_2]
    refine ⟨by omega, for_range0 (fun j τ h' => WI p s h.n h [some (.int i)] 5 i j τ h') (WI.mk _ rfl rfl P1 F1 ws g1 (by simpa using w1)) ?_ ?_⟩
    · rintro j τ h2 hj ⟨rest, rfl, hl, P2, F2, ws, g2, w2⟩
      obtain ⟨a, b, c, u, v, rfl⟩ := rest5 hl
      simp [b16_1, hB.p14]
      refine take_sp hB.toPenB P2 (by omega) (by omega) fun kd h3 d0 d1 P3 F3 => ?_
      have g3 := F3.get g2 (by simp; omega)
      refine cut (fun τ h' => τ = [some (.ref p), some (.int s), some (.ref h.n), some (.int i), some (.int j), some (.int kd), some (.bl (decide ((i : Int) - j = 1 ∨ (i : Int) - j = -1))), u, v] ∧ h' = h3) (by simp [abs1]) ?_
      rintro _ _ ⟨rfl, rfl⟩
      simp only [s_cons, s_nil]
      refine ite_pure ((i : Int) ≠ j) True (by simp [BWp]; omega) (fun c1 => ?_) fun _ => ?_
      · simp [hB.p14]
        refine take_sp hB.toPenB P3 (by omega) (by omega) fun d h4 d0 d1 P4 F4 => ?_
        have g4 := F4.get g3 (by simp; omega)
        simp [g4, hB.p14]
        refine take_sp hB.toPenB P4 (by omega) (by omega) fun d' h5 d0' d1' P5 F5 => ?_
        have g5 := F5.get g4 (by simp; omega)
        have hws := w2.len
        have fin : ∀ (z : Option AV) (hi : Option Int), (∀ x, hi = some x → 1 + d ≤ x ∧ x ≤ 4000000000) → WI p s h.n h [some (.int i)] 5 i (j + 1) [some (.ref p), some (.int s), some (.ref h.n), some (.int i), some (.int j), some (.int kd), z, some (.int (1 + d)), some (oAV hi)] (h5.put h.n (.lst (ws.map wAV ++ [.tup [.int i, .int j, .int (1 + d), oAV hi]]))) := fun z hi q => WI.snoc (pre := [some (.int i)]) (hi := hi) _ rfl rfl P5 (((F2.trans F3).trans F4).trans F5) (Nat.le_refl _) hp g5 w2 (by omega) (by omega) (by omega) (by omega) c1 (by omega) q
        simp
        refine BW_dec (fun c2 => ?_) (fun c2 => ?_)
        · simp [g5, sizeLine]
          exact ⟨by omega, fin _ none (by simp)⟩
        · simp [g5, sizeLine]
          exact ⟨by omega, fin _ (some (1 + d + d')) (by simp; omega)⟩
      · simp
        exact WI.mk _ rfl rfl P3 (F2.trans F3) ws g3 (w2.mono (by omega) (by omega))
    · rintro τ h2 ⟨rest, rfl, hl, P2, F2, ws, g2, w2⟩
      simp
      exact WI.mk (_ :: rest) rfl (by simp [hl]) P2 F2 ws g2 (w2.mono (by omega) (by omega))
  · rintro τ h1 ⟨rest, rfl, hl, P1, F1, ws, g1, w1⟩
    simp
    refine k _ _ ws (Nat.le_refl _) g1 (WsTo.done (s := s) ?_ s6) P1 F1
    have : ((s.toNat : Nat) : Int) = s := by omega
    rwa [this] at w1
theorem ring_sp (hB : LineB B) {p : Nat} {s : Int} (P : Pen h p) (s1 : 1 ≤ s) (s6 : s ≤ 6)
    (k : ∀ r h' ws, h.n ≤ r → h'.get r = some (.lst (ws.map wAV)) → WsA s ws → Pen h' p → Fr [p] h h' → Q (.ref r) h') : RW (Gam B (n + 2) 22 [.ref p, .int s] h) Q X := by
  refine enter hB.e22 (by simp [i22]) ?_
  simp only [i22, c22, List.map_cons, List.map_nil, List.cons_append, List.nil_append, List.replicate]
  simp [sizeLine]
  have hp := P.lt
  refine ⟨by omega, for_range0 (fun i τ h' => WI p s h.n h [] 3 i 0 τ h') (WI.mk _ rfl rfl (P.fr (S := []) Fr.push (by simp)) Fr.push [] (by simp) WsTo.nil) ?_ ?_⟩
  · rintro i τ h1 hi ⟨rest, rfl, hl, P1, F1, ws, g1, w1⟩
    obtain ⟨a, b, c, rfl⟩ := rest3 hl
    simp [b22_1, -s_ite]
    refine cut2 (fun τ h' => τ = [some (.ref p), some (.int s), some (.ref h.n), some (.int i), some (.int (if (i : Int) + 1 = s then 0 else (i : Int) + 1)), c] ∧ h' = h1) ?_ ?_
    · refine ite_pure ((i : Int) + 1 = s) ((i : Int) + 1 ≠ s) (by simp; omega) (fun c1 => ?_) fun c1 => ?_
      · simp [c1]
      · simp [c1]
    · rintro _ _ ⟨rfl, rfl⟩
      have ht : 0 ≤ (if (i : Int) + 1 = s then 0 else (i : Int) + 1) ∧ (if (i : Int) + 1 = s then 0 else (i : Int) + 1) < s := by split <;> omega
      generalize (if (i : Int) + 1 = s then 0 else (i : Int) + 1) = t at ht ⊢
      obtain ⟨t0, t1⟩ := ht
      simp [-s_ite]
      refine ite_pure (t ≠ i) True (by simp; omega) (fun c1 => ?_) fun _ => ?_
      · simp [hB.p14]
        refine take_sp hB.toPenB P1 (by omega) (by omega) fun d h3 d0 d1 P3 F3 => ?_
        have g3 := F3.get g1 (by simp; omega)
        simp [g3, hB.p14]
        refine take_sp hB.toPenB P3 (by omega) (by omega) fun d' h4 d0' d1' P4 F4 => ?_
        have g4 := F4.get g3 (by simp; omega)
        have hws := w1.len
        simp [g4, sizeLine]
        have w2 : WsTo s i t ws := w1.mono (by omega) (by omega)
        obtain ⟨rest, e, hl, P5, F5, ws, g5, w5⟩ := WI.snoc (pre := []) (lo := 1 + d) (hi := some (1 + d + d')) [some (.int i), some (.int t), some (.int (1 + d))] rfl rfl P4 ((F1.trans F3).trans F4) (Nat.le_refl _) hp g4 w2 (by omega) (by omega) t0 t1 (fun z => c1 z.symm) (by omega) (by simp; omega)
        exact ⟨by omega, WI.mk _ e hl P5 F5 ws g5 (w5.mono (by omega) (by omega))⟩
      · simp
        exact WI.mk [_, _, _] rfl rfl P1 F1 ws g1 (w1.mono (by omega) (by omega))
  · rintro τ h1 ⟨rest, rfl, hl, P1, F1, ws, g1, w1⟩
    simp
    refine k _ _ ws (Nat.le_refl _) g1 (WsTo.done (s := s) ?_ s6) P1 F1
    have : ((s.toNat : Nat) : Int) = s := by omega
    rwa [this] at w1
theorem in_pairs {ps : List (Int × Int)} {a b : Int} : inO (some (.lst (ps.map pAV))) (.tup [.int a, .int b]) h = some (decide ((a, b) ∈ ps)) := by
  have e1 : dat h 60 (.tup [.int a, .int b]) = some (.tuple [.int a, .int b]) := rfl
  have e2 : mapO (dat h 60) (ps.map pAV) = some (ps.map fun p => PyData.tuple [.int p.1, .int p.2]) := mapO_map fun _ _ => rfl
  show ((dat h 60 (.tup [.int a, .int b])).bind fun d => (mapO (dat h 60) (ps.map pAV)).map fun ds => ds.any fun z => PyData.eqv z d) = _
  rw [e1, e2]
  show some (List.any (ps.map _) _) = _
  congr 1
  rw [List.any_map, Bool.eq_iff_iff]
  simp only [List.any_eq_true, decide_eq_true_eq, Function.comp]
  constructor
  · rintro ⟨⟨x, y⟩, hx, e⟩
    have : x = a ∧ y = b := by simpa [PyData.eqv, PyData.eqvAll] using e
    rwa [this.1, this.2] at hx
  · exact fun hx => ⟨_, hx, by simp [PyData.eqv, PyData.eqvAll]⟩
/-- clock bounds in the making -/
structure BsP (s : Int) (i : Nat) (bs : List Bd) : Prop where
  ok : ∀ b ∈ bs, BOk s b
  dst : Dst bp bs
  len : bs.length ≤ i
theorem told_sp (hB : LineB B) {p : Nat} {s : Int} (P : Pen h p) (s1 : 1 ≤ s) (s6 : s ≤ 6)
    (k : ∀ r h' bs, h.n ≤ r → h'.get r = some (.lst (bs.map bAV)) → BsA s bs → bs.length ≤ 2 → Pen h' p → Fr [p] h h' → Q (.ref r) h') : RW (Gam B (n + 2) 17 [.ref p, .int s] h) Q X := by
  refine enter hB.e17 (by simp [i17]) ?_
  simp only [i17, c17, List.map_cons, List.map_nil, List.cons_append, List.nil_append, List.replicate]
  simp [sizeLine, hB.p14]
  have hp := P.lt
  refine take_sp hB.toPenB (P.fr (S := []) Fr.push (by simp)) (by omega) (by omega) fun N h1 N0 N1 P1 F1 => ?_
  have g1 := F1.get (AH.get_push_new (h := h) (o := .lst [])) (by simp; omega)
  simp
  refine ⟨by omega, for_range0 (fun i τ h' => Hd [some (.ref p), some (.int s), some (.ref h.n)] 5 τ ∧ Pen h' p ∧ Fr [p] h h' ∧ ∃ bs : List Bd, h'.get h.n = some (.lst (bs.map bAV)) ∧ BsP s i bs) ?_ ?_ ?_⟩
  · exact ⟨Hd.of rfl rfl, P1, (Fr.push (S := [p])).trans F1, [], by simpa using g1, ⟨by simp, List.Pairwise.nil, by simp⟩⟩
  · rintro i τ h2 hi ⟨⟨rest, rfl, hl⟩, P2, F2, bs, g2, ⟨ok, ds, hlen⟩⟩
    obtain ⟨a, b, c, u, v, rfl⟩ := rest5 hl
    simp [b17_1, hB.p14]
    refine take_sp hB.toPenB P2 (by omega) (by omega) fun x h3 x0 x1 P3 F3 => ?_
    have g3 := F3.get g2 (by simp; omega)
    simp [hB.p14]
    refine take_sp hB.toPenB P3 (by omega) (by omega) fun y h4 y0 y1 P4 F4 => ?_
    have g4 := F4.get g3 (by simp; omega)
    simp [g4]
    have hl4 := AH.get_lt g4
    have P5 : Pen (h4.push (.lst ((bs.map bp).map pAV))) p := P4.fr (S := []) Fr.push (by simp)
    have F5 : Fr [p] h (h4.push (.lst ((bs.map bp).map pAV))) := ((F2.trans F3).trans F4).trans Fr.push
    have g5 : (h4.push (.lst ((bs.map bp).map pAV))).get h.n = some (.lst (bs.map bAV)) := AH.get_push_old g4
    refine lc_rule bAV bs (fun d acc h' => acc = (d.map bp).map pAV ∧ h' = h4) ⟨rfl, rfl⟩ ?_ ?_
    · rintro d x' r acc h' e ⟨rfl, rfl⟩
      have hd := congrArg List.length e
      simp at hd
      simp [g4, sizeLine, bAV, L2.atI, L2.ixN, bp, pAV]
      omega
    · rintro acc h' ⟨rfl, rfl⟩
      refine ⟨by simpa using g4, ?_⟩
      have g6 : (h'.push (.lst ((bs.map bp).map pAV))).get h'.n = some (.lst ((bs.map bp).map pAV)) := AH.get_push_new
      generalize h'.push (.lst ((bs.map bp).map pAV)) = h5 at P5 F5 g5 g6 ⊢
      simp [-s_ite, -List.map_map]
      refine ite_pure (x ≠ y ∧ (x, y) ∉ bs.map bp) True (by simp [BWp, g6, in_pairs, -List.map_map, -List.mem_map]; grind) (fun c1 => ?_) fun _ => ?_
      · simp [g5, hB.p14]
        refine take_sp hB.toPenB P5 (by omega) (by omega) fun m h6 m0 m1 P6 F6 => ?_
        have g7 := F6.get g5 (by simp; omega)
        simp [g7, sizeLine]
        refine ⟨by omega, Hd.of rfl rfl, P6.fr (S := [h.n]) (Fr.put (by simp)) (by simp; omega), (F5.trans F6).trans2 (S' := [h.n]) (Fr.put (by simp)) (by simp), bs ++ [(x, y, m)], by rw [AH.get_put_same g7]; try simp [bAV], ⟨?_, ?_, by simp; omega⟩⟩
        · intro b hb
          rcases List.mem_append.mp hb with hb | hb
          · exact ok b hb
          · obtain rfl := List.mem_singleton.mp hb
            exact ⟨x0, x1, y0, y1, c1.1, m0, by show m ≤ 4000000000; omega⟩
        · refine List.pairwise_append.mpr ⟨ds, by simp, fun a ha b hb => ?_⟩
          obtain rfl := List.mem_singleton.mp hb
          exact fun e => c1.2 (List.mem_map.mpr ⟨a, ha, e⟩)
      · simp
        exact ⟨Hd.of rfl rfl, P5, F5, bs, g5, ⟨ok, ds, by omega⟩⟩
  · rintro τ h2 ⟨⟨rest, rfl, hl⟩, P2, F2, bs, g2, ⟨ok, ds, hlen⟩⟩
    simp [g2]
    rw [sortA_hd bAV bp (fun b => [(0, b.2.2)]) (fun b _ => rfl) (fun _ => rfl) ds]
    simp
    have hl2 := AH.get_lt g2
    have pm := srtB_perm (ltQ bp) bs
    refine k _ _ _ (by omega) AH.get_push_new ⟨fun b hb => ok b (pm.mem_iff.mp hb), srtB_asc ds, by rw [pm.length_eq]; omega⟩ (by rw [pm.length_eq]; omega) (P2.fr (S := []) Fr.push (by simp)) (F2.trans Fr.push)
theorem asc_map {α β : Type} {kp : α → Int × Int} {kq : β → Int × Int} {l : List α} {m : List β} (e : m.map kq = l.map kp) (h : Asc kp l) : Asc kq m := by
  have h1 : (l.map kp).Pairwise ltP := List.pairwise_map.mpr h
  rw [← e] at h1
  exact List.pairwise_map.mp h1
/-- other hours -/
structure WdP (s : Int) (ws ws' : List W) : Prop where
  eq : ws'.map wp = ws.map wp
  ok : ∀ w ∈ ws', WOk s w
theorem WdP.len {s : Int} {ws ws' : List W} (h : WdP s ws ws') : ws'.length = ws.length := by
  have := congrArg List.length h.eq
  simpa using this
theorem WdP.done {s : Int} {ws ws' : List W} (h : WdP s ws ws') (w : WsA s ws) : WsA s ws' := ⟨h.ok, asc_map h.eq w.asc, by rw [h.len]; exact w.len⟩
theorem WdP.snoc {s : Int} {d ws' : List W} {w w' : W} (h : WdP s d ws') (e : wp w' = wp w) (ok : WOk s w') : WdP s (d ++ [w]) (ws' ++ [w']) := ⟨by simp [h.eq, e], fun x hx => by
  rcases List.mem_append.mp hx with hx | hx
  · exact h.ok x hx
  · obtain rfl := List.mem_singleton.mp hx
    exact ok⟩
theorem wide_sp (hB : LineB B) {p r0 : Nat} {s : Int} {ws : List W} (P : Pen h p) (g0 : h.get r0 = some (.lst (ws.map wAV))) (ne : r0 ≠ p) (wa : WsA s ws)
    (k : ∀ r h' ws, h.n ≤ r → h'.get r = some (.lst (ws.map wAV)) → WsA s ws → Pen h' p → Fr [p] h h' → Q (.ref r) h') : RW (Gam B (n + 2) 21 [.ref p, .ref r0] h) Q X := by
  refine enter hB.e21 (by simp [i21]) ?_
  simp only [i21, c21, List.map_cons, List.map_nil, List.cons_append, List.nil_append, List.replicate]
  have hp := P.lt
  have hr0 := AH.get_lt g0
  refine cut (fun τ h' => ∃ m : Int, τ = [some (.ref p), some (.ref r0), some (.int m), none, none, none, none, none] ∧ 0 < m ∧ m < 1073741824 ∧ Pen h' p ∧ Fr [p] h h') ?_ ?_
  · simp [hB.p14]
    refine take_sp hB.toPenB (P.fr (S := []) Fr.push (by simp)) (by omega) (by omega) fun d h1 d0 d1 P1 F1 => ?_
    have g1 := F1.get (AH.get_push_new (h := h) (o := .lst [.int 20, .int 100000, .int 400000000])) (by simp; omega)
    have F0 : Fr [p] h h1 := Fr.push.trans F1
    simp [g1]
    have : d = 0 ∨ d = 1 ∨ d = 2 := by omega
    rcases this with rfl | rfl | rfl <;> simp [L2.atI, L2.ixN, P1, F0]
  · rintro _ h1 ⟨m, rfl, m0, m1, P1, F1⟩
    have g1 := F1.get g0 (by simpa using ne)
    have hr1 := AH.get_lt g1
    have le1 := F1.le
    simp
    have g2 : (h1.push (.lst [])).get r0 = some (.lst (ws.map wAV)) := AH.get_push_old g1
    simp [g2]
    refine for_rule wAV ws (fun d _ τ h' => Hd [some (.ref p), some (.ref r0), some (.int m), some (.ref h1.n)] 4 τ ∧ Pen h' p ∧ Fr [p] h h' ∧ h'.get r0 = some (.lst (ws.map wAV)) ∧ ∃ ws', h'.get h1.n = some (.lst (ws'.map wAV)) ∧ WdP s d ws') ?_ ?_ ?_
    · exact ⟨Hd.of rfl rfl, P1.fr (S := []) Fr.push (by simp), F1.trans Fr.push, g2, [], by simp, ⟨rfl, by simp⟩⟩
    · rintro d ⟨a, b, lo, hi⟩ rr τ h2 e ⟨⟨rest, rfl, hl⟩, P2, F2, g3, ws', g4, wd⟩
      have wx := wa.ok (a, b, lo, hi) (by rw [← e]; simp)
      have hlen : d.length + rr.length + 1 = ws.length := by rw [← e]; simp; omega
      have hwl := wa.len
      have hwd := wd.len
      refine ⟨by simpa using g3, ?_⟩
      obtain ⟨x1, x2, x3, x4, rfl⟩ := rest4 hl
      simp [b21_1, wAV, hB.p14]
      refine take_sp hB.toPenB P2 (by omega) (by omega) fun d1 h3 d0 d1' P3 F3 => ?_
      have g5 := F3.get g3 (by simpa using ne)
      have g6 := F3.get g4 (by simp; omega)
      simp
      have fin : ∀ (hi' : Option Int) h4, Pen h4 p → Fr [p] h3 h4 → (∀ x, hi' = some x → 1 + d1 ≤ x ∧ x ≤ 4000000000) →
          Hd [some (.ref p), some (.ref r0), some (.int m), some (.ref h1.n)] 4 [some (.ref p), some (.ref r0), some (.int m), some (.ref h1.n), some (.int a), some (.int b), some (.int (1 + d1)), some (oAV hi')] ∧
          Pen (h4.put h1.n (.lst (ws'.map wAV ++ [.tup [.int a, .int b, .int (1 + d1), oAV hi']]))) p ∧ Fr [p] h (h4.put h1.n (.lst (ws'.map wAV ++ [.tup [.int a, .int b, .int (1 + d1), oAV hi']]))) ∧
          (h4.put h1.n (.lst (ws'.map wAV ++ [.tup [.int a, .int b, .int (1 + d1), oAV hi']]))).get r0 = some (.lst (ws.map wAV)) ∧ ∃ ws'', (h4.put h1.n (.lst (ws'.map wAV ++ [.tup [.int a, .int b, .int (1 + d1), oAV hi']]))).get h1.n = some (.lst (ws''.map wAV)) ∧ WdP s (d ++ [(a, b, lo, hi)]) ws'' := fun hi' h4 P4 F4 q => by
        refine ⟨Hd.of rfl rfl, P4.fr (S := [h1.n]) (Fr.put (by simp)) (by simp; omega), ((F2.trans F3).trans F4).trans2 (S' := [h1.n]) (Fr.put (by simp)) (by simp; omega), ?_, ws' ++ [(a, b, 1 + d1, hi')], ?_, ?_⟩
        · rw [AH.get_put_ne (by omega)]
          exact F4.get g5 (by simpa using ne)
        · rw [AH.get_put_same (F4.get g6 (by simp; omega))]
          simp [wAV]
        · exact wd.snoc rfl ⟨wx.s0, wx.s1, wx.t0, wx.t1, wx.ne, (by show 1 ≤ 1 + d1; omega), fun x e => (q x e).1, (by show 1 + d1 ≤ 4000000000; omega), fun x e => (q x e).2⟩
      cases hi with
      | none =>
        simp [g6, sizeLine]
        exact ⟨by omega, fin none h3 P3 Fr.refl (by simp)⟩
      | some y =>
        simp [hB.p14]
        refine take_sp hB.toPenB P3 (by omega) (by omega) fun d2 h4 d0 d1' P4 F4 => ?_
        have g7 := F4.get g6 (by simp; omega)
        simp [g7, sizeLine]
        exact ⟨by omega, fin (some (1 + d1 + d2)) h4 P4 F4 (by simp; omega)⟩
    · rintro τ h2 ⟨⟨rest, rfl, hl⟩, P2, F2, g3, ws', g4, wd⟩
      refine ⟨by simpa using g3, ?_⟩
      simp
      exact k _ _ ws' (by omega) g4 (wd.done wa) P2 F2
/-- a line as it is drawn -/
structure LnD (h0 : AH) (s : Int) (rw : Nat) (ws : List W) (rt : Nat) (bs : List Bd) (h : AH) : Prop where
  s1 : 1 ≤ s
  s6 : s ≤ 6
  fw : h0.n ≤ rw
  gw : h.get rw = some (.lst (ws.map wAV))
  wa : WsA s ws
  ft : h0.n ≤ rt
  gt : h.get rt = some (.lst (bs.map bAV))
  ba : BsA s bs
  b2 : bs.length ≤ 2
  fr : Fr [] h0 h
theorem Fr.fresh {S : List Nat} {h0 h h' : AH} (F : Fr [] h0 h) (F' : Fr S h h') (q : ∀ a ∈ S, h0.n ≤ a) : Fr [] h0 h' := F.trans2 F' fun a ha l => absurd (q a ha) (by omega)
theorem LnD.mono {h0 h h' : AH} {S : List Nat} {s : Int} {rw rt : Nat} {ws : List W} {bs : List Bd} (L : LnD h0 s rw ws rt bs h) (F : Fr S h h') (q : ∀ a ∈ S, h0.n ≤ a ∧ a ≠ rw ∧ a ≠ rt) : LnD h0 s rw ws rt bs h' :=
  { L with
    gw := F.get L.gw fun z => (q _ z).2.1 rfl
    gt := F.get L.gt fun z => (q _ z).2.2 rfl
    fr := L.fr.fresh F fun a ha => (q a ha).1 }
theorem WsA.sub {s : Int} {ws ws' : List W} (h : WsA s ws) (q : ws'.Sublist ws) : WsA s ws' := ⟨fun w hw => h.ok w (q.subset hw), h.asc.sublist q, Nat.le_trans q.length_le h.len⟩
theorem WsA.nil {s : Int} : WsA s [] := ⟨by simp, List.Pairwise.nil, by simp⟩
theorem line_sp (hB : LineB B) {ns : List Int} (k : ∀ s rw ws rt bs h', LnD h s rw ws rt bs h' → Q (.tup [.int s, .ref rw, .ref rt]) h') : RW (Gam B (n + 3) 23 [.frl ns] h) Q X := by
  refine enter hB.e23 (by simp [i23]) ?_
  simp only [i23, c23, List.map_cons, List.map_nil, List.cons_append, List.nil_append, List.replicate]
  simp [-s_ite, hB.p13, hB.p15]
  refine pen_sp hB.toPenB (by omega) fun h1 n1 P1 F1 => ?_
  simp [-s_ite, hB.p15]
  refine size_sp hB P1 fun s h2 s1 s4 P2 F2 => ?_
  simp [-s_ite]
  have F02 : Fr [] h h2 := F1.fresh F2 (by simp)
  refine cut2 (fun τ h' => Bx (∃ s : Int, ∃ rw ws, Tq τ [some (.frl ns), some (.ref h.n), some (.int s), none, none, some (.ref rw), none] ∧ 1 ≤ s ∧ s ≤ 6 ∧ h.n ≤ rw ∧ h'.get rw = some (.lst (ws.map wAV)) ∧ WsA s ws ∧ Fr [] h h')) ?_ ?_
  · simp [hB.p14]
    refine take_sp hB.toPenB P2 (by omega) (by omega) fun d h3 d0 d1 P3 F3 => ?_
    have F03 := F02.fresh F3 (by simp)
    have l3 := F03.le
    simp
    refine BW_dec (fun c1 => ?_) fun c1 => ?_
    · simp [hB.p14]
      refine take_sp hB.toPenB P3 (by omega) (by omega) fun d h4 d0 d1 P4 F4 => ?_
      have F04 := F03.fresh F4 (by simp)
      have l4 := F04.le
      simp [hB.p18]
      refine plan_sp hB P4 (by omega) (by omega) fun r h5 ws hr g5 w5 P5 F5 => ?_
      simp
      exact .mk ⟨_, _, ws, ⟨rfl⟩, by omega, by omega, by omega, g5, w5, F04.fresh F5 (by simp)⟩
    · simp [hB.p16]
      refine wires_sp hB P3 (by omega) (by omega) fun r h5 ws hr g5 w5 P5 F5 => ?_
      simp
      exact .mk ⟨_, _, ws, ⟨rfl⟩, by omega, by omega, by omega, g5, w5, F03.fresh F5 (by simp)⟩
  · rintro _ h3 ⟨s, rw, ws, ⟨rfl⟩, s1, s6, hr, g3, w3, F3⟩
    have l3 := F3.le
    have r3 := AH.get_lt g3
    simp [-s_ite, hB.p13, hB.p17]
    refine pen_sp hB.toPenB (by omega) fun h4 n4 P4 F4 => ?_
    simp [-s_ite]
    refine told_sp hB P4 s1 s6 fun rt h5 bs hrt g5 b5 bl5 P5 F5 => ?_
    simp [-s_ite, hB.p13, hB.p14]
    have L5 : LnD h s rw ws rt bs h5 := ⟨s1, s6, hr, F5.get (F4.get0 g3) (by simp; omega), w3, by omega, g5, b5, bl5, (F3.trans F4).fresh F5 (by simp; omega)⟩
    have lt5 := AH.get_lt g5
    have l5 := L5.fr.le
    refine pen_sp hB.toPenB (by omega) fun h6 n6 P6 F6 => ?_
    simp [-s_ite, hB.p14]
    refine take_sp hB.toPenB P6 (by omega) (by omega) fun kd h7 d0 d1 P7 F7 => ?_
    have rw5 := AH.get_lt L5.gw
    have L7 : LnD h s rw ws rt bs h7 := (L5.mono F6 (by simp)).mono F7 (by simp; omega)
    simp [-s_ite]
    refine cut2 (fun τ h' => Bx (∃ rw ws rt bs kd rr, Tq τ [some (.frl ns), some (.ref h5.n), some (.int s), some (.ref rt), kd, some (.ref rw), rr] ∧ LnD h s rw ws rt bs h')) ?_ ?_
    · simp
      have l7 := L7.fr.le
      have hw7 := L7.gw
      have lw7 := AH.get_lt hw7
      have ht7 := L7.gt
      have lt7 := AH.get_lt ht7
      have p7 := P7.lt
      refine BW_dec (fun c1 => ?_) fun c1 => ?_
      · simp
        exact .mk ⟨_, [], rt, bs, _, _, ⟨rfl⟩, { L7.mono (S := []) (Fr.push (o := .lst [])) (by simp) with fw := by omega, gw := by simp, wa := WsA.nil }⟩
      simp
      refine BW_dec (fun c2 => ?_) fun c2 => ?_
      · simp [hw7]
        refine lc_rule wAV ws (fun d acc h' => Bx (∃ ws', acc = ws'.map wAV ∧ ws'.Sublist d ∧ Pen h' h5.n ∧ LnD h s rw ws rt bs h')) (.mk ⟨[], rfl, .slnil, P7, L7⟩) ?_ ?_
        · rintro d x r acc h8 e ⟨ws', rfl, sb, P8, L8⟩
          have hl := sb.length_le
          have hl2 := congrArg List.length e
          have hl3 := w3.len
          have hl4 := L7.wa.len
          simp at hl2
          refine ⟨by simpa using L8.gw, by simp; omega, ?_⟩
          simp [hB.p14]
          refine take_sp hB.toPenB P8 (by omega) (by omega) fun z h9 z0 z1 P9 F9 => ?_
          have L9 : LnD h s rw ws rt bs h9 := L8.mono F9 (by simp; omega)
          simp
          refine BW_dec (fun c3 => ?_) fun c3 => ?_
          · simp [-List.map_append]
            exact .mk ⟨ws' ++ [x], by simp, sb.append (List.Sublist.refl _), P9, L9⟩
          · exact .mk ⟨ws', by simp, sb.trans (List.sublist_append_left _ _), P9, L9⟩
        · rintro acc h8 ⟨ws', rfl, sb, P8, L8⟩
          refine ⟨by simpa using L8.gw, ?_⟩
          have l8 := L8.fr.le
          simp
          exact .mk ⟨_, ws', rt, bs, _, _, ⟨rfl⟩, { L8.mono (S := []) (Fr.push (o := .lst (ws'.map wAV))) (by simp) with fw := by omega, gw := by simp, wa := L8.wa.sub sb }⟩
      simp
      refine BW_dec (fun c3 => ?_) fun c3 => ?_
      · simp [hB.p22]
        refine ring_sp hB P7 s1 s6 fun r h8 ws' hr g8 w8 P8 F8 => ?_
        simp
        exact .mk ⟨_, ws', rt, bs, _, _, ⟨rfl⟩, { L7.mono F8 (by simp; omega) with fw := by omega, gw := g8, wa := w8 }⟩
      simp
      refine BW_dec (fun c4 => ?_) fun c4 => ?_
      · simp [hB.p21]
        refine wide_sp hB P7 hw7 (by omega) L7.wa fun r h8 ws' hr g8 w8 P8 F8 => ?_
        have L8 : LnD h s r ws' rt bs h8 := { L7.mono F8 (by simp; omega) with fw := by omega, gw := g8, wa := w8 }
        have r8 := AH.get_lt g8
        simp [L8.gt]
        refine lc_rule bAV bs (fun d acc h' => Bx (∃ bs', acc = bs'.map bAV ∧ bs'.map bp = d.map bp ∧ (∀ b ∈ bs', BOk s b) ∧ Pen h' h5.n ∧ LnD h s r ws' rt bs h')) (.mk ⟨[], rfl, rfl, by simp, P8, L8⟩) ?_ ?_
        · rintro d ⟨a, b, m⟩ rr acc h9 e ⟨bs', rfl, eq, ok, P9, L9⟩
          have hl := congrArg List.length eq
          have hl2 := congrArg List.length e
          have hl3 := L9.ba.len
          have bo := L9.ba.ok (a, b, m) (by rw [← e]; simp)
          simp at hl2 hl
          refine ⟨by simpa using L9.gt, by simp; omega, ?_⟩
          simp [hB.p14, bAV, L2.atI, L2.ixN]
          refine take_sp hB.toPenB P9 (by omega) (by omega) fun z h10 z0 z1 P10 F10 => ?_
          have L10 : LnD h s r ws' rt bs h10 := L9.mono F10 (by simp; omega)
          simp [-List.map_append]
          refine .mk ⟨bs' ++ [(a, b, z)], by simp [bAV], by simp [eq, bp], ?_, P10, L10⟩
          intro x hx
          rcases List.mem_append.mp hx with hx | hx
          · exact ok _ hx
          · obtain rfl := List.mem_singleton.mp hx
            exact ⟨bo.s0, bo.s1, bo.t0, bo.t1, bo.ne, z0, by show z ≤ 4000000000; omega⟩
        · rintro acc h9 ⟨bs', rfl, eq, ok, P9, L9⟩
          refine ⟨by simpa using L9.gt, ?_⟩
          have l9 := L9.fr.le
          have hl := congrArg List.length eq
          simp at hl
          simp
          exact .mk ⟨_, ws', _, bs', _, _, ⟨rfl⟩, { L9.mono (S := []) (Fr.push (o := .lst (bs'.map bAV))) (by simp) with ft := by omega, gt := by simp, ba := ⟨ok, asc_map eq L9.ba.asc, by rw [hl]; exact L9.ba.len⟩, b2 := by rw [hl]; exact L9.b2 }⟩
      · simp
        exact .mk ⟨rw, ws, rt, bs, _, _, ⟨rfl⟩, L7⟩
    · rintro _ h8 ⟨rw, ws, rt, bs, kd, rr, ⟨rfl⟩, L8⟩
      simp
      exact k _ _ _ _ _ _ L8
end
end Mi
set_option Elab.async false
set_option maxRecDepth 100000
set_option maxHeartbeats 4000000
/-! PgSp: what the program does about lines. -/
namespace Mi
open PySem Cd
section
variable {α : Type}
def k2 (p : Int × Int) : List L2.Key := [.inl p.1, .inl p.2]
theorem k2_inj {p q : Int × Int} (e : k2 p = k2 q) : p = q := by
  rcases p with ⟨a, b⟩
  rcases q with ⟨c, d⟩
  unfold k2 at e
  simp at e
  rw [e.1, e.2]
def ent (kp : α → Int × Int) (vf : α → AV) (x : α) : List L2.Key × AV := (k2 (kp x), vf x)
theorem val_ent {kp : α → Int × Int} {vf : α → AV} {l : List α} {x : α} (d : Dst kp l) (hx : x ∈ l) : valA (l.map (ent kp vf)) (k2 (kp x)) = some (vf x) := by
  unfold valA
  induction l with
  | nil => cases hx
  | cons y r ih =>
    obtain ⟨d1, d2⟩ := List.pairwise_cons.mp d
    rw [List.map_cons, List.find?_cons]
    by_cases e : kp y = kp x
    · have : y = x := dst_mem d List.mem_cons_self hx e
      subst this
      simp [ent]
    · have : ¬ k2 (kp y) = k2 (kp x) := fun z => e (k2_inj z)
      simp only [ent, this, decide_false]
      refine ih d2 ?_
      rcases List.mem_cons.mp hx with rfl | hx
      · exact absurd rfl e
      · exact hx
theorem val_ent_some {kp : α → Int × Int} {vf : α → AV} {l : List α} {p : Int × Int} : (valA (l.map (ent kp vf)) (k2 p)).isSome = decide (p ∈ l.map kp) := by
  unfold valA
  induction l with
  | nil => simp
  | cons y r ih =>
    rw [List.map_cons, List.find?_cons]
    by_cases e : kp y = p
    · subst e
      simp [ent]
    · have : ¬ k2 (kp y) = k2 p := fun z => e (k2_inj z)
      have e' : ¬ p = kp y := fun z => e z.symm
      simp only [ent, this, decide_false, List.map_cons, List.mem_cons, e', false_or]
      exact ih
theorem put_ent {kp : α → Int × Int} {vf : α → AV} {l : List α} {x : α} (h : kp x ∉ l.map kp) : putA (l.map (ent kp vf)) (k2 (kp x)) (vf x) = (l ++ [x]).map (ent kp vf) := by
  unfold putA
  have : ((l.map (ent kp vf)).any fun kv => decide (kv.1 = k2 (kp x))) = false := by
    rw [List.any_eq_false]
    intro kv hkv
    obtain ⟨y, hy, rfl⟩ := List.mem_map.mp hkv
    exact fun e => h (List.mem_map.mpr ⟨y, hy, k2_inj (of_decide_eq_true e)⟩)
  rw [this]
  simp [ent]
end
theorem in_ent {α : Type} {kp : α → Int × Int} {vf : α → AV} {l : List α} {a b : Int} {h : AH} : inO (some (.dT (l.map (ent kp vf)))) (.tup [.int a, .int b]) h = some (decide ((a, b) ∈ l.map kp)) := by
  have := val_ent_some (kp := kp) (vf := vf) (l := l) (p := (a, b))
  rw [inO_t, tkey_2]
  show some _ = _
  congr 1
/-- a list or a tuple that is gone through -/
def Itr (v : AV) (l : List AV) (h : AH) : Prop := v = .tup l ∨ ∃ r, v = .ref r ∧ h.get r = some (.lst l)
theorem Itr.fr {v : AV} {l : List AV} {h h' : AH} {S : List Nat} (I : Itr v l h) (F : Fr S h h') (q : ∀ r, v = .ref r → h.get r = some (.lst l) → r ∉ S) : Itr v l h' := by
  rcases I with e | ⟨r, e, g⟩
  · exact .inl e
  · exact .inr ⟨r, e, F.get g (q r e g)⟩
theorem Itr.it {v : AV} {l : List AV} {h : AH} (I : Itr v l h) : ∃ w, itOf v h = some (l, w) ∧ ∀ h', Itr v l h' → Still w h' := by
  rcases I with rfl | ⟨r, rfl, g⟩
  · exact ⟨[], rfl, fun _ _ => still_nil⟩
  · refine ⟨[(r, .lst l)], by simp [g], fun h' I' => ?_⟩
    rcases I' with e | ⟨r', e, g'⟩
    · cases e
    · cases e
      simpa using g'
theorem Itr.fr0 {v : AV} {l : List AV} {h h' : AH} (I : Itr v l h) (F : Fr [] h h') : Itr v l h' := I.fr F fun _ _ _ => by simp
inductive Flt where
  | size (s : Int) | box (x : Int) | wire (a b : Int) | bound (a b : Int)
def Flt.c : Flt → Nat
  | .size _ => 1
  | .box _ => 2
  | .wire _ _ => 3
  | .bound _ _ => 4
def Flt.fs : Flt → List (Nat × AV)
  | .size s => [(8, .int s)]
  | .box x => [(13, .int x)]
  | .wire a b => [(11, .int b), (12, .int a)]
  | .bound a b => [(9, .int b), (10, .int a)]
def slow (w : W) : Prop := ∃ x, w.2.2.2 = some x ∧ x < w.2.2.1
instance (w : W) : Decidable (slow w) := match hw : w.2.2.2 with
  | none => isFalse fun ⟨x, e, _⟩ => by rw [hw] at e; cases e
  | some y => if h : y < w.2.2.1 then isTrue ⟨y, hw, h⟩ else isFalse fun ⟨x, e, q⟩ => by rw [hw] at e; cases e; exact h q
def outB (s x : Int) : Prop := x < 0 ∨ s ≤ x
instance (s x : Int) : Decidable (outB s x) := inferInstanceAs (Decidable (_ ∨ _))
def badW (seen : List (Int × Int)) (w : W) : Prop := w.1 = w.2.1 ∨ w.2.2.1 < 1 ∨ wp w ∈ seen ∨ slow w
instance (seen : List (Int × Int)) (w : W) : Decidable (badW seen w) := inferInstanceAs (Decidable (_ ∨ _ ∨ _ ∨ _))
def badB (seen : List (Int × Int)) (b : Bd) : Prop := b.1 = b.2.1 ∨ b.2.2 < 0 ∨ bp b ∈ seen
instance (seen : List (Int × Int)) (b : Bd) : Decidable (badB seen b) := inferInstanceAs (Decidable (_ ∨ _ ∨ _))
def fltW (s : Int) : List (Int × Int) → List W → Option Flt
  | _, [] => none
  | seen, w :: r => if outB s w.1 then some (.box w.1) else if outB s w.2.1 then some (.box w.2.1) else if badW seen w then some (.wire w.1 w.2.1) else fltW s (seen ++ [wp w]) r
def fltB (s : Int) : List (Int × Int) → List Bd → Option Flt
  | _, [] => none
  | seen, b :: r => if outB s b.1 then some (.box b.1) else if outB s b.2.1 then some (.box b.2.1) else if badB seen b then some (.bound b.1 b.2.1) else fltB s (seen ++ [bp b]) r
def fltL (s : Int) (ws : List W) (bs : List Bd) : Option Flt := if s < 1 then some (.size s) else match fltW s [] ws with
  | some f => some f
  | none => fltB s [] bs
def small (x : Int) : Prop := -1000000000000 ≤ x ∧ x ≤ 1000000000000
theorem small.shows {x : Int} (h : small x) : x.natAbs.log2 < 1920 := by
  unfold small at h
  by_cases e : x.natAbs = 0
  · rw [e]; decide
  · refine (Nat.log2_lt e).mpr ?_
    have : x.natAbs < 2 ^ 41 := by omega
    exact Nat.lt_of_lt_of_le this (Nat.pow_le_pow_right (by omega) (by decide))
structure LnPg (B : Tb) : Prop where
  e1 : B.fn 1 = some i1
  e2 : B.fn 2 = some i2
  e3 : B.fn 3 = some i3
  e4 : B.fn 4 = some i4
  e5 : B.fn 5 = some i5
  e6 : B.fn 6 = some i6
  e7 : B.fn 7 = some i7
  p1 : B.pln 1 = true
  p2 : B.pln 2 = true
  p3 : B.pln 3 = true
  p4 : B.pln 4 = true
  p6 : B.pln 6 = true
  p7 : B.pln 7 = true
  x1 : B.exf 1 = some [(8, false)]
  x2 : B.exf 2 = some [(13, false)]
  x3 : B.exf 3 = some [(12, false), (11, false)]
  x4 : B.exf 4 = some [(10, false), (9, false)]
  f5 : B.fa 6 5 = true
  f6 : B.fa 6 6 = true
  f7 : B.fa 6 7 = true
  f8 : B.fa 6 8 = true
  n6 : B.ini 6 = some 5
  s5 : B.sok 5 0 = true
  h0 : B.shp 0 = some (3, 1, [.arg 0, .arg 1, .arg 2, .arg 3])
  m0 : B.mt 6 0 = some 6
  m1 : B.mt 6 1 = some 7
section
variable {B : Tb} {n : Nat} {h : AH} {Q : AV → AH → Prop} {X : Nat → List (Nat × AV) → AH → Prop}
theorem box_sp (hB : LnPg B) {s x : Int} (k : 0 ≤ x → x < s → Q .non h) (kx : outB s x → small x ∧ X 2 [(13, .int x)] h) : RW (Gam B (n + 1) 1 [.int s, .int x] h) Q X := by
  refine enter hB.e1 (by simp [i1]) ?_
  simp only [i1, c1, List.map_cons, List.map_nil, List.cons_append, List.nil_append, List.replicate]
  by_cases h1 : 0 ≤ x
  · by_cases h2 : x < s
    · simp [h1, h2, k]
    · obtain ⟨z, y⟩ := kx (.inr (by omega))
      simp [h1, h2, hB.x2, z.shows, y]
  · obtain ⟨z, y⟩ := kx (.inl (by omega))
    simp [h1, hB.x2, z.shows, y]
theorem fltW_app {s : Int} : ∀ (d : List W) (seen : List (Int × Int)) (r : List W), fltW s seen (d ++ r) = match fltW s seen d with
    | some f => some f
    | none => fltW s (seen ++ d.map wp) r
  | [], seen, r => by simp [fltW]
  | w :: d, seen, r => by
    rw [List.cons_append, fltW, fltW]
    split
    · rfl
    · split
      · rfl
      · split
        · rfl
        · rw [fltW_app d]
          simp
def hAV (w : W) : AV := .tup [.int w.2.2.1, oAV w.2.2.2]
abbrev entW := ent wp hAV
abbrev entB := ent bp fun b => AV.int b.2.2
def smallW (w : W) : Prop := small w.1 ∧ small w.2.1
theorem wires_ck (hB : LnPg B) {s : Int} {v : AV} {ws : List W} (I : Itr v (ws.map wAV) h) (sm : ∀ w ∈ ws, smallW w) (hl : ws.length < 1000000)
    (k : ∀ h', fltW s [] ws = none → Dst wp ws → h'.get h.n = some (.dT (ws.map entW)) → Fr [] h h' → Q (.ref h.n) h') (kx : ∀ f h', fltW s [] ws = some f → Fr [] h h' → X f.c f.fs h') : RW (Gam B (n + 2) 2 [.int s, v] h) Q X := by
  refine enter hB.e2 (by simp [i2]) ?_
  simp only [i2, c2, List.map_cons, List.map_nil, List.cons_append, List.nil_append, List.replicate]
  simp
  obtain ⟨w, ew, st⟩ := (I.fr0 (Fr.push (o := .dT []))).it
  simp [ew]
  refine for_rule wAV ws (fun d r τ h' => Bx (Hd [some (.int s), some v, some (.ref h.n)] 4 τ ∧ Fr [] h h' ∧ h'.get h.n = some (.dT (d.map entW)) ∧ fltW s [] d = none ∧ Dst wp d)) (.mk ⟨Hd.of rfl rfl, Fr.push, by simp, rfl, List.Pairwise.nil⟩) ?_ ?_
  · rintro d ⟨a, b, lo, hi⟩ r τ h1 e ⟨⟨rest, rfl, hl'⟩, F1, g1, f1, d1⟩
    obtain ⟨x1, x2, x3, x4, rfl⟩ := rest4 hl'
    refine ⟨st _ (I.fr0 F1), ?_⟩
    have sw := sm (a, b, lo, hi) (by rw [← e]; simp)
    have fe : fltW s [] ws = fltW s (d.map wp) ((a, b, lo, hi) :: r) := by
      rw [← e, fltW_app, f1]
      simp
    have hlen := congrArg List.length e
    simp at hlen
    simp [b2_1, wAV, hB.p1]
    refine box_sp hB (fun a0 a1 => ?_) fun o => ⟨sw.1, kx (.box a) h1 (by rw [fe, fltW, if_pos o]) F1⟩
    have oa : ¬outB s a := by unfold outB; omega
    simp [hB.p1]
    refine box_sp hB (fun b0 b1 => ?_) fun o => ⟨sw.2, kx (.box b) h1 (by rw [fe, fltW, if_neg oa, if_pos o]) F1⟩
    have ob : ¬outB s b := by unfold outB; omega
    have kw : badW (d.map wp) (a, b, lo, hi) → X 3 [(11, .int b), (12, .int a)] h1 := fun o => kx (.wire a b) h1 (by rw [fe, fltW, if_neg oa, if_neg ob, if_pos o]) F1
    simp [-s_ite]
    refine cut2 (fun τ h' => Bx (Tq τ [some (.int s), some v, some (.ref h.n), some (.int a), some (.int b), some (.int lo), some (oAV hi)] ∧ h1 = h' ∧ a ≠ b ∧ 1 ≤ lo ∧ (a, b) ∉ d.map wp)) ?_ ?_
    · refine ite_pure (a = b ∨ lo < 1 ∨ (a, b) ∈ d.map wp) (¬(a = b ∨ lo < 1 ∨ (a, b) ∈ d.map wp)) ?_ (fun o => ?_) fun o => ?_
      · simp [BWp, g1, in_ent, -inO_t, -List.mem_map]
        grind
      · have := kw (by rcases o with o | o | o <;> simp [badW, wp, o])
        simp [hB.x3, sw.1.shows, sw.2.shows, this]
      · simp
        exact .mk ⟨⟨rfl⟩, rfl, by grind, by grind, by grind⟩
    · rintro _ _ ⟨⟨rfl⟩, rfl, ne, lo1, nm⟩
      simp [-s_ite]
      refine cut2 (fun τ h' => Bx (Tq τ [some (.int s), some v, some (.ref h.n), some (.int a), some (.int b), some (.int lo), some (oAV hi)] ∧ h1 = h' ∧ ¬slow (a, b, lo, hi))) ?_ ?_
      · refine ite_pure (slow (a, b, lo, hi)) (¬slow (a, b, lo, hi)) ?_ (fun o => ?_) fun o => ?_
        · cases hi <;> simp [BWp, slow]
          omega
        · have := kw (by simp [badW, o])
          simp [hB.x3, sw.1.shows, sw.2.shows, this]
        · simp
          exact .mk ⟨⟨rfl⟩, rfl, o⟩
      · rintro _ _ ⟨⟨rfl⟩, rfl, ns⟩
        simp [g1]
        have pe := put_ent (kp := wp) (vf := hAV) (l := d) (x := (a, b, lo, hi)) nm
        unfold k2 at pe
        refine ⟨by omega, ?_⟩
        rw [show AV.tup [.int lo, oAV hi] = hAV (a, b, lo, hi) from rfl, show [Sum.inl a, Sum.inl b] = [Sum.inl (wp (a, b, lo, hi)).1, Sum.inl (wp (a, b, lo, hi)).2] from rfl, pe]
        refine .mk ⟨Hd.of rfl rfl, F1.trans2 (S' := [h.n]) (Fr.put (by simp)) (by simp), ?_, ?_, ?_⟩
        · exact AH.get_put_same g1
        · rw [fltW_app, f1]
          have nb : ¬badW (d.map wp) (a, b, lo, hi) := by
            unfold badW
            rintro (z | z | z | z)
            · exact ne z
            · have z : lo < 1 := z
              omega
            · exact nm z
            · exact ns z
          simp [fltW, oa, ob, nb]
        · refine List.pairwise_append.mpr ⟨d1, by simp, fun x hx y hy => ?_⟩
          obtain rfl := List.mem_singleton.mp hy
          exact fun z => nm (List.mem_map.mpr ⟨x, hx, z⟩)
  · rintro τ h1 ⟨⟨rest, rfl, hl'⟩, F1, g1, f1, d1⟩
    refine ⟨st _ (I.fr0 F1), ?_⟩
    simp
    exact k h1 f1 d1 g1 F1
theorem fltB_app {s : Int} : ∀ (d : List Bd) (seen : List (Int × Int)) (r : List Bd), fltB s seen (d ++ r) = match fltB s seen d with
    | some f => some f
    | none => fltB s (seen ++ d.map bp) r
  | [], seen, r => by simp [fltB]
  | w :: d, seen, r => by
    rw [List.cons_append, fltB, fltB]
    split
    · rfl
    · split
      · rfl
      · split
        · rfl
        · rw [fltB_app d]
          simp
def smallB (b : Bd) : Prop := small b.1 ∧ small b.2.1
theorem bounds_ck (hB : LnPg B) {s : Int} {v : AV} {bs : List Bd} (I : Itr v (bs.map bAV) h) (sm : ∀ b ∈ bs, smallB b) (hl : bs.length < 1000000)
    (k : ∀ h', fltB s [] bs = none → Dst bp bs → h'.get h.n = some (.dT (bs.map entB)) → Fr [] h h' → Q (.ref h.n) h') (kx : ∀ f h', fltB s [] bs = some f → Fr [] h h' → X f.c f.fs h') : RW (Gam B (n + 2) 3 [.int s, v] h) Q X := by
  refine enter hB.e3 (by simp [i3]) ?_
  simp only [i3, c3, List.map_cons, List.map_nil, List.cons_append, List.nil_append, List.replicate]
  simp
  obtain ⟨w, ew, st⟩ := (I.fr0 (Fr.push (o := .dT []))).it
  simp [ew]
  refine for_rule bAV bs (fun d r τ h' => Bx (Hd [some (.int s), some v, some (.ref h.n)] 3 τ ∧ Fr [] h h' ∧ h'.get h.n = some (.dT (d.map entB)) ∧ fltB s [] d = none ∧ Dst bp d)) (.mk ⟨Hd.of rfl rfl, Fr.push, by simp, rfl, List.Pairwise.nil⟩) ?_ ?_
  · rintro d ⟨a, b, lo⟩ r τ h1 e ⟨⟨rest, rfl, hl'⟩, F1, g1, f1, d1⟩
    obtain ⟨x1, x2, x3, rfl⟩ := rest3 hl'
    refine ⟨st _ (I.fr0 F1), ?_⟩
    have sw := sm (a, b, lo) (by rw [← e]; simp)
    have fe : fltB s [] bs = fltB s (d.map bp) ((a, b, lo) :: r) := by
      rw [← e, fltB_app, f1]
      simp
    have hlen := congrArg List.length e
    simp at hlen
    simp [b3_1, bAV, hB.p1]
    refine box_sp hB (fun a0 a1 => ?_) fun o => ⟨sw.1, kx (.box a) h1 (by rw [fe, fltB, if_pos o]) F1⟩
    have oa : ¬outB s a := by unfold outB; omega
    simp [hB.p1]
    refine box_sp hB (fun b0 b1 => ?_) fun o => ⟨sw.2, kx (.box b) h1 (by rw [fe, fltB, if_neg oa, if_pos o]) F1⟩
    have ob : ¬outB s b := by unfold outB; omega
    simp [-s_ite]
    refine cut2 (fun τ h' => Bx (Tq τ [some (.int s), some v, some (.ref h.n), some (.int a), some (.int b), some (.int lo)] ∧ h1 = h' ∧ ¬badB (d.map bp) (a, b, lo))) ?_ ?_
    · refine ite_pure (badB (d.map bp) (a, b, lo)) (¬badB (d.map bp) (a, b, lo)) ?_ (fun o => ?_) fun o => ?_
      · show RW _ _ _
        simp [BWp, g1, in_ent, -inO_t, -List.mem_map, badB, bp]
        grind
      · have : X 4 [(9, .int b), (10, .int a)] h1 := kx (.bound a b) h1 (by rw [fe, fltB, if_neg oa, if_neg ob, if_pos o]) F1
        simp [hB.x4, sw.1.shows, sw.2.shows, this]
      · simp
        exact .mk ⟨⟨rfl⟩, rfl, o⟩
    · rintro _ _ ⟨⟨rfl⟩, rfl, nb⟩
      simp [g1]
      have nm : bp (a, b, lo) ∉ d.map bp := fun z => nb (.inr (.inr z))
      have pe := put_ent (kp := bp) (vf := fun b => AV.int b.2.2) (l := d) (x := (a, b, lo)) nm
      unfold k2 at pe
      refine ⟨by omega, ?_⟩
      rw [show [Sum.inl a, Sum.inl b] = [Sum.inl (bp (a, b, lo)).1, Sum.inl (bp (a, b, lo)).2] from rfl, pe]
      refine .mk ⟨Hd.of rfl rfl, F1.trans2 (S' := [h.n]) (Fr.put (by simp)) (by simp), ?_, ?_, ?_⟩
      · exact AH.get_put_same g1
      · rw [fltB_app, f1]
        simp [fltB, oa, ob, nb]
      · refine List.pairwise_append.mpr ⟨d1, by simp, fun x hx y hy => ?_⟩
        obtain rfl := List.mem_singleton.mp hy
        exact fun z => nm (List.mem_map.mpr ⟨x, hx, z⟩)
  · rintro τ h1 ⟨⟨rest, rfl, hl'⟩, F1, g1, f1, d1⟩
    refine ⟨st _ (I.fr0 F1), ?_⟩
    simp
    exact k h1 f1 d1 g1 F1
theorem sort_pairs {α : Type} {kp : α → Int × Int} {l : List α} (d : Dst kp l) : sortA ((l.map kp).map pAV) = some (((srtB (ltQ kp) l).map kp).map pAV) := by
  have d' : Dst (fun p : Int × Int => p) (l.map kp) := List.pairwise_map.mpr d
  rw [sortA_hd pAV (fun p => p) (fun _ => []) (fun _ _ => rfl) (fun _ => rfl) d', srt_map kp (fun _ => rfl) l]
theorem keys_ent {α : Type} {kp : α → Int × Int} {vf : α → AV} {l : List α} : (l.map (ent kp vf)).map (fun kv => AV.tup (kv.1.map keyAV)) = (l.map kp).map pAV := by
  rw [List.map_map, List.map_map]
  rfl
theorem asc_wires (hB : LnPg B) {r0 : Nat} {ws : List W} (g0 : h.get r0 = some (.dT (ws.map entW))) (d : Dst wp ws) (hl : ws.length < 1000000)
    (k : ∀ r h', h.n ≤ r → h'.get r = some (.lst ((srtB (ltQ wp) ws).map wAV)) → Fr [] h h' → Q (.ref r) h') : RW (Gam B (n + 1) 4 [.ref r0] h) Q X := by
  refine enter hB.e4 (by simp [i4]) ?_
  simp only [i4, c4, List.map_cons, List.map_nil, List.cons_append, List.nil_append, List.replicate]
  have hr0 := AH.get_lt g0
  have pm := srtB_perm (ltQ wp) ws
  have g1 : (h.push (.lst [])).get r0 = some (.dT (ws.map entW)) := AH.get_push_old g0
  simp [g1]
  rw [show ((fun kv : List L2.Key × AV => AV.tup (kv.1.map keyAV)) ∘ entW) = pAV ∘ wp from rfl, ← List.map_map]
  simp [-List.map_map, sort_pairs d]
  simp only [List.map_map]
  have g2 : (((h.push (.lst [])).push (.lst (ws.map (pAV ∘ wp)))).push (.lst ((srtB (ltQ wp) ws).map (pAV ∘ wp)))).get r0 = some (.dT (ws.map entW)) := AH.get_push_old (AH.get_push_old g1)
  have g3 : (((h.push (.lst [])).push (.lst (ws.map (pAV ∘ wp)))).push (.lst ((srtB (ltQ wp) ws).map (pAV ∘ wp)))).get h.n = some (.lst []) := AH.get_push_old (AH.get_push_old AH.get_push_new)
  have g4 : (((h.push (.lst [])).push (.lst (ws.map (pAV ∘ wp)))).push (.lst ((srtB (ltQ wp) ws).map (pAV ∘ wp)))).get (h.n + 1 + 1) = some (.lst ((srtB (ltQ wp) ws).map (pAV ∘ wp))) := AH.get_push_new
  have F0 : Fr [] h (((h.push (.lst [])).push (.lst (ws.map (pAV ∘ wp)))).push (.lst ((srtB (ltQ wp) ws).map (pAV ∘ wp)))) := (Fr.push.trans Fr.push).trans Fr.push
  generalize (((h.push (.lst [])).push (.lst (ws.map (pAV ∘ wp)))).push (.lst ((srtB (ltQ wp) ws).map (pAV ∘ wp)))) = h1 at g2 g3 g4 F0 ⊢
  refine for_rule (pAV ∘ wp) (srtB (ltQ wp) ws) (fun dn _ τ h' => Bx (Hd [some (.ref r0), some (.ref h.n)] 4 τ ∧ Fr [] h h' ∧ h'.get h.n = some (.lst (dn.map wAV)) ∧ h'.get (h.n + 1 + 1) = some (.lst ((srtB (ltQ wp) ws).map (pAV ∘ wp))))) (.mk ⟨Hd.of rfl rfl, F0, g3, g4⟩) ?_ ?_
  · rintro dn ⟨a, b, lo, hi⟩ r τ h2 e ⟨⟨rest, rfl, hl'⟩, F2, g5, g6⟩
    obtain ⟨x1, x2, x3, x4, rfl⟩ := rest4 hl'
    refine ⟨by simpa using g6, ?_⟩
    have hm : (a, b, lo, hi) ∈ ws := pm.mem_iff.mp (by rw [← e]; simp)
    have hv := val_ent (vf := hAV) d hm
    unfold k2 at hv
    have hlen := congrArg List.length e
    have hlen2 := pm.length_eq
    simp at hlen
    have hv' : valA (ws.map entW) [.inl a, .inl b] = some (.tup [.int lo, oAV hi]) := hv
    simp [b4_1, pAV, wp, F2.get g0, hv', g5]
    exact ⟨by omega, .mk ⟨Hd.of rfl rfl, F2.trans2 (S' := [h.n]) (Fr.put (by simp)) (by simp), by rw [AH.get_put_same g5]; simp [wAV], by rw [AH.get_put_ne (by omega)]; exact g6⟩⟩
  · rintro τ h2 ⟨⟨rest, rfl, hl'⟩, F2, g5, g6⟩
    refine ⟨by simpa using g6, ?_⟩
    simp
    exact k _ _ (Nat.le_refl _) g5 F2
/-- a line that is made -/
structure LineO (h : AH) (a : Nat) (s : Int) (ws : List W) (bs : List Bd) (rh rw rb : Nat) : Prop where
  o : h.get a = some (.ins 6 [(8, .int s), (7, .ref rh), (6, .ref rw), (5, .ref rb)])
  gh : h.get rh = some (.dT (ws.map entW))
  gw : h.get rw = some (.lst ((srtB (ltQ wp) ws).map wAV))
  gb : h.get rb = some (.lst ((srtB (ltQ bp) bs).map bAV))
  dw : Dst wp ws
  db : Dst bp bs
theorem LineO.fr {h h' : AH} {a : Nat} {s : Int} {ws : List W} {bs : List Bd} {rh rw rb : Nat} {S : List Nat} (L : LineO h a s ws bs rh rw rb) (F : Fr S h h') (q : a ∉ S ∧ rh ∉ S ∧ rw ∉ S ∧ rb ∉ S) : LineO h' a s ws bs rh rw rb :=
  ⟨F.get L.o q.1, F.get L.gh q.2.1, F.get L.gw q.2.2.1, F.get L.gb q.2.2.2, L.dw, L.db⟩
theorem init_sp (hB : LnPg B) {a : Nat} {s : Int} {wv bv : AV} {ws : List W} {bs : List Bd} (g : h.get a = some (.ins 6 [])) (Iw : Itr wv (ws.map wAV) h) (Ib : Itr bv (bs.map bAV) h) (ss : small s)
    (sw : ∀ w ∈ ws, smallW w) (sb : ∀ b ∈ bs, smallB b) (lw : ws.length < 1000000) (lb : bs.length < 1000000)
    (k : ∀ rh rw rb h', fltL s ws bs = none → LineO h' a s ws bs rh rw rb → h.n ≤ rh → h.n ≤ rw → h.n ≤ rb → Fr [a] h h' → Q .non h')
    (kx : ∀ f h', fltL s ws bs = some f → Fr [a] h h' → X f.c f.fs h') : RW (Gam B (n + 3) 5 [.ref a, .int s, wv, bv] h) Q X := by
  refine enter hB.e5 (by simp [i5]) ?_
  simp only [i5, c5, List.map_cons, List.map_nil, List.cons_append, List.nil_append, List.replicate]
  have la := AH.get_lt g
  have nrW : ∀ r, wv = .ref r → h.get r = some (.lst (ws.map wAV)) → r ∉ [a] := fun r _ q z => by
    obtain rfl := List.mem_singleton.mp z
    rw [g] at q
    cases q
  have nrB : ∀ r, bv = .ref r → h.get r = some (.lst (bs.map bAV)) → r ∉ [a] := fun r _ q z => by
    obtain rfl := List.mem_singleton.mp z
    rw [g] at q
    cases q
  simp only [s_cons]
  refine cut2 (fun τ h' => Bx (Tq τ [some (.ref a), some (.int s), some wv, some bv, none, none, none] ∧ h = h' ∧ ¬s < 1)) ?_ ?_
  · refine ite_pure (s < 1) (¬s < 1) (by simp; omega) (fun o => ?_) fun o => ?_
    · have : X 1 [(8, .int s)] h := kx (.size s) h (by unfold fltL; rw [if_pos o]) Fr.refl
      simp [hB.x1, ss.shows, this]
    · simp
      exact .mk ⟨⟨rfl⟩, rfl, by simpa using o⟩
  rintro _ _ ⟨⟨rfl⟩, rfl, s1⟩
  simp [g, hB.f8, hB.p2]
  have F1 : Fr [a] h (h.put a (.ins 6 [(8, .int s)])) := Fr.put (by simp)
  have g1 : (h.put a (.ins 6 [(8, .int s)])).get a = some (.ins 6 [(8, .int s)]) := AH.get_put_same g
  have n1 : (h.put a (.ins 6 [(8, .int s)])).n = h.n := rfl
  generalize h.put a (.ins 6 [(8, .int s)]) = h1 at F1 g1 n1 ⊢
  have Iw1 := Iw.fr F1 nrW
  have Ib1 := Ib.fr F1 nrB
  refine wires_ck hB Iw1 sw lw (fun h2 fw dw g2 F2 => ?_) fun f h2 fw F2 => by simpa using kx f h2 (by unfold fltL; rw [if_neg s1, fw]) (F1.trans2 F2 (by simp))
  have g3 := F2.get0 g1
  simp [g3, hB.f7, hB.f6, hB.p4]
  have F3 : Fr [a] h (h2.put a (.ins 6 [(8, .int s), (7, .ref h1.n)])) := (F1.trans2 F2 (by simp)).trans (Fr.put (by simp))
  have g4 : (h2.put a (.ins 6 [(8, .int s), (7, .ref h1.n)])).get a = some (.ins 6 [(8, .int s), (7, .ref h1.n)]) := AH.get_put_same g3
  have g5 : (h2.put a (.ins 6 [(8, .int s), (7, .ref h1.n)])).get h1.n = some (.dT (ws.map entW)) := by
    rw [AH.get_put_ne (by omega)]
    exact g2
  generalize h2.put a (.ins 6 [(8, .int s), (7, .ref h1.n)]) = h3 at F3 g4 g5 ⊢
  simp [g4, hB.f7, hB.f6, hB.p4]
  have l3 := F3.le
  have Ib3 := Ib.fr F3 nrB
  have r3 := AH.get_lt g5
  refine asc_wires hB g5 dw lw fun rw h4 rw0 g6 F4 => ?_
  have g7 := F4.get0 g4
  have g8 := F4.get0 g5
  simp [g7, hB.f6, hB.p3]
  have F5 : Fr [a] h (h4.put a (.ins 6 [(8, .int s), (7, .ref h1.n), (6, .ref rw)])) := (F3.trans2 F4 (by simp)).trans (Fr.put (by simp))
  have g9 : (h4.put a (.ins 6 [(8, .int s), (7, .ref h1.n), (6, .ref rw)])).get a = some (.ins 6 [(8, .int s), (7, .ref h1.n), (6, .ref rw)]) := AH.get_put_same g7
  have g10 : (h4.put a (.ins 6 [(8, .int s), (7, .ref h1.n), (6, .ref rw)])).get h1.n = some (.dT (ws.map entW)) := by
    rw [AH.get_put_ne (by omega)]
    exact g8
  have g11 : (h4.put a (.ins 6 [(8, .int s), (7, .ref h1.n), (6, .ref rw)])).get rw = some (.lst ((srtB (ltQ wp) ws).map wAV)) := by
    rw [AH.get_put_ne (by omega)]
    exact g6
  generalize h4.put a (.ins 6 [(8, .int s), (7, .ref h1.n), (6, .ref rw)]) = h5 at F5 g9 g10 g11 ⊢
  have Ib5 := Ib.fr F5 nrB
  have l5 := F5.le
  have r5 := AH.get_lt g10
  have rr5 := AH.get_lt g11
  refine bounds_ck hB Ib5 sb lb (fun h6 fb db g12 F6 => ?_) fun f h6 fb F6 => by simpa using kx f h6 (by unfold fltL; rw [if_neg s1, fw]; exact fb) (F5.trans2 F6 (by simp))
  simp [g12]
  rw [show ((fun kv : List L2.Key × AV => AV.tup (kv.1.map keyAV)) ∘ entB) = pAV ∘ bp from rfl, ← List.map_map]
  simp [-List.map_map, sort_pairs db]
  simp only [List.map_map]
  have F7 : Fr [] h6 ((h6.push (.lst (bs.map (pAV ∘ bp)))).push (.lst ((srtB (ltQ bp) bs).map (pAV ∘ bp)))) := Fr.push.trans Fr.push
  have g13 : ((h6.push (.lst (bs.map (pAV ∘ bp)))).push (.lst ((srtB (ltQ bp) bs).map (pAV ∘ bp)))).get (h6.n + 1) = some (.lst ((srtB (ltQ bp) bs).map (pAV ∘ bp))) := by simp
  have n7 : ((h6.push (.lst (bs.map (pAV ∘ bp)))).push (.lst ((srtB (ltQ bp) bs).map (pAV ∘ bp)))).n = h6.n + 2 := rfl
  generalize ((h6.push (.lst (bs.map (pAV ∘ bp)))).push (.lst ((srtB (ltQ bp) bs).map (pAV ∘ bp)))) = h7 at F7 g13 n7 ⊢
  have pm := srtB_perm (ltQ bp) bs
  have l6 := F6.le
  refine lc_rule (pAV ∘ bp) (srtB (ltQ bp) bs) (fun d acc h' => h7 = h' ∧ acc = d.map bAV) ⟨rfl, rfl⟩ ?_ ?_
  · rintro d ⟨x, y, m⟩ r acc _ e ⟨rfl, rfl⟩
    have hm : (x, y, m) ∈ bs := pm.mem_iff.mp (by rw [← e]; simp)
    have hv := val_ent (vf := fun b : Bd => AV.int b.2.2) db hm
    unfold k2 at hv
    have hv' : valA (bs.map entB) [.inl x, .inl y] = some (.int m) := hv
    have hlen := congrArg List.length e
    have hlen2 := pm.length_eq
    simp at hlen
    refine ⟨by simpa using g13, by simp; omega, ?_⟩
    simp [pAV, bp, F7.get0 g12, hv', bAV]
  · rintro acc _ ⟨rfl, rfl⟩
    refine ⟨by simpa using g13, ?_⟩
    have F8 : Fr [] h5 (h7.push (.lst ((srtB (ltQ bp) bs).map bAV))) := (F6.trans F7).trans Fr.push
    have g14 := F8.get0 g9
    have g15 : (h7.push (.lst ((srtB (ltQ bp) bs).map bAV))).get h7.n = some (.lst ((srtB (ltQ bp) bs).map bAV)) := AH.get_push_new
    generalize h7.push (.lst ((srtB (ltQ bp) bs).map bAV)) = h8 at F8 g14 g15 ⊢
    simp [g14, hB.f5]
    refine k h1.n rw h7.n _ (by unfold fltL; rw [if_neg s1, fw]; exact fb) ⟨AH.get_put_same g14, ?_, ?_, ?_, dw, db⟩ (by omega) (by omega) (by omega) ((F5.trans2 F8 (by simp)).trans (Fr.put (by simp)))
    · rw [AH.get_put_ne (by omega)]
      exact F8.get0 g10
    · rw [AH.get_put_ne (by omega)]
      exact F8.get0 g11
    · rw [AH.get_put_ne (by omega)]
      exact g15
theorem ln_wires (hB : LnPg B) {a : Nat} {s : Int} {ws : List W} {bs : List Bd} {rh rw rb : Nat} (L : LineO h a s ws bs rh rw rb)
    (k : ∀ h', h'.get h.n = some (.lst ((srtB (ltQ wp) ws).map wAV)) → h'.n = h.n + 1 → Fr [] h h' → Q (.ref h.n) h') : RW (Gam B (n + 1) 6 [.ref a] h) Q X := by
  refine enter hB.e6 (by simp [i6]) ?_
  simp only [i6, c6, List.map_cons, List.map_nil, List.cons_append, List.nil_append, List.replicate]
  simp [L.o, hB.f6, L.gw, List.lookup]
  exact k _ AH.get_push_new rfl Fr.push
theorem ln_bounds (hB : LnPg B) {a : Nat} {s : Int} {ws : List W} {bs : List Bd} {rh rw rb : Nat} (L : LineO h a s ws bs rh rw rb)
    (k : ∀ h', h'.get h.n = some (.lst ((srtB (ltQ bp) bs).map bAV)) → h'.n = h.n + 1 → Fr [] h h' → Q (.ref h.n) h') : RW (Gam B (n + 1) 7 [.ref a] h) Q X := by
  refine enter hB.e7 (by simp [i7]) ?_
  simp only [i7, c7, List.map_cons, List.map_nil, List.cons_append, List.nil_append, List.replicate]
  simp [L.o, hB.f5, L.gb, List.lookup]
  exact k _ AH.get_push_new rfl Fr.push
end
end Mi
set_option Elab.async false
set_option maxRecDepth 100000
set_option maxHeartbeats 4000000
/-! SmSp: whether an answer is the due value. -/
namespace Mi
open PySem Cd
inductive D where
  | non | bl (b : Bool) | int (i : Int) | str (s : Str) | tup (l : List D) | lst (l : List D)
def dn : Nat → AH → AV → Option D
  | 0, _, v => match v with
    | .non => some .non
    | .bl b => some (.bl b)
    | .int i => some (.int i)
    | .str s => if PyData.strOk s = true then some (.str s) else none
    | _ => none
  | n + 1, h, v => match v with
    | .non => some .non
    | .bl b => some (.bl b)
    | .int i => some (.int i)
    | .str s => if PyData.strOk s = true then some (.str s) else none
    | .tup xs => if xs.length < 1000000000 then (mapO (dn n h) xs).map .tup else none
    | .ref a => (lstO (h.get a)).bind fun xs => if xs.length < 1000000000 then (mapO (dn n h) xs).map .lst else none
    | _ => none
theorem mapO_get {α β : Type} {f : α → Option β} : ∀ {l : List α} {m : List β}, mapO f l = some m → l.length = m.length ∧ ∀ (i : Nat) (h : i < l.length) (h' : i < m.length), f l[i] = some m[i]
  | [], m, e => by
    cases e
    exact ⟨rfl, fun i h => absurd h (Nat.not_lt_zero _)⟩
  | x :: r, m, e => by
    have e : ((f x).bind fun d => (mapO f r).map fun ds => d :: ds) = some m := e
    cases e1 : f x with
    | none => rw [e1] at e; cases e
    | some y =>
      rw [e1] at e
      cases e2 : mapO f r with
      | none => rw [e2] at e; cases e
      | some q =>
        rw [e2] at e
        cases e
        obtain ⟨h1, h2⟩ := mapO_get e2
        refine ⟨by simp [h1], fun i h h' => ?_⟩
        cases i with
        | zero => exact e1
        | succ i => exact h2 i (by simpa using h) (by simpa using h')
structure SmB (B : Tb) : Prop where
  e11 : B.fn 11 = some i11
  e19 : B.fn 19 = some i19
  p11 : B.pln 11 = true
  p19 : B.pln 19 = true
section
variable {B : Tb} {n : Nat} {h : AH} {Q : AV → AH → Prop} {X : Nat → List (Nat × AV) → AH → Prop}
theorem isint_sp (hB : SmB B) {i : Int} (k : Q (.bl true) h) : RW (Gam B (n + 1) 11 [.int i] h) Q X := by
  refine enter hB.e11 (by simp [i11]) ?_
  simp only [i11, c11, List.map_cons, List.map_nil, List.cons_append, List.nil_append, List.replicate]
  simp [k]
theorem same_loop (hB : SmB B) {m : Nat} (ih : ∀ {a b : AV} {d : D}, dn m h a = some d → dn m h b = some d → ∀ {Q : AV → AH → Prop} {X : Nat → List (Nat × AV) → AH → Prop}, Q (.bl true) h → RW (Gam B (n + m + 2) 19 [a, b] h) Q X)
    {va vb : AV} {xs ys : List AV} {ds : List D} (e1 : mapO (dn m h) xs = some ds) (e2 : mapO (dn m h) ys = some ds)
    (ix : ∀ (va : AV) (i : Nat), va = va → True) (ga : ∀ (i : Nat) (hi : i < xs.length), o2S .ix va (.int i) h = some (xs[i], h)) (gb : ∀ (i : Nat) (hi : i < ys.length), o2S .ix vb (.int i) h = some (ys[i], h))
    (la : lenS h va = some xs.length) (lb : lenS h vb = some ys.length) (hl : xs.length < 1000000000) {z : Option AV} (k : Q (.bl true) h) :
    SW (execs (GPn B (n + m + 2)) (.cons (.for_ (.nm 2) (.rng1 (.o1 .len (.var 1))) b19_1) (.cons (.ret (.con (.bl true))) .nil)) [some va, some vb, z] h) (endK Q) (fnX X) := by
  obtain ⟨h1, h2⟩ := mapO_get e1
  obtain ⟨h3, h4⟩ := mapO_get e2
  simp [lb]
  refine ⟨lt62_of (by omega), for_range0 (fun i τ h' => Bx (Hd [some va, some vb] 1 τ ∧ h = h')) (.mk ⟨Hd.of rfl rfl, rfl⟩) ?_ ?_⟩
  · rintro i τ _ hi ⟨⟨rest, rfl, hr⟩, rfl⟩
    obtain ⟨x, rfl⟩ := rest1 hr
    have q1 : i < xs.length := by omega
    have q2 : i < ys.length := by omega
    simp [b19_1, hB.p19, ga i q1, gb i q2]
    refine ih (h2 i q1 (by omega)) (h4 i q2 (by omega)) ?_
    simp
    exact .mk ⟨Hd.of rfl rfl, rfl⟩
  · rintro τ _ ⟨⟨rest, rfl, hr⟩, rfl⟩
    simp [k]
def dnI (k : Nat) (h : AH) (a : AV) : D → Prop
  | .non => a = .non
  | .bl b => a = .bl b
  | .int i => a = .int i
  | .str s => a = .str s ∧ PyData.strOk s = true
  | .tup l => ∃ m xs, k = m + 1 ∧ a = .tup xs ∧ xs.length < 1000000000 ∧ mapO (dn m h) xs = some l
  | .lst l => ∃ m p xs, k = m + 1 ∧ a = .ref p ∧ h.get p = some (.lst xs) ∧ xs.length < 1000000000 ∧ mapO (dn m h) xs = some l
theorem dn_inv {k : Nat} {a : AV} {d : D} (e : dn k h a = some d) : dnI k h a d := by
  cases k with
  | zero =>
    cases a with
    | str s =>
      have e : (if PyData.strOk s = true then some (D.str s) else none) = some d := e
      split at e
      · cases e
        exact ⟨rfl, by assumption⟩
      · cases e
    | non => cases e; rfl
    | bl b => cases e; rfl
    | int i => cases e; rfl
    | _ => cases e
  | succ m =>
    cases a with
    | str s =>
      have e : (if PyData.strOk s = true then some (D.str s) else none) = some d := e
      split at e
      · cases e
        exact ⟨rfl, by assumption⟩
      · cases e
    | non => cases e; rfl
    | bl b => cases e; rfl
    | int i => cases e; rfl
    | tup xs =>
      have e : (if xs.length < 1000000000 then (mapO (dn m h) xs).map D.tup else none) = some d := e
      split at e
      · rename_i hl
        cases e2 : mapO (dn m h) xs with
        | none => rw [e2] at e; cases e
        | some l =>
          rw [e2] at e
          cases e
          exact ⟨m, xs, rfl, rfl, hl, e2⟩
      · cases e
    | ref p =>
      have e : ((lstO (h.get p)).bind fun xs => if xs.length < 1000000000 then (mapO (dn m h) xs).map D.lst else none) = some d := e
      cases g : h.get p with
      | none => rw [g] at e; cases e
      | some o =>
        rw [g] at e
        cases o with
        | lst xs =>
          have e : (if xs.length < 1000000000 then (mapO (dn m h) xs).map D.lst else none) = some d := e
          split at e
          · rename_i hl
            cases e2 : mapO (dn m h) xs with
            | none => rw [e2] at e; cases e
            | some l =>
              rw [e2] at e
              cases e
              exact ⟨m, p, xs, rfl, rfl, g, hl, e2⟩
          · cases e
        | _ => cases e
    | _ => cases e
theorem atI_of {α : Type} {xs : List α} {i : Nat} (hi : i < xs.length) : L2.atI xs (i : Int) = some xs[i] := atI_nat hi
theorem same_sp (hB : SmB B) : ∀ (m : Nat) {a b : AV} {d : D}, dn m h a = some d → dn m h b = some d → ∀ {Q : AV → AH → Prop} {X : Nat → List (Nat × AV) → AH → Prop}, Q (.bl true) h → RW (Gam B (n + m + 2) 19 [a, b] h) Q X := by
  intro m
  induction m with
  | zero =>
    intro a b d ea eb Q X k
    refine enter hB.e19 (by simp [i19]) ?_
    simp only [i19, c19, List.map_cons, List.map_nil, List.cons_append, List.nil_append, List.replicate]
    have ia := dn_inv ea
    have ib := dn_inv eb
    clear ea eb
    cases d with
    | non => subst ia; subst ib; simp [k]
    | bl p => subst ia; subst ib; simp [k]
    | int p =>
      subst ia; subst ib
      simp [hB.p11]
      refine isint_sp hB ?_
      simp [k]
    | str p =>
      obtain ⟨rfl, sa⟩ := ia
      obtain ⟨rfl, sb⟩ := ib
      simp [k]
    | tup l => obtain ⟨m, xs, z, _⟩ := ia; cases z
    | lst l => obtain ⟨m, p, xs, z, _⟩ := ia; cases z
  | succ m ih =>
    intro a b d ea eb Q X k
    refine enter hB.e19 (by simp [i19]) ?_
    simp only [i19, c19, List.map_cons, List.map_nil, List.cons_append, List.nil_append, List.replicate]
    have ia := dn_inv ea
    have ib := dn_inv eb
    clear ea eb
    cases d with
    | non => subst ia; subst ib; simp [k]
    | bl p => subst ia; subst ib; simp [k]
    | int p =>
      subst ia; subst ib
      simp [hB.p11]
      refine isint_sp hB ?_
      simp [k]
    | str p =>
      obtain ⟨rfl, sa⟩ := ia
      obtain ⟨rfl, sb⟩ := ib
      simp [k]
    | tup l =>
      obtain ⟨_, xs, z, rfl, l1, e1⟩ := ia
      cases z
      obtain ⟨_, ys, z, rfl, l2, e2⟩ := ib
      cases z
      have h1 := (mapO_get e1).1
      have h2 := (mapO_get e2).1
      have hl : xs.length = ys.length := by omega
      simp [-s_for, hl]
      have := same_loop (z := none) hB ih (va := .tup xs) (vb := .tup ys) e1 e2 (fun _ _ _ => trivial) (fun i hi => by simp [atI_nat hi]) (fun i hi => by simp [atI_nat hi]) rfl rfl l1 k (X := X)
      rw [s_cons] at this
      exact this
    | lst l =>
      obtain ⟨_, p, xs, z, rfl, g1, l1, e1⟩ := ia
      cases z
      obtain ⟨_, q, ys, z, rfl, g2, l2, e2⟩ := ib
      cases z
      have h1 := (mapO_get e1).1
      have h2 := (mapO_get e2).1
      have hl : xs.length = ys.length := by omega
      simp [-s_for, hl, g1, g2]
      have := same_loop (z := none) hB ih (va := .ref p) (vb := .ref q) e1 e2 (fun _ _ _ => trivial) (fun i hi => by simp [g1, atI_nat hi]) (fun i hi => by simp [g2, atI_nat hi]) (by simp [g1]) (by simp [g2]) l1 k (X := X)
      rw [s_cons] at this
      exact this
end
end Mi
set_option Elab.async false
set_option maxRecDepth 100000
set_option maxHeartbeats 4000000
/-! RpSp: what repr shows of the laws' data, and how long that is. -/
namespace Mi
open PySem
mutual
/-- the data as the model has it -/
def D.py : D → PyData
  | .non => .none
  | .bl b => .bool b
  | .int i => .int i
  | .str s => .str s
  | .tup l => .tuple (D.pys l)
  | .lst l => .list (D.pys l)
def D.pys : List D → List PyData
  | [] => []
  | d :: r => d.py :: D.pys r
end
mutual
/-- no more signs than this -/
def D.wt : D → Nat
  | .non => 4
  | .bl _ => 5
  | .int _ => 20
  | .str s => (reprText s).length
  | .tup l => D.wts l + 4
  | .lst l => D.wts l + 4
def D.wts : List D → Nat
  | [] => 0
  | d :: r => d.wt + 2 + D.wts r
end
mutual
/-- ints of at most 18 digits -/
def D.low : D → Prop
  | .int i => i.natAbs < 10 ^ 18
  | .tup l => D.lows l
  | .lst l => D.lows l
  | _ => True
def D.lows : List D → Prop
  | [] => True
  | d :: r => d.low ∧ D.lows r
end
theorem D.lows_iff : ∀ {l : List D}, D.lows l ↔ ∀ d ∈ l, d.low
  | [] => by simp [D.lows]
  | d :: r => by simp [D.lows, D.lows_iff (l := r)]
theorem D.wts_le {m : Nat} : ∀ {l : List D}, (∀ d ∈ l, d.wt ≤ m) → D.wts l ≤ l.length * (m + 2)
  | [], _ => by simp [D.wts]
  | d :: r, h => by
    have h1 := h d List.mem_cons_self
    have h2 := D.wts_le (m := m) (l := r) fun x hx => h x (List.mem_cons_of_mem _ hx)
    rw [D.wts, List.length_cons, Nat.succ_mul]
    omega
theorem D.wts_app : ∀ {l r : List D}, D.wts (l ++ r) = D.wts l + D.wts r
  | [], r => by simp [D.wts]
  | d :: l, r => by
    rw [List.cons_append, D.wts, D.wts, D.wts_app (l := l)]
    omega
theorem piled_pys {l : List D} (h : ∀ d ∈ l, d.py.shown.length ≤ d.wt) : piled (PyData.shownAll (D.pys l)) ≤ D.wts l := by
  induction l with
  | nil => exact Nat.le_refl _
  | cons d r ih =>
    have h1 := h d List.mem_cons_self
    have h2 := ih fun x hx => h x (List.mem_cons_of_mem _ hx)
    show piled (d.py.shown :: PyData.shownAll (D.pys r)) ≤ d.wt + 2 + D.wts r
    rw [piled_cons]
    omega
theorem list_len (ts : List Str) : (listText ts).length ≤ piled ts + 2 := by
  have e : (listText ts).length = (textFrom 0 "[" ts).length + 1 := by
    show (textFrom 0 "[" ts ++ "]").length = _
    rw [strLen_append]
    rfl
  rw [e]
  cases ts with
  | nil => decide
  | cons t r =>
    show (textFrom 1 (("[" : Str) ++ ((if (0 : Nat) > 0 then ", " else "" : String) : Str) ++ t) r).length + 1 ≤ _
    rw [textFrom_length_pos r 1 _ (by decide), strLen_append, strLen_append, piled_cons]
    have e1 : ((("[" : String) : Str)).length = 1 := rfl
    have e2 : ((((if (0 : Nat) > 0 then ", " else "" : String)) : Str)).length = 0 := rfl
    rw [e1, e2]
    omega
theorem tuple_len (ts : List Str) : (tupleText ts).length ≤ piled ts + 4 := by
  unfold tupleText
  rw [strLen_append, strLen_append]
  have e1 : ((("(" : String) : Str)).length = 1 := rfl
  have e3 : (((if ts.length == 1 then ",)" else ")" : String) : Str)).length ≤ 2 := by split <;> decide
  rw [e1]
  cases ts with
  | nil =>
    have : (Str.join ", " []).length = 0 := rfl
    omega
  | cons t r =>
    have := join_length_add (t :: r) (by simp)
    omega
mutual
theorem D.shown_le : ∀ d : D, d.low → d.py.shown.length ≤ d.wt
  | .non, _ => by decide
  | .bl b, _ => by cases b <;> decide
  | .int i, h => by
    show (Str.ofString (toString i)).length ≤ 20
    rw [ofString_length]
    have := int_text_length_le10 (a := i) (k := 18) (by decide) h
    omega
  | .str s, _ => Nat.le_refl _
  | .tup l, h => by
    have h1 := piled_pys (D.shown_les l h)
    have h2 := tuple_len (PyData.shownAll (D.pys l))
    show (tupleText (PyData.shownAll (D.pys l))).length ≤ D.wts l + 4
    omega
  | .lst l, h => by
    have h1 := piled_pys (D.shown_les l h)
    have h2 := list_len (PyData.shownAll (D.pys l))
    show (listText (PyData.shownAll (D.pys l))).length ≤ D.wts l + 4
    omega
theorem D.shown_les : ∀ l : List D, D.lows l → ∀ d ∈ l, d.py.shown.length ≤ d.wt
  | [], _, d, hd => by cases hd
  | x :: r, h, d, hd => by
    rcases List.mem_cons.mp hd with e | hd
    · rw [e]
      exact D.shown_le x h.1
    · exact D.shown_les r h.2 d hd
end
mutual
theorem D.showable : ∀ d : D, d.low → d.py.showable = true
  | .non, _ => rfl
  | .bl _, _ => rfl
  | .int i, h => by
    show decide (i.natAbs.log2 < 1920) = true
    have h : i.natAbs < 10 ^ 18 := h
    rw [decide_eq_true_eq]
    by_cases e : i.natAbs = 0
    · rw [e]; decide
    · refine (Nat.log2_lt e).mpr ?_
      have : i.natAbs < 2 ^ 60 := by omega
      exact Nat.lt_of_lt_of_le this (Nat.pow_le_pow_right (by omega) (by decide))
  | .str _, _ => rfl
  | .tup l, h => D.showables l h
  | .lst l, h => D.showables l h
theorem D.showables : ∀ l : List D, D.lows l → PyData.showableAll (D.pys l) = true
  | [], _ => rfl
  | d :: r, h => by
    show (d.py.showable && PyData.showableAll (D.pys r)) = true
    rw [D.showable d h.1, D.showables r h.2]
    rfl
end
theorem D.rpOk {d : D} (h : d.low) (w : d.wt ≤ 16000000) : rpOk d.py := ⟨D.showable d h, by
  have := D.shown_le d h
  rw [sizeLine_eq]
  omega⟩
theorem mapO_py {f : AV → Option D} {g : AV → Option PyData} (q : ∀ x d, f x = some d → g x = some d.py) : ∀ {xs : List AV} {l : List D}, mapO f xs = some l → mapO g xs = some (D.pys l)
  | [], l, e => by cases e; rfl
  | x :: r, l, e => by
    have e : ((f x).bind fun d => (mapO f r).map fun ds => d :: ds) = some l := e
    cases e1 : f x with
    | none => rw [e1] at e; cases e
    | some d =>
      cases e2 : mapO f r with
      | none => rw [e1, e2] at e; cases e
      | some ds =>
        rw [e1, e2] at e
        cases e
        show ((g x).bind fun d => (mapO g r).map fun ds => d :: ds) = _
        rw [q x d e1, mapO_py q e2]
        rfl
/-- what a value shows is what it denotes -/
theorem dat_dn {h : AH} : ∀ (k n : Nat), k ≤ n → ∀ (v : AV) (d : D), dn k h v = some d → dat h n v = some d.py := by
  intro k
  induction k with
  | zero =>
    intro n hk v d e
    have i := dn_inv e
    cases d with
    | non => obtain rfl : v = .non := i; cases n <;> rfl
    | bl b => obtain rfl : v = .bl b := i; cases n <;> rfl
    | int j => obtain rfl : v = .int j := i; cases n <;> rfl
    | str s =>
      obtain ⟨rfl, q⟩ := i
      cases n <;> exact if_pos q
    | tup l => obtain ⟨m, xs, z, _⟩ := i; cases z
    | lst l => obtain ⟨m, p, xs, z, _⟩ := i; cases z
  | succ k ih =>
    intro n hk v d e
    obtain ⟨n, rfl⟩ : ∃ n', n = n' + 1 := ⟨n - 1, by omega⟩
    have i := dn_inv e
    cases d with
    | non => obtain rfl : v = .non := i; rfl
    | bl b => obtain rfl : v = .bl b := i; rfl
    | int j => obtain rfl : v = .int j := i; rfl
    | str s =>
      obtain ⟨rfl, q⟩ := i
      exact if_pos q
    | tup l =>
      obtain ⟨m, xs, z, rfl, _, q⟩ := i
      cases z
      show (mapO (dat h n) xs).map PyData.tuple = _
      rw [mapO_py (ih n (by omega)) q]
      rfl
    | lst l =>
      obtain ⟨m, p, xs, z, rfl, g, _, q⟩ := i
      cases z
      have e0 : rdL h (.ref p) = some xs := by rw [rdL_ref, g]; rfl
      show (match rdL h (.ref p) with
        | some xs => (mapO (dat h n) xs).map PyData.list
        | none => none) = _
      rw [e0]
      show (mapO (dat h n) xs).map PyData.list = _
      rw [mapO_py (ih n (by omega)) q]
      rfl
section
variable {G : PG} {h : AH} {Q : AV → AH → Prop}
/-- repr(..) -/
theorem repr_sp {k : Nat} {v : AV} {d : D} (hk : k ≤ 60) (e : dn k h v = some d) (c : (∃ a, v = .ref a) ∨ ∃ xs, v = .tup xs) (lw : d.low) (w : d.wt ≤ 16000000) (q : Q (.str d.py.shown) h) : OW (o1S G .repr v h) Q := by
  have e2 := dat_dn k 60 hk v d e
  have ok := D.rpOk lw w
  rcases c with ⟨a, rfl⟩ | ⟨xs, rfl⟩
  · rw [repr_ref e2 ok]
    exact q
  · rw [repr_tup e2 ok]
    exact q
end
end Mi
set_option Elab.async false
set_option maxRecDepth 100000
/-! MiWp3: a method's call with keywords. -/
namespace Mi
open PySem
variable {G : PG} {τ : Frame} {h : AH} {Q : AV → AH → Prop} {X : Nat → List (Nat × AV) → AH → Prop}
@[simp ↓] theorem w_methK {m sh o as ks} : RW (evalE G (.methK m sh o as ks) τ h) Q X = RW (evalE G o τ h) (fun x h1 => methW (clsOf h1 x) fun c fs => VW (G.mt c m) fun f => fs.lookup m = none ∧ G.sok f sh = true ∧ RW (evalEs G as τ h1) (fun vs h2 => RW (evalEs G ks τ h2) (fun ws h3 => VW (placeS (G.shp sh) (x :: vs) ws) fun us => RW (G.call f us h3) Q X) X) X) X := by
  rw [evalE, RW_bind]
  refine RW_ext fun x h1 => ?_
  rcases clsOf h1 x with _ | ⟨c, fs⟩
  · rfl
  · rcases q1 : G.mt c m with _ | f
    · simp [q1]
    · rcases q2 : fs.lookup m with _ | v
      · show RW _ Q X = _
        simp only [q1, q2, RW_ite_bad, RW_bind]
        rw [methW_s, q1]
        show _ = (List.lookup m fs = none ∧ _)
        rw [q2, eq_self, true_and]
        refine and_ext (RW_ext fun vs h2 => ?_)
        rw [RW_bind]
        refine RW_ext fun ws h3 => ?_
        rcases placeS (G.shp sh) (x :: vs) ws with _ | us <;> rfl
      · simp [q1, q2]
end Mi
set_option Elab.async false
set_option maxRecDepth 100000
set_option maxHeartbeats 4000000
/-! K2Sp: the parts of law k02. -/
namespace Tk02
open PySem Mi Cd
theorem hP : PenB B := ⟨rfl, rfl, rfl, rfl, rfl, rfl⟩
theorem hL : LineB B := ⟨hP, rfl, rfl, rfl, rfl, rfl, rfl, rfl, rfl, rfl, rfl, rfl, rfl, rfl, rfl⟩
theorem hG : LnPg B := ⟨rfl, rfl, rfl, rfl, rfl, rfl, rfl, rfl, rfl, rfl, rfl, rfl, rfl, rfl, rfl, rfl, rfl, rfl, rfl, rfl, rfl, rfl, rfl, rfl, rfl, rfl⟩
theorem hS : SmB B := ⟨rfl, rfl, rfl, rfl⟩
section
variable {n : Nat} {h : AH} {Q : AV → AH → Prop} {X : Nat → List (Nat × AV) → AH → Prop}
theorem perm_erase {α : Type} : ∀ {l : List α} {i : Nat} {x : α}, l[i]? = some x → l.Perm (x :: l.eraseIdx i)
  | [], i, x, e => by simp at e
  | y :: r, 0, x, e => by
    cases e
    exact List.Perm.refl _
  | y :: r, i + 1, x, e => by
    have e : r[i]? = some x := e
    exact ((perm_erase e).cons y).trans (List.Perm.swap _ _ _)
theorem erase_map {α β : Type} (f : α → β) : ∀ (l : List α) (i : Nat), (l.map f).eraseIdx i = (l.eraseIdx i).map f
  | [], i => by simp
  | y :: r, 0 => rfl
  | y :: r, i + 1 => by
    show f y :: (r.map f).eraseIdx i = f y :: (r.eraseIdx i).map f
    rw [erase_map f r i]
theorem mixed_sp {α : Type} (f : α → AV) {p r0 : Nat} {xs : List α} (P : Pen h p) (g0 : h.get r0 = some (.lst (xs.map f))) (ne : r0 ≠ p) (hl : xs.length < 1000000)
    (k : ∀ (r : Nat) (h' : AH) (ys : List α), h.n ≤ r → h'.get r = some (.lst (ys.map f)) → ys.Perm xs → Pen h' p → Fr [p] h h' → Q (.ref r) h') : RW (Gam B (n + 2) 20 [.ref p, .ref r0] h) Q X := by
  refine enter (i := i20) rfl (by simp [i20]) ?_
  simp only [i20, c20, List.map_cons, List.map_nil, List.cons_append, List.nil_append, List.replicate]
  have hp := P.lt
  have hr0 := AH.get_lt g0
  simp [g0]
  have g1 : ((h.push (.lst (xs.map f))).push (.lst [])).get r0 = some (.lst (xs.map f)) := AH.get_push_old (AH.get_push_old g0)
  have g2 : ((h.push (.lst (xs.map f))).push (.lst [])).get h.n = some (.lst (xs.map f)) := AH.get_push_old AH.get_push_new
  have g3 : ((h.push (.lst (xs.map f))).push (.lst [])).get (h.n + 1) = some (.lst []) := by simp
  have F1 : Fr [p] h ((h.push (.lst (xs.map f))).push (.lst [])) := Fr.push.trans Fr.push
  have P1 := P.fr (S := []) (Fr.push.trans Fr.push : Fr [] h ((h.push (.lst (xs.map f))).push (.lst []))) (by simp)
  generalize ((h.push (.lst (xs.map f))).push (.lst [])) = h1 at g1 g2 g3 F1 P1 ⊢
  simp [g1]
  refine ⟨lt62_of (by omega), for_range0 (fun i τ h' => Bx (Hd [some (.ref p), some (.ref r0), some (.ref h.n), some (.ref (h.n + 1))] 1 τ ∧ Pen h' p ∧ Fr [p] h h' ∧ ∃ ms rs : List α, h'.get h.n = some (.lst (rs.map f)) ∧ h'.get (h.n + 1) = some (.lst (ms.map f)) ∧ (ms ++ rs).Perm xs ∧ ms.length = i)) (.mk ⟨Hd.of rfl rfl, P1, F1, [], xs, g2, by simpa using g3, List.Perm.refl _, rfl⟩) ?_ ?_⟩
  · rintro i τ h2 hi ⟨⟨rest, rfl, hl'⟩, P2, F2, ms, rs, g4, g5, pm, hm⟩
    obtain ⟨x, rfl⟩ := rest1 hl'
    have hlen := pm.length_eq
    simp at hlen
    simp [b20_1, g5, g4, pl14]
    refine take_sp hP P2 (by omega) (by omega) fun d h3 d0 d1 P3 F3 => ?_
    have g6 := F3.get g4 (by simp; omega)
    have g7 := F3.get g5 (by simp; omega)
    have hd : d.toNat < rs.length := by omega
    have ex : rs[d.toNat]? = some rs[d.toNat] := List.getElem?_eq_getElem hd
    have g8 : (h3.put h.n (.lst ((rs.eraseIdx d.toNat).map f))).get (h.n + 1) = some (.lst (ms.map f)) := by
      rw [AH.get_put_ne (by omega)]
      exact g7
    simp [g6, ex, erase_map, g8]
    refine ⟨⟨by omega, by omega⟩, by omega, .mk ⟨Hd.of rfl rfl, P3.fr (S := [h.n, h.n + 1]) ((Fr.put (by simp)).trans (Fr.put (by simp))) (by simp; omega), (F2.trans F3).trans2 (S' := [h.n, h.n + 1]) ((Fr.put (by simp)).trans (Fr.put (by simp))) (by simp; omega), ms ++ [rs[d.toNat]], rs.eraseIdx d.toNat, ?_, ?_, ?_, by simp [hm]⟩⟩
    · rw [AH.get_put_ne (by omega), AH.get_put_same g6]
    · rw [AH.get_put_same g8]
      simp
    · rw [List.append_assoc]
      exact (List.Perm.append_left ms (perm_erase ex).symm).trans pm
  · rintro τ h2 ⟨⟨rest, rfl, hl'⟩, P2, F2, ms, rs, g4, g5, pm, hm⟩
    have hlen := pm.length_eq
    simp at hlen
    have : rs = [] := List.eq_nil_of_length_eq_zero (by omega)
    subst this
    simp
    exact k _ _ ms (by omega) g5 (by simpa using pm) P2 F2
theorem bad_box {p : Nat} {s : Int} (P : Pen h p) (k : ∀ (x : Int) h', x = -1 ∨ x = s ∨ x = s + 5 → Pen h' p → Fr [p] h h' → Q (.int x) h') : RW (Gam B (n + 2) 24 [.ref p, .int s] h) Q X := by
  refine enter (i := i24) rfl (by simp [i24]) ?_
  simp only [i24, c24, List.map_cons, List.map_nil, List.cons_append, List.nil_append, List.replicate]
  simp [pl14]
  have hp := P.lt
  refine take_sp hP (P.fr (S := []) Fr.push (by simp)) (by omega) (by omega) fun d h1 d0 d1 P1 F1 => ?_
  have g1 := F1.get (AH.get_push_new (h := h) (o := .lst [.int (-1), .int s, .int (s + 5)])) (by simp; omega)
  have F0 : Fr [p] h h1 := Fr.push.trans F1
  simp [g1]
  have : d = 0 ∨ d = 1 ∨ d = 2 := by omega
  rcases this with rfl | rfl | rfl <;> simp [L2.atI, L2.ixN] <;> exact k _ _ (by simp) P1 F0
/-- boxes near those of the line -/
def rngB (x : Int) : Prop := -1 ≤ x ∧ x ≤ 20
structure WsR (ws : List W) : Prop where
  ok : ∀ w ∈ ws, rngB w.1 ∧ rngB w.2.1
structure BsR (bs : List Bd) : Prop where
  ok : ∀ b ∈ bs, rngB b.1 ∧ rngB b.2.1
theorem cut_map {α : Type} (f : α → AV) (l : List α) (lo hi : Option Int) : ∃ l' : List α, cutA (l.map f) lo hi = l'.map f ∧ l'.Sublist l := by
  unfold cutA
  refine ⟨(l.drop (HT.sIx (l.map f).length 0 lo)).take (HT.sIx (l.map f).length (l.map f).length hi - HT.sIx (l.map f).length 0 lo), ?_, (List.take_sublist _ _).trans (List.drop_sublist _ _)⟩
  rw [← List.map_drop, ← List.map_take]
theorem push_get {h : AH} {a : Nat} {o : AO} : (h.push o).get a = if a = h.n then some o else h.get a := by
  split
  · rename_i e
    rw [e]
    exact AH.get_push_new
  · rename_i e
    exact AH.get_push_ne e
/-- a list with one more item, or another one, at a place -/
theorem splice {α : Type} {f : α → AV} {G : PG} {τ : Mi.Frame} {a r : Nat} {ws : List α} {x : α} {ei ej et : E} {i j : Int} (ha : τ[a]? = some (some (.ref r))) (g : h.get r = some (.lst (ws.map f)))
    (hi : ∀ {h1 : AH} {Q : AV → AH → Prop} {X : Nat → List (Nat × AV) → AH → Prop}, RW (evalE G ei τ h1) Q X = Q (.int i) h1) (hj : ∀ {h1 : AH} {Q : AV → AH → Prop} {X : Nat → List (Nat × AV) → AH → Prop}, RW (evalE G ej τ h1) Q X = Q (.int j) h1)
    (ht : ∀ {h1 : AH} {Q : AV → AH → Prop} {X : Nat → List (Nat × AV) → AH → Prop}, RW (evalE G et τ h1) Q X = Q (f x) h1) (hl : ws.length < 1000000)
    (k : ∀ (r' : Nat) (h' : AH) (ws' : List α), h.n ≤ r' → h'.get r' = some (.lst (ws'.map f)) → (∀ y ∈ ws', y ∈ ws ∨ y = x) → ws'.length ≤ 2 * ws.length + 1 → Fr [] h h' → Q (.ref r') h') :
    RW (evalE G (.o2 .add (.o2 .add (.sl (.var a) .non (.som ei)) (.lst (.cons et .nil))) (.sl (.var a) (.som ej) .non)) τ h) Q X := by
  have lr := AH.get_lt g
  obtain ⟨l1, e1, s1⟩ := cut_map f ws none (some i)
  obtain ⟨l2, e2, s2⟩ := cut_map f ws (some j) none
  have n1 := s1.length_le
  have n2 := s2.length_le
  have r0 : r ≠ h.n := by omega
  have r1 : r ≠ h.n + 1 := by omega
  have r2 : r ≠ h.n + 2 := by omega
  have r3 : r ≠ h.n + 1 + 1 := by omega
  simp [ha, hi, hj, ht, g, e1, e2, push_get, r0, r1, r2, r3]
  refine ⟨by omega, by omega, k _ _ (l1 ++ x :: l2) (by omega) (by simp) (fun y hy => ?_) (by simp; omega) ((((Fr.push.trans Fr.push).trans Fr.push).trans Fr.push).trans Fr.push)⟩
  rcases List.mem_append.mp hy with hy | hy
  · exact .inl (s1.subset hy)
  · rcases List.mem_cons.mp hy with hy | hy
    · exact .inr hy
    · exact .inl (s2.subset hy)
theorem WsR.cons {ws ws' : List W} {w : W} (h : WsR ws) (q : ∀ y ∈ ws', y ∈ ws ∨ y = w) (hw : rngB w.1 ∧ rngB w.2.1) : WsR ws' := ⟨fun y hy => by
  rcases q y hy with z | rfl
  · exact h.ok y z
  · exact hw⟩
theorem BsR.cons {bs bs' : List Bd} {b : Bd} (h : BsR bs) (q : ∀ y ∈ bs', y ∈ bs ∨ y = b) (hb : rngB b.1 ∧ rngB b.2.1) : BsR bs' := ⟨fun y hy => by
  rcases q y hy with z | rfl
  · exact h.ok y z
  · exact hb⟩
theorem rng_bad {s x : Int} (s1 : 1 ≤ s) (s6 : s ≤ 6) (h : x = -1 ∨ x = s ∨ x = s + 5) : rngB x := by
  unfold rngB
  omega
theorem crossed_sp {p r0 : Nat} {s : Int} {ws : List W} (P : Pen h p) (g0 : h.get r0 = some (.lst (ws.map wAV))) (ne : r0 ≠ p) (hl : ws.length < 100000) (h1 : 1 < ws.length) (wr : WsR ws) (s1 : 1 ≤ s) (s6 : s ≤ 6)
    (k : ∀ (r : Nat) (h' : AH) (ws' : List W), h.n ≤ r → h'.get r = some (.lst (ws'.map wAV)) → WsR ws' → ws'.length ≤ 2 * ws.length + 1 → Pen h' p → Fr [p] h h' → Q (.ref r) h') : RW (Gam B (n + 3) 25 [.ref p, .int s, .ref r0] h) Q X := by
  refine enter (i := i25) rfl (by simp [i25]) ?_
  simp only [i25, c25, List.map_cons, List.map_nil, List.cons_append, List.nil_append, List.replicate]
  have hp := P.lt
  have hr0 := AH.get_lt g0
  simp [g0, pl14]
  have g1 : (h.push (.lst (ws.map wAV))).get r0 = some (.lst (ws.map wAV)) := AH.get_push_old g0
  simp [g1]
  refine take_sp hP (P.fr (S := []) Fr.push (by simp)) (by omega) (by omega) fun d h1 d0 d1 P1 F1 => ?_
  have g2 := F1.get (AH.get_push_new (h := h) (o := .lst (ws.map wAV))) (by simp; omega)
  have F01 : Fr [p] h h1 := Fr.push.trans F1
  obtain ⟨⟨a, b, lo, hi⟩, hm, ew, ea⟩ := atI_map wAV (xs := ws) d0 (by omega)
  have w1 := wr.ok _ hm
  simp [g2, ea, wAV, pl24]
  refine bad_box P1 fun x h2 hx P2 F2 => ?_
  have g3 := F2.get g2 (by simp; omega)
  have F02 := F01.trans F2
  have ix1 := ixN_ok (n := ws.length) d0 (by omega)
  simp [g3, ea, wAV, ix1]
  have g4 : (h2.put h.n (.lst ((ws.map wAV).set d.toNat (.tup [.int a, .int x, .int lo, oAV hi])))).get h.n = some (.lst ((ws.set d.toNat (a, x, lo, hi)).map wAV)) := by
    rw [AH.get_put_same g3, List.map_set]
    rfl
  have F03 : Fr [p] h (h2.put h.n (.lst ((ws.map wAV).set d.toNat (.tup [.int a, .int x, .int lo, oAV hi])))) := F02.trans2 (S' := [h.n]) (Fr.put (by simp)) (by simp)
  have P3 : Pen (h2.put h.n (.lst ((ws.map wAV).set d.toNat (.tup [.int a, .int x, .int lo, oAV hi])))) p := P2.fr (S := [h.n]) (Fr.put (by simp)) (by simp; omega)
  generalize h2.put h.n (.lst ((ws.map wAV).set d.toNat (.tup [.int a, .int x, .int lo, oAV hi]))) = h3 at g4 F03 P3 ⊢
  simp [g4, pl24]
  refine bad_box P3 fun y h4 hy P4 F4 => ?_
  have g5 := F4.get g4 (by simp; omega)
  have wr2 : ∀ v ∈ ws.set d.toNat (a, x, lo, hi), rngB v.1 ∧ rngB v.2.1 := fun v hv => by
    rcases List.mem_or_eq_of_mem_set hv with hv | rfl
    · exact wr.ok v hv
    · exact ⟨w1.1, rng_bad s1 s6 hx⟩
  have hl2 : (ws.set d.toNat (a, x, lo, hi)).length = ws.length := List.length_set
  generalize ws.set d.toNat (a, x, lo, hi) = ws2 at g4 g5 wr2 hl2 ⊢
  obtain ⟨⟨a', b', lo', hi'⟩, hm', ew', ea'⟩ := atI_map wAV (xs := ws2) (i := d + 1) (by omega) (by omega)
  have ix2 := ixN_ok (n := ws2.length) (i := d + 1) (by omega) (by omega)
  have w2 := wr2 _ hm'
  simp [g5, ea', wAV, ix2]
  refine k _ _ (ws2.set (d + 1).toNat (y, b', lo', hi')) (Nat.le_refl _) (by rw [AH.get_put_same g5, List.map_set]; rfl) ⟨fun v hv => ?_⟩ (by rw [List.length_set]; omega) (P4.fr (S := [h.n]) (Fr.put (by simp)) (by simp; omega)) ((F03.trans F4).trans2 (S' := [h.n]) (Fr.put (by simp)) (by simp))
  rcases List.mem_or_eq_of_mem_set hv with hv | rfl
  · exact wr2 v hv
  · exact ⟨rng_bad s1 s6 hy, w2.2⟩
theorem chg_wires {p r0 : Nat} {s : Int} {ws : List W} (P : Pen h p) (g0 : h.get r0 = some (.lst (ws.map wAV))) (ne : r0 ≠ p) (hl : ws.length < 100000) (wr : WsR ws) (s1 : 1 ≤ s) (s6 : s ≤ 6)
    (k : ∀ (r : Nat) (h' : AH) (ws' : List W), h.n ≤ r → h'.get r = some (.lst (ws'.map wAV)) → WsR ws' → ws'.length ≤ 2 * ws.length + 1 → Pen h' p → Fr [p] h h' → Q (.ref r) h') : RW (Gam B (n + 4) 26 [.ref p, .int s, .ref r0] h) Q X := by
  refine enter (i := i26) rfl (by simp [i26]) ?_
  simp only [i26, c26, List.map_cons, List.map_nil, List.cons_append, List.nil_append, List.replicate]
  have hp := P.lt
  have hr0 := AH.get_lt g0
  refine cut (fun τ h' => Tq τ [some (.ref p), some (.int s), some (.ref r0), none, none, none, none, none, none, none] ∧ h = h' ∧ 0 < ws.length) ?_ ?_
  · refine ite_pure (ws = []) (ws ≠ []) (by simp [g0]; exact Classical.em _) (fun c1 => ?_) fun c1 => ?_
    · simp [pl14]
      refine take_sp hP P (by omega) (by omega) fun d h1 d0 d1 P1 F1 => ?_
      simp [pl14]
      refine take_sp hP P1 (by omega) (by omega) fun d' h2 d0' d1' P2 F2 => ?_
      simp [pl14]
      refine take_sp hP P2 (by omega) (by omega) fun d'' h3 d0'' d1'' P3 F3 => ?_
      simp
      have F03 := (F1.trans F2).trans F3
      exact k _ _ [(0, d, d', some d'')] F03.le (by simp [wAV]) ⟨by simp [rngB]; omega⟩ (by simp) (P3.fr (S := []) Fr.push (by simp)) (F03.trans Fr.push)
    · simp
      exact ⟨⟨rfl⟩, List.length_pos_iff.mpr c1⟩
  rintro _ _ ⟨⟨rfl⟩, rfl, hpos⟩
  simp [g0, pl14, -s_ite]
  refine take_sp hP P (by omega) (by omega) fun at' h1 a0 a1 P1 F1 => ?_
  have g1 := F1.get g0 (by simpa using ne)
  obtain ⟨⟨a, b, lo, hi⟩, hm, ew, ea⟩ := atI_map wAV (xs := ws) a0 (by omega)
  have w1 := wr.ok _ hm
  simp [g1, ea, wAV, pl14, -s_ite]
  refine take_sp hP P1 (by omega) (by omega) fun kd h2 k0 k1 P2 F2 => ?_
  have g2 := F2.get g1 (by simpa using ne)
  have F02 := F1.trans F2
  simp [-s_ite]
  refine cut2 (fun τ h' => Tq τ [some (.ref p), some (.int s), some (.ref r0), some (.int at'), some (.int kd), some (.int a), some (.int b), some (.int lo), some (oAV hi), none] ∧ h2 = h') ?_ ?_
  · refine ite_pure (1 < ws.length) True (by simp [g2, BWp]; omega) (fun c1 => ?_) fun c1 => ?_
    · simp [pl25]
      refine crossed_sp P2 g2 ne hl c1 wr s1 s6 fun r h' ws' hr g' wr' hl' P' F' => ?_
      have := F02.le
      exact k r h' ws' (by omega) g' wr' hl' P' (F02.trans F')
    · simp
      exact ⟨rfl⟩
  rintro _ _ ⟨⟨rfl⟩, rfl⟩
  simp [-s_ite]
  have l2 := F02.le
  refine cut2 (fun τ h' => Bx (∃ a' b' lo' hi' z, Tq τ [some (.ref p), some (.int s), some (.ref r0), some (.int at'), some (.int kd), some (.int a'), some (.int b'), some (.int lo'), some (oAV hi'), z] ∧ rngB a' ∧ rngB b' ∧ Pen h' p ∧ Fr [p] h h' ∧ h'.get r0 = some (.lst (ws.map wAV)))) ?_ ?_
  · simp
    refine BW_dec (fun c1 => ?_) fun c1 => ?_
    · simp [pl24]
      refine bad_box P2 fun x h3 hx P3 F3 => ?_
      simp
      exact .mk ⟨x, b, lo, hi, _, ⟨rfl⟩, rng_bad s1 s6 hx, w1.2, P3, F02.trans F3, F3.get g2 (by simpa using ne)⟩
    simp
    refine BW_dec (fun c2 => ?_) fun c2 => ?_
    · simp [pl24]
      refine bad_box P2 fun x h3 hx P3 F3 => ?_
      simp
      exact .mk ⟨a, x, lo, hi, _, ⟨rfl⟩, w1.1, rng_bad s1 s6 hx, P3, F02.trans F3, F3.get g2 (by simpa using ne)⟩
    simp
    refine BW_dec (fun c3 => ?_) fun c3 => ?_
    · simp
      exact .mk ⟨a, a, lo, hi, _, ⟨rfl⟩, w1.1, w1.1, P2, F02, g2⟩
    simp
    refine BW_dec (fun c4 => ?_) fun c4 => ?_
    · simp [pl14]
      refine take_sp hP (P2.fr (S := []) Fr.push (by simp)) (by omega) (by omega) fun z h3 z0 z1 P3 F3 => ?_
      have g3 := F3.get (AH.get_push_new (h := h2) (o := .lst [.int 0, .int (-3)])) (by simp; omega)
      have g4 := F3.get (AH.get_push_old (o := .lst [.int 0, .int (-3)]) g2) (by simpa using ne)
      have F03 : Fr [p] h h3 := (F02.trans Fr.push).trans F3
      have : z = 0 ∨ z = 1 := by omega
      rcases this with rfl | rfl <;> simp [g3] <;> exact .mk ⟨a, b, _, hi, _, ⟨rfl⟩, w1.1, w1.2, P3, F03, g4⟩
    simp
    refine BW_dec (fun c5 => ?_) fun c5 => ?_
    · simp
      exact .mk ⟨a, b, lo, some (lo - 1), _, ⟨rfl⟩, w1.1, w1.2, P2, F02, g2⟩
    simp
    refine BW_dec (fun c6 => ?_) fun c6 => ?_
    · simp
      exact .mk ⟨a, b, lo, some lo, _, ⟨rfl⟩, w1.1, w1.2, P2, F02, g2⟩
    simp
    refine BW_dec (fun c7 => ?_) fun c7 => ?_
    · simp
      exact .mk ⟨a, b, lo, none, _, ⟨rfl⟩, w1.1, w1.2, P2, F02, g2⟩
    simp
    refine BW_dec (fun c8 => ?_) fun c8 => ?_
    · simp [-w_o2]
      refine splice (f := wAV) (ws := ws) (x := (b, a, lo, hi)) (i := at') (j := at' + 1) rfl g2 (by simp) (by simp) (by simp [wAV]) (by omega) fun r' h' ws' hr g' q hl' F' => ?_
      exact k r' h' ws' (by omega) g' (wr.cons q ⟨w1.2, w1.1⟩) hl' (P2.fr F' (by simp)) (F02.trans2 F' (by simp))
    · simp [pl14, g2, -w_o2]
      rw [w_o2]
      simp [g2, -w_o2]
      refine take_sp hP P2 (by omega) (by omega) fun pl h3 p0 p1 P3 F3 => ?_
      have g3 := F3.get g2 (by simpa using ne)
      have F03 := F02.trans F3
      have l3 := F03.le
      simp [-w_o2]
      refine splice (f := wAV) (ws := ws) (x := (a, b, lo + 1, none)) (i := pl) (j := pl) rfl g3 (by simp) (by simp) (by simp [wAV]) (by omega) fun r' h' ws' hr g' q hl' F' => ?_
      exact k r' h' ws' (by omega) g' (wr.cons q w1) hl' (P3.fr F' (by simp)) (F03.trans2 F' (by simp))
  · rintro _ h3 ⟨a', b', lo', hi', z, ⟨rfl⟩, wa, wb, P3, F3, g3⟩
    simp [-w_o2]
    have l3 := F3.le
    refine splice (f := wAV) (ws := ws) (x := (a', b', lo', hi')) (i := at') (j := at' + 1) rfl g3 (by simp) (by simp) (by simp [wAV]) (by omega) fun r' h' ws' hr g' q hl' F' => ?_
    exact k r' h' ws' (by omega) g' (wr.cons q ⟨wa, wb⟩) hl' (P3.fr F' (by simp)) (F3.trans2 F' (by simp))
theorem chg_told {p r0 : Nat} {s : Int} {bs : List Bd} (P : Pen h p) (g0 : h.get r0 = some (.lst (bs.map bAV))) (ne : r0 ≠ p) (hl : bs.length < 100000) (br : BsR bs) (s1 : 1 ≤ s) (s6 : s ≤ 6)
    (k : ∀ (r : Nat) (h' : AH) (bs' : List Bd), h.n ≤ r → h'.get r = some (.lst (bs'.map bAV)) → BsR bs' → bs'.length ≤ 2 * bs.length + 1 → Pen h' p → Fr [p] h h' → Q (.ref r) h') : RW (Gam B (n + 4) 27 [.ref p, .int s, .ref r0] h) Q X := by
  refine enter (i := i27) rfl (by simp [i27]) ?_
  simp only [i27, c27, List.map_cons, List.map_nil, List.cons_append, List.nil_append, List.replicate]
  have hp := P.lt
  have hr0 := AH.get_lt g0
  refine cut (fun τ h' => Tq τ [some (.ref p), some (.int s), some (.ref r0), none, none, none, none, none, none] ∧ h = h' ∧ 0 < bs.length) ?_ ?_
  · refine ite_pure (bs = []) (bs ≠ []) (by simp [g0]; exact Classical.em _) (fun c1 => ?_) fun c1 => ?_
    · simp [pl14]
      refine take_sp hP P (by omega) (by omega) fun d h1 d0 d1 P1 F1 => ?_
      simp [pl14]
      refine take_sp hP P1 (by omega) (by omega) fun d' h2 d0' d1' P2 F2 => ?_
      simp
      have F03 := F1.trans F2
      exact k _ _ [(0, d, d' - 1)] F03.le (by simp [bAV]) ⟨by simp [rngB]; omega⟩ (by simp) (P2.fr (S := []) Fr.push (by simp)) (F03.trans Fr.push)
    · simp
      exact ⟨⟨rfl⟩, List.length_pos_iff.mpr c1⟩
  rintro _ _ ⟨⟨rfl⟩, rfl, hpos⟩
  simp [g0, pl14, -s_ite]
  refine take_sp hP P (by omega) (by omega) fun at' h1 a0 a1 P1 F1 => ?_
  have g1 := F1.get g0 (by simpa using ne)
  obtain ⟨⟨a, b, m⟩, hm, ew, ea⟩ := atI_map bAV (xs := bs) a0 (by omega)
  have w1 := br.ok _ hm
  simp [g1, ea, bAV, pl14, -s_ite]
  refine take_sp hP P1 (by omega) (by omega) fun kd h2 k0 k1 P2 F2 => ?_
  have g2 := F2.get g1 (by simpa using ne)
  have F02 := F1.trans F2
  simp [-s_ite]
  have l2 := F02.le
  refine cut2 (fun τ h' => Bx (∃ a' b' m' z, Tq τ [some (.ref p), some (.int s), some (.ref r0), some (.int at'), some (.int kd), some (.int a'), some (.int b'), some (.int m'), z] ∧ rngB a' ∧ rngB b' ∧ Pen h' p ∧ Fr [p] h h' ∧ h'.get r0 = some (.lst (bs.map bAV)))) ?_ ?_
  · simp
    refine BW_dec (fun c1 => ?_) fun c1 => ?_
    · simp [pl24]
      refine bad_box P2 fun x h3 hx P3 F3 => ?_
      simp
      exact .mk ⟨x, b, m, _, ⟨rfl⟩, rng_bad s1 s6 hx, w1.2, P3, F02.trans F3, F3.get g2 (by simpa using ne)⟩
    simp
    refine BW_dec (fun c2 => ?_) fun c2 => ?_
    · simp [pl24]
      refine bad_box P2 fun x h3 hx P3 F3 => ?_
      simp
      exact .mk ⟨a, x, m, _, ⟨rfl⟩, w1.1, rng_bad s1 s6 hx, P3, F02.trans F3, F3.get g2 (by simpa using ne)⟩
    simp
    refine BW_dec (fun c3 => ?_) fun c3 => ?_
    · simp
      exact .mk ⟨a, a, m, _, ⟨rfl⟩, w1.1, w1.1, P2, F02, g2⟩
    simp
    refine BW_dec (fun c4 => ?_) fun c4 => ?_
    · simp [pl14]
      refine take_sp hP (P2.fr (S := []) Fr.push (by simp)) (by omega) (by omega) fun z h3 z0 z1 P3 F3 => ?_
      have g3 := F3.get (AH.get_push_new (h := h2) (o := .lst [.int (-1), .int (-5)])) (by simp; omega)
      have g4 := F3.get (AH.get_push_old (o := .lst [.int (-1), .int (-5)]) g2) (by simpa using ne)
      have F03 : Fr [p] h h3 := (F02.trans Fr.push).trans F3
      have : z = 0 ∨ z = 1 := by omega
      rcases this with rfl | rfl <;> simp [g3] <;> exact .mk ⟨a, b, _, _, ⟨rfl⟩, w1.1, w1.2, P3, F03, g4⟩
    simp
    refine BW_dec (fun c5 => ?_) fun c5 => ?_
    · simp
      exact .mk ⟨a, b, 0, _, ⟨rfl⟩, w1.1, w1.2, P2, F02, g2⟩
    simp
    refine BW_dec (fun c8 => ?_) fun c8 => ?_
    · simp [-w_o2]
      refine splice (f := bAV) (ws := bs) (x := (b, a, m)) (i := at') (j := at') rfl g2 (by simp) (by simp) (by simp [bAV]) (by omega) fun r' h' ws' hr g' q hl' F' => ?_
      exact k r' h' ws' (by omega) g' (br.cons q ⟨w1.2, w1.1⟩) hl' (P2.fr F' (by simp)) (F02.trans2 F' (by simp))
    · simp [pl14, g2, -w_o2]
      rw [w_o2]
      simp [g2, -w_o2]
      refine take_sp hP P2 (by omega) (by omega) fun pl h3 p0 p1 P3 F3 => ?_
      have g3 := F3.get g2 (by simpa using ne)
      have F03 := F02.trans F3
      have l3 := F03.le
      simp [-w_o2]
      refine splice (f := bAV) (ws := bs) (x := (a, b, m + 1)) (i := pl) (j := pl) rfl g3 (by simp) (by simp) (by simp [bAV]) (by omega) fun r' h' ws' hr g' q hl' F' => ?_
      exact k r' h' ws' (by omega) g' (br.cons q w1) hl' (P3.fr F' (by simp)) (F03.trans2 F' (by simp))
  · rintro _ h3 ⟨a', b', m', z, ⟨rfl⟩, wa, wb, P3, F3, g3⟩
    simp [-w_o2]
    have l3 := F3.le
    refine splice (f := bAV) (ws := bs) (x := (a', b', m')) (i := at') (j := at' + 1) rfl g3 (by simp) (by simp) (by simp [bAV]) (by omega) fun r' h' ws' hr g' q hl' F' => ?_
    exact k r' h' ws' (by omega) g' (br.cons q ⟨wa, wb⟩) hl' (P3.fr F' (by simp)) (F3.trans2 F' (by simp))
def Flt.nm : Flt → Str
  | .size _ => "BadSize"
  | .box _ => "NoBox"
  | .wire _ _ => "BadWire"
  | .bound _ _ => "BadBound"
def Flt.vs : Flt → List AV
  | .size s => [.int s]
  | .box x => [.int x]
  | .wire a b => [.int a, .int b]
  | .bound a b => [.int a, .int b]
def Flt.av (f : Flt) : AV := .tup [.str (Flt.nm f), .tup (Flt.vs f), .bl true]
def Flt.oav : Option Flt → AV
  | some f => Flt.av f
  | none => .non
end
section
variable {G : PG} {w : Watch} {step : AV → Mi.Frame → AH → SR} {τ : Mi.Frame} {h : AH} {K : Fl → Mi.Frame → AH → Prop} {X : Nat → List (Nat × AV) → Mi.Frame → AH → Prop}
theorem forGo_nil : SW (forGo w step [] τ h) K X = (Still w h ∧ K .nx τ h) := by
  classical
  show SW (if Still w h then SR.ok .nx τ h else .bad) K X = _
  by_cases q : Still w h
  · rw [if_pos q]; simp [q]
  · rw [if_neg q]; simp [q]
theorem forGo_cons {v : AV} {r : List AV} : SW (forGo w step (v :: r) τ h) K X = (Still w h ∧ SW (step v τ h) (loopK (fun τ h => SW (forGo w step r τ h) K X) K) X) := by
  classical
  show SW (if Still w h then match step v τ h with
    | .ok .nx τ' h' => forGo w step r τ' h'
    | .ok .ct τ' h' => forGo w step r τ' h'
    | .ok .bk τ' h' => .ok .nx τ' h'
    | r => r
    else .bad) K X = _
  by_cases q : Still w h
  · rw [if_pos q]
    simp only [q, true_and]
    cases step v τ h with
    | ok fl τ' h' => cases fl <;> rfl
    | exc c fs τ h => rfl
    | bad => rfl
  · rw [if_neg q]
    simp [q]
end
section
variable {n : Nat} {h : AH} {Q : AV → AH → Prop} {X : Nat → List (Nat × AV) → AH → Prop}
theorem fault_sp {s : Int} {rw rt : Nat} {ws : List W} {bs : List Bd} (gw : h.get rw = some (.lst (ws.map wAV))) (gt : h.get rt = some (.lst (bs.map bAV))) (lw : ws.length < 1000000) (lb : bs.length < 1000000)
    (k : ∀ h', Fr [] h h' → Q (Flt.oav (fltL s ws bs)) h') : RW (Gam B (n + 1) 28 [.int s, .ref rw, .ref rt] h) Q X := by
  refine enter (i := i28) rfl (by simp [i28]) ?_
  simp only [i28, c28, List.map_cons, List.map_nil, List.cons_append, List.nil_append, List.replicate]
  have hrw := AH.get_lt gw
  have hrt := AH.get_lt gt
  by_cases s1 : s < 1
  · have := k h Fr.refl
    unfold fltL at this
    rw [if_pos s1] at this
    simp [s1]
    exact this
  have e0 : ∀ o, fltW s [] ws = o → fltL s ws bs = match o with
    | some f => some f
    | none => fltB s [] bs := fun o e => by
    unfold fltL
    rw [if_neg s1, e]
    all_goals (cases o <;> rfl)
  simp [s1, AH.get_push_old gw]
  refine for_rule wAV ws (fun d _ τ h' => Bx (Hd [some (.int s), some (.ref rw), some (.ref rt), some (.ref h.n)] 9 τ ∧ Fr [] h h' ∧ h'.get h.n = some (.lst ((d.map wp).map pAV)) ∧ fltW s [] d = none)) (.mk ⟨Hd.of rfl rfl, Fr.push, by simp, rfl⟩) ?_ ?_
  · rintro d ⟨a, b, lo, hi⟩ r τ h1 e ⟨⟨rest, rfl, hl'⟩, F1, g1, f1⟩
    obtain ⟨x1, x2, x3, x4, x5, x6, x7, x8, x9, rfl⟩ : ∃ a b c d e f g i j, rest = [a, b, c, d, e, f, g, i, j] := by
      match rest, hl' with
      | [a, b, c, d, e, f, g, i, j], _ => exact ⟨a, b, c, d, e, f, g, i, j, rfl⟩
    have fe : fltW s [] ws = fltW s (d.map wp) ((a, b, lo, hi) :: r) := by
      rw [← e, fltW_app, f1]
      simp
    have hlen := congrArg List.length e
    simp at hlen
    refine ⟨by simpa using F1.get0 gw, ?_⟩
    have kk : ∀ f h', fltW s (d.map wp) ((a, b, lo, hi) :: r) = some f → Fr [] h h' → Q (Flt.av f) h' := fun f h' e1 F' => by
      have := k h' F'
      rw [e0 (some f) (by rw [fe, e1])] at this
      exact this
    have F2 : Fr [] h (h1.push (.lst [.int a, .int b])) := F1.trans Fr.push
    have g2 : (h1.push (.lst [.int a, .int b])).get h.n = some (.lst ((d.map wp).map pAV)) := AH.get_push_old g1
    have g3 : (h1.push (.lst [.int a, .int b])).get h1.n = some (.lst [.int a, .int b]) := AH.get_push_new
    have hn1 := AH.get_lt g1
    simp [b28_4, wAV, -s_ite]
    generalize h1.push (.lst [.int a, .int b]) = h2 at F2 g2 g3 ⊢
    refine cut2 (fun τ h' => Bx (Tq τ [some (.int s), some (.ref rw), some (.ref rt), some (.ref h.n), some (.int a), some (.int b), some (.int lo), some (oAV hi), some (.int b), x6, x7, x8, x9] ∧ h2 = h' ∧ ¬outB s a ∧ ¬outB s b)) ?_ ?_
    · simp [forGo_cons, forGo_nil, g3, b28_3, -s_ite]
      refine ite_pure (outB s a) (¬outB s a) (by simp [BWp, outB]; grind) (fun o => ?_) fun o => ?_
      · simp
        exact kk (.box a) _ (by rw [fltW, if_pos o]) F2
      · simp [-s_ite, g3, forGo_cons, forGo_nil]
        refine ite_pure (outB s b) (¬outB s b) (by simp [BWp, outB]; grind) (fun o2 => ?_) fun o2 => ?_
        · simp
          exact kk (.box b) _ (by rw [fltW, if_neg o, if_pos o2]) F2
        · simp [g3, forGo_cons, forGo_nil]
          exact .mk ⟨⟨rfl⟩, rfl, o, o2⟩
    · rintro _ _ ⟨⟨rfl⟩, rfl, oa, ob⟩
      refine cut (fun τ h' => Bx (Tq τ [some (.int s), some (.ref rw), some (.ref rt), some (.ref h.n), some (.int a), some (.int b), some (.int lo), some (oAV hi), some (.int b), some (.bl (decide (slow (a, b, lo, hi)))), x7, x8, x9] ∧ h2 = h')) ?_ ?_
      · cases hi with
        | none =>
          simp
          exact .mk ⟨⟨by simp [slow]⟩, rfl⟩
        | some y =>
          simp
          exact .mk ⟨⟨by simp [slow]⟩, rfl⟩
      rintro _ _ ⟨⟨rfl⟩, rfl⟩
      simp only [s_cons, s_nil]
      refine cut2 (fun τ h' => Bx (Tq τ [some (.int s), some (.ref rw), some (.ref rt), some (.ref h.n), some (.int a), some (.int b), some (.int lo), some (oAV hi), some (.int b), some (.bl (decide (slow (a, b, lo, hi)))), x7, x8, x9] ∧ h2 = h' ∧ ¬badW (d.map wp) (a, b, lo, hi))) ?_ ?_
      · refine ite_pure (badW (d.map wp) (a, b, lo, hi)) (¬badW (d.map wp) (a, b, lo, hi)) ?_ (fun o => ?_) fun o => ?_
        · simp [BWp, g2, in_pairs, -List.mem_map, -List.map_map, badW, wp]
          grind
        · simp
          exact kk (.wire a b) _ (by rw [fltW, if_neg oa, if_neg ob, if_pos o]) F2
        · simp
          exact .mk ⟨⟨rfl⟩, rfl, o⟩
      rintro _ _ ⟨⟨rfl⟩, rfl, nb⟩
      simp [g2]
      refine ⟨by omega, .mk ⟨Hd.of rfl rfl, F2.trans2 (S' := [h.n]) (Fr.put (by simp)) (by simp), by rw [AH.get_put_same g2]; simp [pAV, wp], ?_⟩⟩
      rw [fltW_app, f1]
      simp [fltW, oa, ob, nb]
  · rintro τ h1 ⟨⟨rest, rfl, hl'⟩, F1, g1, f1⟩
    obtain ⟨x1, x2, x3, x4, x5, x6, x7, x8, x9, rfl⟩ : ∃ a b c d e f g i j, rest = [a, b, c, d, e, f, g, i, j] := by
      match rest, hl' with
      | [a, b, c, d, e, f, g, i, j], _ => exact ⟨a, b, c, d, e, f, g, i, j, rfl⟩
    refine ⟨by simpa using F1.get0 gw, ?_⟩
    have n1 := F1.le
    simp [AH.get_push_old (F1.get0 gt)]
    refine for_rule bAV bs (fun d _ τ h' => Bx (Hd [some (.int s), some (.ref rw), some (.ref rt), some (.ref h1.n)] 9 τ ∧ Fr [] h h' ∧ h'.get h1.n = some (.lst ((d.map bp).map pAV)) ∧ fltB s [] d = none)) (.mk ⟨Hd.of rfl rfl, F1.trans Fr.push, by simp, rfl⟩) ?_ ?_
    · rintro d ⟨a, b, lo⟩ r τ h2 e ⟨⟨rest, rfl, hl'⟩, F2, g2, f2⟩
      obtain ⟨x1, x2, x3, x4, x5, x6, x7, x8, x9, rfl⟩ : ∃ a b c d e f g i j, rest = [a, b, c, d, e, f, g, i, j] := by
        match rest, hl' with
        | [a, b, c, d, e, f, g, i, j], _ => exact ⟨a, b, c, d, e, f, g, i, j, rfl⟩
      have fe : fltB s [] bs = fltB s (d.map bp) ((a, b, lo) :: r) := by
        rw [← e, fltB_app, f2]
        simp
      have hlen := congrArg List.length e
      simp at hlen
      refine ⟨by simpa using F2.get0 gt, ?_⟩
      have kk : ∀ f h', fltB s (d.map bp) ((a, b, lo) :: r) = some f → Fr [] h h' → Q (Flt.av f) h' := fun f h' e1 F' => by
        have := k h' F'
        rw [e0 none f1] at this
        simp only [fe, e1] at this
        exact this
      have F3 : Fr [] h (h2.push (.lst [.int a, .int b])) := F2.trans Fr.push
      have g4 : (h2.push (.lst [.int a, .int b])).get h1.n = some (.lst ((d.map bp).map pAV)) := AH.get_push_old g2
      have g3 : (h2.push (.lst [.int a, .int b])).get h2.n = some (.lst [.int a, .int b]) := AH.get_push_new
      have hn1 := AH.get_lt g2
      simp [b28_2, bAV, -s_ite]
      generalize h2.push (.lst [.int a, .int b]) = h3 at F3 g4 g3 ⊢
      refine cut2 (fun τ h' => Bx (∃ y5 y6 y7 y8, Tq τ [some (.int s), some (.ref rw), some (.ref rt), some (.ref h1.n), y5, y6, y7, y8, some (.int b), x6, some (.int a), some (.int b), some (.int lo)] ∧ h3 = h' ∧ ¬outB s a ∧ ¬outB s b)) ?_ ?_
      · simp [forGo_cons, forGo_nil, g3, b28_1, -s_ite]
        refine ite_pure (outB s a) (¬outB s a) (by simp [BWp, outB]; grind) (fun o => ?_) fun o => ?_
        · simp
          exact kk (.box a) _ (by rw [fltB, if_pos o]) F3
        · simp [-s_ite, g3, forGo_cons, forGo_nil]
          refine ite_pure (outB s b) (¬outB s b) (by simp [BWp, outB]; grind) (fun o2 => ?_) fun o2 => ?_
          · simp
            exact kk (.box b) _ (by rw [fltB, if_neg o, if_pos o2]) F3
          · simp [g3, forGo_cons, forGo_nil]
            exact .mk ⟨_, _, _, _, ⟨rfl⟩, rfl, o, o2⟩
      · rintro _ _ ⟨y5, y6, y7, y8, ⟨rfl⟩, rfl, oa, ob⟩
        simp only [s_cons, s_nil]
        refine cut2 (fun τ h' => Bx (Tq τ [some (.int s), some (.ref rw), some (.ref rt), some (.ref h1.n), y5, y6, y7, y8, some (.int b), x6, some (.int a), some (.int b), some (.int lo)] ∧ h3 = h' ∧ ¬badB (d.map bp) (a, b, lo))) ?_ ?_
        · refine ite_pure (badB (d.map bp) (a, b, lo)) (¬badB (d.map bp) (a, b, lo)) ?_ (fun o => ?_) fun o => ?_
          · simp [BWp, g4, in_pairs, -List.mem_map, -List.map_map, badB, bp]
            grind
          · simp
            exact kk (.bound a b) _ (by rw [fltB, if_neg oa, if_neg ob, if_pos o]) F3
          · simp
            exact .mk ⟨⟨rfl⟩, rfl, o⟩
        rintro _ _ ⟨⟨rfl⟩, rfl, nb⟩
        simp [g4]
        refine ⟨by omega, .mk ⟨Hd.of rfl rfl, F3.trans2 (S' := [h1.n]) (Fr.put (by simp)) (by simp; omega), by rw [AH.get_put_same g4]; simp [pAV, bp], ?_⟩⟩
        rw [fltB_app, f2]
        simp [fltB, oa, ob, nb]
    · rintro τ h2 ⟨⟨rest, rfl, hl'⟩, F2, g2, f2⟩
      refine ⟨by simpa using F2.get0 gt, ?_⟩
      simp
      have := k h2 F2
      rw [e0 none f1] at this
      simp only [f2] at this
      exact this
end
end Tk02
set_option Elab.async false
set_option maxRecDepth 100000
set_option maxHeartbeats 4000000
/-! K2Md: what the law makes of the program's answers. -/
namespace Tk02
open PySem Mi Cd
section
variable {n : Nat} {h : AH} {Q : AV → AH → Prop} {X : Nat → List (Nat × AV) → AH → Prop}
theorem fltW_shape {s : Int} : ∀ {ws : List W} {seen : List (Int × Int)} {f : Flt}, fltW s seen ws = some f → (∃ x, f = .box x) ∨ ∃ a b, f = .wire a b
  | [], _, f, e => by cases e
  | w :: r, seen, f, e => by
    rw [fltW] at e
    split at e
    · cases e; exact .inl ⟨_, rfl⟩
    · split at e
      · cases e; exact .inl ⟨_, rfl⟩
      · split at e
        · cases e; exact .inr ⟨_, _, rfl⟩
        · exact fltW_shape e
theorem made_sp {s : Int} {wv bv : AV} {ws : List W} {bs : List Bd} (Iw : Itr wv (ws.map wAV) h) (Ib : Itr bv (bs.map bAV) h) (ss : small s) (sw : ∀ w ∈ ws, smallW w) (sb : ∀ b ∈ bs, smallB b) (lw : ws.length < 1000000) (lb : bs.length < 1000000)
    (k : fltL s ws bs = none → Dst wp ws → Dst bp bs → ∀ r1 r2 h', h'.get r1 = some (.lst ((srtB (ltQ wp) ws).map wAV)) → h'.get r2 = some (.lst ((srtB (ltQ bp) bs).map bAV)) → Fr [] h h' → Q (.tup [.str "told", .int s, .ref r1, .ref r2]) h')
    (kx : ∀ f h', fltL s ws bs = some f → Fr [] h h' → Q (Flt.av f) h') : RW (Gam B (n + 4) 29 [.int s, wv, bv] h) Q X := by
  refine enter (i := i29) rfl (by simp [i29]) ?_
  simp only [i29, c29, List.map_cons, List.map_nil, List.cons_append, List.nil_append, List.replicate]
  have nl : ∀ {l : List AV} {v : AV}, Itr v l h → Itr v l (h.push (.ins 6 [])) := fun I => I.fr (S := []) Fr.push (by simp)
  simp [placeS, place]
  refine init_sp hG AH.get_push_new (nl Iw) (nl Ib) ss sw sb lw lb (fun rh rw rb h1 ef L _ _ _ F => ?_) fun f h1 ef F => ?_
  · simp [L.o, List.lookup, pl6, pl7]
    have F1 : Fr [] h h1 := (Fr.push (o := .ins 6 [])).trans2 F (by simp)
    refine ln_wires hG L fun h2 g2 n2 F2 => ?_
    have L2 := L.fr F2 (by simp)
    simp [L2.o, List.lookup, pl6, pl7]
    refine ln_bounds hG L2 fun h3 g3 n3 F3 => ?_
    simp
    exact k ef L.dw L.db _ _ _ (F3.get0 g2) g3 ((F1.trans F2).trans F3)
  · have F1 : Fr [] h h1 := (Fr.push (o := .ins 6 [])).trans2 F (by simp)
    have := kx f h1 ef F1
    cases f <;> simp [Flt.c, Flt.fs, List.lookup] <;> exact this
theorem refused_sp {s : Int} {wv bv : AV} {ws : List W} {bs : List Bd} (Iw : Itr wv (ws.map wAV) h) (Ib : Itr bv (bs.map bAV) h) (ss : small s) (sw : ∀ w ∈ ws, smallW w) (sb : ∀ b ∈ bs, smallB b) (lw : ws.length < 1000000) (lb : bs.length < 1000000)
    (k : ∀ h', Fr [] h h' → Q (.bl (fltL s ws bs).isSome) h') : RW (Gam B (n + 4) 31 [.int s, wv, bv] h) Q X := by
  refine enter (i := i31) rfl (by simp [i31]) ?_
  simp only [i31, c31, List.map_cons, List.map_nil, List.cons_append, List.nil_append, List.replicate]
  have nl : ∀ {l : List AV} {v : AV}, Itr v l h → Itr v l (h.push (.ins 6 [])) := fun I => I.fr (S := []) Fr.push (by simp)
  simp [placeS, place]
  refine init_sp hG AH.get_push_new (nl Iw) (nl Ib) ss sw sb lw lb (fun rh rw rb h1 ef L _ _ _ F => ?_) fun f h1 ef F => ?_
  · have F1 : Fr [] h h1 := (Fr.push (o := .ins 6 [])).trans2 F (by simp)
    have := k h1 F1
    rw [ef] at this
    simp
    exact this
  · have F1 : Fr [] h h1 := (Fr.push (o := .ins 6 [])).trans2 F (by simp)
    have := k h1 F1
    rw [ef] at this
    cases f <;> simp [Flt.c, Flt.fs] <;> exact this
theorem keeps_sp {a b : Int} (sa : small a) (sb : small b) (k : ∀ h', Fr [] h h' → Q (.bl true) h') : RW (Gam B (n + 5) 30 [.int a, .int b] h) Q X := by
  refine enter (i := i30) rfl (by simp [i30]) ?_
  simp only [i30, c30, List.map_cons, List.map_nil, List.cons_append, List.nil_append, List.replicate]
  simp [sa.shows, sb.shows, List.lookup, pl19]
  have F : Fr [] h ((h.push (.lst [.int a, .int a, .int a, .int b, .int a, .int b])).push (.lst [.int a, .int a, .int a, .int b, .int a, .int b])) := Fr.push.trans Fr.push
  have g1 : ((h.push (.lst [.int a, .int a, .int a, .int b, .int a, .int b])).push (.lst [.int a, .int a, .int a, .int b, .int a, .int b])).get h.n = some (.lst [.int a, .int a, .int a, .int b, .int a, .int b]) := AH.get_push_old AH.get_push_new
  have g2 : ((h.push (.lst [.int a, .int a, .int a, .int b, .int a, .int b])).push (.lst [.int a, .int a, .int a, .int b, .int a, .int b])).get (h.n + 1) = some (.lst [.int a, .int a, .int a, .int b, .int a, .int b]) := by simp
  generalize ((h.push (.lst [.int a, .int a, .int a, .int b, .int a, .int b])).push (.lst [.int a, .int a, .int a, .int b, .int a, .int b])) = h1 at F g1 g2 ⊢
  have hd : ∀ r, h1.get r = some (.lst [.int a, .int a, .int a, .int b, .int a, .int b]) → dn 1 h1 (.ref r) = some (.lst [.int a, .int a, .int a, .int b, .int a, .int b]) := fun r g => by
    simp [dn, g, mapO]
  refine same_sp (n := n + 1) hS 1 (hd _ g1) (hd _ g2) ?_
  exact k h1 F
/-! the data of the law's values -/
def wD (w : W) : D := .tup [.int w.1, .int w.2.1, .int w.2.2.1, match w.2.2.2 with | none => .non | some x => .int x]
def bD (b : Bd) : D := .tup [.int b.1, .int b.2.1, .int b.2.2]
theorem dn_w {m : Nat} {w : W} : dn (m + 1) h (wAV w) = some (wD w) := by
  rcases w with ⟨a, b, lo, hi⟩
  cases m <;> cases hi <;> simp [wAV, dn, mapO, wD]
theorem dn_b {m : Nat} {b : Bd} : dn (m + 1) h (bAV b) = some (bD b) := by
  rcases b with ⟨a, b, m'⟩
  cases m <;> simp [bAV, dn, mapO, bD]
theorem dn_lst {m : Nat} {α : Type} {f : α → AV} {g : α → D} {l : List α} {r : Nat} (e : h.get r = some (.lst (l.map f))) (hl : l.length < 1000000) (q : ∀ x ∈ l, dn m h (f x) = some (g x)) : dn (m + 1) h (.ref r) = some (.lst (l.map g)) := by
  have : mapO (dn m h) (l.map f) = some (l.map g) := mapO_map q
  simp [dn, e, this]
  omega
theorem dn_ws {m : Nat} {l : List W} {r : Nat} (e : h.get r = some (.lst (l.map wAV))) (hl : l.length < 1000000) : dn (m + 2) h (.ref r) = some (.lst (l.map wD)) := dn_lst e hl fun _ _ => dn_w
theorem dn_bs {m : Nat} {l : List Bd} {r : Nat} (e : h.get r = some (.lst (l.map bAV))) (hl : l.length < 1000000) : dn (m + 2) h (.ref r) = some (.lst (l.map bD)) := dn_lst e hl fun _ _ => dn_b
theorem dn_told {m : Nat} {s : Int} {ws : List W} {bs : List Bd} {r1 r2 : Nat} (e1 : h.get r1 = some (.lst (ws.map wAV))) (e2 : h.get r2 = some (.lst (bs.map bAV))) (h1 : ws.length < 1000000) (h2 : bs.length < 1000000) :
    dn (m + 3) h (.tup [.str "told", .int s, .ref r1, .ref r2]) = some (.tup [.str "told", .int s, .lst (ws.map wD), .lst (bs.map bD)]) := by
  have q1 := dn_ws (m := m) e1 h1
  have q2 := dn_bs (m := m) e2 h2
  have q3 : PyData.strOk "told" = true := by decide +kernel
  show (if ([AV.str "told", .int s, .ref r1, .ref r2] : List AV).length < 1000000000 then (mapO (dn (m + 2) h) [AV.str "told", .int s, .ref r1, .ref r2]).map D.tup else none) = _
  have e0 : mapO (dn (m + 2) h) [AV.str "told", .int s, .ref r1, .ref r2] = some [.str "told", .int s, .lst (ws.map wD), .lst (bs.map bD)] := by
    simp only [mapO, q1, q2]
    simp [dn, q3]
  rw [e0]
  rfl
def Flt.d (f : Flt) : D := .tup [.str (Flt.nm f), .tup (match f with | .size s => [.int s] | .box x => [.int x] | .wire a b => [.int a, .int b] | .bound a b => [.int a, .int b]), .bl true]
theorem dn_flt {m : Nat} {f : Flt} : dn (m + 2) h (Flt.av f) = some (Flt.d f) := by
  have q1 : PyData.strOk "BadSize" = true := by decide +kernel
  have q2 : PyData.strOk "NoBox" = true := by decide +kernel
  have q3 : PyData.strOk "BadWire" = true := by decide +kernel
  have q4 : PyData.strOk "BadBound" = true := by decide +kernel
  cases m <;> cases f <;> simp [dn, Flt.av, Flt.d, Flt.nm, Flt.vs, mapO, q1, q2, q3, q4]
end
end Tk02
set_option Elab.async false
set_option maxRecDepth 100000
set_option maxHeartbeats 4000000
/-! Pk02: law k02 answers True. -/
namespace Tk02
open PySem Mi Cd
theorem fltW_none {s : Int} : ∀ {ws : List W} {seen : List (Int × Int)}, (∀ w ∈ ws, WOk s w) → Dst wp ws → (∀ w ∈ ws, wp w ∉ seen) → fltW s seen ws = none
  | [], _, _, _, _ => rfl
  | w :: r, seen, ok, d, q => by
    obtain ⟨d1, d2⟩ := List.pairwise_cons.mp d
    have o := ok w List.mem_cons_self
    have o1 := o.s0
    have o2 := o.s1
    have o3 := o.t0
    have o4 := o.t1
    have o5 := o.lo
    rw [fltW, if_neg (by unfold outB; omega), if_neg (by unfold outB; omega), if_neg]
    · refine fltW_none (fun x hx => ok x (List.mem_cons_of_mem _ hx)) d2 fun x hx z => ?_
      rcases List.mem_append.mp z with z | z
      · exact q x (List.mem_cons_of_mem _ hx) z
      · exact d1 x hx (List.mem_singleton.mp z).symm
    · rintro (z | z | z | ⟨x, z1, z2⟩)
      · exact o.ne z
      · omega
      · exact q w List.mem_cons_self z
      · have := o.hi x z1
        omega
theorem fltB_none {s : Int} : ∀ {bs : List Bd} {seen : List (Int × Int)}, (∀ b ∈ bs, BOk s b) → Dst bp bs → (∀ b ∈ bs, bp b ∉ seen) → fltB s seen bs = none
  | [], _, _, _, _ => rfl
  | w :: r, seen, ok, d, q => by
    obtain ⟨d1, d2⟩ := List.pairwise_cons.mp d
    have o := ok w List.mem_cons_self
    have o1 := o.s0
    have o2 := o.s1
    have o3 := o.t0
    have o4 := o.t1
    have o5 := o.lo
    rw [fltB, if_neg (by unfold outB; omega), if_neg (by unfold outB; omega), if_neg]
    · refine fltB_none (fun x hx => ok x (List.mem_cons_of_mem _ hx)) d2 fun x hx z => ?_
      rcases List.mem_append.mp z with z | z
      · exact q x (List.mem_cons_of_mem _ hx) z
      · exact d1 x hx (List.mem_singleton.mp z).symm
    · rintro (z | z | z)
      · exact o.ne z
      · omega
      · exact q w List.mem_cons_self z
theorem fltW_dst {s : Int} : ∀ {ws : List W} {seen : List (Int × Int)}, fltW s seen ws = none → Dst wp ws ∧ ∀ w ∈ ws, wp w ∉ seen
  | [], _, _ => ⟨List.Pairwise.nil, by simp⟩
  | w :: r, seen, e => by
    rw [fltW] at e
    split at e
    · cases e
    · split at e
      · cases e
      · split at e
        · cases e
        · rename_i nb
          obtain ⟨h1, h2⟩ := fltW_dst e
          refine ⟨List.pairwise_cons.mpr ⟨fun x hx z => h2 x hx (by rw [← z]; simp), h1⟩, fun x hx z => ?_⟩
          rcases List.mem_cons.mp hx with rfl | hx
          · exact nb (.inr (.inr (.inl z)))
          · exact h2 x hx (List.mem_append_left _ z)
theorem fltB_dst {s : Int} : ∀ {bs : List Bd} {seen : List (Int × Int)}, fltB s seen bs = none → Dst bp bs ∧ ∀ b ∈ bs, bp b ∉ seen
  | [], _, _ => ⟨List.Pairwise.nil, by simp⟩
  | w :: r, seen, e => by
    rw [fltB] at e
    split at e
    · cases e
    · split at e
      · cases e
      · split at e
        · cases e
        · rename_i nb
          obtain ⟨h1, h2⟩ := fltB_dst e
          refine ⟨List.pairwise_cons.mpr ⟨fun x hx z => h2 x hx (by rw [← z]; simp), h1⟩, fun x hx z => ?_⟩
          rcases List.mem_cons.mp hx with rfl | hx
          · exact nb (.inr (.inr z))
          · exact h2 x hx (List.mem_append_left _ z)
theorem fltL_dst {s : Int} {ws : List W} {bs : List Bd} (e : fltL s ws bs = none) : Dst wp ws ∧ Dst bp bs := by
  unfold fltL at e
  split at e
  · cases e
  · cases e1 : fltW s [] ws with
    | some f => rw [e1] at e; cases e
    | none =>
      rw [e1] at e
      exact ⟨(fltW_dst e1).1, (fltB_dst e).1⟩
theorem fltL_none {s : Int} {ws : List W} {bs : List Bd} (s1 : 1 ≤ s) (ow : ∀ w ∈ ws, WOk s w) (dw : Dst wp ws) (ob : ∀ b ∈ bs, BOk s b) (db : Dst bp bs) : fltL s ws bs = none := by
  unfold fltL
  rw [if_neg (by omega), fltW_none ow dw (by simp)]
  exact fltB_none ob db (by simp)
theorem sort_w {ws : List W} (d : Dst wp ws) : sortA (ws.map wAV) = some ((srtB (ltQ wp) ws).map wAV) :=
  sortA_hd wAV wp (fun w => [(0, w.2.2.1), match w.2.2.2 with | none => (1, 0) | some x => (0, x)]) (fun w _ => by rcases w with ⟨a, b, lo, hi⟩; cases hi <;> rfl) (fun _ => rfl) d
theorem sort_b {bs : List Bd} (d : Dst bp bs) : sortA (bs.map bAV) = some ((srtB (ltQ bp) bs).map bAV) := sortA_hd bAV bp (fun b => [(0, b.2.2)]) (fun b _ => rfl) (fun _ => rfl) d
/-- what the law keeps -/
structure K6 (s : Int) (ws : List W) (bs : List Bd) (g1 g2 k0 k1 k2 : Nat) (h : AH) : Prop where
  s1 : 1 ≤ s
  s6 : s ≤ 6
  ow : ∀ w ∈ ws, WOk s w
  dw : Dst wp ws
  lw : ws.length ≤ 100
  ob : ∀ b ∈ bs, BOk s b
  db : Dst bp bs
  lb : bs.length ≤ 100
  q1 : h.get g1 = some (.lst ((srtB (ltQ wp) ws).map wAV))
  q2 : h.get g2 = some (.lst ((srtB (ltQ bp) bs).map bAV))
  q3 : h.get k0 = some (.lst [.int s, .ref k1, .ref k2])
  q4 : h.get k1 = some (.lst (ws.map wAV))
  q5 : h.get k2 = some (.lst (bs.map bAV))
theorem K6.fr {s : Int} {ws : List W} {bs : List Bd} {g1 g2 k0 k1 k2 : Nat} {h h' : AH} {S : List Nat} (K : K6 s ws bs g1 g2 k0 k1 k2 h) (F : Fr S h h') (q : g1 ∉ S ∧ g2 ∉ S ∧ k0 ∉ S ∧ k1 ∉ S ∧ k2 ∉ S) : K6 s ws bs g1 g2 k0 k1 k2 h' :=
  { K with q1 := F.get K.q1 q.1, q2 := F.get K.q2 q.2.1, q3 := F.get K.q3 q.2.2.1, q4 := F.get K.q4 q.2.2.2.1, q5 := F.get K.q5 q.2.2.2.2 }
/-- the due value -/
structure Due (s : Int) (ws : List W) (bs : List Bd) (v : AV) (h : AH) : Prop where
  no : fltL s ws bs = none → ∃ r1 r2, v = .tup [.str "told", .int s, .ref r1, .ref r2] ∧ h.get r1 = some (.lst ((srtB (ltQ wp) ws).map wAV)) ∧ h.get r2 = some (.lst ((srtB (ltQ bp) bs).map bAV))
  so : ∀ f, fltL s ws bs = some f → v = Flt.av f
theorem Due.fr {s : Int} {ws : List W} {bs : List Bd} {v : AV} {h h' : AH} (D : Due s ws bs v h) (F : Fr [] h h') : Due s ws bs v h' := ⟨fun e => by
  obtain ⟨r1, r2, e, g1, g2⟩ := D.no e
  exact ⟨r1, r2, e, F.get0 g1, F.get0 g2⟩, D.so⟩
section
variable {n : Nat} {Q : AV → AH → Prop} {X : Nat → List (Nat × AV) → AH → Prop}
theorem law_sp {ns : List Int} {h : AH} (k : ∀ h', Q (.bl true) h') : RW (Gam B (n + 8) 32 [.frl ns] h) Q X := by
  refine enter (i := i32) rfl (by simp [i32]) ?_
  simp only [i32, c32, List.map_cons, List.map_nil, List.cons_append, List.nil_append, List.replicate]
  simp [pl23, pl13, pl20]
  refine line_sp hL fun s rw ws rt bs h1 L => ?_
  simp [-s_for, -s_ite, pl13]
  refine pen_sp hP (by omega) fun h2 n2 P2 F2 => ?_
  simp [-s_for, -s_ite, pl20]
  have rw1 := AH.get_lt L.gw
  have rt1 := AH.get_lt L.gt
  have lw := L.wa.len
  have lb := L.ba.len
  refine mixed_sp wAV P2 (F2.get0 L.gw) (by omega) (by omega) fun rw2 h3 ws1 hrw2 g3 pm3 P3 F3 => ?_
  simp [-s_for, -s_ite, pl20]
  refine mixed_sp bAV P3 (F3.get (F2.get0 L.gt) (by simp; omega)) (by omega) (by omega) fun rt2 h4 bs1 hrt2 g4 pm4 P4 F4 => ?_
  have g3' := F4.get g3 (by simp; omega)
  have dw := L.wa.asc.dst.perm pm3.symm
  have db := L.ba.asc.dst.perm pm4.symm
  have lrw := AH.get_lt g3'
  have lrt := AH.get_lt g4
  have a0 : rw2 ≠ h4.n := by omega
  have a1 : rw2 ≠ h4.n + 1 := by omega
  have a2 : rw2 ≠ h4.n + 2 := by omega
  have a3 : rw2 ≠ h4.n + 1 + 1 := by omega
  have b0 : rt2 ≠ h4.n := by omega
  have b1 : rt2 ≠ h4.n + 1 := by omega
  have b2 : rt2 ≠ h4.n + 2 := by omega
  have b3 : rt2 ≠ h4.n + 1 + 1 := by omega
  simp [-s_for, -s_ite, g3', g4, sort_w dw, sort_b db, push_get, a0, a1, a2, a3, b0, b1, b2, b3, pl13]
  have K5 : K6 s ws1 bs1 h4.n (h4.n + 1) (h4.n + 1 + 1 + 1 + 1) (h4.n + 1 + 1) (h4.n + 1 + 1 + 1) (((((h4.push (.lst ((srtB (ltQ wp) ws1).map wAV))).push (.lst ((srtB (ltQ bp) bs1).map bAV))).push (.lst (ws1.map wAV))).push (.lst (bs1.map bAV))).push (.lst [.int s, .ref (h4.n + 1 + 1), .ref (h4.n + 1 + 1 + 1)])) :=
    ⟨L.s1, L.s6, fun w hw => L.wa.ok w (pm3.mem_iff.mp hw), dw, by rw [pm3.length_eq]; exact lw, fun b hb => L.ba.ok b (pm4.mem_iff.mp hb), db, by rw [pm4.length_eq]; exact lb, AH.get_push_old (AH.get_push_old (AH.get_push_old (AH.get_push_old AH.get_push_new))), by simp [push_get], by simp [push_get], by simp [push_get], by simp [push_get]⟩
  have g3'' : (((((h4.push (.lst ((srtB (ltQ wp) ws1).map wAV))).push (.lst ((srtB (ltQ bp) bs1).map bAV))).push (.lst (ws1.map wAV))).push (.lst (bs1.map bAV))).push (.lst [.int s, .ref (h4.n + 1 + 1), .ref (h4.n + 1 + 1 + 1)])).get rw2 = some (.lst (ws1.map wAV)) := AH.get_push_old (AH.get_push_old (AH.get_push_old (AH.get_push_old (AH.get_push_old g3'))))
  have g4'' : (((((h4.push (.lst ((srtB (ltQ wp) ws1).map wAV))).push (.lst ((srtB (ltQ bp) bs1).map bAV))).push (.lst (ws1.map wAV))).push (.lst (bs1.map bAV))).push (.lst [.int s, .ref (h4.n + 1 + 1), .ref (h4.n + 1 + 1 + 1)])).get rt2 = some (.lst (bs1.map bAV)) := AH.get_push_old (AH.get_push_old (AH.get_push_old (AH.get_push_old (AH.get_push_old g4))))
  generalize (((((h4.push (.lst ((srtB (ltQ wp) ws1).map wAV))).push (.lst ((srtB (ltQ bp) bs1).map bAV))).push (.lst (ws1.map wAV))).push (.lst (bs1.map bAV))).push (.lst [.int s, .ref (h4.n + 1 + 1), .ref (h4.n + 1 + 1 + 1)])) = h5 at K5 g3'' g4'' ⊢
  have lr5 := AH.get_lt g3''
  have lt5 := AH.get_lt g4''
  have lK1 := AH.get_lt K5.q1
  have lK2 := AH.get_lt K5.q2
  have lK3 := AH.get_lt K5.q3
  have lK4 := AH.get_lt K5.q4
  have lK5 := AH.get_lt K5.q5
  generalize h4.n + 1 + 1 + 1 + 1 = c0 at K5 lK3 ⊢
  generalize h4.n + 1 + 1 + 1 = c2 at K5 lK5 ⊢
  generalize h4.n + 1 + 1 = c1 at K5 lK4 ⊢
  generalize h4.n + 1 = c4 at K5 lK2 ⊢
  generalize h4.n = c3 at K5 lK1 ⊢
  have kw := K5.lw
  have kb := K5.lb
  refine pen_sp hP (by omega) fun h6 n6 P6 F6 => ?_
  have K6' := K5.fr F6 (by simp)
  simp [-s_ite, pl14]
  refine take_sp hP (P6.fr (S := []) Fr.push (by simp)) (by omega) (by omega) fun z h7 z0 z1 P7 F7 => ?_
  have K7 := (K6'.fr (S := []) (Fr.push (o := .lst [.int 0, .int 1, .int 2, .int 2])) (by simp)).fr F7 (by simp; omega)
  have gw7 := F7.get (AH.get_push_old (o := .lst [.int 0, .int 1, .int 2, .int 2]) (F6.get0 g3'')) (by simp; omega)
  have gt7 := F7.get (AH.get_push_old (o := .lst [.int 0, .int 1, .int 2, .int 2]) (F6.get0 g4'')) (by simp; omega)
  have gr7 := F7.get (AH.get_push_new (h := h6) (o := .lst [.int 0, .int 1, .int 2, .int 2])) (by simp; omega)
  obtain ⟨N, hN, eN⟩ : ∃ N : Nat, N ≤ 2 ∧ L2.atI ([.int 0, .int 1, .int 2, .int 2] : List AV) z = some (.int N) := by
    have : z = 0 ∨ z = 1 ∨ z = 2 ∨ z = 3 := by omega
    rcases this with rfl | rfl | rfl | rfl
    · exact ⟨0, by omega, rfl⟩
    · exact ⟨1, by omega, rfl⟩
    · exact ⟨2, by omega, rfl⟩
    · exact ⟨2, by omega, rfl⟩
  have p5 := P7.lt
  have n67 := F7.le
  simp at n67
  simp [-s_ite, gr7, eN]
  refine ⟨lt62_of (by omega), for_range0 (fun i τ h' => Bx (∃ rw rt ws bs t, Tq τ [some (.frl ns), some (.ref h5.n), some (.ref rw), some (.ref rt), some (.tup [.str "told", .int s, .ref c3, .ref c4]), some (.ref c0), t, none, none, none, some (.int s)] ∧
    K6 s ws1 bs1 c3 c4 c0 c1 c2 h' ∧ Pen h' h5.n ∧ h'.get rw = some (.lst (ws.map wAV)) ∧ h'.get rt = some (.lst (bs.map bAV)) ∧ WsR ws ∧ BsR bs ∧ ws.length + 1 ≤ 101 * 2 ^ i ∧ bs.length + 1 ≤ 101 * 2 ^ i ∧ rw ≠ h5.n ∧ rt ≠ h5.n ∧ h5.n < h'.n)) ?_ ?_ ?_⟩
  · refine .mk ⟨rw2, rt2, ws1, bs1, _, ⟨rfl⟩, K7, P7, gw7, gt7, ⟨fun w hw => ?_⟩, ⟨fun b hb => ?_⟩, by omega, by omega, by omega, by omega, by omega⟩
    · have o := K5.ow w hw
      have := o.s0
      have := o.s1
      have := o.t0
      have := o.t1
      have := K5.s6
      unfold rngB
      omega
    · have o := K5.ob b hb
      have := o.s0
      have := o.s1
      have := o.t0
      have := o.t1
      have := K5.s6
      unfold rngB
      omega
  · rintro i τ h8 hi ⟨rw, rt, ws, bs, t, ⟨rfl⟩, K8, P8, gw, gt, wr, br, lw8, lb8, nw, nt, lp⟩
    have p2 : 2 ^ i ≤ 2 ^ 2 := Nat.pow_le_pow_right (by omega) (by omega)
    have rw8 := AH.get_lt gw
    have rt8 := AH.get_lt gt
    simp [b32_1, pl14]
    refine take_sp hP P8 (by omega) (by omega) fun y h9 y0 y1 P9 F9 => ?_
    have K9 := K8.fr F9 (by simp; omega)
    have gw9 := F9.get gw (by simpa using nw)
    have gt9 := F9.get gt (by simpa using nt)
    have l9 := F9.le
    simp
    refine BW_dec (fun c1 => ?_) fun c1 => ?_
    · simp [pl26]
      refine chg_wires P9 gw9 nw (by omega) wr K9.s1 K9.s6 fun r h10 ws' hr g10 wr' hl' P10 F10 => ?_
      have l10 := F10.le
      simp
      exact .mk ⟨r, rt, ws', bs, _, ⟨rfl⟩, K9.fr F10 (by simp; omega), P10, g10, F10.get gt9 (by simpa using nt), wr', br, by rw [Nat.pow_succ]; omega, by rw [Nat.pow_succ]; omega, by omega, nt, by omega⟩
    · simp [pl27]
      refine chg_told P9 gt9 nt (by omega) br K9.s1 K9.s6 fun r h10 bs' hr g10 br' hl' P10 F10 => ?_
      have l10 := F10.le
      simp
      exact .mk ⟨rw, r, ws, bs', _, ⟨rfl⟩, K9.fr F10 (by simp; omega), P10, F10.get gw9 (by simpa using nw), g10, wr, br', by rw [Nat.pow_succ]; omega, by rw [Nat.pow_succ]; omega, nw, by omega, by omega⟩
  rintro τ h8 ⟨rw, rt, ws, bs, t, ⟨rfl⟩, K8, P8, gw, gt, wr, br, lw8, lb8, nw, nt, lp⟩
  have p2 : 2 ^ N ≤ 2 ^ 2 := Nat.pow_le_pow_right (by omega) (by omega)
  have lw' : ws.length < 1000 := by omega
  have lb' : bs.length < 1000 := by omega
  have k8s := K8.s1
  have k8t := K8.s6
  simp only [thenK_nx, s_cons]
  refine cut2 (fun τ h' => Bx (∃ s', Tq τ [some (.frl ns), some (.ref h5.n), some (.ref rw), some (.ref rt), some (.tup [.str "told", .int s, .ref c3, .ref c4]), some (.ref c0), t, none, none, none, some (.int s')] ∧ small s' ∧ small (s' + 3) ∧
    K6 s ws1 bs1 c3 c4 c0 c1 c2 h' ∧ h'.get rw = some (.lst (ws.map wAV)) ∧ h'.get rt = some (.lst (bs.map bAV)))) ?_ ?_
  · simp [pl14]
    refine take_sp hP P8 (by omega) (by omega) fun y h9 y0 y1 P9 F9 => ?_
    have K9 := K8.fr F9 (by simp; omega)
    have gw9 := F9.get gw (by simpa using nw)
    have gt9 := F9.get gt (by simpa using nt)
    have l9 := F9.le
    simp
    refine BW_dec (fun c1 => ?_) fun c1 => ?_
    · simp [pl14]
      refine take_sp hP (P9.fr (S := []) Fr.push (by simp)) (by omega) (by omega) fun u h10 u0 u1 P10 F10 => ?_
      have gu := F10.get (AH.get_push_new (h := h9) (o := .lst [.int 0, .int (-2)])) (by simp; omega)
      have K10 := (K9.fr (S := []) (Fr.push (o := .lst [.int 0, .int (-2)])) (by simp)).fr F10 (by simp; omega)
      have gw10 := F10.get (AH.get_push_old (o := .lst [.int 0, .int (-2)]) gw9) (by simpa using nw)
      have gt10 := F10.get (AH.get_push_old (o := .lst [.int 0, .int (-2)]) gt9) (by simpa using nt)
      have : u = 0 ∨ u = 1 := by omega
      rcases this with rfl | rfl <;> simp [gu] <;> exact .mk ⟨_, ⟨rfl⟩, by unfold small; omega, by unfold small; omega, K10, gw10, gt10⟩
    · simp
      exact .mk ⟨s, ⟨rfl⟩, by unfold small; omega, by unfold small; omega, K9, gw9, gt9⟩
  rintro _ h9 ⟨s', ⟨rfl⟩, ss, ss3, K9, gw9, gt9⟩
  have sw : ∀ w ∈ ws, smallW w := fun w hw => by
    have := wr.ok w hw
    unfold rngB at this
    unfold smallW small
    omega
  have sb : ∀ b ∈ bs, smallB b := fun b hb => by
    have := br.ok b hb
    unfold rngB at this
    unfold smallB small
    omega
  simp [-s_ite, pl28]
  refine fault_sp gw9 gt9 (by omega) (by omega) fun h10 F10 => ?_
  have K10 := K9.fr F10 (by simp)
  have gw10 := F10.get0 gw9
  have gt10 := F10.get0 gt9
  simp [-s_ite]
  refine cut2 (fun τ h' => Bx (∃ dv, Tq τ [some (.frl ns), some (.ref h5.n), some (.ref rw), some (.ref rt), some (.tup [.str "told", .int s, .ref c3, .ref c4]), some (.ref c0), t, some dv, some (.bl (fltL s' ws bs).isSome), none, some (.int s')] ∧ Due s' ws bs dv h' ∧ Fr [] h10 h')) ?_ ?_
  · cases eo : fltL s' ws bs with
    | none =>
      obtain ⟨d1, d2⟩ := fltL_dst eo
      simp [Flt.oav, gw10, sort_w d1, AH.get_push_old gt10, sort_b d2]
      exact .mk ⟨_, ⟨rfl⟩, ⟨fun _ => ⟨_, _, rfl, AH.get_push_old AH.get_push_new, by simp⟩, fun f e => (by rw [eo] at e; cases e)⟩, Fr.push.trans Fr.push⟩
    | some f =>
      simp [Flt.oav, Flt.av]
      exact .mk ⟨_, ⟨rfl⟩, ⟨fun e => (by rw [eo] at e; cases e), fun f' e => (by rw [eo] at e; cases e; rfl)⟩, Fr.refl⟩
  rintro _ h11 ⟨dv, ⟨rfl⟩, D11, F11⟩
  have K11 := K10.fr F11 (by simp)
  have gw11 := F11.get0 gw10
  have gt11 := F11.get0 gt10
  have lw11 := AH.get_lt gw11
  have lt11 := AH.get_lt gt11
  simp [-s_ite, gw11, gt11, AH.get_push_old gt11]
  have F12 : Fr [] h11 (((h11.push (.lst (ws.map wAV))).push (.lst (bs.map bAV))).push (.lst [.ref h11.n, .ref (h11.n + 1)])) := (Fr.push.trans Fr.push).trans Fr.push
  have e1 : (((h11.push (.lst (ws.map wAV))).push (.lst (bs.map bAV))).push (.lst [.ref h11.n, .ref (h11.n + 1)])).get h11.n = some (.lst (ws.map wAV)) := AH.get_push_old (AH.get_push_old AH.get_push_new)
  have e2 : (((h11.push (.lst (ws.map wAV))).push (.lst (bs.map bAV))).push (.lst [.ref h11.n, .ref (h11.n + 1)])).get (h11.n + 1) = some (.lst (bs.map bAV)) := by simp [push_get]
  have e3 : (((h11.push (.lst (ws.map wAV))).push (.lst (bs.map bAV))).push (.lst [.ref h11.n, .ref (h11.n + 1)])).get (h11.n + 1 + 1) = some (.lst [.ref h11.n, .ref (h11.n + 1)]) := by simp [push_get]
  generalize (((h11.push (.lst (ws.map wAV))).push (.lst (bs.map bAV))).push (.lst [.ref h11.n, .ref (h11.n + 1)])) = h12 at F12 e1 e2 e3 ⊢
  generalize h11.n + 1 + 1 = q0 at e3 ⊢
  generalize h11.n + 1 = q2 at e2 e3 ⊢
  generalize h11.n = q1 at e1 e3 ⊢
  have K12 := K11.fr F12 (by simp)
  have D12 := D11.fr F12
  have gw12 := F12.get0 gw11
  have gt12 := F12.get0 gt11
  refine cut2 (fun τ h' => Bx (Tq τ [some (.frl ns), some (.ref h5.n), some (.ref rw), some (.ref rt), some (.tup [.str "told", .int s, .ref c3, .ref c4]), some (.ref c0), t, some dv, some (.bl (fltL s' ws bs).isSome), some (.ref q0), some (.int s')] ∧ Fr [] h12 h')) ?_ ?_
  · simp [e3, pl19, pl29]
    refine made_sp (n := n + 3) (ws := ws) (bs := bs) (.inr ⟨_, rfl, e1⟩) (.inr ⟨_, rfl, e2⟩) ss sw sb (by omega) (by omega) (fun eo d1 d2 r1 r2 h' g1 g2 F' => ?_) fun f h' eo F' => ?_
    · obtain ⟨t1, t2, rfl, y1, y2⟩ := (D12.fr F').no eo
      simp
      refine same_sp (n := n) hS 5 (dn_told (m := 2) g1 g2 ?_ ?_) (dn_told (m := 2) y1 y2 ?_ ?_) ?_
      · rw [(srtB_perm _ _).length_eq]; omega
      · rw [(srtB_perm _ _).length_eq]; omega
      · rw [(srtB_perm _ _).length_eq]; omega
      · rw [(srtB_perm _ _).length_eq]; omega
      simp
      exact .mk ⟨⟨rfl⟩, F'⟩
    · have := D12.so f eo
      subst this
      simp
      refine same_sp (n := n) hS 5 (dn_flt (m := 3)) (dn_flt (m := 3)) ?_
      simp
      exact .mk ⟨⟨rfl⟩, F'⟩
  rintro _ h13 ⟨⟨rfl⟩, F13⟩
  have K13 := K12.fr F13 (by simp)
  have e4 := F13.get0 e1
  have e5 := F13.get0 e2
  have e6 := F13.get0 e3
  have gw13 := F13.get0 gw12
  have gt13 := F13.get0 gt12
  simp only [s_cons]
  refine cut2 (fun τ h' => Bx (Tq τ [some (.frl ns), some (.ref h5.n), some (.ref rw), some (.ref rt), some (.tup [.str "told", .int s, .ref c3, .ref c4]), some (.ref c0), t, some dv, some (.bl (fltL s' ws bs).isSome), some (.ref q0), some (.int s')] ∧ Fr [] h13 h')) ?_ ?_
  · simp [e6, pl31, e5]
    refine refused_sp (n := n + 3) (ws := ws) (bs := bs) (.inr ⟨_, rfl, e4⟩) (.inl rfl) ss sw sb (by omega) (by omega) fun h' F' => ?_
    simp
    exact .mk ⟨⟨rfl⟩, F'⟩
  rintro _ h14 ⟨⟨rfl⟩, F14⟩
  have K14 := K13.fr F14 (by simp)
  have e7 := F14.get0 e4
  have e8 := F14.get0 e5
  have e9 := F14.get0 e6
  have gw14 := F14.get0 gw13
  have gt14 := F14.get0 gt13
  simp only [s_cons]
  refine cut2 (fun τ h' => Bx (Tq τ [some (.frl ns), some (.ref h5.n), some (.ref rw), some (.ref rt), some (.tup [.str "told", .int s, .ref c3, .ref c4]), some (.ref c0), t, some dv, some (.bl (fltL s' ws bs).isSome), some (.ref q0), some (.int s')] ∧ Fr [] h14 h')) ?_ ?_
  · simp [pl19]
    have e10 := AH.get_push_old (o := .lst [.ref rw, .ref rt]) e9
    have e11 := AH.get_push_old (o := .lst [.ref rw, .ref rt]) e7
    have e12 := AH.get_push_old (o := .lst [.ref rw, .ref rt]) e8
    have e13 := AH.get_push_old (o := .lst [.ref rw, .ref rt]) gw14
    have e14 := AH.get_push_old (o := .lst [.ref rw, .ref rt]) gt14
    have e15 : (h14.push (.lst [.ref rw, .ref rt])).get h14.n = some (.lst [.ref rw, .ref rt]) := AH.get_push_new
    have F15 : Fr [] h14 (h14.push (.lst [.ref rw, .ref rt])) := Fr.push
    generalize h14.push (.lst [.ref rw, .ref rt]) = h15 at e10 e11 e12 e13 e14 e15 F15 ⊢
    have two : ∀ r x y, h15.get r = some (.lst [.ref x, .ref y]) → h15.get x = some (.lst (ws.map wAV)) → h15.get y = some (.lst (bs.map bAV)) → dn 5 h15 (.ref r) = some (.lst [.lst (ws.map wD), .lst (bs.map bD)]) := fun r x y g1 g2 g3 => by
      have z1 := dn_ws (m := 2) g2 (by omega)
      have z2 := dn_bs (m := 2) g3 (by omega)
      have e0 : mapO (dn 4 h15) [.ref x, .ref y] = some [.lst (ws.map wD), .lst (bs.map bD)] := by simp only [mapO, z1, z2]; rfl
      show ((lstO (h15.get r)).bind fun xs => if xs.length < 1000000000 then (mapO (dn 4 h15) xs).map D.lst else none) = _
      rw [g1]
      show (if ([.ref x, .ref y] : List AV).length < 1000000000 then (mapO (dn 4 h15) [.ref x, .ref y]).map D.lst else none) = _
      rw [e0]
      rfl
    refine same_sp (n := n) hS 5 (two _ _ _ e10 e11 e12) (two _ _ _ e15 e13 e14) ?_
    simp [pl30]
    refine keeps_sp (n := n + 2) ss ss3 fun h' F' => ?_
    simp
    exact .mk ⟨⟨rfl⟩, F15.trans F'⟩
  rintro _ h16 ⟨⟨rfl⟩, F16⟩
  have K16 := K14.fr F16 (by simp)
  have lK := K16.lw
  have lB := K16.lb
  have smw : ∀ w ∈ ws1, smallW w := fun w hw => by
    have o := K16.ow w hw
    have := o.s0
    have := o.s1
    have := o.t0
    have := o.t1
    unfold smallW small
    omega
  have smb : ∀ b ∈ bs1, smallB b := fun b hb => by
    have o := K16.ob b hb
    have := o.s0
    have := o.s1
    have := o.t0
    have := o.t1
    unfold smallB small
    omega
  have nof := fltL_none K16.s1 K16.ow K16.dw K16.ob K16.db
  simp [K16.q3, pl19, pl29]
  refine made_sp (n := n + 3) (ws := ws1) (bs := bs1) (.inr ⟨_, rfl, K16.q4⟩) (.inr ⟨_, rfl, K16.q5⟩) (by unfold small; omega) smw smb (by omega) (by omega) (fun eo d1 d2 r1 r2 h' g1 g2 F' => ?_) fun f h' eo F' => by rw [nof] at eo; cases eo
  have K17 := K16.fr F' (by simp)
  simp
  refine same_sp (n := n) hS 5 (dn_told (m := 2) g1 g2 ?_ ?_) (dn_told (m := 2) K17.q1 K17.q2 ?_ ?_) ?_
  · rw [(srtB_perm _ _).length_eq]; omega
  · rw [(srtB_perm _ _).length_eq]; omega
  · rw [(srtB_perm _ _).length_eq]; omega
  · rw [(srtB_perm _ _).length_eq]; omega
  exact k _
theorem ans : ∀ ns : List Int, ∃ h, Gam B 12 32 [.frl ns] AH.nil = .ok (.bl true) h := fun ns => by
  have := law_sp (n := 4) (Q := fun v _ => v = .bl true) (X := noX) (ns := ns) (h := AH.nil) fun _ => rfl
  revert this
  cases Gam B (4 + 8) 32 [.frl ns] AH.nil with
  | ok v h => exact fun z => ⟨h, by rw [show v = .bl true from z]⟩
  | exc c fs h => exact fun z => z.elim
  | bad => exact fun z => z.elim
end
end Tk02
set_option Elab.async false
set_option maxRecDepth 100000
set_option maxHeartbeats 4000000
/-! K1Sp: the parts of law k01. -/
namespace Tk01
open PySem Mi Cd
theorem hP : PenB B := ⟨rfl, rfl, rfl, rfl, rfl, rfl⟩
theorem hL : LineB B := ⟨hP, rfl, rfl, rfl, rfl, rfl, rfl, rfl, rfl, rfl, rfl, rfl, rfl, rfl, rfl⟩
theorem hG : LnPg B := ⟨rfl, rfl, rfl, rfl, rfl, rfl, rfl, rfl, rfl, rfl, rfl, rfl, rfl, rfl, rfl, rfl, rfl, rfl, rfl, rfl, rfl, rfl, rfl, rfl, rfl, rfl⟩
theorem hS : SmB B := ⟨rfl, rfl, rfl, rfl⟩
section
variable {n : Nat} {h : AH} {Q : AV → AH → Prop} {X : Nat → List (Nat × AV) → AH → Prop}
theorem mixed_sp {α : Type} (f : α → AV) {p r0 : Nat} {xs : List α} (P : Pen h p) (g0 : h.get r0 = some (.lst (xs.map f))) (ne : r0 ≠ p) (hl : xs.length < 1000000)
    (k : ∀ (r : Nat) (h' : AH) (ys : List α), h.n ≤ r → h'.get r = some (.lst (ys.map f)) → ys.Perm xs → Pen h' p → Fr [p] h h' → Q (.ref r) h') : RW (Gam B (n + 2) 20 [.ref p, .ref r0] h) Q X := by
  refine enter (i := i20) rfl (by simp [i20]) ?_
  simp only [i20, c20, List.map_cons, List.map_nil, List.cons_append, List.nil_append, List.replicate]
  have hp := P.lt
  have hr0 := AH.get_lt g0
  simp [g0]
  have g1 : ((h.push (.lst (xs.map f))).push (.lst [])).get r0 = some (.lst (xs.map f)) := AH.get_push_old (AH.get_push_old g0)
  have g2 : ((h.push (.lst (xs.map f))).push (.lst [])).get h.n = some (.lst (xs.map f)) := AH.get_push_old AH.get_push_new
  have g3 : ((h.push (.lst (xs.map f))).push (.lst [])).get (h.n + 1) = some (.lst []) := by simp
  have F1 : Fr [p] h ((h.push (.lst (xs.map f))).push (.lst [])) := Fr.push.trans Fr.push
  have P1 := P.fr (S := []) (Fr.push.trans Fr.push : Fr [] h ((h.push (.lst (xs.map f))).push (.lst []))) (by simp)
  generalize ((h.push (.lst (xs.map f))).push (.lst [])) = h1 at g1 g2 g3 F1 P1 ⊢
  simp [g1]
  refine ⟨lt62_of (by omega), for_range0 (fun i τ h' => Bx (Hd [some (.ref p), some (.ref r0), some (.ref h.n), some (.ref (h.n + 1))] 1 τ ∧ Pen h' p ∧ Fr [p] h h' ∧ ∃ ms rs : List α, h'.get h.n = some (.lst (rs.map f)) ∧ h'.get (h.n + 1) = some (.lst (ms.map f)) ∧ (ms ++ rs).Perm xs ∧ ms.length = i)) (.mk ⟨Hd.of rfl rfl, P1, F1, [], xs, g2, by simpa using g3, List.Perm.refl _, rfl⟩) ?_ ?_⟩
  · rintro i τ h2 hi ⟨⟨rest, rfl, hl'⟩, P2, F2, ms, rs, g4, g5, pm, hm⟩
    obtain ⟨x, rfl⟩ := rest1 hl'
    have hlen := pm.length_eq
    simp at hlen
    simp [b20_1, g5, g4, pl14]
    refine take_sp hP P2 (by omega) (by omega) fun d h3 d0 d1 P3 F3 => ?_
    have g6 := F3.get g4 (by simp; omega)
    have g7 := F3.get g5 (by simp; omega)
    have hd : d.toNat < rs.length := by omega
    have ex : rs[d.toNat]? = some rs[d.toNat] := List.getElem?_eq_getElem hd
    have g8 : (h3.put h.n (.lst ((rs.eraseIdx d.toNat).map f))).get (h.n + 1) = some (.lst (ms.map f)) := by
      rw [AH.get_put_ne (by omega)]
      exact g7
    simp [g6, ex, Tk02.erase_map, g8]
    refine ⟨⟨by omega, by omega⟩, by omega, .mk ⟨Hd.of rfl rfl, P3.fr (S := [h.n, h.n + 1]) ((Fr.put (by simp)).trans (Fr.put (by simp))) (by simp; omega), (F2.trans F3).trans2 (S' := [h.n, h.n + 1]) ((Fr.put (by simp)).trans (Fr.put (by simp))) (by simp; omega), ms ++ [rs[d.toNat]], rs.eraseIdx d.toNat, ?_, ?_, ?_, by simp [hm]⟩⟩
    · rw [AH.get_put_ne (by omega), AH.get_put_same g6]
    · rw [AH.get_put_same g8]
      simp
    · rw [List.append_assoc]
      exact (List.Perm.append_left ms (Tk02.perm_erase ex).symm).trans pm
  · rintro τ h2 ⟨⟨rest, rfl, hl'⟩, P2, F2, ms, rs, g4, g5, pm, hm⟩
    have hlen := pm.length_eq
    simp at hlen
    have : rs = [] := List.eq_nil_of_length_eq_zero (by omega)
    subst this
    simp
    exact k _ _ ms (by omega) g5 (by simpa using pm) P2 F2
end
/-- the wire between two boxes -/
def fw (ws : List W) (p o : Int) : Option W := ws.find? fun w => decide (wp w = (p, o))
def noBox (p : Int) : AV := .tup [.str "NoBox", .tup [.int p], .bl true]
def wireAV (s : Int) (ws : List W) (p o : Int) : AV := if outB s p then noBox p else if outB s o then noBox o else match fw ws p o with
  | some w => .tup [.str "told", hAV w]
  | none => .tup [.str "NoWire", .tup [.int p, .int o], .bl true]
def srcs (ws : List W) (p : Int) : List Int := (ws.filter fun w => decide (w.2.1 = p)).map fun w => w.1
def tgts (ws : List W) (p : Int) : List Int := (ws.filter fun w => decide (w.1 = p)).map fun w => w.2.1
theorem fw_mem {ws : List W} (d : Dst wp ws) {w : W} (h : w ∈ ws) : fw ws w.1 w.2.1 = some w := by
  unfold fw
  induction ws with
  | nil => cases h
  | cons y r ih =>
    obtain ⟨d1, d2⟩ := List.pairwise_cons.mp d
    rw [List.find?_cons]
    by_cases e : wp y = (w.1, w.2.1)
    · have : y = w := dst_mem d List.mem_cons_self h e
      rw [this, show decide (wp w = (w.1, w.2.1)) = true from decide_eq_true rfl]
    · simp only [e, decide_false]
      refine ih d2 ?_
      rcases List.mem_cons.mp h with rfl | h
      · exact absurd rfl e
      · exact h
theorem fw_none {ws : List W} {p o : Int} (h : (p, o) ∉ ws.map wp) : fw ws p o = none := by
  unfold fw
  rw [List.find?_eq_none]
  intro w hw e
  exact h (List.mem_map.mpr ⟨w, hw, of_decide_eq_true e⟩)
theorem fw_perm {ws ws' : List W} (d : Dst wp ws) (p : ws'.Perm ws) (a b : Int) : fw ws' a b = fw ws a b := by
  by_cases h : (a, b) ∈ ws.map wp
  · obtain ⟨w, hw, e⟩ := List.mem_map.mp h
    have e1 : a = w.1 := (congrArg Prod.fst e).symm
    have e2 : b = w.2.1 := (congrArg Prod.snd e).symm
    rw [e1, e2, fw_mem d hw, fw_mem (d.perm p.symm) (p.mem_iff.mpr hw)]
  · rw [fw_none h, fw_none fun z => h ((p.map wp).mem_iff.mp z)]
theorem wireAV_perm {s : Int} {ws ws' : List W} (d : Dst wp ws) (p : ws'.Perm ws) (a b : Int) : wireAV s ws' a b = wireAV s ws a b := by
  unfold wireAV
  rw [fw_perm d p]
section
variable {n : Nat} {h : AH} {Q : AV → AH → Prop} {X : Nat → List (Nat × AV) → AH → Prop} {a : Nat} {s : Int} {ws : List W} {bs : List Bd} {rh rw rb : Nat}
theorem wire_sp (L : LineO h a s ws bs rh rw rb) {p o : Int} (sp : small p) (so : small o)
    (k : ¬outB s p → ¬outB s o → ∀ w, fw ws p o = some w → Q (hAV w) h) (kx : outB s p → X 2 [(13, .int p)] h) (ky : ¬outB s p → outB s o → X 2 [(13, .int o)] h) (kz : ¬outB s p → ¬outB s o → fw ws p o = none → X 5 [(11, .int o), (12, .int p)] h) :
    RW (Gam B (n + 2) 8 [.ref a, .int p, .int o] h) Q X := by
  refine enter (i := i8) rfl (by simp [i8]) ?_
  simp only [i8, c8, List.map_cons, List.map_nil, List.cons_append, List.nil_append, List.replicate]
  simp [L.o, List.lookup, pl1]
  refine box_sp hG (fun a0 a1 => ?_) fun q => ⟨sp, by simpa using kx q⟩
  have op : ¬outB s p := by unfold outB; omega
  simp [L.o, List.lookup, pl1]
  refine box_sp hG (fun b0 b1 => ?_) fun q => ⟨so, by simpa using ky op q⟩
  have oo : ¬outB s o := by unfold outB; omega
  simp [-s_ite]
  refine cut2 (fun τ h' => Bx (Tq τ [some (.ref a), some (.int p), some (.int o)] ∧ h = h' ∧ (p, o) ∈ ws.map wp)) ?_ ?_
  · refine ite_pure ((p, o) ∉ ws.map wp) ((p, o) ∈ ws.map wp) ?_ (fun q => ?_) fun q => ?_
    · simp [L.o, List.lookup, L.gh, in_ent, -inO_t, -List.mem_map]
      grind
    · have := kz op oo (fw_none q)
      simp [sp.shows, so.shows, this]
    · simp
      exact .mk ⟨⟨rfl⟩, rfl, q⟩
  · rintro _ _ ⟨⟨rfl⟩, rfl, q⟩
    obtain ⟨w, hw, e⟩ := List.mem_map.mp q
    have e1 : w.1 = p := congrArg Prod.fst e
    have e2 : w.2.1 = o := congrArg Prod.snd e
    have hv := val_ent (vf := hAV) L.dw hw
    have hv' : valA (ws.map entW) [.inl p, .inl o] = some (hAV w) := by
      rw [← e1, ← e2]
      exact hv
    simp [L.o, List.lookup, L.gh, hv']
    exact k op oo w (by rw [← e1, ← e2]; exact fw_mem L.dw hw)
theorem lwire_sp (L : LineO h a s ws bs rh rw rb) {p o : Int} (sp : small p) (so : small o) (k : Q (wireAV s ws p o) h) : RW (Gam B (n + 3) 35 [.ref a, .int p, .int o] h) Q X := by
  refine enter (i := i35) rfl (by simp [i35]) ?_
  simp only [i35, c35, List.map_cons, List.map_nil, List.cons_append, List.nil_append, List.replicate]
  simp [L.o, List.lookup, pl8]
  unfold wireAV at k
  refine wire_sp L sp so (fun q1 q2 w e => ?_) (fun q1 => ?_) (fun q1 q2 => ?_) fun q1 q2 e => ?_
  · rw [if_neg q1, if_neg q2, e] at k
    simp
    exact k
  · rw [if_pos q1] at k
    simp [List.lookup]
    exact k
  · rw [if_neg q1, if_pos q2] at k
    simp [List.lookup]
    exact k
  · rw [if_neg q1, if_neg q2, e] at k
    simp [List.lookup]
    exact k
theorem due_wire {r : Nat} (g : h.get r = some (.lst (ws.map wAV))) {p o : Int} (d : Dst wp ws) (hl : ws.length < 1000000) (k : ∀ h', Fr [] h h' → Q (wireAV s ws p o) h') : RW (Gam B (n + 1) 39 [.int s, .ref r, .int p, .int o] h) Q X := by
  refine enter (i := i39) rfl (by simp [i39]) ?_
  simp only [i39, c39, List.map_cons, List.map_nil, List.cons_append, List.nil_append, List.replicate]
  simp [-s_ite]
  have g1 : (h.push (.lst [.int p, .int o])).get h.n = some (.lst [.int p, .int o]) := AH.get_push_new
  have g2 : (h.push (.lst [.int p, .int o])).get r = some (.lst (ws.map wAV)) := AH.get_push_old g
  have F1 : Fr [] h (h.push (.lst [.int p, .int o])) := Fr.push
  have k := k _ F1
  unfold wireAV at k
  generalize h.push (.lst [.int p, .int o]) = h1 at g1 g2 F1 k ⊢
  refine cut2 (fun τ h' => Bx (∃ x, Tq τ [some (.int s), some (.ref r), some (.int p), some (.int o), x, none, none, none, none] ∧ h1 = h' ∧ ¬outB s p ∧ ¬outB s o)) ?_ ?_
  · simp [Tk02.forGo_cons, Tk02.forGo_nil, g1, b39_2, -s_ite]
    refine ite_pure (outB s p) (¬outB s p) (by simp [BWp, outB]; grind) (fun q => ?_) fun q => ?_
    · rw [if_pos q] at k
      simp
      exact k
    · simp [-s_ite, g1, Tk02.forGo_cons, Tk02.forGo_nil]
      refine ite_pure (outB s o) (¬outB s o) (by simp [BWp, outB]; grind) (fun q2 => ?_) fun q2 => ?_
      · rw [if_neg q, if_pos q2] at k
        simp
        exact k
      · simp [g1, Tk02.forGo_cons, Tk02.forGo_nil]
        exact .mk ⟨_, ⟨rfl⟩, rfl, q, q2⟩
  · rintro _ _ ⟨x, ⟨rfl⟩, rfl, q1, q2⟩
    rw [if_neg q1, if_neg q2] at k
    simp [g2]
    refine for_rule wAV ws (fun dn _ τ h' => Bx (Hd [some (.int s), some (.ref r), some (.int p), some (.int o)] 5 τ ∧ h1 = h' ∧ (p, o) ∉ dn.map wp)) (.mk ⟨Hd.of rfl rfl, rfl, by simp⟩) ?_ ?_
    · rintro dn ⟨u, v, lo, hi⟩ rr τ _ e ⟨⟨rest, rfl, hl'⟩, rfl, nm⟩
      obtain ⟨x1, x2, x3, x4, x5, rfl⟩ := rest5 hl'
      refine ⟨by simpa using g2, ?_⟩
      simp [b39_1, wAV, -s_ite]
      refine ite_pure (u = p ∧ v = o) (¬(u = p ∧ v = o)) (by simp [BWp]; grind) (fun c => ?_) fun c => ?_
      · obtain ⟨rfl, rfl⟩ := c
        have hm : ((u, v, lo, hi) : W) ∈ ws := by rw [← e]; simp
        have := fw_mem d hm
        have e3 : fw ws u v = some (u, v, lo, hi) := this
        rw [e3] at k
        simp
        exact k
      · simp
        refine .mk ⟨Hd.of rfl rfl, rfl, ?_⟩
        simp only [List.map_append, List.mem_append, not_or]
        refine ⟨nm, ?_⟩
        simp [wp]
        grind
    · rintro τ _ ⟨⟨rest, rfl, hl'⟩, rfl, nm⟩
      refine ⟨by simpa using g2, ?_⟩
      rw [fw_none nm] at k
      simp
      exact k
theorem src_sp (L : LineO h a s ws bs rh rw rb) {p : Int} (sp : small p) (hl : ws.length < 1000000) (k : ¬outB s p → ∀ h', h'.get h.n = some (.lst ((srcs (srtB (ltQ wp) ws) p).map .int)) → Fr [] h h' → Q (.ref h.n) h') (kx : outB s p → X 2 [(13, .int p)] h) :
    RW (Gam B (n + 2) 33 [.ref a, .int p] h) Q X := by
  refine enter (i := i33) rfl (by simp [i33]) ?_
  simp only [i33, c33, List.map_cons, List.map_nil, List.cons_append, List.nil_append, List.replicate]
  simp [L.o, List.lookup, pl1]
  refine box_sp hG (fun a0 a1 => ?_) fun q => ⟨sp, by simpa using kx q⟩
  have op : ¬outB s p := by unfold outB; omega
  simp [L.o, List.lookup, L.gw]
  refine lc_rule wAV (srtB (ltQ wp) ws) (fun d acc h' => acc = (srcs d p).map .int ∧ h = h') ⟨rfl, rfl⟩ ?_ ?_
  · rintro d ⟨u, v, lo, hi⟩ r acc _ e ⟨rfl, rfl⟩
    have h1 := congrArg List.length e
    have h2 := (srtB_perm (ltQ wp) ws).length_eq
    have h3 : (srcs d p).length ≤ d.length := by
      unfold srcs
      rw [List.length_map]
      exact List.length_filter_le _ _
    simp at h1
    refine ⟨by simpa using L.gw, by simp; omega, ?_⟩
    simp [wAV]
    refine BW_dec (fun c => ?_) fun c => ?_
    · simp [srcs, c]
    · simp [srcs, c]
  · rintro acc _ ⟨rfl, rfl⟩
    refine ⟨by simpa using L.gw, ?_⟩
    exact k op _ AH.get_push_new Fr.push
theorem tgt_sp (L : LineO h a s ws bs rh rw rb) {p : Int} (sp : small p) (hl : ws.length < 1000000) (k : ¬outB s p → ∀ h', h'.get h.n = some (.lst ((tgts (srtB (ltQ wp) ws) p).map .int)) → Fr [] h h' → Q (.ref h.n) h') (kx : outB s p → X 2 [(13, .int p)] h) :
    RW (Gam B (n + 2) 34 [.ref a, .int p] h) Q X := by
  refine enter (i := i34) rfl (by simp [i34]) ?_
  simp only [i34, c34, List.map_cons, List.map_nil, List.cons_append, List.nil_append, List.replicate]
  simp [L.o, List.lookup, pl1]
  refine box_sp hG (fun a0 a1 => ?_) fun q => ⟨sp, by simpa using kx q⟩
  have op : ¬outB s p := by unfold outB; omega
  simp [L.o, List.lookup, L.gw]
  refine lc_rule wAV (srtB (ltQ wp) ws) (fun d acc h' => acc = (tgts d p).map .int ∧ h = h') ⟨rfl, rfl⟩ ?_ ?_
  · rintro d ⟨u, v, lo, hi⟩ r acc _ e ⟨rfl, rfl⟩
    have h1 := congrArg List.length e
    have h2 := (srtB_perm (ltQ wp) ws).length_eq
    have h3 : (tgts d p).length ≤ d.length := by
      unfold tgts
      rw [List.length_map]
      exact List.length_filter_le _ _
    simp at h1
    refine ⟨by simpa using L.gw, by simp; omega, ?_⟩
    simp [wAV]
    refine BW_dec (fun c => ?_) fun c => ?_
    · simp [tgts, c]
    · simp [tgts, c]
  · rintro acc _ ⟨rfl, rfl⟩
    refine ⟨by simpa using L.gw, ?_⟩
    exact k op _ AH.get_push_new Fr.push
theorem lsrc_sp (L : LineO h a s ws bs rh rw rb) {p : Int} (sp : small p) (hl : ws.length < 1000000) (k : ¬outB s p → ∀ h', h'.get h.n = some (.lst ((srcs (srtB (ltQ wp) ws) p).map .int)) → Fr [] h h' → Q (.tup [.str "told", .ref h.n]) h') (kx : outB s p → Q (noBox p) h) :
    RW (Gam B (n + 3) 36 [.ref a, .int p] h) Q X := by
  refine enter (i := i36) rfl (by simp [i36]) ?_
  simp only [i36, c36, List.map_cons, List.map_nil, List.cons_append, List.nil_append, List.replicate]
  simp
  refine BW_dec (fun c => ?_) fun c => ?_
  · simp [L.o, List.lookup, placeS, place]
    refine src_sp L sp hl (fun q h' g F => ?_) fun q => ?_
    · simp
      exact k q h' g F
    · simp [List.lookup]
      exact kx q
  · simp [L.o, List.lookup, pl33]
    refine src_sp L sp hl (fun q h' g F => ?_) fun q => ?_
    · simp
      exact k q h' g F
    · simp [List.lookup]
      exact kx q
theorem ltgt_sp (L : LineO h a s ws bs rh rw rb) {p : Int} (sp : small p) (hl : ws.length < 1000000) (k : ¬outB s p → ∀ h', h'.get h.n = some (.lst ((tgts (srtB (ltQ wp) ws) p).map .int)) → Fr [] h h' → Q (.tup [.str "told", .ref h.n]) h') (kx : outB s p → Q (noBox p) h) :
    RW (Gam B (n + 3) 37 [.ref a, .int p] h) Q X := by
  refine enter (i := i37) rfl (by simp [i37]) ?_
  simp only [i37, c37, List.map_cons, List.map_nil, List.cons_append, List.nil_append, List.replicate]
  simp
  refine BW_dec (fun c => ?_) fun c => ?_
  · simp [L.o, List.lookup, placeS, place]
    refine tgt_sp L sp hl (fun q h' g F => ?_) fun q => ?_
    · simp
      exact k q h' g F
    · simp [List.lookup]
      exact kx q
  · simp [L.o, List.lookup, pl34]
    refine tgt_sp L sp hl (fun q h' g F => ?_) fun q => ?_
    · simp
      exact k q h' g F
    · simp [List.lookup]
      exact kx q
end
end Tk01
set_option Elab.async false
set_option maxRecDepth 100000
set_option maxHeartbeats 4000000
/-! K1Dt: the data of law k01. -/
namespace Tk01
open PySem Mi Cd Tk02
inductive An where
  | one (v : AV) (d : D)
  | lst (r : Nat) (xs : List AV) (ds : List D)
  | tl (r : Nat) (xs : List AV) (ds : List D)
def An.av : An → AV
  | .one v _ => v
  | .lst r _ _ => .ref r
  | .tl r _ _ => .tup [.str "told", .ref r]
def An.d : An → D
  | .one _ d => d
  | .lst _ _ ds => .lst ds
  | .tl _ _ ds => .tup [.str "told", .lst ds]
def flatV (v : AV) : Prop := (∃ i, v = .int i) ∨ ∃ a b c, v = .tup (a :: .tup b :: c)
structure LOk (h : AH) (lo r0 r : Nat) (xs : List AV) (ds : List D) : Prop where
  lo : lo ≤ r
  ne : r ≠ r0
  g : h.get r = some (.lst xs)
  len : xs.length < 1000000
  d : ∀ m h', mapO (dn (m + 2) h') xs = some ds
theorem LOk.fr {h h' : AH} {lo r0 r : Nat} {xs : List AV} {ds : List D} (L : LOk h lo r0 r xs ds) (F : Fr [r0] h h') : LOk h' lo r0 r xs ds :=
  { L with g := F.get L.g (by simpa using L.ne) }
def An.ok (h : AH) (lo r0 : Nat) : An → Prop
  | .one v d => flatV v ∧ ∀ m h', dn (m + 2) h' v = some d
  | .lst r xs ds => LOk h lo r0 r xs ds
  | .tl r xs ds => LOk h lo r0 r xs ds
theorem An.ok.fr {h h' : AH} {lo r0 : Nat} : ∀ {x : An}, An.ok h lo r0 x → Fr [r0] h h' → An.ok h' lo r0 x
  | .one _ _, o, _ => o
  | .lst _ _ _, o, F => LOk.fr o F
  | .tl _ _ _, o, F => LOk.fr o F
theorem dn_l {m : Nat} {h : AH} {r : Nat} {xs : List AV} {ds : List D} (g : h.get r = some (.lst xs)) (hl : xs.length < 1000000) (q : mapO (dn m h) xs = some ds) : dn (m + 1) h (.ref r) = some (.lst ds) := by
  show ((lstO (h.get r)).bind fun xs => if xs.length < 1000000000 then (mapO (dn m h) xs).map D.lst else none) = _
  rw [g]
  show (if xs.length < 1000000000 then (mapO (dn m h) xs).map D.lst else none) = _
  rw [if_pos (by omega), q]
  rfl
theorem dn_i {m : Nat} {h : AH} {i : Int} : dn m h (.int i) = some (.int i) := by cases m <;> rfl
theorem dn_no {m : Nat} {h : AH} : dn m h .non = some .non := by cases m <;> rfl
theorem told_ok : PyData.strOk "told" = true := by decide +kernel
theorem nobox_ok : PyData.strOk "NoBox" = true := by decide +kernel
theorem nowire_ok : PyData.strOk "NoWire" = true := by decide +kernel
theorem An.ok.dn {h : AH} {lo r0 : Nat} {x : An} (o : An.ok h lo r0 x) : Mi.dn 4 h x.av = some x.d := by
  cases x with
  | one v d => exact o.2 2 h
  | lst r xs ds =>
    have L : LOk h lo r0 r xs ds := o
    exact dn_l L.g L.len (L.d 1 h)
  | tl r xs ds =>
    have L : LOk h lo r0 r xs ds := o
    have e := dn_l L.g L.len (L.d 0 h)
    show (if ([AV.str "told", .ref r] : List AV).length < 1000000000 then (mapO (Mi.dn 3 h) [AV.str "told", .ref r]).map D.tup else none) = _
    have e2 : mapO (Mi.dn 3 h) [AV.str "told", .ref r] = some [.str "told", .lst ds] := by
      simp only [mapO, e]
      simp [Mi.dn, told_ok]
    rw [e2]
    rfl
theorem an_dn {h : AH} {lo r0 r : Nat} {as : List An} (g : h.get r = some (.lst (as.map An.av))) (hl : as.length < 1000000) (o : ∀ x ∈ as, An.ok h lo r0 x) : dn 5 h (.ref r) = some (.lst (as.map An.d)) :=
  dn_l g (by simpa using hl) (mapO_map fun x hx => (o x hx).dn)
/-! the data of the answers -/
def noBoxD (p : Int) : D := .tup [.str "NoBox", .tup [.int p], .bl true]
def oD : Option Int → D
  | none => .non
  | some x => .int x
def wireD (s : Int) (ws : List W) (p o : Int) : D := if outB s p then noBoxD p else if outB s o then noBoxD o else match fw ws p o with
  | some w => .tup [.str "told", .tup [.int w.2.2.1, oD w.2.2.2]]
  | none => .tup [.str "NoWire", .tup [.int p, .int o], .bl true]
theorem nb_dn {p : Int} {m : Nat} {h : AH} : dn (m + 2) h (noBox p) = some (noBoxD p) := by
  simp [noBox, noBoxD, dn, mapO, nobox_ok, dn_i]
theorem wire_dn {s p o : Int} {ws : List W} {m : Nat} {h : AH} : dn (m + 2) h (wireAV s ws p o) = some (wireD s ws p o) := by
  unfold wireAV wireD
  split
  · exact nb_dn
  split
  · exact nb_dn
  · cases fw ws p o with
    | none => simp [dn, mapO, nowire_ok, dn_i]
    | some w =>
      rcases w with ⟨a, b, lo, hi⟩
      cases hi <;> simp [dn, mapO, told_ok, hAV, oD, dn_i, dn_no]
theorem wire_flat {s p o : Int} {ws : List W} : flatV (wireAV s ws p o) := by
  unfold wireAV
  split
  · exact .inr ⟨_, _, _, rfl⟩
  split
  · exact .inr ⟨_, _, _, rfl⟩
  · cases fw ws p o with
    | none => exact .inr ⟨_, _, _, rfl⟩
    | some w => exact .inr ⟨_, _, _, rfl⟩
def wireN (s : Int) (ws : List W) (p o : Int) : An := .one (wireAV s ws p o) (wireD s ws p o)
theorem wireN_ok {h : AH} {lo r0 : Nat} {s p o : Int} {ws : List W} : An.ok h lo r0 (wireN s ws p o) := ⟨wire_flat, fun _ _ => wire_dn⟩
def noBoxN (p : Int) : An := .one (noBox p) (noBoxD p)
theorem noBoxN_ok {h : AH} {lo r0 : Nat} {p : Int} : An.ok h lo r0 (noBoxN p) := ⟨.inr ⟨_, _, _, rfl⟩, fun _ _ => nb_dn⟩
def intN (i : Int) : An := .one (.int i) (.int i)
theorem intN_ok {h : AH} {lo r0 : Nat} {i : Int} : An.ok h lo r0 (intN i) := ⟨.inl ⟨_, rfl⟩, fun _ _ => rfl⟩
def wsN (r : Nat) (l : List W) : An := .lst r (l.map wAV) (l.map wD)
def bsN (r : Nat) (l : List Bd) : An := .lst r (l.map bAV) (l.map bD)
def isN (r : Nat) (l : List Int) : An := .tl r (l.map .int) (l.map .int)
theorem wsN_ok {h : AH} {lo r0 r : Nat} {l : List W} (a : lo ≤ r) (b : r ≠ r0) (g : h.get r = some (.lst (l.map wAV))) (hl : l.length < 1000000) : An.ok h lo r0 (wsN r l) := ⟨a, b, g, by simpa using hl, fun m h' => mapO_map fun x _ => dn_w (m := m + 1)⟩
theorem bsN_ok {h : AH} {lo r0 r : Nat} {l : List Bd} (a : lo ≤ r) (b : r ≠ r0) (g : h.get r = some (.lst (l.map bAV))) (hl : l.length < 1000000) : An.ok h lo r0 (bsN r l) := ⟨a, b, g, by simpa using hl, fun m h' => mapO_map fun x _ => dn_b (m := m + 1)⟩
theorem isN_ok {h : AH} {lo r0 r : Nat} {l : List Int} (a : lo ≤ r) (b : r ≠ r0) (g : h.get r = some (.lst (l.map .int))) (hl : l.length < 1000000) : An.ok h lo r0 (isN r l) := ⟨a, b, g, by simpa using hl, fun m h' => mapO_map fun x _ => dn_i⟩
def toldI (l : List Int) : D := .tup [.str "told", .lst (l.map .int)]
def srcD (s : Int) (ws : List W) (p : Int) : D := if outB s p then noBoxD p else toldI (srcs (srtB (ltQ wp) ws) p)
def tgtD (s : Int) (ws : List W) (p : Int) : D := if outB s p then noBoxD p else toldI (tgts (srtB (ltQ wp) ws) p)
def rowD (s : Int) (ws : List W) (p : Int) (j : Nat) : List D := (List.range j).map fun (j : Nat) => wireD s ws p (-1 + (j : Int))
def ptD (s : Int) (ws : List W) (N : Nat) (p : Int) : List D := srcD s ws p :: tgtD s ws p :: rowD s ws p N
def headD (s : Int) (ws : List W) (bs : List Bd) : List D := [.int s, .lst ((srtB (ltQ wp) ws).map wD), .lst ((srtB (ltQ bp) bs).map bD)]
def allD (s : Int) (ws : List W) (bs : List Bd) (N : Nat) : Nat → List D
  | 0 => headD s ws bs
  | i + 1 => allD s ws bs N i ++ ptD s ws N (-1 + i)
theorem row_succ {s : Int} {ws : List W} {p : Int} {j : Nat} : rowD s ws p (j + 1) = rowD s ws p j ++ [wireD s ws p (-1 + j)] := by
  simp [rowD, List.range_succ]
theorem pt_len {s : Int} {ws : List W} {p : Int} {N : Nat} : (ptD s ws N p).length = N + 2 := by simp [ptD, rowD]
theorem all_len {s : Int} {ws : List W} {bs : List Bd} {N : Nat} : ∀ {i : Nat}, (allD s ws bs N i).length = 3 + i * (N + 2)
  | 0 => by simp [allD, headD]
  | i + 1 => by
    rw [allD, List.length_append, all_len, pt_len, Nat.succ_mul]
    omega
/-! sources and targets, sorted -/
def ki (i : Int) : Int × Int := (i, 0)
theorem sort_i {l : List Int} (d : Dst ki l) : sortA (l.map .int) = some ((srtB (ltQ ki) l).map .int) := by
  rw [sortA_map AV.int (fun i => [(0, i)]) (fun _ _ => rfl) (.inr fun _ => rfl) fun a _ b _ => by
    show (if ((0 : Int), a) = (0, b) then true else decide _) = true
    split <;> simp]
  congr 2
  refine srtB_congr (d.imp fun {a b} h => ?_)
  have ne : b ≠ a := fun e => h (by rw [e])
  show (if ((0 : Int), b) = (0, a) then _ else decide _) = decide (b < a ∨ (b = a ∧ (0 : Int) < 0))
  rw [if_neg (by simpa using ne)]
  simp
theorem srcs_dst {ws : List W} {p : Int} (d : Dst wp ws) : Dst ki (srcs ws p) := by
  unfold srcs Dst
  rw [List.pairwise_map, List.pairwise_filter]
  refine List.Pairwise.imp ?_ d
  intro a b h ha hb e
  simp at ha hb
  have e : a.1 = b.1 := congrArg (fun x : Int × Int => x.1) e
  exact h (by simp [wp, e, ha, hb])
theorem tgts_dst {ws : List W} {p : Int} (d : Dst wp ws) : Dst ki (tgts ws p) := by
  unfold tgts Dst
  rw [List.pairwise_map, List.pairwise_filter]
  refine List.Pairwise.imp ?_ d
  intro a b h ha hb e
  simp at ha hb
  have e : a.2.1 = b.2.1 := congrArg (fun x : Int × Int => x.1) e
  exact h (by simp [wp, e, ha, hb])
theorem srcs_asc {ws : List W} {p : Int} (d : Asc wp ws) : Asc ki (srcs ws p) := by
  unfold srcs Asc
  rw [List.pairwise_map, List.pairwise_filter]
  refine List.Pairwise.imp ?_ d
  intro a b h ha hb
  simp at ha hb
  unfold ltP wp at h
  unfold ltP ki
  simp at h ⊢
  omega
theorem tgts_asc {ws : List W} {p : Int} (d : Asc wp ws) : Asc ki (tgts ws p) := by
  unfold tgts Asc
  rw [List.pairwise_map, List.pairwise_filter]
  refine List.Pairwise.imp ?_ d
  intro a b h ha hb
  simp at ha hb
  unfold ltP wp at h
  unfold ltP ki
  simp at h ⊢
  omega
theorem srcs_srt {ws : List W} {p : Int} (d : Dst wp ws) : srtB (ltQ ki) (srcs ws p) = srcs (srtB (ltQ wp) ws) p :=
  asc_unique (srtB_asc (srcs_dst d)) (srcs_asc (srtB_asc d)) ((srtB_perm _ _).trans (((srtB_perm _ _).symm.filter _).map _))
theorem tgts_srt {ws : List W} {p : Int} (d : Dst wp ws) : srtB (ltQ ki) (tgts ws p) = tgts (srtB (ltQ wp) ws) p :=
  asc_unique (srtB_asc (tgts_dst d)) (tgts_asc (srtB_asc d)) ((srtB_perm _ _).trans (((srtB_perm _ _).symm.filter _).map _))
theorem srt_perm {α : Type} {kp : α → Int × Int} {l m : List α} (d : Dst kp l) (p : m.Perm l) : srtB (ltQ kp) m = srtB (ltQ kp) l :=
  asc_unique (srtB_asc (d.perm p.symm)) (srtB_asc d) ((srtB_perm _ _).trans (p.trans (srtB_perm _ _).symm))
theorem wireD_perm {s : Int} {ws ws' : List W} (d : Dst wp ws) (p : ws'.Perm ws) (a b : Int) : wireD s ws' a b = wireD s ws a b := by
  unfold wireD
  rw [fw_perm d p]
theorem all_perm {s : Int} {ws ws' : List W} {bs bs' : List Bd} {N : Nat} (d : Dst wp ws) (p : ws'.Perm ws) (d2 : Dst bp bs) (p2 : bs'.Perm bs) : ∀ i, allD s ws' bs' N i = allD s ws bs N i
  | 0 => by simp only [allD, headD, srt_perm d p, srt_perm d2 p2]
  | i + 1 => by
    have : rowD s ws' (-1 + i) N = rowD s ws (-1 + i) N := List.map_congr_left fun _ _ => wireD_perm d p _ _
    rw [allD, allD, all_perm d p d2 p2 i]
    simp only [ptD, srcD, tgtD, srt_perm d p, this]
theorem srcs_len {ws : List W} {p : Int} : (srcs ws p).length ≤ ws.length := by
  unfold srcs
  rw [List.length_map]
  exact List.length_filter_le _ _
theorem tgts_len {ws : List W} {p : Int} : (tgts ws p).length ≤ ws.length := by
  unfold tgts
  rw [List.length_map]
  exact List.length_filter_le _ _
/-! what the answers show is short -/
def Lt (m : Nat) (d : D) : Prop := d.low ∧ d.wt ≤ m
theorem Lt.lst {m k n : Nat} {l : List D} (h : ∀ d ∈ l, Lt m d) (hl : l.length ≤ n) (q : n * (m + 2) + 4 ≤ k) : Lt k (.lst l) := by
  refine ⟨D.lows_iff.mpr fun d hd => (h d hd).1, ?_⟩
  have h1 := D.wts_le fun d hd => (h d hd).2
  have h2 := Nat.mul_le_mul_right (m + 2) hl
  show D.wts l + 4 ≤ k
  omega
theorem lowI {i : Int} (a : -1000000000000 ≤ i) (b : i ≤ 1000000000000) : Lt 20 (.int i) := by
  refine ⟨?_, Nat.le_refl _⟩
  show i.natAbs < 10 ^ 18
  have : (10 : Nat) ^ 18 = 1000000000000000000 := by decide
  omega
theorem wt_told : (reprText "told").length ≤ 100 := by decide +kernel
theorem wt_nobox : (reprText "NoBox").length ≤ 100 := by decide +kernel
theorem wt_nowire : (reprText "NoWire").length ≤ 100 := by decide +kernel
theorem lowO {o : Option Int} (h : ∀ x, o = some x → Lt 20 (.int x)) : Lt 20 (oD o) := by
  cases o with
  | none => exact ⟨trivial, by show (4 : Nat) ≤ 20; omega⟩
  | some x => exact h x rfl
theorem lowNB {p : Int} (h : Lt 20 (.int p)) : Lt 500 (noBoxD p) := by
  refine ⟨⟨trivial, ⟨h.1, trivial⟩, trivial, trivial⟩, ?_⟩
  have := wt_nobox
  show (reprText "NoBox").length + 2 + ((20 + 2 + 0 + 4) + 2 + (5 + 2 + 0)) + 4 ≤ 500
  omega
theorem low_wD {s : Int} {w : W} (s6 : s ≤ 6) (o : WOk s w) : Lt 100 (wD w) := by
  have h1 := o.s0
  have h2 := o.s1
  have h3 := o.t0
  have h4 := o.t1
  have h5 := o.lo
  have h6 := o.up
  have a1 := lowI (i := w.1) (by omega) (by omega)
  have a2 := lowI (i := w.2.1) (by omega) (by omega)
  have a3 := lowI (i := w.2.2.1) (by omega) (by omega)
  have a4 := lowO (o := w.2.2.2) fun x e => lowI (by have := o.hi x e; omega) (by have := o.hu x e; omega)
  refine ⟨⟨a1.1, a2.1, a3.1, a4.1, trivial⟩, ?_⟩
  have : (oD w.2.2.2).wt ≤ 20 := a4.2
  show 20 + 2 + (20 + 2 + (20 + 2 + ((oD w.2.2.2).wt + 2 + 0))) + 4 ≤ 100
  omega
theorem low_bD {s : Int} {b : Bd} (s6 : s ≤ 6) (o : BOk s b) : Lt 100 (bD b) := by
  have h1 := o.s0
  have h2 := o.s1
  have h3 := o.t0
  have h4 := o.t1
  have h5 := o.lo
  have h6 := o.up
  have a1 := lowI (i := b.1) (by omega) (by omega)
  have a2 := lowI (i := b.2.1) (by omega) (by omega)
  have a3 := lowI (i := b.2.2) (by omega) (by omega)
  refine ⟨⟨a1.1, a2.1, a3.1, trivial⟩, ?_⟩
  show 20 + 2 + (20 + 2 + (20 + 2 + 0)) + 4 ≤ 100
  omega
theorem low_told {l : List Int} {s : Int} (s6 : s ≤ 6) (hl : l.length ≤ 100) (h : ∀ i ∈ l, 0 ≤ i ∧ i < s) : Lt 20000 (toldI l) := by
  have a : Lt 10000 (.lst (l.map D.int)) := Lt.lst (m := 20) (n := 100) (fun d hd => by
    obtain ⟨i, hi, rfl⟩ := List.mem_map.mp hd
    exact lowI (by have := h i hi; omega) (by have := h i hi; omega)) (by simpa using hl) (by omega)
  refine ⟨⟨trivial, a.1, trivial⟩, ?_⟩
  have h1 := wt_told
  have h2 := a.2
  show (reprText "told").length + 2 + ((D.lst (l.map D.int)).wt + 2 + 0) + 4 ≤ 20000
  omega
theorem low_wire {s p o : Int} {ws : List W} (s6 : s ≤ 6) (hw : ∀ w ∈ ws, WOk s w) (a : Lt 20 (.int p)) (b : Lt 20 (.int o)) : Lt 500 (wireD s ws p o) := by
  unfold wireD
  split
  · exact lowNB a
  split
  · exact lowNB b
  · cases e : fw ws p o with
    | none =>
      refine ⟨⟨trivial, ⟨a.1, b.1, trivial⟩, trivial, trivial⟩, ?_⟩
      have := wt_nowire
      show (reprText "NoWire").length + 2 + ((20 + 2 + (20 + 2 + 0) + 4) + 2 + (5 + 2 + 0)) + 4 ≤ 500
      omega
    | some w =>
      have q := hw w (List.mem_of_find?_eq_some e)
      have h5 := q.lo
      have h6 := q.up
      have a3 := lowI (i := w.2.2.1) (by omega) (by omega)
      have a4 := lowO (o := w.2.2.2) fun x e => lowI (by have := q.hi x e; omega) (by have := q.hu x e; omega)
      refine ⟨⟨trivial, ⟨a3.1, a4.1, trivial⟩, trivial⟩, ?_⟩
      have h1 := wt_told
      have h2 : (oD w.2.2.2).wt ≤ 20 := a4.2
      show (reprText "told").length + 2 + ((20 + 2 + ((oD w.2.2.2).wt + 2 + 0) + 4) + 2 + 0) + 4 ≤ 500
      omega
theorem low_all {s : Int} {ws : List W} {bs : List Bd} {N : Nat} (s1 : 1 ≤ s) (s6 : s ≤ 6) (hw : ∀ w ∈ ws, WOk s w) (lw : ws.length ≤ 100) (hb : ∀ b ∈ bs, BOk s b) (lb : bs.length ≤ 100) (hN : N ≤ 100) : ∀ i, i ≤ 100 → ∀ d ∈ allD s ws bs N i, Lt 20000 d := by
  have up : ∀ {m : Nat} {d : D}, m ≤ 20000 → Lt m d → Lt 20000 d := fun q h => ⟨h.1, Nat.le_trans h.2 q⟩
  intro i
  induction i with
  | zero =>
    intro _ d hd
    simp only [allD, headD, List.mem_cons, List.not_mem_nil, or_false] at hd
    rcases hd with rfl | rfl | rfl
    · exact up (by omega) (lowI (by omega) (by omega))
    · refine Lt.lst (m := 100) (n := 100) (fun d hd => ?_) ?_ (by omega)
      · obtain ⟨w, hw', rfl⟩ := List.mem_map.mp hd
        exact low_wD s6 (hw w ((srtB_perm _ _).mem_iff.mp hw'))
      · rw [List.length_map, (srtB_perm _ _).length_eq]
        exact lw
    · refine Lt.lst (m := 100) (n := 100) (fun d hd => ?_) ?_ (by omega)
      · obtain ⟨w, hw', rfl⟩ := List.mem_map.mp hd
        exact low_bD s6 (hb w ((srtB_perm _ _).mem_iff.mp hw'))
      · rw [List.length_map, (srtB_perm _ _).length_eq]
        exact lb
  | succ i ih =>
    intro hi d hd
    rw [allD, List.mem_append] at hd
    rcases hd with hd | hd
    · exact ih (by omega) d hd
    · have lp := lowI (i := -1 + (i : Int)) (by omega) (by omega)
      have l2 := (srtB_perm (ltQ wp) ws).length_eq
      simp only [ptD, List.mem_cons] at hd
      rcases hd with rfl | rfl | hd
      · unfold srcD
        split
        · exact up (by omega) (lowNB lp)
        · refine low_told s6 (by have := srcs_len (ws := srtB (ltQ wp) ws) (p := -1 + (i : Int)); omega) fun x hx => ?_
          obtain ⟨w, hw', rfl⟩ := List.mem_map.mp hx
          have o := hw w ((srtB_perm _ _).mem_iff.mp (List.mem_filter.mp hw').1)
          exact ⟨o.s0, o.s1⟩
      · unfold tgtD
        split
        · exact up (by omega) (lowNB lp)
        · refine low_told s6 (by have := tgts_len (ws := srtB (ltQ wp) ws) (p := -1 + (i : Int)); omega) fun x hx => ?_
          obtain ⟨w, hw', rfl⟩ := List.mem_map.mp hx
          have o := hw w ((srtB_perm _ _).mem_iff.mp (List.mem_filter.mp hw').1)
          exact ⟨o.t0, o.t1⟩
      · obtain ⟨j, hj, rfl⟩ := List.mem_map.mp hd
        have := List.mem_range.mp hj
        exact up (by omega) (low_wire s6 hw lp (lowI (by omega) (by omega)))
theorem rp_all {s : Int} {ws : List W} {bs : List Bd} {N i : Nat} (s1 : 1 ≤ s) (s6 : s ≤ 6) (hw : ∀ w ∈ ws, WOk s w) (lw : ws.length ≤ 100) (hb : ∀ b ∈ bs, BOk s b) (lb : bs.length ≤ 100) (hN : N ≤ 8) (hi : i ≤ 8) : (D.lst (allD s ws bs N i)).low ∧ (D.lst (allD s ws bs N i)).wt ≤ 16000000 := by
  have h := Lt.lst (m := 20000) (n := 83) (k := 16000000) (low_all (N := N) s1 s6 hw lw hb lb (by omega) i (by omega)) (by
    rw [all_len]
    have := Nat.mul_le_mul hi (show N + 2 ≤ 10 by omega)
    omega) (by omega)
  exact h
end Tk01
set_option Elab.async false
set_option maxRecDepth 100000
set_option maxHeartbeats 4000000
/-! K1Fn: the answers of law k01, told and due. -/
namespace Tk01
open PySem Mi Cd
open Tk02 (forGo_cons forGo_nil push_get)
section
variable {n : Nat} {h : AH} {Q : AV → AH → Prop} {X : Nat → List (Nat × AV) → AH → Prop} {a : Nat} {s : Int} {ws : List W} {bs : List Bd} {rh rw rb : Nat}
/-- the answers in the making -/
structure MkA (h0 : AH) (lo r0 : Nat) (ds : List D) (h : AH) : Prop where
  ex : ∃ as : List An, h.get r0 = some (.lst (as.map An.av)) ∧ (∀ x ∈ as, An.ok h lo r0 x) ∧ as.map An.d = ds
  fr : Fr [] h0 h
  l0 : h0.n ≤ r0
  ll : lo ≤ h0.n
theorem MkA.add {h0 h h1 : AH} {lo r0 : Nat} {ds : List D} (M : MkA h0 lo r0 ds h) (F : Fr [] h h1) {x : An} (ox : An.ok h1 lo r0 x) {xs : List AV} (e : ∃ as : List An, h1.get r0 = some (.lst (as.map An.av)) ∧ as.map An.d = ds ∧ xs = as.map An.av ++ [x.av] ∧ (∀ x ∈ as, An.ok h1 lo r0 x)) : MkA h0 lo r0 (ds ++ [x.d]) (h1.put r0 (.lst xs)) := by
  obtain ⟨as, g, e, rfl, o⟩ := e
  have Fp : Fr [r0] h1 (h1.put r0 (.lst (as.map An.av ++ [x.av]))) := Fr.put (by simp)
  refine ⟨⟨as ++ [x], by rw [AH.get_put_same g]; simp, fun y hy => ?_, by simp [e]⟩, (M.fr.trans F).trans2 Fp (by have := M.l0; simp; omega), M.l0, M.ll⟩
  rcases List.mem_append.mp hy with hy | hy
  · exact (o y hy).fr Fp
  · obtain rfl := List.mem_singleton.mp hy
    exact ox.fr Fp
theorem MkA.get {h0 h h1 : AH} {lo r0 : Nat} {ds : List D} (M : MkA h0 lo r0 ds h) (F : Fr [] h h1) : ∃ as : List An, h1.get r0 = some (.lst (as.map An.av)) ∧ as.map An.d = ds ∧ as.length = ds.length ∧ ∀ x ∈ as, An.ok h1 lo r0 x := by
  obtain ⟨as, g, o, e⟩ := M.ex
  exact ⟨as, F.get0 g, e, by rw [← e, List.length_map], fun x hx => (o x hx).fr (F.mono (by simp))⟩
/-- one answer more -/
theorem app_sp {τ : Mi.Frame} {K : Fl → Mi.Frame → AH → Prop} {X : Nat → List (Nat × AV) → Mi.Frame → AH → Prop} {G : PG} {i : Nat} {e : E} {h0 : AH} {lo r0 : Nat} {ds : List D} {d : D} (M : MkA h0 lo r0 ds h) (hv : τ[i]? = some (some (.ref r0))) (hl : ds.length < 1000000)
    (ev : ∀ {Q : AV → AH → Prop} {X : Nat → List (Nat × AV) → AH → Prop}, (∀ (x : An) h1, Fr [] h h1 → An.ok h1 lo r0 x → x.d = d → Q x.av h1) → RW (evalE G e τ h) Q X)
    (k : ∀ h', MkA h0 lo r0 (ds ++ [d]) h' → Fr [r0] h h' → K .nx τ h') : SW (exec G (.expr (.bm .append (.var i) (.cons e .nil))) τ h) K X := by
  obtain ⟨as0, g0, _⟩ := M.ex
  simp [hv, g0]
  refine ev fun x h1 F o ed => ?_
  obtain ⟨as, g, e', el, oo⟩ := M.get F
  simp [g]
  have := M.add F o ⟨as, g, e', rfl, oo⟩
  rw [ed] at this
  exact ⟨by omega, k _ this ((F.mono (by simp)).trans (Fr.put (by simp)))⟩
theorem ans_sp (L : LineO h a s ws bs rh rw rb) (s1 : 1 ≤ s) (s6 : s ≤ 6) (hl : ws.length < 1000) (hb : bs.length < 1000)
    (k : ∀ r0 h', MkA h h.n r0 (allD s ws bs (s + 2).toNat (s + 2).toNat) h' → Q (.ref r0) h') : RW (Gam B (n + 4) 38 [.ref a, .int s] h) Q X := by
  refine enter (i := i38) rfl (by simp [i38]) ?_
  simp only [i38, c38, List.map_cons, List.map_nil, List.cons_append, List.nil_append, List.replicate]
  simp [L.o, List.lookup, pl6, pl7]
  refine ln_wires hG L fun h2 g2 n2 F2 => ?_
  have L2 := L.fr F2 (by simp)
  simp [L2.o, List.lookup, pl6, pl7]
  refine ln_bounds hG L2 fun h3 g3 n3 F3 => ?_
  have L3 := L2.fr F3 (by simp)
  have e1 := (srtB_perm (ltQ wp) ws).length_eq
  have e2 := (srtB_perm (ltQ bp) bs).length_eq
  have lg2 := AH.get_lt g2
  have lg3 := AH.get_lt g3
  have M : MkA h h.n h3.n (allD s ws bs (s + 2).toNat 0) (h3.push (.lst [.int s, .ref h.n, .ref h2.n])) := by
    have F3' : Fr [] h h3 := F2.trans F3
    refine ⟨⟨[intN s, wsN h.n (srtB (ltQ wp) ws), bsN h2.n (srtB (ltQ bp) bs)], AH.get_push_new, fun x hx => ?_, rfl⟩, F3'.trans Fr.push, F3'.le, Nat.le_refl _⟩
    simp only [List.mem_cons, List.not_mem_nil, or_false] at hx
    rcases hx with rfl | rfl | rfl
    · exact intN_ok
    · exact wsN_ok (Nat.le_refl _) (by omega) (AH.get_push_old (F3.get0 g2)) (by omega)
    · exact bsN_ok F2.le (by omega) (AH.get_push_old g3) (by omega)
  have L4 := L3.fr (S := []) (Fr.push (o := .lst [.int s, .ref h.n, .ref h2.n])) (by simp)
  simp
  generalize h3.push (.lst [.int s, .ref h.n, .ref h2.n]) = h4 at M L4 ⊢
  have la := AH.get_lt L.o
  have lh := AH.get_lt L.gh
  have lw := AH.get_lt L.gw
  have lb := AH.get_lt L.gb
  have le2 := F2.le
  have ne : a ∉ [h3.n] ∧ rh ∉ [h3.n] ∧ rw ∉ [h3.n] ∧ rb ∉ [h3.n] := by simp; omega
  have eN : (s + 1 + 1).toNat = (s + 2).toNat := by omega
  have hN : ((s + 2).toNat : Int) = s + 2 := by omega
  rw [eN]
  generalize (s + 2).toNat = N at k M eN hN ⊢
  refine ⟨by omega, for_range (fun i τ h' => Bx (Hd [some (.ref a), some (.int s), some (.ref h3.n)] 2 τ ∧ MkA h h.n h3.n (allD s ws bs N i) h' ∧ LineO h' a s ws bs rh rw rb)) (.mk ⟨Hd.of rfl rfl, M, L4⟩) ?_ ?_⟩
  · rintro i τ h5 hi ⟨⟨rest, rfl, hr⟩, M5, L5⟩
    obtain ⟨x, y, rfl⟩ := rest2 hr
    have ll : (allD s ws bs N i).length ≤ 1000 := by
      rw [all_len]
      have := Nat.mul_le_mul (show i ≤ 8 by omega) (show N + 2 ≤ 10 by omega)
      omega
    have sp : small (-1 + i) := by unfold small; omega
    simp [b38_2, -s_expr, -s_for]
    refine app_sp M5 rfl (by omega) (d := srcD s ws (-1 + i)) (fun kk => ?_) fun h6 M6 F6 => ?_
    · simp [pl36]
      refine lsrc_sp L5 sp (by omega) (fun q h' g F => ?_) fun q => ?_
      · have := kk (isN h5.n _) h' F (isN_ok ?_ ?_ g ?_) (by unfold srcD; rw [if_neg q]; rfl)
        · exact this
        · have := M5.fr.le; omega
        · obtain ⟨as, g, _⟩ := M5.ex
          have := AH.get_lt g
          omega
        · have := srcs_len (ws := srtB (ltQ wp) ws) (p := -1 + (i : Int)); omega
      · exact kk (noBoxN _) h5 Fr.refl noBoxN_ok (by unfold srcD; rw [if_pos q]; rfl)
    have L6 := L5.fr F6 ne
    simp [-s_expr, -s_for]
    refine app_sp M6 rfl (by simp; omega) (d := tgtD s ws (-1 + i)) (fun kk => ?_) fun h7 M7 F7 => ?_
    · simp [pl37]
      refine ltgt_sp L6 sp (by omega) (fun q h' g F => ?_) fun q => ?_
      · have := kk (isN h6.n _) h' F (isN_ok ?_ ?_ g ?_) (by unfold tgtD; rw [if_neg q]; rfl)
        · exact this
        · have := M6.fr.le; omega
        · obtain ⟨as, g, _⟩ := M6.ex
          have := AH.get_lt g
          omega
        · have := tgts_len (ws := srtB (ltQ wp) ws) (p := -1 + (i : Int)); omega
      · exact kk (noBoxN _) h6 Fr.refl noBoxN_ok (by unfold tgtD; rw [if_pos q]; rfl)
    have L7 := L6.fr F7 ne
    simp
    rw [eN]
    refine ⟨by omega, for_range (fun j τ h' => Bx (Hd [some (.ref a), some (.int s), some (.ref h3.n), some (.int (-1 + i))] 1 τ ∧ MkA h h.n h3.n (allD s ws bs N i ++ srcD s ws (-1 + i) :: tgtD s ws (-1 + i) :: rowD s ws (-1 + i) j) h' ∧ LineO h' a s ws bs rh rw rb)) (.mk ⟨Hd.of rfl rfl, by simpa [rowD] using M7, L7⟩) ?_ ?_⟩
    · rintro j τ h8 hj ⟨⟨rest, rfl, hr⟩, M8, L8⟩
      obtain ⟨y, rfl⟩ := rest1 hr
      simp [b38_1, -s_expr]
      refine app_sp M8 rfl (by simp [rowD]; omega) (d := wireD s ws (-1 + i) (-1 + j)) (fun kk => ?_) fun h9 M9 F9 => ?_
      · simp [pl35]
        refine lwire_sp L8 sp (by unfold small; omega) ?_
        exact kk (wireN s ws (-1 + i) (-1 + j)) h8 Fr.refl wireN_ok rfl
      · simp
        exact .mk ⟨Hd.of rfl rfl, by rw [row_succ]; simpa using M9, L8.fr F9 ne⟩
    · rintro τ h8 ⟨⟨rest, rfl, hr⟩, M8, L8⟩
      simp
      exact .mk ⟨⟨_ :: rest, rfl, by simp [hr]⟩, M8, L8⟩
  · rintro τ h5 ⟨⟨rest, rfl, hr⟩, M5, L5⟩
    simp
    exact k _ _ M5
theorem due_sp {r1 r2 : Nat} (g1 : h.get r1 = some (.lst (ws.map wAV))) (g2 : h.get r2 = some (.lst (bs.map bAV))) (dw : Dst wp ws) (db : Dst bp bs) (s1 : 1 ≤ s) (s6 : s ≤ 6) (hl : ws.length < 1000) (hb : bs.length < 1000)
    (k : ∀ r0 h', MkA h h.n r0 (allD s ws bs (s + 2).toNat (s + 2).toNat) h' → Q (.ref r0) h') : RW (Gam B (n + 2) 40 [.int s, .ref r1, .ref r2] h) Q X := by
  refine enter (i := i40) rfl (by simp [i40]) ?_
  simp only [i40, c40, List.map_cons, List.map_nil, List.cons_append, List.nil_append, List.replicate]
  simp [g1, Tk02.sort_w dw, AH.get_push_old g2, Tk02.sort_b db]
  have e1 := (srtB_perm (ltQ wp) ws).length_eq
  have e2 := (srtB_perm (ltQ bp) bs).length_eq
  have F0 : Fr [] h (((h.push (.lst ((srtB (ltQ wp) ws).map wAV))).push (.lst ((srtB (ltQ bp) bs).map bAV))).push (.lst [.int s, .ref h.n, .ref (h.n + 1)])) := (Fr.push.trans Fr.push).trans Fr.push
  have M : MkA h h.n (h.n + 1 + 1) (allD s ws bs (s + 2).toNat 0) (((h.push (.lst ((srtB (ltQ wp) ws).map wAV))).push (.lst ((srtB (ltQ bp) bs).map bAV))).push (.lst [.int s, .ref h.n, .ref (h.n + 1)])) := by
    refine ⟨⟨[intN s, wsN h.n (srtB (ltQ wp) ws), bsN (h.n + 1) (srtB (ltQ bp) bs)], AH.get_push_new, fun x hx => ?_, rfl⟩, F0, by omega, Nat.le_refl _⟩
    simp only [List.mem_cons, List.not_mem_nil, or_false] at hx
    rcases hx with rfl | rfl | rfl
    · exact intN_ok
    · exact wsN_ok (Nat.le_refl _) (by omega) (AH.get_push_old (AH.get_push_old AH.get_push_new)) (by omega)
    · exact bsN_ok (by omega) (by omega) (by simp [push_get]) (by omega)
  have l1 := AH.get_lt g1
  have G1 := F0.get0 g1
  generalize (((h.push (.lst ((srtB (ltQ wp) ws).map wAV))).push (.lst ((srtB (ltQ bp) bs).map bAV))).push (.lst [.int s, .ref h.n, .ref (h.n + 1)])) = h4 at M G1 ⊢
  generalize hr0 : h.n + 1 + 1 = r0 at M ⊢
  have ne : r1 ∉ [r0] := by simp; omega
  have eN : (s + 1 + 1).toNat = (s + 2).toNat := by omega
  have hN : ((s + 2).toNat : Int) = s + 2 := by omega
  rw [eN]
  generalize (s + 2).toNat = N at k M eN hN ⊢
  refine ⟨by omega, for_range (fun i τ h' => Bx (Hd [some (.int s), some (.ref r1), some (.ref r2), some (.ref r0)] 3 τ ∧ MkA h h.n r0 (allD s ws bs N i) h' ∧ h'.get r1 = some (.lst (ws.map wAV)))) (.mk ⟨Hd.of rfl rfl, M, G1⟩) ?_ ?_⟩
  · rintro i τ h5 hi ⟨⟨rest, rfl, hr⟩, M5, G5⟩
    obtain ⟨x, y, z, rfl⟩ := rest3 hr
    have ll : (allD s ws bs N i).length ≤ 1000 := by
      rw [all_len]
      have := Nat.mul_le_mul (show i ≤ 8 by omega) (show N + 2 ≤ 10 by omega)
      omega
    simp only [s_step]
    simp [b40_2, -s_ite, -s_for]
    refine cut2 (fun τ h' => Bx (Tq τ [some (.int s), some (.ref r1), some (.ref r2), some (.ref r0), some (.int (-1 + i)), y, z] ∧ MkA h h.n r0 (allD s ws bs N i ++ [srcD s ws (-1 + i)] ++ [tgtD s ws (-1 + i)]) h' ∧ h'.get r1 = some (.lst (ws.map wAV)))) ?_ ?_
    · refine ite_pure (outB s (-1 + i)) (¬outB s (-1 + i)) (by simp [BWp, outB]; grind) (fun c1 => ?_) fun c1 => ?_
      · simp [-s_expr]
        refine app_sp M5 rfl (by omega) (d := srcD s ws (-1 + i)) (fun kk => ?_) fun h6 M6 F6 => ?_
        · simp
          exact kk (noBoxN _) h5 Fr.refl noBoxN_ok (by unfold srcD; rw [if_pos c1]; rfl)
        simp [-s_expr]
        refine app_sp M6 rfl (by simp; omega) (d := tgtD s ws (-1 + i)) (fun kk => ?_) fun h7 M7 F7 => ?_
        · simp
          exact kk (noBoxN _) h6 Fr.refl noBoxN_ok (by unfold tgtD; rw [if_pos c1]; rfl)
        simp
        exact .mk ⟨⟨rfl⟩, by simpa using M7, (F7.get (F6.get G5 ne) ne)⟩
      · simp [-s_expr]
        refine app_sp M5 rfl (by omega) (d := srcD s ws (-1 + i)) (fun kk => ?_) fun h6 M6 F6 => ?_
        · obtain ⟨as, ga, _⟩ := M5.ex
          simp [G5]
          refine lc_rule wAV ws (fun d acc h' => acc = (srcs d (-1 + i)).map .int ∧ h5 = h') ⟨rfl, rfl⟩ ?_ ?_
          · rintro d ⟨u, v, lo, hi⟩ r acc _ e ⟨rfl, rfl⟩
            have h1 := congrArg List.length e
            have h3 := srcs_len (ws := d) (p := -1 + (i : Int))
            simp at h1
            refine ⟨by simpa using G5, by simp; omega, ?_⟩
            simp [wAV]
            refine BW_dec (fun c => ?_) fun c => ?_
            · simp [srcs, c]
            · simp [srcs, c]
          · rintro acc _ ⟨rfl, rfl⟩
            refine ⟨by simpa using G5, ?_⟩
            simp [sort_i (srcs_dst dw), srcs_srt dw]
            have F : Fr [] h5 ((h5.push (.lst ((srcs ws (-1 + i)).map .int))).push (.lst ((srcs (srtB (ltQ wp) ws) (-1 + i)).map .int))) := Fr.push.trans Fr.push
            have l3 := srcs_len (ws := srtB (ltQ wp) ws) (p := -1 + (i : Int))
            have lm := M5.fr.le
            exact kk (isN (h5.n + 1) (srcs (srtB (ltQ wp) ws) (-1 + i))) _ F (isN_ok (by have := M5.ll; omega) (by have := AH.get_lt ga; omega) (by simp [push_get]) (by omega)) (by unfold srcD; rw [if_neg c1]; rfl)
        have G6 := F6.get G5 ne
        simp [-s_expr]
        refine app_sp M6 rfl (by simp; omega) (d := tgtD s ws (-1 + i)) (fun kk => ?_) fun h7 M7 F7 => ?_
        · obtain ⟨as, ga, _⟩ := M6.ex
          simp [G6]
          refine lc_rule wAV ws (fun d acc h' => acc = (tgts d (-1 + i)).map .int ∧ h6 = h') ⟨rfl, rfl⟩ ?_ ?_
          · rintro d ⟨u, v, lo, hi⟩ r acc _ e ⟨rfl, rfl⟩
            have h1 := congrArg List.length e
            have h3 := tgts_len (ws := d) (p := -1 + (i : Int))
            simp at h1
            refine ⟨by simpa using G6, by simp; omega, ?_⟩
            simp [wAV]
            refine BW_dec (fun c => ?_) fun c => ?_
            · simp [tgts, c]
            · simp [tgts, c]
          · rintro acc _ ⟨rfl, rfl⟩
            refine ⟨by simpa using G6, ?_⟩
            simp [sort_i (tgts_dst dw), tgts_srt dw]
            have F : Fr [] h6 ((h6.push (.lst ((tgts ws (-1 + i)).map .int))).push (.lst ((tgts (srtB (ltQ wp) ws) (-1 + i)).map .int))) := Fr.push.trans Fr.push
            have l3 := tgts_len (ws := srtB (ltQ wp) ws) (p := -1 + (i : Int))
            have lm := M6.fr.le
            exact kk (isN (h6.n + 1) (tgts (srtB (ltQ wp) ws) (-1 + i))) _ F (isN_ok (by have := M6.ll; omega) (by have := AH.get_lt ga; omega) (by simp [push_get]) (by omega)) (by unfold tgtD; rw [if_neg c1]; rfl)
        simp
        exact .mk ⟨⟨rfl⟩, by simpa using M7, F7.get G6 ne⟩
    rintro _ h7 ⟨⟨rfl⟩, M7, G7⟩
    simp
    rw [eN]
    refine ⟨by omega, for_range (fun j τ h' => Bx (Hd [some (.int s), some (.ref r1), some (.ref r2), some (.ref r0), some (.int (-1 + i))] 2 τ ∧ MkA h h.n r0 (allD s ws bs N i ++ srcD s ws (-1 + i) :: tgtD s ws (-1 + i) :: rowD s ws (-1 + i) j) h' ∧ h'.get r1 = some (.lst (ws.map wAV)))) (.mk ⟨Hd.of rfl rfl, by simpa [rowD] using M7, G7⟩) ?_ ?_⟩
    · rintro j τ h8 hj ⟨⟨rest, rfl, hr⟩, M8, G8⟩
      obtain ⟨y, z, rfl⟩ := rest2 hr
      simp [b40_1, -s_expr]
      refine app_sp M8 rfl (by simp [rowD]; omega) (d := wireD s ws (-1 + i) (-1 + j)) (fun kk => ?_) fun h9 M9 F9 => ?_
      · simp [pl39]
        refine due_wire G8 dw (by omega) fun h' F => ?_
        exact kk (wireN s ws (-1 + i) (-1 + j)) h' F wireN_ok rfl
      · simp
        exact .mk ⟨Hd.of rfl rfl, by rw [row_succ]; simpa using M9, F9.get G8 ne⟩
    · rintro τ h8 ⟨⟨rest, rfl, hr⟩, M8, G8⟩
      simp
      exact .mk ⟨⟨_ :: rest, rfl, by simp [hr]⟩, M8, G8⟩
  · rintro τ h5 ⟨⟨rest, rfl, hr⟩, M5, G5⟩
    simp
    exact k _ _ M5
end
end Tk01
set_option Elab.async false
set_option maxRecDepth 100000
set_option maxHeartbeats 4000000
/-! Pk01: law k01 answers True. -/
namespace Tk01
open PySem Mi Cd
open Tk02 (forGo_cons forGo_nil push_get dn_ws dn_bs fltL_none)
section
variable {n : Nat} {h : AH} {Q : AV → AH → Prop} {X : Nat → List (Nat × AV) → AH → Prop}
theorem spoil_sp {r : Nat} {xs : List AV} (g : h.get r = some (.lst xs)) (hl : xs.length < 10000000)
    (k : ∀ h' ys, h'.get r = some (.lst ys) → ys.length = xs.length + 1 → Fr [r] h h' → Q .non h') : RW (Gam B (n + 1) 41 [.ref r] h) Q X := by
  refine enter (i := i41) rfl (by simp [i41]) ?_
  simp only [i41, c41, List.map_cons, List.map_nil, List.cons_append, List.nil_append, List.replicate]
  simp [g]
  refine Eq.mpr (OW_ite (p := xs.length < sizeLine)) ⟨by rw [Mi.sizeLine_eq]; omega, ?_⟩
  have g2 : (h.put r (.lst (xs ++ [.tup [.int 0, .int 0, .int 0, .int 0]]))).get r = some (.lst (xs ++ [.tup [.int 0, .int 0, .int 0, .int 0]])) := AH.get_put_same g
  have F : Fr [r] h (h.put r (.lst (xs ++ [.tup [.int 0, .int 0, .int 0, .int 0]]))) := Fr.put (by simp)
  have ix := ixN_ok (n := xs.length + 1) (i := 0) (by omega) (by omega)
  simp [g2, ix]
  exact k _ _ (AH.get_put_same g2) (by simp) (F.trans (Fr.put (by simp)))
theorem made_sp {p rw rb : Nat} {s : Int} {ws : List W} {bs : List Bd} (P : Pen h p) (g1 : h.get rw = some (.lst (ws.map wAV))) (g2 : h.get rb = some (.lst (bs.map bAV))) (s1 : 1 ≤ s) (s6 : s ≤ 6) (hw : ∀ w ∈ ws, WOk s w) (dw : Dst wp ws) (hb : ∀ b ∈ bs, BOk s b) (db : Dst bp bs) (lw : ws.length < 1000) (lb : bs.length < 1000) (n1 : rw ≠ p) (n2 : rb ≠ p)
    (k : ∀ a rh r1 r2 h', LineO h' a s ws bs rh r1 r2 → h.n ≤ a → h.n ≤ rh → h.n ≤ r1 → h.n ≤ r2 → Fr [p] h h' → Q (.ref a) h') : RW (Gam B (n + 4) 42 [.ref p, .int s, .ref rw, .ref rb] h) Q X := by
  have nof := fltL_none s1 hw dw hb db
  have smw : ∀ w ∈ ws, smallW w := fun w q => by
    have o := hw w q
    have := o.s0
    have := o.s1
    have := o.t0
    have := o.t1
    unfold smallW small
    omega
  have smb : ∀ b ∈ bs, smallB b := fun b q => by
    have o := hb b q
    have := o.s0
    have := o.s1
    have := o.t0
    have := o.t1
    unfold smallB small
    omega
  have ss : small s := by unfold small; omega
  refine enter (i := i42) rfl (by simp [i42]) ?_
  simp only [i42, c42, List.map_cons, List.map_nil, List.cons_append, List.nil_append, List.replicate]
  simp [-s_ite, pl14]
  refine take_sp hP P (by omega) (by omega) fun z h1 z0 z1 P1 F1 => ?_
  have G1 := F1.get g1 (by simpa using n1)
  have G2 := F1.get g2 (by simpa using n2)
  have le1 := F1.le
  have nl : ∀ {l : List AV} {v : AV}, Itr v l h1 → Itr v l (h1.push (.ins 6 [])) := fun I => I.fr (S := []) Fr.push (by simp)
  simp [-s_ite]
  refine cut2 (fun τ h' => Bx (Tq τ [some (.ref p), some (.int s), some (.ref rw), some (.ref rb), some (.int z)] ∧ h1 = h')) ?_ ?_
  · refine ite_pure (z = 0 ∧ bs = []) True (by simp [BWp, G2]; grind) (fun c => ?_) fun c => ?_
    · obtain ⟨rfl, rfl⟩ := c
      simp [placeS, place]
      refine init_sp hG AH.get_push_new (nl (.inr ⟨_, rfl, G1⟩)) (.inl rfl) ss smw smb (by omega) (by omega) (fun rh r1 r2 h2 ef L l1 l2 l3 F => ?_) fun f h2 ef F => by rw [nof] at ef; cases ef
      simp at l1 l2 l3 ⊢
      exact k _ _ _ _ _ L (by omega) (by omega) (by omega) (by omega) ((F1.trans Fr.push).trans2 F (by simp; omega))
    · simp
      exact .mk ⟨⟨rfl⟩, rfl⟩
  rintro _ _ ⟨⟨rfl⟩, rfl⟩
  simp [-s_ite]
  refine cut2 (fun τ h' => Bx (Tq τ [some (.ref p), some (.int s), some (.ref rw), some (.ref rb), some (.int z)] ∧ h1 = h')) ?_ ?_
  · refine ite_pure (z = 0) True (by simp [BWp]; try omega) (fun c => ?_) fun c => ?_
    · subst c
      simp [placeS, place]
      refine init_sp hG AH.get_push_new (nl (.inr ⟨_, rfl, G1⟩)) (nl (.inr ⟨_, rfl, G2⟩)) ss smw smb (by omega) (by omega) (fun rh r1 r2 h2 ef L l1 l2 l3 F => ?_) fun f h2 ef F => by rw [nof] at ef; cases ef
      simp at l1 l2 l3 ⊢
      exact k _ _ _ _ _ L (by omega) (by omega) (by omega) (by omega) ((F1.trans Fr.push).trans2 F (by simp; omega))
    · simp
      exact .mk ⟨⟨rfl⟩, rfl⟩
  rintro _ _ ⟨⟨rfl⟩, rfl⟩
  simp [placeS, place, G2]
  refine init_sp hG AH.get_push_new (nl (.inr ⟨_, rfl, G1⟩)) (.inl rfl) ss smw smb (by omega) (by omega) (fun rh r1 r2 h2 ef L l1 l2 l3 F => ?_) fun f h2 ef F => by rw [nof] at ef; cases ef
  simp at l1 l2 l3 ⊢
  exact k _ _ _ _ _ L (by omega) (by omega) (by omega) (by omega) ((F1.trans Fr.push).trans2 F (by simp; omega))

/-- the lists that the law spoils -/
def badL (h : AH) (lo r0 m r : Nat) : Prop := lo ≤ r ∧ r ≠ r0 ∧ ∃ xs, h.get r = some (.lst xs) ∧ xs.length ≤ m
def An.bad (h : AH) (lo r0 m : Nat) : An → Prop
  | .one v _ => flatV v
  | .lst r _ _ => badL h lo r0 m r
  | .tl r _ _ => badL h lo r0 m r
theorem An.ok.bad {h : AH} {lo r0 : Nat} : ∀ {x : An}, An.ok h lo r0 x → An.bad h lo r0 1000000 x
  | .one _ _, o => o.1
  | .lst _ _ _, o => by
    have L : LOk h lo r0 _ _ _ := o
    exact ⟨L.lo, L.ne, _, L.g, Nat.le_of_lt L.len⟩
  | .tl _ _ _, o => by
    have L : LOk h lo r0 _ _ _ := o
    exact ⟨L.lo, L.ne, _, L.g, Nat.le_of_lt L.len⟩
theorem get_step {h h' : AH} {lo r0 m r r' : Nat} {ys : List AV} (F : Fr [r] h h') (g : h'.get r = some (.lst ys)) (hl : ys.length ≤ m + 1) (o : badL h lo r0 m r') : badL h' lo r0 (m + 1) r' := by
  obtain ⟨l, ne, xs, gx, lx⟩ := o
  by_cases e : r' = r
  · subst e
    exact ⟨l, ne, ys, g, hl⟩
  · exact ⟨l, ne, xs, F.get gx (by simpa using e), by omega⟩
theorem An.bad.step {h h' : AH} {lo r0 m r : Nat} {ys : List AV} (F : Fr [r] h h') (g : h'.get r = some (.lst ys)) (hl : ys.length ≤ m + 1) : ∀ {x : An}, An.bad h lo r0 m x → An.bad h' lo r0 (m + 1) x
  | .one _ _, o => o
  | .lst _ _ _, o => get_step F g hl o
  | .tl _ _ _, o => get_step F g hl o
theorem An.bad.up {h : AH} {lo r0 m : Nat} : ∀ {x : An}, An.bad h lo r0 m x → An.bad h lo r0 (m + 1) x
  | .one _ _, o => o
  | .lst _ _ _, ⟨l, ne, xs, g, hl⟩ => ⟨l, ne, xs, g, by omega⟩
  | .tl _ _ _, ⟨l, ne, xs, g, hl⟩ => ⟨l, ne, xs, g, by omega⟩
theorem An.bad.fr {h h' : AH} {lo r0 m : Nat} {S : List Nat} (F : Fr S h h') (q : ∀ a ∈ S, a < lo) : ∀ {x : An}, An.bad h lo r0 m x → An.bad h' lo r0 m x
  | .one _ _, o => o
  | .lst _ _ _, ⟨l, ne, xs, g, hl⟩ => ⟨l, ne, xs, F.get g fun z => absurd (q _ z) (by omega), hl⟩
  | .tl _ _ _, ⟨l, ne, xs, g, hl⟩ => ⟨l, ne, xs, F.get g fun z => absurd (q _ z) (by omega), hl⟩
theorem rdL_tup {h : AH} {xs : List AV} : rdL h (.tup xs) = none := rfl
theorem rdL_int {h : AH} {i : Int} : rdL h (.int i) = none := rfl
theorem law_sp {ns : List Int} {h : AH} (k : ∀ h', Q (.bl true) h') : RW (Gam B (n + 9) 43 [.frl ns] h) Q X := by
  refine enter (i := i43) rfl (by simp [i43]) ?_
  simp only [i43, c43, List.map_cons, List.map_nil, List.cons_append, List.nil_append, List.replicate]
  simp [pl23, -s_for, -s_ite, -s_asg]
  refine cut2 (fun τ h' => Bx (∃ s rw ws rt bs, Tq τ [some (.frl ns), none, none, none, none, none, none, none, none, none, none, some (.int s), some (.ref rw), some (.ref rt)] ∧ LnD h s rw ws rt bs h')) ?_ ?_
  · simp [pl23]
    refine line_sp hL fun s rw ws rt bs h1 L => ?_
    simp
    exact .mk ⟨s, rw, ws, rt, bs, ⟨rfl⟩, L⟩
  rintro _ h1 ⟨s, rw, ws, rt, bs, ⟨rfl⟩, L⟩
  have dw := L.wa.asc.dst
  have db := L.ba.asc.dst
  have lw := L.wa.len
  have lb := L.ba.len
  have rw1 := AH.get_lt L.gw
  have rt1 := AH.get_lt L.gt
  simp [-s_for, -s_ite, pl40]
  refine due_sp L.gw L.gt dw db L.s1 L.s6 (by omega) (by omega) fun r1 h2 M1 => ?_
  have F2 := M1.fr
  simp [-s_for, -s_ite, pl13]
  refine pen_sp hP (by omega) fun h3 n3 P3 F3 => ?_
  have l12 := F2.le
  have l23 := F3.le
  simp [-s_for, -s_ite, pl20]
  refine mixed_sp wAV P3 (F3.get0 (F2.get0 L.gw)) (by omega) (by omega) fun rw2 h4 ws1 hrw2 g4 pm4 P4 F4 => ?_
  have l34 := F4.le
  simp [-s_for, -s_ite, pl20]
  refine mixed_sp bAV P4 (F4.get (F3.get0 (F2.get0 L.gt)) (by simp; omega)) (by omega) (by omega) fun rt2 h5 bs1 hrt2 g5 pm5 P5 F5 => ?_
  have l45 := F5.le
  have g4' := F5.get g4 (by simp; omega)
  have FF : Fr [] h2 h5 := (F3.trans2 F4 (by simp)).trans2 F5 (by simp)
  have dw1 := dw.perm pm4.symm
  have db1 := db.perm pm5.symm
  have hw1 : ∀ w ∈ ws1, WOk s w := fun w hw => L.wa.ok w (pm4.mem_iff.mp hw)
  have hb1 : ∀ b ∈ bs1, BOk s b := fun b hb => L.ba.ok b (pm5.mem_iff.mp hb)
  have lw1 := pm4.length_eq
  have lb1 := pm5.length_eq
  have q1 := AH.get_lt g4'
  have q2 := AH.get_lt g5
  have lp := P5.lt
  have a0 : rw2 ≠ h5.n := by omega
  have a1 : rw2 ≠ h5.n + 1 := by omega
  have b0 : rt2 ≠ h5.n := by omega
  have b1 : rt2 ≠ h5.n + 1 := by omega
  simp [-s_for, -s_ite, g4', g5, push_get, a0, a1, b0, b1]
  have F6 : Fr [] h5 (((h5.push (.lst (ws1.map wAV))).push (.lst (bs1.map bAV))).push (.lst [.ref h5.n, .ref (h5.n + 1)])) := (Fr.push.trans Fr.push).trans Fr.push
  have e1 : (((h5.push (.lst (ws1.map wAV))).push (.lst (bs1.map bAV))).push (.lst [.ref h5.n, .ref (h5.n + 1)])).get h5.n = some (.lst (ws1.map wAV)) := AH.get_push_old (AH.get_push_old AH.get_push_new)
  have e2 : (((h5.push (.lst (ws1.map wAV))).push (.lst (bs1.map bAV))).push (.lst [.ref h5.n, .ref (h5.n + 1)])).get (h5.n + 1) = some (.lst (bs1.map bAV)) := by simp [push_get]
  have e3 : (((h5.push (.lst (ws1.map wAV))).push (.lst (bs1.map bAV))).push (.lst [.ref h5.n, .ref (h5.n + 1)])).get (h5.n + 1 + 1) = some (.lst [.ref h5.n, .ref (h5.n + 1)]) := by simp [push_get]
  generalize (((h5.push (.lst (ws1.map wAV))).push (.lst (bs1.map bAV))).push (.lst [.ref h5.n, .ref (h5.n + 1)])) = h6 at F6 e1 e2 e3 ⊢
  have m1 := AH.get_lt e1
  have m2 := AH.get_lt e2
  have m3 := AH.get_lt e3
  generalize hc0 : h5.n + 1 + 1 = c0 at e3 m3 ⊢
  generalize hc2 : h5.n + 1 = c2 at e2 e3 m2 ⊢
  generalize hc1 : h5.n = c1 at e1 e3 m1 ⊢
  have FF6 : Fr [] h2 h6 := FF.trans F6
  simp [-s_for, -s_ite, pl42]
  refine made_sp (P5.fr F6 (by simp)) (F6.get0 g4') (F6.get0 g5) L.s1 L.s6 hw1 dw1 hb1 db1 (by omega) (by omega) (by omega) (by omega) fun ad rh r1' r2' h7 LO la0 la1 la2 la3 F7 => ?_
  have FF7 := FF6.trans2 F7 (by simp)
  have g7 := F7.get (F6.get0 g4') (by simp; omega)
  have g8 := F7.get (F6.get0 g5) (by simp; omega)
  have e4 := F7.get e1 (by simp; omega)
  have e5 := F7.get e2 (by simp; omega)
  have e6 := F7.get e3 (by simp; omega)
  simp [-s_for, -s_ite]
  refine cut2 (fun τ h' => Bx (Tq τ [some (.frl ns), some (.ref r1), some (.ref h2.n), some (.ref rw2), some (.ref rt2), some (.ref c0), some (.ref ad), none, none, none, none, some (.int s), some (.ref rw), some (.ref rt)] ∧ h7 = h')) ?_ ?_
  · simp [pl19, e6]
    refine same_sp (n := n + 1) hS 5 (dn_ws (m := 3) g7 (by omega)) (dn_ws (m := 3) e4 (by omega)) ?_
    simp [pl19, e6]
    refine same_sp (n := n + 1) hS 5 (dn_bs (m := 3) g8 (by omega)) (dn_bs (m := 3) e5 (by omega)) ?_
    simp
    exact .mk ⟨⟨rfl⟩, rfl⟩
  rintro _ _ ⟨⟨rfl⟩, rfl⟩
  simp [-s_for, -s_ite, pl38]
  refine ans_sp (n := n + 4) LO L.s1 L.s6 (by omega) (by omega) fun r3 h8 M8 => ?_
  rw [all_perm dw pm4 db pm5] at M8
  have F8 := M8.fr
  have l67 := F7.le
  have l78 := F8.le
  have l56 := F6.le
  have FF8 := FF7.trans F8
  have N8 : (s + 2).toNat ≤ 8 := by have := L.s6; omega
  have aln : (allD s ws bs (s + 2).toNat (s + 2).toNat).length < 1000 := by
    rw [all_len]
    have := Nat.mul_le_mul N8 (show (s + 2).toNat + 2 ≤ 10 by omega)
    omega
  have rp := rp_all (N := (s + 2).toNat) (i := (s + 2).toNat) L.s1 L.s6 L.wa.ok lw L.ba.ok lb N8 N8
  have lad := AH.get_lt LO.o
  have lrh := AH.get_lt LO.gh
  have lr1 := AH.get_lt LO.gw
  have lr2 := AH.get_lt LO.gb
  have LO8 := LO.fr F8 (by simp)
  generalize hD : allD s ws bs (s + 2).toNat (s + 2).toNat = DD at *
  have due : ∀ {h'}, Fr [] h2 h' → dn 5 h' (.ref r1) = some (.lst DD) := fun F => by
    obtain ⟨as, g, e, el, o⟩ := M1.get F
    rw [← e]
    exact an_dn g (by omega) o
  obtain ⟨as, g9, e9, el9, o9⟩ := M8.get Fr.refl
  have lr3 := AH.get_lt g9
  have fst8 : dn 5 h8 (.ref r3) = some (.lst DD) := by
    rw [← e9]
    exact an_dn g9 (by omega) o9
  simp [-s_for, -s_ite]
  refine cut2 (fun τ h' => Bx (Tq τ [some (.frl ns), some (.ref r1), some (.ref h2.n), some (.ref rw2), some (.ref rt2), some (.ref c0), some (.ref ad), some (.ref r3), none, none, none, some (.int s), some (.ref rw), some (.ref rt)] ∧ h8 = h')) ?_ ?_
  · simp [pl19]
    refine same_sp (n := n + 1) hS 5 fst8 (due FF8) ?_
    simp
    exact .mk ⟨⟨rfl⟩, rfl⟩
  rintro _ _ ⟨⟨rfl⟩, rfl⟩
  simp [-s_for, -s_ite]
  refine repr_sp (k := 5) (by omega) fst8 (.inl ⟨_, rfl⟩) rp.1 rp.2 ?_
  simp [-s_for, -s_ite, pl41]
  have g10 := F8.get0 g7
  have g11 := F8.get0 g8
  refine spoil_sp g10 (by simp; omega) fun h9 ys1 y1 ly1 F9 => ?_
  simp [-s_for, -s_ite, pl41]
  have g12 : ∃ xs, h9.get rt2 = some (.lst xs) ∧ xs.length < 100000 := by
    by_cases e : rt2 = rw2
    · rw [e]
      exact ⟨ys1, y1, by simp at ly1; omega⟩
    · exact ⟨_, F9.get g11 (by simpa using e), by simp; omega⟩
  obtain ⟨xs2, g12, lx2⟩ := g12
  refine spoil_sp g12 (by omega) fun h10 ys2 y2 ly2 F10 => ?_
  have FF10 := (FF8.trans2 F9 (by simp; omega)).trans2 F10 (by simp; omega)
  have LO10 := (LO8.fr F9 (by simp; omega)).fr F10 (by simp; omega)
  have l3 := M8.l0
  have g13 := F10.get (F9.get g9 (by simp; omega)) (by simp; omega)
  have o10 : ∀ x ∈ as, An.bad h10 h7.n r3 1000000 x := fun x hx => ((o9 x hx).bad.fr F9 (by simp; omega)).fr F10 (by simp; omega)
  simp only [s_cons]
  refine cut2 (fun τ h' => Bx (∃ t, Tq τ [some (.frl ns), some (.ref r1), some (.ref h2.n), some (.ref rw2), some (.ref rt2), some (.ref c0), some (.ref ad), some (.ref r3), some (.str (D.lst DD).py.shown), t, none, some (.int s), some (.ref rw), some (.ref rt)] ∧ LineO h' ad s ws1 bs1 rh r1' r2' ∧ Fr [] h2 h')) ?_ ?_
  · simp [g13]
    refine for_rule An.av as (fun d _ τ h' => Bx (∃ t, Tq τ [some (.frl ns), some (.ref r1), some (.ref h2.n), some (.ref rw2), some (.ref rt2), some (.ref c0), some (.ref ad), some (.ref r3), some (.str (D.lst DD).py.shown), t, none, some (.int s), some (.ref rw), some (.ref rt)] ∧ LineO h' ad s ws1 bs1 rh r1' r2' ∧ Fr [] h2 h' ∧ h'.get r3 = some (.lst (as.map An.av)) ∧ ∀ x ∈ as, An.bad h' h7.n r3 (1000000 + d.length) x)) (.mk ⟨_, ⟨rfl⟩, LO10, FF10, g13, o10⟩) ?_ ?_
    · rintro d x r τ h11 e ⟨t, ⟨rfl⟩, LO11, FF11, g14, o11⟩
      have hx : x ∈ as := by rw [← e]; simp
      have hl := congrArg List.length e
      simp at hl
      have ox := o11 x hx
      refine ⟨by simpa using g14, ?_⟩
      have fin : ∀ (rr : Nat) h12 (ys : List AV), h7.n ≤ rr → rr ≠ r3 → h12.get rr = some (.lst ys) → ys.length ≤ 1000000 + d.length + 1 → Fr [rr] h11 h12 → LineO h12 ad s ws1 bs1 rh r1' r2' ∧ Fr [] h2 h12 ∧ h12.get r3 = some (.lst (as.map An.av)) ∧ ∀ x ∈ as, An.bad h12 h7.n r3 (1000000 + (d.length + 1)) x := fun rr h12 ys a b g hy F =>
        ⟨LO11.fr F (by simp; omega), FF11.trans2 F (by simp; omega), F.get g14 (by simp; omega), fun x hx => (o11 x hx).step F g hy⟩
      have stay : ∀ x ∈ as, An.bad h11 h7.n r3 (1000000 + (d.length + 1)) x := fun x hx => (o11 x hx).up
      cases x with
      | one v dd =>
        have ox : flatV v := ox
        rcases ox with ⟨i, rfl⟩ | ⟨a, b, c, rfl⟩
        · simp [b43_1, An.av, isK, rdL_tup, rdL_int]
          exact .mk ⟨_, ⟨rfl⟩, LO11, FF11, g14, by simpa using stay⟩
        · simp [b43_1, An.av, isK, rdL_tup, rdL_int]
          exact .mk ⟨_, ⟨rfl⟩, LO11, FF11, g14, by simpa using stay⟩
      | lst rr xs ds =>
        obtain ⟨a, b, zs, gz, lz⟩ := ox
        simp [b43_1, An.av, isK, rdL_tup, rdL_int, gz, pl41]
        refine spoil_sp gz (by omega) fun h12 ys y1 ly F => ?_
        obtain ⟨p1, p2, p3, p4⟩ := fin rr h12 ys a b y1 (by omega) F
        simp [y1, isK, rdL_tup, rdL_int]
        exact .mk ⟨_, ⟨rfl⟩, p1, p2, p3, by simpa using p4⟩
      | tl rr xs ds =>
        obtain ⟨a, b, zs, gz, lz⟩ := ox
        simp [b43_1, An.av, isK, rdL_tup, rdL_int, gz, pl41]
        refine spoil_sp gz (by omega) fun h12 ys y1 ly F => ?_
        obtain ⟨p1, p2, p3, p4⟩ := fin rr h12 ys a b y1 (by omega) F
        simp
        exact .mk ⟨_, ⟨rfl⟩, p1, p2, p3, by simpa using p4⟩
    · rintro τ h11 ⟨t, ⟨rfl⟩, LO11, FF11, g14, o11⟩
      refine ⟨by simpa using g14, ?_⟩
      simp
      exact .mk ⟨t, ⟨rfl⟩, LO11, FF11⟩
  rintro _ h11 ⟨t, ⟨rfl⟩, LO11, FF11⟩
  simp [-w_o2, pl38]
  refine ans_sp (n := n + 4) LO11 L.s1 L.s6 (by omega) (by omega) fun r4 h12 M12 => ?_
  rw [all_perm dw pm4 db pm5, hD] at M12
  obtain ⟨as2, g15, e15, el15, o15⟩ := M12.get Fr.refl
  have snd : dn 5 h12 (.ref r4) = some (.lst DD) := by
    rw [← e15]
    exact an_dn g15 (by omega) o15
  have FF12 := FF11.trans M12.fr
  simp
  refine repr_sp (k := 5) (by omega) snd (.inl ⟨_, rfl⟩) rp.1 rp.2 ?_
  simp [pl19]
  refine same_sp (n := n + 1) hS 5 snd (due FF12) ?_
  exact k _
theorem ans : ∀ ns : List Int, ∃ h, Gam B 14 43 [.frl ns] AH.nil = .ok (.bl true) h := fun ns => by
  have := law_sp (n := 5) (Q := fun v _ => v = .bl true) (X := noX) (ns := ns) (h := AH.nil) fun _ => rfl
  revert this
  cases Gam B (5 + 9) 43 [.frl ns] AH.nil with
  | ok v h => exact fun z => ⟨h, by rw [show v = .bl true from z]⟩
  | exc c fs h => exact fun z => z.elim
  | bad => exact fun z => z.elim
end
end Tk01
set_option Elab.async false
open PySem PySem.W PyProof.Rows
set_option maxRecDepth 100000 in
set_option maxHeartbeats 0 in
theorem PySem.Challenge.cw_surerails_k01_line_keeps_wires_holds : PySem.Challenge.rw_surerails_k01_line_keeps_wires.Holds := by
  w_on; o_law; k_head; (case hw => w_witness2)
  k_fill
  refine Mi.walk (l := PySem.Challenge.rw_surerails_k01_line_keeps_wires) 14 rfl rfl ⟨rfl, by decide, by decide⟩ (fun w h Y => PySem.W.kIn_of Y) ?F
  case F =>
    intro w mg fa h KX G hmg
    refine' Tk01.all_mk KX G hmg ?aC0 ?aC1 ?aC2 ?aC3 ?aC4 ?aC5 ?aC6 ?a1 ?l1 ?c1_ ?e1 ?a2 ?l2 ?c2_ ?e2 ?a3 ?l3 ?c3_ ?e3 ?a4 ?l4 ?c4_ ?e4 ?a5 ?g5 ?l5 ?kq5_0 ?kl5_0 ?c5_ ?e5 ?a6 ?g6 ?l6 ?c6_ ?e6 ?a7 ?g7 ?l7 ?c7_ ?e7 ?a8 ?g8 ?l8 ?c8_ ?e8 ?a33 ?g33 ?l33 ?c33_ ?e33 ?a34 ?g34 ?l34 ?c34_ ?e34 ?a11 ?l11 ?c11_ ?e11 ?a12 ?l12 ?c12_ ?e12 ?a13 ?l13 ?c13_ ?e13 ?a14 ?l14 ?c14_ ?e14 ?a15 ?l15 ?c15_ ?e15 ?a16 ?l16 ?c16_ ?e16 ?a17 ?l17 ?c17_ ?e17 ?a18 ?l18 ?c18_ ?e18 ?a19 ?l19 ?c19_ ?e19 ?a20 ?l20 ?c20_ ?e20 ?a21 ?l21 ?c21_ ?e21 ?a22 ?l22 ?c22_ ?e22 ?a23 ?l23 ?c23_ ?e23 ?a35 ?l35 ?c35_ ?e35 ?a36 ?l36 ?c36_ ?e36 ?a37 ?l37 ?c37_ ?e37 ?a38 ?l38 ?c38_ ?e38 ?a39 ?l39 ?c39_ ?e39 ?a40 ?l40 ?c40_ ?e40 ?a41 ?l41 ?c41_ ?e41 ?a42 ?l42 ?c42_ ?e42 ?a43 ?l43 ?c43_ ?e43 ?xL1 ?xr1 ?xA1 ?xB1 ?xT1 ?xK1 ?xI1 ?xY1 ?xF1 ?xC1 ?xG1 ?xD1 ?xE1 ?xH1 ?xM1 ?xN1 ?xS1 ?xV1 ?xU1 ?xZ1_8 ?xL2 ?xr2 ?xA2 ?xB2 ?xT2 ?xK2 ?xI2 ?xY2 ?xF2 ?xC2 ?xG2 ?xD2 ?xE2 ?xH2 ?xM2 ?xN2 ?xS2 ?xV2 ?xU2 ?xZ2_13 ?xL3 ?xr3 ?xA3 ?xB3 ?xT3 ?xK3 ?xI3 ?xY3 ?xF3 ?xC3 ?xG3 ?xD3 ?xE3 ?xH3 ?xM3 ?xN3 ?xS3 ?xV3 ?xU3 ?xZ3_12 ?xZ3_11 ?xL4 ?xr4 ?xA4 ?xB4 ?xT4 ?xK4 ?xI4 ?xY4 ?xF4 ?xC4 ?xG4 ?xD4 ?xE4 ?xH4 ?xM4 ?xN4 ?xS4 ?xV4 ?xU4 ?xZ4_10 ?xZ4_9 ?xL5 ?xr5 ?xA5 ?xB5 ?xT5 ?xK5 ?xI5 ?xY5 ?xF5 ?xC5 ?xG5 ?xD5 ?xE5 ?xH5 ?xM5 ?xN5 ?xS5 ?xV5 ?xU5 ?xZ5_12 ?xZ5_11 ?zs ?zo ?mk6 ?mc6 ?mq6 ?wb 14 Tk01.ans
    (case aC0 => k_is)
    (case aC1 => k_is)
    (case aC2 => k_is)
    (case aC3 => k_is)
    (case aC4 => k_is)
    (case aC5 => k_is)
    (case aC6 => k_is)
    (case a1 => k_is)
    (case l1 => k_is)
    (case c1_ => k_is)
    (case e1 => k_is)
    (case a2 => k_is)
    (case l2 => k_is)
    (case c2_ => k_is)
    (case e2 => k_is)
    (case a3 => k_is)
    (case l3 => k_is)
    (case c3_ => k_is)
    (case e3 => k_is)
    (case a4 => k_is)
    (case l4 => k_is)
    (case c4_ => k_is)
    (case e4 => k_is)
    (case a5 => k_is)
    (case g5 => k_is)
    (case l5 => k_is)
    (case kq5_0 => k_is)
    (case kl5_0 => k_is)
    (case c5_ => k_is)
    (case e5 => k_is)
    (case a6 => k_is)
    (case g6 => k_is)
    (case l6 => k_is)
    (case c6_ => k_is)
    (case e6 => k_is)
    (case a7 => k_is)
    (case g7 => k_is)
    (case l7 => k_is)
    (case c7_ => k_is)
    (case e7 => k_is)
    (case a8 => k_is)
    (case g8 => k_is)
    (case l8 => k_is)
    (case c8_ => k_is)
    (case e8 => k_is)
    (case a33 => k_is)
    (case g33 => k_is)
    (case l33 => k_is)
    (case c33_ => k_is)
    (case e33 => k_is)
    (case a34 => k_is)
    (case g34 => k_is)
    (case l34 => k_is)
    (case c34_ => k_is)
    (case e34 => k_is)
    (case a11 => k_is)
    (case l11 => k_is)
    (case c11_ => k_is)
    (case e11 => k_is)
    (case a12 => k_is)
    (case l12 => k_is)
    (case c12_ => k_is)
    (case e12 => k_is)
    (case a13 => k_is)
    (case l13 => k_is)
    (case c13_ => k_is)
    (case e13 => k_is)
    (case a14 => k_is)
    (case l14 => k_is)
    (case c14_ => k_is)
    (case e14 => k_is)
    (case a15 => k_is)
    (case l15 => k_is)
    (case c15_ => k_is)
    (case e15 => k_is)
    (case a16 => k_is)
    (case l16 => k_is)
    (case c16_ => k_is)
    (case e16 => k_is)
    (case a17 => k_is)
    (case l17 => k_is)
    (case c17_ => k_is)
    (case e17 => k_is)
    (case a18 => k_is)
    (case l18 => k_is)
    (case c18_ => k_is)
    (case e18 => k_is)
    (case a19 => k_is)
    (case l19 => k_is)
    (case c19_ => k_is)
    (case e19 => k_is)
    (case a20 => k_is)
    (case l20 => k_is)
    (case c20_ => k_is)
    (case e20 => k_is)
    (case a21 => k_is)
    (case l21 => k_is)
    (case c21_ => k_is)
    (case e21 => k_is)
    (case a22 => k_is)
    (case l22 => k_is)
    (case c22_ => k_is)
    (case e22 => k_is)
    (case a23 => k_is)
    (case l23 => k_is)
    (case c23_ => k_is)
    (case e23 => k_is)
    (case a35 => k_is)
    (case l35 => k_is)
    (case c35_ => k_is)
    (case e35 => k_is)
    (case a36 => k_is)
    (case l36 => k_is)
    (case c36_ => k_is)
    (case e36 => k_is)
    (case a37 => k_is)
    (case l37 => k_is)
    (case c37_ => k_is)
    (case e37 => k_is)
    (case a38 => k_is)
    (case l38 => k_is)
    (case c38_ => k_is)
    (case e38 => k_is)
    (case a39 => k_is)
    (case l39 => k_is)
    (case c39_ => k_is)
    (case e39 => k_is)
    (case a40 => k_is)
    (case l40 => k_is)
    (case c40_ => k_is)
    (case e40 => k_is)
    (case a41 => k_is)
    (case l41 => k_is)
    (case c41_ => k_is)
    (case e41 => k_is)
    (case a42 => k_is)
    (case l42 => k_is)
    (case c42_ => k_is)
    (case e42 => k_is)
    (case a43 => k_is)
    (case l43 => k_is)
    (case c43_ => k_is)
    (case e43 => k_is)
    (case xL1 => k_is)
    (case xr1 => rfl)
    (case xA1 => k_is)
    (case xB1 => k_is)
    (case xT1 => k_is)
    (case xK1 => k_is)
    (case xI1 => k_is)
    (case xY1 => k_is)
    (case xF1 => k_is)
    (case xC1 => k_is)
    (case xG1 => k_is)
    (case xD1 => rfl)
    (case xE1 => rfl)
    (case xH1 => decide +kernel)
    (case xM1 => k_is)
    (case xN1 => rfl)
    (case xS1 => kernel_rfl)
    (case xV1 => k_is)
    (case xU1 => k_is)
    (case xZ1_8 => k_is)
    (case xL2 => k_is)
    (case xr2 => rfl)
    (case xA2 => k_is)
    (case xB2 => k_is)
    (case xT2 => k_is)
    (case xK2 => k_is)
    (case xI2 => k_is)
    (case xY2 => k_is)
    (case xF2 => k_is)
    (case xC2 => k_is)
    (case xG2 => k_is)
    (case xD2 => rfl)
    (case xE2 => rfl)
    (case xH2 => decide +kernel)
    (case xM2 => k_is)
    (case xN2 => rfl)
    (case xS2 => kernel_rfl)
    (case xV2 => k_is)
    (case xU2 => k_is)
    (case xZ2_13 => k_is)
    (case xL3 => k_is)
    (case xr3 => rfl)
    (case xA3 => k_is)
    (case xB3 => k_is)
    (case xT3 => k_is)
    (case xK3 => k_is)
    (case xI3 => k_is)
    (case xY3 => k_is)
    (case xF3 => k_is)
    (case xC3 => k_is)
    (case xG3 => k_is)
    (case xD3 => rfl)
    (case xE3 => rfl)
    (case xH3 => decide +kernel)
    (case xM3 => k_is)
    (case xN3 => rfl)
    (case xS3 => kernel_rfl)
    (case xV3 => k_is)
    (case xU3 => k_is)
    (case xZ3_12 => k_is)
    (case xZ3_11 => k_is)
    (case xL4 => k_is)
    (case xr4 => rfl)
    (case xA4 => k_is)
    (case xB4 => k_is)
    (case xT4 => k_is)
    (case xK4 => k_is)
    (case xI4 => k_is)
    (case xY4 => k_is)
    (case xF4 => k_is)
    (case xC4 => k_is)
    (case xG4 => k_is)
    (case xD4 => rfl)
    (case xE4 => rfl)
    (case xH4 => decide +kernel)
    (case xM4 => k_is)
    (case xN4 => rfl)
    (case xS4 => kernel_rfl)
    (case xV4 => k_is)
    (case xU4 => k_is)
    (case xZ4_10 => k_is)
    (case xZ4_9 => k_is)
    (case xL5 => k_is)
    (case xr5 => rfl)
    (case xA5 => k_is)
    (case xB5 => k_is)
    (case xT5 => k_is)
    (case xK5 => k_is)
    (case xI5 => k_is)
    (case xY5 => k_is)
    (case xF5 => k_is)
    (case xC5 => k_is)
    (case xG5 => k_is)
    (case xD5 => rfl)
    (case xE5 => rfl)
    (case xH5 => decide +kernel)
    (case xM5 => k_is)
    (case xN5 => rfl)
    (case xS5 => kernel_rfl)
    (case xV5 => k_is)
    (case xU5 => k_is)
    (case xZ5_12 => k_is)
    (case xZ5_11 => k_is)
    (case zs => k_is)
    (case zo => k_is)
    (case mk6 => k_is)
    (case mc6 => kernel_rfl)
    (case mq6 => k_is)
    (case wb => kernel_rfl)
