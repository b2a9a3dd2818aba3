import PyProof.Rows.All
import KE.DatumOrd
import KE.DataEq
import KE.SortData
import HandS.ForMost
import HandS.Exc
import HandS.TryMany
import HandS.Deep
import HandS.WordsExc
import HandS.ExcInit
import HandS.TupAny
import HandS.Zip
import HandS.Style
import KE.KDictKeyed
import HandS.IsInst
import HandS.Codes
import HandS.ExcField
import HandS.TryOnly
import HandS.CallLocal
import HandS.ExcOwn
import HandS.More
import HandS.Conv
import HandS.SetFor
import HandS.Comp
import HandS.Defaults
import KE.KStateDown
import HandS.Ends
import HandS.Head0
import HandS.Head1
import HandS.Head2
import HandS.HeadEnd
import HandS.HeadHook1
import HandS.HeadHook2
import HandS.HeadHook3
import HandS.HeadHook4
import PySem.Challenge.RW_twowaytexts_k64_merges_by_signs
section
set_option linter.all false
set_option autoImplicit false
set_option maxRecDepth 100000
/-! T2: a small language over plain values, with an abstract heap: values W, objects O, code E, S; what code does (ev, ex). -/
namespace T2
open PySem

/-- values: tuples, and lists that nobody changes any more, are plain; scr: a list that is but read (the script); ref: an object of the abstract heap; fn: a def of the table -/
inductive W where
  | non | bl (b : Bool) | int (i : Int) | str (x : List Nat)
  | tup (xs : List W) | lst (xs : List W) | scr (xs : List W) | ref (i : Nat) | fn (k : Nat)

/-- what may change -/
inductive O where
  | lst (xs : List W)
  | dct (kvs : List (W × W))

mutual
def W.beq : W → W → Bool
  | .non, .non => true
  | .bl a, .bl b => a == b
  | .int a, .int b => a == b
  | .str a, .str b => a == b
  | .tup a, .tup b => W.beqs a b
  | .lst a, .lst b => W.beqs a b
  | .scr a, .scr b => W.beqs a b
  | .ref a, .ref b => a == b
  | .fn a, .fn b => a == b
  | _, _ => false
def W.beqs : List W → List W → Bool
  | [], [] => true
  | x :: xs, y :: ys => W.beq x y && W.beqs xs ys
  | _, _ => false
end
mutual
theorem W.beq_iff : ∀ a b : W, W.beq a b = true ↔ a = b
  | .non, b => by cases b <;> simp [W.beq]
  | .bl a, b => by cases b <;> simp [W.beq]
  | .int a, b => by cases b <;> simp [W.beq]
  | .str a, b => by cases b <;> simp [W.beq]
  | .tup a, b => by
    cases b with
    | tup b => simp [W.beq, W.beqs_iff a b]
    | _ => simp [W.beq]
  | .lst a, b => by
    cases b with
    | lst b => simp [W.beq, W.beqs_iff a b]
    | _ => simp [W.beq]
  | .scr a, b => by
    cases b with
    | scr b => simp [W.beq, W.beqs_iff a b]
    | _ => simp [W.beq]
  | .ref a, b => by cases b <;> simp [W.beq]
  | .fn a, b => by cases b <;> simp [W.beq]
theorem W.beqs_iff : ∀ a b : List W, W.beqs a b = true ↔ a = b
  | [], b => by cases b <;> simp [W.beqs]
  | x :: xs, b => by
    cases b with
    | nil => simp [W.beqs]
    | cons y ys => simp [W.beqs, W.beq_iff x y, W.beqs_iff xs ys]
end
instance : DecidableEq W := fun a b => decidable_of_iff _ (W.beq_iff a b)
instance : Inhabited W := ⟨.non⟩

/-! ### values as data -/
mutual
/-- as the library's data; refs and defs are none -/
def W.d : W → PyData
  | .non => .none
  | .bl b => .bool b
  | .int i => .int i
  | .str x => .str ⟨x.toArray⟩
  | .tup xs => .tuple (W.ds xs)
  | .lst xs => .list (W.ds xs)
  | .scr _ => .dict []
  | .ref _ => .dict []
  | .fn _ => .dict []
def W.ds : List W → List PyData
  | [] => []
  | x :: xs => W.d x :: W.ds xs
end
theorem W.ds_map (xs : List W) : W.ds xs = xs.map W.d := by
  induction xs with
  | nil => rfl
  | cons x xs ih => rw [W.ds, ih, List.map_cons]
mutual
/-- no ref and no def within -/
def W.pl : W → Bool
  | .non | .bl _ | .int _ | .str _ => true
  | .tup xs | .lst xs => W.pls xs
  | .scr _ | .ref _ | .fn _ => false
def W.pls : List W → Bool
  | [] => true
  | x :: xs => W.pl x && W.pls xs
end
theorem W.pls_all (xs : List W) : W.pls xs = xs.all W.pl := by
  induction xs with
  | nil => rfl
  | cons x xs ih => rw [W.pls, ih, List.all_cons]
mutual
/-- no ref within (defs may be) -/
def W.nr : W → Bool
  | .non | .bl _ | .int _ | .str _ | .fn _ => true
  | .tup xs | .lst xs | .scr xs => W.nrs xs
  | .ref _ => false
def W.nrs : List W → Bool
  | [] => true
  | x :: xs => W.nr x && W.nrs xs
end
theorem W.nrs_all (xs : List W) : W.nrs xs = xs.all W.nr := by
  induction xs with
  | nil => rfl
  | cons x xs ih => rw [W.nrs, ih, List.all_cons]
mutual
def W.dep : W → Nat
  | .tup xs | .lst xs => W.deps xs + 1
  | _ => 0
def W.deps : List W → Nat
  | [] => 0
  | x :: xs => max (W.dep x) (W.deps xs)
end
mutual
/-- Python's == of plain values -/
def W.eq : W → W → Bool
  | .non, .non => true
  | .bl a, .bl b => a == b
  | .bl a, .int j => (if a then 1 else 0) == j
  | .int i, .bl b => i == (if b then 1 else 0)
  | .int i, .int j => i == j
  | .str x, .str y => x == y
  | .lst xs, .lst ys => W.eqs xs ys
  | .tup xs, .tup ys => W.eqs xs ys
  | _, _ => false
def W.eqs : List W → List W → Bool
  | [], [] => true
  | x :: xs, y :: ys => W.eq x y && W.eqs xs ys
  | _, _ => false
end
/-- Python's < of alike data -/
def W.lt (a b : W) : Bool := PySem.W.dataLt a.d b.d
def W.alike (a b : W) : Bool := PySem.W.alike a.d b.d

/-! ### results -/
inductive Res (α : Type) where
  | ok (a : α) (G : List O)
  | exc (c : Nat) (fs : List W) (G : List O)
  | stuck
def bnd {α β : Type} (r : Res α) (f : α → List O → Res β) : Res β :=
  match r with
  | .ok a G => f a G
  | .exc c fs G => .exc c fs G
  | .stuck => .stuck
@[simp] theorem bnd_ok {α β : Type} (a : α) (G : List O) (f : α → List O → Res β) : bnd (.ok a G) f = f a G := rfl
@[simp] theorem bnd_exc {α β : Type} (c : Nat) (fs : List W) (G : List O) (f : α → List O → Res β) : bnd (.exc c fs G) f = .exc c fs G := rfl
@[simp] theorem bnd_stuck {α β : Type} (f : α → List O → Res β) : bnd .stuck f = .stuck := rfl

/-- an error there is not served -/
def noX {α : Type} : Res α → Res α
  | .ok a G => .ok a G
  | _ => .stuck
@[simp] theorem noX_ok {α : Type} (a : α) (G : List O) : noX (.ok a G) = .ok a G := rfl
@[simp] theorem noX_exc {α : Type} (c : Nat) (fs : List W) (G : List O) : noX (.exc c fs G : Res α) = .stuck := rfl
@[simp] theorem noX_stuck {α : Type} : noX (.stuck : Res α) = .stuck := rfl
theorem noX_bnd {α β : Type} (r : Res α) (f : α → List O → Res β) : noX (bnd r f) = bnd (noX r) (fun a G => noX (f a G)) := by cases r <;> rfl
abbrev Sl := List (Option W)
/-- how a block ends -/
inductive Fl where
  | nx (sw : Sl) | rt (w : W) | bk (sw : Sl) | ct (sw : Sl)

/-! ### code -/
inductive BOp where
  | add | addI | sub | mul | fdiv | mod | pow | cat (m : Bool) | rep (m : Bool)
  deriving DecidableEq
inductive COp where
  | eq | ne | lt | le | gt | ge | isin | notin
  deriving DecidableEq
/-- kinds that isinstance asks -/
inductive Kd where
  | int | bool | str | tuple | list
  deriving DecidableEq
inductive Blt where
  | len | int | abs | min1 | max1 | min2 | max2 | sum | any | all | tuple | list (m : Bool) | sorted (m : Bool)
  deriving DecidableEq
inductive Bm where
  | append | extend | pop | popAt | join | count
  deriving DecidableEq
/-- how a def of the text is called: over the heap as it is; alone (its arguments are plain, what it made is read off); alone, and what it hands back is a new list of ours -/
inductive Cm where
  | shared | iso | new
  deriving DecidableEq
mutual
inductive E where
  | k (w : W) | v (i : Nat) | gf (k : Nat) | gk (k : Nat)
  | bin (o : BOp) (a b : E) | neg (a : E) | not (a : E)
  | cmp (o : COp) (a b : E) | isk (ng : Bool) (w : W) (a : E) | chn (o1 o2 : COp) (a b c : E)
  | and (a b : E) | or (a b : E) | ife (t a b : E)
  | tup (es : Es) | lst (m : Bool) (es : Es) | dct0
  | idx (a b : E) | slc (m : Bool) (a : E) (lo hi : Op)
  | call (m : Cm) (k : Nat) (es : Es) | cv (m : Cm) (i mx : Nat) (es : Es) | blt (b : Blt) (es : Es) | bm (b : Bm) (o : E) (es : Es)
  | isi (a : E) (ks : List Kd)
  | lc (m : Bool) (own : List Nat) (t : T) (it : It) (cd : Op) (e : E)
  | rev (m : Bool) (a : E) | srtd (m : Bool) (a : E) | lrg (m : Bool) (a : E)
inductive Es where
  | nil | cons (e : E) (es : Es)
inductive Op where
  | no | yes (e : E)
inductive It where
  | seq (e : E) | rng1 (a : E) | rng2 (a b : E) | rng3 (a b c : E) | enum (e : E) | zip (a b : E)
inductive T where
  | nm (i : Nat) | tp (ts : Ts) | sub (o i : E)
inductive Ts where
  | nil | cons (t : T) (ts : Ts)
end
/-- an except suite: it hands back a constant, or the caught error's field, or goes on with the loop -/
inductive Hf where
  | retk (w : W) | retf (f : Nat) | cont
mutual
inductive S where
  | asg (t : T) (e : E) | aug (i : Nat) (o : BOp) (e : E) | exp (e : E) | ret (e : E) | ret0
  | ife (t : E) (a b : B) | whl (t : E) (b : B) | frr (t : T) (it : It) (b : B)
  | raise (c : Nat) (es : Es) | tri (b : B) (hs : List (Nat × Hf)) | pass | brk | cnt
inductive B where
  | nil | cons (s : S) (b : B)
end

/-! ### operations -/
/-- lists, strings and tuples are no longer than the model's line -/
def szOk (n : Nat) : Bool := decide (n ≤ 16777216)
def mkL (m : Bool) (ws : List W) (G : List O) : Res W :=
  if szOk ws.length then (if m then .ok (.ref G.length) (G ++ [.lst ws]) else .ok (.lst ws) G) else .stuck
/-- the items of a list that is ours to join -/
def getM (w : W) (G : List O) : Option (List W) :=
  match w with
  | .lst ws => some ws
  | .ref i => match G[i]? with
    | some (.lst ws) => some ws
    | _ => none
  | _ => none
/-- the items of a list -/
def getL (w : W) (G : List O) : Option (List W) :=
  match w with
  | .lst ws => some ws
  | .scr ws => some ws
  | .ref i => match G[i]? with
    | some (.lst ws) => some ws
    | _ => none
  | _ => none
/-- a list of the heap is read as it stands -/
def look (w : W) (G : List O) : W :=
  match w with
  | .scr ws => .lst ws
  | .ref i => match G[i]? with
    | some (.lst ws) => .lst ws
    | _ => w
  | _ => w
def mulOk (i j : Int) : Bool := decide (i.natAbs < 18446744073709551616) || decide (j.natAbs < 18446744073709551616)
def divOk (j : Int) : Bool := decide (j ≠ 0) && decide (j.natAbs < 1073741824)
def powOk (i j : Int) : Bool := decide (0 ≤ j) && decide (j.toNat ≤ 1000000) && decide (i.natAbs < 18446744073709551616)

def binW (o : BOp) (x y : W) (G : List O) : Res W :=
  match o with
  | .add => match x, y with
    | .int i, .int j => .ok (.int (i + j)) G
    | .str a, .str b => if szOk (a.length + b.length) then .ok (.str (a ++ b)) G else .stuck
    | .tup a, .tup b => if szOk (a.length + b.length) then .ok (.tup (a ++ b)) G else .stuck
    | _, _ => .stuck
  | .addI => match x, y with
    | .int i, .int j => .ok (.int (i + j)) G
    | .str a, .str b => if szOk (a.length + b.length) then .ok (.str (a ++ b)) G else .stuck
    | _, _ => .stuck
  | .sub => match x, y with
    | .int i, .int j => .ok (.int (i - j)) G
    | _, _ => .stuck
  | .mul => match x, y with
    | .int i, .int j => if mulOk i j then .ok (.int (i * j)) G else .stuck
    | _, _ => .stuck
  | .fdiv => match x, y with
    | .int i, .int j => if divOk j then .ok (.int (i.fdiv j)) G else .stuck
    | _, _ => .stuck
  | .mod => match x, y with
    | .int i, .int j => if decide (j ≠ 0) then .ok (.int (i.fmod j)) G else .stuck
    | _, _ => .stuck
  | .pow => match x, y with
    | .int i, .int j => if powOk i j then .ok (.int (i ^ j.toNat)) G else .stuck
    | _, _ => .stuck
  | .cat m => match getM x G, getM y G with
    | some a, some b => mkL m (a ++ b) G
    | _, _ => .stuck
  | .rep m => match getM x G, y with
    | some a, .int k => if decide (0 ≤ k) && decide (k.toNat ≤ 16777216) then mkL m (List.replicate k.toNat a).flatten G else .stuck
    | _, _ => match x, y with
      | .str a, .int k => if decide (0 ≤ k) && decide (k.toNat ≤ 16777216) && szOk (a.length * k.toNat) then .ok (.str (List.replicate k.toNat a).flatten) G else .stuck
      | _, _ => .stuck

/-- as look, for a comparison -/
def lookC (w : W) (G : List O) : W :=
  match w with
  | .ref i => match G[i]? with
    | some (.lst ws) => .lst ws
    | _ => w
  | _ => w
def cmpW (o : COp) (x y : W) (G : List O) : Res W :=
  let x := lookC x G
  let y := lookC y G
  match o with
  | .eq => if x.pl && y.pl && decide (min x.dep y.dep ≤ 100) then .ok (.bl (W.eq x y)) G else .stuck
  | .ne => if x.pl && y.pl && decide (min x.dep y.dep ≤ 100) then .ok (.bl (!W.eq x y)) G else .stuck
  | .lt => if x.pl && y.pl && decide (min x.dep y.dep ≤ 100) && W.alike x y && decide (x ≠ .non) then .ok (.bl (W.lt x y)) G else .stuck
  | .gt => if x.pl && y.pl && decide (min x.dep y.dep ≤ 100) && W.alike x y && decide (x ≠ .non) then .ok (.bl (W.lt y x)) G else .stuck
  | .le => if x.pl && y.pl && decide (min x.dep y.dep ≤ 100) && W.alike x y && decide (x ≠ .non) then .ok (.bl (!W.lt y x)) G else .stuck
  | .ge => if x.pl && y.pl && decide (min x.dep y.dep ≤ 100) && W.alike x y && decide (x ≠ .non) then .ok (.bl (!W.lt x y)) G else .stuck
  | .isin => match y with
    | .lst ys => if x.pl && W.pls ys && decide (min (W.deps ys) x.dep ≤ 100) then .ok (.bl (ys.any fun z => W.eq z x)) G else .stuck
    | .tup ys => if x.pl && W.pls ys && decide (min (W.deps ys) x.dep ≤ 100) then .ok (.bl (ys.any fun z => W.eq z x)) G else .stuck
    | .str ys => match x with
      | .str [c] => .ok (.bl (decide (c ∈ ys))) G
      | _ => .stuck
    | _ => .stuck
  | .notin => match y with
    | .lst ys => if x.pl && W.pls ys && decide (min (W.deps ys) x.dep ≤ 100) then .ok (.bl (!ys.any fun z => W.eq z x)) G else .stuck
    | .tup ys => if x.pl && W.pls ys && decide (min (W.deps ys) x.dep ≤ 100) then .ok (.bl (!ys.any fun z => W.eq z x)) G else .stuck
    | .str ys => match x with
      | .str [c] => .ok (.bl (!decide (c ∈ ys))) G
      | _ => .stuck
    | _ => .stuck

/-- xs[i], i of any sign -/
def atW {α : Type} (xs : List α) (i : Int) : Option α :=
  if 0 ≤ i then xs[i.toNat]? else if -(xs.length : Int) ≤ i then xs[(i + xs.length).toNat]? else none
def dget (kvs : List (W × W)) (k : W) : Option W := (kvs.find? fun p => decide (p.1 = k)).map (·.2)
/-- a key that is served: a tuple of ints and texts -/
def keyA : W → Bool
  | .int _ | .str _ => true
  | _ => false
def keyOk : W → Bool
  | .tup xs => xs.all keyA
  | _ => false
def idxW (x y : W) (G : List O) : Res W :=
  match look x G, y with
  | .lst xs, .int i => match atW xs i with
    | some w => .ok w G
    | none => .stuck
  | .tup xs, .int i => match atW xs i with
    | some w => .ok w G
    | none => .stuck
  | .str xs, .int i => if szOk xs.length then (match atW xs i with
    | some c => .ok (.str [c]) G
    | none => .stuck) else .stuck
  | .ref r, k => match G[r]? with
    | some (.dct kvs) => if keyOk k then (match dget kvs k with
      | some w => .ok w G
      | none => .stuck) else .stuck
    | _ => .stuck
  | _, _ => .stuck
/-- a bound of a slice -/
def clip (n : Nat) (i : Int) : Nat := if i < 0 then (i + (n : Int)).toNat else min i.toNat n
def cutW {α : Type} (xs : List α) (lo hi : Option Int) : List α :=
  let a := match lo with
    | none => 0
    | some i => clip xs.length i
  let b := match hi with
    | none => xs.length
    | some i => clip xs.length i
  (xs.drop a).take (b - a)
def slcW (m : Bool) (x : W) (lo hi : Option Int) (G : List O) : Res W :=
  match look x G with
  | .lst xs => mkL m (cutW xs lo hi) G
  | .tup xs => .ok (.tup (cutW xs lo hi)) G
  | .str xs => if szOk xs.length then .ok (.str (cutW xs lo hi)) G else .stuck
  | _ => .stuck

def ints? : List W → Option (List Int)
  | [] => some []
  | .int i :: xs => (ints? xs).map (i :: ·)
  | _ => none
def bls? : List W → Option (List Bool)
  | [] => some []
  | .bl i :: xs => (bls? xs).map (i :: ·)
  | _ => none
def strs? : List W → Option (List (List Nat))
  | [] => some []
  | .str i :: xs => (strs? xs).map (i :: ·)
  | _ => none
/-- every two can be compared, place by place -/
def allAlike : List W → Bool
  | [] => true
  | x :: xs => (x :: xs).all (fun y => W.alike x y && W.alike y x) && allAlike xs
def leastW (x : W) (xs : List W) : W := xs.foldl (fun a y => if W.lt y a then y else a) x
def mostW (x : W) (xs : List W) : W := xs.foldl (fun a y => if W.lt a y then y else a) x
def isTup : W → Bool
  | .tup (_ :: _) => true
  | _ => false
def isTup0 : W → Bool
  | .tup _ => true
  | _ => false
/-- what sorted takes -/
def sortable (xs : List W) : Bool := W.pls xs && decide (W.deps xs ≤ 100) && allAlike xs && (xs.all isTup || xs.all fun x => decide (x ≠ .non) && !isTup0 x)
def bltW (b : Blt) (ws : List W) (G : List O) : Res W :=
  match b, ws with
  | .len, [w] => match look w G with
    | .lst xs => .ok (.int xs.length) G
    | .tup xs => .ok (.int xs.length) G
    | .str xs => if szOk xs.length then .ok (.int xs.length) G else .stuck
    | _ => .stuck
  | .int, [w] => match w with
    | .int i => .ok (.int i) G
    | .bl b => .ok (.int (if b then 1 else 0)) G
    | _ => .stuck
  | .abs, [w] => match w with
    | .int i => .ok (.int (if i < 0 then -i else i)) G
    | _ => .stuck
  | .min1, [w] => match getL w G with
    | some (x :: xs) => if W.pls (x :: xs) && decide (W.deps (x :: xs) ≤ 100) && allAlike (x :: xs) && decide (x ≠ .non) then .ok (leastW x xs) G else .stuck
    | _ => .stuck
  | .max1, [w] => match getL w G with
    | some (x :: xs) => if W.pls (x :: xs) && decide (W.deps (x :: xs) ≤ 100) && allAlike (x :: xs) && decide (x ≠ .non) then .ok (mostW x xs) G else .stuck
    | _ => .stuck
  | .min2, [x, y] => match x, y with
    | .int i, .int j => .ok (.int (if j < i then j else i)) G
    | _, _ => .stuck
  | .max2, [x, y] => match x, y with
    | .int i, .int j => .ok (.int (if j > i then j else i)) G
    | _, _ => .stuck
  | .sum, [w] => match (getL w G).bind ints? with
    | some ns => .ok (.int ns.sum) G
    | none => .stuck
  | .any, [w] => match (getL w G).bind bls? with
    | some bs => .ok (.bl (bs.any id)) G
    | none => .stuck
  | .all, [w] => match (getL w G).bind bls? with
    | some bs => .ok (.bl (bs.all id)) G
    | none => .stuck
  | .tuple, [w] => match look w G with
    | .lst xs => .ok (.tup xs) G
    | .tup xs => .ok (.tup xs) G
    | _ => .stuck
  | .list m, [w] => match look w G with
    | .lst xs => mkL m xs G
    | .tup xs => mkL m xs G
    | _ => .stuck
  | .sorted m, [w] => match getL w G with
    | some xs => if sortable xs then mkL m (xs.mergeSort (PySem.W.dataLe false W.d)) G else .stuck
    | none => .stuck
  | _, _ => .stuck

/-- list.count of an int in a list of ints -/
def cntW (o : W) (k : Int) (G : List O) : Res W := match (getL o G).bind ints? with
  | some ns => .ok (.int (ns.count k : Nat)) G
  | none => .stuck
/-- the keys of pairs -/
def keysI : List W → Option (List Int)
  | [] => some []
  | .tup [.int i, _] :: r => (keysI r).map (i :: ·)
  | _ => none
/-- an int into ascending ones, once -/
def insU (i : Int) : List Int → List Int
  | [] => [i]
  | j :: r => if i < j then i :: j :: r else if i = j then j :: r else j :: insU i r
/-- ascending, each once -/
def sortU (ks : List Int) : List Int := ks.foldr insU []

def joinS (s : List Nat) : List (List Nat) → List Nat
  | [] => []
  | [x] => x
  | x :: y :: r => x ++ s ++ joinS s (y :: r)
def bmW (b : Bm) (o : W) (ws : List W) (G : List O) : Res W :=
  match b, o, ws with
  | .append, .ref i, [w] => match G[i]? with
    | some (.lst xs) => if decide (xs.length < 16777216) then .ok .non (G.set i (.lst (xs ++ [w]))) else .stuck
    | _ => .stuck
  | .extend, .ref i, [w] => match G[i]?, getM w G with
    | some (.lst xs), some ys => if szOk (xs.length + ys.length) then .ok .non (G.set i (.lst (xs ++ ys))) else .stuck
    | _, _ => .stuck
  | .pop, .ref i, [] => match G[i]? with
    | some (.lst xs) => match xs.getLast? with
      | some w => .ok w (G.set i (.lst xs.dropLast))
      | none => .stuck
    | _ => .stuck
  | .popAt, .ref i, [.int k] => match G[i]? with
    | some (.lst xs) => if decide (0 ≤ k) && decide (k.toNat < 4611686018427387904) then (match xs[k.toNat]? with
      | some w => .ok w (G.set i (.lst (xs.eraseIdx k.toNat)))
      | none => .stuck) else .stuck
    | _ => .stuck
  | .join, .str s, [w] => match (getL w G).bind strs? with
    | some xs => if szOk ((xs.map List.length).sum + xs.length * s.length) then .ok (.str (joinS s xs)) G else .stuck
    | none => .stuck
  | .count, o, [.int k] => cntW o k G
  | _, _, _ => .stuck

/-- the receiver, as soon as it is there -/
def rcv (b : Bm) (o : W) (G : List O) : Bool :=
  match b with
  | .join => match o with
    | .str _ => true
    | _ => false
  | .count => (getL o G).isSome
  | _ => match o with
    | .ref i => match G[i]? with
      | some (.lst _) => true
      | _ => false
    | _ => false
def isKd : W → Kd → List O → Option Bool
  | .non, _, _ => some false
  | .bl _, .bool, _ | .bl _, .int, _ => some true
  | .bl _, _, _ => some false
  | .int _, .int, _ => some true
  | .int _, _, _ => some false
  | .str _, .str, _ => some true
  | .str _, _, _ => some false
  | .tup _, .tuple, _ => some true
  | .tup _, _, _ => some false
  | .lst _, .list, _ | .scr _, .list, _ => some true
  | .lst _, _, _ | .scr _, _, _ => some false
  | .ref i, k, G => match G[i]? with
    | some (.lst _) => some (decide (k = .list))
    | _ => none
  | .fn _, _, _ => none
def isKds (w : W) (G : List O) : List Kd → Option Bool
  | [] => some false
  | k :: ks => match isKd w k G with
    | some true => some true
    | some false => isKds w G ks
    | none => none

/-- o[i] = w -/
def setW (o i w : W) (G : List O) : Res Unit :=
  match o with
  | .ref r => match G[r]? with
    | some (.lst xs) => match i with
      | .int k => if 0 ≤ k then (if k.toNat < xs.length then .ok () (G.set r (.lst (xs.set k.toNat w))) else .stuck)
        else if -(xs.length : Int) ≤ k then .ok () (G.set r (.lst (xs.set (k + xs.length).toNat w))) else .stuck
      | _ => .stuck
    | some (.dct kvs) => if keyOk i && decide (kvs.length < 16777216) then
        .ok () (G.set r (.dct (if kvs.any (fun p => decide (p.1 = i)) then kvs.map (fun p => if p.1 = i then (p.1, w) else p) else kvs ++ [(i, w)])))
      else .stuck
    | _ => .stuck
  | _ => .stuck

/-! ### what is read off behind a call alone -/
mutual
def frz (G : List O) : W → Option W
  | .ref i => match G[i]? with
    | some (.lst ws) => if W.nrs ws then some (.lst ws) else none
    | _ => none
  | .tup ws => (frzs G ws).map .tup
  | .lst ws => (frzs G ws).map .lst
  | .scr _ => none
  | w => some w
def frzs (G : List O) : List W → Option (List W)
  | [] => some []
  | w :: ws => match frz G w, frzs G ws with
    | some a, some b => some (a :: b)
    | _, _ => none
end
/-- a call of a def -/
def callW (cl : Nat → List W → List O → Res W) (m : Cm) (k : Nat) (ws : List W) (G : List O) : Res W :=
  match m with
  | .shared => cl k ws G
  | .iso => if W.nrs ws then (match cl k ws [] with
    | .ok w G1 => match frz G1 w with
      | some w' => .ok w' G
      | none => .stuck
    | .exc c fs _ => if W.nrs fs then .exc c fs G else .stuck
    | .stuck => .stuck) else .stuck
  | .new => if W.nrs ws then (match cl k ws [] with
    | .ok (.ref i) G1 => match G1[i]? with
      | some (.lst xs) => if W.nrs xs then .ok (.ref G.length) (G ++ [.lst xs]) else .stuck
      | _ => .stuck
    | .exc c fs _ => if W.nrs fs then .exc c fs G else .stuck
    | _ => .stuck) else .stuck

/-! ### loops -/
/-- an iterable that has been evaluated: its items, and whether they may still be walked -/
structure Seq where
  items : List W
  own : Option (Nat × List W)
def Seq.ok (s : Seq) (G : List O) : Bool :=
  match s.own with
  | none => true
  | some (r, ws) => match G[r]? with
    | some (.lst xs) => decide (xs = ws)
    | _ => false
def forL (asg : W → Sl → List O → Res Sl) (body : Sl → List O → Res Fl) (s : Seq) : List W → Sl → List O → Res Fl
  | [], sw, G => if s.ok G then .ok (.nx sw) G else .stuck
  | x :: xs, sw, G => if s.ok G then bnd (noX (asg x sw G)) fun sw1 G1 => bnd (body sw1 G1) fun f G2 =>
      match f with
      | .nx sw2 => forL asg body s xs sw2 G2
      | .ct sw2 => forL asg body s xs sw2 G2
      | .bk sw2 => .ok (.nx sw2) G2
      | .rt w => .ok (.rt w) G2
    else .stuck
def whlL (t : Sl → List O → Res Bool) (body : Sl → List O → Res Fl) : Nat → Sl → List O → Res Fl
  | 0, _, _ => .stuck
  | n + 1, sw, G => bnd (t sw G) fun c G1 =>
    if c then bnd (body sw G1) fun f G2 =>
      match f with
      | .nx sw2 => whlL t body n sw2 G2
      | .ct sw2 => whlL t body n sw2 G2
      | .bk sw2 => .ok (.nx sw2) G2
      | .rt w => .ok (.rt w) G2
    else .ok (.nx sw) G1
/-- a comprehension's turns; an error within is not served -/
def lcL (asg : W → List O → Res Sl) (cd : Sl → List O → Res Bool) (e : Sl → List O → Res W) (s : Seq) : List W → List W → List O → Res (List W)
  | [], acc, G => if s.ok G then .ok acc G else .stuck
  | x :: xs, acc, G => if s.ok G && szOk (acc.length + 1) then
      bnd (noX (asg x G)) fun sw1 G1 => bnd (noX (cd sw1 G1)) fun c G2 =>
        if c then bnd (noX (e sw1 G2)) fun w G3 => lcL asg cd e s xs (acc ++ [w]) G3 else lcL asg cd e s xs acc G2
    else .stuck
def wipe (sw : Sl) : List Nat → Sl
  | [] => sw
  | i :: r => (wipe sw r).set i none
def rngL (a b : Int) : List W := (List.range (b - a).toNat).map fun i => W.int (a + (i : Nat))
def small (a : Int) : Bool := decide (a.natAbs < 4611686018427387904)
/-- a, a + c, .. ahead of b -/
def rng3L (a b c : Int) : List W :=
  if 0 < c then (List.range ((b - a + c - 1) / c).toNat).map fun i => W.int (a + (i : Nat) * c)
  else (List.range ((a - b + (-c) - 1) / (-c)).toNat).map fun i => W.int (a + (i : Nat) * c)
def seqOf (w : W) (G : List O) : Res Seq :=
  match w with
  | .lst xs => .ok ⟨xs, none⟩ G
  | .scr xs => .ok ⟨xs, none⟩ G
  | .tup xs => .ok ⟨xs, none⟩ G
  | .str xs => .ok ⟨xs.map fun c => .str [c], none⟩ G
  | .ref r => match G[r]? with
    | some (.lst xs) => .ok ⟨xs, some (r, xs)⟩ G
    | _ => .stuck
  | _ => .stuck

/-! ### what code does -/
section
variable (cl : Nat → List W → List O → Res W) (gk : Nat → W) (wf : Nat)
mutual
def ev : E → Sl → List O → Res W
  | .k w, _, G => .ok w G
  | .v i, sw, G => match sw[i]? with
    | some (some w) => .ok w G
    | _ => .stuck
  | .gf k, _, G => .ok (.fn k) G
  | .gk k, _, G => .ok (gk k) G
  | .bin o a b, sw, G => bnd (ev a sw G) fun x G1 => bnd (ev b sw G1) fun y G2 => binW o x y G2
  | .neg a, sw, G => bnd (ev a sw G) fun x G1 => match x with
    | .int i => .ok (.int (-i)) G1
    | _ => .stuck
  | .not a, sw, G => bnd (evT a sw G) fun c G1 => .ok (.bl (!c)) G1
  | .cmp o a b, sw, G => bnd (ev a sw G) fun x G1 => bnd (ev b sw G1) fun y G2 => cmpW o x y G2
  | .isk ng w a, sw, G => bnd (ev a sw G) fun x G1 => match w, x with
    | .non, .fn _ => .stuck
    | .non, x => .ok (.bl (decide (x = .non) != ng)) G1
    | .bl b, .bl c => .ok (.bl (decide (c = b) != ng)) G1
    | _, _ => .stuck
  | .chn o1 o2 a b c, sw, G => bnd (ev a sw G) fun x G1 => bnd (ev b sw G1) fun y G2 => bnd (cmpW o1 x y G2) fun r G3 =>
    match r with
    | .bl true => bnd (ev c sw G3) fun z G4 => cmpW o2 y z G4
    | .bl false => .ok (.bl false) G3
    | _ => .stuck
  | .and a b, sw, G => bnd (evT a sw G) fun c G1 => if c then bnd (evT b sw G1) fun d G2 => .ok (.bl d) G2 else .ok (.bl false) G1
  | .or a b, sw, G => bnd (evT a sw G) fun c G1 => if c then .ok (.bl true) G1 else bnd (evT b sw G1) fun d G2 => .ok (.bl d) G2
  | .ife t a b, sw, G => bnd (evT t sw G) fun c G1 => if c then ev a sw G1 else ev b sw G1
  | .tup es, sw, G => bnd (evs es sw G) fun ws G1 => if szOk ws.length then .ok (.tup ws) G1 else .stuck
  | .lst m es, sw, G => bnd (evs es sw G) fun ws G1 => mkL m ws G1
  | .dct0, _, G => .ok (.ref G.length) (G ++ [.dct []])
  | .idx a b, sw, G => bnd (ev a sw G) fun x G1 => bnd (ev b sw G1) fun y G2 => idxW x y G2
  | .slc m a lo hi, sw, G => bnd (ev a sw G) fun x G1 => bnd (evO lo sw G1) fun l G2 => bnd (evO hi sw G2) fun h G3 => slcW m x l h G3
  | .call m k es, sw, G => bnd (evs es sw G) fun ws G1 => callW cl m k ws G1
  | .cv m i mx es, sw, G => match sw[i]? with
    | some (some (.fn k)) => if k < mx then bnd (evs es sw G) fun ws G1 => callW cl m k ws G1 else .stuck
    | _ => .stuck
  | .blt b es, sw, G => bnd (evs es sw G) fun ws G1 => bltW b ws G1
  | .bm b o es, sw, G => bnd (ev o sw G) fun x G1 => if rcv b x G1 then bnd (evs es sw G1) fun ws G2 => bmW b x ws G2 else .stuck
  | .isi a ks, sw, G => bnd (ev a sw G) fun x G1 => match isKds x G1 ks with
    | some r => .ok (.bl r) G1
    | none => .stuck
  | .lc m own t it cd e, sw, G => bnd (evI it sw G) fun s G1 =>
    bnd (lcL (fun x G => asgT t x (wipe sw own) G) (fun sw1 G => evC cd sw1 G) (fun sw1 G => ev e sw1 G) s s.items [] G1) fun ws G2 => mkL m ws G2
  | .rev m a, sw, G => bnd (ev a sw G) fun x G1 => match getL x G1 with
    | some ws => mkL m ws.reverse G1
    | none => .stuck
  | .srtd m a, sw, G => bnd (ev a sw G) fun x G1 => match (getL x G1).bind keysI with
    | some ks => if ks.length < 64 then mkL m ((sortU ks).map .int) G1 else .stuck
    | none => .stuck
  | .lrg m a, sw, G => bnd (ev a sw G) fun x G1 => match x with
    | .int j => if decide (0 ≤ j) && decide (j ≤ 16777216) then mkL m (rngL 0 j) G1 else .stuck
    | _ => .stuck
/-- as a test: the value is a truth value -/
def evT : E → Sl → List O → Res Bool
  | .not a, sw, G => bnd (evT a sw G) fun c G1 => .ok (!c) G1
  | .and a b, sw, G => bnd (evT a sw G) fun c G1 => if c then evT b sw G1 else .ok false G1
  | .or a b, sw, G => bnd (evT a sw G) fun c G1 => if c then .ok true G1 else evT b sw G1
  | e, sw, G => bnd (ev e sw G) fun x G1 => match x with
    | .bl c => .ok c G1
    | _ => .stuck
def evs : Es → Sl → List O → Res (List W)
  | .nil, _, G => .ok [] G
  | .cons e es, sw, G => bnd (ev e sw G) fun x G1 => bnd (evs es sw G1) fun xs G2 => .ok (x :: xs) G2
def evO : Op → Sl → List O → Res (Option Int)
  | .no, _, G => .ok none G
  | .yes e, sw, G => bnd (ev e sw G) fun x G1 => match x with
    | .int i => .ok (some i) G1
    | _ => .stuck
/-- a comprehension's if -/
def evC : Op → Sl → List O → Res Bool
  | .no, _, G => .ok true G
  | .yes e, sw, G => evT e sw G
def evI : It → Sl → List O → Res Seq
  | .seq e, sw, G => bnd (ev e sw G) fun x G1 => seqOf x G1
  | .rng1 a, sw, G => bnd (ev a sw G) fun x G1 => match x with
    | .int j => if small j then .ok ⟨rngL 0 j, none⟩ G1 else .stuck
    | _ => .stuck
  | .rng2 a b, sw, G => bnd (ev a sw G) fun x G1 => bnd (ev b sw G1) fun y G2 => match x, y with
    | .int i, .int j => if small i && small j then .ok ⟨rngL i j, none⟩ G2 else .stuck
    | _, _ => .stuck
  | .rng3 a b c, sw, G => bnd (ev a sw G) fun x G1 => bnd (ev b sw G1) fun y G2 => bnd (ev c sw G2) fun z G3 => match x, y, z with
    | .int i, .int j, .int c => if small i && small j && decide (c = -1) then .ok ⟨rng3L i j c, none⟩ G3 else .stuck
    | _, _, _ => .stuck
  | .enum e, sw, G => bnd (ev e sw G) fun x G1 => match x with
    | .lst xs => .ok ⟨xs.zipIdx.map fun p => .tup [.int (p.2 : Nat), p.1], none⟩ G1
    | .ref r => match G1[r]? with
      | some (.lst xs) => .ok ⟨xs.zipIdx.map fun p => .tup [.int (p.2 : Nat), p.1], some (r, xs)⟩ G1
      | _ => .stuck
    | _ => .stuck
  | .zip a b, sw, G => bnd (ev a sw G) fun x G1 => bnd (ev b sw G1) fun y G2 => match x, y with
    | .tup xs, .tup ys => .ok ⟨(xs.zip ys).map fun p => .tup [p.1, p.2], none⟩ G2
    | .lst xs, .lst ys => .ok ⟨(xs.zip ys).map fun p => .tup [p.1, p.2], none⟩ G2
    | _, _ => .stuck
def asgT : T → W → Sl → List O → Res Sl
  | .nm i, w, sw, G => .ok (sw.set i (some w)) G
  | .tp ts, w, sw, G => match look w G with
    | .tup ws => asgTs ts ws sw G
    | .lst ws => asgTs ts ws sw G
    | _ => .stuck
  | .sub o i, w, sw, G => bnd (ev o sw G) fun x G1 => bnd (ev i sw G1) fun y G2 => bnd (setW x y w G2) fun _ G3 => .ok sw G3
def asgTs : Ts → List W → Sl → List O → Res Sl
  | .nil, [], sw, G => .ok sw G
  | .cons t ts, w :: ws, sw, G => bnd (asgT t w sw G) fun sw1 G1 => asgTs ts ws sw1 G1
  | _, _, _, _ => .stuck
end
def plainT : E → Bool
  | .not _ | .and _ _ | .or _ _ => false
  | _ => true
theorem evT_val {e : E} (h : plainT e = true) (sw : Sl) (G : List O) : evT cl gk e sw G = bnd (ev cl gk e sw G) fun x G1 => match x with
    | .bl c => .ok c G1
    | _ => .stuck := by
  cases e <;> first | (simp [plainT] at h; done) | simp only [evT]
theorem bnd_id {α : Type} (r : Res α) : (bnd r fun d G => .ok d G) = r := by cases r <;> rfl
theorem evT_ev : ∀ (e : E) (sw : Sl) (G : List O), evT cl gk e sw G = bnd (ev cl gk e sw G) fun x G1 => match x with
    | .bl c => .ok c G1
    | _ => .stuck := by
  intro e sw G
  cases e with
  | not a =>
    simp only [evT, ev]
    cases evT cl gk a sw G <;> rfl
  | and a b =>
    simp only [evT, ev]
    cases evT cl gk a sw G with
    | ok c G1 =>
      cases c with
      | true =>
        simp only [bnd_ok, if_true]
        cases evT cl gk b sw G1 <;> rfl
      | false => rfl
    | _ => rfl
  | or a b =>
    simp only [evT, ev]
    cases evT cl gk a sw G with
    | ok c G1 =>
      cases c with
      | false =>
        simp only [bnd_ok, if_false]
        cases evT cl gk b sw G1 <;> rfl
      | true => rfl
    | _ => rfl
  | _ => exact evT_val cl gk rfl sw G
/-- an except suite at its end -/
def evH : Hf → List W → Sl → List O → Res Fl
  | .retk w, _, _, G => .ok (.rt w) G
  | .retf f, fs, _, G => match fs[f]? with
    | some w => .ok (.rt w) G
    | none => .stuck
  | .cont, _, sw, G => .ok (.ct sw) G
def pickH : List (Nat × Hf) → Nat → Option Hf
  | [], _ => none
  | (c, h) :: r, d => if c = d then some h else pickH r d
mutual
def ex : S → Sl → List O → Res Fl
  | .asg t e, sw, G => bnd (ev cl gk e sw G) fun w G1 => bnd (noX (asgT cl gk t w sw G1)) fun sw1 G2 => .ok (.nx sw1) G2
  | .aug i o e, sw, G => match sw[i]? with
    | some (some x) => bnd (ev cl gk e sw G) fun y G1 => bnd (binW o x y G1) fun w G2 => .ok (.nx (sw.set i (some w))) G2
    | _ => .stuck
  | .exp e, sw, G => bnd (ev cl gk e sw G) fun _ G1 => .ok (.nx sw) G1
  | .ret e, sw, G => bnd (ev cl gk e sw G) fun w G1 => .ok (.rt w) G1
  | .ret0, _, G => .ok (.rt .non) G
  | .ife t a b, sw, G => bnd (evT cl gk t sw G) fun c G1 => if c then exB a sw G1 else exB b sw G1
  | .whl t b, sw, G => whlL (fun sw G => evT cl gk t sw G) (fun sw G => exB b sw G) wf sw G
  | .frr t it b, sw, G => bnd (evI cl gk it sw G) fun s G1 => forL (fun w sw G => asgT cl gk t w sw G) (fun sw G => exB b sw G) s s.items sw G1
  | .raise c es, sw, G => bnd (evs cl gk es sw G) fun ws G1 => .exc c ws G1
  | .tri b hs, sw, G => match exB b sw G with
    | .ok f G1 => .ok f G1
    | .exc c fs G1 => match pickH hs c with
      | some h => evH h fs sw G1
      | none => .exc c fs G1
    | .stuck => .stuck
  | .pass, sw, G => .ok (.nx sw) G
  | .brk, sw, G => .ok (.bk sw) G
  | .cnt, sw, G => .ok (.ct sw) G
def exB : B → Sl → List O → Res Fl
  | .nil, sw, G => .ok (.nx sw) G
  | .cons s b, sw, G => bnd (ex s sw G) fun f G1 => match f with
    | .nx sw1 => exB b sw1 G1
    | f => .ok f G1
end
end
/-- a def: how many slots, how many parameters, its block -/
structure Df where
  slots : Nat
  pars : Nat
  body : B
def runD (cl : Nat → List W → List O → Res W) (gk : Nat → W) (wf : Nat) (d : Df) (ws : List W) (G : List O) : Res W :=
  if ws.length = d.pars then
    match exB cl gk wf d.body (ws.map some ++ List.replicate (d.slots - d.pars) none) G with
    | .ok (.rt w) G1 => .ok w G1
    | .ok (.nx _) G1 => .ok .non G1
    | .ok _ _ => .stuck
    | .exc c fs G1 => .exc c fs G1
    | .stuck => .stuck
  else .stuck
/-- n calls within one another -/
def calls (tb : Nat → Option Df) (gk : Nat → W) (wf : Nat) : Nat → Nat → List W → List O → Res W
  | 0, _, _, _ => .stuck
  | n + 1, k, ws, G => match tb k with
    | some d => runD (calls tb gk wf n) gk wf d ws G
    | none => .stuck
end T2
end

section
set_option linter.all false
set_option autoImplicit false
set_option maxRecDepth 100000
set_option maxHeartbeats 1000000
/-! T2: how values and the abstract heap stand in the machine's tracked heap. -/
namespace T2
open PySem L2

/-- what is fixed through a law: the written part, where defs and exception classes stand -/
structure Ev0 where
  P : Program
  w : World
  K : PySem.W.Frag
  fa : Nat → Addr
  xa : Nat → Addr

/-- addresses: of the abstract heap's objects, by their numbers; of other objects that may change, which are not to be touched -/
structure Ad where
  l : List Addr
  m : List Addr
/-- a list nobody changes -/
def FzL (φ : Ad) (H : Hp) (a : Addr) (vs : List V) : Prop := a ∉ φ.l ∧ a ∉ φ.m ∧ H a = some (.lst vs)
/-- a list that is read; it may be one of the written part -/
def RdL (K : PySem.W.Frag) (φ : Ad) (H : Hp) (a : Addr) (vs : List V) : Prop :=
  (a ∉ φ.l ∧ a ∉ φ.m ∧ Rd H a (.lst vs)) ∨
    ∃ (o : Obj) (its : Array Value) (n : Nat), K.lookup a = some o ∧ o.cls = .type "list" ∧ o.dict = none ∧ o.data = .seq its n ∧ its.size ≤ sizeLine ∧ Vals vs its.toList
theorem RdL.sq {K : PySem.W.Frag} {φ : Ad} {H : Hp} {a : Addr} {vs : List V} (h : RdL K φ H a vs) : SqL K H a vs := by
  rcases h with ⟨_, _, h⟩ | h
  · exact .inl h
  · exact .inr h
theorem FzL.sq {K : PySem.W.Frag} {φ : Ad} {H : Hp} {a : Addr} {vs : List V} (h : FzL φ H a vs) : SqL K H a vs := .inl (.inl h.2.2)

mutual
inductive Sim (Z : Ev0) (φ : Ad) (H : Hp) : W → V → Prop where
  | non : Sim Z φ H .non .non
  | bl (b : Bool) : Sim Z φ H (.bl b) (.bl b)
  | int (i : Int) : Sim Z φ H (.int i) (.int i)
  | str (x : List Nat) : Sim Z φ H (.str x) (.str ⟨x.toArray⟩)
  | tup {a : Addr} {ws : List W} {vs : List V} : H a = some (.tup vs) → Sims Z φ H ws vs → Sim Z φ H (.tup ws) (.ref a)
  | lst {a : Addr} {ws : List W} {vs : List V} : FzL φ H a vs → Sims Z φ H ws vs → Sim Z φ H (.lst ws) (.ref a)
  | scr {a : Addr} {ws : List W} {vs : List V} : RdL Z.K φ H a vs → Sims Z φ H ws vs → Sim Z φ H (.scr ws) (.ref a)
  | ref {i : Nat} {a : Addr} : φ.l[i]? = some a → Sim Z φ H (.ref i) (.ref a)
  | fn (k : Nat) : Sim Z φ H (.fn k) (.ref (Z.fa k))
inductive Sims (Z : Ev0) (φ : Ad) (H : Hp) : List W → List V → Prop where
  | nil : Sims Z φ H [] []
  | cons {w : W} {ws : List W} {v : V} {vs : List V} : Sim Z φ H w v → Sims Z φ H ws vs → Sims Z φ H (w :: ws) (v :: vs)
end

/-- a key's place -/
def keyL : W → Option Key
  | .int i => some (.inl i)
  | .str x => some (.inr ⟨x.toArray⟩)
  | _ => none
def keysL : List W → Option (List Key)
  | [] => some []
  | x :: xs => match keyL x, keysL xs with
    | some k, some ks => some (k :: ks)
    | _, _ => none
def keyT : W → Option (List Key)
  | .tup xs => keysL xs
  | _ => none
/-- a dict's pairs -/
inductive DSim (Z : Ev0) (φ : Ad) (H : Hp) : List (W × W) → List (List Key × V) → Prop where
  | nil : DSim Z φ H [] []
  | cons {k w : W} {kk : List Key} {v : V} {r : List (W × W)} {q : List (List Key × V)} : keyT k = some kk → Sim Z φ H w v → DSim Z φ H r q → DSim Z φ H ((k, w) :: r) ((kk, v) :: q)

/-- the object at a is the abstract one -/
inductive OSim (Z : Ev0) (φ : Ad) (H : Hp) (a : Addr) : O → Prop where
  | lst {ws : List W} {vs : List V} : H a = some (.lst vs) → Sims Z φ H ws vs → OSim Z φ H a (.lst ws)
  | dct {kvs : List (W × W)} {ks : List (List Key × V)} : H a = some (.dT ks) → DSim Z φ H kvs ks → OSim Z φ H a (.dct kvs)

structure Rel (Z : Ev0) (φ : Ad) (G : List O) (H : Hp) : Prop where
  len : φ.l.length = G.length
  nd : φ.l.Nodup
  obj : ∀ (i : Nat) (a : Addr) (o : O), φ.l[i]? = some a → G[i]? = some o → OSim Z φ H a o
  ban : ∀ a ∈ φ.m, ∃ o, H a = some o ∧ (∀ vs, o ≠ .tup vs) ∧ ∀ ob u, o ≠ .frz ob u

/-- what a step leaves: new objects are new, all that is not ours stands -/
structure Fr (φ : Ad) (H : Hp) (φ' : Ad) (H' : Hp) : Prop where
  more : ∃ t, φ'.l = φ.l ++ t ∧ ∀ a ∈ t, H a = none
  same : (∀ a ∈ φ.m, a ∈ φ'.m) ∧ ∀ a ∈ φ'.m, a ∈ φ.m ∨ H a = none
  keep : ∀ b o, b ∉ φ.l → H b = some o → H' b = some o
  back : ∀ b, H' b = none → H b = none

section
variable {Z : Ev0} {φ φ' φ'' : Ad} {G G' : List O} {H H' H'' : Hp} {w : W} {v : V} {ws : List W} {vs : List V}
theorem Fr.refl : Fr φ H φ H := ⟨⟨[], by simp, by simp⟩, ⟨fun _ h => h, fun _ h => .inl h⟩, fun _ _ _ h => h, fun _ h => h⟩
theorem Fr.trans (a : Fr φ H φ' H') (b : Fr φ' H' φ'' H'') : Fr φ H φ'' H'' := by
  obtain ⟨t, et, n⟩ := a.more
  obtain ⟨u, eu, m⟩ := b.more
  refine ⟨⟨t ++ u, by rw [eu, et, List.append_assoc], fun x hx => ?_⟩, ⟨fun x hx => b.same.1 x (a.same.1 x hx), fun x hx => (b.same.2 x hx).elim (a.same.2 x) fun z => .inr (a.back x z)⟩, fun x o hx e => ?_, fun x h => a.back x (b.back x h)⟩
  · rcases List.mem_append.mp hx with hx | hx
    · exact n x hx
    · exact a.back x (m x hx)
  · refine b.keep x o (fun hm => ?_) (a.keep x o hx e)
    rw [et] at hm
    rcases List.mem_append.mp hm with hm | hm
    · exact hx hm
    · rw [n x hm] at e
      cases e
theorem Fr.out (a : Fr φ H φ' H') {x : Addr} {o : HO} (h : x ∉ φ.l) (e : H x = some o) : x ∉ φ'.l := by
  obtain ⟨t, et, n⟩ := a.more
  intro hm
  rw [et] at hm
  rcases List.mem_append.mp hm with hm | hm
  · exact h hm
  · rw [n x hm] at e
    cases e
theorem Fr.at (a : Fr φ H φ' H') {i : Nat} {x : Addr} (h : φ.l[i]? = some x) : φ'.l[i]? = some x := by
  obtain ⟨t, et, _⟩ := a.more
  rw [et, List.getElem?_append_left (List.getElem?_eq_some_iff.mp h).1]
  exact h
/-- all that is ours becomes another's -/
def Ad.shut (φ : Ad) : Ad := ⟨[], φ.l ++ φ.m⟩
/-- alone: nothing is ours -/
theorem Fr.alone {ψ : Ad} (a : Fr φ.shut H ψ H') : Fr φ H φ H' := ⟨⟨[], by simp, by simp⟩, ⟨fun _ h => h, fun _ h => .inl h⟩, fun b o _ e => a.keep b o (by simp [Ad.shut]) e, a.back⟩
/-- a new object that is not ours -/
theorem Fr.new {p : Addr} {o : HO} (h : H p = none) : Fr φ H φ (upd H p o) := by
  refine ⟨⟨[], by simp, by simp⟩, ⟨fun _ h => h, fun _ h => .inl h⟩, fun b u _ e => ?_, fun b e => ?_⟩
  · rw [upd_ne (ne_of_none e h)]
    exact e
  · by_cases hb : b = p
    · subst hb
      exact h
    · rw [upd_ne hb] at e
      exact e
def Ad.add (φ : Ad) (p : Addr) : Ad := ⟨φ.l ++ [p], φ.m⟩
/-- a new object of ours -/
theorem Fr.mine {p : Addr} {o : HO} (h : H p = none) : Fr φ H (φ.add p) (upd H p o) := by
  obtain ⟨_, _, k, b⟩ := Fr.new (φ := φ) (o := o) h
  exact ⟨⟨[p], rfl, by simpa using h⟩, ⟨fun _ h => h, fun _ h => .inl h⟩, k, b⟩
/-- one of ours is written -/
theorem Fr.put {p : Addr} {o : HO} (h : p ∈ φ.l) : Fr φ H φ (upd H p o) := by
  refine ⟨⟨[], by simp, by simp⟩, ⟨fun _ h => h, fun _ h => .inl h⟩, fun b u hb e => ?_, fun b e => ?_⟩
  · rw [upd_ne (fun z => hb (by rw [z]; exact h))]
    exact e
  · by_cases hb : b = p
    · subst hb
      rw [upd_same] at e
      cases e
    · rw [upd_ne hb] at e
      exact e

/-! ### what stays -/
/-- of an address of ours: it is tracked, and no tuple and nothing frozen -/
def Ours (φ : Ad) (H : Hp) : Prop := ∀ a, a ∈ φ.l ∨ a ∈ φ.m → ∃ o, H a = some o ∧ (∀ vs, o ≠ .tup vs) ∧ ∀ ob u, o ≠ .frz ob u
theorem OSim.kind {a : Addr} {o : O} (h : OSim Z φ H a o) : ∃ u, H a = some u ∧ (∀ vs, u ≠ .tup vs) ∧ ∀ ob x, u ≠ .frz ob x := by
  cases h with
  | lst h1 _ => exact ⟨_, h1, fun _ z => (by cases z), fun _ _ z => (by cases z)⟩
  | dct h1 _ => exact ⟨_, h1, fun _ z => (by cases z), fun _ _ z => (by cases z)⟩
theorem Rel.get (r : Rel Z φ G H) {a : Addr} (ha : a ∈ φ.l) : ∃ (i : Nat) (o : O), φ.l[i]? = some a ∧ G[i]? = some o ∧ OSim Z φ H a o := by
  obtain ⟨i, hi, e⟩ := List.mem_iff_getElem.mp ha
  have hg : i < G.length := by rw [← r.len]; exact hi
  exact ⟨i, G[i], by rw [← e]; simp, by simp, r.obj i a G[i] (by rw [← e]; simp) (by simp)⟩
theorem Rel.ours (r : Rel Z φ G H) : Ours φ H := fun a ha => by
  rcases ha with ha | ha
  · obtain ⟨i, o, _, _, h⟩ := r.get ha
    exact h.kind
  · exact r.ban a ha
theorem Ours.shut (o : Ours φ H) : Ours φ.shut H := fun a ha => o a (by simpa [Ad.shut] using ha)
theorem Rel.shut (r : Rel Z φ G H) : Rel Z φ.shut [] H := ⟨rfl, by simp [Ad.shut], fun i a o h => by simp [Ad.shut] at h, fun a ha => r.ours.shut a (.inr ha)⟩
theorem Fr.ban (f : Fr φ H φ' H') {a : Addr} {o : HO} (n : a ∉ φ.m) (e : H a = some o) : a ∉ φ'.m := fun hm => (f.same.2 a hm).elim n fun z => by
  rw [z] at e
  cases e
theorem rd_keep {a : Addr} {u : HO} (f : Fr φ H φ' H') (n : a ∉ φ.l) (h : Rd H a u) : Rd H' a u := by
  rcases h with h | ⟨o, h⟩
  · exact .inl (f.keep a _ n h)
  · exact .inr ⟨o, f.keep a _ n h⟩
theorem rd_out {a : Addr} (o : Ours φ H) {vs : List V} (h : Rd H a (.tup vs)) : a ∉ φ.l := fun hm => by
  obtain ⟨u, e, n1, n2⟩ := o a (.inl hm)
  rcases h with h | ⟨ob, h⟩
  · rw [e] at h
    exact n1 vs (Option.some.inj h)
  · rw [e] at h
    exact n2 ob _ (Option.some.inj h)
theorem FzL.keep {a : Addr} (f : Fr φ H φ' H') (h : FzL φ H a vs) : FzL φ' H' a vs := ⟨f.out h.1 h.2.2, f.ban h.2.1 h.2.2, f.keep a _ h.1 h.2.2⟩
theorem RdL.keep {a : Addr} (f : Fr φ H φ' H') (h : RdL Z.K φ H a vs) : RdL Z.K φ' H' a vs := by
  rcases h with ⟨n, m, h⟩ | h
  · rcases h with h | ⟨o, h⟩
    · exact .inl ⟨f.out n h, f.ban m h, rd_keep f n (.inl h)⟩
    · exact .inl ⟨f.out n h, f.ban m h, rd_keep f n (.inr ⟨o, h⟩)⟩
  · exact .inr h
theorem tup_keep {a : Addr} (f : Fr φ H φ' H') (o : Ours φ H) (h : H a = some (.tup vs)) : H' a = some (.tup vs) := f.keep a _ (rd_out o (.inl h)) h
mutual
theorem Sim.keep (f : Fr φ H φ' H') (o : Ours φ H) : ∀ {w : W} {v : V}, Sim Z φ H w v → Sim Z φ' H' w v
  | _, _, .non => .non
  | _, _, .bl b => .bl b
  | _, _, .int i => .int i
  | _, _, .str x => .str x
  | _, _, .tup h s => .tup (tup_keep f o h) (Sims.keep f o s)
  | _, _, .lst h s => .lst (FzL.keep f h) (Sims.keep f o s)
  | _, _, .scr h s => .scr (RdL.keep (Z := Z) f h) (Sims.keep f o s)
  | _, _, .ref h => .ref (f.at h)
  | _, _, .fn k => .fn k
theorem Sims.keep (f : Fr φ H φ' H') (o : Ours φ H) : ∀ {ws : List W} {vs : List V}, Sims Z φ H ws vs → Sims Z φ' H' ws vs
  | _, _, .nil => .nil
  | _, _, .cons h s => .cons (Sim.keep f o h) (Sims.keep f o s)
end
theorem Sims.len : ∀ {ws : List W} {vs : List V}, Sims Z φ H ws vs → ws.length = vs.length
  | _, _, .nil => rfl
  | _, _, .cons _ s => by rw [List.length_cons, List.length_cons, s.len]
theorem Sims.get : ∀ {ws : List W} {vs : List V} {i : Nat} {w : W}, Sims Z φ H ws vs → ws[i]? = some w → ∃ v, vs[i]? = some v ∧ Sim Z φ H w v
  | _, _, _, _, .nil, e => by simp at e
  | _, _, 0, _, .cons h _, e => by
    simp at e
    subst e
    exact ⟨_, rfl, h⟩
  | _, _, i + 1, w, .cons _ s, e => by
    obtain ⟨v, h1, h2⟩ := Sims.get (i := i) (w := w) s (by simpa using e)
    exact ⟨v, by simpa using h1, h2⟩
theorem Sims.app : ∀ {ws us : List W} {vs xs : List V}, Sims Z φ H ws vs → Sims Z φ H us xs → Sims Z φ H (ws ++ us) (vs ++ xs)
  | _, _, _, _, .nil, s => s
  | _, _, _, _, .cons h r, s => .cons h (Sims.app r s)
theorem Sims.take : ∀ {ws : List W} {vs : List V} (n : Nat), Sims Z φ H ws vs → Sims Z φ H (ws.take n) (vs.take n)
  | _, _, 0, _ => .nil
  | _, _, _ + 1, .nil => .nil
  | _, _, n + 1, .cons h r => .cons h (Sims.take n r)
theorem Sims.drop : ∀ {ws : List W} {vs : List V} (n : Nat), Sims Z φ H ws vs → Sims Z φ H (ws.drop n) (vs.drop n)
  | _, _, 0, s => s
  | _, _, _ + 1, .nil => .nil
  | _, _, n + 1, .cons _ r => Sims.drop n r
theorem Sims.set {w : W} {v : V} (h : Sim Z φ H w v) : ∀ {ws : List W} {vs : List V} (n : Nat), Sims Z φ H ws vs → Sims Z φ H (ws.set n w) (vs.set n v)
  | _, _, _, .nil => .nil
  | _, _, 0, .cons _ r => .cons h r
  | _, _, n + 1, .cons h1 r => .cons h1 (Sims.set h n r)
theorem Sims.erase : ∀ {ws : List W} {vs : List V} (n : Nat), Sims Z φ H ws vs → Sims Z φ H (ws.eraseIdx n) (vs.eraseIdx n)
  | _, _, _, .nil => .nil
  | _, _, 0, .cons _ r => r
  | _, _, n + 1, .cons h1 r => .cons h1 (Sims.erase n r)
theorem Sims.dropLast {ws : List W} {vs : List V} (s : Sims Z φ H ws vs) : Sims Z φ H ws.dropLast vs.dropLast := by
  rw [List.dropLast_eq_take, List.dropLast_eq_take, s.len]
  exact s.take _
theorem Sims.ints : ∀ (ns : List Int), Sims Z φ H (ns.map .int) (ns.map .int)
  | [] => .nil
  | n :: ns => .cons (.int n) (Sims.ints ns)
theorem Sims.strs : ∀ (ns : List (List Nat)), Sims Z φ H (ns.map .str) (ns.map fun x => .str ⟨x.toArray⟩)
  | [] => .nil
  | n :: ns => .cons (.str n) (Sims.strs ns)
theorem Sims.of_ints : ∀ {ws : List W} {vs : List V} {ns : List Int}, Sims Z φ H ws vs → ints? ws = some ns → vs = ns.map .int
  | _, _, ns, .nil, e => by
    cases e
    rfl
  | _, _, ns, .cons (w := w) (ws := ws) h s, e => by
    cases w with
    | int i =>
      cases h
      cases q : ints? ws with
      | none => simp [ints?, q] at e
      | some ms =>
        simp [ints?, q] at e
        subst e
        rw [Sims.of_ints s q, List.map_cons]
    | _ => simp [ints?] at e
theorem Sims.of_bls : ∀ {ws : List W} {vs : List V} {ns : List Bool}, Sims Z φ H ws vs → bls? ws = some ns → vs = ns.map .bl
  | _, _, ns, .nil, e => by
    cases e
    rfl
  | _, _, ns, .cons (w := w) (ws := ws) h s, e => by
    cases w with
    | bl i =>
      cases h
      cases q : bls? ws with
      | none => simp [bls?, q] at e
      | some ms =>
        simp [bls?, q] at e
        subst e
        rw [Sims.of_bls s q, List.map_cons]
    | _ => simp [bls?] at e
theorem Sims.of_strs : ∀ {ws : List W} {vs : List V} {ns : List (List Nat)}, Sims Z φ H ws vs → strs? ws = some ns → vs = ns.map fun x => .str ⟨x.toArray⟩
  | _, _, ns, .nil, e => by
    cases e
    rfl
  | _, _, ns, .cons (w := w) (ws := ws) h s, e => by
    cases w with
    | str i =>
      cases h
      cases q : strs? ws with
      | none => simp [strs?, q] at e
      | some ms =>
        simp [strs?, q] at e
        subst e
        rw [Sims.of_strs s q, List.map_cons]
    | _ => simp [strs?] at e
/-- without refs: the addresses by number do not matter -/
theorem Sim.free {ψ : Ad} (hψ : ∀ a o, H a = some o → a ∉ φ.l → a ∉ φ.m → a ∉ ψ.l ∧ a ∉ ψ.m) : ∀ {w : W} {v : V}, w.nr = true → Sim Z φ H w v → Sim Z ψ H w v
  | .non, _, _, h => by cases h; exact .non
  | .bl b, _, _, h => by cases h; exact .bl b
  | .int i, _, _, h => by cases h; exact .int i
  | .str x, _, _, h => by cases h; exact .str x
  | .tup xs, _, n, h => by
    cases h with
    | tup h s => exact .tup h (go xs _ (by simpa [W.nr] using n) s)
  | .lst xs, _, n, h => by
    cases h with
    | lst h s =>
      obtain ⟨m1, m2⟩ := hψ _ _ h.2.2 h.1 h.2.1
      exact .lst ⟨m1, m2, h.2.2⟩ (go xs _ (by simpa [W.nr] using n) s)
  | .scr xs, _, n, h => by
    cases h with
    | scr h s =>
      refine .scr ?_ (go xs _ (by simpa [W.nr] using n) s)
      rcases h with ⟨n1, n2, h⟩ | h
      · obtain ⟨m1, m2⟩ : _ ∉ ψ.l ∧ _ ∉ ψ.m := by
          rcases h with h | ⟨o, h⟩
          · exact hψ _ _ h n1 n2
          · exact hψ _ _ h n1 n2
        exact .inl ⟨m1, m2, h⟩
      · exact .inr h
  | .ref _, _, n, _ => by simp [W.nr] at n
  | .fn k, _, _, h => by cases h; exact .fn k
where go : ∀ (ws : List W) (vs : List V), W.nrs ws = true → Sims Z φ H ws vs → Sims Z ψ H ws vs
  | [], _, _, h => by cases h; exact .nil
  | w :: ws, _, n, h => by
    have n' : w.nr = true ∧ W.nrs ws = true := by simpa [W.nrs] using n
    cases h with
    | cons h s => exact .cons (Sim.free hψ n'.1 h) (go ws _ n'.2 s)
theorem Sims.free {ψ : Ad} (hψ : ∀ a o, H a = some o → a ∉ φ.l → a ∉ φ.m → a ∉ ψ.l ∧ a ∉ ψ.m) {ws : List W} {vs : List V} (n : W.nrs ws = true) (h : Sims Z φ H ws vs) : Sims Z ψ H ws vs := Sim.free.go hψ ws vs n h
theorem Sims.shut {ws : List W} {vs : List V} (n : W.nrs ws = true) (h : Sims Z φ H ws vs) : Sims Z φ.shut H ws vs := h.free (fun a o _ h1 h2 => by simp [Ad.shut, h1, h2]) n
/-- back from a call alone -/
theorem Sim.back {ψ : Ad} (f : Fr φ.shut H ψ H') {w : W} {v : V} (n : w.nr = true) (h : Sim Z ψ H' w v) : Sim Z φ H' w v := h.free (fun a o _ h1 h2 => by
  have q : a ∉ φ.shut.m := fun z => h2 (f.same.1 a z)
  simpa [Ad.shut] using q) n

mutual
theorem Sim.move {ψ : Ad} (hr : ∀ (i : Nat) (a : Addr), φ.l[i]? = some a → ψ.l[i]? = some a) (hψ : ∀ a o, H a = some o → a ∉ φ.l → a ∉ φ.m → a ∉ ψ.l ∧ a ∉ ψ.m ∧ H' a = some o) (ht : ∀ a, (∃ vs, H a = some (.tup vs)) ∨ (∃ o u, H a = some (.frz o u)) → H' a = H a) :
    ∀ {w : W} {v : V}, Sim Z φ H w v → Sim Z ψ H' w v
  | _, _, .non => .non
  | _, _, .bl b => .bl b
  | _, _, .int i => .int i
  | _, _, .str x => .str x
  | _, _, .tup h s => .tup ((ht _ (.inl ⟨_, h⟩)).trans h) (Sims.move hr hψ ht s)
  | _, _, .lst h s => .lst ⟨(hψ _ _ h.2.2 h.1 h.2.1).1, (hψ _ _ h.2.2 h.1 h.2.1).2.1, (hψ _ _ h.2.2 h.1 h.2.1).2.2⟩ (Sims.move hr hψ ht s)
  | _, _, .scr h s => .scr (by
      rcases h with ⟨n1, n2, h | ⟨o, h⟩⟩ | h
      · obtain ⟨m1, m2, e⟩ := hψ _ _ h n1 n2
        exact .inl ⟨m1, m2, .inl e⟩
      · obtain ⟨m1, m2, e⟩ := hψ _ _ h n1 n2
        exact .inl ⟨m1, m2, .inr ⟨o, e⟩⟩
      · exact .inr h) (Sims.move hr hψ ht s)
  | _, _, .ref h => .ref (hr _ _ h)
  | _, _, .fn k => .fn k
theorem Sims.move {ψ : Ad} (hr : ∀ (i : Nat) (a : Addr), φ.l[i]? = some a → ψ.l[i]? = some a) (hψ : ∀ a o, H a = some o → a ∉ φ.l → a ∉ φ.m → a ∉ ψ.l ∧ a ∉ ψ.m ∧ H' a = some o) (ht : ∀ a, (∃ vs, H a = some (.tup vs)) ∨ (∃ o u, H a = some (.frz o u)) → H' a = H a) :
    ∀ {ws : List W} {vs : List V}, Sims Z φ H ws vs → Sims Z ψ H' ws vs
  | _, _, .nil => .nil
  | _, _, .cons h s => .cons (Sim.move hr hψ ht h) (Sims.move hr hψ ht s)
end

/-! ### the heap's steps -/
theorem DSim.keep (f : Fr φ H φ' H') (ou : Ours φ H) : ∀ {kvs : List (W × W)} {ks : List (List Key × V)}, DSim Z φ H kvs ks → DSim Z φ' H' kvs ks
  | _, _, .nil => .nil
  | _, _, .cons h s r => .cons h (s.keep f ou) (DSim.keep f ou r)
theorem DSim.move {ψ : Ad} (hr : ∀ (i : Nat) (a : Addr), φ.l[i]? = some a → ψ.l[i]? = some a) (hψ : ∀ a o, H a = some o → a ∉ φ.l → a ∉ φ.m → a ∉ ψ.l ∧ a ∉ ψ.m ∧ H' a = some o) (ht : ∀ a, (∃ vs, H a = some (.tup vs)) ∨ (∃ o u, H a = some (.frz o u)) → H' a = H a) :
    ∀ {kvs : List (W × W)} {ks : List (List Key × V)}, DSim Z φ H kvs ks → DSim Z ψ H' kvs ks
  | _, _, .nil => .nil
  | _, _, .cons h s r => .cons h (s.move hr hψ ht) (DSim.move hr hψ ht r)
theorem OSim.keep {a : Addr} {o : O} (f : Fr φ H φ' H') (ou : Ours φ H) (e : H' a = H a) (h : OSim Z φ H a o) : OSim Z φ' H' a o := by
  cases h with
  | lst h1 s => exact .lst (e.trans h1) (Sims.keep f ou s)
  | dct h1 s => exact .dct (e.trans h1) (s.keep f ou)
theorem Ours.keep (f : Fr φ H φ' H') (ou : Ours φ H) {a : Addr} (ha : a ∈ φ.m) (hn : a ∉ φ.l) : ∃ o, H' a = some o ∧ (∀ vs, o ≠ .tup vs) ∧ ∀ ob u, o ≠ .frz ob u := by
  obtain ⟨o, h1, h2⟩ := ou a (.inr ha)
  exact ⟨o, f.keep a o hn h1, h2⟩
end
end T2
end

section
set_option linter.all false
set_option autoImplicit false
set_option maxRecDepth 100000
set_option maxHeartbeats 1000000
/-! T2: what a result asks of the machine; operators. -/
namespace T2
open PySem L2
section
variable {Z : Ev0} {φ φ' φ1 : Ad} {G G' G1 : List O} {H H' H1 : Hp} {w : W} {v : V} {ws : List W} {vs : List V}

/-! ### the heap's steps -/
theorem Rel.new {p : Addr} {o : HO} (r : Rel Z φ G H) (h : H p = none) : Rel Z φ G (upd H p o) := by
  have f : Fr φ H φ (upd H p o) := Fr.new h
  refine ⟨r.len, r.nd, fun i a ob h1 h2 => ?_, fun a ha => ?_⟩
  · have q := r.obj i a ob h1 h2
    obtain ⟨u, e, _⟩ := q.kind
    exact q.keep f r.ours (upd_ne (ne_of_none e h))
  · obtain ⟨u, e, n⟩ := r.ban a ha
    exact ⟨u, by rw [upd_ne (ne_of_none e h)]; exact e, n⟩
theorem Rel.add {p : Addr} {o : HO} {ob : O} (r : Rel Z φ G H) (h : H p = none) (q : OSim Z (φ.add p) (upd H p o) p ob) : Rel Z (φ.add p) (G ++ [ob]) (upd H p o) := by
  have f : Fr φ H (φ.add p) (upd H p o) := Fr.mine h
  have np : ∀ a, a ∈ φ.l → a ≠ p := fun a ha z => by
    obtain ⟨i, ob, _, _, q⟩ := r.get ha
    obtain ⟨u, e, _⟩ := q.kind
    rw [z, h] at e
    cases e
  refine ⟨by simp [Ad.add, r.len], ?_, fun i a ob' h1 h2 => ?_, fun a ha => ?_⟩
  · show (φ.l ++ [p]).Nodup
    rw [List.nodup_append]
    exact ⟨r.nd, by simp, fun a ha b hb => by
      have : b = p := by simpa using hb
      rw [this]
      exact np a ha⟩
  · have h1 : (φ.l ++ [p])[i]? = some a := h1
    by_cases hi : i < φ.l.length
    · rw [List.getElem?_append_left hi] at h1
      rw [List.getElem?_append_left (by rw [← r.len]; exact hi)] at h2
      exact (r.obj i a ob' h1 h2).keep f r.ours (upd_ne (np a (List.mem_of_getElem? h1)))
    · rw [List.getElem?_append_right (by omega)] at h1
      rw [List.getElem?_append_right (by rw [← r.len]; omega)] at h2
      have e1 : i - φ.l.length = 0 := by
        rcases Nat.eq_zero_or_pos (i - φ.l.length) with z | z
        · exact z
        · rw [List.getElem?_eq_none (by simp; omega)] at h1
          cases h1
      rw [e1] at h1
      have e2 : i - G.length = 0 := by rw [← r.len]; exact e1
      rw [e2] at h2
      simp at h1 h2
      subst h1
      subst h2
      exact q
  · obtain ⟨u, e, n⟩ := r.ban a ha
    exact ⟨u, by rw [upd_ne (ne_of_none e h)]; exact e, n⟩
theorem Rel.put {i : Nat} {a : Addr} {o : HO} {ob : O} (r : Rel Z φ G H) (h : φ.l[i]? = some a) (hi : i < G.length) (ht : (∀ vs, o ≠ .tup vs) ∧ ∀ b u, o ≠ .frz b u) (q : OSim Z φ (upd H a o) a ob) : Rel Z φ (G.set i ob) (upd H a o) := by
  have ha := List.mem_of_getElem? h
  have f : Fr φ H φ (upd H a o) := Fr.put ha
  refine ⟨by rw [List.length_set]; exact r.len, r.nd, fun j b ob' h1 h2 => ?_, fun b hb => ?_⟩
  · by_cases e : j = i
    · subst e
      rw [h] at h1
      cases h1
      rw [List.getElem?_set_self hi] at h2
      cases h2
      exact q
    · rw [List.getElem?_set_ne (Ne.symm e)] at h2
      have ne : b ≠ a := fun z => e (by
        subst z
        obtain ⟨x1, y1⟩ := List.getElem?_eq_some_iff.mp h
        obtain ⟨x2, y2⟩ := List.getElem?_eq_some_iff.mp h1
        exact (List.getElem_inj r.nd).mp (y2.trans y1.symm))
      exact (r.obj j b ob' h1 h2).keep f r.ours (upd_ne ne)
  · obtain ⟨u, e, n⟩ := r.ban b hb
    by_cases z : b = a
    · subst z
      exact ⟨o, upd_same, ht⟩
    · exact ⟨u, by rw [upd_ne z]; exact e, n⟩
theorem Rel.at (r : Rel Z φ G H) {i : Nat} {o : O} (h : G[i]? = some o) : ∃ a, φ.l[i]? = some a ∧ a ∈ φ.l ∧ OSim Z φ H a o := by
  obtain ⟨hi, e⟩ := List.getElem?_eq_some_iff.mp h
  have hl : i < φ.l.length := by rw [r.len]; exact hi
  exact ⟨φ.l[i], by simp, List.getElem_mem _, r.obj i _ o (by simp) h⟩

/-! ### results -/
/-- an exception's own dict -/
def XSim (Z : Ev0) (xf : Nat → List Str) (xn : Nat) (φ : Ad) (H : Hp) (c : Nat) (fs : List W) (d : Option Addr) : Prop :=
  (c < xn ∧ fs.length = (xf c).length) ∧ (if xf c = [] then d = none else ∃ (dx : Addr) (vs : List V), d = some dx ∧ H dx = some (.xd ((xf c).zip vs)) ∧ Sims Z φ H fs vs)
end

/-- the names of the errors' fields -/
structure Ev1 extends Ev0 where
  xf : Nat → List Str
  xn : Nat

/-- what is asked where a result is due -/
def Run (Z : Ev1) (E : XK) {α β : Type} (R : Ad → Hp → α → β → Prop) (r : Res α) (φ : Ad) (H : Hp) (Q : β → Hp → Prop) : Prop :=
  match r with
  | .ok a G' => ∀ φ' H' b, Fr φ H φ' H' → Rel Z.toEv0 φ' G' H' → R φ' H' a b → Q b H'
  | .exc c fs G' => ∀ φ' H' d, Fr φ H φ' H' → Rel Z.toEv0 φ' G' H' → XSim Z.toEv0 Z.xf Z.xn φ' H' c fs d → E (.ref (Z.xa c)) d H'
  | .stuck => False
abbrev SimR (Z : Ev1) : Ad → Hp → W → V → Prop := fun φ H w v => Sim Z.toEv0 φ H w v
abbrev SimsR (Z : Ev1) : Ad → Hp → List W → List V → Prop := fun φ H w v => Sims Z.toEv0 φ H w v
abbrev EqR {α : Type} : Ad → Hp → α → α → Prop := fun _ _ a b => a = b

section
variable {Z : Ev1} {E : XK} {φ φ' φ1 : Ad} {G G' G1 : List O} {H H' H1 : Hp} {α β γ δ : Type} {R : Ad → Hp → α → β → Prop} {S : Ad → Hp → γ → δ → Prop} {r : Res α} {Q : β → Hp → Prop}
theorem Run.later (h : Run Z E R r φ H Q) (f : Fr φ H φ1 H1) : Run Z E R r φ1 H1 Q := by
  cases r with
  | ok a G => exact fun φ' H' b g rl q => h φ' H' b (f.trans g) rl q
  | exc c fs G => exact fun φ' H' d g rl q => h φ' H' d (f.trans g) rl q
  | stuck => exact h
theorem Run.imp {Q' : β → Hp → Prop} (h : Run Z E R r φ H Q) (hq : ∀ b H', Q b H' → Q' b H') : Run Z E R r φ H Q' := by
  cases r with
  | ok a G => exact fun φ' H' b g rl q => hq _ _ (h φ' H' b g rl q)
  | exc c fs G => exact h
  | stuck => exact h
theorem Run.bnd {f : α → List O → Res γ} {Q : δ → Hp → Prop} (h : Run Z E S (bnd r f) φ H Q) :
    Run Z E R r φ H (fun b H1 => ∃ φ1 G1 a, Fr φ H φ1 H1 ∧ Rel Z.toEv0 φ1 G1 H1 ∧ R φ1 H1 a b ∧ Run Z E S (f a G1) φ1 H1 Q) := by
  cases r with
  | ok a G => exact fun φ' H' b g rl q => ⟨φ', G, a, g, rl, q, h.later g⟩
  | exc c fs G => exact h
  | stuck => exact h
theorem Run.here {a : α} {b : β} (h : Run Z E R (.ok a G) φ H Q) (r : Rel Z.toEv0 φ G H) (q : R φ H a b) : Q b H := h φ H b .refl r q

theorem line_eq {n : Nat} (h : n ≤ 16777216) : n ≤ sizeLine := by rw [sizeLine_eq]; exact h
theorem Run.mkL {m : Bool} {ws : List W} {vs : List V} {Q : V → Hp → Prop} (h : Run Z E (SimR Z) (mkL m ws G) φ H Q) (r : Rel Z.toEv0 φ G H) (s : Sims Z.toEv0 φ H ws vs) :
    vs.length ≤ sizeLine ∧ ∀ p, H p = none → Q (.ref p) (upd H p (.lst vs)) := by
  unfold T2.mkL at h
  split at h
  · rename_i hz
    have hz' : ws.length ≤ 16777216 := by simpa [szOk] using hz
    refine ⟨by rw [← s.len]; exact line_eq hz', fun p hp => ?_⟩
    have o := r.ours
    cases m with
    | true =>
      have f : Fr φ H (φ.add p) (upd H p (.lst vs)) := Fr.mine hp
      refine h _ _ _ f (r.add hp (.lst upd_same (s.keep f o))) (.ref ?_)
      show (φ.l ++ [p])[G.length]? = some p
      rw [← r.len]
      simp
    | false =>
      have f : Fr φ H φ (upd H p (.lst vs)) := Fr.new hp
      refine h _ _ _ f (r.new hp) (.lst ⟨fun hm => ?_, fun hm => ?_, upd_same⟩ (s.keep f o))
      · obtain ⟨u, e, _⟩ := o p (.inl hm)
        rw [hp] at e
        cases e
      · obtain ⟨u, e, _⟩ := o p (.inr hm)
        rw [hp] at e
        cases e
  · exact h.elim

/-- the list that stands there -/
theorem getM_sim {w : W} {v : V} {ws : List W} (r : Rel Z.toEv0 φ G H) (s : Sim Z.toEv0 φ H w v) (h : getM w G = some ws) : ∃ a vs, v = .ref a ∧ H a = some (.lst vs) ∧ Sims Z.toEv0 φ H ws vs := by
  cases w with
  | lst xs =>
    cases h
    cases s with
    | lst f q => exact ⟨_, _, rfl, f.2.2, q⟩
  | ref i =>
    cases s with
    | ref hi =>
      cases hG : G[i]? with
      | none => simp [getM, hG] at h
      | some o =>
        cases o with
        | lst xs =>
          simp [getM, hG] at h
          subst h
          have q := r.obj i _ _ hi hG
          cases q with
          | lst h1 h2 => exact ⟨_, _, rfl, h1, h2⟩
        | dct kvs => simp [getM, hG] at h
  | _ => simp [getM] at h
theorem getL_sim {w : W} {v : V} {ws : List W} (r : Rel Z.toEv0 φ G H) (s : Sim Z.toEv0 φ H w v) (h : getL w G = some ws) : ∃ a vs, v = .ref a ∧ SqL Z.K H a vs ∧ Sims Z.toEv0 φ H ws vs := by
  cases w with
  | scr xs =>
    cases h
    cases s with
    | scr f q => exact ⟨_, _, rfl, f.sq, q⟩
  | lst xs =>
    obtain ⟨a, vs, e, h1, h2⟩ := getM_sim r s (show getM (.lst xs) G = some ws from h)
    exact ⟨a, vs, e, .of h1, h2⟩
  | ref i =>
    obtain ⟨a, vs, e, h1, h2⟩ := getM_sim r s (show getM (.ref i) G = some ws from h)
    exact ⟨a, vs, e, .of h1, h2⟩
  | _ => simp [getL] at h
/-- what is looked at -/
inductive Seen (Z : Ev1) (φ : Ad) (H : Hp) : W → V → Prop where
  | lst {a : Addr} {ws : List W} {vs : List V} : SqL Z.K H a vs → Sims Z.toEv0 φ H ws vs → Seen Z φ H (.lst ws) (.ref a)
  | tup {a : Addr} {ws : List W} {vs : List V} : H a = some (.tup vs) → Sims Z.toEv0 φ H ws vs → Seen Z φ H (.tup ws) (.ref a)
  | oth {w : W} {v : V} : Sim Z.toEv0 φ H w v → (∀ ws, w ≠ .lst ws) → (∀ ws, w ≠ .tup ws) → (∀ ws, w ≠ .scr ws) → Seen Z φ H w v
theorem look_sim {w : W} {v : V} (r : Rel Z.toEv0 φ G H) (s : Sim Z.toEv0 φ H w v) : Seen Z φ H (look w G) v := by
  cases w with
  | lst xs =>
    cases s with
    | lst f q => exact .lst f.sq q
  | scr xs =>
    cases s with
    | scr f q => exact .lst f.sq q
  | tup xs =>
    cases s with
    | tup f q => exact .tup f q
  | ref i =>
    cases hG : G[i]? with
    | none =>
      have : look (.ref i) G = .ref i := by simp [look, hG]
      rw [this]
      exact .oth s (fun _ z => by cases z) (fun _ z => by cases z) (fun _ z => by cases z)
    | some o =>
      cases o with
      | lst xs =>
        have : look (.ref i) G = .lst xs := by simp [look, hG]
        rw [this]
        obtain ⟨a, vs, e, h1, h2⟩ := getM_sim r s (show getM (.ref i) G = some xs by simp [getM, hG])
        subst e
        exact .lst (.of h1) h2
      | dct kvs =>
        have : look (.ref i) G = .ref i := by simp [look, hG]
        rw [this]
        exact .oth s (fun _ z => by cases z) (fun _ z => by cases z) (fun _ z => by cases z)
  | _ => exact .oth s (fun _ z => by cases z) (fun _ z => by cases z) (fun _ z => by cases z)

/-! ### data -/
mutual
theorem dp_of (K : PySem.W.Frag) (hK : K = Z.K) : ∀ {w : W} {v : V}, w.pl = true → Sim Z.toEv0 φ H w v → Dp K H v w.d
  | .non, _, _, h => by cases h; exact .non
  | .bl b, _, _, h => by cases h; exact .bl b
  | .int i, _, _, h => by cases h; exact .int i
  | .str x, _, _, h => by cases h; exact .str _
  | .tup xs, _, n, h => by
    cases h with
    | tup h s => exact .tup (.of h) (dps_of K hK (by simpa [W.pl] using n) s)
  | .lst xs, _, n, h => by
    cases h with
    | lst h s => exact .lst h.sq (dps_of K hK (by simpa [W.pl] using n) s)
  | .scr _, _, n, _ => by simp [W.pl] at n
  | .ref _, _, n, _ => by simp [W.pl] at n
  | .fn k, _, n, _ => by simp [W.pl] at n
theorem dps_of (K : PySem.W.Frag) (hK : K = Z.K) : ∀ {ws : List W} {vs : List V}, W.pls ws = true → Sims Z.toEv0 φ H ws vs → DpAll K H vs (W.ds ws)
  | [], _, _, h => by cases h; exact .nil
  | w :: ws, _, n, h => by
    have n' : w.pl = true ∧ W.pls ws = true := by simpa [W.pls] using n
    cases h with
    | cons h s => exact .cons (dp_of K hK n'.1 h) (dps_of K hK n'.2 s)
end
/-- as data, a list of the heap as it stands -/
theorem dpC {w : W} {v : V} (r : Rel Z.toEv0 φ G H) (s : Sim Z.toEv0 φ H w v) (n : (lookC w G).pl = true) : Dp Z.K H v (lookC w G).d := by
  cases w with
  | ref i =>
    cases hG : G[i]? with
    | none => simp [lookC, hG, W.pl] at n
    | some o =>
      cases o with
      | lst xs =>
        have e : lookC (.ref i) G = .lst xs := by simp [lookC, hG]
        rw [e] at n ⊢
        obtain ⟨a, vs, e, h1, h2⟩ := getM_sim r s (show getM (.ref i) G = some xs by simp [getM, hG])
        subst e
        exact .lst (.of h1) (dps_of Z.K rfl (by simpa [W.pl] using n) h2)
      | dct kvs => simp [lookC, hG, W.pl] at n
  | _ => exact dp_of Z.K rfl n s
mutual
theorem plain_d : ∀ w : W, w.pl = true → w.d.plain = true
  | .non, _ => rfl
  | .bl _, _ => rfl
  | .int _, _ => rfl
  | .str _, _ => rfl
  | .tup xs, n => by
    simp only [W.d, PyData.plain]
    exact plains_d xs (by simpa [W.pl] using n)
  | .lst xs, n => by
    simp only [W.d, PyData.plain]
    exact plains_d xs (by simpa [W.pl] using n)
  | .scr _, n => by simp [W.pl] at n
  | .ref _, n => by simp [W.pl] at n
  | .fn _, n => by simp [W.pl] at n
theorem plains_d : ∀ ws : List W, W.pls ws = true → PyData.plainAll (W.ds ws) = true
  | [], _ => rfl
  | w :: ws, n => by
    have n' : w.pl = true ∧ W.pls ws = true := by simpa [W.pls] using n
    simp only [W.ds, PyData.plainAll, plain_d w n'.1, plains_d ws n'.2, Bool.and_self]
end
mutual
theorem dep_d : ∀ w : W, w.pl = true → w.d.depth = w.dep
  | .non, _ => rfl
  | .bl _, _ => rfl
  | .int _, _ => rfl
  | .str _, _ => rfl
  | .tup xs, n => by
    simp only [W.d, PyData.depth, W.dep]
    rw [deps_d xs (by simpa [W.pl] using n)]
  | .lst xs, n => by
    simp only [W.d, PyData.depth, W.dep]
    rw [deps_d xs (by simpa [W.pl] using n)]
  | .scr _, n => by simp [W.pl] at n
  | .ref _, n => by simp [W.pl] at n
  | .fn _, n => by simp [W.pl] at n
theorem deps_d : ∀ ws : List W, W.pls ws = true → PyData.depthAll (W.ds ws) = W.deps ws
  | [], _ => rfl
  | w :: ws, n => by
    have n' : w.pl = true ∧ W.pls ws = true := by simpa [W.pls] using n
    simp only [W.ds, PyData.depthAll, W.deps, dep_d w n'.1, deps_d ws n'.2]
end
theorem str_beq (a b : List Nat) : ((⟨a.toArray⟩ : Str) == ⟨b.toArray⟩) = (a == b) := by
  by_cases h : a = b
  · subst h
    simp
  · have : (⟨a.toArray⟩ : Str) ≠ ⟨b.toArray⟩ := fun z => h (by simpa using z)
    rw [beq_eq_false_iff_ne.mpr h, beq_eq_false_iff_ne.mpr this]
mutual
theorem eq_d : ∀ a b : W, a.pl = true → b.pl = true → PyData.eqv a.d b.d = W.eq a b
  | .non, b, _, n => by cases b <;> first | rfl | simp [W.pl] at n
  | .bl a, b, _, n => by cases b <;> first | rfl | simp [W.pl] at n
  | .int a, b, _, n => by cases b <;> first | rfl | simp [W.pl] at n
  | .str a, b, _, n => by
    cases b with
    | str b => exact str_beq a b
    | scr _ => simp [W.pl] at n
    | ref _ => simp [W.pl] at n
    | fn _ => simp [W.pl] at n
    | _ => rfl
  | .tup xs, b, m, n => by
    cases b with
    | tup ys => exact eqs_d xs ys (by simpa [W.pl] using m) (by simpa [W.pl] using n)
    | scr _ => simp [W.pl] at n
    | ref _ => simp [W.pl] at n
    | fn _ => simp [W.pl] at n
    | _ => rfl
  | .lst xs, b, m, n => by
    cases b with
    | lst ys => exact eqs_d xs ys (by simpa [W.pl] using m) (by simpa [W.pl] using n)
    | scr _ => simp [W.pl] at n
    | ref _ => simp [W.pl] at n
    | fn _ => simp [W.pl] at n
    | _ => rfl
  | .scr _, _, m, _ => by simp [W.pl] at m
  | .ref _, _, m, _ => by simp [W.pl] at m
  | .fn _, _, m, _ => by simp [W.pl] at m
theorem eqs_d : ∀ a b : List W, W.pls a = true → W.pls b = true → PyData.eqvAll (W.ds a) (W.ds b) = W.eqs a b
  | [], [], _, _ => rfl
  | [], _ :: _, _, _ => rfl
  | _ :: _, [], _, _ => rfl
  | x :: xs, y :: ys, m, n => by
    have m' : x.pl = true ∧ W.pls xs = true := by simpa [W.pls] using m
    have n' : y.pl = true ∧ W.pls ys = true := by simpa [W.pls] using n
    simp only [W.ds, PyData.eqvAll, W.eqs, eq_d x y m'.1 n'.1, eqs_d xs ys m'.2 n'.2]
end
theorem any_d (x : W) (hx : x.pl = true) : ∀ ws : List W, W.pls ws = true → ((W.ds ws).any fun z => PyData.eqv z x.d) = ws.any fun z => W.eq z x
  | [], _ => rfl
  | w :: ws, n => by
    have n' : w.pl = true ∧ W.pls ws = true := by simpa [W.pls] using n
    simp only [W.ds, List.any_cons, eq_d w x n'.1 hx, any_d x hx ws n'.2]
end
end T2
end

section
set_option linter.all false
set_option autoImplicit false
set_option maxRecDepth 100000
set_option maxHeartbeats 2000000
/-! T2: operators, subscripts, slices, calls of built-ins, methods of built-in types, by values. -/
namespace T2
open PySem L2
/-- where code runs: the same written part, nothing handled, room for n calls -/
structure Gd (Z : Ev1) (n : Nat) (X : Cx) : Prop where
  P : X.prog = Z.P
  w : X.w = Z.w
  K : X.K = Z.K
  calm : X.calm = true
  room : Room (n + 2) X.A
section
variable {Z : Ev1} {n : Nat} {X : Cx}
theorem Gd.u (g : Gd Z n X) : X.A.units + 190 < cLine := by have := g.room.un; omega
/-- two values and what the language says of them -/
def r2S (Z : Ev1) (g : W → W → List O → Res W) : R2 := fun x y H Q => ∃ (E : XK) (φ : Ad) (G : List O) (wx wy : W), Rel Z.toEv0 φ G H ∧ Sim Z.toEv0 φ H wx x ∧ Sim Z.toEv0 φ H wy y ∧ Run Z E (SimR Z) (g wx wy G) φ H Q
theorem str_len (x : List Nat) : (⟨x.toArray⟩ : Str).length = x.length := by simp [Str.length]
theorem str_app (x y : List Nat) : (⟨x.toArray⟩ : Str) ++ ⟨y.toArray⟩ = ⟨(x ++ y).toArray⟩ := by
  show Str.append _ _ = _
  simp [Str.append]
theorem szOk_iff {k : Nat} : szOk k = true ↔ k ≤ 16777216 := by simp [szOk]

/-! ### + - * // % ** -/
theorem s_add (g : Gd Z n X) {op : Operator} (h1 : OpR X (binaryOp op) (rI0 fun i j => .int (i + j))) (h2 : OpR X (binaryOp op) (fun x y H Q => ∃ i j, x = .str i ∧ y = .str j ∧ i.length + j.length ≤ sizeLine ∧ Q (.str (i ++ j)) H)) (h3 : OpR X (binaryOp op) (rCatA X.K)) :
    OpR X (binaryOp op) (r2S Z (binW .add)) := by
  intro pins s σ H x y v u Q I rx ry ⟨E, φ, G, wx, wy, rl, sx, sy, run⟩
  cases sx with
  | int i =>
    cases sy with
    | int j => exact h1 pins s σ H _ _ v u Q I rx ry ⟨i, j, rfl, rfl, run.here rl (.int _)⟩
    | _ => exact run.elim
  | str a =>
    cases sy with
    | str b =>
      by_cases hz : szOk (a.length + b.length) = true
      · have run : Run Z E (SimR Z) (if szOk (a.length + b.length) then .ok (.str (a ++ b)) G else .stuck) φ H Q := run
        rw [if_pos hz] at run
        refine h2 pins s σ H _ _ v u Q I rx ry ⟨_, _, rfl, rfl, ?_, ?_⟩
        · rw [str_len, str_len]
          exact line_eq (szOk_iff.mp hz)
        · rw [str_app]
          exact run.here rl (.str _)
      · have run : Run Z E (SimR Z) (if szOk (a.length + b.length) then .ok (.str (a ++ b)) G else .stuck) φ H Q := run
        rw [if_neg hz] at run
        exact run.elim
    | _ => exact run.elim
  | @tup a ws vs t1 s1 =>
    cases sy with
    | @tup b us xs t2 s2 =>
      by_cases hz : szOk (ws.length + us.length) = true
      · have run : Run Z E (SimR Z) (if szOk (ws.length + us.length) then .ok (.tup (ws ++ us)) G else .stuck) φ H Q := run
        rw [if_pos hz] at run
        refine h3 pins s σ H _ _ v u Q I rx ry ⟨_, _, vs, xs, rfl, rfl, by rw [g.K]; exact .of t1, by rw [g.K]; exact .of t2, ?_, fun e => ?_, fun _ e => ?_, fun _ _ p hp => ?_⟩
        · rw [← s1.len, ← s2.len]
          exact line_eq (szOk_iff.mp hz)
        · subst e
          cases s1
          exact run.here rl (.tup t2 (by simpa using s2))
        · subst e
          cases s2
          exact run.here rl (.tup t1 (by simpa using s1))
        · have f : Fr φ H φ (upd H p (.tup (vs ++ xs))) := Fr.new hp
          exact run φ _ _ f (rl.new hp) (.tup upd_same ((s1.app s2).keep f rl.ours))
      · have run : Run Z E (SimR Z) (if szOk (ws.length + us.length) then .ok (.tup (ws ++ us)) G else .stuck) φ H Q := run
        rw [if_neg hz] at run
        exact run.elim
    | _ => exact run.elim
  | _ => exact run.elim
theorem s_addI {f : Value → Value → Sem Value} (h1 : OpR X f (rI0 fun i j => .int (i + j))) (h2 : OpR X f (fun x y H Q => ∃ i j, x = .str i ∧ y = .str j ∧ i.length + j.length ≤ sizeLine ∧ Q (.str (i ++ j)) H)) : OpR X f (r2S Z (binW .addI)) := by
  intro pins s σ H x y v u Q I rx ry ⟨E, φ, G, wx, wy, rl, sx, sy, run⟩
  cases sx with
  | int i =>
    cases sy with
    | int j => exact h1 pins s σ H _ _ v u Q I rx ry ⟨i, j, rfl, rfl, run.here rl (.int _)⟩
    | _ => exact run.elim
  | str a =>
    cases sy with
    | str b =>
      have run : Run Z E (SimR Z) (if szOk (a.length + b.length) then .ok (.str (a ++ b)) G else .stuck) φ H Q := run
      split at run
      · rename_i hz
        refine h2 pins s σ H _ _ v u Q I rx ry ⟨_, _, rfl, rfl, ?_, ?_⟩
        · rw [str_len, str_len]
          exact line_eq (szOk_iff.mp hz)
        · rw [str_app]
          exact run.here rl (.str _)
      · exact run.elim
    | _ => exact run.elim
  | _ => exact run.elim
theorem s_sub {f : Value → Value → Sem Value} (h1 : OpR X f (rI0 fun i j => .int (i - j))) : OpR X f (r2S Z (binW .sub)) := by
  intro pins s σ H x y v u Q I rx ry ⟨E, φ, G, wx, wy, rl, sx, sy, run⟩
  cases sx with
  | int i =>
    cases sy with
    | int j => exact h1 pins s σ H _ _ v u Q I rx ry ⟨i, j, rfl, rfl, run.here rl (.int _)⟩
    | _ => exact run.elim
  | _ => exact run.elim
theorem s_mul {f : Value → Value → Sem Value} (h1 : OpR X f (rI CMul fun i j => .int (i * j))) : OpR X f (r2S Z (binW .mul)) := by
  intro pins s σ H x y v u Q I rx ry ⟨E, φ, G, wx, wy, rl, sx, sy, run⟩
  cases sx with
  | int i =>
    cases sy with
    | int j =>
      have run : Run Z E (SimR Z) (if mulOk i j then .ok (.int (i * j)) G else .stuck) φ H Q := run
      split at run
      · rename_i hm
        refine h1 pins s σ H _ _ v u Q I rx ry ⟨i, j, rfl, rfl, ?_, run.here rl (.int _)⟩
        simp only [mulOk, Bool.or_eq_true, decide_eq_true_eq] at hm
        unfold CMul
        omega
      · exact run.elim
    | _ => exact run.elim
  | _ => exact run.elim
theorem s_fdiv : OpR X (binaryOp .FloorDiv) (r2S Z (binW .fdiv)) := by
  intro pins s σ H x y v u Q I rx ry ⟨E, φ, G, wx, wy, rl, sx, sy, run⟩
  cases sx with
  | int i =>
    cases sy with
    | int j =>
      have run : Run Z E (SimR Z) (if divOk j then .ok (.int (i.fdiv j)) G else .stuck) φ H Q := run
      split at run
      · rename_i hm
        refine op_fdivN pins s σ H _ _ v u Q I rx ry ⟨i, j, rfl, rfl, ?_, run.here rl (.int _)⟩
        simpa [divOk, CDivN] using hm
      · exact run.elim
    | _ => exact run.elim
  | _ => exact run.elim
theorem s_mod : OpR X (binaryOp .Mod) (r2S Z (binW .mod)) := by
  intro pins s σ H x y v u Q I rx ry ⟨E, φ, G, wx, wy, rl, sx, sy, run⟩
  cases sx with
  | int i =>
    cases sy with
    | int j =>
      have run : Run Z E (SimR Z) (if decide (j ≠ 0) then .ok (.int (i.fmod j)) G else .stuck) φ H Q := run
      split at run
      · rename_i hm
        exact op_modN pins s σ H _ _ v u Q I rx ry ⟨i, j, rfl, rfl, by simpa using hm, run.here rl (.int _)⟩
      · exact run.elim
    | _ => exact run.elim
  | _ => exact run.elim
theorem s_pow : OpR X (binaryOp .Pow) (r2S Z (binW .pow)) := by
  intro pins s σ H x y v u Q I rx ry ⟨E, φ, G, wx, wy, rl, sx, sy, run⟩
  cases sx with
  | int i =>
    cases sy with
    | int j =>
      have run : Run Z E (SimR Z) (if powOk i j then .ok (.int (i ^ j.toNat)) G else .stuck) φ H Q := run
      split at run
      · rename_i hm
        refine op_pow pins s σ H _ _ v u Q I rx ry ⟨i, j, rfl, rfl, ?_, run.here rl (.int _)⟩
        simp only [powOk, Bool.and_eq_true, decide_eq_true_eq] at hm
        exact ⟨hm.1.1, by omega, by omega⟩
      · exact run.elim
    | _ => exact run.elim
  | _ => exact run.elim
theorem s_cat {m : Bool} : OpR X (binaryOp .Add) (r2S Z (binW (.cat m))) := by
  intro pins s σ H x y v u Q I rx ry ⟨E, φ, G, wx, wy, rl, sx, sy, run⟩
  cases ha : getM wx G with
  | none => simp only [binW, ha] at run; exact run.elim
  | some xs =>
    cases hb : getM wy G with
    | none => simp only [binW, ha, hb] at run; exact run.elim
    | some ys =>
      simp only [binW, ha, hb] at run
      obtain ⟨a, vs, rfl, h1, q1⟩ := getM_sim rl sx ha
      obtain ⟨b, us, rfl, h2, q2⟩ := getM_sim rl sy hb
      obtain ⟨z, k⟩ := run.mkL rl (q1.app q2)
      exact op_cat pins s σ H _ _ v u Q I rx ry ⟨a, b, vs, us, rfl, rfl, h1, h2, by rw [List.length_append] at z; exact z, k⟩
theorem Sims.rep {φ : Ad} {H : Hp} {ws : List W} {vs : List V} (s : Sims Z.toEv0 φ H ws vs) : ∀ k : Nat, Sims Z.toEv0 φ H (List.replicate k ws).flatten (List.replicate k vs).flatten
  | 0 => .nil
  | k + 1 => by
    rw [List.replicate_succ, List.replicate_succ, List.flatten_cons, List.flatten_cons]
    exact s.app (Sims.rep s k)
theorem flat_arr (a : List Nat) : ∀ (k : Nat) (acc : Array Nat), (List.replicate k a.toArray).foldl (· ++ ·) acc = acc ++ (List.replicate k a).flatten.toArray
  | 0, acc => by simp
  | k + 1, acc => by
    rw [List.replicate_succ, List.foldl_cons, flat_arr a k, List.replicate_succ, List.flatten_cons]
    simp
theorem s_rep {m : Bool} : OpR X (binaryOp .Mult) (r2S Z (binW (.rep m))) := by
  intro pins s σ H x y v u Q I rx ry ⟨E, φ, G, wx, wy, rl, sx, sy, run⟩
  cases ha : getM wx G with
  | none =>
    simp only [binW, ha] at run
    cases sx with
    | str a =>
      cases sy with
      | int k =>
        simp only at run
        split at run
        · rename_i hk
          simp only [Bool.and_eq_true, decide_eq_true_eq] at hk
          obtain ⟨⟨k1, k2⟩, k3⟩ := hk
          have k3 := szOk_iff.mp k3
          obtain ⟨t, rfl⟩ := rx
          obtain ⟨t2, rfl⟩ := ry
          have hz : sizeLine = 16777216 := sizeLine_eq
          have q := run.here rl (.str _)
          refine P.mul_str (by simp; omega) (fun h1 h2 h3 => ?_) (fun h1 h2 => ?_) ?_
          · have hk0 : 0 < k := by omega
            have e1 : (2 ^ 63 - 1) / k < ((⟨a.toArray⟩ : Str).length : Int) := h3
            rw [str_len] at e1
            have e2 := Int.lt_ediv_add_one_mul_self (2 ^ 63 - 1) hk0
            have e3 : ((2 ^ 63 - 1) / k + 1) * k ≤ (a.length : Int) * k := Int.mul_le_mul_of_nonneg_right (by omega) (by omega)
            have e4 : ((a.length * k.toNat : Nat) : Int) = (a.length : Int) * k := by rw [Int.natCast_mul]; congr 1; omega
            omega
          · rw [str_len]
            have : ¬ (a.length * k.toNat > sizeLine) := by omega
            unfold Builtin.Str.tooLong
            exact decide_eq_false this
          · split
            · rename_i h1
              have : k = 0 := by omega
              subst this
              exact ⟨by decide, .str ⟨#[]⟩, H, I.tok _, ⟨_, rfl⟩, q⟩
            · split
              · rename_i h1 h2
                rw [str_len] at h2
                have e : (List.replicate k.toNat a).flatten = a := by
                  simp only [Bool.or_eq_true, beq_iff_eq] at h2
                  rcases h2 with h2 | h2
                  · subst h2
                    simp
                  · have : a = [] := List.length_eq_zero_iff.mp h2
                    subst this
                    simp
                rw [e] at q
                exact ⟨.str _, H, I, ⟨_, rfl⟩, q⟩
              · have e : (⟨(List.replicate k.toNat (⟨a.toArray⟩ : Str).cps).foldl (· ++ ·) #[]⟩ : Str) = ⟨(List.replicate k.toNat a).flatten.toArray⟩ := by
                  show (⟨(List.replicate k.toNat a.toArray).foldl (· ++ ·) #[]⟩ : Str) = _
                  rw [flat_arr]
                  simp
                rw [e]
                exact ⟨by rw [str_len]; rw [PyProof.Rows.lm_len_rep_flat, Nat.mul_comm]; simpa [Nat.mul_comm] using line_eq k3, .str _, H, I.tok _, ⟨_, rfl⟩, q⟩
        · exact run.elim
      | _ => exact run.elim
    | lst f q => simp [getM] at ha
    | _ => exact run.elim
  | some xs =>
    cases sy with
    | int k =>
      simp only [binW, ha] at run
      split at run
      · rename_i hk
        simp only [Bool.and_eq_true, decide_eq_true_eq] at hk
        obtain ⟨a, vs, rfl, h1, q1⟩ := getM_sim rl sx ha
        obtain ⟨z, kk⟩ := run.mkL rl (Sims.rep q1 k.toNat)
        refine op_rep pins s σ H _ _ v u Q I rx ry ⟨a, k, vs, rfl, rfl, h1, by omega, by omega, ?_, kk⟩
        rw [PyProof.Rows.lm_len_rep_flat, Nat.mul_comm] at z
        exact z
      · exact run.elim
    | _ =>
      simp only [binW, ha] at run
      cases wx <;> first | exact run.elim | simp [getM] at ha

/-! ### comparisons -/
theorem room_c {A : Around} {a b : Nat} (h : A.units + 190 < cLine) (z : min a b ≤ 100) : A.units + min a b < cLine := by omega
theorem room_c1 {A : Around} {a b : Nat} (h : A.units + 190 < cLine) (z : min a b ≤ 100) : A.units + 1 + min a b < cLine := by omega
theorem s_eq (g : Gd Z n X) : OpR X (compareOp .Eq) (r2S Z (cmpW .eq)) := by
  intro pins s σ H x y v u Q I rx ry ⟨E, φ, G, wx, wy, rl, sx, sy, run⟩
  simp only [cmpW] at run
  split at run
  · rename_i h
    simp only [Bool.and_eq_true, decide_eq_true_eq] at h
    obtain ⟨as, r1⟩ := Dp.reads I _ x v (by rw [g.K]; exact dpC rl sx h.1.1) rx
    obtain ⟨bs, r2⟩ := Dp.reads I _ y u (by rw [g.K]; exact dpC rl sy h.1.2) ry
    refine PySem.SeqAt.eq_plain r1 r2 (plain_d _ h.1.1) (plain_d _ h.1.2) (by rw [dep_d _ h.1.1, dep_d _ h.1.2]; exact room_c g.u h.2) ?_
    rw [eq_d _ _ h.1.1 h.1.2]
    exact ⟨.bl _, H, I, rfl, run.here rl (.bl _)⟩
  · exact run.elim
theorem s_ne (g : Gd Z n X) : OpR X (compareOp .NotEq) (r2S Z (cmpW .ne)) := by
  intro pins s σ H x y v u Q I rx ry ⟨E, φ, G, wx, wy, rl, sx, sy, run⟩
  simp only [cmpW] at run
  split at run
  · rename_i h
    simp only [Bool.and_eq_true, decide_eq_true_eq] at h
    obtain ⟨as, r1⟩ := Dp.reads I _ x v (by rw [g.K]; exact dpC rl sx h.1.1) rx
    obtain ⟨bs, r2⟩ := Dp.reads I _ y u (by rw [g.K]; exact dpC rl sy h.1.2) ry
    refine PySem.SeqAt.ne_plain r1 r2 (plain_d _ h.1.1) (plain_d _ h.1.2) (by rw [dep_d _ h.1.1, dep_d _ h.1.2]; exact room_c g.u h.2) ?_
    rw [eq_d _ _ h.1.1 h.1.2]
    exact ⟨.bl _, H, I, rfl, run.here rl (.bl _)⟩
  · exact run.elim
theorem non_d {w : W} (h : w.pl = true) (n : w ≠ .non) : w.d ≠ .none := by
  cases w <;> first | exact absurd rfl n | (intro z; cases z)
theorem s_lt (g : Gd Z n X) : OpR X (compareOp .Lt) (r2S Z (cmpW .lt)) := by
  intro pins s σ H x y v u Q I rx ry ⟨E, φ, G, wx, wy, rl, sx, sy, run⟩
  simp only [cmpW] at run
  split at run
  · rename_i h
    simp only [Bool.and_eq_true, decide_eq_true_eq] at h
    obtain ⟨⟨⟨⟨h1, h2⟩, h3⟩, h4⟩, h5⟩ := h
    obtain ⟨as, r1⟩ := Dp.reads I _ x v (by rw [g.K]; exact dpC rl sx h1) rx
    obtain ⟨bs, r2⟩ := Dp.reads I _ y u (by rw [g.K]; exact dpC rl sy h2) ry
    exact PySem.W.lt_data r1 r2 h4 (non_d h1 h5) (by rw [dep_d _ h1, dep_d _ h2]; exact room_c g.u h3) ⟨.bl _, H, I, rfl, run.here rl (.bl _)⟩
  · exact run.elim
theorem s_gt (g : Gd Z n X) : OpR X (compareOp .Gt) (r2S Z (cmpW .gt)) := by
  intro pins s σ H x y v u Q I rx ry ⟨E, φ, G, wx, wy, rl, sx, sy, run⟩
  simp only [cmpW] at run
  split at run
  · rename_i h
    simp only [Bool.and_eq_true, decide_eq_true_eq] at h
    obtain ⟨⟨⟨⟨h1, h2⟩, h3⟩, h4⟩, h5⟩ := h
    obtain ⟨as, r1⟩ := Dp.reads I _ x v (by rw [g.K]; exact dpC rl sx h1) rx
    obtain ⟨bs, r2⟩ := Dp.reads I _ y u (by rw [g.K]; exact dpC rl sy h2) ry
    exact PySem.W.gt_data r1 r2 h4 (non_d h1 h5) (by rw [dep_d _ h1, dep_d _ h2]; exact room_c g.u h3) ⟨.bl _, H, I, rfl, run.here rl (.bl _)⟩
  · exact run.elim
theorem s_le (g : Gd Z n X) : OpR X (compareOp .LtE) (r2S Z (cmpW .le)) := by
  intro pins s σ H x y v u Q I rx ry ⟨E, φ, G, wx, wy, rl, sx, sy, run⟩
  simp only [cmpW] at run
  split at run
  · rename_i h
    simp only [Bool.and_eq_true, decide_eq_true_eq] at h
    obtain ⟨⟨⟨⟨h1, h2⟩, h3⟩, h4⟩, h5⟩ := h
    obtain ⟨as, r1⟩ := Dp.reads I _ x v (by rw [g.K]; exact dpC rl sx h1) rx
    obtain ⟨bs, r2⟩ := Dp.reads I _ y u (by rw [g.K]; exact dpC rl sy h2) ry
    exact PySem.W.le_data r1 r2 h4 (non_d h1 h5) (by rw [dep_d _ h1, dep_d _ h2]; exact room_c g.u h3) ⟨.bl _, H, I, rfl, run.here rl (.bl _)⟩
  · exact run.elim
theorem s_ge (g : Gd Z n X) : OpR X (compareOp .GtE) (r2S Z (cmpW .ge)) := by
  intro pins s σ H x y v u Q I rx ry ⟨E, φ, G, wx, wy, rl, sx, sy, run⟩
  simp only [cmpW] at run
  split at run
  · rename_i h
    simp only [Bool.and_eq_true, decide_eq_true_eq] at h
    obtain ⟨⟨⟨⟨h1, h2⟩, h3⟩, h4⟩, h5⟩ := h
    obtain ⟨as, r1⟩ := Dp.reads I _ x v (by rw [g.K]; exact dpC rl sx h1) rx
    obtain ⟨bs, r2⟩ := Dp.reads I _ y u (by rw [g.K]; exact dpC rl sy h2) ry
    exact PySem.W.ge_data r1 r2 h4 (non_d h1 h5) (by rw [dep_d _ h1, dep_d _ h2]; exact room_c g.u h3) ⟨.bl _, H, I, rfl, run.here rl (.bl _)⟩
  · exact run.elim
/-- what stands behind in -/
inductive InC : W → Prop where
  | lst (ys : List W) : InC (.lst ys)
  | tup (ys : List W) : InC (.tup ys)
  | str (ys : List Nat) : InC (.str ys)
theorem lookC_str {w : W} {G : List O} {ys : List Nat} (h : lookC w G = .str ys) : w = .str ys := by
  cases w with
  | ref i =>
    cases hG : G[i]? with
    | none => simp [lookC, hG] at h
    | some o => cases o <;> simp [lookC, hG] at h
  | _ => simpa [lookC] using h
theorem s_in (g : Gd Z n X) : OpR X (compareOp .In) (r2S Z (cmpW .isin)) := by
  intro pins s σ H x y v u Q I rx ry ⟨E, φ, G, wx, wy, rl, sx, sy, run⟩
  simp only [cmpW] at run
  split at run
  · rename_i ys e
    split at run
    · rename_i h
      simp only [Bool.and_eq_true, decide_eq_true_eq] at h
      obtain ⟨⟨h1, h2⟩, h3⟩ := h
      obtain ⟨as, r1⟩ := Dp.reads I _ x v (by rw [g.K]; exact dpC rl sx h1) rx
      have d2 := dpC rl sy (by rw [e]; simpa [W.pl] using h2)
      rw [e] at d2
      obtain ⟨bs, r2⟩ := Dp.reads I _ y u (by rw [g.K]; exact d2) ry
      refine PySem.SeqAt.in_list_data r2 r1 (plains_d ys h2) (plain_d _ h1) (by rw [deps_d _ h2, dep_d _ h1]; exact room_c1 g.u h3) ?_
      rw [any_d _ h1 ys h2]
      exact ⟨.bl _, H, I, rfl, run.here rl (.bl _)⟩
    · exact run.elim
  · rename_i ys e
    split at run
    · rename_i h
      simp only [Bool.and_eq_true, decide_eq_true_eq] at h
      obtain ⟨⟨h1, h2⟩, h3⟩ := h
      obtain ⟨as, r1⟩ := Dp.reads I _ x v (by rw [g.K]; exact dpC rl sx h1) rx
      have d2 := dpC rl sy (by rw [e]; simpa [W.pl] using h2)
      rw [e] at d2
      obtain ⟨bs, r2⟩ := Dp.reads I _ y u (by rw [g.K]; exact d2) ry
      refine PySem.SeqAt.in_tuple_data r2 r1 (plains_d ys h2) (plain_d _ h1) (by rw [deps_d _ h2, dep_d _ h1]; exact room_c1 g.u h3) ?_
      rw [any_d _ h1 ys h2]
      exact ⟨.bl _, H, I, rfl, run.here rl (.bl _)⟩
    · exact run.elim
  · rename_i ys e
    have ey := lookC_str e
    subst ey
    split at run
    · rename_i c e2
      have ex := lookC_str e2
      subst ex
      cases sx
      cases sy
      exact op_in_sign pins s σ H _ _ v u Q I rx ry ⟨c, ⟨ys.toArray⟩, rfl, rfl, by simpa using run.here rl (.bl _)⟩
    · exact run.elim
  · exact run.elim
theorem s_notin (g : Gd Z n X) : OpR X (compareOp .NotIn) (r2S Z (cmpW .notin)) := by
  intro pins s σ H x y v u Q I rx ry ⟨E, φ, G, wx, wy, rl, sx, sy, run⟩
  simp only [cmpW] at run
  split at run
  · rename_i ys e
    split at run
    · rename_i h
      simp only [Bool.and_eq_true, decide_eq_true_eq] at h
      obtain ⟨⟨h1, h2⟩, h3⟩ := h
      obtain ⟨as, r1⟩ := Dp.reads I _ x v (by rw [g.K]; exact dpC rl sx h1) rx
      have d2 := dpC rl sy (by rw [e]; simpa [W.pl] using h2)
      rw [e] at d2
      obtain ⟨bs, r2⟩ := Dp.reads I _ y u (by rw [g.K]; exact d2) ry
      refine PySem.SeqAt.notIn_list_data r2 r1 (plains_d ys h2) (plain_d _ h1) (by rw [deps_d _ h2, dep_d _ h1]; exact room_c1 g.u h3) ?_
      rw [any_d _ h1 ys h2]
      exact ⟨.bl _, H, I, rfl, run.here rl (.bl _)⟩
    · exact run.elim
  · rename_i ys e
    split at run
    · rename_i h
      simp only [Bool.and_eq_true, decide_eq_true_eq] at h
      obtain ⟨⟨h1, h2⟩, h3⟩ := h
      obtain ⟨as, r1⟩ := Dp.reads I _ x v (by rw [g.K]; exact dpC rl sx h1) rx
      have d2 := dpC rl sy (by rw [e]; simpa [W.pl] using h2)
      rw [e] at d2
      obtain ⟨bs, r2⟩ := Dp.reads I _ y u (by rw [g.K]; exact d2) ry
      refine PySem.SeqAt.notIn_tuple_data r2 r1 (plains_d ys h2) (plain_d _ h1) (by rw [deps_d _ h2, dep_d _ h1]; exact room_c1 g.u h3) ?_
      rw [any_d _ h1 ys h2]
      exact ⟨.bl _, H, I, rfl, run.here rl (.bl _)⟩
    · exact run.elim
  · rename_i ys e
    have ey := lookC_str e
    subst ey
    split at run
    · rename_i c e2
      have ex := lookC_str e2
      subst ex
      cases sx
      cases sy
      exact op_notIn_sign pins s σ H _ _ v u Q I rx ry ⟨c, ⟨ys.toArray⟩, rfl, rfl, by simpa using run.here rl (.bl _)⟩
    · exact run.elim
  · exact run.elim
end
end T2
end

section
set_option linter.all false
set_option autoImplicit false
set_option maxRecDepth 100000
set_option maxHeartbeats 2000000
/-! T2: subscripts, slices, calls of built-ins, methods of built-in types, by values. -/
namespace T2
open PySem L2
section
variable {Z : Ev1} {n : Nat} {X : Cx}
/-! ### xs[i] -/
theorem atI_eq {α : Type} (xs : List α) (i : Int) : atI xs i = atW xs i := by
  unfold atI atW ixN
  by_cases h : 0 ≤ i
  · rw [if_pos h, if_pos h]
    by_cases h2 : i < xs.length
    · rw [if_pos h2]
      rfl
    · rw [if_neg h2]
      have : xs.length ≤ i.toNat := by omega
      rw [List.getElem?_eq_none this]
      rfl
  · rw [if_neg h, if_neg h]
    by_cases h2 : -(xs.length : Int) ≤ i
    · rw [if_pos h2, if_pos h2]
      rfl
    · rw [if_neg h2, if_neg h2]
      rfl
theorem atW_get {xs : List W} {vs : List V} {φ : Ad} {H : Hp} {i : Int} {w : W} (s : Sims Z.toEv0 φ H xs vs) (h : atW xs i = some w) : ∃ v, atI vs i = some v ∧ Sim Z.toEv0 φ H w v := by
  rw [atI_eq]
  unfold atW at h ⊢
  rw [← s.len]
  by_cases h0 : 0 ≤ i
  · rw [if_pos h0] at h ⊢
    exact s.get h
  · rw [if_neg h0] at h ⊢
    by_cases h2 : -(xs.length : Int) ≤ i
    · rw [if_pos h2] at h ⊢
      exact s.get h
    · rw [if_neg h2] at h
      cases h
/-- the subscript of a list, a tuple, a text; of a dict: h -/
theorem s_idx (g : Gd Z n X) (hd : IxR X (fun x y H Q => ∃ (E : XK) (φ : Ad) (G : List O) (r : Nat) (kvs : List (W × W)) (wy : W), G[r]? = some (.dct kvs) ∧ Rel Z.toEv0 φ G H ∧ Sim Z.toEv0 φ H (.ref r) x ∧ Sim Z.toEv0 φ H wy y ∧ Run Z E (SimR Z) (idxW (.ref r) wy G) φ H Q)) :
    IxR X (r2S Z idxW) := by
  intro value slice pins s σ H x y v u Q I rx ry ⟨E, φ, G, wx, wy, rl, sx, sy, run⟩ hs
  have lk := look_sim rl sx
  cases hl : look wx G with
  | lst xs =>
    rw [hl] at lk
    simp only [idxW, hl] at run
    cases lk with
    | lst h1 q1 =>
      cases sy with
      | int i =>
        cases hi : atW xs i with
        | none => simp only [hi] at run; exact run.elim
        | some w =>
          simp only [hi] at run
          obtain ⟨z, e, sz⟩ := atW_get q1 hi
          exact ix_list value slice pins s σ H _ _ v u Q I rx ry ⟨_, _, i, z, rfl, rfl, by rw [g.K]; exact h1, e, run.here rl sz⟩ hs
      | _ => exact run.elim
    | oth _ h _ _ => exact absurd rfl (h xs)
  | tup xs =>
    rw [hl] at lk
    simp only [idxW, hl] at run
    cases lk with
    | tup h1 q1 =>
      cases sy with
      | int i =>
        cases hi : atW xs i with
        | none => simp only [hi] at run; exact run.elim
        | some w =>
          simp only [hi] at run
          obtain ⟨z, e, sz⟩ := atW_get q1 hi
          exact ix_tup value slice pins s σ H _ _ v u Q I rx ry ⟨_, _, i, z, rfl, rfl, by rw [g.K]; exact .of h1, e, run.here rl sz⟩ hs
      | _ => exact run.elim
    | oth _ _ h _ => exact absurd rfl (h xs)
  | str xs =>
    rw [hl] at lk
    simp only [idxW, hl] at run
    cases lk with
    | oth h0 _ _ _ =>
      cases h0
      cases sy with
      | int i =>
        have run : Run Z E (SimR Z) (if szOk xs.length = true then (match atW xs i with | some c => Res.ok (W.str [c]) G | none => Res.stuck) else Res.stuck) φ H Q := run
        by_cases hz : szOk xs.length = true
        · rw [if_pos hz] at run
          cases hi : atW xs i with
          | none => simp only [hi] at run; exact run.elim
          | some c =>
            simp only [hi] at run
            exact ix_str value slice pins s σ H _ _ v u Q I rx ry ⟨_, i, c, rfl, rfl, by rw [str_len]; exact line_eq (szOk_iff.mp hz), by rw [atI_eq]; exact hi, run.here rl (.str [c])⟩ hs
        · rw [if_neg hz] at run
          exact run.elim
      | _ => exact run.elim
  | ref r =>
    have e : wx = .ref r := by
      cases wx with
      | ref i =>
        cases hG : G[i]? with
        | none => simpa [look, hG] using hl
        | some o => cases o <;> simp_all [look]
      | _ => simp [look] at hl
    subst e
    cases hG : G[r]? with
    | none => simp only [idxW, hl, hG] at run; exact run.elim
    | some o =>
      cases o with
      | lst xs => simp [look, hG] at hl
      | dct kvs => exact hd value slice pins s σ H x y v u Q I rx ry ⟨E, φ, G, r, kvs, wy, hG, rl, sx, sy, run⟩ hs
  | scr xs => simp only [idxW, hl] at run; exact run.elim
  | _ => simp only [idxW, hl] at run; exact run.elim
/-! ### slices -/
theorem clip_sIx (n d : Nat) (i : Int) : HT.sIx n d (some i) = clip n i := rfl
theorem cutW_len {α : Type} (xs : List α) (lo hi : Option Int) : (cutW xs lo hi).length ≤ xs.length := by
  unfold cutW
  rw [List.length_take, List.length_drop]
  omega
theorem cutW_eq {α : Type} (xs : List α) (lo hi : Option Int) : cutW xs lo hi = (xs.drop (HT.sIx xs.length 0 lo)).take (HT.sIx xs.length xs.length hi - HT.sIx xs.length 0 lo) := by
  cases lo <;> cases hi <;> rfl
theorem cutV_eq (xs : List V) (lo hi : Option Int) : cutV xs lo hi = cutW xs lo hi := (cutW_eq xs lo hi).symm
theorem Sims.cut {φ : Ad} {H : Hp} {ws : List W} {vs : List V} (s : Sims Z.toEv0 φ H ws vs) (lo hi : Option Int) : Sims Z.toEv0 φ H (cutW ws lo hi) (cutW vs lo hi) := by
  rw [cutW_eq, cutW_eq, s.len]
  exact (s.drop _).take _
theorem cut_all {α : Type} (xs : List α) (lo hi : Option Int) (h : HT.sIx xs.length 0 lo = 0 ∧ HT.sIx xs.length xs.length hi = xs.length) : cutW xs lo hi = xs := by
  rw [cutW_eq, h.1, h.2]
  simp
def rSlS' (Z : Ev1) (m : Bool) : V → Option Int → Option Int → Hp → VK → Prop := fun x lo hi H Q => ∃ (E : XK) (φ : Ad) (G : List O) (wx : W), Rel Z.toEv0 φ G H ∧ Sim Z.toEv0 φ H wx x ∧ Run Z E (SimR Z) (slcW m wx lo hi G) φ H Q
theorem s_slc (g : Gd Z n X) {m : Bool} : SlR X (rSlS' Z m) := by
  intro pins s σ H x v vl vu lo hi sl Q I rx hs pl pu ⟨E, φ, G, wx, rl, sx, run⟩
  have lk := look_sim rl sx
  cases hl : look wx G with
  | lst xs =>
    rw [hl] at lk
    simp only [slcW, hl] at run
    cases lk with
    | @lst a _ vs h1 q1 =>
      obtain ⟨z, k⟩ := run.mkL rl (q1.cut lo hi)
      exact sl_list pins s σ H _ v vl vu lo hi sl Q I rx hs pl pu ⟨a, vs, rfl, by rw [g.K]; exact h1, fun p hp => by rw [cutV_eq]; exact k p hp⟩
    | oth _ h _ _ => exact absurd rfl (h xs)
  | tup xs =>
    rw [hl] at lk
    simp only [slcW, hl] at run
    cases lk with
    | @tup a _ vs h1 q1 =>
      refine sl_tupA pins s σ H _ v vl vu lo hi sl Q I rx hs pl pu ⟨a, vs, rfl, by rw [g.K]; exact .of h1, fun e => ?_, fun _ p hp => ?_⟩
      · refine run.here rl (.tup h1 ?_)
        rw [cut_all xs lo hi (by rw [q1.len]; exact e)]
        exact q1
      · have f : Fr φ H φ (upd H p (.tup (cutV vs lo hi))) := Fr.new hp
        refine run φ _ _ f (rl.new hp) (.tup upd_same ?_)
        rw [cutV_eq]
        exact (q1.cut lo hi).keep f rl.ours
    | oth _ _ h _ => exact absurd rfl (h xs)
  | str xs =>
    rw [hl] at lk
    simp only [slcW, hl] at run
    cases lk with
    | oth h0 _ _ _ =>
      cases h0
      split at run
      · rename_i hz
        refine sl_str pins s σ H _ v vl vu lo hi sl Q I rx hs pl pu ⟨_, rfl, by rw [str_len]; exact line_eq (szOk_iff.mp hz), ?_⟩
        have e : cutS ⟨xs.toArray⟩ lo hi = ⟨(cutW xs lo hi).toArray⟩ := by
          unfold cutS
          rw [str_len, cutW_eq]
        rw [e]
        exact run.here rl (.str _)
      · exact run.elim
  | _ => simp only [slcW, hl] at run; exact run.elim

/-! ### built-ins -/
def rCS (Z : Ev1) (f : List W → List O → Res W) : List V → Hp → VK → Prop := fun xs H Q => ∃ (E : XK) (φ : Ad) (G : List O) (ws : List W), Rel Z.toEv0 φ G H ∧ Sims Z.toEv0 φ H ws xs ∧ Run Z E (SimR Z) (f ws G) φ H Q
theorem b_len (g : Gd Z n X) : CallR X (.builtin "len") (rCS Z (bltW .len)) := by
  intro pins s σ H xs us Q I r ⟨E, φ, G, ws, rl, ss, run⟩
  cases ss with
  | nil => exact run.elim
  | @cons w ws v vs s1 ss =>
    cases ss with
    | cons _ _ => exact run.elim
    | nil =>
      have lk := look_sim rl s1
      cases hl : look w G with
      | lst xs =>
        rw [hl] at lk
        simp only [bltW, hl] at run
        cases lk with
        | @lst a _ vs h1 q1 =>
          refine call_len pins s σ H _ us Q I r ⟨_, vs.length, rfl, .inl ⟨vs, by rw [g.K]; exact h1, rfl⟩, ?_⟩
          rw [← q1.len]
          exact run.here rl (.int _)
        | oth _ h _ _ => exact absurd rfl (h xs)
      | tup xs =>
        rw [hl] at lk
        simp only [bltW, hl] at run
        cases lk with
        | @tup a _ vs h1 q1 =>
          refine call_len pins s σ H _ us Q I r ⟨_, vs.length, rfl, .inr ⟨vs, by rw [g.K]; exact .of h1, rfl⟩, ?_⟩
          rw [← q1.len]
          exact run.here rl (.int _)
        | oth _ _ h _ => exact absurd rfl (h xs)
      | str xs =>
        rw [hl] at lk
        simp only [bltW, hl] at run
        cases lk with
        | oth h0 _ _ _ =>
          cases h0
          split at run
          · rename_i hz
            refine call_len pins s σ H _ us Q I r ⟨_, xs.length, rfl, ⟨by rw [str_len]; exact line_eq (szOk_iff.mp hz), (str_len xs).symm⟩, run.here rl (.int _)⟩
          · exact run.elim
      | _ => simp only [bltW, hl] at run; exact run.elim
theorem b_int : CallR X (.type "int") (rCS Z (bltW .int)) := by
  intro pins s σ H xs us Q I r ⟨E, φ, G, ws, rl, ss, run⟩
  cases ss with
  | nil => exact run.elim
  | @cons w ws v vs s1 ss =>
    cases ss with
    | cons _ _ => exact run.elim
    | nil =>
      cases s1 with
      | int i => exact call_int1 pins s σ H _ us Q I r (.inl ⟨i, rfl, run.here rl (.int _)⟩)
      | bl b => exact call_int1 pins s σ H _ us Q I r (.inr ⟨b, rfl, run.here rl (.int _)⟩)
      | _ => exact run.elim
theorem b_abs : CallR X (.builtin "abs") (rCS Z (bltW .abs)) := by
  intro pins s σ H xs us Q I r ⟨E, φ, G, ws, rl, ss, run⟩
  cases ss with
  | nil => exact run.elim
  | @cons w ws v vs s1 ss =>
    cases ss with
    | cons _ _ => exact run.elim
    | nil =>
      cases s1 with
      | int i => exact call_abs pins s σ H _ us Q I r ⟨i, rfl, run.here rl (.int _)⟩
      | _ => exact run.elim
theorem b_min2 (g : Gd Z n X) : CallR X (.builtin "min") (rCS Z (bltW .min2)) := by
  intro pins s σ H xs us Q I r ⟨E, φ, G, ws, rl, ss, run⟩
  cases ss with
  | nil => exact run.elim
  | @cons w ws v vs s1 ss =>
    cases ss with
    | nil => exact run.elim
    | @cons w2 ws v2 vs s2 ss =>
      cases ss with
      | cons _ _ => exact run.elim
      | nil =>
        cases s1 with
        | int i =>
          cases s2 with
          | int j => exact call_min2 g.calm pins s σ H _ us Q I r ⟨i, j, rfl, run.here rl (.int _)⟩
          | _ => exact run.elim
        | _ => exact run.elim
theorem b_max2 (g : Gd Z n X) : CallR X (.builtin "max") (rCS Z (bltW .max2)) := by
  intro pins s σ H xs us Q I r ⟨E, φ, G, ws, rl, ss, run⟩
  cases ss with
  | nil => exact run.elim
  | @cons w ws v vs s1 ss =>
    cases ss with
    | nil => exact run.elim
    | @cons w2 ws v2 vs s2 ss =>
      cases ss with
      | cons _ _ => exact run.elim
      | nil =>
        cases s1 with
        | int i =>
          cases s2 with
          | int j => exact call_max2 g.calm pins s σ H _ us Q I r ⟨i, j, rfl, run.here rl (.int _)⟩
          | _ => exact run.elim
        | _ => exact run.elim
/-- a call with one argument -/
theorem one_arg' {φ : Ad} {G : List O} {H : Hp} {E : XK} {Q : VK} {ws : List W} {xs : List V} (b : Blt) (h0 : ∀ ws G, ws.length ≠ 1 → bltW b ws G = .stuck) (ss : Sims Z.toEv0 φ H ws xs) (run : Run Z E (SimR Z) (bltW b ws G) φ H Q) :
    ∃ w v, ws = [w] ∧ xs = [v] ∧ Sim Z.toEv0 φ H w v := by
  cases ss with
  | nil => rw [h0 [] G (by simp)] at run; exact run.elim
  | @cons w ws v vs s1 ss =>
    cases ss with
    | cons _ _ => rw [h0 _ G (by simp)] at run; exact run.elim
    | nil => exact ⟨w, v, rfl, rfl, s1⟩
theorem b_sum (g : Gd Z n X) : CallR X (.builtin "sum") (rCS Z (bltW .sum)) := by
  intro pins s σ H xs us Q I r ⟨E, φ, G, ws, rl, ss, run⟩
  obtain ⟨w, v, rfl, rfl, s1⟩ := one_arg' .sum (fun ws G h => by rcases ws with _ | ⟨_, _ | _⟩ <;> first | rfl | exact absurd rfl h) ss run
  cases hl : getL w G with
  | none => simp only [bltW, hl, Option.bind] at run; exact run.elim
  | some ys =>
    cases hn : ints? ys with
    | none => simp only [bltW, hl, Option.bind, hn] at run; exact run.elim
    | some ns =>
      simp only [bltW, hl, Option.bind, hn] at run
      obtain ⟨a, vs, rfl, h1, q1⟩ := getL_sim rl s1 hl
      have e := q1.of_ints hn
      subst e
      exact cr_sum g.calm pins s σ H _ us Q I r ⟨a, ns, rfl, by rw [g.K]; exact h1, run.here rl (.int _)⟩
theorem b_any (g : Gd Z n X) : CallR X (.builtin "any") (rCS Z (bltW .any)) := by
  intro pins s σ H xs us Q I r ⟨E, φ, G, ws, rl, ss, run⟩
  obtain ⟨w, v, rfl, rfl, s1⟩ := one_arg' .any (fun ws G h => by rcases ws with _ | ⟨_, _ | _⟩ <;> first | rfl | exact absurd rfl h) ss run
  cases hl : getL w G with
  | none => simp only [bltW, hl, Option.bind] at run; exact run.elim
  | some ys =>
    cases hn : bls? ys with
    | none => simp only [bltW, hl, Option.bind, hn] at run; exact run.elim
    | some ns =>
      simp only [bltW, hl, Option.bind, hn] at run
      obtain ⟨a, vs, rfl, h1, q1⟩ := getL_sim rl s1 hl
      have e := q1.of_bls hn
      subst e
      exact cr_any g.calm pins s σ H _ us Q I r ⟨a, ns, rfl, by rw [g.K]; exact h1, run.here rl (.bl _)⟩
theorem b_all (g : Gd Z n X) : CallR X (.builtin "all") (rCS Z (bltW .all)) := by
  intro pins s σ H xs us Q I r ⟨E, φ, G, ws, rl, ss, run⟩
  obtain ⟨w, v, rfl, rfl, s1⟩ := one_arg' .all (fun ws G h => by rcases ws with _ | ⟨_, _ | _⟩ <;> first | rfl | exact absurd rfl h) ss run
  cases hl : getL w G with
  | none => simp only [bltW, hl, Option.bind] at run; exact run.elim
  | some ys =>
    cases hn : bls? ys with
    | none => simp only [bltW, hl, Option.bind, hn] at run; exact run.elim
    | some ns =>
      simp only [bltW, hl, Option.bind, hn] at run
      obtain ⟨a, vs, rfl, h1, q1⟩ := getL_sim rl s1 hl
      have e := q1.of_bls hn
      subst e
      exact cr_all g.calm pins s σ H _ us Q I r ⟨a, ns, rfl, by rw [g.K]; exact h1, run.here rl (.bl _)⟩
theorem b_tuple (g : Gd Z n X) : CallR X (.type "tuple") (rCS Z (bltW .tuple)) := by
  intro pins s σ H xs us Q I r ⟨E, φ, G, ws, rl, ss, run⟩
  obtain ⟨w, v, rfl, rfl, s1⟩ := one_arg' .tuple (fun ws G h => by rcases ws with _ | ⟨_, _ | _⟩ <;> first | rfl | exact absurd rfl h) ss run
  have lk := look_sim rl s1
  cases hl : look w G with
  | lst xs =>
    rw [hl] at lk
    simp only [bltW, hl] at run
    cases lk with
    | @lst a _ vs h1 q1 =>
      refine call_tuple_of pins s σ H _ us Q I r ⟨a, vs, rfl, .inl ⟨by rw [g.K]; exact h1, fun p hp => ?_⟩⟩
      have f : Fr φ H φ (upd H p (.tup vs)) := Fr.new hp
      exact run φ _ _ f (rl.new hp) (.tup upd_same (q1.keep f rl.ours))
    | oth _ h _ _ => exact absurd rfl (h xs)
  | tup xs =>
    rw [hl] at lk
    simp only [bltW, hl] at run
    cases lk with
    | @tup a _ vs h1 q1 => exact call_tuple_of pins s σ H _ us Q I r ⟨a, vs, rfl, .inr ⟨by rw [g.K]; exact .of h1, run.here rl (.tup h1 q1)⟩⟩
    | oth _ _ h _ => exact absurd rfl (h xs)
  | _ => simp only [bltW, hl] at run; exact run.elim
theorem b_list (g : Gd Z n X) {m : Bool} : CallR X (.type "list") (rCS Z (bltW (.list m))) := by
  intro pins s σ H xs us Q I r ⟨E, φ, G, ws, rl, ss, run⟩
  obtain ⟨w, v, rfl, rfl, s1⟩ := one_arg' (.list m) (fun ws G h => by rcases ws with _ | ⟨_, _ | _⟩ <;> first | rfl | exact absurd rfl h) ss run
  have lk := look_sim rl s1
  cases hl : look w G with
  | lst xs =>
    rw [hl] at lk
    simp only [bltW, hl] at run
    cases lk with
    | @lst a _ vs h1 q1 =>
      obtain ⟨z, k⟩ := run.mkL rl q1
      exact call_list_of pins s σ H _ us Q I r ⟨a, vs, rfl, .inl (by rw [g.K]; exact h1), k⟩
    | oth _ h _ _ => exact absurd rfl (h xs)
  | tup xs =>
    rw [hl] at lk
    simp only [bltW, hl] at run
    cases lk with
    | @tup a _ vs h1 q1 =>
      obtain ⟨z, k⟩ := run.mkL rl q1
      exact call_list_of pins s σ H _ us Q I r ⟨a, vs, rfl, .inr (by rw [g.K]; exact .of h1), k⟩
    | oth _ _ h _ => exact absurd rfl (h xs)
  | _ => simp only [bltW, hl] at run; exact run.elim
end
end T2
end

section
set_option linter.all false
set_option autoImplicit false
set_option maxRecDepth 100000
set_option maxHeartbeats 2000000
/-! T2: sorted, min, max, methods of lists and texts, stores, isinstance, by values. -/
namespace T2
open PySem L2
section
variable {Z : Ev1} {n : Nat} {X : Cx}
theorem allAlike_mem : ∀ {xs : List W}, allAlike xs = true → ∀ a ∈ xs, ∀ b ∈ xs, PySem.W.alike a.d b.d = true
  | [], _, _, h, _, _ => by simp at h
  | x :: xs, h, a, ha, b, hb => by
    have h' : (∀ y ∈ x :: xs, W.alike x y = true ∧ W.alike y x = true) ∧ allAlike xs = true := by
      simp only [allAlike, Bool.and_eq_true, List.all_eq_true] at h
      exact h
    rcases List.mem_cons.mp ha with e | ha'
    · subst e
      exact (h'.1 b hb).1
    · rcases List.mem_cons.mp hb with e | hb'
      · subst e
        exact (h'.1 a ha).2
      · exact allAlike_mem h'.2 a ha' b hb'
theorem pls_mem {xs : List W} (h : W.pls xs = true) {a : W} (ha : a ∈ xs) : a.pl = true := by
  rw [W.pls_all, List.all_eq_true] at h
  exact h a ha
theorem deps_mem : ∀ {xs : List W} {a : W}, a ∈ xs → a.dep ≤ W.deps xs
  | x :: xs, a, h => by
    rcases List.mem_cons.mp h with e | h
    · subst e
      exact Nat.le_max_left _ _
    · exact Nat.le_trans (deps_mem h) (Nat.le_max_right _ _)
  | [], _, h => by simp at h
/-- the items of a list, item by item -/
theorem each_of {φ : Ad} {H : Hp} : ∀ {ws : List W} {vs : List V} {its : List Value}, Sims Z.toEv0 φ H ws vs → Vals vs its → PySem.W.EachIs (fun u w => ∃ x, RelV x u ∧ Sim Z.toEv0 φ H w x) its ws
  | _, _, _, .nil, .nil => .nil
  | _, _, _, .cons h s, .cons r t => .cons ⟨_, r, h⟩ (each_of s t)
theorem of_each {φ : Ad} {H : Hp} : ∀ {ws : List W} {its : List Value}, PySem.W.EachIs (fun u w => ∃ x, RelV x u ∧ Sim Z.toEv0 φ H w x) its ws → ∃ vs, Vals vs its ∧ Sims Z.toEv0 φ H ws vs
  | _, _, .nil => ⟨[], .nil, .nil⟩
  | _, _, .cons h t => by
    obtain ⟨x, r, s⟩ := h
    obtain ⟨vs, rv, ss⟩ := of_each t
    exact ⟨x :: vs, .cons r rv, .cons s ss⟩
theorem each_reads {pins : List (Addr × Obj)} {σ : L2.St} {s : Shared} {φ : Ad} {H : Hp} (I : L2.Inv X pins σ H s) (hK : X.K = Z.K) : ∀ {ws : List W} {vs : List V} {its : List Value}, W.pls ws = true → Sims Z.toEv0 φ H ws vs → Vals vs its → PySem.W.EachIs (fun u w => ∃ as, Reads s.heap u w.d as) its ws
  | [], _, _, _, .nil, .nil => .nil
  | w :: ws, _, _, p, .cons h t, .cons r q => by
    have p' : w.pl = true ∧ W.pls ws = true := by simpa [W.pls] using p
    exact .cons (Dp.reads I _ _ _ (dp_of X.K hK p'.1 h) r) (each_reads I hK p'.2 t q)
theorem sortable_iff {xs : List W} (h : sortable xs = true) : W.pls xs = true ∧ W.deps xs ≤ 100 ∧ allAlike xs = true ∧ PySem.W.Sortable (xs.map W.d) := by
  simp only [sortable, Bool.and_eq_true, Bool.or_eq_true, decide_eq_true_eq] at h
  obtain ⟨⟨⟨h1, h2⟩, h3⟩, h4⟩ := h
  refine ⟨h1, h2, h3, ?_⟩
  rcases h4 with h4 | h4
  · refine .inl fun d hd => ?_
    obtain ⟨x, hx, rfl⟩ := List.mem_map.mp hd
    have q := List.all_eq_true.mp h4 x hx
    cases x with
    | tup ys =>
      cases ys with
      | nil => simp [isTup] at q
      | cons y ys => exact ⟨y.d, W.ds ys, rfl⟩
    | _ => simp [isTup] at q
  · refine .inr fun d hd => ?_
    obtain ⟨x, hx, rfl⟩ := List.mem_map.mp hd
    have q := List.all_eq_true.mp h4 x hx
    simp only [Bool.and_eq_true, decide_eq_true_eq, Bool.not_eq_true'] at q
    refine ⟨non_d (pls_mem h1 hx) q.1, fun ys z => ?_⟩
    cases x with
    | tup ys => simp [isTup0] at q
    | _ => cases z
theorem b_sorted (g : Gd Z n X) {m : Bool} : CallR X (.builtin "sorted") (rCS Z (bltW (.sorted m))) := by
  intro pins s σ H xs us Q I r ⟨E, φ, G, ws, rl, ss, run⟩
  obtain ⟨w, v, rfl, rfl, s1⟩ := one_arg' (.sorted m) (fun ws G h => by rcases ws with _ | ⟨_, _ | _⟩ <;> first | rfl | exact absurd rfl h) ss run
  cases hl : getL w G with
  | none => simp only [bltW, hl] at run; exact run.elim
  | some ys =>
    simp only [bltW, hl] at run
    by_cases hS : sortable ys = true
    · rw [if_pos hS] at run
      obtain ⟨h1, h2, h3, h4⟩ := sortable_iff hS
      obtain ⟨a, vs, rfl, hsq, q1⟩ := getL_sim rl s1 hl
      obtain ⟨its, rv, pl, hz⟩ := I.list (by rw [g.K]; exact hsq)
      rw [Vals.ref1 r]
      refine PySem.W.sorted_data (enc := W.d) (bs := ys) (R := fun u w => ∃ x, RelV x u ∧ Sim Z.toEv0 φ H w x) pl.isList (each_of q1 rv) (each_reads I g.K h1 q1 rv) (fun d hd d' hd' => ?_) h4 (by rw [q1.len]; exact hz) (fun b hb => ?_) fun out ho he => ?_
      · obtain ⟨x, hx, rfl⟩ := List.mem_map.mp hd
        obtain ⟨y, hy, rfl⟩ := List.mem_map.mp hd'
        exact allAlike_mem h3 x hx y hy
      · have := deps_mem hb
        have := g.u
        rw [dep_d b (pls_mem h1 hb)]
        omega
      · obtain ⟨zs, rz, sz⟩ := of_each he
        obtain ⟨z, k⟩ := run.mkL rl sz
        obtain ⟨ep, he'⟩ := PyProof.Rows.sortedAll_at s.heap its out.toArray
        exact ⟨.ref _, upd H (s.heap.objs.size + 1) (.lst zs), I.laid (t' := s.toks) (fun _ _ => PyProof.Rows.sortedAll_old) (Nat.le_succ _) ⟨z, out, ep, rz, he'⟩, rfl, k _ (I.hok.fresh (Nat.le_succ _))⟩
    · rw [if_neg hS] at run
      exact run.elim

/-! ### min, max -/
mutual
theorem d_inj : ∀ {a b : W}, a.pl = true → b.pl = true → a.d = b.d → a = b
  | .non, b, _, n, e => by cases b <;> first | rfl | cases e | simp [W.pl] at n
  | .bl x, b, _, n, e => by cases b <;> first | (cases e; rfl) | cases e | simp [W.pl] at n
  | .int x, b, _, n, e => by cases b <;> first | (cases e; rfl) | cases e | simp [W.pl] at n
  | .str x, b, _, n, e => by
    cases b with
    | str y =>
      have e : PyData.str ⟨x.toArray⟩ = PyData.str ⟨y.toArray⟩ := e
      injection e with e
      injection e with e
      have : x = y := by simpa using congrArg Array.toList e
      rw [this]
    | _ => first | cases e | simp [W.pl] at n
  | .tup x, b, m, n, e => by
    cases b with
    | tup y =>
      have e : PyData.tuple (W.ds x) = PyData.tuple (W.ds y) := e
      injection e with e
      rw [ds_inj (by simpa [W.pl] using m) (by simpa [W.pl] using n) e]
    | _ => first | cases e | simp [W.pl] at n
  | .lst x, b, m, n, e => by
    cases b with
    | lst y =>
      have e : PyData.list (W.ds x) = PyData.list (W.ds y) := e
      injection e with e
      rw [ds_inj (by simpa [W.pl] using m) (by simpa [W.pl] using n) e]
    | _ => first | cases e | simp [W.pl] at n
  | .scr _, _, m, _, _ => by simp [W.pl] at m
  | .ref _, _, m, _, _ => by simp [W.pl] at m
  | .fn _, _, m, _, _ => by simp [W.pl] at m
theorem ds_inj : ∀ {a b : List W}, W.pls a = true → W.pls b = true → W.ds a = W.ds b → a = b
  | [], [], _, _, _ => rfl
  | [], _ :: _, _, _, e => by simp [W.ds] at e
  | _ :: _, [], _, _, e => by simp [W.ds] at e
  | x :: xs, y :: ys, m, n, e => by
    have m' : x.pl = true ∧ W.pls xs = true := by simpa [W.pls] using m
    have n' : y.pl = true ∧ W.pls ys = true := by simpa [W.pls] using n
    have e' : x.d = y.d ∧ W.ds xs = W.ds ys := by simpa [W.ds] using e
    rw [d_inj m'.1 n'.1 e'.1, ds_inj m'.2 n'.2 e'.2]
end
theorem leastW_d (xs : List W) : ∀ x : W, (leastW x xs).d = PySem.W.minD x.d (W.ds xs) := by
  induction xs with
  | nil => intro x; rfl
  | cons y ys ih =>
    intro x
    show (leastW (if W.lt y x then y else x) ys).d = PySem.W.minD (if PySem.W.dataLt y.d x.d then y.d else x.d) (W.ds ys)
    rw [ih]
    congr 1
    show (if PySem.W.dataLt y.d x.d = true then y else x).d = _
    split <;> rfl
theorem mostW_d (xs : List W) : ∀ x : W, (mostW x xs).d = PySem.W.maxD x.d (W.ds xs) := by
  induction xs with
  | nil => intro x; rfl
  | cons y ys ih =>
    intro x
    show (mostW (if W.lt x y then y else x) ys).d = PySem.W.maxD (if PySem.W.dataLt x.d y.d then y.d else x.d) (W.ds ys)
    rw [ih]
    congr 1
    show (if PySem.W.dataLt x.d y.d = true then y else x).d = _
    split <;> rfl
theorem leastW_mem (xs : List W) : ∀ x : W, leastW x xs ∈ x :: xs := by
  induction xs with
  | nil => intro x; simp [leastW]
  | cons y ys ih =>
    intro x
    have h := ih (if W.lt y x then y else x)
    show leastW (if W.lt y x then y else x) ys ∈ _
    rcases List.mem_cons.mp h with e | h
    · rw [e]
      split <;> simp
    · exact List.mem_cons_of_mem _ (List.mem_cons_of_mem _ h)
theorem mostW_mem (xs : List W) : ∀ x : W, mostW x xs ∈ x :: xs := by
  induction xs with
  | nil => intro x; simp [mostW]
  | cons y ys ih =>
    intro x
    have h := ih (if W.lt x y then y else x)
    show mostW (if W.lt x y then y else x) ys ∈ _
    rcases List.mem_cons.mp h with e | h
    · rw [e]
      split <;> simp
    · exact List.mem_cons_of_mem _ (List.mem_cons_of_mem _ h)
theorem alikeAll_of {x : W} {xs : List W} (h1 : W.pls (x :: xs) = true) (h3 : allAlike (x :: xs) = true) (h4 : x ≠ .non) : PySem.W.AlikeAll (W.ds (x :: xs)) := by
  rw [W.ds_map]
  refine ⟨fun d hd d' hd' => ?_, fun d hd z => ?_⟩
  · obtain ⟨a, ha, rfl⟩ := List.mem_map.mp hd
    obtain ⟨b, hb, rfl⟩ := List.mem_map.mp hd'
    exact allAlike_mem h3 a ha b hb
  · obtain ⟨a, ha, rfl⟩ := List.mem_map.mp hd
    have q := allAlike_mem h3 x List.mem_cons_self a ha
    rw [z] at q
    have p := non_d (pls_mem h1 List.mem_cons_self) h4
    cases hx : x.d with
    | none => exact p hx
    | _ => rw [hx] at q; simp [PySem.W.alike] at q
/-- the item that is found -/
theorem item_of {pins : List (Addr × Obj)} {σ : L2.St} {s : Shared} {φ : Ad} {H : Hp} {ws : List W} {vs : List V} {its : List Value} {i : Nat} {u : Value} {h' : Heap} {as : List Addr} {w : W} (I : L2.Inv X pins σ H s) (hK : X.K = Z.K) (hp : W.pls ws = true) (q : Sims Z.toEv0 φ H ws vs) (rv : Vals vs its)
    (hi : its.toArray[i]? = some u) (hr : Reads h' u w.d as) (hk : ∀ b o, s.heap.get? b = some o → h'.get? b = some o) (hw : w ∈ ws) : ∃ x, RelV x u ∧ Sim Z.toEv0 φ H w x := by
  have hi : its[i]? = some u := by simpa using hi
  have hl : i < its.length := (List.getElem?_eq_some_iff.mp hi).1
  have hlw : i < ws.length := by rw [q.len, rv.length]; exact hl
  obtain ⟨x, hx, sx⟩ := q.get (i := i) (w := ws[i]) (by simp)
  obtain ⟨u', hu', ru⟩ := rv.get hx
  rw [hi] at hu'
  cases hu'
  have px : (ws[i]).pl = true := pls_mem hp (List.getElem_mem _)
  obtain ⟨bs, rd⟩ := Dp.reads I _ x u (dp_of X.K hK px sx) ru
  have e := PySem.SeqAt.plain_unique _ _ _ _ _ (plain_d _ px) (PyProof.Rows.Reads.keeps hk rd) hr
  have e2 := d_inj px (pls_mem hp hw) e
  rw [← e2]
  exact ⟨x, ru, sx⟩
theorem b_min1 (g : Gd Z n X) : CallR X (.builtin "min") (rCS Z (bltW .min1)) := by
  intro pins s σ H xs us Q I r ⟨E, φ, G, ws, rl, ss, run⟩
  obtain ⟨w, v, rfl, rfl, s1⟩ := one_arg' .min1 (fun ws G h => by rcases ws with _ | ⟨_, _ | _⟩ <;> first | rfl | exact absurd rfl h) ss run
  cases hl : getL w G with
  | none => simp only [bltW, hl] at run; exact run.elim
  | some ys =>
    cases ys with
    | nil => simp only [bltW, hl] at run; exact run.elim
    | cons y ys =>
      simp only [bltW, hl] at run
      split at run
      · rename_i hc
        simp only [Bool.and_eq_true, decide_eq_true_eq] at hc
        obtain ⟨⟨⟨h1, h2⟩, h3⟩, h4⟩ := hc
        obtain ⟨a, vs, rfl, hsq, q1⟩ := getL_sim rl s1 hl
        obtain ⟨its, rv, pl, hz⟩ := I.list (by rw [g.K]; exact hsq)
        have dl : Dp X.K H (.ref a) (.list (W.ds (y :: ys))) := .lst (by rw [g.K]; exact hsq) (dps_of X.K g.K h1 q1)
        rw [Vals.ref1 r]
        obtain ⟨as, ra⟩ := Dp.readsAll I _ vs its (dps_of X.K g.K h1 q1) rv
        refine PySem.W.min_list_data (I.ok.hd g.calm) pl.isList (by simpa [W.ds] using ra) (alikeAll_of h1 h3 h4) (by have := g.u; have e := deps_d _ h1; simp only [W.ds] at e; rw [e]; omega) fun i u h' tk bs hi hr hk => ?_
        obtain ⟨x, ru, sx⟩ := item_of (w := leastW y ys) I g.K h1 q1 rv hi (by rw [leastW_d]; exact hr) hk (leastW_mem ys y)
        exact ⟨x, H, I.kept hk, ru, run.here rl sx⟩
      · exact run.elim
theorem b_max1 (g : Gd Z n X) : CallR X (.builtin "max") (rCS Z (bltW .max1)) := by
  intro pins s σ H xs us Q I r ⟨E, φ, G, ws, rl, ss, run⟩
  obtain ⟨w, v, rfl, rfl, s1⟩ := one_arg' .max1 (fun ws G h => by rcases ws with _ | ⟨_, _ | _⟩ <;> first | rfl | exact absurd rfl h) ss run
  cases hl : getL w G with
  | none => simp only [bltW, hl] at run; exact run.elim
  | some ys =>
    cases ys with
    | nil => simp only [bltW, hl] at run; exact run.elim
    | cons y ys =>
      simp only [bltW, hl] at run
      split at run
      · rename_i hc
        simp only [Bool.and_eq_true, decide_eq_true_eq] at hc
        obtain ⟨⟨⟨h1, h2⟩, h3⟩, h4⟩ := hc
        obtain ⟨a, vs, rfl, hsq, q1⟩ := getL_sim rl s1 hl
        obtain ⟨its, rv, pl, hz⟩ := I.list (by rw [g.K]; exact hsq)
        rw [Vals.ref1 r]
        obtain ⟨as, ra⟩ := Dp.readsAll I _ vs its (dps_of X.K g.K h1 q1) rv
        refine PySem.W.max_list_data (I.ok.hd g.calm) pl.isList (by simpa [W.ds] using ra) (alikeAll_of h1 h3 h4) (by have := g.u; have e := deps_d _ h1; simp only [W.ds] at e; rw [e]; omega) fun i u h' tk bs hi hr hk => ?_
        obtain ⟨x, ru, sx⟩ := item_of (w := mostW y ys) I g.K h1 q1 rv hi (by rw [mostW_d]; exact hr) hk (mostW_mem ys y)
        exact ⟨x, H, I.kept hk, ru, run.here rl sx⟩
      · exact run.elim

/-! ### methods -/
/-- a method: what is asked of the receiver, the arguments and the heap -/
def rMS (Z : Ev1) (b : Bm) : V → List V → Hp → VK → Prop := fun x xs H Q => ∃ (E : XK) (φ : Ad) (G : List O) (w : W) (ws : List W), Rel Z.toEv0 φ G H ∧ Sim Z.toEv0 φ H w x ∧ Sims Z.toEv0 φ H ws xs ∧ Run Z E (SimR Z) (bmW b w ws G) φ H Q
theorem Run.put {E : XK} {φ : Ad} {G : List O} {H : Hp} {Q : V → Hp → Prop} {i : Nat} {a : Addr} {w : W} {v : V} {ws ws' : List W} {vs : List V} (run : Run Z E (SimR Z) (.ok w (G.set i (.lst ws))) φ H Q) (rl : Rel Z.toEv0 φ G H) (h : φ.l[i]? = some a) (hG : G[i]? = some (.lst ws'))
    (s : Sims Z.toEv0 φ H ws vs) (sv : Sim Z.toEv0 φ H w v) : Q v (upd H a (.lst vs)) := by
  have f : Fr φ H φ (upd H a (.lst vs)) := Fr.put (List.mem_of_getElem? h)
  exact run φ _ _ f (rl.put h (List.getElem?_eq_some_iff.mp hG).1 ⟨fun _ z => (by cases z), fun _ _ z => (by cases z)⟩ (.lst upd_same (s.keep f rl.ours))) (sv.keep f rl.ours)
theorem m_append : MtR X "list.append" (rMS Z .append) := by
  intro pins s σ H x xs v us Q I rx rs ⟨E, φ, G, w, ws, rl, s1, ss, run⟩
  cases s1 with
  | @ref i a hi =>
    cases ss with
    | nil => exact run.elim
    | @cons w1 ws v1 vs s2 ss =>
      cases ss with
      | cons _ _ => exact run.elim
      | nil =>
        cases hG : G[i]? with
        | none => simp only [bmW, hG] at run; exact run.elim
        | some o =>
          cases o with
          | dct _ => simp only [bmW, hG] at run; exact run.elim
          | lst ys =>
            simp only [bmW, hG] at run
            split at run
            · rename_i hz
              have hz : ys.length < 16777216 := by simpa using hz
              have q := rl.obj i a _ hi hG
              cases q with
              | @lst _ zs h1 q1 =>
                refine mt_append pins s σ H _ _ v us Q I rx rs ⟨a, zs, v1, rfl, rfl, h1, ?_, run.put rl hi hG (q1.app (.cons s2 .nil)) .non⟩
                rw [← q1.len, sizeLine_eq]
                exact hz
            · exact run.elim
  | _ => exact run.elim
theorem m_extend : MtR X "list.extend" (rMS Z .extend) := by
  intro pins s σ H x xs v us Q I rx rs ⟨E, φ, G, w, ws, rl, s1, ss, run⟩
  cases s1 with
  | @ref i a hi =>
    cases ss with
    | nil => exact run.elim
    | @cons w1 ws v1 vs s2 ss =>
      cases ss with
      | cons _ _ => exact run.elim
      | nil =>
        cases hG : G[i]? with
        | none => simp only [bmW, hG] at run; exact run.elim
        | some o =>
          cases o with
          | dct _ => simp only [bmW, hG] at run; exact run.elim
          | lst ys =>
            cases hM : getM w1 G with
            | none =>
              simp only [bmW, hG, hM] at run
              exact run.elim
            | some us' =>
              simp only [bmW, hG, hM] at run
              split at run
              · rename_i hz
                have hz := szOk_iff.mp hz
                have q := rl.obj i a _ hi hG
                obtain ⟨b, ts, rfl, hb, q2⟩ := getM_sim rl s2 hM
                cases q with
                | @lst _ zs h1 q1 =>
                  refine mt_extend pins s σ H _ _ v us Q I rx rs ⟨a, b, zs, ts, rfl, rfl, h1, hb, ?_, run.put rl hi hG (q1.app q2) .non⟩
                  rw [← q1.len, ← q2.len, sizeLine_eq]
                  exact hz
              · exact run.elim
  | _ => exact run.elim
theorem m_pop : MtR X "list.pop" (rMS Z .pop) := by
  intro pins s σ H x xs v us Q I rx rs ⟨E, φ, G, w, ws, rl, s1, ss, run⟩
  cases s1 with
  | @ref i a hi =>
    cases ss with
    | cons _ _ => exact run.elim
    | nil =>
      cases hG : G[i]? with
      | none => simp only [bmW, hG] at run; exact run.elim
      | some o =>
        cases o with
        | dct _ => simp only [bmW, hG] at run; exact run.elim
        | lst ys =>
          simp only [bmW, hG] at run
          cases hg : ys.getLast? with
          | none => simp only [hg] at run; exact run.elim
          | some y =>
            simp only [hg] at run
            have q := rl.obj i a _ hi hG
            cases q with
            | @lst _ zs h1 q1 =>
              rw [List.getLast?_eq_getElem?] at hg
              obtain ⟨z, hz, sz⟩ := q1.get hg
              rw [q1.len] at hz
              exact mt_pop pins s σ H _ _ v us Q I rx rs ⟨a, zs, z, rfl, rfl, h1, hz, run.put rl hi hG q1.dropLast sz⟩
  | _ => exact run.elim
theorem m_popAt : MtR X "list.pop" (rMS Z .popAt) := by
  intro pins s σ H x xs v us Q I rx rs ⟨E, φ, G, w, ws, rl, s1, ss, run⟩
  cases s1 with
  | @ref i a hi =>
    cases ss with
    | nil => exact run.elim
    | @cons w1 ws v1 vs s2 ss =>
      cases ss with
      | cons _ _ => cases s2 <;> exact run.elim
      | nil =>
        cases s2 with
        | int k =>
          cases hG : G[i]? with
          | none => simp only [bmW, hG] at run; exact run.elim
          | some o =>
            cases o with
            | dct _ => simp only [bmW, hG] at run; exact run.elim
            | lst ys =>
              simp only [bmW, hG] at run
              split at run
              · rename_i hk
                simp only [Bool.and_eq_true, decide_eq_true_eq] at hk
                cases hg : ys[k.toNat]? with
                | none => simp only [hg] at run; exact run.elim
                | some y =>
                  simp only [hg] at run
                  have q := rl.obj i a _ hi hG
                  cases q with
                  | @lst _ zs h1 q1 =>
                    obtain ⟨z, hz, sz⟩ := q1.get hg
                    have hlt : k.toNat < zs.length := (List.getElem?_eq_some_iff.mp hz).1
                    refine mt_popAt pins s σ H _ _ v us Q I rx rs ⟨a, zs, k, k.toNat, z, rfl, rfl, h1, by omega, by omega, ?_, hz, run.put rl hi hG (q1.erase _) sz⟩
                    have e : ixN zs.length k = some k.toNat := by
                      unfold ixN
                      rw [if_pos hk.1, if_pos (by omega)]
                    exact (ixN_seq e).1
              · exact run.elim
        | _ => exact run.elim
  | _ => exact run.elim
theorem joinS_eq (s : List Nat) : ∀ xs : List (List Nat), TL.joinL s xs = joinS s xs
  | [] => rfl
  | [x] => by
    show TL.joinL s [x] = x
    first | rfl | simp [TL.joinL]
  | x :: y :: r => by
    show x ++ (s ++ TL.joinL s (y :: r)) = x ++ s ++ joinS s (y :: r)
    rw [joinS_eq s (y :: r), List.append_assoc]
theorem m_join (g : Gd Z n X) : MtR X "str.join" (rMS Z .join) := by
  intro pins s σ H x xs v us Q I rx rs ⟨E, φ, G, w, ws, rl, s1, ss, run⟩
  cases s1 with
  | str t =>
    cases ss with
    | nil => exact run.elim
    | @cons w1 ws v1 vs s2 ss =>
      cases ss with
      | cons _ _ => exact run.elim
      | nil =>
        cases hl : getL w1 G with
        | none => simp only [bmW, hl, Option.bind] at run; exact run.elim
        | some ys =>
          cases hn : strs? ys with
          | none => simp only [bmW, hl, Option.bind, hn] at run; exact run.elim
          | some ns =>
            simp only [bmW, hl, Option.bind, hn] at run
            split at run
            · rename_i hz
              have hz := szOk_iff.mp hz
              obtain ⟨a, zs, rfl, h1, q1⟩ := getL_sim rl s2 hl
              have e := q1.of_strs hn
              subst e
              have e2 : (ns.map fun x => V.str ⟨x.toArray⟩) = (ns.map fun x => (⟨x.toArray⟩ : Str)).map V.str := by rw [List.map_map]; rfl
              rw [e2] at h1
              refine mt_join pins s σ H _ _ v us Q I rx rs ⟨⟨t.toArray⟩, a, ns.map fun x => ⟨x.toArray⟩, rfl, rfl, .inl (by rw [g.K]; exact h1), ?_, ?_⟩
              · rw [List.length_map, List.map_map]
                have e3 : ((fun x : Str => x.length) ∘ fun x : List Nat => (⟨x.toArray⟩ : Str)) = List.length := by funext z; exact str_len z
                rw [e3, str_len]
                exact hz
              · have e4 : Txt.join ⟨t.toArray⟩ (ns.map fun x => (⟨x.toArray⟩ : Str)) = ⟨(joinS t ns).toArray⟩ := by
                  rw [← joinS_eq]
                  exact SX.join_S t ns
                rw [e4]
                exact run.here rl (.str _)
            · exact run.elim
  | _ => exact run.elim
end
end T2
end

section
set_option linter.all false
set_option autoImplicit false
set_option maxRecDepth 100000
set_option maxHeartbeats 2000000
/-! T2: expressions, by the language. -/
namespace T2
open PySem L2
/-- the module's names: defs, constants, exception classes, free ones; the defs' code; constants; fuel -/
structure Ev2 extends Ev1 where
  mg : Str → Option Value
  base : Heap
  tb : Nat → Option Df
  gk : Nat → W
  wf : Nat
  fnm : List Str
  cnm : List Str
  xnm : List Str
  nb : List Str
abbrev Ev2.cl (Z : Ev2) (n : Nat) : Nat → List W → List O → Res W := calls Z.tb Z.gk Z.wf n
/-- what a def promises, with n calls within one another -/
def spF (Z : Ev2) (n k : Nat) : Sp := fun vs H Q E => ∃ (φ : Ad) (G : List O) (ws : List W), Rel Z.toEv0 φ G H ∧ Sims Z.toEv0 φ H ws vs ∧ Run Z.toEv1 E (SimR Z.toEv1) (Z.cl n k ws G) φ H Q
structure Fn1 (Z : Ev2) (n k : Nat) : Prop where
  ex : ∃ (fd : FuncData) (ps : List Str), FnOk Z.P Z.w Z.K Z.mg Z.base (L2.CX Z.P Z.w) (n + 2) (Z.fa k) fd ps (spF Z n k) ∧ PySem.W.keepIn Z.K (.ref (Z.fa k)) = true ∧ Binds Z.K fd ps []
/-- where a block runs: the names N, the scope sc, what is let out W; F: the block of a def itself -/
structure Ctx (Z : Ev2) (n : Nat) (N : List Str) (sc : Scope) (F : Str → Bool) (W : WX) (X : Cx) : Prop where
  gd : Gd Z.toEv1 n X
  nm : X.N = N
  nd : N.Nodup
  sc : X.env.scope = sc
  tk : Takes X W
  mg : X.mg = Z.mg
  base : X.base = Z.base
  fns : ∀ k d, Z.tb k = some d → Fn1 Z n k
  fn : ∀ x, F x = true → X.fn x = true
/-- the module's names stand as told -/
structure Good (Z : Ev2) : Prop where
  fn : ∀ k x, Z.fnm[k]? = some x → Z.mg x = some (.ref (Z.fa k))
  cn : ∀ k x, Z.cnm[k]? = some x → ∃ u v, Z.mg x = some u ∧ RelV v u ∧ ∀ φ H, Sim Z.toEv0 φ H (Z.gk k) v
  nb : ∀ x ∈ Z.nb, Z.mg x = none
  xc : ∀ c x, Z.xnm[c]? = some x → Z.mg x = some (.ref (Z.xa c))

/-- the slots' values -/
structure Slots (Z : Ev0) (φ : Ad) (H : Hp) (sw : Sl) (σ : L2.St) : Prop where
  len : sw.length = σ.length
  at_ : ∀ (i : Nat) (w : W), sw[i]? = some (some w) → ∃ v, σ[i]? = some (some v) ∧ Sim Z φ H w v
theorem Slots.keep {Z : Ev0} {φ φ' : Ad} {H H' : Hp} {sw : Sl} {σ : L2.St} (s : Slots Z φ H sw σ) (f : Fr φ H φ' H') (o : Ours φ H) : Slots Z φ' H' sw σ := ⟨s.len, fun i w h => by
  obtain ⟨v, e, q⟩ := s.at_ i w h
  exact ⟨v, e, q.keep f o⟩⟩
theorem Slots.set {Z : Ev0} {φ : Ad} {H : Hp} {sw : Sl} {σ : L2.St} (s : Slots Z φ H sw σ) {w : W} {v : V} (h : Sim Z φ H w v) (i : Nat) : Slots Z φ H (sw.set i (some w)) (σ.set i (some v)) := ⟨by simp [s.len], fun j w' e => by
  by_cases hj : i = j
  · subst hj
    by_cases hi : i < sw.length
    · rw [List.getElem?_set_self hi] at e
      cases e
      exact ⟨v, by rw [List.getElem?_set_self (by rw [← s.len]; exact hi)], h⟩
    · rw [List.getElem?_eq_none (by simp; omega)] at e
      cases e
  · rw [List.getElem?_set_ne hj] at e
    obtain ⟨v', e', q⟩ := s.at_ j w' e
    exact ⟨v', by rw [List.getElem?_set_ne hj]; exact e', q⟩⟩
theorem Slots.off {Z : Ev0} {φ : Ad} {H : Hp} {sw : Sl} {σ : L2.St} (s : Slots Z φ H sw σ) (i : Nat) (x : Option V) : Slots Z φ H (sw.set i none) (σ.set i x) := ⟨by simp [s.len], fun j w' e => by
  by_cases hj : i = j
  · subst hj
    by_cases hi : i < sw.length
    · rw [List.getElem?_set_self hi] at e
      cases e
    · rw [List.getElem?_eq_none (by simp; omega)] at e
      cases e
  · rw [List.getElem?_set_ne hj] at e
    obtain ⟨v', e', q⟩ := s.at_ j w' e
    exact ⟨v', by rw [List.getElem?_set_ne hj]; exact e', q⟩⟩
theorem Slots.wipe {Z : Ev0} {φ : Ad} {H : Hp} {sw : Sl} {σ : L2.St} (s : Slots Z φ H sw σ) : ∀ l : List Nat, Slots Z φ H (T2.wipe sw l) (L2.wipe σ l)
  | [] => s
  | i :: l => (Slots.wipe s l).off i Option.none

/-! ### weaker readings -/
section
variable {X : Cx}
theorem PE_of {e : Expr} {t t' : TE} (h : PE X e t) (k : ∀ σ H Q, t' σ H Q → t σ H Q) : PE X e t' := ⟨fun pins s σ H Q I hw => h.run pins s σ H Q I (k _ _ _ hw)⟩
theorem PT_of {e : Expr} {t t' : TT} (h : PT X e t) (k : ∀ σ H Q, t' σ H Q → t σ H Q) : PT X e t' := ⟨fun pins s σ H Q I hw => h.run pins s σ H Q I (k _ _ _ hw)⟩
theorem PW_of {e : Expr} {t t' : TT} (h : PW X e t) (k : ∀ σ H Q, t' σ H Q → t σ H Q) : PW X e t' := ⟨fun wh pins s σ H Q I hw => h.run wh pins s σ H Q I (k _ _ _ hw)⟩
theorem PA_of {e : List Expr} {t t' : TA} (h : PA X e t) (k : ∀ σ H Q, t' σ H Q → t σ H Q) : PA X e t' := ⟨fun pos pins s σ H Q I hw => h.run pos pins s σ H Q I (k _ _ _ hw)⟩
theorem PO_of {e : Option Expr} {t t' : TO} (h : PO X e t) (k : ∀ σ H Q, t' σ H Q → t σ H Q) : PO X e t' := ⟨fun pins s σ H Q I hw => h.run pins s σ H Q I (k _ _ _ hw)⟩
theorem PI_of {tg e : Expr} {t t' : TI} (h : PI X tg e t) (k : ∀ σ H R, t' σ H R → t σ H R) : PI X tg e t' := ⟨fun pins s σ H Q I hw => h.run pins s σ H Q I (k _ _ _ hw)⟩
theorem PG_of {tg : Expr} {t t' : TG} (h : PG X tg t) (k : ∀ v σ H R, t' v σ H R → t v σ H R) : PG X tg t' := ⟨fun pins s σ H v u Q I r hw => h.run pins s σ H v u Q I r (k _ _ _ _ hw)⟩
theorem PGs_of {tg : List Expr} {t t' : TGs} (h : PGs X tg t) (k : ∀ v σ H R, t' v σ H R → t v σ H R) : PGs X tg t' := ⟨fun pins s σ H v u Q I r hw => h.run pins s σ H v u Q I r (k _ _ _ _ hw)⟩
theorem PTs_of {tg : List Expr} {t t' : TT} (h : PTs X tg t) (k : ∀ σ H R, t' σ H R → t σ H R) : PTs X tg t' := ⟨fun pins s σ H Q I hw => h.run pins s σ H Q I (k _ _ _ hw)⟩
theorem PS_of {st : Stmt} {t t' : TS} (h : PS X st t) (k : ∀ D σ H, t' D σ H → t D σ H) : PS X st t' := ⟨fun pins s σ H D I hw => h.run pins s σ H D I (k _ _ _ hw)⟩
theorem PSs_of {st : List Stmt} {t t' : TS} (h : PSs X st t) (k : ∀ D σ H, t' D σ H → t D σ H) : PSs X st t' := ⟨fun pins s σ H D I hw => h.run pins s σ H D I (k _ _ _ hw)⟩
end

/-! ### readings by the language -/
/-- what is let out, whatever the slots -/
abbrev Er (W : WX) : XK := fun c d H => ∀ σ, W c d σ H
/-- m's result is wanted -/
def tM {α β : Type} (Z : Ev2) (W : WX) (R : Ad → Hp → α → β → Prop) (m : Sl → List O → Res α) : L2.St → Hp → (β → Hp → Prop) → Prop := fun σ H Q => ∃ (φ : Ad) (G : List O) (sw : Sl), Rel Z.toEv0 φ G H ∧ Slots Z.toEv0 φ H sw σ ∧ Run Z.toEv1 (Er W) R (m sw G) φ H Q
abbrev tE (Z : Ev2) (W : WX) (m : Sl → List O → Res T2.W) : TE := tM Z W (SimR Z.toEv1) m
abbrev tT (Z : Ev2) (W : WX) (m : Sl → List O → Res Bool) : TT := tM Z W EqR m
abbrev tA (Z : Ev2) (W : WX) (m : Sl → List O → Res (List T2.W)) : TA := tM Z W (SimsR Z.toEv1) m
abbrev tO (Z : Ev2) (W : WX) (m : Sl → List O → Res (Option Int)) : TO := tM Z W EqR m
section
variable {Z : Ev2} {W : WX} {α β γ δ : Type} {R : Ad → Hp → α → β → Prop} {S : Ad → Hp → γ → δ → Prop} {σ : L2.St} {H : Hp} {φ : Ad} {G : List O} {sw : Sl}
/-- a part first -/
theorem tM_bnd {m : Sl → List O → Res α} {f : α → List O → Res γ} {Q : δ → Hp → Prop} {Q' : β → Hp → Prop} (rl : Rel Z.toEv0 φ G H) (sl : Slots Z.toEv0 φ H sw σ) (run : Run Z.toEv1 (Er W) S (bnd (m sw G) f) φ H Q)
    (k : ∀ b φ1 G1 H1 a, Fr φ H φ1 H1 → Rel Z.toEv0 φ1 G1 H1 → Slots Z.toEv0 φ1 H1 sw σ → R φ1 H1 a b → Run Z.toEv1 (Er W) S (f a G1) φ1 H1 Q → Q' b H1) : tM Z W R m σ H Q' :=
  ⟨φ, G, sw, rl, sl, (run.bnd).imp fun b H' ⟨φ1, G1, a, fr, rl1, s, r⟩ => k b φ1 G1 H' a fr rl1 (sl.keep fr rl.ours) s r⟩
theorem tM_all {m : Sl → List O → Res α} {Q Q' : β → Hp → Prop} (rl : Rel Z.toEv0 φ G H) (sl : Slots Z.toEv0 φ H sw σ) (run : Run Z.toEv1 (Er W) R (m sw G) φ H Q) (k : ∀ b H', Q b H' → Q' b H') : tM Z W R m σ H Q' :=
  ⟨φ, G, sw, rl, sl, run.imp k⟩
theorem Run.noX {E E' : XK} {r : Res α} {Q : β → Hp → Prop} (run : Run Z.toEv1 E R (noX r) φ H Q) : Run Z.toEv1 E' R r φ H Q := by
  cases r with
  | ok a G => exact run
  | exc c fs G => exact run.elim
  | stuck => exact run
end

/-- what is plain of an expression's form -/
structure Sx (e : Expr) : Prop where
  p1 : ∀ (env : Env) (es : List Expr), starEach (e :: es) env = (false, eval e env) :: starEach es env
  ix : PlainIx e
  mb : ∀ op, behindInMarks op e = false
  fs : ∀ (env : Env) (x : Value), foldedSetIterable e env x = pure x
  asg : ∀ (o : Expr) (pos : Pos) (env : Env) (v : Value), assign (.Subscript o e pos) env v = (do
      let ov ← holding [v] (eval o env)
      let iv ← holding [v, ov] (eval e env)
      standAt pos
      holding [v, ov, iv] (setItem ov iv v)
      release [v, ov, iv] [])
/-- e is c -/
structure HE (Z : Ev2) (N : List Str) (sc : Scope) (F : Str → Bool) (e : Expr) (c : E) : Prop where
  run : ∀ n W X, Ctx Z n N sc F W X → PE X e (tE Z W (ev (Z.cl n) Z.gk c))
  sx : Sx e
structure HT (Z : Ev2) (N : List Str) (sc : Scope) (F : Str → Bool) (e : Expr) (c : E) : Prop where
  run : ∀ n W X, Ctx Z n N sc F W X → PT X e (tT Z W (evT (Z.cl n) Z.gk c))
structure HW (Z : Ev2) (N : List Str) (sc : Scope) (F : Str → Bool) (e : Expr) (c : E) : Prop where
  run : ∀ n W X, Ctx Z n N sc F W X → PW X e (tT Z W (evT (Z.cl n) Z.gk c))
structure HA (Z : Ev2) (N : List Str) (sc : Scope) (F : Str → Bool) (es : List Expr) (c : Es) : Prop where
  run : ∀ n W X, Ctx Z n N sc F W X → PA X es (tA Z W (evs (Z.cl n) Z.gk c))
  st : ∀ env, starEach es env = es.map fun e => (false, eval e env)
structure HO' (Z : Ev2) (N : List Str) (sc : Scope) (F : Str → Bool) (e : Option Expr) (c : Op) : Prop where
  run : ∀ n W X, Ctx Z n N sc F W X → PO X e (tO Z W (evO (Z.cl n) Z.gk c))
section
variable {Z : Ev2} {N : List Str} {sc : Scope} {F : Str → Bool} {e a b c₁ : Expr} {c ca cb cc : E} {pos p p1 : Pos} {es : List Expr} {cs : Es} {x : Str}
theorem HA.hs (h : HA Z N sc F (e :: es) cs) (env : Env) : starEach (e :: es) env = (false, eval e env) :: starEach es env := by
  have q := h.st env
  rw [q, List.map_cons]
  congr 1
  cases es with
  | nil => rfl
  | cons e2 es2 =>
    have q2 : starEach (e :: e2 :: es2) env = (false, eval e env) :: (e2 :: es2).map fun e => (false, eval e env) := q
    cases e <;> first
      | (have := congrArg List.tail q2; exact this.symm)
theorem HA.hpl (h : HA Z N sc F es cs) (env : Env) (pos : Pos) : (backTo pos (starEach es env)).any (·.1) = false := by
  rw [h.st env]
  unfold backTo
  rw [List.map_map, List.any_map]
  clear h
  induction es with
  | nil => rfl
  | cons e es ih => rw [List.any_cons, ih]; rfl
/-! #### values -/
theorem HE.con {v : V} {w : W} (h : ∀ X : Cx, PE X e (tC v)) (hs : ∀ φ H, Sim Z.toEv0 φ H w v) (sx : Sx e) : HE Z N sc F e (.k w) := ⟨fun n W X g => PE_of (h X) fun σ H Q ⟨φ, G, sw, rl, sl, run⟩ => by
  simp only [ev] at run
  exact run.here rl (hs _ _), sx⟩
theorem HE.int {i : Int} {j : Nat} : HE Z N sc F (.Constant (.int i) j pos) (.k (.int i)) := .con (fun _ => pe_int) (fun _ _ => .int i) ⟨fun _ _ => rfl, fun _ _ => rfl, fun _ => rfl, fun _ _ => rfl, fun _ _ _ _ => rfl⟩
theorem HE.bl {i : Bool} {j : Nat} : HE Z N sc F (.Constant (.bool i) j pos) (.k (.bl i)) := .con (fun _ => pe_bl) (fun _ _ => .bl i) ⟨fun _ _ => rfl, fun _ _ => rfl, fun _ => rfl, fun _ _ => rfl, fun _ _ _ _ => rfl⟩
theorem HE.non {j : Nat} : HE Z N sc F (.Constant .none j pos) (.k .non) := .con (fun _ => pe_non) (fun _ _ => .non) ⟨fun _ _ => rfl, fun _ _ => rfl, fun _ => rfl, fun _ _ => rfl, fun _ _ _ _ => rfl⟩
theorem HE.str {y : Str} {l : List Nat} {j : Nat} (h : y = ⟨l.toArray⟩) : HE Z N sc F (.Constant (.str y) j pos) (.k (.str l)) := by
  subst h
  exact .con (fun _ => pe_str) (fun _ _ => .str l) ⟨fun _ _ => rfl, fun _ _ => rfl, fun _ => rfl, fun _ _ => rfl, fun _ _ _ _ => rfl⟩
theorem sx_name : Sx (.Name x pos) := ⟨fun _ _ => rfl, fun _ _ => rfl, fun _ => rfl, fun _ _ => rfl, fun _ _ _ _ => rfl⟩
/-- a name of the block -/
def visB (sc : Scope) (x : Str) : Bool := decide (sc.names.lookup x = some .local) || decide (sc.names.lookup x = some .cell) || decide (sc.names.lookup x = some .free)
theorem visB_ok {X : Cx} (h : visB sc x = true) (hs : X.env.scope = sc) : Vis X.env.scope x := by
  rw [hs]
  simpa [visB, Vis, or_assoc] using h
def nmB (x : Str) : Bool := (x == ("__debug__" : Str)) || (x == ("__classdict__" : Str)) || (x == ("__name__" : Str))
theorem nmB_1 (h : nmB x = false) : (x == ("__debug__" : Str)) = false := by simp [nmB] at h; simp [h]
theorem nmB_2 (h : nmB x = false) : (x == ("__classdict__" : Str)) = false := by simp [nmB] at h; simp [h]
theorem nmB_3 (h : nmB x = false) : x ≠ "__name__" := by simp [nmB] at h; simp [h]
theorem HE.v {i : Nat} (hN : N[i]? = some x) (hv : visB sc x = true) (hn : nmB x = false) : HE Z N sc F (.Name x pos) (.v i) := ⟨fun n W X g => PE_of (pe_var (i := i) (by rw [g.nm]; exact hN) (visB_ok hv g.sc) (nmB_1 hn) (nmB_2 hn)) fun σ H Q ⟨φ, G, sw, rl, sl, run⟩ => by
  simp only [ev] at run
  cases h : sw[i]? with
  | none => simp only [h] at run; exact run.elim
  | some o =>
    cases o with
    | none => simp only [h] at run; exact run.elim
    | some w =>
      simp only [h] at run
      obtain ⟨v, e, q⟩ := sl.at_ i w h
      exact ⟨v, e, run.here rl q⟩, sx_name⟩
def glB (sc : Scope) (x : Str) : Bool := decide (sc.names.lookup x = some .globalImplicit)
theorem glB_ok {X : Cx} (h : glB sc x = true) (hs : X.env.scope = sc) : Gl X x := by
  show X.env.scope.names.lookup x = _
  rw [hs]
  simpa [glB] using h
theorem HE.gf {k : Nat} (gz : Good Z) (hk : Z.fnm[k]? = some x) (hg : glB sc x = true) (hn : nmB x = false) : HE Z N sc F (.Name x pos) (.gf k) := ⟨fun n W X g => PE_of (pe_glob (v := .ref (Z.fa k)) (glB_ok hg g.sc) (by rw [g.mg]; exact gz.fn k x hk) rfl (nmB_1 hn)) fun σ H Q ⟨φ, G, sw, rl, sl, run⟩ => by
  simp only [ev] at run
  exact run.here rl (.fn k), sx_name⟩
theorem HE.gk {k : Nat} (gz : Good Z) (hk : Z.cnm[k]? = some x) (hg : glB sc x = true) (hn : nmB x = false) : HE Z N sc F (.Name x pos) (.gk k) := by
  obtain ⟨u, v, e, r, q⟩ := gz.cn k x hk
  exact ⟨fun n W X g => PE_of (pe_glob (v := v) (glB_ok hg g.sc) (by rw [g.mg]; exact e) r (nmB_1 hn)) fun σ H Q ⟨φ, G, sw, rl, sl, run⟩ => by
    simp only [ev] at run
    exact run.here rl (q _ _), sx_name⟩

/-! #### operators -/
theorem HE.bin {o : BOp} {op : Operator} (ho : ∀ n X, Gd Z.toEv1 n X → OpR X (binaryOp op) (r2S Z.toEv1 (binW o))) (ha : HE Z N sc F a ca) (hb : HE Z N sc F b cb) : HE Z N sc F (.BinOp a op b pos) (.bin o ca cb) :=
  ⟨fun n W X g => PE_of (pe_op (ho n X g.gd) (ha.run n W X g) (hb.run n W X g)) fun σ H Q ⟨φ, G, sw, rl, sl, run⟩ => by
    simp only [ev] at run
    exact tM_bnd rl sl run fun x φ1 G1 H1 wx f1 rl1 sl1 sx run1 => tM_bnd rl1 sl1 run1 fun y φ2 G2 H2 wy f2 rl2 sl2 sy run2 => ⟨_, φ2, G2, wx, wy, rl2, Sim.keep f2 rl1.ours sx, sy, run2⟩,
  ⟨fun _ _ => rfl, fun _ _ => rfl, fun _ => rfl, fun _ _ => rfl, fun _ _ _ _ => rfl⟩⟩
theorem HE.add (ha : HE Z N sc F a ca) (hb : HE Z N sc F b cb) : HE Z N sc F (.BinOp a .Add b pos) (.bin .add ca cb) := .bin (fun n X g => s_add g op_add op_add_str op_catA) ha hb
theorem HE.sub (ha : HE Z N sc F a ca) (hb : HE Z N sc F b cb) : HE Z N sc F (.BinOp a .Sub b pos) (.bin .sub ca cb) := .bin (fun n X g => s_sub op_sub) ha hb
theorem HE.mul (ha : HE Z N sc F a ca) (hb : HE Z N sc F b cb) : HE Z N sc F (.BinOp a .Mult b pos) (.bin .mul ca cb) := .bin (fun n X g => s_mul op_mul) ha hb
theorem HE.fdiv (ha : HE Z N sc F a ca) (hb : HE Z N sc F b cb) : HE Z N sc F (.BinOp a .FloorDiv b pos) (.bin .fdiv ca cb) := .bin (fun n X g => s_fdiv) ha hb
theorem HE.mod (ha : HE Z N sc F a ca) (hb : HE Z N sc F b cb) : HE Z N sc F (.BinOp a .Mod b pos) (.bin .mod ca cb) := .bin (fun n X g => s_mod) ha hb
theorem HE.pow (ha : HE Z N sc F a ca) (hb : HE Z N sc F b cb) : HE Z N sc F (.BinOp a .Pow b pos) (.bin .pow ca cb) := .bin (fun n X g => s_pow) ha hb
theorem HE.cat {m : Bool} (ha : HE Z N sc F a ca) (hb : HE Z N sc F b cb) : HE Z N sc F (.BinOp a .Add b pos) (.bin (.cat m) ca cb) := .bin (fun n X g => s_cat) ha hb
theorem HE.rep {m : Bool} (ha : HE Z N sc F a ca) (hb : HE Z N sc F b cb) : HE Z N sc F (.BinOp a .Mult b pos) (.bin (.rep m) ca cb) := .bin (fun n X g => s_rep) ha hb
theorem HE.neg (ha : HE Z N sc F a ca) : HE Z N sc F (.UnaryOp .USub a pos) (.neg ca) :=
  ⟨fun n W X g => PE_of (pe_un un_neg (ha.run n W X g)) fun σ H Q ⟨φ, G, sw, rl, sl, run⟩ => by
    simp only [ev] at run
    exact tM_bnd rl sl run fun x φ1 G1 H1 wx f1 rl1 sl1 sx run1 => by
      cases sx with
      | int i => exact ⟨i, rfl, run1.here rl1 (.int _)⟩
      | _ => exact run1.elim,
  ⟨fun _ _ => rfl, fun _ _ => rfl, fun _ => rfl, fun _ _ => rfl, fun _ _ _ _ => rfl⟩⟩

/-! #### comparisons, tests -/
theorem cmp_pe {o : COp} {op : CmpOp} (ho : ∀ n X, Gd Z.toEv1 n X → OpR X (compareOp op) (r2S Z.toEv1 (cmpW o))) (ha : HE Z N sc F a ca) (hb : HE Z N sc F b cb) {n : Nat} {W : WX} {X : Cx} (g : Ctx Z n N sc F W X) {σ : L2.St} {H : Hp} {Q : VK}
    (h : tE Z W (ev (Z.cl n) Z.gk (.cmp o ca cb)) σ H Q) : tOp (r2S Z.toEv1 (cmpW o)) (tE Z W (ev (Z.cl n) Z.gk ca)) (tE Z W (ev (Z.cl n) Z.gk cb)) σ H Q := by
  obtain ⟨φ, G, sw, rl, sl, run⟩ := h
  simp only [ev] at run
  exact tM_bnd rl sl run fun x φ1 G1 H1 wx f1 rl1 sl1 sx run1 => tM_bnd rl1 sl1 run1 fun y φ2 G2 H2 wy f2 rl2 sl2 sy run2 => ⟨_, φ2, G2, wx, wy, rl2, Sim.keep f2 rl1.ours sx, sy, run2⟩
theorem HE.cmp {o : COp} {op : CmpOp} (ho : ∀ n X, Gd Z.toEv1 n X → OpR X (compareOp op) (r2S Z.toEv1 (cmpW o))) (ha : HE Z N sc F a ca) (hb : HE Z N sc F b cb) : HE Z N sc F (.Compare a [op] [b] pos) (.cmp o ca cb) :=
  ⟨fun n W X g => PE_of (pe_cmpR (ho n X g.gd) (ha.run n W X g) (hb.run n W X g) (hb.sx.mb op)) fun σ H Q h => cmp_pe ho ha hb g h,
  ⟨fun _ _ => rfl, fun _ _ => rfl, fun _ => rfl, fun _ _ => rfl, fun _ _ _ _ => rfl⟩⟩
/-- a truth value, as a test -/
theorem tT_of {n : Nat} {W : WX} {c : E} {σ : L2.St} {H : Hp} {Q : Bool → Hp → Prop} (h : tT Z W (evT (Z.cl n) Z.gk c) σ H Q) : tE Z W (ev (Z.cl n) Z.gk c) σ H (fun x H1 => ∃ k, x = .bl k ∧ Q k H1) := by
  obtain ⟨φ, G, sw, rl, sl, run⟩ := h
  rw [evT_ev] at run
  exact tM_bnd rl sl run fun x φ1 G1 H1 wx f1 rl1 sl1 sx run1 => by
    cases sx with
    | bl k => exact ⟨k, rfl, run1.here rl1 rfl⟩
    | _ => exact run1.elim
theorem HT.cmp {o : COp} {op : CmpOp} (ho : ∀ n X, Gd Z.toEv1 n X → OpR X (compareOp op) (r2S Z.toEv1 (cmpW o))) (ha : HE Z N sc F a ca) (hb : HE Z N sc F b cb) : HT Z N sc F (.Compare a [op] [b] pos) (.cmp o ca cb) :=
  ⟨fun n W X g => PT_of (pt_cmpR (ho n X g.gd) (ha.run n W X g) (hb.run n W X g) (hb.sx.mb op)) fun σ H Q h => cmp_pe ho ha hb g (tT_of h)⟩
theorem ho_eq (n : Nat) (X : Cx) (g : Gd Z.toEv1 n X) : OpR X (compareOp .Eq) (r2S Z.toEv1 (cmpW .eq)) := s_eq g
theorem ho_ne (n : Nat) (X : Cx) (g : Gd Z.toEv1 n X) : OpR X (compareOp .NotEq) (r2S Z.toEv1 (cmpW .ne)) := s_ne g
theorem ho_lt (n : Nat) (X : Cx) (g : Gd Z.toEv1 n X) : OpR X (compareOp .Lt) (r2S Z.toEv1 (cmpW .lt)) := s_lt g
theorem ho_le (n : Nat) (X : Cx) (g : Gd Z.toEv1 n X) : OpR X (compareOp .LtE) (r2S Z.toEv1 (cmpW .le)) := s_le g
theorem ho_gt (n : Nat) (X : Cx) (g : Gd Z.toEv1 n X) : OpR X (compareOp .Gt) (r2S Z.toEv1 (cmpW .gt)) := s_gt g
theorem ho_ge (n : Nat) (X : Cx) (g : Gd Z.toEv1 n X) : OpR X (compareOp .GtE) (r2S Z.toEv1 (cmpW .ge)) := s_ge g
theorem ho_in (n : Nat) (X : Cx) (g : Gd Z.toEv1 n X) : OpR X (compareOp .In) (r2S Z.toEv1 (cmpW .isin)) := s_in g
theorem ho_notin (n : Nat) (X : Cx) (g : Gd Z.toEv1 n X) : OpR X (compareOp .NotIn) (r2S Z.toEv1 (cmpW .notin)) := s_notin g
theorem chn_pe {o o2 : COp} {n : Nat} {W : WX} {X : Cx} {σ : L2.St} {H : Hp} {Q : VK} (h : tE Z W (ev (Z.cl n) Z.gk (.chn o o2 ca cb cc)) σ H Q) :
    tChain (r2S Z.toEv1 (cmpW o)) (r2S Z.toEv1 (cmpW o2)) (tE Z W (ev (Z.cl n) Z.gk ca)) (tE Z W (ev (Z.cl n) Z.gk cb)) (tE Z W (ev (Z.cl n) Z.gk cc)) σ H Q := by
  obtain ⟨φ, G, sw, rl, sl, run⟩ := h
  simp only [ev] at run
  refine tM_bnd rl sl run fun x φ1 G1 H1 wx f1 rl1 sl1 sx run1 => tM_bnd rl1 sl1 run1 fun y φ2 G2 H2 wy f2 rl2 sl2 sy run2 => ⟨_, φ2, G2, wx, wy, rl2, Sim.keep f2 rl1.ours sx, sy, (run2.bnd).imp fun b H3 ⟨φ3, G3, a, f3, rl3, s3, run3⟩ => ?_⟩
  cases s3 with
  | bl k =>
    refine ⟨k, rfl, ?_⟩
    cases k with
    | true =>
      rw [if_pos rfl]
      exact tM_bnd rl3 (sl2.keep f3 rl2.ours) run3 fun z φ4 G4 H4 wz f4 rl4 sl4 sz run4 => ⟨_, φ4, G4, wy, wz, rl4, Sim.keep f4 rl3.ours (Sim.keep f3 rl2.ours sy), sz, run4⟩
    | false =>
      rw [if_neg (by decide)]
      exact run3.here rl3 (.bl _)
  | _ => exact run3.elim
theorem HE.chn {o o2 : COp} {op op2 : CmpOp} (ho : ∀ n X, Gd Z.toEv1 n X → OpR X (compareOp op) (r2S Z.toEv1 (cmpW o))) (ho2 : ∀ n X, Gd Z.toEv1 n X → OpR X (compareOp op2) (r2S Z.toEv1 (cmpW o2))) (ha : HE Z N sc F a ca) (hb : HE Z N sc F b cb) (hc : HE Z N sc F c₁ cc) :
    HE Z N sc F (.Compare a [op, op2] [b, c₁] pos) (.chn o o2 ca cb cc) :=
  ⟨fun n W X g => PE_of (pe_chain (ho n X g.gd) (ho2 n X g.gd) (ha.run n W X g) (hb.run n W X g) (hc.run n W X g) (hc.sx.mb op2)) fun σ H Q h => chn_pe (X := X) h,
  ⟨fun _ _ => rfl, fun _ _ => rfl, fun _ => rfl, fun _ _ => rfl, fun _ _ _ _ => rfl⟩⟩
theorem HT.chn {o o2 : COp} {op op2 : CmpOp} (ho : ∀ n X, Gd Z.toEv1 n X → OpR X (compareOp op) (r2S Z.toEv1 (cmpW o))) (ho2 : ∀ n X, Gd Z.toEv1 n X → OpR X (compareOp op2) (r2S Z.toEv1 (cmpW o2))) (ha : HE Z N sc F a ca) (hb : HE Z N sc F b cb) (hc : HE Z N sc F c₁ cc) :
    HT Z N sc F (.Compare a [op, op2] [b, c₁] pos) (.chn o o2 ca cb cc) :=
  ⟨fun n W X g => PT_of (pt_chain (ho n X g.gd) (ho2 n X g.gd) (ha.run n W X g) (hb.run n W X g) (hc.run n W X g) (hc.sx.mb op2)) fun σ H Q h => chn_pe (X := X) (tT_of h)⟩
theorem HT.val (ha : HE Z N sc F a ca) (hp : plainT ca = true) (he : ∀ env whole, isTrue a env whole = (do let v ← whole; standAt a.pos; holding [v] (truthy v))) : HT Z N sc F a ca :=
  ⟨fun n W X g => PT_of (pt_val (ha.run n W X g) (he X.env)) fun σ H Q h => tT_of h⟩
theorem HT.not (ha : HT Z N sc F a ca) : HT Z N sc F (.UnaryOp .Not a pos) (.not ca) :=
  ⟨fun n W X g => PT_of (pt_not (ha.run n W X g)) fun σ H Q ⟨φ, G, sw, rl, sl, run⟩ => by
    simp only [evT] at run
    exact tM_bnd rl sl run fun x φ1 G1 H1 wx f1 rl1 sl1 sx run1 => by
      have sx : wx = x := sx
      subst sx
      exact run1.here rl1 rfl⟩
theorem HE.not (ha : HE Z N sc F a ca) : HE Z N sc F (.UnaryOp .Not a pos) (.not ca) :=
  ⟨fun n W X g => PE_of (pe_not (ha.run n W X g)) fun σ H Q ⟨φ, G, sw, rl, sl, run⟩ => by
    simp only [ev] at run
    exact tT_of (Q := fun c H1 => Q (.bl (!c)) H1) (tM_bnd rl sl run fun x φ1 G1 H1 wx f1 rl1 sl1 sx run1 => by
      have sx : wx = x := sx
      subst sx
      exact run1.here rl1 (.bl _)),
  ⟨fun _ _ => rfl, fun _ _ => rfl, fun _ => rfl, fun _ _ => rfl, fun _ _ _ _ => rfl⟩⟩
theorem HW.and1 (ha : HT Z N sc F a ca) : HW Z N sc F (.BoolOp .And [a] pos) ca := ⟨fun n W X g => pw_and1 (ha.run n W X g)⟩
theorem HW.or1 (ha : HT Z N sc F a ca) : HW Z N sc F (.BoolOp .Or [a] pos) ca := ⟨fun n W X g => pw_or1 (ha.run n W X g)⟩
theorem HW.and {rest : List Expr} (ha : HT Z N sc F a ca) (hb : HW Z N sc F (.BoolOp .And (b :: rest) pos) cb) : HW Z N sc F (.BoolOp .And (a :: b :: rest) pos) (.and ca cb) :=
  ⟨fun n W X g => PW_of (pw_and (ha.run n W X g) (hb.run n W X g)) fun σ H Q ⟨φ, G, sw, rl, sl, run⟩ => by
    simp only [evT] at run
    exact tM_bnd rl sl run fun x φ1 G1 H1 wx f1 rl1 sl1 sx run1 => by
      have sx : wx = x := sx
      subst sx
      cases wx with
      | true => exact tM_all rl1 sl1 run1 fun _ _ q => q
      | false => exact run1.here rl1 rfl⟩
theorem HW.or {rest : List Expr} (ha : HT Z N sc F a ca) (hb : HW Z N sc F (.BoolOp .Or (b :: rest) pos) cb) : HW Z N sc F (.BoolOp .Or (a :: b :: rest) pos) (.or ca cb) :=
  ⟨fun n W X g => PW_of (pw_or (ha.run n W X g) (hb.run n W X g)) fun σ H Q ⟨φ, G, sw, rl, sl, run⟩ => by
    simp only [evT] at run
    exact tM_bnd rl sl run fun x φ1 G1 H1 wx f1 rl1 sl1 sx run1 => by
      have sx : wx = x := sx
      subst sx
      cases wx with
      | false => exact tM_all rl1 sl1 run1 fun _ _ q => q
      | true => exact run1.here rl1 rfl⟩
theorem HW.t (h : HW Z N sc F e c) : HT Z N sc F e c := ⟨fun n W X g => (h.run n W X g).pt⟩
theorem HE.one {op : BoolOp} (ha : HE Z N sc F a ca) : HE Z N sc F (.BoolOp op [a] pos) ca := ⟨fun n W X g => pe_one (ha.run n W X g), ⟨fun _ _ => rfl, fun _ _ => rfl, fun _ => rfl, fun _ _ => rfl, fun _ _ _ _ => rfl⟩⟩
theorem HE.and {rest : List Expr} (ha : HE Z N sc F a ca) (hb : HE Z N sc F (.BoolOp .And (b :: rest) pos) cb) : HE Z N sc F (.BoolOp .And (a :: b :: rest) pos) (.and ca cb) :=
  ⟨fun n W X g => PE_of (pe_and (ha.run n W X g) (hb.run n W X g)) fun σ H Q ⟨φ, G, sw, rl, sl, run⟩ => by
    simp only [ev] at run
    exact tT_of (Q := fun c H1 => if c = true then tE Z W (ev (Z.cl n) Z.gk cb) σ H1 Q else Q (.bl false) H1) (tM_bnd rl sl run fun x φ1 G1 H1 wx f1 rl1 sl1 sx run1 => by
      have sx : wx = x := sx
      subst sx
      cases wx with
      | true =>
        rw [if_pos rfl]
        have q := tT_of (n := n) (W := W) (σ := σ) (Q := fun c H1 => Q (.bl c) H1) (tM_bnd rl1 sl1 run1 fun y φ2 G2 H2 wy f2 rl2 sl2 sy run2 => by
          have sy : wy = y := sy
          subst sy
          exact run2.here rl2 (.bl _))
        obtain ⟨φ', G', sw', r1, r2, r3⟩ := q
        exact ⟨φ', G', sw', r1, r2, r3.imp fun b H' ⟨k, e, q⟩ => by subst e; exact q⟩
      | false => exact run1.here rl1 (.bl _)),
  ⟨fun _ _ => rfl, fun _ _ => rfl, fun _ => rfl, fun _ _ => rfl, fun _ _ _ _ => rfl⟩⟩
theorem HE.or {rest : List Expr} (ha : HE Z N sc F a ca) (hb : HE Z N sc F (.BoolOp .Or (b :: rest) pos) cb) : HE Z N sc F (.BoolOp .Or (a :: b :: rest) pos) (.or ca cb) :=
  ⟨fun n W X g => PE_of (pe_or (ha.run n W X g) (hb.run n W X g)) fun σ H Q ⟨φ, G, sw, rl, sl, run⟩ => by
    simp only [ev] at run
    exact tT_of (Q := fun c H1 => if c = true then Q (.bl true) H1 else tE Z W (ev (Z.cl n) Z.gk cb) σ H1 Q) (tM_bnd rl sl run fun x φ1 G1 H1 wx f1 rl1 sl1 sx run1 => by
      have sx : wx = x := sx
      subst sx
      cases wx with
      | false =>
        rw [if_neg (by decide)]
        have q := tT_of (n := n) (W := W) (σ := σ) (Q := fun c H1 => Q (.bl c) H1) (tM_bnd rl1 sl1 run1 fun y φ2 G2 H2 wy f2 rl2 sl2 sy run2 => by
          have sy : wy = y := sy
          subst sy
          exact run2.here rl2 (.bl _))
        obtain ⟨φ', G', sw', r1, r2, r3⟩ := q
        exact ⟨φ', G', sw', r1, r2, r3.imp fun b H' ⟨k, e, q⟩ => by subst e; exact q⟩
      | true => exact run1.here rl1 (.bl _)),
  ⟨fun _ _ => rfl, fun _ _ => rfl, fun _ => rfl, fun _ _ => rfl, fun _ _ _ _ => rfl⟩⟩
theorem HE.ife {t : Expr} {ct : E} (ht : HT Z N sc F t ct) (ha : HE Z N sc F a ca) (hb : HE Z N sc F b cb) : HE Z N sc F (.IfExp t a b pos) (.ife ct ca cb) :=
  ⟨fun n W X g => PE_of (pe_ifExp (ht.run n W X g) (ha.run n W X g) (hb.run n W X g)) fun σ H Q ⟨φ, G, sw, rl, sl, run⟩ => by
    simp only [ev] at run
    exact tM_bnd rl sl run fun x φ1 G1 H1 wx f1 rl1 sl1 sx run1 => by
      have sx : wx = x := sx
      subst sx
      cases wx with
      | true => exact tM_all rl1 sl1 run1 fun _ _ q => q
      | false => exact tM_all rl1 sl1 run1 fun _ _ q => q,
  ⟨fun _ _ => rfl, fun _ _ => rfl, fun _ => rfl, fun _ _ => rfl, fun _ _ _ _ => rfl⟩⟩

/-! #### displays, subscripts -/
theorem HA.nil : HA Z N sc F [] .nil := ⟨fun n W X g => PA_of pa_nil fun σ H Q ⟨φ, G, sw, rl, sl, run⟩ => by
  simp only [evs] at run
  exact run.here rl .nil, fun _ => rfl⟩
theorem HA.cons (ha : HE Z N sc F e c) (hr : HA Z N sc F es cs) : HA Z N sc F (e :: es) (.cons c cs) := ⟨fun n W X g => PA_of (pa_cons (ha.run n W X g) (hr.run n W X g) (ha.sx.p1 X.env es)) fun σ H Q ⟨φ, G, sw, rl, sl, run⟩ => by
  simp only [evs] at run
  exact tM_bnd rl sl run fun x φ1 G1 H1 wx f1 rl1 sl1 sx run1 => tM_bnd rl1 sl1 run1 fun ys φ2 G2 H2 wy f2 rl2 sl2 sy run2 => run2.here rl2 (.cons (Sim.keep f2 rl1.ours sx) sy), fun env => by
  rw [ha.sx.p1 env es, hr.st env, List.map_cons]⟩
theorem HE.tup {k : Nat} (ha : HA Z N sc F es cs) : HE Z N sc F (.Tuple es k pos) (.tup cs) :=
  ⟨fun n W X g => PE_of (pe_tup (ha.run n W X g)) fun σ H Q ⟨φ, G, sw, rl, sl, run⟩ => by
    simp only [ev] at run
    exact tM_bnd rl sl run fun vs φ1 G1 H1 ws f1 rl1 sl1 ss run1 => by
      split at run1
      · rename_i hz
        have ss : Sims Z.toEv0 φ1 H1 ws vs := ss
        refine ⟨by rw [← ss.len]; exact line_eq (szOk_iff.mp hz), fun p hp => ?_⟩
        exact run1 φ1 _ _ (Fr.new hp) (rl1.new hp) (.tup upd_same (ss.keep (Fr.new hp) rl1.ours))
      · exact run1.elim,
  ⟨fun _ _ => rfl, fun _ _ => rfl, fun _ => rfl, fun _ _ => rfl, fun _ _ _ _ => rfl⟩⟩
theorem HE.lst {m : Bool} (ha : HA Z N sc F es cs) : HE Z N sc F (.List es pos) (.lst m cs) :=
  ⟨fun n W X g => PE_of (pe_lst (ha.run n W X g)) fun σ H Q ⟨φ, G, sw, rl, sl, run⟩ => by
    simp only [ev] at run
    exact tM_bnd rl sl run fun vs φ1 G1 H1 ws f1 rl1 sl1 ss run1 => run1.mkL rl1 ss,
  ⟨fun _ _ => rfl, fun _ _ => rfl, fun _ => rfl, fun _ _ => rfl, fun _ _ _ _ => rfl⟩⟩
theorem HO'.no : HO' Z N sc F none .no := ⟨fun n W X g => PO_of po_none fun σ H Q ⟨φ, G, sw, rl, sl, run⟩ => by
  simp only [evO] at run
  exact run.here rl rfl⟩
theorem HO'.yes (ha : HE Z N sc F e c) : HO' Z N sc F (some e) (.yes c) := ⟨fun n W X g => PO_of (po_some (ha.run n W X g)) fun σ H Q ⟨φ, G, sw, rl, sl, run⟩ => by
  simp only [evO] at run
  exact tM_bnd rl sl run fun x φ1 G1 H1 wx f1 rl1 sl1 sx run1 => by
    cases sx with
    | int i => exact ⟨i, rfl, run1.here rl1 rfl⟩
    | _ => exact run1.elim⟩
theorem HE.slc {m : Bool} {lo hi : Option Expr} {cl ch : Op} (ha : HE Z N sc F a ca) (hl : HO' Z N sc F lo cl) (hh : HO' Z N sc F hi ch) : HE Z N sc F (.Subscript a (.Slice lo hi none p1) pos) (.slc m ca cl ch) :=
  ⟨fun n W X g => PE_of (pe_slice (s_slc g.gd) (ha.run n W X g) (hl.run n W X g) (hh.run n W X g)) fun σ H Q ⟨φ, G, sw, rl, sl, run⟩ => by
    simp only [ev] at run
    exact tM_bnd rl sl run fun x φ1 G1 H1 wx f1 rl1 sl1 sx run1 => tM_bnd rl1 sl1 run1 fun l φ2 G2 H2 wl f2 rl2 sl2 el run2 => tM_bnd rl2 sl2 run2 fun h φ3 G3 H3 wh f3 rl3 sl3 eh run3 => by
      have el : wl = l := el
      have eh : wh = h := eh
      subst el eh
      exact ⟨_, φ3, G3, wx, rl3, Sim.keep f3 rl2.ours (Sim.keep f2 rl1.ours sx), run3⟩,
  ⟨fun _ _ => rfl, fun _ _ => rfl, fun _ => rfl, fun _ _ => rfl, fun _ _ _ _ => rfl⟩⟩
end
end T2
end

section
set_option linter.all false
set_option autoImplicit false
set_option maxRecDepth 100000
set_option maxHeartbeats 2000000
/-! T2: subscripts, calls, by the language. -/
namespace T2
open PySem L2
section
variable {Z : Ev2} {N : List Str} {sc : Scope} {F : Str → Bool} {e a b c₁ : Expr} {c ca cb cc : E} {pos p p1 p2 : Pos} {es : List Expr} {cs : Es} {x : Str}
theorem keyL_inj {a b : T2.W} {k : Key} (ha : keyL a = some k) (hb : keyL b = some k) : a = b := by
  cases a with
  | int i =>
    cases ha
    cases b with
    | int j => simp [keyL] at hb; rw [hb]
    | str y => simp [keyL] at hb
    | _ => cases hb
  | str x =>
    cases ha
    cases b with
    | int j => simp [keyL] at hb
    | str y => simp [keyL] at hb; rw [hb]
    | _ => cases hb
  | _ => cases ha
theorem keysL_inj : ∀ {a b : List T2.W} {k : List Key}, keysL a = some k → keysL b = some k → a = b
  | [], [], _, _, _ => rfl
  | [], y :: ys, k, ha, hb => by
    simp [keysL] at ha
    subst ha
    cases h1 : keyL y <;> cases h2 : keysL ys <;> simp [keysL, h1, h2] at hb
  | x :: xs, [], k, ha, hb => by
    simp [keysL] at hb
    subst hb
    cases h1 : keyL x <;> cases h2 : keysL xs <;> simp [keysL, h1, h2] at ha
  | x :: xs, y :: ys, k, ha, hb => by
    cases h1 : keyL x with
    | none => simp [keysL, h1] at ha
    | some k1 =>
      cases h2 : keysL xs with
      | none => simp [keysL, h1, h2] at ha
      | some k2 =>
        cases h3 : keyL y with
        | none => simp [keysL, h3] at hb
        | some k3 =>
          cases h4 : keysL ys with
          | none => simp [keysL, h3, h4] at hb
          | some k4 =>
            simp [keysL, h1, h2] at ha
            simp [keysL, h3, h4] at hb
            subst ha
            simp at hb
            rw [keyL_inj h1 (by rw [h3, hb.1]), keysL_inj h2 (by rw [h4, hb.2])]
theorem keyT_inj {a b : T2.W} {k : List Key} (ha : keyT a = some k) (hb : keyT b = some k) : a = b := by
  cases a with
  | tup xs =>
    cases b with
    | tup ys => rw [keysL_inj (a := xs) (b := ys) ha hb]
    | _ => cases hb
  | _ => cases ha
theorem keysL_ok : ∀ {xs : List T2.W}, xs.all keyA = true → ∃ k, keysL xs = some k
  | [], _ => ⟨[], rfl⟩
  | x :: xs, h => by
    simp only [List.all_cons, Bool.and_eq_true] at h
    obtain ⟨k, e⟩ := keysL_ok h.2
    cases x with
    | int i => exact ⟨_, by simp only [keysL, keyL, e] <;> rfl⟩
    | str i => exact ⟨_, by simp only [keysL, keyL, e] <;> rfl⟩
    | _ => simp [keyA] at h
theorem keyT_ok {k : T2.W} (h : keyOk k = true) : ∃ kk, keyT k = some kk := by
  cases k with
  | tup xs => exact keysL_ok h
  | _ => cases h
theorem keys_vals {φ : Ad} {H : Hp} : ∀ {xs : List T2.W} {vs : List V} {k : List Key}, Sims Z.toEv0 φ H xs vs → keysL xs = some k → vs = k.map kV
  | _, _, k, .nil, h => by
    simp [keysL] at h
    subst h
    rfl
  | _, _, k, .cons (w := w) (ws := ws) h r, e => by
    cases h1 : keyL w with
    | none => simp [keysL, h1] at e
    | some k1 =>
      cases h2 : keysL ws with
      | none => simp [keysL, h1, h2] at e
      | some k2 =>
        simp [keysL, h1, h2] at e
        subst e
        rw [keys_vals r h2, List.map_cons]
        congr 1
        cases h <;> cases h1 <;> rfl
theorem key_at {φ : Ad} {H : Hp} {k : T2.W} {y : V} {kk : List Key} (s : Sim Z.toEv0 φ H k y) (h : keyT k = some kk) : ∃ b, y = .ref b ∧ H b = some (.tup (kk.map kV)) := by
  cases s with
  | @tup a ws vs q ss => exact ⟨a, rfl, by rw [q, keys_vals ss h]⟩
  | _ => cases h
theorem dsim_eq {k k' : T2.W} {kk kk' : List Key} (h : keyT k = some kk) (h' : keyT k' = some kk') : decide (k' = k) = decide (kk' = kk) := by
  by_cases e : k' = k
  · subst e
    rw [h] at h'
    cases h'
    simp
  · rw [decide_eq_false e, decide_eq_false fun z => e (by subst z; exact keyT_inj h' h)]
theorem DSim.get {φ : Ad} {H : Hp} {k w : T2.W} {kk : List Key} (h : keyT k = some kk) : ∀ {kvs : List (T2.W × T2.W)} {ks : List (List Key × V)}, DSim Z.toEv0 φ H kvs ks → dget kvs k = some w → ∃ v, valV ks kk = some v ∧ Sim Z.toEv0 φ H w v
  | _, _, .nil, e => by simp [dget] at e
  | _, _, .cons (k := k1) (w := w1) (kk := kk1) (v := v1) (r := r) (q := q) h1 s t, e => by
    by_cases z : k1 = k
    · have z2 : kk1 = kk := by
        subst z
        rw [h1] at h
        exact Option.some.inj h
      have : w1 = w := by simpa [dget, List.find?_cons, z] using e
      subst this
      exact ⟨v1, by simp [valV, List.find?_cons, z2], s⟩
    · have z2 : ¬ kk1 = kk := fun y => z (by subst y; exact keyT_inj h1 h)
      have e' : dget r k = some w := by simpa [dget, List.find?_cons, z] using e
      obtain ⟨v, h2, s2⟩ := DSim.get h t e'
      exact ⟨v, by rw [valV_neg z2]; exact h2, s2⟩
theorem DSim.len {φ : Ad} {H : Hp} : ∀ {kvs : List (T2.W × T2.W)} {ks : List (List Key × V)}, DSim Z.toEv0 φ H kvs ks → kvs.length = ks.length
  | _, _, .nil => rfl
  | _, _, .cons _ _ t => by rw [List.length_cons, List.length_cons, t.len]
theorem DSim.any {φ : Ad} {H : Hp} {k : T2.W} {kk : List Key} (h : keyT k = some kk) : ∀ {kvs : List (T2.W × T2.W)} {ks : List (List Key × V)}, DSim Z.toEv0 φ H kvs ks → (kvs.any fun p => decide (p.1 = k)) = ks.any fun p => decide (p.1 = kk)
  | _, _, .nil => rfl
  | _, _, .cons h1 _ t => by
    rw [List.any_cons, List.any_cons, DSim.any h t]
    congr 1
    exact dsim_eq h h1
theorem DSim.map {φ : Ad} {H : Hp} {k w : T2.W} {v : V} {kk : List Key} (h : keyT k = some kk) (s : Sim Z.toEv0 φ H w v) : ∀ {kvs : List (T2.W × T2.W)} {ks : List (List Key × V)}, DSim Z.toEv0 φ H kvs ks → DSim Z.toEv0 φ H (kvs.map fun p => if p.1 = k then (p.1, w) else p) (ks.map fun p => if p.1 = kk then (p.1, v) else p)
  | _, _, .nil => .nil
  | _, _, .cons (k := k1) (kk := kk1) h1 s1 t => by
    rw [List.map_cons, List.map_cons]
    have e := dsim_eq h h1
    by_cases z : k1 = k
    · have z2 : kk1 = kk := by simpa [z] using e.symm
      simp only [z, z2, if_true]
      exact .cons h s (DSim.map h s t)
    · have z2 : ¬ kk1 = kk := by simpa [z] using e.symm
      simp only [z, z2, if_false]
      exact .cons h1 s1 (DSim.map h s t)
theorem DSim.app {φ : Ad} {H : Hp} {k w : T2.W} {v : V} {kk : List Key} (h : keyT k = some kk) (s : Sim Z.toEv0 φ H w v) : ∀ {kvs : List (T2.W × T2.W)} {ks : List (List Key × V)}, DSim Z.toEv0 φ H kvs ks → DSim Z.toEv0 φ H (kvs ++ [(k, w)]) (ks ++ [(kk, v)])
  | _, _, .nil => .cons h s .nil
  | _, _, .cons h1 s1 t => .cons h1 s1 (DSim.app h s t)
def putD (kvs : List (T2.W × T2.W)) (k w : T2.W) : List (T2.W × T2.W) := if kvs.any (fun p => decide (p.1 = k)) then kvs.map (fun p => if p.1 = k then (p.1, w) else p) else kvs ++ [(k, w)]
theorem DSim.put {φ : Ad} {H : Hp} {k w : T2.W} {v : V} {kk : List Key} (h : keyT k = some kk) (s : Sim Z.toEv0 φ H w v) {kvs : List (T2.W × T2.W)} {ks : List (List Key × V)} (d : DSim Z.toEv0 φ H kvs ks) : DSim Z.toEv0 φ H (putD kvs k w) (putK ks kk v) := by
  unfold putD putK
  rw [DSim.any h d]
  split
  · exact DSim.map h s d
  · exact DSim.app h s d
theorem s_dct {n : Nat} {X : Cx} (g : Gd Z.toEv1 n X) : IxR X (fun x y H Q => ∃ (E : XK) (φ : Ad) (G : List O) (r : Nat) (kvs : List (W × W)) (wy : W), G[r]? = some (.dct kvs) ∧ Rel Z.toEv0 φ G H ∧ Sim Z.toEv0 φ H (.ref r) x ∧ Sim Z.toEv0 φ H wy y ∧ Run Z.toEv1 E (SimR Z.toEv1) (idxW (.ref r) wy G) φ H Q) := by
  intro value slice pins s σ H x y v u Q I rx ry ⟨E, φ, G, r, kvs, wy, hG, rl, sx, sy, run⟩ hs
  have hlk : look (.ref r) G = .ref r := by simp [look, hG]
  simp only [idxW, hlk, hG] at run
  cases sx with
  | @ref _ a hi =>
    have q := rl.obj r _ _ hi hG
    cases q with
    | @dct _ ks h1 d =>
      split at run
      case isFalse => exact run.elim
      rename_i hk
      obtain ⟨kk, ek⟩ := keyT_ok hk
      cases hd : dget kvs wy with
      | none => simp only [hd] at run; exact run.elim
      | some w =>
        simp only [hd] at run
        obtain ⟨z, ev_, sz⟩ := DSim.get ek d hd
        obtain ⟨b, rfl, hb⟩ := key_at sy ek
        obtain rfl : v = Value.ref a := rx
        have gg : DGet H a (.ref b) (some z) := by
          rw [← ev_]
          exact DGet.t h1 hb
        exact PyProof.Rows.tail_any (dict_typeIs I gg) PySem.F.slot_dict_getitem.lookup (d_getItem (by have := g.u; omega) I gg ry fun w' s3 I3 rw' => ⟨z, H, I3, rw', run.here rl sz⟩) hs
theorem HE.idx (ha : HE Z N sc F a ca) (hb : HE Z N sc F b cb) : HE Z N sc F (.Subscript a b pos) (.idx ca cb) :=
  ⟨fun n W X g => PE_of (pe_ix (s_idx g.gd (s_dct g.gd)) (ha.run n W X g) (hb.run n W X g) hb.sx.ix) fun σ H Q ⟨φ, G, sw, rl, sl, run⟩ => by
    simp only [ev] at run
    exact tM_bnd rl sl run fun x φ1 G1 H1 wx f1 rl1 sl1 sx run1 => tM_bnd rl1 sl1 run1 fun y φ2 G2 H2 wy f2 rl2 sl2 sy run2 => ⟨_, φ2, G2, wx, wy, rl2, Sim.keep f2 rl1.ours sx, sy, run2⟩,
  ⟨fun _ _ => rfl, fun _ _ => rfl, fun _ => rfl, fun _ _ => rfl, fun _ _ _ _ => rfl⟩⟩

/-! #### is -/
theorem isN_pe {n : Nat} {W : WX} {ng : Bool} {σ : L2.St} {H : Hp} {Q : VK} (h : tE Z W (ev (Z.cl n) Z.gk (.isk ng .non ca)) σ H Q) : tE Z W (ev (Z.cl n) Z.gk ca) σ H fun x H1 => Q (.bl (decide (x = .non) != ng)) H1 := by
  obtain ⟨φ, G, sw, rl, sl, run⟩ := h
  simp only [ev] at run
  refine tM_bnd rl sl run fun x φ1 G1 H1 wx f1 rl1 sl1 sx run1 => ?_
  have key : ∀ (b : Bool), decide (x = .non) = b → Run Z.toEv1 (Er W) (SimR Z.toEv1) (.ok (.bl (b != ng)) G1) φ1 H1 Q → Q (.bl (decide (x = .non) != ng)) H1 := fun b e r => by
    rw [e]
    exact r.here rl1 (.bl _)
  cases sx with
  | fn k => exact run1.elim
  | non => exact key true (by decide) run1
  | _ => exact key false (by simp) run1
theorem HE.isN (ha : HE Z N sc F a ca) {j : Nat} : HE Z N sc F (.Compare a [.Is] [.Constant .none j p1] pos) (.isk false .non ca) :=
  ⟨fun n W X g => PE_of (pe_cmpR op_isN (ha.run n W X g) pe_non (nomark _)) fun σ H Q h => by
    obtain ⟨φ, G, sw, rl, sl, run⟩ := isN_pe h
    exact ⟨φ, G, sw, rl, sl, run.imp fun x H1 q => ⟨rfl, by simpa using q⟩⟩,
  ⟨fun _ _ => rfl, fun _ _ => rfl, fun _ => rfl, fun _ _ => rfl, fun _ _ _ _ => rfl⟩⟩
theorem HT.isN (ha : HE Z N sc F a ca) {j : Nat} : HT Z N sc F (.Compare a [.Is] [.Constant .none j p1] pos) (.isk false .non ca) :=
  ⟨fun n W X g => PT_of (pt_cmpR op_isN (ha.run n W X g) pe_non (nomark _)) fun σ H Q h => by
    obtain ⟨φ, G, sw, rl, sl, run⟩ := isN_pe (tT_of h)
    exact ⟨φ, G, sw, rl, sl, run.imp fun x H1 ⟨k, e, q⟩ => ⟨rfl, k, by simpa using e, q⟩⟩⟩
theorem HE.isnN (ha : HE Z N sc F a ca) {j : Nat} : HE Z N sc F (.Compare a [.IsNot] [.Constant .none j p1] pos) (.isk true .non ca) :=
  ⟨fun n W X g => PE_of (pe_cmpR op_notN (ha.run n W X g) pe_non (nomark _)) fun σ H Q h => by
    obtain ⟨φ, G, sw, rl, sl, run⟩ := isN_pe h
    exact ⟨φ, G, sw, rl, sl, run.imp fun x H1 q => ⟨rfl, by simpa using q⟩⟩,
  ⟨fun _ _ => rfl, fun _ _ => rfl, fun _ => rfl, fun _ _ => rfl, fun _ _ _ _ => rfl⟩⟩
theorem HT.isnN (ha : HE Z N sc F a ca) {j : Nat} : HT Z N sc F (.Compare a [.IsNot] [.Constant .none j p1] pos) (.isk true .non ca) :=
  ⟨fun n W X g => PT_of (pt_cmpR op_notN (ha.run n W X g) pe_non (nomark _)) fun σ H Q h => by
    obtain ⟨φ, G, sw, rl, sl, run⟩ := isN_pe (tT_of h)
    exact ⟨φ, G, sw, rl, sl, run.imp fun x H1 ⟨k, e, q⟩ => ⟨rfl, k, by simpa using e, q⟩⟩⟩

/-! #### built-ins by name -/
theorem HE.callB {B : Blt} {id : String} (gz : Good Z) (hc : ∀ n X, Gd Z.toEv1 n X → CallR X (.builtin id) (rCS Z.toEv1 (bltW B))) (hm : x ∈ Z.nb) (hg : glB sc x = true) (hv : bootBuiltins x = some (.builtin id)) (hn : nmB x = false) (ha : HA Z N sc F (e :: es) cs) :
    HE Z N sc F (.Call (.Name x p) (e :: es) [] pos) (.blt B cs) :=
  ⟨fun n W X g => PE_of (pe_callB (hc n X g.gd) (glB_ok hg g.sc) (by rw [g.mg]; exact gz.nb x hm) hv (ha.run n W X g) (nmB_3 hn) (nmB_1 hn) (ha.hs X.env) (by
      have q := ha.hpl X.env pos
      rw [ha.hs] at q
      exact q)) fun σ H Q ⟨φ, G, sw, rl, sl, run⟩ => by
    simp only [ev] at run
    exact tM_bnd rl sl run fun vs φ1 G1 H1 ws f1 rl1 sl1 ss run1 => ⟨_, φ1, G1, ws, rl1, ss, run1⟩,
  ⟨fun _ _ => rfl, fun _ _ => rfl, fun _ => rfl, fun _ _ => rfl, fun _ _ _ _ => rfl⟩⟩
theorem HE.callTy {B : Blt} {id : String} (gz : Good Z) (hc : ∀ n X, Gd Z.toEv1 n X → CallR X (.type id) (rCS Z.toEv1 (bltW B))) (hm : x ∈ Z.nb) (hg : glB sc x = true) (hv : bootBuiltins x = some (.type id)) (hn : nmB x = false) (ha : HA Z N sc F (e :: es) cs) :
    HE Z N sc F (.Call (.Name x p) (e :: es) [] pos) (.blt B cs) :=
  ⟨fun n W X g => PE_of (pe_callTy (hc n X g.gd) (glB_ok hg g.sc) (by rw [g.mg]; exact gz.nb x hm) hv (ha.run n W X g) (nmB_3 hn) (nmB_1 hn) (ha.hs X.env) (by
      have q := ha.hpl X.env pos
      rw [ha.hs] at q
      exact q)) fun σ H Q ⟨φ, G, sw, rl, sl, run⟩ => by
    simp only [ev] at run
    exact tM_bnd rl sl run fun vs φ1 G1 H1 ws f1 rl1 sl1 ss run1 => ⟨_, φ1, G1, ws, rl1, ss, run1⟩,
  ⟨fun _ _ => rfl, fun _ _ => rfl, fun _ => rfl, fun _ _ => rfl, fun _ _ _ _ => rfl⟩⟩
theorem HE.len (gz : Good Z) (hm : ("len" : Str) ∈ Z.nb) (hg : glB sc "len" = true) (ha : HA Z N sc F (e :: es) cs) : HE Z N sc F (.Call (.Name "len" p) (e :: es) [] pos) (.blt .len cs) := .callB gz (fun n X g => b_len g) hm hg boot_len (by decide) ha
theorem HE.int_ (gz : Good Z) (hm : ("int" : Str) ∈ Z.nb) (hg : glB sc "int" = true) (ha : HA Z N sc F (e :: es) cs) : HE Z N sc F (.Call (.Name "int" p) (e :: es) [] pos) (.blt .int cs) := .callTy gz (fun n X g => b_int) hm hg (by decide +kernel) (by decide) ha
theorem HE.abs (gz : Good Z) (hm : ("abs" : Str) ∈ Z.nb) (hg : glB sc "abs" = true) (ha : HA Z N sc F (e :: es) cs) : HE Z N sc F (.Call (.Name "abs" p) (e :: es) [] pos) (.blt .abs cs) := .callB gz (fun n X g => b_abs) hm hg (by decide +kernel) (by decide) ha
theorem HE.min1 (gz : Good Z) (hm : ("min" : Str) ∈ Z.nb) (hg : glB sc "min" = true) (ha : HA Z N sc F (e :: es) cs) : HE Z N sc F (.Call (.Name "min" p) (e :: es) [] pos) (.blt .min1 cs) := .callB gz (fun n X g => b_min1 g) hm hg (by decide +kernel) (by decide) ha
theorem HE.max1 (gz : Good Z) (hm : ("max" : Str) ∈ Z.nb) (hg : glB sc "max" = true) (ha : HA Z N sc F (e :: es) cs) : HE Z N sc F (.Call (.Name "max" p) (e :: es) [] pos) (.blt .max1 cs) := .callB gz (fun n X g => b_max1 g) hm hg (by decide +kernel) (by decide) ha
theorem HE.min2 (gz : Good Z) (hm : ("min" : Str) ∈ Z.nb) (hg : glB sc "min" = true) (ha : HA Z N sc F (e :: es) cs) : HE Z N sc F (.Call (.Name "min" p) (e :: es) [] pos) (.blt .min2 cs) := .callB gz (fun n X g => b_min2 g) hm hg (by decide +kernel) (by decide) ha
theorem HE.max2 (gz : Good Z) (hm : ("max" : Str) ∈ Z.nb) (hg : glB sc "max" = true) (ha : HA Z N sc F (e :: es) cs) : HE Z N sc F (.Call (.Name "max" p) (e :: es) [] pos) (.blt .max2 cs) := .callB gz (fun n X g => b_max2 g) hm hg (by decide +kernel) (by decide) ha
theorem HE.sum (gz : Good Z) (hm : ("sum" : Str) ∈ Z.nb) (hg : glB sc "sum" = true) (ha : HA Z N sc F (e :: es) cs) : HE Z N sc F (.Call (.Name "sum" p) (e :: es) [] pos) (.blt .sum cs) := .callB gz (fun n X g => b_sum g) hm hg (by decide +kernel) (by decide) ha
theorem HE.any (gz : Good Z) (hm : ("any" : Str) ∈ Z.nb) (hg : glB sc "any" = true) (ha : HA Z N sc F (e :: es) cs) : HE Z N sc F (.Call (.Name "any" p) (e :: es) [] pos) (.blt .any cs) := .callB gz (fun n X g => b_any g) hm hg (by decide +kernel) (by decide) ha
theorem HE.all (gz : Good Z) (hm : ("all" : Str) ∈ Z.nb) (hg : glB sc "all" = true) (ha : HA Z N sc F (e :: es) cs) : HE Z N sc F (.Call (.Name "all" p) (e :: es) [] pos) (.blt .all cs) := .callB gz (fun n X g => b_all g) hm hg (by decide +kernel) (by decide) ha
theorem HE.tuple (gz : Good Z) (hm : ("tuple" : Str) ∈ Z.nb) (hg : glB sc "tuple" = true) (ha : HA Z N sc F (e :: es) cs) : HE Z N sc F (.Call (.Name "tuple" p) (e :: es) [] pos) (.blt .tuple cs) := .callTy gz (fun n X g => b_tuple g) hm hg (by decide +kernel) (by decide) ha
theorem HE.list {m : Bool} (gz : Good Z) (hm : ("list" : Str) ∈ Z.nb) (hg : glB sc "list" = true) (ha : HA Z N sc F (e :: es) cs) : HE Z N sc F (.Call (.Name "list" p) (e :: es) [] pos) (.blt (.list m) cs) := .callTy gz (fun n X g => b_list g) hm hg (by decide +kernel) (by decide) ha
theorem HE.sorted {m : Bool} (gz : Good Z) (hm : ("sorted" : Str) ∈ Z.nb) (hg : glB sc "sorted" = true) (ha : HA Z N sc F (e :: es) cs) : HE Z N sc F (.Call (.Name "sorted" p) (e :: es) [] pos) (.blt (.sorted m) cs) := .callB gz (fun n X g => b_sorted g) hm hg (by decide +kernel) (by decide) ha

/-! #### isinstance -/
def Kd.nm : Kd → String
  | .int => "int" | .bool => "bool" | .str => "str" | .tuple => "tuple" | .list => "list"
/-- the type's name of a value -/
def tyN : W → List O → Option String
  | .non, _ => some "NoneType"
  | .bl _, _ => some "bool"
  | .int _, _ => some "int"
  | .str _, _ => some "str"
  | .tup _, _ => some "tuple"
  | .lst _, _ => some "list"
  | .scr _, _ => some "list"
  | .ref i, G => match G[i]? with
    | some (.lst _) => some "list"
    | _ => none
  | .fn _, _ => none
theorem kit_kd : ∀ (t : String), t ∈ ["NoneType", "bool", "int", "str", "tuple", "list"] → ∀ k : Kd, kitB t k.nm = some (decide (t = k.nm) || (decide (t = "bool") && decide (k = .int))) := by
  intro t ht k
  simp only [List.mem_cons, List.not_mem_nil, or_false] at ht
  rcases ht with rfl | rfl | rfl | rfl | rfl | rfl <;> cases k <;> decide +kernel
theorem isKd_ty {w : W} {G : List O} {k : Kd} {r : Bool} (h : isKd w k G = some r) : ∃ t, tyN w G = some t ∧ t ∈ ["NoneType", "bool", "int", "str", "tuple", "list"] ∧ r = (decide (t = k.nm) || (decide (t = "bool") && decide (k = .int))) := by
  cases w with
  | ref i =>
    cases hG : G[i]? with
    | none => simp [isKd, hG] at h
    | some o =>
      cases o with
      | dct _ => simp [isKd, hG] at h
      | lst ws =>
        simp only [isKd, hG] at h
        refine ⟨"list", by simp [tyN, hG], by decide, ?_⟩
        cases h
        cases k <;> decide
  | fn k => simp [isKd] at h
  | non => exact ⟨"NoneType", rfl, by decide, by cases k <;> (simp [isKd] at h; subst h; decide)⟩
  | bl b => exact ⟨"bool", rfl, by decide, by cases k <;> (simp [isKd] at h; subst h; decide)⟩
  | int b => exact ⟨"int", rfl, by decide, by cases k <;> (simp [isKd] at h; subst h; decide)⟩
  | str b => exact ⟨"str", rfl, by decide, by cases k <;> (simp [isKd] at h; subst h; decide)⟩
  | tup b => exact ⟨"tuple", rfl, by decide, by cases k <;> (simp [isKd] at h; subst h; decide)⟩
  | lst b => exact ⟨"list", rfl, by decide, by cases k <;> (simp [isKd] at h; subst h; decide)⟩
  | scr b => exact ⟨"list", rfl, by decide, by cases k <;> (simp [isKd] at h; subst h; decide)⟩
theorem ty_sim {φ : Ad} {G : List O} {H : Hp} {w : W} {v : V} {t : String} (r : Rel Z.toEv0 φ G H) (s : Sim Z.toEv0 φ H w v) (h : tyN w G = some t) : TyX Z.K H v (.type t) := by
  cases s with
  | non => cases h; exact .base .non
  | bl b => cases h; exact .base (.bl b)
  | int b => cases h; exact .base (.int b)
  | str b => cases h; exact .base (.str _)
  | tup q _ =>
    cases h
    exact .base (.tup q)
  | lst q _ => cases h; exact .base (.lst q.2.2)
  | scr q _ =>
    cases h
    rcases q with ⟨_, _, q | ⟨o, q⟩⟩ | ⟨o, its, n, h1, h2, _⟩
    · exact .base (.lst q)
    · exact .base (.frz q)
    · exact .kList h1 h2
  | @ref i a hi =>
    cases hG : G[i]? with
    | none => simp [tyN, hG] at h
    | some o =>
      cases o with
      | dct _ => simp [tyN, hG] at h
      | lst ws =>
        simp only [tyN, hG] at h
        cases h
        have q := r.obj i _ _ hi hG
        cases q with
        | lst h1 _ => exact .base (.lst h1)
  | fn k => cases h
theorem HE.isi {k : Kd} (gz : Good Z) (hm : ("isinstance" : Str) ∈ Z.nb) (hg : glB sc "isinstance" = true) (hm2 : (Str.ofString k.nm) ∈ Z.nb) (hg2 : glB sc (Str.ofString k.nm) = true) (hv : bootBuiltins (Str.ofString k.nm) = some (.type k.nm)) (ha : HE Z N sc F a ca) :
    HE Z N sc F (.Call (.Name "isinstance" p) [a, .Name (Str.ofString k.nm) p1] [] pos) (.isi ca [k]) :=
  ⟨fun n W X g => PE_of (pe_callB call_isi (glB_ok hg g.sc) (by rw [g.mg]; exact gz.nb _ hm) (by decide +kernel)
      (pa_cons (ha.run n W X g) (pa_cons (pe_bltn (v := .ty k.nm) (glB_ok hg2 g.sc) (by rw [g.mg]; exact gz.nb _ hm2) hv rfl (by cases k <;> decide) (by cases k <;> decide)) pa_nil) (ha.sx.p1 _ _)) (by decide) (by decide) (ha.sx.p1 _ _)) fun σ H Q ⟨φ, G, sw, rl, sl, run⟩ => by
    simp only [ev] at run
    refine tM_bnd rl sl run fun x φ1 G1 H1 wx f1 rl1 sl1 sx run1 => ?_
    cases h : isKds wx G1 [k] with
    | none => simp only [h] at run1; exact run1.elim
    | some r =>
      simp only [h] at run1
      have h' : isKd wx k G1 = some r := by
        unfold isKds at h
        cases q : isKd wx k G1 with
        | none => simp [q] at h
        | some b => cases b <;> simp [q, isKds] at h <;> simp [h]
      obtain ⟨t, h1, h2, h3⟩ := isKd_ty h'
      refine ⟨x, .ty k.nm, .type t, .type k.nm, r, rfl, .ty _, by rw [g.gd.K]; exact ty_sim rl1 sx h1, kit_ty (by rw [h3]; exact kit_kd t h2 k), run1.here rl1 (.bl _)⟩,
  ⟨fun _ _ => rfl, fun _ _ => rfl, fun _ => rfl, fun _ _ => rfl, fun _ _ _ _ => rfl⟩⟩

/-! #### methods -/
theorem rcv_ty {φ : Ad} {G : List O} {H : Hp} {w : W} {v : V} {B : Bm} (hB : B ≠ .join ∧ B ≠ .count) (r : Rel Z.toEv0 φ G H) (s : Sim Z.toEv0 φ H w v) (h : rcv B w G = true) : tyV Z.K "list" v H := by
  have : ∃ i ws, w = .ref i ∧ G[i]? = some (.lst ws) := by
    cases w with
    | ref i =>
      cases hG : G[i]? with
      | none => cases B <;> first | exact absurd rfl hB.2 | simp [rcv, hG] at h
      | some o =>
        cases o with
        | lst ws => exact ⟨i, ws, rfl, hG⟩
        | dct _ => cases B <;> first | exact absurd rfl hB.2 | simp [rcv, hG] at h
    | str _ => cases B <;> first | exact absurd rfl hB.1 | exact absurd rfl hB.2 | simp [rcv] at h
    | _ => cases B <;> first | exact absurd rfl hB.2 | simp [rcv] at h
  obtain ⟨i, ws, rfl, hG⟩ := this
  cases s with
  | ref hi =>
    have q := r.obj i _ _ hi hG
    cases q with
    | lst h1 _ => exact .inl ⟨rfl, _, .of h1⟩
theorem rcv_join {φ : Ad} {G : List O} {H : Hp} {w : W} {v : V} (s : Sim Z.toEv0 φ H w v) (h : rcv .join w G = true) : tyV Z.K "str" v H := by
  cases s with
  | str x => rfl
  | _ => simp [rcv] at h
theorem HE.bm1 {T id : String} {B : Bm} {nm : Str} {apos cpos : Pos} (pa : PlainAttrs T) (slot : Slot T nm id) (hty : typeOf (.builtin id) = pure (.type "method_descriptor")) (hm : ∀ n X, Gd Z.toEv1 n X → MtR X id (rMS Z.toEv1 B))
    (ht : ∀ φ G H w v, Rel Z.toEv0 φ G H → Sim Z.toEv0 φ H w v → rcv B w G = true → tyV Z.K T v H) (hab : ∀ env r, attributeBase a nm env r = r) (hl : (apos.endLine == cpos.line) = true) (ha : HE Z N sc F a ca) (hr : HA Z N sc F [e] cs) :
    HE Z N sc F (.Call (.Attribute a nm apos) [e] [] cpos) (.bm B ca cs) :=
  ⟨fun n W X g => PE_of (pe_bm pa slot hty (hm n X g.gd) (ha.run n W X g) (hr.run n W X g) (hab _ _) (by rw [hr.st X.env]; rfl) hl (hr.hs X.env)) fun σ H Q ⟨φ, G, sw, rl, sl, run⟩ => by
    simp only [ev] at run
    refine tM_bnd rl sl run fun x φ1 G1 H1 wx f1 rl1 sl1 sx run1 => ?_
    split at run1
    · rename_i hrc
      exact ⟨by rw [g.gd.K]; exact ht _ _ _ _ _ rl1 sx hrc, tM_bnd rl1 sl1 run1 fun ys φ2 G2 H2 ws f2 rl2 sl2 ss run2 => ⟨_, φ2, G2, wx, ws, rl2, Sim.keep f2 rl1.ours sx, ss, run2⟩⟩
    · exact run1.elim,
  ⟨fun _ _ => rfl, fun _ _ => rfl, fun _ => rfl, fun _ _ => rfl, fun _ _ _ _ => rfl⟩⟩
theorem HE.append {apos cpos : Pos} (hab : ∀ env r, attributeBase a "append" env r = r) (hl : (apos.endLine == cpos.line) = true) (ha : HE Z N sc F a ca) (hr : HA Z N sc F [e] cs) : HE Z N sc F (.Call (.Attribute a "append" apos) [e] [] cpos) (.bm .append ca cs) :=
  .bm1 PySem.F.plainAttrs_list PySem.F.slot_list_append PySem.F.type_list_append (fun n X g => m_append) (fun φ G H w v r s h => rcv_ty (by decide) r s h) hab hl ha hr
theorem HE.extend {apos cpos : Pos} (hab : ∀ env r, attributeBase a "extend" env r = r) (hl : (apos.endLine == cpos.line) = true) (ha : HE Z N sc F a ca) (hr : HA Z N sc F [e] cs) : HE Z N sc F (.Call (.Attribute a "extend" apos) [e] [] cpos) (.bm .extend ca cs) :=
  .bm1 PySem.F.plainAttrs_list PySem.F.slot_list_extend PySem.F.type_list_extend (fun n X g => m_extend) (fun φ G H w v r s h => rcv_ty (by decide) r s h) hab hl ha hr
theorem HE.popAt {apos cpos : Pos} (hab : ∀ env r, attributeBase a "pop" env r = r) (hl : (apos.endLine == cpos.line) = true) (ha : HE Z N sc F a ca) (hr : HA Z N sc F [e] cs) : HE Z N sc F (.Call (.Attribute a "pop" apos) [e] [] cpos) (.bm .popAt ca cs) :=
  .bm1 PySem.F.plainAttrs_list PySem.F.slot_list_pop PySem.F.type_list_pop (fun n X g => m_popAt) (fun φ G H w v r s h => rcv_ty (by decide) r s h) hab hl ha hr
theorem HE.join {apos cpos : Pos} (hab : ∀ env r, attributeBase a "join" env r = r) (hl : (apos.endLine == cpos.line) = true) (ha : HE Z N sc F a ca) (hr : HA Z N sc F [e] cs) : HE Z N sc F (.Call (.Attribute a "join" apos) [e] [] cpos) (.bm .join ca cs) :=
  .bm1 PySem.F.plainAttrs_str PySem.F.slot_str_join PySem.F.type_str_join (fun n X g => m_join g) (fun φ G H w v r s h => rcv_join s h) hab hl ha hr
theorem HE.pop {apos cpos : Pos} (hab : ∀ env r, attributeBase a "pop" env r = r) (hl : (apos.endLine == cpos.line) = true) (ha : HE Z N sc F a ca) : HE Z N sc F (.Call (.Attribute a "pop" apos) [] [] cpos) (.bm .pop ca .nil) :=
  ⟨fun n W X g => PE_of (pe_bm0 PySem.F.plainAttrs_list PySem.F.slot_list_pop PySem.F.type_list_pop m_pop (ha.run n W X g) (hab _ _) hl) fun σ H Q ⟨φ, G, sw, rl, sl, run⟩ => by
    simp only [ev, evs] at run
    refine tM_bnd rl sl run fun x φ1 G1 H1 wx f1 rl1 sl1 sx run1 => ?_
    split at run1
    · rename_i hrc
      exact ⟨by rw [g.gd.K]; exact rcv_ty (by decide) rl1 sx hrc, _, φ1, G1, wx, [], rl1, sx, .nil, run1⟩
    · exact run1.elim,
  ⟨fun _ _ => rfl, fun _ _ => rfl, fun _ => rfl, fun _ _ => rfl, fun _ _ _ _ => rfl⟩⟩
end
end T2
end

section
set_option linter.all false
set_option autoImplicit false
set_option maxRecDepth 100000
/-! T2: ascending ints. -/
namespace T2
/-! #### ascending ints -/
theorem asc_eq : ∀ {a b : List Int}, a.Pairwise (· < ·) → b.Pairwise (· < ·) → (∀ x, x ∈ a ↔ x ∈ b) → a = b
  | [], [], _, _, _ => rfl
  | [], y :: b, _, _, h => absurd ((h y).mpr List.mem_cons_self) (by simp)
  | x :: a, [], _, _, h => absurd ((h x).mp List.mem_cons_self) (by simp)
  | x :: a, y :: b, ha, hb, h => by
    obtain ⟨ha1, ha2⟩ := List.pairwise_cons.mp ha
    obtain ⟨hb1, hb2⟩ := List.pairwise_cons.mp hb
    have e : x = y := by
      rcases List.mem_cons.mp ((h x).mp List.mem_cons_self) with e | e
      · exact e
      · rcases List.mem_cons.mp ((h y).mpr List.mem_cons_self) with e2 | e2
        · exact e2.symm
        · have := hb1 x e
          have := ha1 y e2
          omega
    subst e
    congr 1
    refine asc_eq ha2 hb2 fun z => ⟨fun hz => ?_, fun hz => ?_⟩
    · rcases List.mem_cons.mp ((h z).mp (List.mem_cons_of_mem _ hz)) with e | e
      · have := ha1 z hz
        omega
      · exact e
    · rcases List.mem_cons.mp ((h z).mpr (List.mem_cons_of_mem _ hz)) with e | e
      · have := hb1 z hz
        omega
      · exact e
theorem insU_mem (i z : Int) : ∀ l : List Int, z ∈ insU i l ↔ z = i ∨ z ∈ l
  | [] => by simp [insU]
  | j :: r => by
    have ih := insU_mem i z r
    unfold insU
    split
    · simp
    · split
      · rename_i h
        subst h
        simp
      · simp only [List.mem_cons, ih]
        constructor
        · rintro (h | h | h)
          · exact .inr (.inl h)
          · exact .inl h
          · exact .inr (.inr h)
        · rintro (h | h | h)
          · exact .inr (.inl h)
          · exact .inl h
          · exact .inr (.inr h)
theorem insU_asc (i : Int) : ∀ l : List Int, l.Pairwise (· < ·) → (insU i l).Pairwise (· < ·)
  | [], _ => by simp [insU]
  | j :: r, h => by
    obtain ⟨h1, h2⟩ := List.pairwise_cons.mp h
    unfold insU
    split
    · rename_i hlt
      refine List.pairwise_cons.mpr ⟨fun z hz => ?_, h⟩
      rcases List.mem_cons.mp hz with e | e
      · omega
      · have := h1 z e
        omega
    · split
      · exact h
      · refine List.pairwise_cons.mpr ⟨fun z hz => ?_, insU_asc i r h2⟩
        rcases (insU_mem i z r).mp hz with e | e
        · omega
        · exact h1 z e
theorem sortU_mem (z : Int) : ∀ l : List Int, z ∈ sortU l ↔ z ∈ l
  | [] => by simp [sortU]
  | j :: r => by
    have ih := sortU_mem z r
    show z ∈ insU j (sortU r) ↔ _
    rw [insU_mem, ih, List.mem_cons]
theorem sortU_asc : ∀ l : List Int, (sortU l).Pairwise (· < ·)
  | [] => .nil
  | j :: r => insU_asc j _ (sortU_asc r)
theorem insU_len (i : Int) : ∀ l : List Int, (insU i l).length ≤ l.length + 1
  | [] => by simp [insU]
  | j :: r => by
    have ih := insU_len i r
    unfold insU
    split
    · simp
    · split
      · simp
      · simp only [List.length_cons]
        omega
theorem sortU_len : ∀ l : List Int, (sortU l).length ≤ l.length
  | [] => Nat.le_refl _
  | j :: r => by
    have ih := sortU_len r
    have := insU_len j (sortU r)
    show (insU j (sortU r)).length ≤ _
    rw [List.length_cons]
    omega
end T2
end

section
set_option linter.all false
set_option autoImplicit false
set_option maxRecDepth 100000
set_option maxHeartbeats 2000000
/-! T2: xs[::-1], sorted(dict(xs)), list(range(n)), xs.count(k). -/
namespace T2
open PySem L2
section
variable {Z : Ev2} {N : List Str} {sc : Scope} {F : Str → Bool} {e a b c₁ : Expr} {c ca cb cc : E} {pos p p1 p2 p3 : Pos} {es : List Expr} {cs : Es} {x : Str}
theorem Sims.one_app {φ : Ad} {H : Hp} {ws : List T2.W} {vs : List V} {w : T2.W} {v : V} (s : Sims Z.toEv0 φ H ws vs) (h : Sim Z.toEv0 φ H w v) : Sims Z.toEv0 φ H (ws ++ [w]) (vs ++ [v]) := s.app (.cons h .nil)
theorem Sims.rev {φ : Ad} {H : Hp} : ∀ {ws : List T2.W} {vs : List V}, Sims Z.toEv0 φ H ws vs → Sims Z.toEv0 φ H ws.reverse vs.reverse
  | _, _, .nil => .nil
  | _, _, .cons h s => by
    rw [List.reverse_cons, List.reverse_cons]
    exact Sims.one_app (Sims.rev s) h
theorem sims_ints {φ : Ad} {H : Hp} : ∀ ns : List Int, Sims Z.toEv0 φ H (ns.map T2.W.int) (ns.map V.int)
  | [] => .nil
  | n :: ns => .cons (.int n) (sims_ints ns)
theorem HE.rev {m : Bool} {k : Nat} (ha : HE Z N sc F a ca) : HE Z N sc F (.Subscript a (.Slice none none (some (.UnaryOp .USub (.Constant (.int 1) k p1) p2)) p3) pos) (.rev m ca) :=
  ⟨fun n W X g => PE_of (pe_revL (ha.run n W X g)) fun σ H Q ⟨φ, G, sw, rl, sl, run⟩ => by
    simp only [ev] at run
    refine tM_bnd rl sl run fun x φ1 G1 H1 wx f1 rl1 sl1 sx run1 => ?_
    cases hl : getL wx G1 with
    | none => simp only [hl] at run1; exact run1.elim
    | some ws =>
      simp only [hl] at run1
      obtain ⟨a, vs, rfl, hsq, ss⟩ := getL_sim rl1 sx hl
      exact ⟨a, vs, rfl, by rw [g.gd.K]; exact hsq, (run1.mkL rl1 (Sims.rev ss)).2⟩,
  ⟨fun _ _ => rfl, fun _ _ => rfl, fun _ => rfl, fun _ _ => rfl, fun _ _ _ _ => rfl⟩⟩
theorem asc_of_le : ∀ {l : List Int}, l.Pairwise (· ≤ ·) → l.Nodup → l.Pairwise (· < ·)
  | [], _, _ => .nil
  | x :: l, h, n => by
    obtain ⟨h1, h2⟩ := List.pairwise_cons.mp h
    obtain ⟨n1, n2⟩ := List.nodup_cons.mp n
    refine List.pairwise_cons.mpr ⟨fun z hz => ?_, asc_of_le h2 n2⟩
    have := h1 z hz
    have : x ≠ z := fun e => n1 (e ▸ hz)
    omega
/-- each key once -/
def onceI (acc : List Int) (ks : List Int) : List Int := ks.foldl (fun a k => if k ∈ a then a else a ++ [k]) acc
theorem onceI_nd : ∀ (ks acc : List Int), acc.Nodup → (onceI acc ks).Nodup
  | [], _, h => h
  | k :: ks, acc, h => by
    show (onceI (if k ∈ acc then acc else acc ++ [k]) ks).Nodup
    refine onceI_nd ks _ ?_
    split
    · exact h
    · rename_i hk
      rw [List.nodup_append]
      exact ⟨h, by simp, fun a ha b hb => by
        have : b = k := by simpa using hb
        subst this
        exact fun e => hk (e ▸ ha)⟩
theorem onceI_mem (z : Int) : ∀ (ks acc : List Int), z ∈ onceI acc ks ↔ z ∈ acc ∨ z ∈ ks
  | [], _ => by simp [onceI]
  | k :: ks, acc => by
    have ih := onceI_mem z ks (if k ∈ acc then acc else acc ++ [k])
    show z ∈ onceI (if k ∈ acc then acc else acc ++ [k]) ks ↔ _
    rw [ih]
    split
    · rename_i hk
      simp only [List.mem_cons]
      constructor
      · rintro (h | h)
        · exact .inl h
        · exact .inr (.inr h)
      · rintro (h | h | h)
        · exact .inl h
        · exact .inl (h ▸ hk)
        · exact .inr h
    · simp only [List.mem_append, List.mem_cons, List.not_mem_nil, or_false]
      constructor
      · rintro ((h | h) | h)
        · exact .inl h
        · exact .inr (.inl h)
        · exact .inr (.inr h)
      · rintro (h | h | h)
        · exact .inl (.inl h)
        · exact .inl (.inr h)
        · exact .inr h
theorem onceI_len : ∀ (ks acc : List Int), (onceI acc ks).length ≤ acc.length + ks.length
  | [], _ => Nat.le_refl _
  | k :: ks, acc => by
    have ih := onceI_len ks (if k ∈ acc then acc else acc ++ [k])
    show (onceI (if k ∈ acc then acc else acc ++ [k]) ks).length ≤ _
    have : (if k ∈ acc then acc else acc ++ [k]).length ≤ acc.length + 1 := by split <;> simp
    rw [List.length_cons]
    omega
theorem mergeK_keys : ∀ (kvs : List (Key × V)) (ks : List Int) (acc : List (Key × V)) (as : List Int), kvs.map (·.1) = ks.map Sum.inl → acc.map (·.1) = as.map Sum.inl → (mergeK acc kvs).map (·.1) = (onceI as ks).map Sum.inl
  | [], [], _, _, _, h => h
  | [], _ :: _, _, _, h, _ => by simp at h
  | _ :: _, [], _, _, h, _ => by simp at h
  | kv :: kvs, k :: ks, acc, as, h, h2 => by
    simp only [List.map_cons, List.cons.injEq] at h
    obtain ⟨h1, h3⟩ := h
    show (mergeK (putK acc kv.1 kv.2) kvs).map (·.1) = (onceI (if k ∈ as then as else as ++ [k]) ks).map Sum.inl
    refine mergeK_keys kvs ks _ _ h3 ?_
    have hany : acc.any (fun p => decide (p.1 = kv.1)) = decide (k ∈ as) := by
      rw [h1]
      have e1 : acc.any (fun p => decide (p.1 = Sum.inl k)) = (acc.map (·.1)).any (fun q => decide (q = Sum.inl k)) := by rw [List.any_map] <;> rfl
      rw [e1, h2, List.any_map]
      by_cases hk : k ∈ as
      · rw [decide_eq_true hk, List.any_eq_true]
        exact ⟨k, hk, by simp⟩
      · rw [decide_eq_false hk, List.any_eq_false]
        intro y hy
        have : y ≠ k := fun e => hk (e ▸ hy)
        simpa using this
    unfold putK
    rw [hany]
    by_cases hk : k ∈ as
    · simp only [hk, decide_true, if_true]
      rw [List.map_map, ← h2]
      apply List.map_congr_left
      intro p hp
      simp only [Function.comp]
      split
      · rfl
      · rfl
    · simp only [hk, decide_false, if_false]
      simp [h1, h2]
theorem keysI_sim {K : PySem.W.Frag} {φ : Ad} {H : Hp} : ∀ {ws : List T2.W} {vs : List V} {ks : List Int}, Sims Z.toEv0 φ H ws vs → keysI ws = some ks → ∃ (ps : List Addr) (kvs : List (Key × V)), vs = ps.map V.ref ∧ Paired (fun p kv => SqT K H p [kV kv.1, kv.2]) ps kvs ∧ kvs.map (·.1) = ks.map Sum.inl
  | _, _, _, .nil, h => by
    cases h
    exact ⟨[], [], rfl, .nil, rfl⟩
  | _, _, ks, .cons (w := w) (ws := ws) s1 ss, h => by
    match w, s1, h with
    | .tup [.int i, w2], s1, h =>
      cases hk : keysI ws with
      | none => simp [keysI, hk] at h
      | some ks2 =>
        simp [keysI, hk] at h
        subst h
        obtain ⟨ps, kvs, e1, e2, e3⟩ := keysI_sim (K := K) ss hk
        cases s1 with
        | @tup a _ vs' ha s2 =>
          cases s2 with
          | cons q1 q2 =>
            cases q2 with
            | @cons _ _ v2 _ q3 q4 =>
              cases q4
              cases q1
              exact ⟨a :: ps, (Sum.inl i, v2) :: kvs, by simp [e1], .cons (.inl (.of ha)) e2, by simp [e3]⟩
    | .non, _, h => simp [keysI] at h
    | .bl _, _, h => simp [keysI] at h
    | .int _, _, h => simp [keysI] at h
    | .str _, _, h => simp [keysI] at h
    | .lst _, _, h => simp [keysI] at h
    | .scr _, _, h => simp [keysI] at h
    | .ref _, _, h => simp [keysI] at h
    | .fn _, _, h => simp [keysI] at h
    | .tup [], _, h => simp [keysI] at h
    | .tup [x], _, h => cases x <;> simp [keysI] at h
    | .tup (x :: y :: z :: r), _, h => cases x <;> simp [keysI] at h
    | .tup [.non, _], _, h => simp [keysI] at h
    | .tup [.bl _, _], _, h => simp [keysI] at h
    | .tup [.str _, _], _, h => simp [keysI] at h
    | .tup [.lst _, _], _, h => simp [keysI] at h
    | .tup [.tup _, _], _, h => simp [keysI] at h
    | .tup [.scr _, _], _, h => simp [keysI] at h
    | .tup [.ref _, _], _, h => simp [keysI] at h
    | .tup [.fn _, _], _, h => simp [keysI] at h
theorem HE.srtd {m : Bool} (gz : Good Z) (hm : ("sorted" : Str) ∈ Z.nb) (hg : glB sc "sorted" = true) (hm2 : ("dict" : Str) ∈ Z.nb) (hg2 : glB sc "dict" = true) (ha : HE Z N sc F a ca) :
    HE Z N sc F (.Call (.Name "sorted" p) [.Call (.Name "dict" p1) [a] [] p2] [] pos) (.srtd m ca) :=
  ⟨fun n W X g => PE_of (pe_callB (call_sortedDI g.gd.calm) (glB_ok hg g.sc) (by rw [g.mg]; exact gz.nb _ hm) (by decide +kernel)
      (pa_cons (pe_callTy (call_dictP g.gd.calm) (glB_ok hg2 g.sc) (by rw [g.mg]; exact gz.nb _ hm2) (by decide +kernel) (pa_cons (ha.run n W X g) pa_nil (ha.sx.p1 _ _)) (by decide) (by decide) (ha.sx.p1 _ _)) pa_nil) (by decide) (by decide)) fun σ H Q ⟨φ, G, sw, rl, sl, run⟩ => by
    simp only [ev] at run
    refine tM_bnd rl sl run fun x φ1 G1 H1 wx f1 rl1 sl1 sx run1 => ?_
    cases hl : getL wx G1 with
    | none => simp only [hl, Option.bind] at run1; exact run1.elim
    | some ws =>
      cases hk : keysI ws with
      | none => simp only [hl, Option.bind, hk] at run1; exact run1.elim
      | some ks =>
        simp only [hl, Option.bind, hk] at run1
        split at run1
        · rename_i h64
          obtain ⟨a, vs, rfl, hsq, ss⟩ := getL_sim rl1 sx hl
          obtain ⟨ps, kvs, rfl, hp, hks⟩ := keysI_sim (K := X.K) ss hk
          refine ⟨a, ps, kvs, rfl, by rw [g.gd.K]; exact hsq, hp, fun d hd => ?_⟩
          have f2 : Fr φ1 H1 φ1 (upd H1 d (.dK (mergeK [] kvs))) := Fr.new hd
          refine ⟨d, mergeK [] kvs, onceI [] ks, rfl, .of upd_same, mergeK_keys kvs ks [] [] hks rfl, ?_, fun ys q hperm hys hq => ?_⟩
          · have := onceI_len ks []
            simp only [List.length_nil] at this
            omega
          · have e : ys = sortU ks := by
              refine asc_eq (asc_of_le hys (hperm.nodup_iff.mpr (onceI_nd ks [] .nil))) (sortU_asc ks) fun z => ?_
              rw [hperm.mem_iff, onceI_mem, sortU_mem]
              simp
            rw [e]
            exact ((run1.later f2).mkL (rl1.new hd) (sims_ints (sortU ks))).2 q hq
        · exact run1.elim,
  ⟨fun _ _ => rfl, fun _ _ => rfl, fun _ => rfl, fun _ _ => rfl, fun _ _ _ _ => rfl⟩⟩
theorem sims_rng {φ : Ad} {H : Hp} (a b : Int) : Sims Z.toEv0 φ H (rngL a b) (rgV a b) := by
  unfold rngL rgV
  generalize List.range (b - a).toNat = l
  induction l with
  | nil => exact .nil
  | cons i l ih => exact .cons (.int _) ih
theorem HE.lrg {m : Bool} (gz : Good Z) (hm : ("list" : Str) ∈ Z.nb) (hg : glB sc "list" = true) (hm2 : ("range" : Str) ∈ Z.nb) (hg2 : glB sc "range" = true) (ha : HE Z N sc F a ca) :
    HE Z N sc F (.Call (.Name "list" p) [.Call (.Name "range" p1) [a] [] p2] [] pos) (.lrg m ca) :=
  ⟨fun n W X g => PE_of (pe_listRg g.gd.calm (glB_ok hg g.sc) (by rw [g.mg]; exact gz.nb _ hm) (prg_1 (glB_ok hg2 g.sc) (by rw [g.mg]; exact gz.nb _ hm2) (ha.run n W X g) (ha.sx.p1 _ _))) fun σ H Q ⟨φ, G, sw, rl, sl, run⟩ => by
    simp only [ev] at run
    refine tM_bnd rl sl run fun x φ1 G1 H1 wx f1 rl1 sl1 sx run1 => ?_
    cases sx with
    | int j =>
      simp only [Bool.and_eq_true, decide_eq_true_eq] at run1
      split at run1
      · rename_i hj
        exact ⟨j, rfl, RgOk.of_le (Int.le_refl _) hj.2 (by decide) hj.1, (run1.mkL rl1 (sims_rng 0 j)).2⟩
      · exact run1.elim
    | _ => exact run1.elim,
  ⟨fun _ _ => rfl, fun _ _ => rfl, fun _ => rfl, fun _ _ => rfl, fun _ _ _ _ => rfl⟩⟩
/-! #### count -/
theorem m_count {n : Nat} {X : Cx} (g : Gd Z.toEv1 n X) : MtR X "list.count" (rMS Z.toEv1 .count) := by
  intro pins s σ H x xs v us Q I rx rxs ⟨E, φ, G, w, ws, rl, sw, ss, run⟩
  cases ss with
  | nil => exact run.elim
  | @cons w1 ws v1 vs s1 ss =>
    cases ss with
    | cons _ _ => cases w1 <;> exact run.elim
    | nil =>
      cases s1 with
      | int k =>
        have run : Run Z.toEv1 E (SimR Z.toEv1) (cntW w k G) φ H Q := run
        unfold cntW at run
        cases hl : getL w G with
        | none => simp only [hl, Option.bind] at run; exact run.elim
        | some ys =>
          cases hi : ints? ys with
          | none => simp only [hl, Option.bind, hi] at run; exact run.elim
          | some ns =>
            simp only [hl, Option.bind, hi] at run
            obtain ⟨a, vs, rfl, hsq, ss⟩ := getL_sim rl sw hl
            have e := ss.of_ints hi
            subst e
            exact mt_lcount pins s σ H _ _ v us Q I rx rxs ⟨a, ns, k, rfl, rfl, by rw [g.K]; exact hsq, run.here rl (.int _)⟩
      | _ => exact run.elim
theorem rcv_cnt {φ : Ad} {G : List O} {H : Hp} {w : W} {v : V} (r : Rel Z.toEv0 φ G H) (s : Sim Z.toEv0 φ H w v) (h : rcv .count w G = true) : tyV Z.K "list" v H := by
  have h : (getL w G).isSome = true := h
  obtain ⟨ws, e⟩ := Option.isSome_iff_exists.mp h
  obtain ⟨a, vs, rfl, hsq, _⟩ := getL_sim (Z := Z.toEv1) r s e
  exact .inl ⟨rfl, vs, hsq⟩
theorem HE.count {apos cpos : Pos} (hab : ∀ env r, attributeBase a "count" env r = r) (hl : (apos.endLine == cpos.line) = true) (ha : HE Z N sc F a ca) (hr : HA Z N sc F [e] cs) : HE Z N sc F (.Call (.Attribute a "count" apos) [e] [] cpos) (.bm .count ca cs) :=
  .bm1 PySem.F.plainAttrs_list PySem.F.slot_list_count PySem.F.type_list_count (fun n X g => m_count g) (fun φ G H w v r s h => rcv_cnt r s h) hab hl ha hr
end
end T2
end

section
set_option linter.all false
set_option autoImplicit false
set_option maxRecDepth 100000
set_option maxHeartbeats 2000000
/-! T2: calls of the text's own defs. -/
namespace T2
open PySem L2
section
variable {Z : Ev0} {φ ψ : Ad} {G G1 : List O} {H H' : Hp}
/-- behind a call alone what was ours stands -/
theorem Rel.over (r : Rel Z φ G H) (f : Fr φ.shut H ψ H') : Rel Z φ G H' := by
  have g : Fr φ H φ H' := f.alone
  refine ⟨r.len, r.nd, fun i a o h1 h2 => ?_, fun a ha => ?_⟩
  · have q := r.obj i a o h1 h2
    obtain ⟨u, e, _⟩ := q.kind
    exact q.keep g r.ours ((f.keep a u (by simp [Ad.shut]) e).trans e.symm)
  · obtain ⟨u, e, n⟩ := r.ban a ha
    exact ⟨u, f.keep a u (by simp [Ad.shut]) e, n⟩
theorem shut_new (f : Fr φ.shut H ψ H') {a : Addr} (h : a ∈ ψ.l) : H a = none := by
  obtain ⟨t, e, n⟩ := f.more
  refine n a ?_
  rw [e] at h
  simpa [Ad.shut] using h
theorem shut_out (o : Ours φ H) (f : Fr φ.shut H ψ H') {a : Addr} (h : a ∈ ψ.l) : a ∉ φ.l ∧ a ∉ φ.m := by
  have e := shut_new f h
  constructor
  · intro hm
    obtain ⟨u, q, _⟩ := o a (.inl hm)
    rw [e] at q
    cases q
  · intro hm
    obtain ⟨u, q, _⟩ := o a (.inr hm)
    rw [e] at q
    cases q
theorem shut_free (f : Fr φ.shut H ψ H') : ∀ a o, H' a = some o → a ∉ ψ.l → a ∉ ψ.m → a ∉ φ.l ∧ a ∉ φ.m := fun a o _ _ h2 => by
  have q : a ∉ φ.shut.m := fun z => h2 (f.same.1 a z)
  simpa [Ad.shut] using q
/-- read off -/
theorem frz_sim (o : Ours φ H) (f : Fr φ.shut H ψ H') (r1 : Rel Z ψ G1 H') : ∀ {w : W} {w' : W} {v : V}, Sim Z ψ H' w v → frz G1 w = some w' → Sim Z φ H' w' v
  | .non, _, _, s, e => by simp [frz] at e; subst e; cases s; exact .non
  | .bl b, _, _, s, e => by simp [frz] at e; subst e; cases s; exact .bl b
  | .int i, _, _, s, e => by simp [frz] at e; subst e; cases s; exact .int i
  | .str x, _, _, s, e => by simp [frz] at e; subst e; cases s; exact .str x
  | .fn k, _, _, s, e => by simp [frz] at e; subst e; cases s; exact .fn k
  | .scr ws, _, _, s, e => by simp [frz] at e
  | .tup ws, w', v, s, e => by
    cases h : frzs G1 ws with
    | none => simp [frz, h] at e
    | some us =>
      simp [frz, h] at e
      subst e
      cases s with
      | tup q s => exact .tup q (go ws us _ s h)
  | .lst ws, w', v, s, e => by
    cases h : frzs G1 ws with
    | none => simp [frz, h] at e
    | some us =>
      simp [frz, h] at e
      subst e
      cases s with
      | lst q s => exact .lst ⟨(shut_free f _ _ q.2.2 q.1 q.2.1).1, (shut_free f _ _ q.2.2 q.1 q.2.1).2, q.2.2⟩ (go ws us _ s h)
  | .ref i, w', v, s, e => by
    cases s with
    | @ref _ a hi =>
      cases hG : G1[i]? with
      | none => simp [frz, hG] at e
      | some ob =>
        cases ob with
        | dct _ => simp [frz, hG] at e
        | lst ws =>
          simp only [frz, hG] at e
          split at e
          · rename_i hn
            cases e
            have q := r1.obj i a _ hi hG
            cases q with
            | lst h1 s1 =>
              obtain ⟨n1, n2⟩ := shut_out o f (List.mem_of_getElem? hi)
              exact .lst ⟨n1, n2, h1⟩ (s1.free (shut_free f) hn)
          · cases e
where go : ∀ (ws us : List W) (vs : List V), Sims Z ψ H' ws vs → frzs G1 ws = some us → Sims Z φ H' us vs
  | [], us, _, s, e => by
    simp [frzs] at e
    subst e
    cases s
    exact .nil
  | w :: ws, us, _, s, e => by
    cases h1 : frz G1 w with
    | none => simp [frzs, h1] at e
    | some a =>
      cases h2 : frzs G1 ws with
      | none => simp [frzs, h1, h2] at e
      | some bs =>
        simp [frzs, h1, h2] at e
        subst e
        cases s with
        | cons s t => exact .cons (frz_sim o f r1 s h1) (go ws bs _ t h2)
/-- a new list of ours, as it came -/
theorem Rel.adopt (r : Rel Z φ G H) (f : Fr φ.shut H ψ H') {a : Addr} {ws : List W} {vs : List V} (ha : a ∈ ψ.l) (e : H' a = some (.lst vs)) (s : Sims Z ψ H' ws vs) (hn : W.nrs ws = true) : Rel Z (φ.add a) (G ++ [.lst ws]) H' ∧ Fr φ H (φ.add a) H' := by
  have g : Fr φ H φ H' := f.alone
  have hnone := shut_new f ha
  have g2 : Fr φ H (φ.add a) H' := ⟨⟨[a], rfl, by simpa using hnone⟩, g.same, g.keep, g.back⟩
  obtain ⟨n1, n2⟩ := shut_out r.ours f ha
  have np : ∀ b, b ∈ φ.l → b ≠ a := fun b hb z => n1 (z ▸ hb)
  refine ⟨⟨by simp [Ad.add, r.len], ?_, fun i b ob h1 h2 => ?_, fun b hb => ?_⟩, g2⟩
  · show (φ.l ++ [a]).Nodup
    rw [List.nodup_append]
    exact ⟨r.nd, by simp, fun x hx y hy => by
      have : y = a := by simpa using hy
      rw [this]
      exact np x hx⟩
  · have h1 : (φ.l ++ [a])[i]? = some b := h1
    by_cases hi : i < φ.l.length
    · rw [List.getElem?_append_left hi] at h1
      rw [List.getElem?_append_left (by rw [← r.len]; exact hi)] at h2
      have q := r.obj i b ob h1 h2
      obtain ⟨u, eu, _⟩ := q.kind
      exact q.keep g2 r.ours ((f.keep b u (by simp [Ad.shut]) eu).trans eu.symm)
    · rw [List.getElem?_append_right (by omega)] at h1
      rw [List.getElem?_append_right (by rw [← r.len]; omega)] at h2
      have e1 : i - φ.l.length = 0 := by
        rcases Nat.eq_zero_or_pos (i - φ.l.length) with z | z
        · exact z
        · rw [List.getElem?_eq_none (by simp; omega)] at h1
          cases h1
      rw [e1] at h1
      have e2 : i - G.length = 0 := by rw [← r.len]; exact e1
      rw [e2] at h2
      simp at h1 h2
      subst h1
      subst h2
      refine .lst e (s.free (fun x o hx h1 h2 => ?_) hn)
      obtain ⟨m1, m2⟩ := shut_free f x o hx h1 h2
      refine ⟨fun hm => ?_, m2⟩
      rcases List.mem_append.mp hm with hm | hm
      · exact m1 hm
      · have : x = a := by simpa using hm
        exact h1 (this ▸ ha)
  · obtain ⟨u, eu, n⟩ := r.ban b hb
    exact ⟨u, f.keep b u (by simp [Ad.shut]) eu, n⟩
end
theorem Run.exi {Z : Ev1} {E E' : XK} {α β : Type} {R : Ad → Hp → α → β → Prop} {r : Res α} {φ : Ad} {H : Hp} {Q : β → Hp → Prop} (run : Run Z E R r φ H Q) (h : ∀ c d H', E c d H' → E' c d H') : Run Z E' R r φ H Q := by
  cases r with
  | ok a G => exact run
  | exc c fs G => exact fun φ' H' d f rl x => h _ _ _ (run φ' H' d f rl x)
  | stuck => exact run
section
variable {Z : Ev2} {N : List Str} {sc : Scope} {F : Str → Bool} {e a b c₁ : Expr} {c ca cb cc : E} {pos p p1 p2 : Pos} {es : List Expr} {cs : Es} {x : Str}
/-- a call, by the callee's promise -/
theorem callW_sp {n k : Nat} {m : Cm} {φ : Ad} {G : List O} {H : Hp} {ws : List W} {vs : List V} {E : XK} {Q : VK} (rl : Rel Z.toEv0 φ G H) (ss : Sims Z.toEv0 φ H ws vs) (run : Run Z.toEv1 E (SimR Z.toEv1) (callW (Z.cl n) m k ws G) φ H Q) : spF Z n k vs H Q E := by
  cases m with
  | shared => exact ⟨φ, G, ws, rl, ss, run⟩
  | iso =>
    simp only [callW] at run
    split at run
    · rename_i hn
      refine ⟨φ.shut, [], ws, rl.shut, ss.shut hn, ?_⟩
      cases hc : Z.cl n k ws [] with
      | ok w G1 =>
        rw [hc] at run
        simp only at run
        cases hf : frz G1 w with
        | none => simp only [hf] at run; exact run.elim
        | some w' =>
          simp only [hf] at run
          intro ψ H' b f r1 s
          exact run φ H' b f.alone (rl.over f) (frz_sim rl.ours f r1 s hf)
      | exc c fs G1 =>
        rw [hc] at run
        simp only at run
        split at run
        · rename_i hnf
          intro ψ H' d f r1 s
          refine run φ H' d f.alone (rl.over f) ⟨s.1, ?_⟩
          have s2 := s.2
          split
          · rename_i hx
            rw [if_pos hx] at s2
            exact s2
          · rename_i hx
            rw [if_neg hx] at s2
            obtain ⟨dx, us, e1, e2, s3⟩ := s2
            exact ⟨dx, us, e1, e2, s3.free (shut_free f) hnf⟩
        · exact run.elim
      | stuck => rw [hc] at run; exact run.elim
    · exact run.elim
  | new =>
    simp only [callW] at run
    split at run
    · rename_i hn
      refine ⟨φ.shut, [], ws, rl.shut, ss.shut hn, ?_⟩
      cases hc : Z.cl n k ws [] with
      | ok w G1 =>
        rw [hc] at run
        cases w with
        | ref i =>
          simp only at run
          cases hG : G1[i]? with
          | none => simp only [hG] at run; exact run.elim
          | some o =>
            cases o with
            | dct _ => simp only [hG] at run; exact run.elim
            | lst xs =>
              simp only [hG] at run
              split at run
              · rename_i hnx
                intro ψ H' b f r1 s
                cases s with
                | @ref _ a hi =>
                  have q := r1.obj i a _ hi hG
                  cases q with
                  | lst h1 s1 =>
                    obtain ⟨r2, f2⟩ := rl.adopt f (List.mem_of_getElem? hi) h1 s1 hnx
                    refine run _ H' _ f2 r2 (.ref ?_)
                    show (φ.l ++ [a])[G.length]? = some a
                    rw [← rl.len]
                    simp
              · exact run.elim
        | _ => exact run.elim
      | exc c fs G1 =>
        rw [hc] at run
        simp only at run
        split at run
        · rename_i hnf
          intro ψ H' d f r1 s
          refine run φ H' d f.alone (rl.over f) ⟨s.1, ?_⟩
          have s2 := s.2
          split
          · rename_i hx
            rw [if_pos hx] at s2
            exact s2
          · rename_i hx
            rw [if_neg hx] at s2
            obtain ⟨dx, us, e1, e2, s3⟩ := s2
            exact ⟨dx, us, e1, e2, s3.free (shut_free f) hnf⟩
        · exact run.elim
      | stuck => rw [hc] at run; exact run.elim
    · exact run.elim
theorem calls_none {n k : Nat} (h : Z.tb k = none) (ws : List W) (G : List O) : Z.cl n k ws G = .stuck := by
  cases n with
  | zero => rfl
  | succ n =>
    show (match Z.tb k with
      | some d => _
      | none => _) = _
    rw [h]
theorem callW_none {n k : Nat} (m : Cm) (h : Z.tb k = none) (ws : List W) (G : List O) : callW (Z.cl n) m k ws G = .stuck := by
  cases m with
  | shared => exact calls_none h ws G
  | iso => simp only [callW, calls_none h]; split <;> rfl
  | new => simp only [callW, calls_none h]; split <;> rfl
theorem HE.call {k : Nat} {m : Cm} (gz : Good Z) (hk : Z.fnm[k]? = some x) (ht : (Z.tb k).isSome = true) (hg : glB sc x = true) (hn : nmB x = false) (ha : HA Z N sc F (e :: es) cs) : HE Z N sc F (.Call (.Name x p) (e :: es) [] pos) (.call m k cs) :=
  ⟨fun n W X g => by
    obtain ⟨d, hd⟩ := Option.isSome_iff_exists.mp ht
    obtain ⟨fd, ps, Fk, kp, bi⟩ := (g.fns k d hd).ex
    have Fk' : FnOk X.prog X.w X.K X.mg X.base (L2.CX X.prog X.w) (n + 2) (Z.fa k) fd ps (spF Z n k) := by rw [g.gd.P, g.gd.w, g.gd.K, g.mg, g.base]; exact Fk
    refine PE_of (pe_callS (E := WE W) Fk' g.gd.room (glB_ok hg g.sc) (by rw [g.mg]; exact gz.fn k x hk) (by rw [g.gd.K]; exact kp) (by rw [g.gd.K]; exact bi) (fun σ => passAt g.tk σ) (ha.run n W X g) (nmB_1 hn) (ha.hs X.env) ?_) ?_
    · have q := ha.hpl X.env pos
      rw [ha.hs] at q
      exact q
    · intro σ H Q ⟨φ, G, sw, rl, sl, run⟩
      simp only [ev] at run
      exact tM_bnd rl sl run fun vs φ1 G1 H1 ws f1 rl1 sl1 ss run1 => callW_sp rl1 ss (run1.exi fun c d H' h => h σ),
  ⟨fun _ _ => rfl, fun _ _ => rfl, fun _ => rfl, fun _ _ => rfl, fun _ _ _ _ => rfl⟩⟩
/-- a call of a local name that holds a def -/
theorem HE.cv {i mx : Nat} {m : Cm} (ht : ∀ k, k < mx → (Z.tb k).isSome = true) (hN : N[i]? = some x) (hv : visB sc x = true) (hn : nmB x = false) (ha : HA Z N sc F (e :: es) cs) : HE Z N sc F (.Call (.Name x p) (e :: es) [] pos) (.cv m i mx cs) :=
  ⟨fun n W X g => ⟨fun pins s σ H Q I ⟨φ, G, sw, rl, sl, run⟩ => by
    simp only [ev] at run
    cases hs : sw[i]? with
    | none => simp only [hs] at run; exact run.elim
    | some o =>
      cases o with
      | none => simp only [hs] at run; exact run.elim
      | some w =>
        cases w with
        | fn k =>
          simp only [hs] at run
          obtain ⟨v, ev_, sv⟩ := sl.at_ i _ hs
          cases sv
          split at run
          · rename_i hk
            obtain ⟨d, hd⟩ := Option.isSome_iff_exists.mp (ht k hk)
            obtain ⟨fd, ps, Fk, kp, bi⟩ := (g.fns k d hd).ex
            have Fk' : FnOk X.prog X.w X.K X.mg X.base (L2.CX X.prog X.w) (n + 2) (Z.fa k) fd ps (spF Z n k) := by rw [g.gd.P, g.gd.w, g.gd.K, g.mg, g.base]; exact Fk
            refine wpAny_Call_Name_kw (thn ((pe_var (X := X) (pos := p) (i := i) (by rw [g.nm]; exact hN) (visB_ok hv g.sc) (nmB_1 hn) (nmB_2 hn)).run pins s σ H (fun v H1 => v = .ref (Z.fa k) ∧ H1 = H) I ⟨.ref (Z.fa k), ev_, rfl, rfl⟩) fun u s1 ⟨v, H1, I1, r1, q1⟩ => ?_)
            obtain ⟨rfl, rfl⟩ := q1
            cases r1
            refine PySem.W.callWith_K (h₀ := X.base) I.ok.mod.kin (by rw [g.gd.K]; exact kp) (thn ((ha.run n W X g).run pos pins s1 σ _ (fun vs H2 => spF Z n k vs H2 Q (WE W σ)) I1 (tM_bnd rl sl run fun vs φ1 G1 H1 ws f1 rl1 sl1 ss run1 => callW_sp rl1 ss (run1.exi fun c d H' h => h σ))) fun us s2 ⟨vs, H2, I2, r, q⟩ => ⟨I2.kIn, ?_⟩) (ha.hs X.env) ?_
            · exact run_fnS Fk' g.gd.room (by rw [g.gd.K]; exact bi) (passAt g.tk σ) I2 r q
            · have q := ha.hpl X.env pos
              rw [ha.hs] at q
              exact q
          · exact run.elim
        | _ => simp only [hs] at run; exact run.elim⟩,
  ⟨fun _ _ => rfl, fun _ _ => rfl, fun _ => rfl, fun _ _ => rfl, fun _ _ _ _ => rfl⟩⟩
end
end T2
end

section
set_option linter.all false
set_option autoImplicit false
set_option maxRecDepth 100000
set_option maxHeartbeats 2000000
/-! T2: what is walked, targets, comprehensions. -/
namespace T2
open PySem L2
section
variable {Z : Ev2} {N : List Str} {sc : Scope} {F : Str → Bool} {e a b c₁ tg : Expr} {c ca cb cc : E} {pos p p1 p2 : Pos} {es : List Expr} {cs : Es} {x : Str}
/-- the iterator yields the items, as long as they may be walked -/
def SeqR (Z : Ev2) : Ad → Hp → Seq → L2.It → Prop := fun φ0 H0 s J => ∀ (i : Nat) (φ : Ad) (G : List O) (H : Hp), Fr φ0 H0 φ H → Rel Z.toEv0 φ G H → s.ok G = true →
  (∀ w, s.items[i]? = some w → J.go i H ∧ ∀ x H', J.yld i H x H' → Fr φ H φ H' ∧ Rel Z.toEv0 φ G H' ∧ Sim Z.toEv0 φ H' w x) ∧ (s.items.length ≤ i → J.stop i H)
structure HI (Z : Ev2) (N : List Str) (sc : Scope) (F : Str → Bool) (tg e : Expr) (c : T2.It) : Prop where
  run : ∀ n W X, Ctx Z n N sc F W X → PI X tg e (tM Z W (SeqR Z) (evI (Z.cl n) Z.gk c))
  fs : ∀ (env : Env) (x : Value), foldedSetIterable e env x = pure x
theorem seq_list {φ0 : Ad} {H0 : Hp} {s : Seq} {a : Addr} (h : ∀ φ G H, Fr φ0 H0 φ H → Rel Z.toEv0 φ G H → s.ok G = true → ∃ vs, SqL Z.K H a vs ∧ Sims Z.toEv0 φ H s.items vs) : SeqR Z φ0 H0 s (Itl Z.K a) := fun i φ G H f r ok => by
  obtain ⟨vs, q, ss⟩ := h φ G H f r ok
  refine ⟨fun w hw => ?_, fun hl => ⟨vs, q, by rw [← ss.len]; exact hl⟩⟩
  obtain ⟨v, hv, sv⟩ := ss.get hw
  refine ⟨⟨vs, v, q, hv⟩, fun x H' ⟨e, y⟩ => ?_⟩
  subst e
  have := y vs q
  rw [hv] at this
  cases this
  exact ⟨.refl, r, sv⟩
theorem seq_tup {φ0 : Ad} {H0 : Hp} {s : Seq} {a : Addr} (h : ∀ φ G H, Fr φ0 H0 φ H → Rel Z.toEv0 φ G H → s.ok G = true → ∃ vs, SqT Z.K H a vs ∧ Sims Z.toEv0 φ H s.items vs) : SeqR Z φ0 H0 s (Itt Z.K a) := fun i φ G H f r ok => by
  obtain ⟨vs, q, ss⟩ := h φ G H f r ok
  refine ⟨fun w hw => ?_, fun hl => ⟨vs, q, by rw [← ss.len]; exact hl⟩⟩
  obtain ⟨v, hv, sv⟩ := ss.get hw
  refine ⟨⟨vs, v, q, hv⟩, fun x H' ⟨e, y⟩ => ?_⟩
  subst e
  have := y vs q
  rw [hv] at this
  cases this
  exact ⟨.refl, r, sv⟩
theorem seq_str {φ0 : Ad} {H0 : Hp} (xs : List Nat) : SeqR Z φ0 H0 ⟨xs.map fun c => .str [c], none⟩ (Its ⟨xs.toArray⟩) := fun i φ G H f r ok => by
  refine ⟨fun w hw => ?_, fun hl => by simpa [Its] using hl⟩
  have hw : (xs.map fun c => W.str [c])[i]? = some w := hw
  rw [List.getElem?_map] at hw
  cases hx : xs[i]? with
  | none => rw [hx] at hw; cases hw
  | some c =>
    rw [hx] at hw
    cases hw
    refine ⟨?_, fun x H' ⟨e, c', h1, h2⟩ => ?_⟩
    · have := (List.getElem?_eq_some_iff.mp hx).1
      simpa [Its] using this
    · subst e h2
      have h1 : (xs.toArray)[i]? = some c' := h1
      rw [List.getElem?_toArray, hx] at h1
      cases h1
      exact ⟨.refl, r, .str [c]⟩
theorem seq_of {φ : Ad} {G G1 : List O} {H : Hp} {w : W} {s : Seq} {v : V} (r : Rel Z.toEv0 φ G H) (sv : Sim Z.toEv0 φ H w v) (h : seqOf w G = .ok s G1) : G1 = G ∧ ((∃ a vs, v = .ref a ∧ SqL Z.K H a vs ∧ SeqR Z φ H s (Itl Z.K a)) ∨ (∃ a vs, v = .ref a ∧ SqT Z.K H a vs ∧ SeqR Z φ H s (Itt Z.K a)) ∨ ∃ x, v = .str x ∧ SeqR Z φ H s (Its x)) := by
  have o := r.ours
  cases sv with
  | @lst a ws vs q ss =>
    cases h
    exact ⟨rfl, .inl ⟨a, vs, rfl, q.sq, seq_list fun φ' G' H' f _ _ => ⟨vs, (q.keep f).sq, ss.keep f o⟩⟩⟩
  | @scr a ws vs q ss =>
    cases h
    exact ⟨rfl, .inl ⟨a, vs, rfl, q.sq, seq_list fun φ' G' H' f _ _ => ⟨vs, (RdL.keep (Z := Z.toEv0) f q).sq, ss.keep f o⟩⟩⟩
  | @tup a ws vs q ss =>
    cases h
    exact ⟨rfl, .inr (.inl ⟨a, vs, rfl, .of q, seq_tup fun φ' G' H' f _ _ => ⟨vs, .of (tup_keep f o q), ss.keep f o⟩⟩)⟩
  | str xs =>
    cases h
    exact ⟨rfl, .inr (.inr ⟨_, rfl, seq_str xs⟩)⟩
  | @ref i a hi =>
    cases hG : G[i]? with
    | none => simp [seqOf, hG] at h
    | some ob =>
      cases ob with
      | dct _ => simp [seqOf, hG] at h
      | lst ws =>
        simp only [seqOf, hG] at h
        cases h
        have q := r.obj i _ _ hi hG
        cases q with
        | @lst _ vs h1 s1 =>
          refine ⟨rfl, .inl ⟨a, vs, rfl, .of h1, seq_list fun φ' G' H' f r' ok => ?_⟩⟩
          simp only [Seq.ok] at ok
          cases hG' : G'[i]? with
          | none => simp [hG'] at ok
          | some ob' =>
            cases ob' with
            | dct _ => simp [hG'] at ok
            | lst us =>
              simp [hG'] at ok
              subst ok
              have q' := r'.obj i _ _ (f.at hi) hG'
              cases q' with
              | @lst _ vs' h1' s1' => exact ⟨vs', .of h1', s1'⟩
  | _ => cases h
theorem HI.seq (ha : HE Z N sc F a ca) : HI Z N sc F tg a (.seq ca) := ⟨fun n W X g => ⟨fun pins s σ H R I ⟨φ, G, sw, rl, sl, run⟩ => by
  simp only [evI] at run
  refine thn ((ha.run n W X g).run pins s σ H (fun v H1 => (∃ a vs, v = .ref a ∧ SqL Z.K H1 a vs ∧ R (Itl Z.K a) H1) ∨ (∃ a vs, v = .ref a ∧ SqT Z.K H1 a vs ∧ R (Itt Z.K a) H1) ∨ ∃ x, v = .str x ∧ R (Its x) H1) I (tM_bnd rl sl run fun v φ1 G1 H1 w f1 rl1 sl1 sv run1 => ?_)) fun u s1 ⟨x, H1, I1, r1, q1⟩ => ?_
  · cases hq : seqOf w G1 with
    | ok s G2 =>
      rw [hq] at run1
      obtain ⟨e, q⟩ := seq_of rl1 sv hq
      subst e
      rcases q with ⟨a, vs, h1, h2, h3⟩ | ⟨a, vs, h1, h2, h3⟩ | ⟨x, h1, h3⟩
      · exact .inl ⟨a, vs, h1, h2, run1.here rl1 h3⟩
      · exact .inr (.inl ⟨a, vs, h1, h2, run1.here rl1 h3⟩)
      · exact .inr (.inr ⟨x, h1, run1.here rl1 h3⟩)
    | exc c fs G2 =>
      exfalso
      cases w <;> simp [seqOf] at hq
      rename_i r
      cases h : G1[r]? with
      | none => simp [h] at hq
      | some o => cases o <;> simp [h] at hq
    | stuck => rw [hq] at run1; exact run1.elim
  · rcases q1 with ⟨a, vs, e, hq, q⟩ | ⟨a, vs, e, hq, q⟩ | ⟨x, ex, q⟩
    · subst e
      cases r1
      obtain ⟨its, rv, p, hz⟩ := I1.list (by rw [g.gd.K]; exact hq)
      refine wpAny_pyIter_list p.isList ?_
      refine ⟨s1.heap.objs.size, [s1.heap.objs.size], _, _, H1, rfl, I1.kept (t' := s1.toks) fun b o e => Heap.get?_push_of_some _ e, turn_list a _, ⟨_, Heap.get?_push_size _ rfl, rfl, rfl⟩, fun b hb => ?_, by rw [g.gd.K]; exact q⟩
      have e : b = s1.heap.objs.size := by simpa using hb
      subst e
      exact I1.fpOk (Nat.le_refl _) (I1.hok.fresh (Nat.le_refl _))
    · subst e
      cases r1
      obtain ⟨its, rv, p, hz⟩ := I1.tuple (by rw [g.gd.K]; exact hq)
      refine wpAny_pyIter_tuple (show s1.heap.IsTuple a its.toArray from p) ?_
      refine ⟨s1.heap.objs.size, [s1.heap.objs.size], _, _, H1, rfl, I1.kept (t' := s1.toks) fun b o e => Heap.get?_push_of_some _ e, turn_tuple a _, ⟨_, Heap.get?_push_size _ rfl, rfl, rfl⟩, fun b hb => ?_, by rw [g.gd.K]; exact q⟩
      have e : b = s1.heap.objs.size := by simpa using hb
      subst e
      exact I1.fpOk (Nat.le_refl _) (I1.hok.fresh (Nat.le_refl _))
    · subst ex
      obtain ⟨t, rfl⟩ := r1
      cases ha : x.cps.all (· < 128)
      · exact wpAny_pyIter_wide ha (pi_one (tk := s1.toks) I1 _ (turn_str _ x t "str_iterator" (.inr rfl)) ⟨_, Heap.get?_push_size _ rfl, rfl, rfl⟩ q)
      · exact wpAny_pyIter_ascii ha (pi_one (tk := s1.toks) I1 _ (turn_str _ x t "str_ascii_iterator" (.inl rfl)) ⟨_, Heap.get?_push_size _ rfl, rfl, rfl⟩ q)⟩, ha.sx.fs⟩
theorem rngL_get (a b : Int) (i : Nat) (w : W) (h : (rngL a b)[i]? = some w) : i < (b - a).toNat ∧ w = .int (a + (i : Nat)) := by
  unfold rngL at h
  rw [List.getElem?_map] at h
  by_cases hi : i < (b - a).toNat
  · rw [List.getElem?_range hi] at h
    cases h
    exact ⟨hi, rfl⟩
  · rw [List.getElem?_eq_none (by simp; omega)] at h
    cases h
theorem seq_rng {φ0 : Ad} {H0 : Hp} (a b : Int) : SeqR Z φ0 H0 ⟨rngL a b, none⟩ (Itr a (b - a).toNat) := fun i φ G H f r ok => by
  refine ⟨fun w hw => ?_, fun hl => by simpa [Itr, rngL] using hl⟩
  obtain ⟨h1, rfl⟩ := rngL_get a b i w hw
  exact ⟨h1, fun x H' ⟨e1, e2⟩ => by
    subst e1 e2
    exact ⟨.refl, r, .int _⟩⟩
theorem small_iff {a : Int} (h : small a = true) : -(2 ^ 62) ≤ a ∧ a < 2 ^ 62 := by
  have h : a.natAbs < 4611686018427387904 := by simpa [small] using h
  omega
theorem HI.rng1 (gz : Good Z) (hm : ("range" : Str) ∈ Z.nb) (hg : glB sc "range" = true) (ha : HE Z N sc F a ca) : HI Z N sc F tg (.Call (.Name "range" p) [a] [] pos) (.rng1 ca) :=
  ⟨fun n W X g => PI_of (pi_range1 (glB_ok hg g.sc) (by rw [g.mg]; exact gz.nb _ hm) (pa_cons (ha.run n W X g) pa_nil (ha.sx.p1 _ _)) (ha.sx.p1 _ _)) fun σ H R ⟨φ, G, sw, rl, sl, run⟩ => by
    simp only [evI] at run
    refine tM_bnd rl sl run fun v φ1 G1 H1 w f1 rl1 sl1 sv run1 => ?_
    cases sv with
    | int j =>
      simp only at run1
      split at run1
      · rename_i hs
        obtain ⟨h1, h2⟩ := small_iff hs
        refine ⟨j, rfl, h1, h2, run1.here rl1 ?_⟩
        have := seq_rng (Z := Z) (φ0 := φ1) (H0 := H1) 0 j
        rw [Int.sub_zero] at this
        exact this
      · exact run1.elim
    | _ => exact run1.elim, fun _ _ => rfl⟩
theorem HI.rng2 (gz : Good Z) (hm : ("range" : Str) ∈ Z.nb) (hg : glB sc "range" = true) (ha : HE Z N sc F a ca) (hb : HE Z N sc F b cb) : HI Z N sc F tg (.Call (.Name "range" p) [a, b] [] pos) (.rng2 ca cb) :=
  ⟨fun n W X g => PI_of (pi_range2 (glB_ok hg g.sc) (by rw [g.mg]; exact gz.nb _ hm) (pa_cons (ha.run n W X g) (pa_cons (hb.run n W X g) pa_nil (hb.sx.p1 _ _)) (ha.sx.p1 _ _)) (by rw [ha.sx.p1, hb.sx.p1]; rfl) (by rw [hb.sx.p1]; rfl)) fun σ H R ⟨φ, G, sw, rl, sl, run⟩ => by
    simp only [evI] at run
    refine tM_bnd rl sl run fun v φ1 G1 H1 w f1 rl1 sl1 sv run1 => tM_bnd rl1 sl1 run1 fun v2 φ2 G2 H2 w2 f2 rl2 sl2 sv2 run2 => ?_
    cases sv with
    | int i =>
      cases sv2 with
      | int j =>
        simp only at run2
        split at run2
        · rename_i hs
          simp only [Bool.and_eq_true] at hs
          obtain ⟨h1, h2⟩ := small_iff hs.1
          obtain ⟨h3, h4⟩ := small_iff hs.2
          exact ⟨i, j, rfl, ⟨h1, h2, h3, h4⟩, run2.here rl2 (seq_rng i j)⟩
        · exact run2.elim
      | _ => exact run2.elim
    | _ => exact run2.elim, fun _ _ => rfl⟩
theorem rng3_get (a b : Int) (i : Nat) (w : W) (h : (rng3L a b (-1))[i]? = some w) : i < (a - b).toNat ∧ w = .int (a + (i : Nat) * (-1)) := by
  unfold rng3L at h
  rw [if_neg (by decide), List.getElem?_map] at h
  have e : (a - b + (- -1) - 1) / (- -1) = a - b := by simp
  rw [e] at h
  by_cases hi : i < (a - b).toNat
  · rw [List.getElem?_range hi] at h
    cases h
    exact ⟨hi, rfl⟩
  · rw [List.getElem?_eq_none (by simp; omega)] at h
    cases h
theorem rng3_len (a b : Int) : (rng3L a b (-1)).length = (a - b).toNat := by
  unfold rng3L
  rw [if_neg (by decide), List.length_map, List.length_range]
  have e : (a - b + (- -1) - 1) / (- -1) = a - b := by simp
  rw [e]
theorem seq_rng3 {φ0 : Ad} {H0 : Hp} (a b : Int) : SeqR Z φ0 H0 ⟨rng3L a b (-1), none⟩ (Itc a (-1) (a - b).toNat) := fun i φ G H f r ok => by
  refine ⟨fun w hw => ?_, fun hl => by
    have hl : (rng3L a b (-1)).length ≤ i := hl
    rw [rng3_len] at hl
    exact hl⟩
  obtain ⟨h1, rfl⟩ := rng3_get a b i w hw
  exact ⟨h1, fun x H' ⟨e1, e2⟩ => by
    subst e1 e2
    exact ⟨.refl, r, .int _⟩⟩
theorem HI.rng3 (gz : Good Z) (hm : ("range" : Str) ∈ Z.nb) (hg : glB sc "range" = true) (ha : HE Z N sc F a ca) (hb : HE Z N sc F b cb) (hc : HE Z N sc F c₁ cc) : HI Z N sc F tg (.Call (.Name "range" p) [a, b, c₁] [] pos) (.rng3 ca cb cc) :=
  ⟨fun n W X g => PI_of (pi_range3 (glB_ok hg g.sc) (by rw [g.mg]; exact gz.nb _ hm) (pa_cons (ha.run n W X g) (pa_cons (hb.run n W X g) (pa_cons (hc.run n W X g) pa_nil (hc.sx.p1 _ _)) (hb.sx.p1 _ _)) (ha.sx.p1 _ _)) (ha.sx.p1 _ _) (by rw [hb.sx.p1, hc.sx.p1]; rfl)) fun σ H R ⟨φ, G, sw, rl, sl, run⟩ => by
    simp only [evI] at run
    refine tM_bnd rl sl run fun v φ1 G1 H1 w f1 rl1 sl1 sv run1 => tM_bnd rl1 sl1 run1 fun v2 φ2 G2 H2 w2 f2 rl2 sl2 sv2 run2 => tM_bnd rl2 sl2 run2 fun v3 φ3 G3 H3 w3 f3 rl3 sl3 sv3 run3 => ?_
    cases sv with
    | int i =>
      cases sv2 with
      | int j =>
        cases sv3 with
        | int k =>
          simp only at run3
          split at run3
          · rename_i hs
            simp only [Bool.and_eq_true, decide_eq_true_eq] at hs
            obtain ⟨h1, h2⟩ := small_iff hs.1.1
            obtain ⟨h3, h4⟩ := small_iff hs.1.2
            obtain rfl := hs.2
            exact ⟨i, j, -1, _, rfl, RgC.neg h1 h2 h3 h4, run3.here rl3 (seq_rng3 i j)⟩
          · exact run3.elim
        | _ => exact run3.elim
      | _ => exact run3.elim
    | _ => exact run3.elim, fun _ _ => rfl⟩
theorem new_tup {φ : Ad} {G : List O} {H : Hp} {T : Addr} {ws : List W} {vs : List V} (r : Rel Z.toEv0 φ G H) (hT : H T = none) (s : Sims Z.toEv0 φ H ws vs) : Fr φ H φ (upd H T (.tup vs)) ∧ Rel Z.toEv0 φ G (upd H T (.tup vs)) ∧ Sim Z.toEv0 φ (upd H T (.tup vs)) (.tup ws) (.ref T) :=
  ⟨Fr.new hT, r.new hT, .tup upd_same (s.keep (Fr.new hT) r.ours)⟩
theorem seq_enum {φ0 : Ad} {H0 : Hp} {ws : List W} {own : Option (Nat × List W)} {a : Addr} (h : ∀ φ G H, Fr φ0 H0 φ H → Rel Z.toEv0 φ G H → Seq.ok ⟨ws.zipIdx.map fun p => .tup [.int (p.2 : Nat), p.1], own⟩ G = true → ∃ vs, SqL Z.K H a vs ∧ Sims Z.toEv0 φ H ws vs) :
    SeqR Z φ0 H0 ⟨ws.zipIdx.map fun p => .tup [.int (p.2 : Nat), p.1], own⟩ (Ite Z.K a) := fun i φ G H f r ok => by
  obtain ⟨vs, q, ss⟩ := h φ G H f r ok
  refine ⟨fun w hw => ?_, fun hl => ⟨vs, q, by rw [← ss.len]; simpa using hl⟩⟩
  have hw : (ws.zipIdx.map fun p => W.tup [.int (p.2 : Nat), p.1])[i]? = some w := hw
  rw [List.getElem?_map, List.getElem?_zipIdx] at hw
  cases hx : ws[i]? with
  | none => rw [hx] at hw; cases hw
  | some y =>
    rw [hx] at hw
    simp at hw
    subst hw
    obtain ⟨v, hv, sv⟩ := ss.get hx
    refine ⟨⟨vs, v, q, hv⟩, fun x H' ⟨T, z, e1, hT, e2, y'⟩ => ?_⟩
    subst e1 e2
    have := y' vs q
    rw [hv] at this
    cases this
    exact new_tup r hT (.cons (.int _) (.cons sv .nil))
theorem HI.enum {elts : List Expr} {kk : Nat} {tpos : Pos} (gz : Good Z) (hm : ("enumerate" : Str) ∈ Z.nb) (hg : glB sc "enumerate" = true) (ha : HE Z N sc F a ca) : HI Z N sc F (.Tuple elts kk tpos) (.Call (.Name "enumerate" p) [a] [] pos) (.enum ca) :=
  ⟨fun n W X g => PI_of (pi_enum (glB_ok hg g.sc) (by rw [g.mg]; exact gz.nb _ hm) (pa_cons (ha.run n W X g) pa_nil (ha.sx.p1 _ _)) (ha.sx.p1 _ _)) fun σ H R ⟨φ, G, sw, rl, sl, run⟩ => by
    simp only [evI] at run
    refine tM_bnd rl sl run fun v φ1 G1 H1 w f1 rl1 sl1 sv run1 => ?_
    have o := rl1.ours
    cases sv with
    | @lst a ws vs q ss =>
      rw [g.gd.K]
      exact ⟨a, vs, rfl, q.sq, run1.here rl1 (seq_enum fun φ' G' H' f _ _ => ⟨vs, (q.keep f).sq, ss.keep f o⟩)⟩
    | @ref i a hi =>
      cases hG : G1[i]? with
      | none => simp only [hG] at run1; exact run1.elim
      | some ob =>
        cases ob with
        | dct _ => simp only [hG] at run1; exact run1.elim
        | lst ws =>
          simp only [hG] at run1
          have q := rl1.obj i _ _ hi hG
          cases q with
          | @lst _ vs h1 s1 =>
            rw [g.gd.K]
            refine ⟨a, vs, rfl, .of h1, run1.here rl1 (seq_enum fun φ' G' H' f r' ok => ?_)⟩
            simp only [Seq.ok] at ok
            cases hG' : G'[i]? with
            | none => simp [hG'] at ok
            | some ob' =>
              cases ob' with
              | dct _ => simp [hG'] at ok
              | lst us =>
                simp [hG'] at ok
                subst ok
                have q' := r'.obj i _ _ (f.at hi) hG'
                cases q' with
                | @lst _ vs' h1' s1' => exact ⟨vs', .of h1', s1'⟩
    | _ => exact run1.elim, fun _ _ => rfl⟩
theorem zip_get {xs ys : List W} {i : Nat} {w : W} (h : ((xs.zip ys).map fun p => W.tup [p.1, p.2])[i]? = some w) : ∃ x y, xs[i]? = some x ∧ ys[i]? = some y ∧ w = .tup [x, y] := by
  rw [List.getElem?_map] at h
  cases hz : (xs.zip ys)[i]? with
  | none => rw [hz] at h; cases h
  | some p =>
    rw [hz] at h
    cases h
    have := List.getElem?_zip_eq_some.mp hz
    exact ⟨p.1, p.2, this.1, this.2, rfl⟩
theorem HI.zip {elts : List Expr} {kk : Nat} {tpos : Pos} (gz : Good Z) (hm : ("zip" : Str) ∈ Z.nb) (hg : glB sc "zip" = true) (ha : HE Z N sc F a ca) (hb : HE Z N sc F b cb) : HI Z N sc F (.Tuple elts kk tpos) (.Call (.Name "zip" p) [a, b] [] pos) (.zip ca cb) :=
  ⟨fun n W X g => PI_of (RZ.pi_zipA (glB_ok hg g.sc) (by rw [g.mg]; exact gz.nb _ hm) (pa_cons (ha.run n W X g) (pa_cons (hb.run n W X g) pa_nil (hb.sx.p1 _ _)) (ha.sx.p1 _ _)) (ha.sx.p1 _ _) (by rw [hb.sx.p1]; rfl)) fun σ H R ⟨φ, G, sw, rl, sl, run⟩ => by
    simp only [evI] at run
    refine tM_bnd rl sl run fun v φ1 G1 H1 w f1 rl1 sl1 sv run1 => tM_bnd rl1 sl1 run1 fun v2 φ2 G2 H2 w2 f2 rl2 sl2 sv2 run2 => ?_
    have o := rl2.ours
    have sv := Sim.keep f2 rl1.ours sv
    cases sv with
    | @tup a ws vs q ss =>
      cases sv2 with
      | @tup b us xs q2 ss2 =>
        rw [g.gd.K]
        refine ⟨a, b, vs, xs, rfl, .inr ⟨.of q, .of q2, run2.here rl2 fun i φ' G' H' f r ok => ?_⟩⟩
        have q' : SqT Z.K H' a vs := .of (tup_keep f o q)
        have q2' : SqT Z.K H' b xs := .of (tup_keep f o q2)
        have ss' := ss.keep f o
        have ss2' := ss2.keep f o
        refine ⟨fun w hw => ?_, fun hl => ⟨vs, xs, q', q2', by
          have hl : ((ws.zip us).map fun p => T2.W.tup [p.1, p.2]).length ≤ i := hl
          rw [List.length_map, List.length_zip] at hl
          have e1 := ss.len
          have e2 := ss2.len
          omega⟩⟩
        obtain ⟨x, y, h1, h2, rfl⟩ := zip_get hw
        obtain ⟨v1, hv1, sv1⟩ := ss'.get h1
        obtain ⟨v2, hv2, sv2⟩ := ss2'.get h2
        refine ⟨⟨vs, xs, v1, v2, q', q2', hv1, hv2⟩, fun z H'' ⟨T, x', y', e1, hT, e2, g1, g2⟩ => ?_⟩
        subst e1 e2
        have k1 := g1 vs q'
        have k2 := g2 xs q2'
        rw [hv1] at k1
        rw [hv2] at k2
        cases k1
        cases k2
        exact new_tup r hT (.cons sv1 (.cons sv2 .nil))
      | _ => exact run2.elim
    | @lst a ws vs q ss =>
      cases sv2 with
      | @lst b us xs q2 ss2 =>
        rw [g.gd.K]
        refine ⟨a, b, vs, xs, rfl, .inl ⟨q.sq, q2.sq, run2.here rl2 fun i φ' G' H' f r ok => ?_⟩⟩
        have q' := (q.keep f).sq (K := Z.K)
        have q2' := (q2.keep f).sq (K := Z.K)
        have ss' := ss.keep f o
        have ss2' := ss2.keep f o
        refine ⟨fun w hw => ?_, fun hl => ⟨vs, xs, q', q2', by
          have hl : ((ws.zip us).map fun p => T2.W.tup [p.1, p.2]).length ≤ i := hl
          rw [List.length_map, List.length_zip] at hl
          have e1 := ss.len
          have e2 := ss2.len
          omega⟩⟩
        obtain ⟨x, y, h1, h2, rfl⟩ := zip_get hw
        obtain ⟨v1, hv1, sv1⟩ := ss'.get h1
        obtain ⟨v2, hv2, sv2⟩ := ss2'.get h2
        refine ⟨⟨vs, xs, v1, v2, q', q2', hv1, hv2⟩, fun z H'' ⟨T, x', y', e1, hT, e2, g1, g2⟩ => ?_⟩
        subst e1 e2
        have k1 := g1 vs q'
        have k2 := g2 xs q2'
        rw [hv1] at k1
        rw [hv2] at k2
        cases k1
        cases k2
        exact new_tup r hT (.cons sv1 (.cons sv2 .nil))
      | _ => exact run2.elim
    | _ => cases sv2 <;> exact run2.elim, fun _ _ => rfl⟩
end
end T2
end

section
set_option linter.all false
set_option autoImplicit false
set_option maxRecDepth 100000
set_option maxHeartbeats 2000000
/-! T2: targets, comprehensions. -/
namespace T2
open PySem L2
mutual
/-- the slots that a target stores -/
def T.own : T → List Nat
  | .nm i => [i]
  | .tp ts => Ts.own ts
  | .sub _ _ => []
def Ts.own : Ts → List Nat
  | .nil => []
  | .cons t ts => T.own t ++ Ts.own ts
end
/-- a target's end -/
def TgR (Z : Ev2) (own : List Nat) (σ : L2.St) : Ad → Hp → Sl → L2.St → Prop := fun φ H sw' σ' => Slots Z.toEv0 φ H sw' σ' ∧ (∀ j, j ∉ own → σ'[j]? = σ[j]?) ∧ σ'.length = σ.length
def tG (Z : Ev2) (own : List Nat) (m : W → Sl → List O → Res Sl) : TG := fun v σ H Q => ∃ (φ : Ad) (G : List O) (sw : Sl) (w : W), Rel Z.toEv0 φ G H ∧ Slots Z.toEv0 φ H sw σ ∧ Sim Z.toEv0 φ H w v ∧ Run Z.toEv1 (fun _ _ _ => False) (TgR Z own σ) (noX (m w sw G)) φ H Q
def tGs (Z : Ev2) (own : List Nat) (m : List W → Sl → List O → Res Sl) : TGs := fun vs σ H Q => ∃ (φ : Ad) (G : List O) (sw : Sl) (ws : List W), Rel Z.toEv0 φ G H ∧ Slots Z.toEv0 φ H sw σ ∧ Sims Z.toEv0 φ H ws vs ∧ Run Z.toEv1 (fun _ _ _ => False) (TgR Z own σ) (noX (m ws sw G)) φ H Q
structure HG (Z : Ev2) (N : List Str) (sc : Scope) (F : Str → Bool) (e : Expr) (t : T) : Prop where
  run : ∀ n W X, Ctx Z n N sc F W X → PG X e (tG Z t.own (asgT (Z.cl n) Z.gk t))
  p1 : ∀ (env : Env) (es : List Expr), assignEach (e :: es) env = (false, assign e env) :: assignEach es env
structure HGs (Z : Ev2) (N : List Str) (sc : Scope) (F : Str → Bool) (es : List Expr) (ts : Ts) : Prop where
  run : ∀ n W X, Ctx Z n N sc F W X → PGs X es (tGs Z ts.own (asgTs (Z.cl n) Z.gk ts))
  st : ∀ env, assignEach es env = es.map fun e => (false, assign e env)
  ln : ∀ cl gk ws sw G, noX (asgTs cl gk ts ws sw G) ≠ .stuck → ws.length = es.length
section
variable {Z : Ev2} {N : List Str} {sc : Scope} {F : Str → Bool} {e a b c₁ tg : Expr} {c ca cb cc : E} {t : T} {ts : Ts} {pos p p1 p2 : Pos} {es : List Expr} {cs : Es} {x : Str}
def locB (sc : Scope) (x : Str) : Bool := decide (sc.names.lookup x = some .local) || decide (sc.names.lookup x = some .cell)
/-- a part first, without errors -/
theorem tM_bndX {W : WX} {α β γ δ : Type} {R : Ad → Hp → α → β → Prop} {S : Ad → Hp → γ → δ → Prop} {σ : L2.St} {H : Hp} {φ : Ad} {G : List O} {sw : Sl} {E : XK} {m : Sl → List O → Res α} {f : α → List O → Res γ} {Q : δ → Hp → Prop} {Q' : β → Hp → Prop} (rl : Rel Z.toEv0 φ G H) (sl : Slots Z.toEv0 φ H sw σ) (run : Run Z.toEv1 E S (bnd (noX (m sw G)) f) φ H Q)
    (k : ∀ b φ1 G1 H1 a, Fr φ H φ1 H1 → Rel Z.toEv0 φ1 G1 H1 → Slots Z.toEv0 φ1 H1 sw σ → R φ1 H1 a b → Run Z.toEv1 E S (f a G1) φ1 H1 Q → Q' b H1) : tM Z W R m σ H Q' :=
  ⟨φ, G, sw, rl, sl, Run.noX (E := E) ((run.bnd).imp fun b H' ⟨φ1, G1, a, fr, rl1, s, r⟩ => k b φ1 G1 H' a fr rl1 (sl.keep fr rl.ours) s r)⟩
theorem HG.nm {i : Nat} (hN : N[i]? = some x) (hl : locB sc x = true) (hf : (F x || decide (sc.names.lookup x = some .local)) = true) : HG Z N sc F (.Name x pos) (.nm i) :=
  ⟨fun n W X g => PG_of (pg_name (i := i) (by rw [g.nm]; exact g.nd) (by rw [g.nm]; exact hN) (by rw [g.sc]; simpa [locB, L2.Loc] using hl) (by
      rw [g.sc]
      simp only [Bool.or_eq_true, decide_eq_true_eq] at hf
      exact hf.imp (g.fn x) id)) fun v σ H Q ⟨φ, G, sw, w, rl, sl, sv, run⟩ => by
    simp only [asgT, noX] at run
    refine run.here rl ⟨sl.set sv i, fun j hj => ?_, List.length_set⟩
    have hj : j ≠ i := by simpa [T.own] using hj
    rw [List.getElem?_set_ne (Ne.symm hj)], fun _ _ => rfl⟩
theorem HGs.nil : HGs Z N sc F [] .nil := ⟨fun n W X g => PGs_of pgs_nil fun vs σ H Q ⟨φ, G, sw, ws, rl, sl, ss, run⟩ => by
  cases ss with
  | nil =>
    simp only [asgTs, noX] at run
    exact ⟨rfl, run.here rl ⟨sl, fun _ _ => rfl, rfl⟩⟩
  | cons _ _ => simp only [asgTs, noX] at run; exact run.elim, fun _ => rfl, fun cl gk ws sw G h => by
  cases ws with
  | nil => rfl
  | cons _ _ => exact absurd (by simp only [asgTs, noX]) h⟩
theorem HGs.cons (h1 : HG Z N sc F e t) (h2 : HGs Z N sc F es ts) : HGs Z N sc F (e :: es) (.cons t ts) :=
  ⟨fun n W X g => PGs_of (pgs_cons (h1.run n W X g) (h2.run n W X g) (by rw [h1.p1]; rfl)) fun vs σ H Q ⟨φ, G, sw, ws, rl, sl, ss, run⟩ => by
    cases ss with
    | nil => simp only [asgTs, noX] at run; exact run.elim
    | @cons w ws v vs sv ss =>
      simp only [asgTs, noX_bnd] at run
      refine ⟨v, vs, rfl, φ, G, sw, w, rl, sl, sv, (run.bnd).imp fun σ1 H1 ⟨φ1, G1, sw1, fr, rl1, ⟨sl1, same, ln1⟩, run1⟩ => ⟨φ1, G1, sw1, ws, rl1, sl1, ss.keep fr rl.ours, ?_⟩⟩
      generalize asgTs (Z.cl n) Z.gk ts ws sw1 G1 = r at run1 ⊢
      cases r with
      | ok sw2 G2 => exact fun φ' H' b f r q => run1 φ' H' b f r ⟨q.1, fun j hj => by
          have hj : j ∉ t.own ∧ j ∉ ts.own := by simpa [Ts.own] using hj
          rw [q.2.1 j hj.2, same j hj.1], q.2.2.trans ln1⟩
      | exc _ _ _ => exact run1
      | stuck => exact run1, fun env => by rw [h1.p1, h2.st, List.map_cons], fun cl gk ws sw G h => by
    cases ws with
    | nil => exact absurd (by simp only [asgTs, noX]) h
    | cons w ws =>
      simp only [asgTs, noX_bnd] at h
      cases hr : noX (asgT cl gk t w sw G) with
      | ok sw1 G1 =>
        rw [hr] at h
        rw [List.length_cons, List.length_cons, h2.ln cl gk ws sw1 G1 h]
      | exc _ _ _ =>
        exfalso
        cases hq : asgT cl gk t w sw G <;> rw [hq] at hr <;> cases hr
      | stuck => rw [hr] at h; exact absurd rfl h⟩
theorem HG.tp {k : Nat} (h : HGs Z N sc F es ts) : HG Z N sc F (.Tuple es k pos) (.tp ts) :=
  ⟨fun n W X g => ⟨fun pins s σ H v u Q I ru ⟨φ, G, sw, w, rl, sl, sv, run⟩ => by
    have hst : (assignEach es X.env).length = es.length := by rw [h.st, List.length_map]
    have hst2 : (assignEach es X.env).findIdx? (·.1) = none := by
      rw [h.st, List.findIdx?_map, List.findIdx?_eq_none_iff]
      intro x _
      rfl
    have lk := look_sim rl sv
    simp only [asgT] at run
    cases hl : look w G with
    | tup ws =>
      rw [hl] at lk
      simp only [hl] at run
      cases lk with
      | @tup a _ vs q ss =>
        refine (pg_tup (X := X) (pos := pos) (k := k) g.gd.calm (h.run n W X g) hst hst2).run pins s σ H _ u Q I ru ⟨a, vs, rfl, by rw [g.gd.K]; exact .of q, ?_, φ, G, sw, ws, rl, sl, ss, run⟩
        rw [← ss.len]
        exact h.ln _ _ ws sw G fun z => by rw [z] at run; exact run
      | oth _ _ h _ => exact absurd rfl (h ws)
    | lst ws =>
      rw [hl] at lk
      simp only [hl] at run
      cases lk with
      | @lst a _ vs q ss =>
        refine (pg_lst (X := X) (pos := pos) (k := k) g.gd.calm (h.run n W X g) hst hst2).run pins s σ H _ u Q I ru ⟨a, vs, rfl, by rw [g.gd.K]; exact q, ?_, φ, G, sw, ws, rl, sl, ss, run⟩
        rw [← ss.len]
        exact h.ln _ _ ws sw G fun z => by rw [z] at run; exact run
      | oth _ h _ _ => exact absurd rfl (h ws)
    | _ => simp only [hl] at run; exact run.elim⟩, fun _ _ => rfl⟩
/-- o[i] = v, by values -/
def rSetS (Z : Ev2) : TSet := fun o i v H Q => ∃ (φ : Ad) (G : List O) (wo wi wv : W), Rel Z.toEv0 φ G H ∧ Sim Z.toEv0 φ H wo o ∧ Sim Z.toEv0 φ H wi i ∧ Sim Z.toEv0 φ H wv v ∧ Run Z.toEv1 (fun _ _ _ => False) (fun _ _ _ _ => True) (setW wo wi wv G) φ H (fun (_ : Unit) H' => Q H')
theorem set_S {n : Nat} {X : Cx} (g : Gd Z.toEv1 n X) : PSet X (rSetS Z) := by
  intro pins s σ H o i v ov iv u Q I ro ri rv ⟨φ, G, wo, wi, wv, rl, so, si, sv, run⟩
  cases so with
  | @ref r a hr =>
    simp only [setW] at run
    cases hG : G[r]? with
    | none => simp only [hG] at run; exact run.elim
    | some ob =>
      have q := rl.obj r a _ hr hG
      cases ob with
      | lst ws =>
        simp only [hG] at run
        cases si with
        | int k =>
          simp only at run
          split at run
          · rename_i h0
            split at run
            · rename_i hk
              cases q with
              | @lst _ vs h1 ss =>
                refine set_list pins s σ H _ _ v ov iv u Q I ro ri rv ⟨a, vs, k, k.toNat, rfl, rfl, h1, ?_, ?_⟩
                · unfold ixN
                  rw [if_pos h0, if_pos (by rw [← ss.len]; omega)]
                · have f : Fr φ H φ (upd H a (.lst (vs.set k.toNat v))) := Fr.put (List.mem_of_getElem? hr)
                  exact run φ _ () f (rl.put hr (List.getElem?_eq_some_iff.mp hG).1 ⟨fun _ z => (by cases z), fun _ _ z => (by cases z)⟩ (.lst upd_same ((ss.set sv k.toNat).keep f rl.ours))) trivial
            · exact run.elim
          · split at run
            · rename_i h0 hk
              cases q with
              | @lst _ vs h1 ss =>
                refine set_list pins s σ H _ _ v ov iv u Q I ro ri rv ⟨a, vs, k, (k + ws.length).toNat, rfl, rfl, h1, ?_, ?_⟩
                · unfold ixN
                  rw [if_neg h0, if_pos (by rw [← ss.len]; omega), ss.len]
                · have f : Fr φ H φ (upd H a (.lst (vs.set (k + ws.length).toNat v))) := Fr.put (List.mem_of_getElem? hr)
                  exact run φ _ () f (rl.put hr (List.getElem?_eq_some_iff.mp hG).1 ⟨fun _ z => (by cases z), fun _ _ z => (by cases z)⟩ (.lst upd_same ((ss.set sv (k + ws.length).toNat).keep f rl.ours))) trivial
            · exact run.elim
        | _ => exact run.elim
      | dct kvs =>
        simp only [hG] at run
        split at run
        case isFalse => exact run.elim
        rename_i hk
        simp only [Bool.and_eq_true, decide_eq_true_eq] at hk
        obtain ⟨kk, ek⟩ := keyT_ok hk.1
        obtain ⟨b, rfl, hb⟩ := key_at si ek
        cases q with
        | @dct _ ks h1 d =>
          obtain rfl : ov = Value.ref a := ro
          refine d_setItem (by have := g.u; omega) I (DPut.t h1 hb (by rw [← d.len, sizeLine_eq]; exact hk.2)) ri rv fun s' J => ⟨_, J, ?_⟩
          have f : Fr φ H φ (upd H a (.dT (putK ks kk v))) := Fr.put (List.mem_of_getElem? hr)
          exact run φ _ () f (rl.put hr (List.getElem?_eq_some_iff.mp hG).1 ⟨fun _ z => (by cases z), fun _ _ z => (by cases z)⟩ (.dct upd_same ((DSim.put ek sv d).keep f rl.ours))) trivial
  | _ => exact run.elim
theorem HG.sub {o i : Expr} {co ci : E} (ho : HE Z N sc F o co) (hi : HE Z N sc F i ci) : HG Z N sc F (.Subscript o i pos) (.sub co ci) :=
  ⟨fun n W X g => PG_of (pg_sub (ho.run n W X g) (hi.run n W X g) (set_S g.gd) fun v => hi.sx.asg o pos X.env v) fun v σ H Q ⟨φ, G, sw, w, rl, sl, sv, run⟩ => by
    simp only [asgT, noX_bnd] at run
    exact tM_bndX rl sl run fun x φ1 G1 H1 wx f1 rl1 sl1 sx run1 => tM_bndX rl1 sl1 run1 fun y φ2 G2 H2 wy f2 rl2 sl2 sy run2 => by
      refine ⟨φ2, G2, wx, wy, w, rl2, Sim.keep f2 rl1.ours sx, sy, Sim.keep f2 rl1.ours (Sim.keep f1 rl.ours sv), ?_⟩
      generalize setW wx wy w G2 = r at run2 ⊢
      cases r with
      | ok u G3 => exact fun φ' H' b f r _ => run2 φ' H' σ f r ⟨sl2.keep f rl2.ours, fun _ _ => rfl, rfl⟩
      | exc _ _ _ => exact run2.elim
      | stuck => exact run2, fun _ _ => rfl⟩
end
end T2
end

section
set_option linter.all false
set_option autoImplicit false
set_option maxRecDepth 100000
set_option maxHeartbeats 2000000
/-! T2: comprehensions. -/
namespace T2
open PySem L2
section
variable {Z : Ev0} {φ ψ : Ad} {G : List O} {H H' : Hp}
theorem OSim.move {a : Addr} {o : O} (hr : ∀ (i : Nat) (a : Addr), φ.l[i]? = some a → ψ.l[i]? = some a) (hψ : ∀ a o, H a = some o → a ∉ φ.l → a ∉ φ.m → a ∉ ψ.l ∧ a ∉ ψ.m ∧ H' a = some o) (ht : ∀ a, (∃ vs, H a = some (.tup vs)) ∨ (∃ o u, H a = some (.frz o u)) → H' a = H a) (e : H' a = H a) (h : OSim Z φ H a o) : OSim Z ψ H' a o := by
  cases h with
  | lst h1 s => exact .lst (e.trans h1) (s.move hr hψ ht)
  | dct h1 s => exact .dct (e.trans h1) (s.move hr hψ ht)
/-- the list that is being made is written -/
theorem Rel.ban_put {D : Addr} {vs : List V} (r : Rel Z φ G H) (hm : D ∈ φ.m) (hl : D ∉ φ.l) (hD : ∃ us, H D = some (.lst us)) : Rel Z φ G (upd H D (.lst vs)) := by
  obtain ⟨us, hD⟩ := hD
  have hψ : ∀ a o, H a = some o → a ∉ φ.l → a ∉ φ.m → a ∉ φ.l ∧ a ∉ φ.m ∧ upd H D (.lst vs) a = some o := fun a o e h1 h2 => ⟨h1, h2, by rw [upd_ne (fun z => h2 (by rw [z]; exact hm))]; exact e⟩
  have ht : ∀ a, (∃ vs, H a = some (.tup vs)) ∨ (∃ o u, H a = some (.frz o u)) → upd H D (.lst vs) a = H a := fun a h => upd_ne (fun z => by
    subst z
    rcases h with ⟨_, h⟩ | ⟨_, _, h⟩ <;> (rw [hD] at h; cases h))
  refine ⟨r.len, r.nd, fun i a o h1 h2 => (r.obj i a o h1 h2).move (fun _ _ h => h) hψ ht (upd_ne fun z => hl (by rw [← z]; exact List.mem_of_getElem? h1)), fun a ha => ?_⟩
  by_cases z : a = D
  · subst z
    exact ⟨_, upd_same, fun _ z => (by cases z), fun _ _ z => (by cases z)⟩
  · obtain ⟨u, e, n⟩ := r.ban a ha
    exact ⟨u, by rw [upd_ne z]; exact e, n⟩
theorem Sims.ban_put {D : Addr} {vs : List V} {ws : List W} {xs : List V} (s : Sims Z φ H ws xs) (hm : D ∈ φ.m) (hD : ∃ us, H D = some (.lst us)) : Sims Z φ (upd H D (.lst vs)) ws xs := by
  obtain ⟨us, hD⟩ := hD
  exact s.move (fun _ _ h => h) (fun a o e h1 h2 => ⟨h1, h2, by rw [upd_ne (fun z => h2 (by rw [z]; exact hm))]; exact e⟩) fun a h => upd_ne (fun z => by
    subst z
    rcases h with ⟨_, h⟩ | ⟨_, _, h⟩ <;> (rw [hD] at h; cases h))
/-- the list that is being made -/
def Ad.with (φ : Ad) (D : Addr) : Ad := ⟨φ.l, D :: φ.m⟩
def Ad.free (φ : Ad) (D : Addr) : Ad := ⟨φ.l, φ.m.filter fun a => decide (a ≠ D)⟩
theorem Fr.with {D : Addr} {o : HO} (h : H D = none) : Fr φ H (φ.with D) (upd H D o) := by
  obtain ⟨m, s, k, b⟩ := Fr.new (φ := φ) (o := o) h
  exact ⟨⟨[], by simp [Ad.with], by simp⟩, ⟨fun a ha => List.mem_cons_of_mem _ ha, fun a ha => by
    rcases List.mem_cons.mp ha with z | z
    · exact .inr (z ▸ h)
    · exact .inl z⟩, k, b⟩
theorem Rel.with {D : Addr} {vs : List V} (r : Rel Z φ G H) (h : H D = none) : Rel Z (φ.with D) G (upd H D (.lst vs)) := by
  have r2 := r.new (p := D) (o := .lst vs) h
  have hn : D ∉ φ.l := fun hm => by
    obtain ⟨u, e, _⟩ := r.ours D (.inl hm)
    rw [h] at e
    cases e
  have hψ : ∀ a o, H a = some o → a ∉ φ.l → a ∉ φ.m → a ∉ (φ.with D).l ∧ a ∉ (φ.with D).m ∧ upd H D (.lst vs) a = some o := fun a o e h1 h2 => ⟨h1, fun hm => (List.mem_cons.mp hm).elim (fun z => by rw [z, h] at e; cases e) h2, by rw [upd_ne (ne_of_none e h)]; exact e⟩
  refine ⟨r.len, r.nd, fun i a o h1 h2 => OSim.move (φ := φ) (ψ := φ.with D) (fun _ _ h => h) hψ (fun a hh => upd_ne fun z => by
    subst z
    rcases hh with ⟨_, e⟩ | ⟨_, _, e⟩ <;> (rw [h] at e; cases e)) (upd_ne fun z => hn (by rw [← z]; exact List.mem_of_getElem? h1)) (r.obj i a o h1 h2), fun a ha => ?_⟩
  rcases List.mem_cons.mp ha with z | z
  · subst z
    exact ⟨_, upd_same, fun _ z => (by cases z), fun _ _ z => (by cases z)⟩
  · exact r2.ban a z
theorem free_out {D a : Addr} (h : a ∉ φ.m) : a ∉ (φ.free D).m := fun hm => h (List.mem_filter.mp hm).1
theorem Rel.free {D : Addr} (r : Rel Z φ G H) : Rel Z (φ.free D) G H :=
  ⟨r.len, r.nd, fun i a o h1 h2 => OSim.move (φ := φ) (ψ := φ.free D) (fun _ _ h => h) (fun a o e h1 h2 => ⟨h1, free_out h2, e⟩) (fun _ _ => rfl) rfl (r.obj i a o h1 h2), fun a ha => r.ban a (List.mem_filter.mp ha).1⟩
theorem Sims.unban {D : Addr} {ws : List W} {xs : List V} (s : Sims Z φ H ws xs) : Sims Z (φ.free D) H ws xs := Sims.move (φ := φ) (ψ := φ.free D) (fun _ _ h => h) (fun a o e h1 h2 => ⟨h1, free_out h2, e⟩) (fun _ _ => rfl) s
theorem Fr.free {φ1 : Ad} {H1 : Hp} {D : Addr} (f : Fr φ1 H1 φ H) (o : Ours φ1 H1) (h : H1 D = none) : Fr φ1 H1 (φ.free D) H :=
  ⟨f.more, ⟨fun a ha => List.mem_filter.mpr ⟨f.same.1 a ha, by
    simp only [decide_eq_true_eq]
    rintro rfl
    obtain ⟨u, e, _⟩ := o a (.inr ha)
    rw [h] at e
    cases e⟩, fun a ha => f.same.2 a (List.mem_filter.mp ha).1⟩, f.keep, f.back⟩
/-- the list is made: it is ours -/
theorem Rel.made {D : Addr} {ws : List W} {vs : List V} (r : Rel Z φ G H) (hl : D ∉ φ.l) (hm : D ∈ φ.m) (hD : H D = some (.lst vs)) (s : Sims Z φ H ws vs) : Rel Z ((φ.free D).add D) (G ++ [.lst ws]) H := by
  have hψ : ∀ a o, H a = some o → a ∉ φ.l → a ∉ φ.m → a ∉ ((φ.free D).add D).l ∧ a ∉ ((φ.free D).add D).m ∧ H a = some o := fun a o e h1 h2 => ⟨fun z => by
    rcases List.mem_append.mp z with z | z
    · exact h1 z
    · have : a = D := by simpa using z
      exact h2 (this ▸ hm), free_out h2, e⟩
  have hr : ∀ (i : Nat) (a : Addr), φ.l[i]? = some a → ((φ.free D).add D).l[i]? = some a := fun i a h => by
    show (φ.l ++ [D])[i]? = some a
    rw [List.getElem?_append_left (List.getElem?_eq_some_iff.mp h).1]
    exact h
  refine ⟨by simp [Ad.add, Ad.free, r.len], ?_, fun i b ob h1 h2 => ?_, fun b hb => r.ban b (List.mem_filter.mp hb).1⟩
  · show (φ.l ++ [D]).Nodup
    rw [List.nodup_append]
    exact ⟨r.nd, by simp, fun x hx y hy => by
      have : y = D := by simpa using hy
      rw [this]
      exact fun z => hl (z ▸ hx)⟩
  · have h1 : (φ.l ++ [D])[i]? = some b := h1
    by_cases hi : i < φ.l.length
    · rw [List.getElem?_append_left hi] at h1
      rw [List.getElem?_append_left (by rw [← r.len]; exact hi)] at h2
      exact (r.obj i b ob h1 h2).move hr hψ (fun _ _ => rfl) rfl
    · rw [List.getElem?_append_right (by omega)] at h1
      rw [List.getElem?_append_right (by rw [← r.len]; omega)] at h2
      have e1 : i - φ.l.length = 0 := by
        rcases Nat.eq_zero_or_pos (i - φ.l.length) with z | z
        · exact z
        · rw [List.getElem?_eq_none (by simp; omega)] at h1
          cases h1
      rw [e1] at h1
      have e2 : i - G.length = 0 := by rw [← r.len]; exact e1
      rw [e2] at h2
      simp at h1 h2
      subst h1
      subst h2
      exact .lst hD (s.move hr hψ (fun _ _ => rfl))
end
section
variable {Z : Ev2} {N : List Str} {sc : Scope} {F : Str → Bool} {e a b c₁ tg iter elt : Expr} {c ca cb cc ce : E} {t : T} {ts : Ts} {pos p p1 p2 : Pos} {es ifs : List Expr} {cs : Es} {x : Str}
structure HC (Z : Ev2) (N : List Str) (sc : Scope) (F : Str → Bool) (ifs : List Expr) (c : Op) : Prop where
  run : ∀ n W X, Ctx Z n N sc F W X → PTs X ifs (tT Z W (evC (Z.cl n) Z.gk c))
theorem HC.no : HC Z N sc F [] .no := ⟨fun n W X g => PTs_of pts_nil fun σ H Q ⟨φ, G, sw, rl, sl, run⟩ => by
  simp only [evC] at run
  exact run.here rl rfl⟩
theorem HC.yes (h : HT Z N sc F e c) : HC Z N sc F [e] (.yes c) := ⟨fun n W X g => PTs_of (pts_one (h.run n W X g)) fun σ H Q ⟨φ, G, sw, rl, sl, run⟩ => by
  simp only [evC] at run
  exact ⟨φ, G, sw, rl, sl, run⟩⟩
/-- nothing is let out -/
abbrev W0 : WX := fun _ _ _ _ => False
theorem Ctx.blk {n : Nat} {W : WX} {X : Cx} (g : Ctx Z n N sc F W X) (scope : Scope) (s : Shared) (H : Hp) (C : Addr) (cl : List (Str × Addr)) (fp : List Addr) :
    Ctx Z n N (relS scope sc) (fun x => scope.names.lookup x == some .cell) W0 (X.blk s H scope (compEnvC scope cl C X.env) fp) :=
  ⟨⟨g.gd.P, g.gd.w, g.gd.K, g.gd.calm, g.gd.room⟩, g.nm, g.nd, by rw [← g.sc]; rfl, takes0, g.mg, g.base, g.fns, fun _ h => h⟩
theorem wipe_len (σ : L2.St) : ∀ l : List Nat, (L2.wipe σ l).length = σ.length
  | [] => rfl
  | i :: l => by show ((L2.wipe σ l).set i none).length = _; rw [List.length_set, wipe_len σ l]
theorem wipe_at (σ : L2.St) (j : Nat) : ∀ l : List Nat, (L2.wipe σ l)[j]? = if j ∈ l ∧ j < σ.length then some none else σ[j]?
  | [] => by simp [L2.wipe]
  | i :: l => by
    show ((L2.wipe σ l).set i none)[j]? = _
    by_cases h : i = j
    · subst h
      by_cases hl : i < σ.length
      · rw [List.getElem?_set_self (by rw [wipe_len]; exact hl), if_pos ⟨List.mem_cons_self, hl⟩]
      · rw [if_neg (fun z => hl z.2), List.getElem?_eq_none (by simp [wipe_len]; omega), List.getElem?_eq_none (by omega)]
    · rw [List.getElem?_set_ne h, wipe_at σ j l]
      have : (j ∈ i :: l ∧ j < σ.length) ↔ (j ∈ l ∧ j < σ.length) := by
        rw [List.mem_cons]
        constructor
        · rintro ⟨z | z, h2⟩
          · exact absurd z.symm h
          · exact ⟨z, h2⟩
        · exact fun z => ⟨.inr z.1, z.2⟩
      by_cases hc : j ∈ l ∧ j < σ.length
      · rw [if_pos hc, if_pos (this.mpr hc)]
      · rw [if_neg hc, if_neg (fun z => hc (this.mp z))]
theorem wipe_same {σ σ2 : L2.St} {vs own : List Nat} (hs : ∀ i ∈ own, i ∈ vs) (hl : σ2.length = σ.length) (h : ∀ j, j ∉ own → σ2[j]? = (L2.wipe σ vs)[j]?) : L2.wipe σ2 vs = L2.wipe σ vs := by
  apply List.ext_getElem?
  intro j
  rw [wipe_at, wipe_at, hl]
  by_cases hc : j ∈ vs ∧ j < σ.length
  · rw [if_pos hc, if_pos hc]
  · rw [if_neg hc, if_neg hc]
    by_cases ho : j ∈ own
    · have : ¬ j < σ.length := fun z => hc ⟨hs j ho, z⟩
      rw [List.getElem?_eq_none (by omega), List.getElem?_eq_none (by omega)]
    · rw [h j ho, wipe_at, if_neg hc]
theorem noX_case {α : Type} (r : Res α) : (∃ a G, r = .ok a G ∧ noX r = .ok a G) ∨ noX r = .stuck := by
  cases r with
  | ok a G => exact .inl ⟨a, G, rfl, rfl⟩
  | exc _ _ _ => exact .inr rfl
  | stuck => exact .inr rfl
/-- a comprehension's reading -/
theorem lc_read {n : Nat} {W : WX} {m : Bool} {own : List Nat} {it : T2.It} {cd : Op} {σ : L2.St} {H : Hp} {Q : VK} (hsub : ∀ i ∈ t.own, i ∈ own) (h : tE Z W (ev (Z.cl n) Z.gk (.lc m own t it cd ce)) σ H Q) :
    tLc (tM Z W (SeqR Z) (evI (Z.cl n) Z.gk it)) (tG Z t.own (asgT (Z.cl n) Z.gk t)) (tT Z W0 (evC (Z.cl n) Z.gk cd)) (tE Z W0 (ev (Z.cl n) Z.gk ce)) own σ H Q := by
  obtain ⟨φ, G, sw, rl, sl, run⟩ := h
  simp only [ev] at run
  refine tM_bnd rl sl run fun J φ1 G1 H1 s f1 rl1 sl1 sj run1 => ?_
  intro D hD
  generalize hA : (fun (x : T2.W) (G : List O) => asgT (Z.cl n) Z.gk t x (T2.wipe sw own) G) = A at run1
  generalize hC : (fun (sw1 : Sl) (G : List O) => evC (Z.cl n) Z.gk cd sw1 G) = C at run1
  generalize hE : (fun (sw1 : Sl) (G : List O) => ev (Z.cl n) Z.gk ce sw1 G) = E at run1
  refine ⟨fun i m' H => m' = s.items.length - i ∧ ∃ (φ : Ad) (G : List O) (accW : List T2.W) (accV : List V), Fr φ1 H1 φ H ∧ D ∈ φ.m ∧ D ∉ φ.l ∧ H D = some (.lst accV) ∧ Rel Z.toEv0 φ G H ∧ Sims Z.toEv0 φ H accW accV ∧
    Run Z.toEv1 (Er W) (SimR Z.toEv1) (bnd (lcL A C E s (s.items.drop i) accW G) fun ws G2 => T2.mkL m ws G2) φ1 H1 Q, ⟨_, rfl, φ1.with D, G1, [], [], Fr.with hD, List.mem_cons_self, fun hm => ?_, upd_same, rl1.with hD, .nil, run1⟩, ?_⟩
  · obtain ⟨u, e, _⟩ := rl1.ours D (.inl hm)
    rw [hD] at e
    cases e
  rintro i m' H ⟨rfl, φ, G, accW, accV, fr, dm, dl, hHD, r, ss, run2⟩
  have hok : s.ok G = true := by
    cases hd : s.items.drop i with
    | nil =>
      rw [hd] at run2
      simp only [lcL] at run2
      cases ho : s.ok G with
      | true => rfl
      | false => rw [ho] at run2; exact run2.elim
    | cons w ws =>
      rw [hd] at run2
      simp only [lcL] at run2
      cases ho : s.ok G with
      | true => rfl
      | false => rw [ho] at run2; exact run2.elim
  obtain ⟨go, stop⟩ := sj i φ G H fr r hok
  cases hw : s.items[i]? with
  | none =>
    have hi : s.items.length ≤ i := by
      rcases Nat.lt_or_ge i s.items.length with z | z
      · rw [List.getElem?_eq_getElem z] at hw
        cases hw
      · exact z
    refine .inl ⟨stop hi, ?_⟩
    rw [List.drop_eq_nil_of_le hi] at run2
    simp only [lcL, hok, if_true, bnd_ok] at run2
    have f2 := fr.free rl1.ours hD
    unfold T2.mkL at run2
    split at run2
    · cases m with
      | true =>
        have f3 : Fr φ1 H1 ((φ.free D).add D) H := by
          obtain ⟨tl, e, nn⟩ := f2.more
          refine ⟨⟨tl ++ [D], by show φ.l ++ [D] = _; rw [show φ.l = _ from e, List.append_assoc], fun a ha => ?_⟩, f2.same, f2.keep, f2.back⟩
          rcases List.mem_append.mp ha with z | z
          · exact nn a z
          · have : a = D := by simpa using z
            exact this ▸ hD
        refine run2 _ H _ f3 (r.made dl dm hHD ss) (.ref ?_)
        show (φ.l ++ [D])[G.length]? = some D
        rw [← r.len]
        simp
      | false => exact run2 _ H _ f2 r.free (.lst ⟨dl, fun z => by simpa using (List.mem_filter.mp z).2, hHD⟩ ss.unban)
    · exact run2.elim
  | some w =>
    have hi : i < s.items.length := (List.getElem?_eq_some_iff.mp hw).1
    obtain ⟨hgo, hy⟩ := go w hw
    refine .inr ⟨hgo, fun H' => ∃ (φ : Ad) (G : List O) (accW : List T2.W) (accV : List V), Fr φ1 H1 φ H' ∧ D ∈ φ.m ∧ D ∉ φ.l ∧ H' D = some (.lst accV) ∧ Rel Z.toEv0 φ G H' ∧ Sims Z.toEv0 φ H' accW accV ∧
      Run Z.toEv1 (Er W) (SimR Z.toEv1) (bnd (lcL A C E s (s.items.drop (i + 1)) accW G) fun ws G2 => T2.mkL m ws G2) φ1 H1 Q, fun H' h => ⟨_, by omega, rfl, h⟩, fun x H' y => ?_⟩
    obtain ⟨fy, ry, sx⟩ := hy x H' y
    have hdrop : s.items.drop i = w :: s.items.drop (i + 1) := by
      rw [List.drop_eq_getElem_cons hi]
      congr 1
      rw [List.getElem?_eq_getElem hi] at hw
      exact Option.some.inj hw
    rw [hdrop] at run2
    simp only [lcL, hok, Bool.true_and] at run2
    split at run2
    case isFalse => exact run2.elim
    rename_i hz
    have hz := szOk_iff.mp hz
    rcases noX_case (A w G) with ⟨sw1, G2, eA, eA'⟩ | eA
    case inr => rw [eA] at run2; exact run2.elim
    rw [eA', bnd_ok] at run2
    have frY := fr.trans fy
    have slY : Slots Z.toEv0 φ H' (T2.wipe sw own) (L2.wipe σ own) := (sl1.keep frY rl1.ours).wipe own
    refine ⟨φ, G, T2.wipe sw own, w, ry, slY, sx, ?_⟩
    have eA2 : asgT (Z.cl n) Z.gk t w (T2.wipe sw own) G = .ok sw1 G2 := by rw [← hA] at eA; exact eA
    rw [eA2, noX_ok]
    intro φ2 H2 σ2 f2 r2 ⟨sl2, same2, len2⟩
    refine ⟨wipe_same hsub (by rw [len2, wipe_len]) same2, ?_⟩
    rcases noX_case (C sw1 G2) with ⟨cv, G3, eC, eC'⟩ | eC
    case inr => rw [eC] at run2; exact run2.elim
    rw [eC', bnd_ok] at run2
    have eC2 : evC (Z.cl n) Z.gk cd sw1 G2 = .ok cv G3 := by rw [← hC] at eC; exact eC
    refine ⟨φ2, G2, sw1, r2, sl2, ?_⟩
    rw [eC2]
    intro φ3 H3 bv f3 r3 eb
    have eb : cv = bv := eb
    subst eb
    have F3 := (fy.trans f2).trans f3
    cases cv with
    | false =>
      rw [if_neg (by decide)]
      rw [if_neg (by decide)] at run2
      refine ⟨φ3, G3, accW, accV, fr.trans F3, F3.same.1 _ dm, F3.out dl hHD, F3.keep _ _ dl hHD, r3, ss.keep F3 r.ours, run2⟩
    | true =>
      rw [if_pos rfl]
      rw [if_pos rfl] at run2
      rcases noX_case (E sw1 G3) with ⟨yv, G4, eE, eE'⟩ | eE
      case inr => rw [eE] at run2; exact run2.elim
      rw [eE', bnd_ok] at run2
      have eE2 : ev (Z.cl n) Z.gk ce sw1 G3 = .ok yv G4 := by rw [← hE] at eE; exact eE
      refine ⟨φ3, G3, sw1, r3, sl2.keep f3 r2.ours, ?_⟩
      rw [eE2]
      intro φ4 H4 v f4 r4 s4
      have F4 := F3.trans f4
      have hD4 := F4.keep _ _ dl hHD
      have dm4 := F4.same.1 _ dm
      have dl4 := F4.out dl hHD
      have ss4 := ss.keep F4 r.ours
      refine ⟨accV, hD4, by rw [← ss.len, sizeLine_eq]; omega, φ4, G4, accW ++ [yv], accV ++ [v], ?_, dm4, dl4, upd_same, r4.ban_put dm4 dl4 ⟨_, hD4⟩, (ss4.app (.cons s4 .nil)).ban_put dm4 ⟨_, hD4⟩, run2⟩
      have F := fr.trans F4
      refine ⟨F.more, F.same, fun bb o hb e => ?_, fun bb e => ?_⟩
      · rw [upd_ne (ne_of_none e hD)]
        exact F.keep bb o hb e
      · by_cases z : bb = D
        · exact z ▸ hD
        · rw [upd_ne z] at e
          exact F.back bb e
theorem HE.lc {m : Bool} {scope : Scope} {own : List (Str × Nat)} {it : T2.It} {cd : Op} (hi : HI Z N sc F tg iter it) (ok : blkC N sc scope own = true) (hg : HG Z N (relS scope sc) (fun x => scope.names.lookup x == some .cell) tg t) (hsub : (t.own.all fun i => (own.map (·.2)).contains i) = true)
    (ht : HC Z N (relS scope sc) (fun x => scope.names.lookup x == some .cell) ifs cd) (he : HE Z N (relS scope sc) (fun x => scope.names.lookup x == some .cell) elt ce) : HE Z N sc F (.ListComp elt [⟨tg, iter, ifs, 0⟩] scope pos) (.lc m (own.map (·.2)) t it cd ce) :=
  ⟨fun n W X g => PE_of (pe_lc g.gd.calm (by rw [g.nm]; exact g.nd) (hi.run n W X g) (by rw [g.nm, g.sc]; exact blkOk_by ok) (fun s H C cl fp => hg.run n W0 _ (g.blk scope s H C cl fp)) (fun s H C cl fp => ht.run n W0 _ (g.blk scope s H C cl fp)) (fun s H C cl fp => he.run n W0 _ (g.blk scope s H C cl fp)) (hi.fs X.env)) fun σ H Q h =>
    lc_read (fun i hi => by
      have := List.all_eq_true.mp hsub i hi
      simpa using this) h,
  ⟨fun _ _ => rfl, fun _ _ => rfl, fun _ => rfl, fun _ _ => rfl, fun _ _ _ _ => rfl⟩⟩
theorem HE.dct0 : HE Z N sc F (.Dict [] [] pos) .dct0 :=
  ⟨fun n W X g => PE_of pe_dnewT fun σ H Q ⟨φ, G, sw, rl, sl, run⟩ => by
    simp only [ev] at run
    intro p hp
    have f : Fr φ H (φ.add p) (upd H p (.dT [])) := Fr.mine hp
    refine run _ _ _ f (rl.add hp (.dct upd_same .nil)) (.ref ?_)
    show (φ.l ++ [p])[G.length]? = some p
    rw [← rl.len]
    simp,
  ⟨fun _ _ => rfl, fun _ _ => rfl, fun _ => rfl, fun _ _ => rfl, fun _ _ _ _ => rfl⟩⟩
end
end T2
end

section
set_option linter.all false
set_option autoImplicit false
set_option maxRecDepth 100000
set_option maxHeartbeats 2000000
/-! T2: statements, defs, by the language. -/
namespace T2
open PySem L2
/-- what stands behind a statement -/
inductive Fo where
  | nx (σ : L2.St) | rt (v : V) | bk (σ : L2.St) | ct (σ : L2.St)
def FlR (Z : Ev2) (φ : Ad) (H : Hp) : Fl → Fo → Prop
  | .nx sw, .nx σ => Slots Z.toEv0 φ H sw σ
  | .rt w, .rt v => Sim Z.toEv0 φ H w v
  | .bk sw, .bk σ => Slots Z.toEv0 φ H sw σ
  | .ct sw, .ct σ => Slots Z.toEv0 φ H sw σ
  | _, _ => False
def DQ (D : Ends) : Fo → Hp → Prop
  | .nx σ, H => D.nx σ H
  | .rt v, H => D.rt v H
  | .bk σ, H => D.bk σ H
  | .ct σ, H => D.ct σ H
def tS (Z : Ev2) (W : WX) (m : Sl → List O → Res Fl) : TS := fun D σ H => tM Z W (FlR Z) m σ H (DQ D)
/-- a def's own block -/
structure Ctx1 (Z : Ev2) (n : Nat) (N : List Str) (sc : Scope) (W : WX) (X : Cx) : Prop extends Ctx Z n N sc (fun _ => true) W X where
  own : PassesOwn (model X.prog X.w) X.A X.env X.xe
  stk : X.stack = X.env :: X.outer
  fr : X.env.frame = some X.env.locals
structure HS (Z : Ev2) (N : List Str) (sc : Scope) (st : Stmt) (c : S) : Prop where
  run : ∀ n W X, Ctx1 Z n N sc W X → PS X st (tS Z W (ex (Z.cl n) Z.gk Z.wf c))
structure HB (Z : Ev2) (N : List Str) (sc : Scope) (sts : List Stmt) (c : B) : Prop where
  run : ∀ n W X, Ctx1 Z n N sc W X → PSs X sts (tS Z W (exB (Z.cl n) Z.gk Z.wf c))
section
variable {Z : Ev2} {E : XK} {φ : Ad} {G : List O} {H : Hp} {D : Ends} {σ : L2.St} {sw : Sl} {w : W} {v : V}
theorem nx_here (run : Run Z.toEv1 E (FlR Z) (.ok (.nx sw) G) φ H (DQ D)) (rl : Rel Z.toEv0 φ G H) (sl : Slots Z.toEv0 φ H sw σ) : D.nx σ H := run φ H (.nx σ) .refl rl sl
theorem rt_here (run : Run Z.toEv1 E (FlR Z) (.ok (.rt w) G) φ H (DQ D)) (rl : Rel Z.toEv0 φ G H) (sl : Sim Z.toEv0 φ H w v) : D.rt v H := run φ H (.rt v) .refl rl sl
theorem bk_here (run : Run Z.toEv1 E (FlR Z) (.ok (.bk sw) G) φ H (DQ D)) (rl : Rel Z.toEv0 φ G H) (sl : Slots Z.toEv0 φ H sw σ) : D.bk σ H := run φ H (.bk σ) .refl rl sl
theorem ct_here (run : Run Z.toEv1 E (FlR Z) (.ok (.ct sw) G) φ H (DQ D)) (rl : Rel Z.toEv0 φ G H) (sl : Slots Z.toEv0 φ H sw σ) : D.ct σ H := run φ H (.ct σ) .refl rl sl
end
abbrev F1 : Str → Bool := fun _ => true
section
variable {Z : Ev2} {N : List Str} {sc : Scope} {e a b c₁ tg iter elt : Expr} {c ca cb cc ce : E} {t : T} {ts : Ts} {pos p p1 p2 : Pos} {es ifs : List Expr} {cs : Es} {x : Str} {st : Stmt} {sts sts2 : List Stmt} {s : S} {bb bb2 : B}
theorem HB.nil : HB Z N sc [] .nil := ⟨fun n W X g => PSs_of pss_nil fun D σ H ⟨φ, G, sw, rl, sl, run⟩ => by
  simp only [exB] at run
  exact nx_here (D := D) run rl sl⟩
theorem HB.cons (h1 : HS Z N sc st s) (h2 : HB Z N sc sts bb) : HB Z N sc (st :: sts) (.cons s bb) := ⟨fun n W X g => PSs_of (pss_cons (h1.run n W X g) (h2.run n W X g)) fun D σ H ⟨φ, G, sw, rl, sl, run⟩ => by
  simp only [exB] at run
  refine ⟨φ, G, sw, rl, sl, (run.bnd).imp fun b H' ⟨φ1, G1, f, fr, rl1, s, r⟩ => ?_⟩
  cases f with
  | nx sw1 =>
    cases b with
    | nx σ1 => exact ⟨φ1, G1, sw1, rl1, s, r⟩
    | _ => exact s.elim
  | rt w =>
    cases b with
    | rt v => exact rt_here (D := D) r rl1 s
    | _ => exact s.elim
  | bk sw1 =>
    cases b with
    | bk σ1 => exact bk_here (D := D) r rl1 s
    | _ => exact s.elim
  | ct sw1 =>
    cases b with
    | ct σ1 => exact ct_here (D := D) r rl1 s
    | _ => exact s.elim⟩
/-- as HB.cons, for a docstring -/
theorem HS.doc {y : Str} {j : Nat} : HS Z N sc (.Expr (.Constant (.str y) j p) pos) .pass := ⟨fun n W X g => PS_of ps_doc fun D σ H ⟨φ, G, sw, rl, sl, run⟩ => by
  simp only [ex] at run
  exact nx_here (D := D) run rl sl⟩
theorem HS.pass : HS Z N sc (.Pass pos) .pass := ⟨fun n W X g => PS_of ps_pass fun D σ H ⟨φ, G, sw, rl, sl, run⟩ => by
  simp only [ex] at run
  exact nx_here (D := D) run rl sl⟩
theorem HS.brk : HS Z N sc (.Break pos) .brk := ⟨fun n W X g => PS_of ps_break fun D σ H ⟨φ, G, sw, rl, sl, run⟩ => by
  simp only [ex] at run
  exact bk_here (D := D) run rl sl⟩
theorem HS.cnt : HS Z N sc (.Continue pos) .cnt := ⟨fun n W X g => PS_of ps_continue fun D σ H ⟨φ, G, sw, rl, sl, run⟩ => by
  simp only [ex] at run
  exact ct_here (D := D) run rl sl⟩
theorem HS.exp (he : HE Z N sc F1 e c) (hs : ∀ env line, swapsWith e none line env = pure false) : HS Z N sc (.Expr e pos) (.exp c) := ⟨fun n W X g => PS_of (ps_expr (he.run n W X g.toCtx) (hs _ _)) fun D σ H ⟨φ, G, sw, rl, sl, run⟩ => by
  simp only [ex] at run
  exact tM_bnd rl sl run fun v φ1 G1 H1 w f1 rl1 sl1 sv run1 => nx_here (D := D) run1 rl1 sl1⟩
theorem HS.ret (he : HE Z N sc F1 e c) : HS Z N sc (.Return (some e) pos) (.ret c) := ⟨fun n W X g => PS_of (ps_ret (he.run n W X g.toCtx)) fun D σ H ⟨φ, G, sw, rl, sl, run⟩ => by
  simp only [ex] at run
  exact tM_bnd rl sl run fun v φ1 G1 H1 w f1 rl1 sl1 sv run1 => rt_here (D := D) run1 rl1 sv⟩
theorem HS.ret0 : HS Z N sc (.Return none pos) .ret0 := ⟨fun n W X g => PS_of ps_retN fun D σ H ⟨φ, G, sw, rl, sl, run⟩ => by
  simp only [ex] at run
  exact rt_here (D := D) run rl .non⟩
theorem HS.ife (ht : HT Z N sc F1 a ca) (h1 : HB Z N sc sts bb) (h2 : HB Z N sc sts2 bb2) : HS Z N sc (.If a sts sts2 pos) (.ife ca bb bb2) := ⟨fun n W X g => PS_of (ps_if (ht.run n W X g.toCtx) (h1.run n W X g) (h2.run n W X g)) fun D σ H ⟨φ, G, sw, rl, sl, run⟩ => by
  simp only [ex] at run
  exact tM_bnd rl sl run fun v φ1 G1 H1 w f1 rl1 sl1 sv run1 => by
    have sv : w = v := sv
    subst sv
    cases w with
    | true => exact ⟨φ1, G1, sw, rl1, sl1, run1⟩
    | false => exact ⟨φ1, G1, sw, rl1, sl1, run1⟩⟩

/-! #### stores -/
theorem asg_read {n : Nat} {W : WX} {X : Cx} {D : Ends} {σ : L2.St} {H : Hp} (h : tS Z W (ex (Z.cl n) Z.gk Z.wf (.asg t c)) D σ H) : tAsg (tE Z W (ev (Z.cl n) Z.gk c)) (tG Z t.own (asgT (Z.cl n) Z.gk t)) D σ H := by
  obtain ⟨φ, G, sw, rl, sl, run⟩ := h
  simp only [ex] at run
  refine tM_bnd rl sl run fun v φ1 G1 H1 w f1 rl1 sl1 sv run1 => ⟨φ1, G1, sw, w, rl1, sl1, sv, ?_⟩
  rcases noX_case (asgT (Z.cl n) Z.gk t w sw G1) with ⟨sw1, G2, e1, e2⟩ | e1
  · rw [e2, bnd_ok] at run1
    rw [e2]
    exact fun φ' H' σ' f r q => run1 φ' H' (.nx σ') f r q.1
  · rw [e1] at run1
    exact run1.elim
theorem HS.asg (he : HE Z N sc F1 e c) (hg : HG Z N sc F1 tg t) (hs : ∀ env line, env.scope = sc → swapsWithSole [tg] e line env = pure false) (hw : ∀ env, env.scope = sc → swappedStores [tg] e env = pure none) : HS Z N sc (.Assign [tg] e pos) (.asg t c) :=
  ⟨fun n W X g => PS_of (ps_asg (he.run n W X g.toCtx) (hg.run n W X g.toCtx) (hs _ _ g.sc) (hw _ g.sc) (by rw [hg.p1]; rfl)) fun D σ H h => asg_read (X := X) h⟩
/-- name = [.. for ..] -/
theorem HS.setLc {i : Nat} {m : Bool} {scope : Scope} {own : List (Str × Nat)} {it : T2.It} {cd : Op} {spos : Pos} (hN : N[i]? = some x) (hl : sc.names.lookup x = some .local)
    (hsw : ∀ env line, env.scope = sc → swapsWith (.ListComp elt [⟨tg, iter, ifs, 0⟩] scope pos) (some (.Name x p)) line env = pure true) (hi : HI Z N sc F1 tg iter it) (ok : blkC N sc scope own = true) (hg : HG Z N (relS scope sc) (fun x => scope.names.lookup x == some .cell) tg t)
    (hsub : (t.own.all fun i => (own.map (·.2)).contains i) = true) (ht : HC Z N (relS scope sc) (fun x => scope.names.lookup x == some .cell) ifs cd) (he : HE Z N (relS scope sc) (fun x => scope.names.lookup x == some .cell) elt ce) :
    HS Z N sc (.Assign [.Name x p] (.ListComp elt [⟨tg, iter, ifs, 0⟩] scope pos) spos) (.asg (.nm i) (.lc m (own.map (·.2)) t it cd ce)) :=
  ⟨fun n W X g => PS_of (ps_setLc (i := i) g.gd.calm (by rw [g.nm]; exact g.nd) (by rw [g.nm]; exact hN) (by rw [g.sc]; exact hl) (hsw _ _ g.sc) (hi.run n W X g.toCtx) (by rw [g.nm, g.sc]; exact blkOk_by ok) (fun s H C cl fp => hg.run n W0 _ (g.toCtx.blk scope s H C cl fp)) (fun s H C cl fp => ht.run n W0 _ (g.toCtx.blk scope s H C cl fp))
      (fun s H C cl fp => he.run n W0 _ (g.toCtx.blk scope s H C cl fp)) (hi.fs X.env)) fun D σ H ⟨φ, G, sw, rl, sl, run⟩ => by
    simp only [ex] at run
    refine lc_read (n := n) (W := W) (m := m) (fun i hi => by
      have := List.all_eq_true.mp hsub i hi
      simpa using this) (tM_bnd rl sl run fun v φ1 G1 H1 w f1 rl1 sl1 sv run1 => ?_)
    simp only [asgT, noX_ok, bnd_ok] at run1
    exact nx_here (D := D) run1 rl1 (sl1.set sv i)⟩
/-- a, b = x, y with two names -/
theorem HS.par {i j : Nat} {y : Str} {px py pt : Pos} {kt k2 : Nat} {pt2 : Pos} (hN : N[i]? = some x) (hM : N[j]? = some y) (hij : i ≠ j) (hx : sc.names.lookup x = some .local) (hy : sc.names.lookup y = some .local) (ha : HA Z N sc F1 [a, b] cs)
    (hw : ∀ env, env.scope = sc → swappedStores [.Tuple [.Name x px, .Name y py] kt pt] (.Tuple [a, b] k2 pt2) env = pure (some [x, y])) :
    HS Z N sc (.Assign [.Tuple [.Name x px, .Name y py] kt pt] (.Tuple [a, b] k2 pt2) pos) (.asg (.tp (.cons (.nm i) (.cons (.nm j) .nil))) (.tup cs)) :=
  ⟨fun n W X g => PS_of (ps_par (i := i) (j := j) g.gd.calm (by rw [g.nm]; exact g.nd) (by rw [g.nm]; exact hN) (by rw [g.nm]; exact hM) hij (by rw [g.sc]; exact hx) (by rw [g.sc]; exact hy) (ha.run n W X g.toCtx) (hw _ g.sc)) fun D σ H ⟨φ, G, sw, rl, sl, run⟩ => by
    simp only [ex, ev] at run
    have run : Run Z.toEv1 (Er W) (FlR Z) (bnd (evs (Z.cl n) Z.gk cs sw G) fun ws G1 => bnd (if szOk ws.length = true then Res.ok (T2.W.tup ws) G1 else .stuck) fun w G1 => bnd (noX (asgT (Z.cl n) Z.gk (.tp (.cons (.nm i) (.cons (.nm j) .nil))) w sw G1)) fun sw1 G2 => .ok (.nx sw1) G2) φ H (DQ D) := by
      have e : ∀ (r : Res (List T2.W)) (f : List T2.W → List O → Res T2.W) (k : T2.W → List O → Res Fl), bnd (bnd r f) k = bnd r fun a G => bnd (f a G) k := fun r f k => by cases r <;> rfl
      rw [e] at run
      exact run
    refine tM_bnd rl sl run fun vs φ1 G1 H1 ws f1 rl1 sl1 ss run1 => ?_
    split at run1
    · rw [bnd_ok] at run1
      have ss : Sims Z.toEv0 φ1 H1 ws vs := ss
      match ws, vs, ss with
      | [], _, .nil => simp only [asgT, look, asgTs, noX_stuck] at run1; exact run1.elim
      | [_], _, .cons _ .nil => simp only [asgT, look, asgTs, bnd_ok, noX_stuck] at run1; exact run1.elim
      | [w1, w2], [v1, v2], .cons s1 (.cons s2 .nil) =>
        simp only [asgT, look, asgTs, bnd_ok, noX_ok] at run1
        exact ⟨v1, v2, rfl, nx_here (D := D) run1 rl1 ((sl1.set s1 i).set s2 j)⟩
      | _ :: _ :: _ :: _, _, .cons _ (.cons _ (.cons _ _)) => simp only [asgT, look, asgTs, bnd_ok, noX_stuck] at run1; exact run1.elim
    · exact run1.elim⟩
/-- x op= e -/
theorem HS.aug {i : Nat} {o : BOp} {op : Operator} (ho : ∀ n X, Gd Z.toEv1 n X → OpR X (inplaceOp op) (r2S Z.toEv1 (binW o))) (hN : N[i]? = some x) (hl : locB sc x = true) (he : HE Z N sc F1 e c) : HS Z N sc (.AugAssign (.Name x p) op e pos) (.aug i o c) :=
  ⟨fun n W X g => PS_of (ps_aug (i := i) (by rw [g.nm]; exact g.nd) (by rw [g.nm]; exact hN) (by rw [g.sc]; simpa [locB, L2.Loc] using hl) (he.run n W X g.toCtx) (ho n X g.gd) (.inl (g.fn x rfl))) fun D σ H ⟨φ, G, sw, rl, sl, run⟩ => by
    simp only [ex] at run
    cases h : sw[i]? with
    | none => simp only [h] at run; exact run.elim
    | some o =>
      cases o with
      | none => simp only [h] at run; exact run.elim
      | some w =>
        simp only [h] at run
        obtain ⟨v, e, q⟩ := sl.at_ i w h
        refine ⟨v, e, tM_bnd rl sl run fun y φ1 G1 H1 wy f1 rl1 sl1 sy run1 => ⟨_, φ1, G1, w, wy, rl1, Sim.keep f1 rl.ours q, sy, (run1.bnd).imp fun z H2 ⟨φ2, G2, wz, f2, rl2, sz, run2⟩ => ?_⟩⟩
        exact nx_here (D := D) run2 rl2 ((sl1.keep f2 rl1.ours).set sz i)⟩
theorem si_add (n : Nat) (X : Cx) (g : Gd Z.toEv1 n X) : OpR X (inplaceOp .Add) (r2S Z.toEv1 (binW .addI)) := s_addI iop_add iop_add_str
theorem si_sub (n : Nat) (X : Cx) (g : Gd Z.toEv1 n X) : OpR X (inplaceOp .Sub) (r2S Z.toEv1 (binW .sub)) := s_sub iop_sub
theorem si_mul (n : Nat) (X : Cx) (g : Gd Z.toEv1 n X) : OpR X (inplaceOp .Mult) (r2S Z.toEv1 (binW .mul)) := s_mul iop_mul

/-! #### loops -/
theorem HS.whl (ht : HT Z N sc F1 a ca) (hb : HB Z N sc sts bb) : HS Z N sc (.While a sts [] pos) (.whl ca bb) :=
  ⟨fun n W X g => PS_of (ps_while g.own (ht.run n W X g.toCtx) (hb.run n W X g)) fun D σ H ⟨φ, G, sw, rl, sl, run⟩ => by
    simp only [ex] at run
    refine ⟨fun m σ H => ∃ (φ : Ad) (G : List O) (sw : Sl), Rel Z.toEv0 φ G H ∧ Slots Z.toEv0 φ H sw σ ∧ Run Z.toEv1 (Er W) (FlR Z) (whlL (fun sw G => evT (Z.cl n) Z.gk ca sw G) (fun sw G => exB (Z.cl n) Z.gk Z.wf bb sw G) m sw G) φ H (DQ D), ⟨Z.wf, φ, G, sw, rl, sl, run⟩, ?_⟩
    rintro m σ H ⟨φ, G, sw, rl, sl, run⟩
    cases m with
    | zero => exact run.elim
    | succ m =>
      simp only [whlL] at run
      refine tM_bnd rl sl run fun v φ1 G1 H1 w f1 rl1 sl1 sv run1 => ?_
      have sv : w = v := sv
      subst sv
      cases w with
      | false => exact nx_here (D := D) run1 rl1 sl1
      | true =>
        rw [if_pos rfl] at run1
        rw [if_pos rfl]
        refine ⟨fun σ' H' => ∃ (φ : Ad) (G : List O) (sw : Sl), Rel Z.toEv0 φ G H' ∧ Slots Z.toEv0 φ H' sw σ' ∧ Run Z.toEv1 (Er W) (FlR Z) (whlL (fun sw G => evT (Z.cl n) Z.gk ca sw G) (fun sw G => exB (Z.cl n) Z.gk Z.wf bb sw G) m sw G) φ H' (DQ D), fun σ' H' h => ⟨m, Nat.lt_succ_self m, h⟩, ?_⟩
        refine ⟨φ1, G1, sw, rl1, sl1, (run1.bnd).imp fun b H2 ⟨φ2, G2, f, fr, rl2, s, run2⟩ => ?_⟩
        cases f with
        | nx sw2 =>
          cases b with
          | nx σ2 => exact ⟨φ2, G2, sw2, rl2, s, run2⟩
          | _ => exact s.elim
        | ct sw2 =>
          cases b with
          | ct σ2 => exact ⟨φ2, G2, sw2, rl2, s, run2⟩
          | _ => exact s.elim
        | bk sw2 =>
          cases b with
          | bk σ2 => exact nx_here (D := D) run2 rl2 s
          | _ => exact s.elim
        | rt w =>
          cases b with
          | rt v => exact rt_here (D := D) run2 rl2 s
          | _ => exact s.elim⟩
theorem HS.frr {it : T2.It} (hi : HI Z N sc F1 tg iter it) (hg : HG Z N sc F1 tg t) (hb : HB Z N sc sts bb) : HS Z N sc (.For tg iter sts [] pos) (.frr t it bb) :=
  ⟨fun n W X g => PS_of (ps_for g.own g.gd.calm (hi.run n W X g.toCtx) (hg.run n W X g.toCtx) (hb.run n W X g) (hi.fs X.env)) fun D σ H ⟨φ, G, sw, rl, sl, run⟩ => by
    simp only [ex] at run
    refine tM_bnd rl sl run fun J φ1 G1 H1 s f1 rl1 sl1 sj run1 => ?_
    generalize hA : (fun (w : T2.W) (sw : Sl) (G : List O) => asgT (Z.cl n) Z.gk t w sw G) = A at run1
    generalize hB : (fun (sw : Sl) (G : List O) => exB (Z.cl n) Z.gk Z.wf bb sw G) = Bf at run1
    refine ⟨fun i m σ H => m = s.items.length - i ∧ ∃ (φ : Ad) (G : List O) (sw : Sl), Fr φ1 H1 φ H ∧ Rel Z.toEv0 φ G H ∧ Slots Z.toEv0 φ H sw σ ∧ Run Z.toEv1 (Er W) (FlR Z) (forL A Bf s (s.items.drop i) sw G) φ H (DQ D), ⟨_, rfl, φ1, G1, sw, .refl, rl1, sl1, run1⟩, ?_⟩
    rintro i m σ H ⟨rfl, φ, G, sw, fr, r, sl, run2⟩
    have hok : s.ok G = true := by
      cases hd : s.items.drop i with
      | nil =>
        rw [hd] at run2
        simp only [forL] at run2
        cases ho : s.ok G with
        | true => rfl
        | false => rw [ho] at run2; exact run2.elim
      | cons w ws =>
        rw [hd] at run2
        simp only [forL] at run2
        cases ho : s.ok G with
        | true => rfl
        | false => rw [ho] at run2; exact run2.elim
    obtain ⟨go, stop⟩ := sj i φ G H fr r hok
    cases hw : s.items[i]? with
    | none =>
      have hi : s.items.length ≤ i := by
        rcases Nat.lt_or_ge i s.items.length with z | z
        · rw [List.getElem?_eq_getElem z] at hw
          cases hw
        · exact z
      refine .inl ⟨stop hi, ?_⟩
      rw [List.drop_eq_nil_of_le hi] at run2
      simp only [forL, hok, if_true] at run2
      exact nx_here (D := D) run2 r sl
    | some w =>
      have hi : i < s.items.length := (List.getElem?_eq_some_iff.mp hw).1
      obtain ⟨hgo, hy⟩ := go w hw
      refine .inr ⟨hgo, fun σ' H' => ∃ (φ : Ad) (G : List O) (sw : Sl), Fr φ1 H1 φ H' ∧ Rel Z.toEv0 φ G H' ∧ Slots Z.toEv0 φ H' sw σ' ∧ Run Z.toEv1 (Er W) (FlR Z) (forL A Bf s (s.items.drop (i + 1)) sw G) φ H' (DQ D), fun σ' H' h => ⟨_, by omega, rfl, h⟩, fun x H' y => ?_⟩
      obtain ⟨fy, ry, sx⟩ := hy x H' y
      have hdrop : s.items.drop i = w :: s.items.drop (i + 1) := by
        rw [List.drop_eq_getElem_cons hi]
        congr 1
        rw [List.getElem?_eq_getElem hi] at hw
        exact Option.some.inj hw
      rw [hdrop] at run2
      simp only [forL, hok, if_true] at run2
      have run2 := run2.later fy
      rcases noX_case (A w sw G) with ⟨sw1, G2, eA, eA'⟩ | eA
      case inr => rw [eA] at run2; exact run2.elim
      rw [eA', bnd_ok] at run2
      refine ⟨φ, G, sw, w, ry, sl.keep fy r.ours, sx, ?_⟩
      have eA2 : asgT (Z.cl n) Z.gk t w sw G = .ok sw1 G2 := by rw [← hA] at eA; exact eA
      rw [eA2, noX_ok]
      intro φ2 H2 σ2 f2 r2 ⟨sl2, _, _⟩
      have run3 := run2.later f2
      have eB : ∀ sw G, exB (Z.cl n) Z.gk Z.wf bb sw G = Bf sw G := fun sw G => by rw [← hB]
      refine ⟨φ2, G2, sw1, r2, sl2, ?_⟩
      rw [eB]
      refine (run3.bnd).imp fun b H3 ⟨φ3, G3, f, f3, rl3, s3, run4⟩ => ?_
      have F3 := ((fr.trans fy).trans f2).trans f3
      cases f with
      | nx sw2 =>
        cases b with
        | nx σ3 => exact ⟨φ3, G3, sw2, F3, rl3, s3, run4⟩
        | _ => exact s3.elim
      | ct sw2 =>
        cases b with
        | ct σ3 => exact ⟨φ3, G3, sw2, F3, rl3, s3, run4⟩
        | _ => exact s3.elim
      | bk sw2 =>
        cases b with
        | bk σ3 => exact nx_here (D := D) run4 rl3 s3
        | _ => exact s3.elim
      | rt w =>
        cases b with
        | rt v => exact rt_here (D := D) run4 rl3 s3
        | _ => exact s3.elim⟩
end
end T2
end

section
set_option linter.all false
set_option autoImplicit false
set_option maxRecDepth 100000
set_option maxHeartbeats 2000000
/-! T2: except clauses, with and without a name, in one try. -/
namespace T2
open PySem L2 PySem.Spec PyProof.Rows
/-- a clause: the class, the slot of its name (if it has one), its suite -/
abbrev Cl3 := Value × Option Nat × (Addr → Value → Option Addr → TS)
/-- the end of a suite whose name goes -/
def endOf (D : Ends) : Option Nat → Ends
  | none => D
  | some i => { nx := fun σ H => D.nx (σ.set i none) H, rt := D.rt, bk := fun σ H => D.bk (σ.set i none) H, ct := fun σ H => D.ct (σ.set i none) H }
def slotOf (σ : L2.St) (a : Addr) : Option Nat → L2.St
  | none => σ
  | some i => σ.set i (some (.ref a))
def wMix (K : PySem.W.Frag) (Wout : WX) (D : Ends) : List Cl3 → WX
  | [] => Wout
  | (c, oi, ts) :: r => fun cls d σ H => ∃ b, PySem.W.exmOne K cls c = some b ∧ (b = true → ∀ a, H a = none → ts a cls d (endOf D oi) (slotOf σ a oi) H) ∧ (b = false → wMix K Wout D r cls d σ H)
/-- the name of a clause -/
def NameOk (X : Cx) : Option Str → Option Nat → Prop
  | none, none => True
  | some n, some i => X.N.Nodup ∧ X.N[i]? = some n ∧ X.env.kindOf n = some .local
  | _, _ => False
inductive MixOk (X : Cx) : List ExceptHandler → List Cl3 → Prop
  | nil : MixOk X [] []
  | cons {x : Str} {on : Option Str} {oi : Option Nat} {c : Value} {ts : Addr → Value → Option Addr → TS} {b₀ : Stmt} {suite : List Stmt} {np pos' : Pos} {hds : List ExceptHandler} {l : List Cl3} (hc : Names X x c) (hn : NameOk X on oi)
      (hsu : ∀ (a : Addr) (oe : Obj) (cls : Value) (d : Option Addr) (pn : List (Addr × Obj)), Zc cls d oe → (∃ vs, oe.data = .fields vs) → PSs (X.suite a ((a, oe) :: pn)) (b₀ :: suite) (ts a cls d)) (r : MixOk X hds l) :
      MixOk X (.ExceptHandler (some (.Name x np)) on (b₀ :: suite) pos' :: hds) ((c, oi, ts) :: l)
/-- an exception that has come down to the clauses -/
structure Down (X : Cx) (pins : List (Addr × Obj)) (σ : L2.St) (H : Hp) (a : Addr) (cls : Value) (d : Option Addr) (h : Heap) (s' : Shared) : Prop where
  ex : ∃ (B : Heap) (sI : Shared), L2.Inv X pins σ H sI ∧ (∀ b o, sI.heap.get? b = some o → b ∉ frs X.stack → B.get? b = some o) ∧ PySem.HandSPX.FlyingZ B (X.env :: X.outer) a (Zc cls d) h ∧ sI.heap.UpToSlots h ∧ H a = none ∧ s'.os = sI.os ∧ AllBare s'.gens
section
variable {X : Cx} {pins : List (Addr × Obj)} {σ : L2.St} {H : Hp} {a : Addr} {cls : Value} {d : Option Addr} {h : Heap} {s' : Shared}
theorem Down.inv (D : Down X pins σ H a cls d h s') : L2.Inv X pins σ H { s' with heap := h } := by
  obtain ⟨B, sI, J, nb, fl, up, na, os, ag⟩ := D.ex
  exact J.landed nb fl.1 up os ag
theorem Down.na (D : Down X pins σ H a cls d h s') : H a = none := by
  obtain ⟨B, sI, J, nb, fl, up, na, os, ag⟩ := D.ex
  exact na
/-- the state in a suite -/
theorem Down.suite (D : Down X pins σ H a cls d h s') (hf : X.env.frame = some X.env.locals) : ∃ (oe : Obj) (vs : Array Value), h.get? a = some oe ∧ Zc cls d oe ∧ oe.data = .fields vs ∧ L2.Inv (X.suite a ((a, oe) :: (X.pn ++ pins))) [] σ H { s' with heap := h } := by
  obtain ⟨B, sI, J, nb, fl, up, na, os, ag⟩ := D.ex
  obtain ⟨oe, vs, he, hz, hd⟩ := fl.there
  have nfr : a ∉ frs (X.env :: X.outer) := fun hm => by
    obtain ⟨_, o', e', hnf⟩ := fl.2.2.1.mem hm
    rw [he] at e'
    cases e'
    exact hnf _ hd
  have nL : a ≠ X.env.locals := fun z => nfr (List.mem_filterMap.mpr ⟨X.env, List.mem_cons_self, by rw [hf, z]⟩)
  have nF : a ∉ X.fs := fun hm => by
    obtain ⟨e, he, q⟩ := List.mem_filterMap.mp hm
    exact nfr (List.mem_filterMap.mpr ⟨e, List.mem_cons_of_mem _ he, q⟩)
  exact ⟨oe, vs, he, hz, hd, D.inv.suite he hd na nL nF⟩
/-- no clause is left -/
theorem Down.out {Wout : WX} {Q : Flow → Shared → Prop} (D : Down X pins σ H a cls d h s') (hs : X.stack = X.env :: X.outer) (hf : X.env.frame = some X.env.locals) (tk : Takes X Wout) (w : Wout cls d σ H) :
    wpAny (model X.prog X.w) X.A (handleBy (.ref a) X.env []) Q X.xe { s' with heap := h } := by
  obtain ⟨B, sI, J, nb, fl, up, na, os, ag⟩ := D.ex
  refine wpAny_handleBy_nil ?_
  obtain ⟨k1, k2, k3, oe, vs, T, oT, ts', he, hz, hd, h1, hr⟩ := id fl
  unfold PySem.passOn
  refine wpAny_bind (wpAny_field he hd h1 ?_)
  rw [if_neg (show ¬ ((Value.ref T == Value.none) = true) from by simp)]
  have fin : wpAny (model X.prog X.w) X.A (setFlight (.ref a) X.env.frame) (fun _ s4 => wpAny (model X.prog X.w) X.A (throw (.ref a) : Sem Flow) Q X.xe s4) X.xe { s' with heap := h } := by
    rw [hf]
    refine HandSPX.setFlight_upZ fl fun h4 hh4 up4 => wpAny_throw (tk _ _ ?_)
    exact ⟨a, B, sI, pins, σ, H, cls, d, rfl, J, nb, up.trans up4, .inr (.inr (by rw [hs]; exact hh4)), na, os, ag, w⟩
  first
    | exact wpAny_bind (wpAny_pure (wpAny_bind fin))
    | exact wpAny_bind fin
/-- a suite that ends -/
theorem suite_end {D : Ends} {q : Addr × Obj} {pn' : List (Addr × Obj)} {f : Flow} {s6 : Shared} (ok : X.Ok) (hsp : SP (X.suite a (q :: (X.pn ++ pins))) pn' D f s6) : SP X pins D f s6 := by
  cases f with
  | next => obtain ⟨σ6, H6, S6, q6⟩ := hsp; exact ⟨_, _, S6.unsuite ok, q6⟩
  | brk => obtain ⟨σ6, H6, S6, q6⟩ := hsp; exact ⟨_, _, S6.unsuite ok, q6⟩
  | cont => obtain ⟨σ6, H6, S6, q6⟩ := hsp; exact ⟨_, _, S6.unsuite ok, q6⟩
  | ret u => obtain ⟨v6, σ6, H6, S6, r6, q6⟩ := hsp; exact ⟨_, _, _, S6.unsuite ok, r6, q6⟩
theorem handle_mix {D : Ends} {Wout : WX} {hds : List ExceptHandler} {l : List Cl3} (hs : X.stack = X.env :: X.outer) (hf : X.env.frame = some X.env.locals) (tk : Takes X Wout) (hk : MixOk X hds l) (ok : X.Ok) (dn : Down X pins σ H a cls d h s') (w : wMix X.K Wout D l cls d σ H) :
    wpAny (model X.prog X.w) X.A (handleBy (.ref a) X.env hds) (SP X pins D) X.xe { s' with heap := h } := by
  induction hk with
  | nil => exact dn.out hs hf tk w
  | @cons x on oi c ts b₀ suite np pos' hds2 l2 hc hn hsu r ih =>
    obtain ⟨b, hb1, hyes, hno⟩ := w
    obtain ⟨oe3, vs3, he3, hz3, hd3, S3⟩ := dn.suite hf
    have LT : PySem.W.Looks (model X.prog X.w) h (typeOf (.ref a)) cls := fun A Q E s k q => wpAny_typeOf_ref (k _ _ he3) (by rw [hz3.1]; exact q)
    have LM := PySem.W.exm_one (M := model X.prog X.w) (dn.inv.kIn) LT hb1
    have test : ∀ {Q : Value → Shared → Prop} {E : Value → Shared → Prop}, Q c { s' with heap := h } → wpAny (model X.prog X.w) (X.A.mark (some (.ref a))) (eval (.Name x np) X.env) Q E { s' with heap := h } := fun {Q E} q => by
      obtain ⟨hg, hdbg, hm | ⟨hm, hv, hnn⟩⟩ := hc
      · exact ld_glob (X := X.suite a ((a, oe3) :: (X.pn ++ pins))) S3 hg hm q hdbg
      · exact ld_blt (X := X.suite a ((a, oe3) :: (X.pn ++ pins))) S3 hg hm hv q hnn hdbg
    have again : ∀ {M : Model} {A : Around} {E : Value → Shared → Prop} {Q : Unit → Shared → Prop}, (∀ h4, Down X pins σ H a cls d h4 s' → Q () { s' with heap := h4 }) → wpAny M A (setFlight (.ref a) none) Q E { s' with heap := h } → wpAny M A (setFlight (.ref a) none) Q E { s' with heap := h } := fun _ z => z
    refine wpAny_handleBy_cons (codeAny_handlers_test ?_) (by intro q; cases q)
    refine test (LM.here ?_)
    cases b with
    | false =>
      show wpAny _ X.A (handleBy (.ref a) X.env hds2) _ _ _
      exact ih (hno rfl)
    | true =>
      obtain ⟨B, sI, J, nb, fl3, up, na, os, ag⟩ := dn.ex
      cases on with
      | none =>
        cases oi with
        | some i => exact hn.elim
        | none =>
          refine codeAny_handlers_suite ?_
          refine HandSPX.lands_againZ fl3 fun h4 fl4 up4 => ?_
          have dn4 : Down X pins σ H a cls d h4 s' := ⟨B, sI, J, nb, fl4, up.trans up4, na, os, ag⟩
          obtain ⟨oe4, vs4, he4, hz4, hd4, S4⟩ := dn4.suite hf
          exact wpAny_mono ((hsu a oe4 cls d (X.pn ++ pins) hz4 ⟨_, hd4⟩).run [] _ _ H _ S4 (hyes rfl a na)) (fun f s6 hsp => by cases f <;> exact suite_end ok hsp) (fun _ _ z => False.elim z)
      | some n =>
        cases oi with
        | none => exact hn.elim
        | some i =>
          obtain ⟨hN, hi, hln⟩ := hn
          refine codeAny_handlers_suite_as ?_
          refine HandSPX.lands_againZ fl3 fun h4 fl4 up4 => ?_
          have dn4 : Down X pins σ H a cls d h4 s' := ⟨B, sI, J, nb, fl4, up.trans up4, na, os, ag⟩
          obtain ⟨oe4, vs4, he4, hz4, hd4, S4⟩ := dn4.suite hf
          refine store_ok (X := X.suite a ((a, oe4) :: (X.pn ++ pins))) (v := .ref a) S4 hN hi (.inl hln) rfl (fun s5 S5 => ?_) (.inr hln)
          refine wpAny_mono ((hsu a oe4 cls d (X.pn ++ pins) hz4 ⟨_, hd4⟩).run [] s5 _ H _ S5 (hyes rfl a na)) (fun f s6 hsp => ?_) (fun _ _ z => False.elim z)
          cases f with
          | next =>
            obtain ⟨σ6, H6, S6, q6⟩ := hsp
            exact gone_ok (S6.unsuite ok) hN hi hln fun s7 J7 => ⟨_, _, J7, q6⟩
          | brk =>
            obtain ⟨σ6, H6, S6, q6⟩ := hsp
            exact gone_ok (S6.unsuite ok) hN hi hln fun s7 J7 => ⟨_, _, J7, q6⟩
          | cont =>
            obtain ⟨σ6, H6, S6, q6⟩ := hsp
            exact gone_ok (S6.unsuite ok) hN hi hln fun s7 J7 => ⟨_, _, J7, q6⟩
          | ret u =>
            obtain ⟨v6, σ6, H6, S6, r6, q6⟩ := hsp
            exact gone_ok (S6.unsuite ok) hN hi hln fun s7 J7 => ⟨_, _, _, J7, r6, q6⟩
theorem ps_try_mix {body : List Stmt} {h₀ : ExceptHandler} {hds : List ExceptHandler} {l : List Cl3} {pos : Pos} {tb : WX → TS} {Wout : WX} (hs : X.stack = X.env :: X.outer) (hf : X.env.frame = some X.env.locals) (tk : Takes X Wout)
    (hb : ∀ (W : WX) (pn : List (Addr × Obj)) (xe : Value → Shared → Prop), Takes (X.tr pn xe) W → PassesOwn (model X.prog X.w) X.A X.env xe → PSs (X.tr pn xe) body (tb W))
    (hh : MixOk X (h₀ :: hds) l) : PS X (.Try body (h₀ :: hds) [] [] pos) (fun D σ H => tb (wMix X.K Wout D l) D σ H) := by
  refine ⟨fun pins s σ H D I hw => ?_⟩
  have ok := I.ok
  have hfr : X.A.frames = some (X.env :: X.outer) := by rw [ok.frames, hs]
  refine wpAny_Try_except ?_
  refine wpAny_mono ((hb (wMix X.K Wout D l) (X.pn ++ pins) (fun e s₁ => wpAny (model X.prog X.w) X.A (noteFrame e X.env) (fun _ s₂ => wpAny (model X.prog X.w) X.A (setFlight e none) (fun _ s₃ =>
    wpAny (model X.prog X.w) X.A (handleBy e X.env (h₀ :: hds)) (SP X pins D) X.xe s₃) X.xe s₂) X.xe s₁) (fun u s' xx => ?_) PassesOwn.looking).run [] s σ H D (I.toTry _) hw) (fun f s1 hsp => ?_) (fun e s1 he => he)
  · obtain ⟨a, B, sI, pins', σ', H', cls, d, rfl, J', nb, up, sky, na, os, ag, w⟩ := xx
    have sky' : Sky B (X.env :: X.outer) a (Zc cls d) X.env.locals s'.heap := by rw [← hs]; exact sky
    show wpAny (model X.prog X.w) X.A (noteFrame (.ref a) X.env) _ _ _
    exact Sky.land Zc.steady hfr hf sky' fun h3 fl3 up3 => handle_mix hs hf tk hh ok ⟨B, sI, J'.ofTry ok, nb, fl3, up.trans up3, na, os, ag⟩ w
  · cases f with
    | next => obtain ⟨σ', H', J', q⟩ := hsp; exact wpAny_execs_nil ⟨σ', H', J'.ofTry ok, q⟩
    | brk => obtain ⟨σ', H', J', q⟩ := hsp; exact ⟨σ', H', J'.ofTry ok, q⟩
    | cont => obtain ⟨σ', H', J', q⟩ := hsp; exact ⟨σ', H', J'.ofTry ok, q⟩
    | ret u => obtain ⟨v, σ', H', J', r, q⟩ := hsp; exact ⟨v, σ', H', J'.ofTry ok, r, q⟩
end
end T2
end

section
set_option linter.all false
set_option autoImplicit false
set_option maxRecDepth 100000
set_option maxHeartbeats 2000000
/-! T2: raise, try, defs. -/
namespace T2
open PySem L2
/-- C.__init__(self, v): self.f = v -/
def spI (C : Addr) (f : Str) : Sp := fun vs H Q E => ∃ (a : Addr) (v : V), vs = [.ref a, v] ∧ H a = some (exo a C none) ∧ ∀ dx, H dx = none → dx ≠ a → Q .non (upd (upd H dx (exd dx [(f, v)])) a (exo a C (some dx)))
/-- an exception class with a field -/
structure XcOk (Z : Ev2) (c : Nat) : Prop where
  oex : OexC Z.K (Z.xa c)
  ini : ∃ (fI : Addr) (fd : FuncData) (f : Str), Z.xf c = [f] ∧ PySem.W.findIn Z.K (.ref (Z.xa c)) "__init__" = some (some (.ref fI)) ∧ PySem.W.typeIn Z.K (.ref fI) = some (.type "function") ∧
    FnOk Z.P Z.w Z.K Z.mg Z.base (L2.CX Z.P Z.w) 1 fI fd ["self", f] (spI (Z.xa c) f) ∧ Binds Z.K fd ["self", f] []
  xfc : XfC Z.K (Z.xa c)
  no : ∀ f ∈ Z.xf c, PySem.W.findIn Z.K (.ref (Z.xa c)) f = some none
/-- the classes tell one another apart -/
def Exm (Z : Ev2) : Prop := ∀ c d, c < Z.xn → d < Z.xn → PySem.W.exmOne Z.K (.ref (Z.xa c)) (.ref (Z.xa d)) = some (decide (d = c))
section
variable {Z : Ev2} {N : List Str} {sc : Scope} {e a b c₁ tg iter elt : Expr} {ca cb cc ce : E} {t : T} {ts : Ts} {pos p p1 p2 : Pos} {es ifs : List Expr} {cs : Es} {x : Str} {st : Stmt} {sts sts2 : List Stmt} {s : S} {bb bb2 : B} {c : Nat}
/-- raise C(e) -/
theorem HS.raise1 (gz : Good Z) (xc : XcOk Z c) (hc : c < Z.xn) (hk : Z.xnm[c]? = some x) (hg : glB sc x = true) (hn : nmB x = false) (he : HE Z N sc F1 e ce) : HS Z N sc (.Raise (some (.Call (.Name x p) [e] [] p1)) none pos) (.raise c (.cons ce .nil)) :=
  ⟨fun n W X g => by
    obtain ⟨fI, fd, f, hxf, iC, tI, F1', bi⟩ := xc.ini
    refine PS_of (ps_raise (W := W) g.gd.calm g.tk (pmk_oex (CX := L2.CX X.prog X.w) (k := 1) (fI := fI) (C := Z.xa c) (sp := spI (Z.xa c) f) (dvs := []) (ds := []) (by rw [g.gd.K]; exact xc.oex) (by rw [g.gd.K]; exact iC) (by rw [g.gd.K]; exact tI)
      (by rw [g.gd.P, g.gd.w, g.gd.K, g.mg, g.base]; exact F1') (g.gd.room.mono (by omega)) (by rw [g.gd.K]; exact bi) .nil passL (glB_ok hg g.sc) (by rw [g.mg]; exact gz.xc c x hk) (pa_cons (he.run n W X g.toCtx) pa_nil (he.sx.p1 _ _)) (nmB_1 hn) (he.sx.p1 _ _) rfl)) ?_
    intro D σ H ⟨φ, G, sw, rl, sl, run⟩
    simp only [ex, evs] at run
    have run : Run Z.toEv1 (Er W) (FlR Z) (bnd (ev (Z.cl n) Z.gk ce sw G) fun w G1 => Res.exc c [w] G1) φ H (DQ D) := by
      cases h : ev (Z.cl n) Z.gk ce sw G with
      | ok w G1 => rw [h] at run; exact run
      | exc c fs G1 => rw [h] at run; exact run
      | stuck => rw [h] at run; exact run
    refine tM_bnd rl sl run fun v φ1 G1 H1 w f1 rl1 sl1 sv run1 => ?_
    have sv : Sim Z.toEv0 φ1 H1 w v := sv
    refine ⟨by simp, fun a ha => ⟨a, v, rfl, upd_same, fun dx hdx hne => ⟨rfl, dx, [(f, v)], upd_same, by rw [upd_ne hne, upd_same], ?_, ?_⟩⟩⟩
    · rw [upd_ne hne] at hdx
      exact hdx
    · have hdx1 : H1 dx = none := by
        rw [upd_ne hne] at hdx
        exact hdx
      have eH : upd (del (upd (upd (upd H1 a (exo a (Z.xa c) none)) dx (exd dx [(f, v)])) a (exo a (Z.xa c) (some dx))) a) dx (.xd [(f, v)]) = upd H1 dx (.xd [(f, v)]) := by
        funext b
        by_cases hb : b = dx
        · subst hb
          rw [upd_same, upd_same]
        · rw [upd_ne hb, upd_ne hb]
          by_cases hb2 : b = a
          · subst hb2
            rw [del_same, ha]
          · rw [del_ne hb2, upd_ne hb2, upd_ne hb, upd_ne hb2]
      rw [eH]
      refine run1 φ1 _ (some dx) (Fr.new hdx1) (rl1.new hdx1) ⟨⟨hc, by rw [hxf]; rfl⟩, ?_⟩ σ
      rw [hxf, if_neg (by simp)]
      exact ⟨dx, [v], rfl, upd_same, .cons (Sim.keep (Fr.new hdx1) rl1.ours sv) .nil⟩⟩

/-! #### try -/
/-- the clauses hds do as hs tells -/
structure HHs (Z : Ev2) (N : List Str) (sc : Scope) (hds : List ExceptHandler) (hs : List (Nat × Hf)) : Prop where
  run : ∀ n W X, Ctx1 Z n N sc W X → ∃ l, MixOk X hds l ∧ ∀ (D : Ends) (Wout : WX) (σ' : L2.St) (φ : Ad) (G : List O) (H : Hp) (c : Nat) (fs : List T2.W) (d : Option Addr) (sw : Sl), Rel Z.toEv0 φ G H → XSim Z.toEv0 Z.xf Z.xn φ H c fs d → σ'.length = N.length →
    (match pickH hs c with
      | some h => Run Z.toEv1 (Er Wout) (FlR Z) (evH h fs sw G) φ H (DQ D)
      | none => Wout (.ref (Z.xa c)) d σ' H) → wMix X.K Wout D l (.ref (Z.xa c)) d σ' H
theorem HHs.nil : HHs Z N sc [] [] := ⟨fun n W X g => ⟨[], .nil, fun D Wout σ' φ G H c fs d sw rl xs _ h => h⟩⟩
theorem names_ok {n : Nat} {W : WX} {X : Cx} (gz : Good Z) (g : Ctx1 Z n N sc W X) (hk : Z.xnm[c]? = some x) (hg : glB sc x = true) (hn : nmB x = false) : Names X x (.ref (Z.xa c)) := ⟨glB_ok hg g.sc, nmB_1 hn, .inl (by rw [g.mg]; exact gz.xc c x hk)⟩
theorem kind_ok {X : Cx} {y : Str} (hl : sc.names.lookup y = some .local) (hs : X.env.scope = sc) : X.env.kindOf y = some .local := by
  show X.env.scope.names.lookup y = _
  rw [hs]
  exact hl
/-- a clause's name -/
def nmOk (N : List Str) (sc : Scope) : Option Str → Option Nat → Bool
  | none, none => true
  | some y, some i => decide (N[i]? = some y) && decide (sc.names.lookup y = some .local)
  | _, _ => false
theorem nmOk_ok {n : Nat} {W : WX} {X : Cx} {on : Option Str} {oi : Option Nat} (g : Ctx1 Z n N sc W X) (h : nmOk N sc on oi = true) : NameOk X on oi := by
  cases on with
  | none => cases oi with
    | none => trivial
    | some i => simp [nmOk] at h
  | some y => cases oi with
    | none => simp [nmOk] at h
    | some i =>
      simp only [nmOk, Bool.and_eq_true, decide_eq_true_eq] at h
      exact ⟨by rw [g.nm]; exact g.nd, by rw [g.nm]; exact h.1, kind_ok h.2 g.sc⟩
theorem end_rt (D : Ends) (oi : Option Nat) : (endOf D oi).rt = D.rt := by cases oi <;> rfl
/-- except C: return k -/
theorem HHs.retk {hds : List ExceptHandler} {hs : List (Nat × Hf)} {on : Option Str} {oi : Option Nat} {w : T2.W} {v : V} {np pos' pos2 : Pos} (gz : Good Z) (em : Exm Z) (hc : c < Z.xn) (hk : Z.xnm[c]? = some x) (hg : glB sc x = true) (hn : nmB x = false) (ho : nmOk N sc on oi = true)
    (he : ∀ X : Cx, PE X e (tC v)) (hv : ∀ φ H, Sim Z.toEv0 φ H w v) (r : HHs Z N sc hds hs) : HHs Z N sc (.ExceptHandler (some (.Name x np)) on [.Return (some e) pos2] pos' :: hds) ((c, .retk w) :: hs) :=
  ⟨fun n W X g => by
    obtain ⟨l, hl, q⟩ := r.run n W X g
    refine ⟨(.ref (Z.xa c), oi, fun _ _ _ => tRet (tC v)) :: l, .cons (names_ok gz g hk hg hn) (nmOk_ok g ho) (fun a oe cls d pn _ _ => pss_one (ps_ret (he _))) hl, fun D Wout σ' φ G H c' fs d sw rl xs hlen h => ?_⟩
    refine ⟨decide (c = c'), by rw [g.gd.K]; exact em c' c xs.1.1 hc, fun hb a ha => ?_, fun hb => ?_⟩
    · have hb : c = c' := of_decide_eq_true hb
      subst hb
      simp only [pickH, if_true] at h
      show (endOf D oi).rt v H
      rw [end_rt]
      exact rt_here h rl (hv φ H)
    · have hb : c ≠ c' := of_decide_eq_false hb
      simp only [pickH, if_neg hb] at h
      exact q D Wout σ' φ G H c' fs d sw rl xs hlen h⟩
/-- except C as y: return y.f -/
theorem HHs.retf {hds : List ExceptHandler} {hs : List (Nat × Hf)} {y f : Str} {i : Nat} {np pos' pos2 pos3 : Pos} (gz : Good Z) (em : Exm Z) (xc : XcOk Z c) (hc : c < Z.xn) (hk : Z.xnm[c]? = some x) (hg : glB sc x = true) (hn : nmB x = false) (hN : N[i]? = some y) (hly : sc.names.lookup y = some .local) (hny : nmB y = false)
    (hf : Z.xf c = [f]) (r : HHs Z N sc hds hs) : HHs Z N sc (.ExceptHandler (some (.Name x np)) (some y) [.Return (some (.Attribute (.Name y p) f pos3)) pos2] pos' :: hds) ((c, .retf 0) :: hs) :=
  ⟨fun n W X g => by
    obtain ⟨l, hl, q⟩ := r.run n W X g
    refine ⟨(.ref (Z.xa c), some i, fun a cls d => tRet (tXf a cls d (Z.xa c) f (tVar i))) :: l, .cons (names_ok gz g hk hg hn) (nmOk_ok g (by simp [nmOk, hN, hly])) (fun a oe cls d pn hz hfl => pss_one (ps_ret (pe_xf (by rw [g.gd.K]; exact xc.xfc) (by rw [g.gd.K]; exact xc.no f (by rw [hf]; exact List.mem_cons_self)) hz hfl
      (pe_var (X := X.suite a ((a, oe) :: pn)) (i := i) (by show X.N[i]? = _; rw [g.nm]; exact hN) (.inl (kind_ok hly g.sc)) (nmB_1 hny) (nmB_2 hny))))) hl, fun D Wout σ' φ G H c' fs d sw rl xs hlen h => ?_⟩
    refine ⟨decide (c = c'), by rw [g.gd.K]; exact em c' c xs.1.1 hc, fun hb a ha => ?_, fun hb => ?_⟩
    · have hb : c = c' := of_decide_eq_true hb
      subst hb
      simp only [pickH, if_true] at h
      have h2 := xs.2
      rw [hf, if_neg (by simp)] at h2
      obtain ⟨dx, vs, ed, ex_, ss⟩ := h2
      have hl1 : fs.length = 1 := by rw [xs.1.2, hf]; rfl
      match fs, vs, ss, hl1 with
      | [w], [v], .cons s1 .nil, _ =>
        refine ⟨.ref a, ?_, rfl, rfl, dx, [(f, v)], v, ed, ex_, by simp [List.lookup], ?_⟩
        · show (σ'.set i (some (.ref a)))[i]? = _
          rw [List.getElem?_set_self (by rw [hlen]; exact (List.getElem?_eq_some_iff.mp hN).1)]
        · exact rt_here (D := D) h rl s1
    · have hb : c ≠ c' := of_decide_eq_false hb
      simp only [pickH, if_neg hb] at h
      exact q D Wout σ' φ G H c' fs d sw rl xs hlen h⟩
theorem HS.tri {h₀ : ExceptHandler} {hds : List ExceptHandler} {hs : List (Nat × Hf)} (hb : HB Z N sc sts bb) (hh : HHs Z N sc (h₀ :: hds) hs) : HS Z N sc (.Try sts (h₀ :: hds) [] [] pos) (.tri bb hs) :=
  ⟨fun n W X g => by
    obtain ⟨l, hl, q⟩ := hh.run n W X g
    refine PS_of (ps_try_mix (X := X) (Wout := W) (tb := fun W' => tS Z (fun c d σ H => σ.length = N.length → W' c d σ H) (exB (Z.cl n) Z.gk Z.wf bb)) g.stk g.fr g.tk (fun W' pn xe tk po => hb.run n _ (X.tr pn xe) ⟨⟨⟨g.gd.P, g.gd.w, g.gd.K, g.gd.calm, g.gd.room⟩, g.nm, g.nd, g.sc, ?_, g.mg, g.base, g.fns, g.fn⟩, po, g.stk, g.fr⟩) hl) ?_
    · intro u s' ⟨a, B, sI, pins, σ, H, cls, d, e, I, nb, up, sky, na, os, ag, w⟩
      exact tk u s' ⟨a, B, sI, pins, σ, H, cls, d, e, I, nb, up, sky, na, os, ag, w (by rw [I.len]; show X.N.length = _; rw [g.nm])⟩
    · intro D σ H ⟨φ, G, sw, rl, sl, run⟩
      refine ⟨φ, G, sw, rl, sl, ?_⟩
      simp only [ex] at run
      cases hr : exB (Z.cl n) Z.gk Z.wf bb sw G with
      | ok f G1 => rw [hr] at run; exact run
      | stuck => rw [hr] at run; exact run
      | exc c fs G1 =>
        rw [hr] at run
        simp only at run
        intro φ' H' d f r xs σ' hlen
        refine q D W σ' φ' G1 H' c fs d sw r xs hlen ?_
        cases hp : pickH hs c with
        | some h =>
          simp only [hp] at run ⊢
          exact run.later f
        | none =>
          simp only [hp] at run ⊢
          exact run φ' H' d f r xs σ'⟩

/-! ### defs -/
/-- the k-th def of the text -/
structure FnD (Z : Ev2) (k : Nat) (d : Df) : Prop where
  ex : ∃ (x qual : Str) (params : Arguments) (body : List Stmt) (scope : Scope) (fd : FuncData) (N ps : List Str), FunD Z.K x qual params body scope [] [] (Z.fa k) fd ∧ FnScope N ps scope ∧ ps.length = d.pars ∧ N.length = d.slots ∧ HB Z N scope body d.body ∧ Binds Z.K fd ps []
theorem fn_run {n k : Nat} {d : Df} {x qual : Str} {params : Arguments} {body : List Stmt} {scope : Scope} {fd : FuncData} {N ps : List Str} (hd : Z.tb k = some d) (fns : ∀ k d, Z.tb k = some d → Fn1 Z n k) (F : FunD Z.K x qual params body scope [] [] (Z.fa k) fd) (S : FnScope N ps scope) (hp : ps.length = d.pars) (hN : N.length = d.slots)
    (hb : HB Z N scope body d.body) : FnOk Z.P Z.w Z.K Z.mg Z.base (L2.CX Z.P Z.w) (n + 3) (Z.fa k) fd ps (spF Z (n + 1) k) := by
  have key : ∀ ws G, Z.cl (n + 1) k ws G = runD (Z.cl n) Z.gk Z.wf d ws G := fun ws G => by
    show (match Z.tb k with
      | some d => runD (calls Z.tb Z.gk Z.wf n) Z.gk Z.wf d ws G
      | none => .stuck) = _
    rw [hd]
  have lenK : ∀ vs H Q E, spF Z (n + 1) k vs H Q E → vs.length = ps.length := fun vs H Q E ⟨φ, G, ws, rl, ss, run⟩ => by
    rw [key] at run
    unfold runD at run
    split at run
    · rename_i h
      rw [← ss.len, h, hp]
    · exact run.elim
  refine FunD.ok (k := n + 2) F S lenK fun cdv A outer s H vs Q E hr hsp => ?_
  have hlen := lenK vs H Q E hsp
  obtain ⟨φ, G, ws, rl, ss, run⟩ := hsp
  rw [key] at run
  unfold runD at run
  split at run
  case isFalse => exact run.elim
  rename_i hw
  refine ⟨tS Z (fun cls d _ H => E cls d H) (exB (Z.cl n) Z.gk Z.wf d.body), hb.run n _ _ ⟨⟨⟨rfl, rfl, rfl, rfl, hr⟩, rfl, S.nd, rfl, takes_of rfl rfl rfl rfl, rfl, rfl, fns, fun _ _ => rfl⟩, passes_of rfl, rfl, rfl⟩, ?_⟩
  refine ⟨φ, G, ws.map some ++ List.replicate (d.slots - d.pars) none, rl, ?_, ?_⟩
  · refine ⟨?_, fun i w h => ?_⟩
    · unfold L2.start
      simp only [List.length_append, List.length_map, List.length_replicate]
      have := ss.len
      omega
    · unfold L2.start
      by_cases hi : i < ws.length
      · rw [List.getElem?_append_left (by simpa using hi), List.getElem?_map] at h
        cases hq : ws[i]? with
        | none => rw [hq] at h; cases h
        | some w' =>
          rw [hq] at h
          cases h
          obtain ⟨v, hv, sv⟩ := ss.get hq
          exact ⟨v, by rw [List.getElem?_append_left (by simpa using (List.getElem?_eq_some_iff.mp hv).1), List.getElem?_map, hv]; rfl, sv⟩
      · rw [List.getElem?_append_right (by simpa using hi)] at h
        have := List.mem_of_getElem? h
        rw [List.mem_replicate] at this
        cases this.2
  · cases hr : exB (Z.cl n) Z.gk Z.wf d.body (ws.map some ++ List.replicate (d.slots - d.pars) none) G with
    | stuck => rw [hr] at run; exact run
    | exc c fs G1 =>
      rw [hr] at run
      exact fun φ' H' dd f r xs _ => run φ' H' dd f r xs
    | ok f G1 =>
      rw [hr] at run
      intro φ' H' b fr r q
      cases f with
      | nx sw1 =>
        cases b with
        | nx σ1 => exact run φ' H' .non fr r .non
        | _ => exact q.elim
      | rt w =>
        cases b with
        | rt v => exact run φ' H' v fr r q
        | _ => exact q.elim
      | bk _ => exact run.elim
      | ct _ => exact run.elim
theorem fnD_step {n k : Nat} {d : Df} (hd : Z.tb k = some d) (fns : ∀ k d, Z.tb k = some d → Fn1 Z n k) (F : FnD Z k d) : Fn1 Z (n + 1) k := by
  obtain ⟨x, qual, params, body, scope, fd, N, ps, F, S, hp, hN, hb, bi⟩ := F.ex
  exact ⟨fd, ps, fn_run hd fns F S hp hN hb, F.kp, bi⟩
theorem fnD_zero {k : Nat} {d : Df} (F : FnD Z k d) : Fn1 Z 0 k := by
  obtain ⟨x, qual, params, body, scope, fd, N, ps, F, S, hp, hN, hb, bi⟩ := F.ex
  exact ⟨fd, ps, ⟨fun vs H Q E ⟨_, _, _, _, _, run⟩ => run.elim, fun _ _ _ _ _ _ _ _ _ _ _ _ _ ⟨_, _, _, _, _, run⟩ => run.elim⟩, F.kp, bi⟩
/-- all defs keep their promises -/
theorem fnD_all (h : ∀ k d, Z.tb k = some d → FnD Z k d) : ∀ n k d, Z.tb k = some d → Fn1 Z n k
  | 0, k, d, hd => fnD_zero (h k d hd)
  | n + 1, k, d, hd => fnD_step hd (fnD_all h n) (h k d hd)
end
end T2
end

section
set_option linter.all false
set_option autoImplicit false
set_option maxRecDepth 100000
set_option maxHeartbeats 2000000
/-! T2: from the head's facts to the law. -/
namespace T2
open PySem L2
/-- what is asked of an exception class with the field f -/
def oexB (K : PySem.W.Frag) (C : Addr) : Bool := match K.lookup C with
  | some ⟨.type "type", _, .cls cd, sl⟩ => (match cd.mro, sl.toList with
    | .ref C' :: bm, [_, _, _, _, some (.builtin n), _] => C' == C && n == "ValueError.__new__" && !cd.hasDel && cd.hasDict && PySem.HandSPX.refsVE bm
    | _, _ => false)
  | _ => false
theorem oexB_ok {K : PySem.W.Frag} {C : Addr} (h : oexB K C = true) : ∃ nm q N bs bm sn sub ab col dd k0 k1 k2 k3 k5, K.lookup C = some (excClassObj nm q C N bs bm true sn sub ab col dd k0 k1 k2 k3 k5 "ValueError.__new__") ∧ PySem.HandSPX.refsVE bm = true := by
  unfold oexB at h
  split at h
  case h_2 => cases h
  rename_i dd cd sl ho
  split at h
  case h_2 => cases h
  rename_i C' bm k0 k1 k2 k3 nw k5 hm hs
  simp only [Bool.and_eq_true, beq_iff_eq, Bool.not_eq_true'] at h
  obtain ⟨⟨⟨⟨rfl, rfl⟩, hdel⟩, hdict⟩, ht⟩ := h
  obtain ⟨nm, bs, mro, ns, qn, hd, sn, sub, ab, col, del⟩ := cd
  dsimp only at hm hdel hdict
  subst hm hdel hdict
  have hsl : sl = #[k0, k1, k2, k3, some (.builtin "ValueError.__new__"), k5] := by
    obtain ⟨l⟩ := sl
    simp only at hs
    rw [hs]
  subst hsl
  exact ⟨nm, qn, ns, bs, bm, sn, sub, ab, col, dd, k0, k1, k2, k3, k5, ho, ht⟩
def xcB (K : PySem.W.Frag) (x f : Str) : Bool :=
  oexB K (He.ga K x) && (decide (PySem.W.findIn K (.ref (He.ga K x)) "__setattr__" = some (some (.builtin "object.__setattr__"))) && (decide (PySem.W.subIn K (.ref (He.ga K x)) (.type "BaseException") = some true) && (decide (PySem.W.typeIn K (.ref (He.ga K x)) = some (.type "type")) &&
    (PySem.W.keepIn K (.ref (He.ga K x)) && (decide (PySem.W.findIn K (.ref (He.ga K x)) "__init__" = some (some (.ref (He.ma K (He.ga K x) "__init__")))) && (decide (PySem.W.typeIn K (.ref (He.ma K (He.ga K x) "__init__")) = some (.type "function")) &&
      (xfB K (He.ga K x) && decide (PySem.W.findIn K (.ref (He.ga K x)) f = some none))))))))
structure XcF (K : PySem.W.Frag) (x f : Str) : Prop where
  oex : OexC K (He.ga K x)
  ini : PySem.W.findIn K (.ref (He.ga K x)) "__init__" = some (some (.ref (He.ma K (He.ga K x) "__init__")))
  fn : PySem.W.typeIn K (.ref (He.ma K (He.ga K x) "__init__")) = some (.type "function")
  xfc : XfC K (He.ga K x)
  no : PySem.W.findIn K (.ref (He.ga K x)) f = some none
theorem xcB_ok {K : PySem.W.Frag} {x f : Str} (h : xcB K x f = true) : XcF K x f := by
  simp only [xcB, Bool.and_eq_true, decide_eq_true_eq] at h
  obtain ⟨h1, h2, h3, h4, h5, h6, h7, h8, h9⟩ := h
  exact ⟨⟨oexB_ok h1, h2, h3, h4, h5⟩, h6, h7, xfB_ok h8, h9⟩
/-- self.f = f -/
theorem ini_ok {P : Program} {w : World} {K : PySem.W.Frag} {mg : Str → Option Value} {base : Heap} {qual f : Str} {params : Arguments} {body : List Stmt} {scope : Scope} {fI C : Addr} {fd : FuncData} (F : FunD K "__init__" qual params body scope [] [] fI fd) (S : FnScope ["self", f] ["self", f] scope)
    (hb : ∃ p1 p2 p3 p4, body = [.Assign [.Attribute (.Name "self" p1) f p2] (.Name f p3) p4]) (hv1 : visB scope "self" = true) (hv2 : visB scope f = true) (hn : nmB f = false) (T : OexC K C) (no : PySem.W.findIn K (.ref C) f = some none) : FnOk P w K mg base (L2.CX P w) 1 fI fd ["self", f] (spI C f) := by
  obtain ⟨p1, p2, p3, p4, rfl⟩ := hb
  refine FunD.ok (k := 0) F S (fun vs H Q E ⟨a, v, e, _⟩ => by rw [e]; rfl) fun cdv A outer s H vs Q E hr ⟨a, v, e, ha, q⟩ => ?_
  subst e
  refine ⟨_, pss_one (ps_ost (pe_var (i := 0) rfl (visB_ok hv1 rfl) rfl rfl) (pe_var (i := 1) rfl (visB_ok hv2 rfl) (nmB_1 hn) (nmB_2 hn))), ?_⟩
  exact ⟨v, rfl, .ref a, rfl, a, C, rfl, T, no, .inl ⟨ha, fun dx h1 h2 => q dx h1 h2⟩⟩
/-- the law's own call -/
theorem law_sp {Z : Ev2} {n k : Nat} {H : Hp} {a : Addr} {ns : List Int} (hS : SqL Z.K H a (ns.map V.int)) {G' : List O} (h : Z.cl n k [.scr (ns.map .int)] [] = .ok (.bl true) G') : spF Z n k [.ref a] H (fun v _ => v = .bl true) fun _ _ _ => False := by
  refine ⟨⟨[], []⟩, [], [.scr (ns.map .int)], ⟨rfl, List.nodup_nil, fun i b o e => by simp at e, fun b hb => by simp at hb⟩, .cons (.scr ?_ (Sims.ints ns)) .nil, ?_⟩
  · rcases hS with hS | hS
    · exact .inl ⟨by simp, by simp, hS⟩
    · exact .inr hS
  · rw [h]
    intro φ' H' b _ _ s
    cases s
    rfl
theorem cx_no {P : Program} {w : World} (H : Hp) (s : Shared) (e : Value) (s' : Shared) (h : L2.CX P w [] H s (fun _ _ _ => False) e s') : False := by
  obtain ⟨_, _, _, _, _, _, _, _, _, _, _, _, z⟩ := h
  exact z
/-- a call that lets out more -/
theorem fn_cx {P : Program} {w : World} {K : PySem.W.Frag} {mg : Str → Option Value} {base : Heap} {A B : CXT} {k : Nat} {f : Addr} {fd : FuncData} {ps : List Str} {sp : Sp} (F : FnOk P w K mg base A k f fd ps sp) (h : ∀ o H s E u s', A o H s E u s' → B o H s E u s') : FnOk P w K mg base B k f fd ps sp :=
  ⟨F.len, fun A outer s H args us vs Q E hr he hb hv hs => codeAny_mono (F.run A outer s H args us vs Q E hr he hb hv hs) fun r s' q => by
    cases r with
    | error e => exact h _ _ _ _ _ _ q
    | ok fl => cases fl <;> exact q⟩
/-- what is let out, whatever the world -/
def CXe (P : Program) : CXT := fun o H s E u s' => ∃ w, L2.CX P w o H s E u s'
theorem cxe_no {P : Program} (H : Hp) (s : Shared) (e : Value) (s' : Shared) (h : CXe P [] H s (fun _ _ _ => False) e s') : False := by
  obtain ⟨w, h⟩ := h
  exact cx_no H s e s' h
/-- the first statement of a class's body -/
def inCls : Stmt → Stmt
  | .ClassDef _ _ _ (s :: _) _ _ _ _ _ _ _ => s
  | s => s
end T2
end

section
set_option linter.all false
set_option autoImplicit false
set_option maxRecDepth 100000
set_option maxHeartbeats 2000000
/-! T2: reckoning with code. -/
namespace T2
/-! ### loops by a relation -/
/-- a for loop, turn by turn: St a sw G says that slots and heap stand for a -/
theorem forL_rel {α : Type} {asg : W → Sl → List O → Res Sl} {body : Sl → List O → Res Fl} {s : Seq} (St : α → Sl → List O → Prop) (f : α → W → α) (hok : ∀ a sw G, St a sw G → s.ok G = true) :
    ∀ (xs : List W) (a : α) (sw : Sl) (G : List O), St a sw G →
      (∀ a x sw G, x ∈ xs → St a sw G → ∃ sw1 G1 sw2 G2, asg x sw G = .ok sw1 G1 ∧ (body sw1 G1 = .ok (.nx sw2) G2 ∨ body sw1 G1 = .ok (.ct sw2) G2) ∧ St (f a x) sw2 G2) →
      ∃ sw' G', forL asg body s xs sw G = .ok (.nx sw') G' ∧ St (xs.foldl f a) sw' G'
  | [], a, sw, G, h, _ => ⟨sw, G, by simp only [forL, hok a sw G h, if_true], h⟩
  | x :: xs, a, sw, G, h, step => by
    obtain ⟨sw1, G1, sw2, G2, e1, e2, h2⟩ := step a x sw G List.mem_cons_self h
    obtain ⟨sw', G', e3, h3⟩ := forL_rel St f hok xs (f a x) sw2 G2 h2 fun a y sw G hy => step a y sw G (List.mem_cons_of_mem _ hy)
    refine ⟨sw', G', ?_, h3⟩
    simp only [forL, hok a sw G h, if_true, e1, noX_ok, bnd_ok]
    rcases e2 with e2 | e2 <;> simp only [e2, bnd_ok, e3]
/-- with the items' places -/
theorem forL_ix {asg : W → Sl → List O → Res Sl} {body : Sl → List O → Res Fl} {s : Seq} (xs : List W) (St : Nat → Sl → List O → Prop) (hok : ∀ i sw G, i ≤ xs.length → St i sw G → s.ok G = true)
    (step : ∀ i x sw G, xs[i]? = some x → St i sw G → ∃ sw1 G1 sw2 G2, asg x sw G = .ok sw1 G1 ∧ (body sw1 G1 = .ok (.nx sw2) G2 ∨ body sw1 G1 = .ok (.ct sw2) G2) ∧ St (i + 1) sw2 G2) :
    ∀ (k : Nat) (i : Nat), i + k = xs.length → ∀ sw G, St i sw G → ∃ sw' G', forL asg body s (xs.drop i) sw G = .ok (.nx sw') G' ∧ St xs.length sw' G'
  | 0, i, e, sw, G, h => by
    have : i = xs.length := by omega
    subst this
    rw [List.drop_length]
    exact ⟨sw, G, by simp only [forL, hok _ sw G (Nat.le_refl _) h, if_true], h⟩
  | k + 1, i, e, sw, G, h => by
    have hi : i < xs.length := by omega
    obtain ⟨sw1, G1, sw2, G2, e1, e2, h2⟩ := step i xs[i] sw G (List.getElem?_eq_getElem hi) h
    obtain ⟨sw', G', e3, h3⟩ := forL_ix xs St hok step k (i + 1) (by omega) sw2 G2 h2
    refine ⟨sw', G', ?_, h3⟩
    rw [List.drop_eq_getElem_cons hi]
    simp only [forL, hok i sw G (by omega) h, if_true, e1, noX_ok, bnd_ok]
    rcases e2 with e2 | e2 <;> simp only [e2, bnd_ok, e3]
theorem forL_at {asg : W → Sl → List O → Res Sl} {body : Sl → List O → Res Fl} {s : Seq} (xs : List W) (St : Nat → Sl → List O → Prop) (sw : Sl) (G : List O) (h : St 0 sw G) (hok : ∀ i sw G, i ≤ xs.length → St i sw G → s.ok G = true)
    (step : ∀ i x sw G, xs[i]? = some x → St i sw G → ∃ sw1 G1 sw2 G2, asg x sw G = .ok sw1 G1 ∧ (body sw1 G1 = .ok (.nx sw2) G2 ∨ body sw1 G1 = .ok (.ct sw2) G2) ∧ St (i + 1) sw2 G2) :
    ∃ sw' G', forL asg body s xs sw G = .ok (.nx sw') G' ∧ St xs.length sw' G' := by
  have := forL_ix xs St hok step xs.length 0 (by omega) sw G h
  rwa [List.drop_zero] at this
/-- while, by a measure -/
theorem whlL_rel {t : Sl → List O → Res Bool} {body : Sl → List O → Res Fl} (St : Nat → Sl → List O → Prop) (Fin : Sl → List O → Prop)
    (step : ∀ m sw G, St m sw G → (∃ G1, t sw G = .ok false G1 ∧ Fin sw G1) ∨ ∃ G1 sw2 G2, t sw G = .ok true G1 ∧ (body sw G1 = .ok (.nx sw2) G2 ∨ body sw G1 = .ok (.ct sw2) G2) ∧ ∃ m', m' < m ∧ St m' sw2 G2) :
    ∀ (n m : Nat) (sw : Sl) (G : List O), m < n → St m sw G → ∃ sw' G', whlL t body n sw G = .ok (.nx sw') G' ∧ Fin sw' G'
  | 0, m, _, _, h, _ => absurd h (Nat.not_lt_zero _)
  | n + 1, m, sw, G, h, st => by
    rcases step m sw G st with ⟨G1, e, f⟩ | ⟨G1, sw2, G2, e, e2, m', hm, st2⟩
    · exact ⟨sw, G1, by simp only [whlL, e, bnd_ok]; rfl, f⟩
    · obtain ⟨sw', G', e3, f⟩ := whlL_rel St Fin step n m' sw2 G2 (by omega) st2
      refine ⟨sw', G', ?_, f⟩
      simp only [whlL, e, bnd_ok, if_true]
      rcases e2 with e2 | e2 <;> simp only [e2, bnd_ok, e3]
/-- a comprehension without a test, where nothing on the heap changes -/
theorem lcL_map {asg : W → List O → Res Sl} {cd : Sl → List O → Res Bool} {e : Sl → List O → Res W} {s : Seq} {G : List O} (hok : s.ok G = true) (f : W → W) : ∀ (xs acc : List W), acc.length + xs.length ≤ 16777216 →
    (∀ x ∈ xs, ∃ sw, asg x G = .ok sw G ∧ cd sw G = .ok true G ∧ e sw G = .ok (f x) G) → lcL asg cd e s xs acc G = .ok (acc ++ xs.map f) G
  | [], acc, _, _ => by simp [lcL, hok]
  | x :: xs, acc, hl, h => by
    obtain ⟨sw, e1, e2, e3⟩ := h x List.mem_cons_self
    have hl' : acc.length + 1 ≤ 16777216 := by simp only [List.length_cons] at hl; omega
    have ih := lcL_map hok f xs (acc ++ [f x]) (by simp only [List.length_append, List.length_cons, List.length_nil] at hl ⊢; omega) fun y hy => h y (List.mem_cons_of_mem _ hy)
    simp only [lcL, hok, szOk, Bool.true_and, hl', decide_true, if_true, e1, e2, e3, noX_ok, bnd_ok, ih, List.append_assoc, List.map_cons, List.singleton_append]
/-- a comprehension whose heap changes -/
theorem lcL_rel {asg : W → List O → Res Sl} {cd : Sl → List O → Res Bool} {e : Sl → List O → Res W} {s : Seq} (St : List W → List O → Prop) (hok : ∀ acc G, St acc G → s.ok G = true) : ∀ (xs acc : List W) (G : List O), acc.length + xs.length ≤ 16777216 → St acc G →
    (∀ x acc G, x ∈ xs → St acc G → ∃ sw G1 G2 y G3, asg x G = .ok sw G1 ∧ cd sw G1 = .ok true G2 ∧ e sw G2 = .ok y G3 ∧ St (acc ++ [y]) G3) → ∃ ys G', lcL asg cd e s xs acc G = .ok ys G' ∧ St ys G' ∧ ys.length = acc.length + xs.length
  | [], acc, G, _, h, _ => ⟨acc, G, by simp [lcL, hok acc G h], h, rfl⟩
  | x :: xs, acc, G, hl, h, step => by
    obtain ⟨sw, G1, G2, y, G3, e1, e2, e3, h2⟩ := step x acc G List.mem_cons_self h
    have hl' : acc.length + 1 ≤ 16777216 := by simp only [List.length_cons] at hl; omega
    obtain ⟨ys, G', e4, h4, l4⟩ := lcL_rel St hok xs (acc ++ [y]) G3 (by simp only [List.length_append, List.length_cons, List.length_nil] at hl ⊢; omega) h2 fun y acc G hy => step y acc G (List.mem_cons_of_mem _ hy)
    refine ⟨ys, G', ?_, h4, by simp only [List.length_append, List.length_cons, List.length_nil] at l4 ⊢; omega⟩
    simp only [lcL, hok acc G h, szOk, Bool.true_and, hl', decide_true, if_true, e1, e2, e3, noX_ok, bnd_ok, e4]
theorem forL_nil {asg : W → Sl → List O → Res Sl} {body : Sl → List O → Res Fl} {s : Seq} {sw : Sl} {G : List O} (hok : s.ok G = true) : forL asg body s [] sw G = .ok (.nx sw) G := by simp only [forL, hok, if_true]
theorem forL_ok {asg : W → Sl → List O → Res Sl} {body : Sl → List O → Res Fl} {s : Seq} {x : W} {xs : List W} {sw sw1 sw2 : Sl} {G G1 G2 : List O} (hok : s.ok G = true) (h1 : asg x sw G = .ok sw1 G1) (h2 : body sw1 G1 = .ok (.nx sw2) G2) : forL asg body s (x :: xs) sw G = forL asg body s xs sw2 G2 := by simp only [forL, hok, if_true, h1, noX_ok, bnd_ok, h2]
theorem forL_exc {asg : W → Sl → List O → Res Sl} {body : Sl → List O → Res Fl} {s : Seq} {x : W} {xs : List W} {sw sw1 : Sl} {G G1 G2 : List O} {c : Nat} {fs : List W} (hok : s.ok G = true) (h1 : asg x sw G = .ok sw1 G1) (h2 : body sw1 G1 = .exc c fs G2) : forL asg body s (x :: xs) sw G = .exc c fs G2 := by simp only [forL, hok, if_true, h1, noX_ok, bnd_ok, h2, bnd_exc]
theorem forL_rt {asg : W → Sl → List O → Res Sl} {body : Sl → List O → Res Fl} {s : Seq} {x w : W} {xs : List W} {sw sw1 : Sl} {G G1 G2 : List O} (hok : s.ok G = true) (h1 : asg x sw G = .ok sw1 G1) (h2 : body sw1 G1 = .ok (.rt w) G2) : forL asg body s (x :: xs) sw G = .ok (.rt w) G2 := by simp only [forL, hok, if_true, h1, noX_ok, bnd_ok, h2]
theorem whlL_no {t : Sl → List O → Res Bool} {body : Sl → List O → Res Fl} {n : Nat} {sw : Sl} {G G1 : List O} (h : t sw G = .ok false G1) : whlL t body (n + 1) sw G = .ok (.nx sw) G1 := by simp only [whlL, h, bnd_ok]; rfl
theorem whlL_ok {t : Sl → List O → Res Bool} {body : Sl → List O → Res Fl} {n : Nat} {sw sw2 : Sl} {G G1 G2 : List O} (h : t sw G = .ok true G1) (h2 : body sw G1 = .ok (.nx sw2) G2) : whlL t body (n + 1) sw G = whlL t body n sw2 G2 := by simp only [whlL, h, bnd_ok, if_true, h2]
/-! ### calls -/
theorem calls_at {tb : Nat → Option Df} {gk : Nat → W} {wf n k : Nat} {d : Df} (h : tb k = some d) (ws : List W) (G : List O) : calls tb gk wf (n + 1) k ws G = runD (calls tb gk wf n) gk wf d ws G := by
  show (match tb k with
    | some d => runD (calls tb gk wf n) gk wf d ws G
    | none => .stuck) = _
  rw [h]
/-- a call alone of a def that hands back a value without refs -/
theorem iso_ok {cl : Nat → List W → List O → Res W} {k : Nat} {ws : List W} {w w' : W} {G G1 : List O} (hn : W.nrs ws = true) (h : cl k ws [] = .ok w G1) (hf : frz G1 w = some w') : callW cl .iso k ws G = .ok w' G := by
  simp only [callW, hn, if_true, h, hf]
theorem iso_exc {cl : Nat → List W → List O → Res W} {k c : Nat} {ws fs : List W} {G G1 : List O} (hn : W.nrs ws = true) (h : cl k ws [] = .exc c fs G1) (hf : W.nrs fs = true) : callW cl .iso k ws G = .exc c fs G := by
  simp only [callW, hn, if_true, h, hf]
mutual
theorem frz_pl (G : List O) : ∀ w : W, w.pl = true → frz G w = some w
  | .non, _ => by simp [frz]
  | .bl _, _ => by simp [frz]
  | .int _, _ => by simp [frz]
  | .str _, _ => by simp [frz]
  | .tup ws, h => by simp [frz, frzs_pl G ws (by simpa [W.pl] using h)]
  | .lst ws, h => by simp [frz, frzs_pl G ws (by simpa [W.pl] using h)]
  | .scr _, h => by simp [W.pl] at h
  | .ref _, h => by simp [W.pl] at h
  | .fn _, h => by simp [W.pl] at h
theorem frzs_pl (G : List O) : ∀ ws : List W, W.pls ws = true → frzs G ws = some ws
  | [], _ => by simp [frzs]
  | w :: ws, h => by
    have h' : w.pl = true ∧ W.pls ws = true := by simpa [W.pls] using h
    simp [frzs, frz_pl G w h'.1, frzs_pl G ws h'.2]
end
mutual
theorem pl_nr : ∀ w : W, w.pl = true → w.nr = true
  | .non, _ => by simp [W.nr]
  | .bl _, _ => by simp [W.nr]
  | .int _, _ => by simp [W.nr]
  | .str _, _ => by simp [W.nr]
  | .tup ws, h => by simp only [W.nr]; exact pls_nrs ws (by simpa [W.pl] using h)
  | .lst ws, h => by simp only [W.nr]; exact pls_nrs ws (by simpa [W.pl] using h)
  | .scr _, h => by simp [W.pl] at h
  | .ref _, h => by simp [W.pl] at h
  | .fn _, h => by simp [W.pl] at h
theorem pls_nrs : ∀ ws : List W, W.pls ws = true → W.nrs ws = true
  | [], _ => rfl
  | w :: ws, h => by
    have h' : w.pl = true ∧ W.pls ws = true := by simpa [W.pls] using h
    simp [W.nrs, pl_nr w h'.1, pls_nrs ws h'.2]
end
/-- a call alone, what comes out plain -/
theorem iso_pl {cl : Nat → List W → List O → Res W} {k : Nat} {ws : List W} {w : W} {G G1 : List O} (hn : W.nrs ws = true) (h : cl k ws [] = .ok w G1) (hf : w.pl = true) : callW cl .iso k ws G = .ok w G := iso_ok hn h (frz_pl G1 w hf)
end T2
end

section
set_option linter.all false
set_option autoImplicit false
set_option maxRecDepth 100000
set_option maxHeartbeats 2000000
/-! T2: what operations are, form by form. -/
namespace T2
section
variable {xs ys ws : List W} {a b : List Nat} {i j k : Int} {m : Bool} {G : List O} {r : Nat} {x y w : W} {lo hi : Option Int}
theorem st_mkt : mkL true ws G = if szOk ws.length then .ok (.ref G.length) (G ++ [.lst ws]) else .stuck := (rfl)
theorem st_mkf : mkL false ws G = if szOk ws.length then .ok (.lst ws) G else .stuck := (rfl)
theorem st_addi : binW .add (.int i) (.int j) G = .ok (.int (i + j)) G := (rfl)
theorem st_adds : binW .add (.str a) (.str b) G = if szOk (a.length + b.length) then .ok (.str (a ++ b)) G else .stuck := (rfl)
theorem st_addt : binW .add (.tup xs) (.tup ys) G = if szOk (xs.length + ys.length) then .ok (.tup (xs ++ ys)) G else .stuck := (rfl)
theorem st_auI : binW .addI (.int i) (.int j) G = .ok (.int (i + j)) G := (rfl)
theorem st_auS : binW .addI (.str a) (.str b) G = if szOk (a.length + b.length) then .ok (.str (a ++ b)) G else .stuck := (rfl)
theorem st_sub : binW .sub (.int i) (.int j) G = .ok (.int (i - j)) G := (rfl)
theorem st_mul : binW .mul (.int i) (.int j) G = if mulOk i j then .ok (.int (i * j)) G else .stuck := (rfl)
theorem st_fdiv : binW .fdiv (.int i) (.int j) G = if divOk j then .ok (.int (i.fdiv j)) G else .stuck := (rfl)
theorem st_mod : binW .mod (.int i) (.int j) G = if decide (j ≠ 0) then .ok (.int (i.fmod j)) G else .stuck := (rfl)
theorem st_pow : binW .pow (.int i) (.int j) G = if powOk i j then .ok (.int (i ^ j.toNat)) G else .stuck := (rfl)
theorem st_cat : binW (.cat m) (.lst xs) (.lst ys) G = mkL m (xs ++ ys) G := (rfl)
theorem st_repl : binW (.rep m) (.lst xs) (.int k) G = if decide (0 ≤ k) && decide (k.toNat ≤ 16777216) then mkL m (List.replicate k.toNat xs).flatten G else .stuck := (rfl)
theorem st_reps : binW (.rep m) (.str a) (.int k) G = if decide (0 ≤ k) && decide (k.toNat ≤ 16777216) && szOk (a.length * k.toNat) then .ok (.str (List.replicate k.toNat a).flatten) G else .stuck := (rfl)
theorem ltI : W.lt (.int i) (.int j) = decide (i < j) := by
  show (decide (i < j) || (!decide (j < i) && false)) = _
  simp
theorem alI : W.alike (.int i) (.int j) = true := by
  show PySem.W.alike (.int i) (.int j) = true
  first | rfl | simp [PySem.W.alike]
theorem st_lt : cmpW .lt (.int i) (.int j) G = .ok (.bl (decide (i < j))) G := by
  simp [cmpW, lookC, W.pl, W.dep, alI, ltI]
theorem st_le : cmpW .le (.int i) (.int j) G = .ok (.bl (decide (i ≤ j))) G := by
  simp only [cmpW, lookC, W.pl, W.dep, alI, ltI]
  by_cases h : i ≤ j
  · simp [h]
  · simp [h]; omega
theorem st_gt : cmpW .gt (.int i) (.int j) G = .ok (.bl (decide (j < i))) G := by
  simp [cmpW, lookC, W.pl, W.dep, alI, ltI]
theorem st_ge : cmpW .ge (.int i) (.int j) G = .ok (.bl (decide (j ≤ i))) G := by
  simp only [cmpW, lookC, W.pl, W.dep, alI, ltI]
  by_cases h : j ≤ i
  · simp [h]
  · simp [h]; omega
theorem st_eqi : cmpW .eq (.int i) (.int j) G = .ok (.bl (decide (i = j))) G := by
  by_cases h : i = j <;> simp [cmpW, lookC, W.pl, W.dep, W.eq, h]
theorem st_nei : cmpW .ne (.int i) (.int j) G = .ok (.bl (decide (i ≠ j))) G := by
  by_cases h : i = j <;> simp [cmpW, lookC, W.pl, W.dep, W.eq, h]
theorem st_eqs : cmpW .eq (.str a) (.str b) G = .ok (.bl (decide (a = b))) G := by
  by_cases h : a = b <;> simp [cmpW, lookC, W.pl, W.dep, W.eq, h]
theorem st_nes : cmpW .ne (.str a) (.str b) G = .ok (.bl (decide (a ≠ b))) G := by
  by_cases h : a = b <;> simp [cmpW, lookC, W.pl, W.dep, W.eq, h]
theorem lookC_pl (h : x.pl = true) : lookC x G = x := by cases x <;> first | rfl | simp [W.pl] at h
theorem st_eq (hx : x.pl = true) (hy : y.pl = true) (hd : min x.dep y.dep ≤ 100) : cmpW .eq x y G = .ok (.bl (W.eq x y)) G := by simp [cmpW, lookC_pl hx, lookC_pl hy, hx, hy, hd]
theorem st_ne (hx : x.pl = true) (hy : y.pl = true) (hd : min x.dep y.dep ≤ 100) : cmpW .ne x y G = .ok (.bl (!W.eq x y)) G := by simp [cmpW, lookC_pl hx, lookC_pl hy, hx, hy, hd]
theorem st_neR (h : G[r]? = some (.lst xs)) (hx : W.pls xs = true) (hy : y.pl = true) (hd : min (W.deps xs + 1) y.dep ≤ 100) : cmpW .ne (.ref r) y G = .ok (.bl (!W.eq (.lst xs) y)) G := by
  have e := lookC_pl (G := G) hy
  have e2 : lookC (.ref r) G = .lst xs := by simp only [lookC, h]
  unfold cmpW
  rw [e, e2]
  simp [W.pl, W.dep, hx, hy, hd]
theorem st_eqR (h : G[r]? = some (.lst xs)) (hx : W.pls xs = true) (hy : y.pl = true) (hd : min (W.deps xs + 1) y.dep ≤ 100) : cmpW .eq (.ref r) y G = .ok (.bl (W.eq (.lst xs) y)) G := by
  have e := lookC_pl (G := G) hy
  have e2 : lookC (.ref r) G = .lst xs := by simp only [lookC, h]
  unfold cmpW
  rw [e, e2]
  simp [W.pl, W.dep, hx, hy, hd]
theorem st_inL (hx : x.pl = true) (hy : W.pls ys = true) (hd : min (W.deps ys) x.dep ≤ 100) : cmpW .isin x (.lst ys) G = .ok (.bl (ys.any fun z => W.eq z x)) G := by
  have e := lookC_pl (G := G) hx
  have e2 : lookC (.lst ys) G = .lst ys := (rfl)
  unfold cmpW
  rw [e, e2]
  simp [hx, hy, hd]
theorem st_niL (hx : x.pl = true) (hy : W.pls ys = true) (hd : min (W.deps ys) x.dep ≤ 100) : cmpW .notin x (.lst ys) G = .ok (.bl (!ys.any fun z => W.eq z x)) G := by
  have e := lookC_pl (G := G) hx
  have e2 : lookC (.lst ys) G = .lst ys := (rfl)
  unfold cmpW
  rw [e, e2]
  simp [hx, hy, hd]
theorem st_idxL : idxW (.lst xs) (.int i) G = match atW xs i with
    | some w => .ok w G
    | none => .stuck := (rfl)
theorem st_idxS : idxW (.scr xs) (.int i) G = match atW xs i with
    | some w => .ok w G
    | none => .stuck := (rfl)
theorem st_idxT : idxW (.tup xs) (.int i) G = match atW xs i with
    | some w => .ok w G
    | none => .stuck := (rfl)
theorem st_idxs : idxW (.str a) (.int i) G = if szOk a.length then (match atW a i with
    | some c => .ok (.str [c]) G
    | none => .stuck) else .stuck := (rfl)
theorem st_idxR (h : G[r]? = some (.lst xs)) : idxW (.ref r) (.int i) G = match atW xs i with
    | some w => .ok w G
    | none => .stuck := by
  simp only [idxW, look, h]
  try (cases atW xs i <;> rfl)
theorem st_idxD {kvs : List (W × W)} (h : G[r]? = some (.dct kvs)) (hk : keyOk x = true) : idxW (.ref r) x G = match dget kvs x with
    | some w => .ok w G
    | none => .stuck := by
  cases x with
  | tup q =>
    simp only [idxW, look, h, hk, if_true]
    try (cases dget kvs (.tup q) <;> rfl)
  | _ => simp [keyOk] at hk
theorem at_n {α : Type} (xs : List α) (n : Nat) : atW xs (n : Int) = xs[n]? := by simp [atW]
theorem at_0 {α : Type} (xs : List α) : atW xs 0 = xs[0]? := by simp [atW]
theorem at_1 {α : Type} (xs : List α) : atW xs 1 = xs[1]? := by simp [atW]
theorem at_2 {α : Type} (xs : List α) : atW xs 2 = xs[2]? := by simp [atW]
theorem at_m1 {α : Type} (xs : List α) : atW xs (-1) = xs.getLast? := by
  cases xs with
  | nil => rfl
  | cons x xs =>
    unfold atW
    rw [if_neg (by decide), if_pos (by simp only [List.length_cons]; omega), List.getLast?_eq_getElem?]
    congr 1
    simp only [List.length_cons]
    omega
theorem st_slcL : slcW m (.lst xs) lo hi G = mkL m (cutW xs lo hi) G := (rfl)
theorem st_slcT : slcW m (.tup xs) lo hi G = .ok (.tup (cutW xs lo hi)) G := (rfl)
theorem st_slcs : slcW m (.str a) lo hi G = if szOk a.length then .ok (.str (cutW a lo hi)) G else .stuck := (rfl)
theorem clip_n (n p : Nat) : clip n (p : Int) = min p n := by
  unfold clip
  rw [if_neg (by omega)]
  simp
theorem cut_nn {α : Type} (xs : List α) (p q : Nat) : cutW xs (some (p : Int)) (some (q : Int)) = (xs.drop p).take (q - p) := by
  have e1 : clip xs.length (p : Int) = min p xs.length := clip_n _ _
  have e2 : clip xs.length (q : Int) = min q xs.length := clip_n _ _
  simp only [cutW, e1, e2]
  by_cases h : p ≤ xs.length
  · rw [Nat.min_eq_left h]
    by_cases h2 : q ≤ xs.length
    · rw [Nat.min_eq_left h2]
    · rw [Nat.min_eq_right (Nat.le_of_not_le h2), List.take_of_length_le (by simp), List.take_of_length_le (by simp; omega)]
  · rw [Nat.min_eq_right (Nat.le_of_not_le h), List.drop_length, List.drop_eq_nil_of_le (Nat.le_of_not_le h)]
    simp
theorem cut_n {α : Type} (xs : List α) (q : Nat) : cutW xs none (some (q : Int)) = xs.take q := by
  have e2 : clip xs.length (q : Int) = min q xs.length := clip_n _ _
  simp only [cutW, e2, List.drop_zero, Nat.sub_zero]
  by_cases h2 : q ≤ xs.length
  · rw [Nat.min_eq_left h2]
  · rw [Nat.min_eq_right (by omega), List.take_length, List.take_of_length_le (by omega)]
theorem cut_from {α : Type} (xs : List α) (p : Nat) : cutW xs (some (p : Int)) none = xs.drop p := by
  have e1 : clip xs.length (p : Int) = min p xs.length := clip_n _ _
  simp only [cutW, e1]
  by_cases h : p ≤ xs.length
  · rw [Nat.min_eq_left h, List.take_of_length_le (by simp)]
  · rw [Nat.min_eq_right (by omega), List.drop_length, List.drop_eq_nil_of_le (by omega)]
    simp
theorem cut_1 {α : Type} (xs : List α) : cutW xs (some 1) none = xs.drop 1 := cut_from xs 1
theorem cut_to1 {α : Type} (xs : List α) : cutW xs none (some 1) = xs.take 1 := cut_n xs 1
theorem st_lens : bltW .len [.str a] G = if szOk a.length then .ok (.int a.length) G else .stuck := (rfl)
theorem st_lenL : bltW .len [.lst xs] G = .ok (.int xs.length) G := (rfl)
theorem st_lenS : bltW .len [.scr xs] G = .ok (.int xs.length) G := (rfl)
theorem st_lenT : bltW .len [.tup xs] G = .ok (.int xs.length) G := (rfl)
theorem st_lenR (h : G[r]? = some (.lst xs)) : bltW .len [.ref r] G = .ok (.int xs.length) G := by simp only [bltW, look, h]
theorem st_inti : bltW .int [.int i] G = .ok (.int i) G := (rfl)
theorem st_intb {c : Bool} : bltW .int [.bl c] G = .ok (.int (if c then 1 else 0)) G := (rfl)
theorem st_min2 : bltW .min2 [.int i, .int j] G = .ok (.int (if j < i then j else i)) G := (rfl)
theorem st_max2 : bltW .max2 [.int i, .int j] G = .ok (.int (if j > i then j else i)) G := (rfl)
theorem st_sumL : bltW .sum [.lst xs] G = match ints? xs with
    | some ns => .ok (.int ns.sum) G
    | none => .stuck := (rfl)
theorem st_allL : bltW .all [.lst xs] G = match bls? xs with
    | some ns => .ok (.bl (ns.all id)) G
    | none => .stuck := (rfl)
theorem st_anyL : bltW .any [.lst xs] G = match bls? xs with
    | some ns => .ok (.bl (ns.any id)) G
    | none => .stuck := (rfl)
theorem st_tupL : bltW .tuple [.lst xs] G = .ok (.tup xs) G := (rfl)
theorem st_tupT : bltW .tuple [.tup xs] G = .ok (.tup xs) G := (rfl)
theorem st_tupR (h : G[r]? = some (.lst xs)) : bltW .tuple [.ref r] G = .ok (.tup xs) G := by simp only [bltW, look, h]
theorem st_app (h : G[r]? = some (.lst xs)) : bmW .append (.ref r) [w] G = if decide (xs.length < 16777216) then .ok .non (G.set r (.lst (xs ++ [w]))) else .stuck := by simp only [bmW, h]
theorem st_joinL : bmW .join (.str a) [.lst xs] G = match strs? xs with
    | some ns => if szOk ((ns.map List.length).sum + ns.length * a.length) then .ok (.str (joinS a ns)) G else .stuck
    | none => .stuck := (rfl)
theorem st_joinR (h : G[r]? = some (.lst xs)) : bmW .join (.str a) [.ref r] G = match strs? xs with
    | some ns => if szOk ((ns.map List.length).sum + ns.length * a.length) then .ok (.str (joinS a ns)) G else .stuck
    | none => .stuck := by
  simp only [bmW, getL, h, Option.bind]
  try (cases strs? xs <;> rfl)
theorem st_rcvj : rcv .join (.str a) G = true := (rfl)
theorem st_rcva (h : G[r]? = some (.lst xs)) : rcv .append (.ref r) G = true := by simp only [rcv, h]
theorem st_setR (h : G[r]? = some (.lst xs)) : setW (.ref r) (.int k) w G = if 0 ≤ k then (if k.toNat < xs.length then .ok () (G.set r (.lst (xs.set k.toNat w))) else .stuck) else if -(xs.length : Int) ≤ k then .ok () (G.set r (.lst (xs.set (k + xs.length).toNat w))) else .stuck := by simp only [setW, h]
theorem st_sh {cl : Nat → List W → List O → Res W} {k : Nat} : callW cl .shared k ws G = cl k ws G := (rfl)
/-! whatever stands there -/
theorem st_idxr : idxW (.ref r) (.int i) G = match G[r]? with
    | some (.lst xs) => (match atW xs i with
      | some w => .ok w G
      | none => .stuck)
    | _ => .stuck := by
  cases h : G[r]? with
  | none => simp [idxW, look, h]
  | some o =>
    cases o with
    | lst ws => exact st_idxR h
    | dct kvs => simp [idxW, look, h, keyOk]
theorem st_lenr : bltW .len [.ref r] G = match G[r]? with
    | some (.lst xs) => .ok (.int xs.length) G
    | _ => .stuck := by
  cases h : G[r]? with
  | none => simp [bltW, look, h]
  | some o =>
    cases o with
    | lst ws => exact st_lenR h
    | dct kvs => simp [bltW, look, h]
theorem st_tupr : bltW .tuple [.ref r] G = match G[r]? with
    | some (.lst xs) => .ok (.tup xs) G
    | _ => .stuck := by
  cases h : G[r]? with
  | none => simp [bltW, look, h]
  | some o =>
    cases o with
    | lst ws => exact st_tupR h
    | dct kvs => simp [bltW, look, h]
theorem st_appr : bmW .append (.ref r) [w] G = match G[r]? with
    | some (.lst xs) => if decide (xs.length < 16777216) then .ok .non (G.set r (.lst (xs ++ [w]))) else .stuck
    | _ => .stuck := by
  cases h : G[r]? with
  | none => simp [bmW, h]
  | some o =>
    cases o with
    | lst ws => exact st_app h
    | dct kvs => simp [bmW, h]
theorem st_rcvr : rcv .append (.ref r) G = match G[r]? with
    | some (.lst _) => true
    | _ => false := (rfl)
theorem st_joinr : bmW .join (.str a) [.ref r] G = match G[r]? with
    | some (.lst xs) => (match strs? xs with
      | some ns => if szOk ((ns.map List.length).sum + ns.length * a.length) then .ok (.str (joinS a ns)) G else .stuck
      | none => .stuck)
    | _ => .stuck := by
  cases h : G[r]? with
  | none => simp [bmW, getL, h, Option.bind]
  | some o =>
    cases o with
    | lst ws => exact st_joinR h
    | dct kvs => simp [bmW, getL, h, Option.bind]
theorem st_setr : setW (.ref r) (.int k) w G = match G[r]? with
    | some (.lst xs) => if 0 ≤ k then (if k.toNat < xs.length then .ok () (G.set r (.lst (xs.set k.toNat w))) else .stuck) else if -(xs.length : Int) ≤ k then .ok () (G.set r (.lst (xs.set (k + xs.length).toNat w))) else .stuck
    | _ => .stuck := by
  cases h : G[r]? with
  | none => simp [setW, h]
  | some o =>
    cases o with
    | lst ws => exact st_setR h
    | dct kvs => simp [setW, h, keyOk]
theorem mulOk_r (h : j.natAbs < 18446744073709551616) : mulOk i j = true := by simp only [mulOk, decide_eq_true h, Bool.or_true]
theorem mulOk_l (h : i.natAbs < 18446744073709551616) : mulOk i j = true := by simp only [mulOk, decide_eq_true h, Bool.true_or]
theorem fm_lt {x : Int} (h : 0 < j) : 0 ≤ x.fmod j ∧ x.fmod j < j := ⟨Int.fmod_nonneg_of_pos _ h, Int.fmod_lt_of_pos _ h⟩
theorem mulOk_fm {x : Int} : mulOk (x.fmod 2147483647) k = true := mulOk_l (by
  have := fm_lt (x := x) (j := 2147483647) (by decide)
  omega)
theorem divOk_lit (h : j ≠ 0) (h2 : j.natAbs < 1073741824) : divOk j = true := by simp [divOk, h, h2]
theorem small_nat (n : Nat) (h : n ≤ 1000000) : small (n : Int) = true := by
  have h1 : (n : Int).natAbs < 4611686018427387904 := by omega
  simp only [small, decide_eq_true h1]
theorem small_m1 : small (-1) = true := by decide
theorem small_0 : small 0 = true := by decide
end
end T2
end

section
set_option linter.all false
set_option autoImplicit false
set_option maxRecDepth 100000
set_option maxHeartbeats 2000000
/-! T2: comprehensions with a test, membership in tuples, min and max of lists. -/
namespace T2
/-- a comprehension with a test, where nothing on the heap changes -/
theorem lcL_ty {α : Type} {asg : W → List O → Res Sl} {cd : Sl → List O → Res Bool} {e : Sl → List O → Res W} {s : Seq} {G : List O} (hok : s.ok G = true) (c : α → W) (p : α → Bool) (f : α → W) : ∀ (l : List α) (acc : List W), acc.length + l.length ≤ 16777216 →
    (∀ x ∈ l, ∃ sw, asg (c x) G = .ok sw G ∧ cd sw G = .ok (p x) G ∧ (p x = true → e sw G = .ok (f x) G)) → lcL asg cd e s (l.map c) acc G = .ok (acc ++ (l.filter p).map f) G
  | [], acc, _, _ => by simp [lcL, hok]
  | x :: l, acc, hl, h => by
    obtain ⟨sw, e1, e2, e3⟩ := h x List.mem_cons_self
    have hl' : acc.length + 1 ≤ 16777216 := by simp only [List.length_cons] at hl; omega
    cases hp : p x with
    | true =>
      have ih := lcL_ty hok c p f l (acc ++ [f x]) (by simp only [List.length_append, List.length_cons, List.length_nil] at hl ⊢; omega) fun y hy => h y (List.mem_cons_of_mem _ hy)
      rw [hp] at e2
      simp only [List.map_cons, lcL, hok, szOk, Bool.true_and, hl', decide_true, if_true, e1, e2, e3 hp, noX_ok, bnd_ok, ih, List.append_assoc, List.filter_cons, hp, List.singleton_append]
    | false =>
      have ih := lcL_ty hok c p f l acc (by simp only [List.length_cons] at hl ⊢; omega) fun y hy => h y (List.mem_cons_of_mem _ hy)
      rw [hp] at e2
      simp only [List.map_cons, lcL, hok, szOk, Bool.true_and, hl', decide_true, if_true, e1, e2, noX_ok, bnd_ok, ih, List.filter_cons, hp]
      simp
section
variable {x : W} {ys : List W} {G : List O}
theorem st_niT (hx : x.pl = true) (hy : W.pls ys = true) (hd : min (W.deps ys) x.dep ≤ 100) : cmpW .notin x (.tup ys) G = .ok (.bl (!ys.any fun z => W.eq z x)) G := by
  have e := lookC_pl (G := G) hx
  have e2 : lookC (.tup ys) G = .tup ys := (rfl)
  unfold cmpW
  rw [e, e2]
  simp [hx, hy, hd]
theorem st_inT (hx : x.pl = true) (hy : W.pls ys = true) (hd : min (W.deps ys) x.dep ≤ 100) : cmpW .isin x (.tup ys) G = .ok (.bl (ys.any fun z => W.eq z x)) G := by
  have e := lookC_pl (G := G) hx
  have e2 : lookC (.tup ys) G = .tup ys := (rfl)
  unfold cmpW
  rw [e, e2]
  simp [hx, hy, hd]
end
/-- membership by a coding that parts -/
theorem any_eq {α : Type} [DecidableEq α] (c : α → W) (h : ∀ a b, W.eq (c a) (c b) = decide (a = b)) (x : α) : ∀ l : List α, ((l.map c).any fun z => W.eq z (c x)) = decide (x ∈ l)
  | [] => by simp
  | y :: l => by
    rw [List.map_cons, List.any_cons, any_eq c h x l, h]
    by_cases e : y = x
    · subst e
      simp
    · have : ¬ x = y := fun z => e z.symm
      simp [e, this]
theorem W.ltI (i j : Int) : W.lt (.int i) (.int j) = decide (i < j) := T2.ltI
theorem leastW_ints : ∀ (r : List Int) (m : Int), leastW (.int m) (r.map W.int) = .int (r.foldl (fun m j => if j < m then j else m) m)
  | [], m => rfl
  | j :: r, m => by
    have ih := leastW_ints r (if j < m then j else m)
    show leastW (if W.lt (.int j) (.int m) then .int j else .int m) (r.map W.int) = _
    rw [W.ltI]
    by_cases h : j < m
    · simp only [h, decide_true, if_true, List.foldl_cons] at ih ⊢
      exact ih
    · simp only [h, decide_false, if_false, List.foldl_cons] at ih ⊢
      exact ih
theorem mostW_ints : ∀ (r : List Int) (m : Int), mostW (.int m) (r.map W.int) = .int (r.foldl (fun m j => if m < j then j else m) m)
  | [], m => rfl
  | j :: r, m => by
    have ih := mostW_ints r (if m < j then j else m)
    show mostW (if W.lt (.int m) (.int j) then .int j else .int m) (r.map W.int) = _
    rw [W.ltI]
    by_cases h : m < j
    · simp only [h, decide_true, if_true, List.foldl_cons] at ih ⊢
      exact ih
    · simp only [h, decide_false, if_false, List.foldl_cons] at ih ⊢
      exact ih
theorem pls_ints : ∀ r : List Int, W.pls (r.map W.int) = true
  | [] => rfl
  | j :: r => by simp [W.pls, W.pl, pls_ints r]
theorem deps_ints : ∀ r : List Int, W.deps (r.map W.int) = 0
  | [] => rfl
  | j :: r => by simp [W.deps, W.dep, deps_ints r]
theorem al_ints : ∀ r : List Int, allAlike (r.map W.int) = true
  | [] => rfl
  | j :: r => by
    simp only [List.map_cons, allAlike, al_ints r, Bool.and_true, List.all_cons, alI, Bool.true_and, List.all_map, Function.comp_def, Bool.and_self]
    simp
theorem st_min1i (m : Int) (r : List Int) (G : List O) : bltW .min1 [.lst (.int m :: r.map W.int)] G = .ok (.int (r.foldl (fun m j => if j < m then j else m) m)) G := by
  have h1 := pls_ints (m :: r)
  have h2 := deps_ints (m :: r)
  have h3 := al_ints (m :: r)
  rw [List.map_cons] at h1 h2 h3
  simp only [bltW, getL, h1, h2, h3, leastW_ints]
  simp
theorem st_max1i (m : Int) (r : List Int) (G : List O) : bltW .max1 [.lst (.int m :: r.map W.int)] G = .ok (.int (r.foldl (fun m j => if m < j then j else m) m)) G := by
  have h1 := pls_ints (m :: r)
  have h2 := deps_ints (m :: r)
  have h3 := al_ints (m :: r)
  rw [List.map_cons] at h1 h2 h3
  simp only [bltW, getL, h1, h2, h3, mostW_ints]
  simp
section
variable {r : Nat} {xs ys : List W} {x w : W} {G : List O} {k : Int}
theorem st_extL (h : G[r]? = some (.lst xs)) (hz : xs.length + ys.length ≤ 16777216) : bmW .extend (.ref r) [.lst ys] G = .ok .non (G.set r (.lst (xs ++ ys))) := by simp only [bmW, h, getM, szOk, hz, decide_true, if_true]
theorem st_rcve (h : G[r]? = some (.lst xs)) : rcv .extend (.ref r) G = true := by simp only [rcv, h]
theorem st_rcvp (h : G[r]? = some (.lst xs)) : rcv .popAt (.ref r) G = true := by simp only [rcv, h]
theorem st_pop0 (h : G[r]? = some (.lst (x :: xs))) : bmW .popAt (.ref r) [.int 0] G = .ok x (G.set r (.lst xs)) := by
  simp [bmW, h]
theorem st_lisT {m : Bool} : bltW (.list m) [.tup xs] G = mkL m xs G := (rfl)
theorem st_seqR (h : G[r]? = some (.lst xs)) : seqOf (.ref r) G = .ok ⟨xs, some (r, xs)⟩ G := by simp only [seqOf, h]
end
end T2
end

section
set_option linter.all false
set_option autoImplicit false
set_option maxRecDepth 100000
/-! The code of the law's text, as gen.py read it. -/
namespace K64
open T2
/-- check_string : 0 text -/
def b0 : B := (.cons (.ife (.or (.not (.isi (.v 0) [.str])) (.cmp .gt (.blt .len (.cons (.v 0) .nil)) (.gk 0))) (.cons (.raise 0 (.cons (.k (.str [115, 105, 103, 110, 115])) .nil)) .nil) .nil) .nil)
def d0 : Df := ⟨1, 1, b0⟩
/-- changed : 0 text, 1 edit, 2 parts, 3 at, 4 place, 5 gone, 6 come -/
def b1_0 : B := (.cons (.exp (.bm .append (.v 2) (.cons (.slc false (.v 0) (.yes (.v 3)) (.yes (.v 4))) .nil))) (.cons (.exp (.bm .append (.v 2) (.cons (.v 6) .nil))) (.cons (.asg (.nm 3) (.bin .add (.v 4) (.blt .len (.cons (.v 5) .nil)))) .nil)))
def b1 : B := (.cons (.asg (.nm 2) (.lst true .nil)) (.cons (.asg (.nm 3) (.k (.int 0))) (.cons (.frr (.tp (.cons (.nm 4) (.cons (.nm 5) (.cons (.nm 6) .nil)))) (.seq (.v 1)) b1_0) (.cons (.exp (.bm .append (.v 2) (.cons (.slc false (.v 0) (.yes (.v 3)) .no) .nil))) (.cons (.ret (.bm .join (.k (.str [])) (.cons (.v 2) .nil))) .nil)))))
def d1 : Df := ⟨7, 2, b1⟩
/-- costs_from : 0 one, 1 other, 2 costs, 3 i, 4 j -/
def b2_0 : B := (.cons (.ife (.cmp .eq (.v 3) (.blt .len (.cons (.v 0) .nil))) (.cons (.asg (.sub (.idx (.v 2) (.v 3)) (.v 4)) (.bin .sub (.blt .len (.cons (.v 1) .nil)) (.v 4))) .nil) (.cons (.ife (.cmp .eq (.v 4) (.blt .len (.cons (.v 1) .nil))) (.cons (.asg (.sub (.idx (.v 2) (.v 3)) (.v 4)) (.bin .sub (.blt .len (.cons (.v 0) .nil)) (.v 3))) .nil) (.cons (.ife (.cmp .eq (.idx (.v 0) (.v 3)) (.idx (.v 1) (.v 4))) (.cons (.asg (.sub (.idx (.v 2) (.v 3)) (.v 4)) (.idx (.idx (.v 2) (.bin .add (.v 3) (.k (.int 1)))) (.bin .add (.v 4) (.k (.int 1))))) .nil) (.cons (.asg (.sub (.idx (.v 2) (.v 3)) (.v 4)) (.bin .add (.k (.int 1)) (.blt .min2 (.cons (.idx (.idx (.v 2) (.bin .add (.v 3) (.k (.int 1)))) (.v 4)) (.cons (.idx (.idx (.v 2) (.v 3)) (.bin .add (.v 4) (.k (.int 1)))) .nil))))) .nil)) .nil)) .nil)) .nil)
def b2_1 : B := (.cons (.frr (.nm 4) (.rng3 (.blt .len (.cons (.v 1) .nil)) (.neg (.k (.int 1))) (.neg (.k (.int 1)))) b2_0) .nil)
def e2_2 : E := .bin (.rep true) (.lst false (.cons (.k (.int 0)) .nil)) (.bin .add (.blt .len (.cons (.v 1) .nil)) (.k (.int 1)))
def b2 : B := (.cons (.asg (.nm 2) (.lc false [3] (.nm 3) (.rng1 (.bin .add (.blt .len (.cons (.v 0) .nil)) (.k (.int 1)))) .no (e2_2))) (.cons (.frr (.nm 3) (.rng3 (.blt .len (.cons (.v 0) .nil)) (.neg (.k (.int 1))) (.neg (.k (.int 1)))) b2_1) (.cons (.ret (.v 2)) .nil)))
def d2 : Df := ⟨5, 2, b2⟩
/-- least_edit : 0 one, 1 other, 2 costs, 3 found, 4 begin, 5 i, 6 j -/
def b3_0t : E := .or (.cmp .lt (.v 5) (.blt .len (.cons (.v 0) .nil))) (.cmp .lt (.v 6) (.blt .len (.cons (.v 1) .nil)))
def b3_0 : B := (.cons (.ife (.and (.cmp .lt (.v 5) (.blt .len (.cons (.v 0) .nil))) (.and (.cmp .lt (.v 6) (.blt .len (.cons (.v 1) .nil))) (.cmp .eq (.idx (.v 0) (.v 5)) (.idx (.v 1) (.v 6))))) (.cons (.ife (.isk true .non (.v 4)) (.cons (.exp (.bm .append (.v 3) (.cons (.tup (.cons (.idx (.v 4) (.k (.int 0))) (.cons (.slc false (.v 0) (.yes (.idx (.v 4) (.k (.int 0)))) (.yes (.v 5))) (.cons (.slc false (.v 1) (.yes (.idx (.v 4) (.k (.int 1)))) (.yes (.v 6))) .nil)))) .nil))) (.cons (.asg (.nm 4) (.k .non)) .nil)) .nil) (.cons (.aug 5 .addI (.k (.int 1))) (.cons (.aug 6 .addI (.k (.int 1))) .nil))) (.cons (.ife (.isk false .non (.v 4)) (.cons (.asg (.nm 4) (.tup (.cons (.v 5) (.cons (.v 6) .nil)))) .nil) .nil) (.cons (.ife (.and (.cmp .lt (.v 5) (.blt .len (.cons (.v 0) .nil))) (.cmp .eq (.idx (.idx (.v 2) (.v 5)) (.v 6)) (.bin .add (.k (.int 1)) (.idx (.idx (.v 2) (.bin .add (.v 5) (.k (.int 1)))) (.v 6))))) (.cons (.aug 5 .addI (.k (.int 1))) .nil) (.cons (.aug 6 .addI (.k (.int 1))) .nil)) .nil))) .nil)
def b3 : B := (.cons (.asg (.nm 2) (.call .iso 2 (.cons (.v 0) (.cons (.v 1) .nil)))) (.cons (.asg (.nm 3) (.lst true .nil)) (.cons (.asg (.nm 4) (.k .non)) (.cons (.asg (.tp (.cons (.nm 5) (.cons (.nm 6) .nil))) (.tup (.cons (.k (.int 0)) (.cons (.k (.int 0)) .nil)))) (.cons (.whl b3_0t b3_0) (.cons (.ife (.isk true .non (.v 4)) (.cons (.exp (.bm .append (.v 3) (.cons (.tup (.cons (.idx (.v 4) (.k (.int 0))) (.cons (.slc false (.v 0) (.yes (.idx (.v 4) (.k (.int 0)))) .no) (.cons (.slc false (.v 1) (.yes (.idx (.v 4) (.k (.int 1)))) .no) .nil)))) .nil))) .nil) .nil) (.cons (.ret (.blt .tuple (.cons (.v 3) .nil))) .nil)))))))
def d3 : Df := ⟨7, 2, b3⟩
/-- edit_between : 0 one, 1 other -/
def b4 : B := (.cons (.exp (.call .iso 0 (.cons (.v 0) .nil))) (.cons (.exp (.call .iso 0 (.cons (.v 1) .nil))) (.cons (.ret (.call .iso 3 (.cons (.v 0) (.cons (.v 1) .nil)))) .nil)))
def d4 : Df := ⟨2, 2, b4⟩
/-- touch : 0 one, 1 other -/
def b5 : B := (.cons (.ret (.and (.cmp .le (.idx (.v 0) (.k (.int 0))) (.bin .add (.idx (.v 1) (.k (.int 0))) (.blt .len (.cons (.idx (.v 1) (.k (.int 1))) .nil)))) (.cmp .le (.idx (.v 1) (.k (.int 0))) (.bin .add (.idx (.v 0) (.k (.int 0))) (.blt .len (.cons (.idx (.v 0) (.k (.int 1))) .nil)))))) .nil)
def d5 : Df := ⟨2, 2, b5⟩
/-- groups_of : 0 edit, 1 edit2, 2 left, 3 found, 4 group, 5 at, 6 side, 7 change, 8 more, 9 one -/
def e6_0 : E := .v 4
def e6_1 : E := .v 9
def e6_2 : E := .v 9
def b6_3t : E := .cmp .lt (.v 5) (.blt .len (.cons (.v 4) .nil))
def b6_3 : B := (.cons (.asg (.tp (.cons (.nm 6) (.cons (.nm 7) .nil))) (.idx (.v 4) (.v 5))) (.cons (.asg (.nm 8) (.lc false [9] (.nm 9) (.seq (.v 2)) (.yes (.and (.cmp .ne (.idx (.v 9) (.k (.int 0))) (.v 6)) (.call .iso 5 (.cons (.idx (.v 9) (.k (.int 1))) (.cons (.v 7) .nil))))) (e6_2))) (.cons (.asg (.nm 2) (.lc true [9] (.nm 9) (.seq (.v 2)) (.yes (.cmp .notin (.v 9) (.v 8))) (e6_1))) (.cons (.exp (.bm .extend (.v 4) (.cons (.v 8) .nil))) (.cons (.aug 5 .addI (.k (.int 1))) .nil)))))
def b6_4t : E := .cmp .gt (.blt .len (.cons (.v 2) .nil)) (.k (.int 0))
def b6_4 : B := (.cons (.asg (.nm 4) (.lst true (.cons (.bm .popAt (.v 2) (.cons (.k (.int 0)) .nil)) .nil))) (.cons (.asg (.nm 5) (.k (.int 0))) (.cons (.whl b6_3t b6_3) (.cons (.exp (.bm .append (.v 3) (.cons (.v 4) .nil))) .nil))))
def e6_5 : E := .tup (.cons (.k (.int 1)) (.cons (.v 7) .nil))
def e6_6 : E := .tup (.cons (.k (.int 0)) (.cons (.v 7) .nil))
def b6 : B := (.cons (.asg (.nm 2) (.lc true [7] (.nm 7) (.seq (.v 0)) (.yes (.cmp .notin (.v 7) (.v 1))) (e6_6))) (.cons (.exp (.bm .extend (.v 2) (.cons (.lc false [7] (.nm 7) (.seq (.v 1)) (.yes (.cmp .notin (.v 7) (.v 0))) (e6_5)) .nil))) (.cons (.asg (.nm 3) (.lst true .nil)) (.cons (.whl b6_4t b6_4) (.cons (.ret (.lc false [4] (.nm 4) (.seq (.v 3)) (.yes (.cmp .gt (.blt .len (.cons (.v 4) .nil)) (.k (.int 1)))) (e6_0))) .nil)))))
def d6 : Df := ⟨10, 2, b6⟩
/-- region_of : 0 base, 1 group, 2 begin, 3 end, 4 texts, 5 side, 6 own, 7 moved, 8 _, 9 change, 10 one, 11 place, 12 gone, 13 come -/
def e7_0 : E := .tup (.cons (.bin .sub (.v 11) (.v 2)) (.cons (.v 12) (.cons (.v 13) .nil)))
def e7_1 : E := .v 9
def b7_2 : B := (.cons (.asg (.nm 6) (.blt (.sorted false) (.cons (.lc false [10, 9] (.tp (.cons (.nm 10) (.cons (.nm 9) .nil))) (.seq (.v 1)) (.yes (.cmp .eq (.v 10) (.v 5))) (e7_1)) .nil))) (.cons (.asg (.nm 7) (.blt .tuple (.cons (.lc false [11, 12, 13] (.tp (.cons (.nm 11) (.cons (.nm 12) (.cons (.nm 13) .nil)))) (.seq (.v 6)) .no (e7_0)) .nil))) (.cons (.exp (.bm .append (.v 4) (.cons (.call .iso 1 (.cons (.slc false (.v 0) (.yes (.v 2)) (.yes (.v 3))) (.cons (.v 7) .nil))) .nil))) .nil)))
def e7_3 : E := .bin .add (.idx (.v 9) (.k (.int 0))) (.blt .len (.cons (.idx (.v 9) (.k (.int 1))) .nil))
def e7_4 : E := .idx (.v 9) (.k (.int 0))
def b7 : B := (.cons (.asg (.nm 2) (.blt .min1 (.cons (.lc false [8, 9] (.tp (.cons (.nm 8) (.cons (.nm 9) .nil))) (.seq (.v 1)) .no (e7_4)) .nil))) (.cons (.asg (.nm 3) (.blt .max1 (.cons (.lc false [8, 9] (.tp (.cons (.nm 8) (.cons (.nm 9) .nil))) (.seq (.v 1)) .no (e7_3)) .nil))) (.cons (.asg (.nm 4) (.lst true .nil)) (.cons (.frr (.nm 5) (.seq (.tup (.cons (.k (.int 0)) (.cons (.k (.int 1)) .nil)))) b7_2) (.cons (.ret (.tup (.cons (.v 2) (.cons (.slc false (.v 0) (.yes (.v 2)) (.yes (.v 3))) (.cons (.idx (.v 4) (.k (.int 0))) (.cons (.idx (.v 4) (.k (.int 1))) .nil)))))) .nil)))))
def d7 : Df := ⟨14, 2, b7⟩
/-- merge_texts : 0 base, 1 one, 2 other, 3 edit, 4 edit2, 5 groups, 6 whole, 7 group, 8 change -/
def e8_0 : E := .v 8
def e8_1 : E := .call .iso 7 (.cons (.v 0) (.cons (.v 7) .nil))
def b8 : B := (.cons (.exp (.call .iso 0 (.cons (.v 0) .nil))) (.cons (.exp (.call .iso 0 (.cons (.v 1) .nil))) (.cons (.exp (.call .iso 0 (.cons (.v 2) .nil))) (.cons (.asg (.nm 3) (.call .iso 3 (.cons (.v 0) (.cons (.v 1) .nil)))) (.cons (.asg (.nm 4) (.call .iso 3 (.cons (.v 0) (.cons (.v 2) .nil)))) (.cons (.asg (.nm 5) (.call .iso 6 (.cons (.v 3) (.cons (.v 4) .nil)))) (.cons (.ife (.cmp .gt (.blt .len (.cons (.v 5) .nil)) (.k (.int 0))) (.cons (.ret (.tup (.cons (.k (.str [99, 111, 110, 102, 108, 105, 99, 116, 115])) (.cons (.blt .tuple (.cons (.blt (.sorted false) (.cons (.lc false [7] (.nm 7) (.seq (.v 5)) .no (e8_1)) .nil)) .nil)) .nil)))) .nil) .nil) (.cons (.asg (.nm 6) (.blt (.sorted false) (.cons (.bin (.cat false) (.blt (.list false) (.cons (.v 3) .nil)) (.lc false [8] (.nm 8) (.seq (.v 4)) (.yes (.cmp .notin (.v 8) (.v 3))) (e8_0))) .nil))) (.cons (.ret (.tup (.cons (.k (.str [109, 101, 114, 103, 101, 100])) (.cons (.call .iso 1 (.cons (.v 0) (.cons (.v 6) .nil))) .nil)))) .nil)))))))))
def d8 : Df := ⟨9, 3, b8⟩
/-- _law_bag : 0 script, 1 k, 2 cell -/
def b9 : B := (.cons (.asg (.nm 2) (.k (.int 0))) (.cons (.ife (.cmp .lt (.v 1) (.blt .len (.cons (.v 0) .nil))) (.cons (.asg (.nm 2) (.blt .int (.cons (.idx (.v 0) (.v 1)) .nil))) .nil) .nil) (.cons (.ife (.cmp .ge (.v 2) (.bin .pow (.k (.int 10)) (.k (.int 18)))) (.cons (.ret (.lst true (.cons (.v 2) (.cons (.v 2) (.cons (.v 1) .nil))))) .nil) .nil) (.cons (.ret (.lst true (.cons (.k (.int 0)) (.cons (.v 2) (.cons (.v 1) .nil))))) .nil))))
def d9 : Df := ⟨3, 2, b9⟩
/-- _law_draw : 0 bag, 1 many, 2 seed, 3 rest -/
def b10 : B := (.cons (.ife (.cmp .eq (.idx (.v 0) (.k (.int 0))) (.k (.int 0))) (.cons (.asg (.nm 2) (.bin .mod (.blt .int (.cons (.bin .add (.bin .add (.bin .mul (.idx (.v 0) (.k (.int 1))) (.k (.int 48271))) (.bin .mul (.idx (.v 0) (.k (.int 2))) (.k (.int 69621)))) (.k (.int 11))) .nil)) (.k (.int 2147483647)))) (.cons (.asg (.sub (.v 0) (.k (.int 0))) (.bin .add (.bin .mul (.v 2) (.k (.int 2147483629))) (.bin .mod (.blt .int (.cons (.bin .add (.bin .mul (.v 2) (.v 2)) (.bin .mul (.idx (.v 0) (.k (.int 2))) (.k (.int 16807)))) .nil)) (.k (.int 2147483629))))) (.cons (.asg (.sub (.v 0) (.k (.int 1))) (.v 2)) .nil))) .nil) (.cons (.asg (.nm 3) (.idx (.v 0) (.k (.int 0)))) (.cons (.asg (.sub (.v 0) (.k (.int 0))) (.bin .fdiv (.v 3) (.v 1))) (.cons (.ret (.bin .mod (.blt .int (.cons (.v 3) .nil)) (.v 1))) .nil))))
def d10 : Df := ⟨4, 2, b10⟩
/-- _law_one : 0 bag, 1 some -/
def b11 : B := (.cons (.ret (.idx (.v 1) (.call .shared 10 (.cons (.v 0) (.cons (.blt .len (.cons (.v 1) .nil)) .nil))))) .nil)
def d11 : Df := ⟨2, 2, b11⟩
/-- _law_word : 0 bag, 1 most, 2 k -/
def e12_0 : E := .call .shared 11 (.cons (.v 0) (.cons (.k (.str [97, 98, 99])) .nil))
def b12 : B := (.cons (.ret (.bm .join (.k (.str [])) (.cons (.lc false [2] (.nm 2) (.rng1 (.call .shared 10 (.cons (.v 0) (.cons (.v 1) .nil)))) .no (e12_0)) .nil))) .nil)
def d12 : Df := ⟨3, 2, b12⟩
/-- _law_copy : 0 bag, 1 base, 2 turn, 3 at -/
def b13_0 : B := (.cons (.asg (.nm 3) (.call .shared 10 (.cons (.v 0) (.cons (.bin .add (.blt .len (.cons (.v 1) .nil)) (.k (.int 1))) .nil)))) (.cons (.asg (.nm 1) (.bin .add (.bin .add (.slc false (.v 1) .no (.yes (.v 3))) (.call .shared 12 (.cons (.v 0) (.cons (.k (.int 3)) .nil)))) (.slc false (.v 1) (.yes (.bin .add (.v 3) (.call .shared 10 (.cons (.v 0) (.cons (.k (.int 3)) .nil))))) .no))) .nil))
def b13 : B := (.cons (.frr (.nm 2) (.rng1 (.call .shared 10 (.cons (.v 0) (.cons (.k (.int 3)) .nil)))) b13_0) (.cons (.ret (.v 1)) .nil))
def d13 : Df := ⟨4, 2, b13⟩
/-- _law_done : 0 base, 1 changes, 2 place, 3 gone, 4 come -/
def b14_0 : B := (.cons (.asg (.nm 0) (.bin .add (.bin .add (.slc false (.v 0) .no (.yes (.v 2))) (.v 4)) (.slc false (.v 0) (.yes (.bin .add (.v 2) (.blt .len (.cons (.v 3) .nil)))) .no))) .nil)
def b14 : B := (.cons (.frr (.tp (.cons (.nm 2) (.cons (.nm 3) (.cons (.nm 4) .nil)))) (.seq (.rev false (.blt (.sorted false) (.cons (.v 1) .nil)))) b14_0) (.cons (.ret (.v 0)) .nil))
def d14 : Df := ⟨5, 2, b14⟩
/-- _law_touch : 0 one, 1 other, 2 x -/
def e15_0 : E := .v 2
def b15 : B := (.cons (.ret (.and (.cmp .ne (.v 0) (.v 1)) (.cmp .ne (.lc false [2] (.nm 2) (.rng2 (.idx (.v 0) (.k (.int 0))) (.bin .add (.bin .add (.idx (.v 0) (.k (.int 0))) (.blt .len (.cons (.idx (.v 0) (.k (.int 1))) .nil))) (.k (.int 1)))) (.yes (.and (.cmp .le (.idx (.v 1) (.k (.int 0))) (.v 2)) (.cmp .le (.v 2) (.bin .add (.idx (.v 1) (.k (.int 0))) (.blt .len (.cons (.idx (.v 1) (.k (.int 1))) .nil)))))) (e15_0)) (.lst false .nil)))) .nil)
def d15 : Df := ⟨3, 2, b15⟩
/-- _law_merge : 0 base, 1 one, 2 other, 3 edit, 4 edit2, 5 first, 6 second, 7 marks, 8 is_new, 9 i, 10 j, 11 k, 12 low, 13 high, 14 rows, 15 mark, 16 ones, 17 others, 18 begin, 19 end, 20 texts, 21 changes, 22 change, 23 place, 24 gone, 25 come -/
def e16_0 : E := .tup (.cons (.v 15) (.cons (.k (.int 1)) .nil))
def e16_1 : E := .tup (.cons (.bin .sub (.v 23) (.v 18)) (.cons (.v 24) (.cons (.v 25) .nil)))
def b16_2 : B := (.cons (.exp (.bm .append (.v 20) (.cons (.call .iso 14 (.cons (.slc false (.v 0) (.yes (.v 18)) (.yes (.v 19))) (.cons (.lc false [23, 24, 25] (.tp (.cons (.nm 23) (.cons (.nm 24) (.cons (.nm 25) .nil)))) (.seq (.v 21)) .no (e16_1)) .nil))) .nil))) .nil)
def e16_3 : E := .bin .add (.idx (.v 22) (.k (.int 0))) (.blt .len (.cons (.idx (.v 22) (.k (.int 1))) .nil))
def e16_4 : E := .idx (.v 22) (.k (.int 0))
def e16_5 : E := .idx (.v 6) (.v 10)
def e16_6 : E := .idx (.v 5) (.v 9)
def b16_7 : B := (.cons (.asg (.nm 16) (.lc false [9] (.nm 9) (.rng1 (.blt .len (.cons (.v 5) .nil))) (.yes (.cmp .eq (.idx (.v 7) (.v 9)) (.v 15))) (e16_6))) (.cons (.asg (.nm 17) (.lc false [10] (.nm 10) (.rng1 (.blt .len (.cons (.v 6) .nil))) (.yes (.cmp .eq (.idx (.v 7) (.bin .add (.blt .len (.cons (.v 5) .nil)) (.v 10))) (.v 15))) (e16_5))) (.cons (.asg (.nm 18) (.blt .min1 (.cons (.lc false [22] (.nm 22) (.seq (.bin (.cat false) (.v 16) (.v 17))) .no (e16_4)) .nil))) (.cons (.asg (.nm 19) (.blt .max1 (.cons (.lc false [22] (.nm 22) (.seq (.bin (.cat false) (.v 16) (.v 17))) .no (e16_3)) .nil))) (.cons (.asg (.nm 20) (.lst true .nil)) (.cons (.frr (.nm 21) (.seq (.lst false (.cons (.v 16) (.cons (.v 17) .nil)))) b16_2) (.cons (.exp (.bm .append (.v 14) (.cons (.tup (.cons (.v 18) (.cons (.slc false (.v 0) (.yes (.v 18)) (.yes (.v 19))) (.cons (.idx (.v 20) (.k (.int 0))) (.cons (.idx (.v 20) (.k (.int 1))) .nil))))) .nil))) .nil)))))))
def e16_8 : E := .ife (.cmp .eq (.v 15) (.v 13)) (.v 12) (.v 15)
def b16_9 : B := (.cons (.asg (.nm 11) (.bin .add (.blt .len (.cons (.v 5) .nil)) (.v 10))) (.cons (.ife (.and (.call .iso 15 (.cons (.idx (.v 5) (.v 9)) (.cons (.idx (.v 6) (.v 10)) .nil))) (.cmp .ne (.idx (.v 7) (.v 9)) (.idx (.v 7) (.v 11)))) (.cons (.asg (.nm 12) (.blt .min2 (.cons (.idx (.v 7) (.v 9)) (.cons (.idx (.v 7) (.v 11)) .nil)))) (.cons (.asg (.nm 13) (.blt .max2 (.cons (.idx (.v 7) (.v 9)) (.cons (.idx (.v 7) (.v 11)) .nil)))) (.cons (.asg (.nm 7) (.lc false [15] (.nm 15) (.seq (.v 7)) .no (e16_8))) (.cons (.asg (.nm 8) (.k (.bl true))) .nil)))) .nil) .nil))
def b16_10 : B := (.cons (.frr (.nm 10) (.rng1 (.blt .len (.cons (.v 6) .nil))) b16_9) .nil)
def b16_11t : E := .v 8
def b16_11 : B := (.cons (.asg (.nm 8) (.k (.bl false))) (.cons (.frr (.nm 9) (.rng1 (.blt .len (.cons (.v 5) .nil))) b16_10) .nil))
def e16_12 : E := .v 22
def e16_13 : E := .v 22
def b16 : B := (.cons (.asg (.nm 3) (.call .iso 4 (.cons (.v 0) (.cons (.v 1) .nil)))) (.cons (.asg (.nm 4) (.call .iso 4 (.cons (.v 0) (.cons (.v 2) .nil)))) (.cons (.asg (.nm 5) (.lc false [22] (.nm 22) (.seq (.v 3)) (.yes (.cmp .notin (.v 22) (.v 4))) (e16_13))) (.cons (.asg (.nm 6) (.lc false [22] (.nm 22) (.seq (.v 4)) (.yes (.cmp .notin (.v 22) (.v 3))) (e16_12))) (.cons (.asg (.nm 7) (.lrg false (.bin .add (.blt .len (.cons (.v 5) .nil)) (.blt .len (.cons (.v 6) .nil))))) (.cons (.asg (.nm 8) (.k (.bl true))) (.cons (.whl b16_11t b16_11) (.cons (.asg (.nm 14) (.lst true .nil)) (.cons (.frr (.nm 15) (.seq (.srtd false (.lc false [15] (.nm 15) (.seq (.v 7)) (.yes (.cmp .gt (.bm .count (.v 7) (.cons (.v 15) .nil)) (.k (.int 1)))) (e16_0)))) b16_7) (.cons (.ife (.cmp .ne (.v 14) (.lst false .nil)) (.cons (.ret (.tup (.cons (.k (.str [99, 111, 110, 102, 108, 105, 99, 116, 115])) (.cons (.blt .tuple (.cons (.blt (.sorted false) (.cons (.v 14) .nil)) .nil)) .nil)))) .nil) .nil) (.cons (.ret (.tup (.cons (.k (.str [109, 101, 114, 103, 101, 100])) (.cons (.call .iso 14 (.cons (.v 0) (.cons (.bin (.cat false) (.blt (.list false) (.cons (.v 3) .nil)) (.v 6)) .nil))) .nil)))) .nil)))))))))))
def d16 : Df := ⟨26, 3, b16⟩
/-- _law_told : 0 base, 1 one, 2 other -/
def b17 : B := (.cons (.tri (.cons (.ret (.call .iso 8 (.cons (.v 0) (.cons (.v 1) (.cons (.v 2) .nil))))) .nil) ((0, .retk (.str [105, 110])) :: [])) .nil)
def d17 : Df := ⟨3, 3, b17⟩
/-- _law_case : 0 bag, 1 base, 2 one, 3 other, 4 due, 5 place, 6 gone, 7 come, 8 come2 -/
def e18_0 : E := .tup (.cons (.v 5) (.cons (.v 6) (.cons (.v 8) (.cons (.v 7) .nil))))
def b18 : B := (.cons (.asg (.nm 1) (.call .shared 12 (.cons (.v 0) (.cons (.k (.int 12)) .nil)))) (.cons (.asg (.nm 2) (.call .shared 13 (.cons (.v 0) (.cons (.v 1) .nil)))) (.cons (.asg (.nm 3) (.ife (.cmp .gt (.call .shared 10 (.cons (.v 0) (.cons (.k (.int 5)) .nil))) (.k (.int 0))) (.call .shared 13 (.cons (.v 0) (.cons (.v 1) .nil))) (.call .shared 12 (.cons (.v 0) (.cons (.k (.int 12)) .nil))))) (.cons (.asg (.nm 4) (.call .iso 16 (.cons (.v 1) (.cons (.v 2) (.cons (.v 3) .nil))))) (.cons (.ife (.cmp .ne (.call .iso 8 (.cons (.v 1) (.cons (.v 2) (.cons (.v 3) .nil)))) (.v 4)) (.cons (.ret (.k (.bl false))) .nil) .nil) (.cons (.ife (.cmp .eq (.idx (.v 4) (.k (.int 0))) (.k (.str [99, 111, 110, 102, 108, 105, 99, 116, 115]))) (.cons (.asg (.nm 4) (.tup (.cons (.k (.str [99, 111, 110, 102, 108, 105, 99, 116, 115])) (.cons (.blt .tuple (.cons (.blt (.sorted false) (.cons (.lc false [5, 6, 7, 8] (.tp (.cons (.nm 5) (.cons (.nm 6) (.cons (.nm 7) (.cons (.nm 8) .nil))))) (.seq (.idx (.v 4) (.k (.int 1)))) .no (e18_0)) .nil)) .nil)) .nil)))) .nil) .nil) (.cons (.ife (.or (.cmp .ne (.call .iso 8 (.cons (.v 1) (.cons (.v 3) (.cons (.v 2) .nil)))) (.v 4)) (.or (.cmp .ne (.call .iso 8 (.cons (.v 1) (.cons (.v 1) (.cons (.v 3) .nil)))) (.tup (.cons (.k (.str [109, 101, 114, 103, 101, 100])) (.cons (.v 3) .nil)))) (.cmp .ne (.call .iso 8 (.cons (.v 1) (.cons (.v 2) (.cons (.v 2) .nil)))) (.tup (.cons (.k (.str [109, 101, 114, 103, 101, 100])) (.cons (.v 2) .nil)))))) (.cons (.ret (.k (.bl false))) .nil) .nil) (.cons (.ret (.cmp .eq (.lst false (.cons (.call .iso 17 (.cons (.v 1) (.cons (.v 2) (.cons (.k .non) .nil)))) (.cons (.call .iso 17 (.cons (.k (.int 5)) (.cons (.v 2) (.cons (.v 3) .nil)))) (.cons (.call .iso 17 (.cons (.v 1) (.cons (.bin (.rep false) (.k (.str [97])) (.k (.int 401))) (.cons (.v 3) .nil)))) .nil)))) (.bin (.rep false) (.lst false (.cons (.k (.str [105, 110])) .nil)) (.k (.int 3))))) .nil))))))))
def d18 : Df := ⟨9, 1, b18⟩
/-- law : 0 script, 1 k -/
def b19_0 : B := (.cons (.ife (.not (.call .shared 18 (.cons (.call .shared 9 (.cons (.v 0) (.cons (.v 1) .nil))) .nil))) (.cons (.ret (.k (.bl false))) .nil) .nil) .nil)
def b19 : B := (.cons (.ife (.or (.cmp .ne (.call .iso 8 (.cons (.k (.str [97, 98, 99])) (.cons (.k (.str [120, 97, 98, 99])) (.cons (.k (.str [97, 98, 99, 121])) .nil)))) (.tup (.cons (.k (.str [109, 101, 114, 103, 101, 100])) (.cons (.k (.str [120, 97, 98, 99, 121])) .nil)))) (.cmp .ne (.call .iso 8 (.cons (.k (.str [97, 98, 99])) (.cons (.k (.str [97, 120, 99])) (.cons (.k (.str [97, 121, 99])) .nil)))) (.tup (.cons (.k (.str [99, 111, 110, 102, 108, 105, 99, 116, 115])) (.cons (.tup (.cons (.tup (.cons (.k (.int 1)) (.cons (.k (.str [98])) (.cons (.k (.str [120])) (.cons (.k (.str [121])) .nil))))) .nil)) .nil))))) (.cons (.ret (.k (.bl false))) .nil) .nil) (.cons (.ife (.or (.cmp .ne (.idx (.call .iso 8 (.cons (.k (.str [97, 98, 99])) (.cons (.k (.str [97, 99])) (.cons (.k (.str [97, 98, 120, 99])) .nil)))) (.k (.int 0))) (.k (.str [99, 111, 110, 102, 108, 105, 99, 116, 115]))) (.cmp .ne (.call .iso 8 (.cons (.k (.str [97, 98, 99])) (.cons (.k (.str [120, 97, 98, 99])) (.cons (.k (.str [120, 97, 98])) .nil)))) (.tup (.cons (.k (.str [109, 101, 114, 103, 101, 100])) (.cons (.k (.str [120, 97, 98])) .nil))))) (.cons (.ret (.k (.bl false))) .nil) .nil) (.cons (.frr (.nm 1) (.rng1 (.blt .min2 (.cons (.blt .max2 (.cons (.blt .len (.cons (.v 0) .nil)) (.cons (.k (.int 1)) .nil))) (.cons (.k (.int 8)) .nil)))) b19_0) (.cons (.ret (.k (.bl true))) .nil))))
def d19 : Df := ⟨2, 1, b19⟩
def TB : List Df := [d0, d1, d2, d3, d4, d5, d6, d7, d8, d9, d10, d11, d12, d13, d14, d15, d16, d17, d18, d19]
def tb (k : Nat) : Option Df := TB[k]?
def CK : List W := [.int 400]
def gk (k : Nat) : W := CK.getD k .non
def wf : Nat := 1000000
def cl (n : Nat) : Nat → List W → List O → Res W := calls tb gk wf n
theorem c0 (n : Nat) (ws : List W) (G : List O) : cl (n + 1) 0 ws G = runD (cl n) gk wf d0 ws G := rfl
theorem c1 (n : Nat) (ws : List W) (G : List O) : cl (n + 1) 1 ws G = runD (cl n) gk wf d1 ws G := rfl
theorem c2 (n : Nat) (ws : List W) (G : List O) : cl (n + 1) 2 ws G = runD (cl n) gk wf d2 ws G := rfl
theorem c3 (n : Nat) (ws : List W) (G : List O) : cl (n + 1) 3 ws G = runD (cl n) gk wf d3 ws G := rfl
theorem c4 (n : Nat) (ws : List W) (G : List O) : cl (n + 1) 4 ws G = runD (cl n) gk wf d4 ws G := rfl
theorem c5 (n : Nat) (ws : List W) (G : List O) : cl (n + 1) 5 ws G = runD (cl n) gk wf d5 ws G := rfl
theorem c6 (n : Nat) (ws : List W) (G : List O) : cl (n + 1) 6 ws G = runD (cl n) gk wf d6 ws G := rfl
theorem c7 (n : Nat) (ws : List W) (G : List O) : cl (n + 1) 7 ws G = runD (cl n) gk wf d7 ws G := rfl
theorem c8 (n : Nat) (ws : List W) (G : List O) : cl (n + 1) 8 ws G = runD (cl n) gk wf d8 ws G := rfl
theorem c9 (n : Nat) (ws : List W) (G : List O) : cl (n + 1) 9 ws G = runD (cl n) gk wf d9 ws G := rfl
theorem c10 (n : Nat) (ws : List W) (G : List O) : cl (n + 1) 10 ws G = runD (cl n) gk wf d10 ws G := rfl
theorem c11 (n : Nat) (ws : List W) (G : List O) : cl (n + 1) 11 ws G = runD (cl n) gk wf d11 ws G := rfl
theorem c12 (n : Nat) (ws : List W) (G : List O) : cl (n + 1) 12 ws G = runD (cl n) gk wf d12 ws G := rfl
theorem c13 (n : Nat) (ws : List W) (G : List O) : cl (n + 1) 13 ws G = runD (cl n) gk wf d13 ws G := rfl
theorem c14 (n : Nat) (ws : List W) (G : List O) : cl (n + 1) 14 ws G = runD (cl n) gk wf d14 ws G := rfl
theorem c15 (n : Nat) (ws : List W) (G : List O) : cl (n + 1) 15 ws G = runD (cl n) gk wf d15 ws G := rfl
theorem c16 (n : Nat) (ws : List W) (G : List O) : cl (n + 1) 16 ws G = runD (cl n) gk wf d16 ws G := rfl
theorem c17 (n : Nat) (ws : List W) (G : List O) : cl (n + 1) 17 ws G = runD (cl n) gk wf d17 ws G := rfl
theorem c18 (n : Nat) (ws : List W) (G : List O) : cl (n + 1) 18 ws G = runD (cl n) gk wf d18 ws G := rfl
theorem c19 (n : Nat) (ws : List W) (G : List O) : cl (n + 1) 19 ws G = runD (cl n) gk wf d19 ws G := rfl
end K64
end

section
set_option linter.all false
set_option autoImplicit false
set_option maxRecDepth 100000
set_option maxHeartbeats 2000000
/-! k64, the plain part: distances, deeds, blocks, edits. -/
namespace K64
open T2
/-! ### the distance, the deeds -/
def dist : List Nat → List Nat → Nat
  | [], bs => bs.length
  | a :: as, [] => as.length + 1
  | a :: as, b :: bs => if a = b then dist as bs else 1 + min (dist as (b :: bs)) (dist (a :: as) bs)
termination_by a b => a.length + b.length
theorem dist_nil (bs : List Nat) : dist [] bs = bs.length := by rw [dist]
theorem dist_nil' (as : List Nat) : dist as [] = as.length := by cases as <;> simp [dist]
theorem dist_eq (a : Nat) (as bs : List Nat) : dist (a :: as) (a :: bs) = dist as bs := by rw [dist]; simp
theorem dist_ne {a b : Nat} (h : a ≠ b) (as bs : List Nat) : dist (a :: as) (b :: bs) = 1 + min (dist as (b :: bs)) (dist (a :: as) bs) := by rw [dist]; simp [h]
/-- one sign more or less -/
theorem dist_near : ∀ (n : Nat) (as bs : List Nat), as.length + bs.length ≤ n → (∀ a, dist as bs ≤ 1 + dist (a :: as) bs ∧ dist (a :: as) bs ≤ 1 + dist as bs) ∧ (∀ b, dist as bs ≤ 1 + dist as (b :: bs) ∧ dist as (b :: bs) ≤ 1 + dist as bs)
  | 0, as, bs, h => by
    have h1 : as = [] := List.length_eq_zero_iff.mp (by omega)
    have h2 : bs = [] := List.length_eq_zero_iff.mp (by omega)
    subst h1 h2
    simp [dist]
  | n + 1, as, bs, h => by
    constructor
    · intro a
      cases bs with
      | nil => simp only [dist_nil', List.length_cons]; omega
      | cons b bs =>
        by_cases e : a = b
        · subst e
          rw [dist_eq]
          have := (dist_near n as bs (by simp only [List.length_cons] at h; omega)).2 a
          omega
        · rw [dist_ne e]
          cases as with
          | nil =>
            have := (dist_near n [] bs (by simp only [List.length_cons, List.length_nil] at h ⊢; omega)).1 a
            simp only [dist_nil, List.length_cons] at this ⊢
            omega
          | cons a' as =>
            have h1 := (dist_near n (a' :: as) bs (by simp only [List.length_cons] at h ⊢; omega)).1 a
            have h2 := (dist_near n (a' :: as) bs (by simp only [List.length_cons] at h ⊢; omega)).2 b
            omega
    · intro b
      cases as with
      | nil => simp only [dist_nil, List.length_cons]; omega
      | cons a as =>
        by_cases e : a = b
        · subst e
          rw [dist_eq]
          have := (dist_near n as bs (by simp only [List.length_cons] at h; omega)).1 a
          omega
        · rw [dist_ne e]
          have h1 := (dist_near n as bs (by simp only [List.length_cons] at h; omega)).1 a
          have h2 := (dist_near n as bs (by simp only [List.length_cons] at h; omega)).2 b
          omega
/-- the deeds: keep, take away, put in -/
def path : List Nat → List Nat → List Nat
  | [], [] => []
  | [], _ :: bs => 2 :: path [] bs
  | _ :: as, [] => 1 :: path as []
  | a :: as, b :: bs => if a = b then 0 :: path as bs else if dist (a :: as) (b :: bs) = 1 + dist as (b :: bs) then 1 :: path as (b :: bs) else 2 :: path (a :: as) bs
termination_by a b => a.length + b.length

/-! ### blocks -/
/-- kept, taken away, put in -/
abbrev Bl := List Nat × List Nat × List Nat
def one : List Bl → List Nat
  | [] => []
  | b :: r => b.1 ++ b.2.1 ++ one r
def oth : List Bl → List Nat
  | [] => []
  | b :: r => b.1 ++ b.2.2 ++ oth r
def bak (B : List Bl) : List Bl := B.map fun b => (b.1, b.2.2, b.2.1)
abbrev Ed := Nat × List Nat × List Nat
def enc (e : Ed) : W := .tup [.int e.1, .str e.2.1, .str e.2.2]
def encE (es : List Ed) : W := .tup (es.map enc)
def real (e : Ed) : Prop := ¬ (e.2.1 = [] ∧ e.2.2 = [])
/-- the edit that the blocks tell -/
def eds (o : Nat) : List Bl → List Ed
  | [] => []
  | b :: r => (o + b.1.length, b.2.1, b.2.2) :: eds (o + b.1.length + b.2.1.length) r
def fine (B : List Bl) : Prop := (∀ b ∈ B, ¬ (b.2.1 = [] ∧ b.2.2 = [])) ∧ ∀ b ∈ B.tail, b.1 ≠ []
theorem one_app (A B : List Bl) : one (A ++ B) = one A ++ one B := by
  induction A with
  | nil => rfl
  | cons a A ih => simp [one, ih]
theorem oth_app (A B : List Bl) : oth (A ++ B) = oth A ++ oth B := by
  induction A with
  | nil => rfl
  | cons a A ih => simp [oth, ih]
theorem one_bak (B : List Bl) : one (bak B) = oth B := by
  induction B with
  | nil => rfl
  | cons a A ih =>
    show a.1 ++ a.2.2 ++ one (bak A) = _
    rw [ih]
    rfl
theorem oth_bak (B : List Bl) : oth (bak B) = one B := by
  induction B with
  | nil => rfl
  | cons a A ih =>
    show a.1 ++ a.2.1 ++ oth (bak A) = _
    rw [ih]
    rfl
theorem bak_bak (B : List Bl) : bak (bak B) = B := by simp [bak, List.map_map, Function.comp_def]
theorem fine_bak {B : List Bl} (h : fine B) : fine (bak B) := by
  refine ⟨fun b hb => ?_, fun b hb => ?_⟩
  · obtain ⟨x, hx, rfl⟩ := List.mem_map.mp hb
    exact fun z => h.1 x hx ⟨z.2, z.1⟩
  · unfold bak at hb
    rw [← List.map_tail] at hb
    obtain ⟨x, hx, rfl⟩ := List.mem_map.mp hb
    exact h.2 x hx
theorem eds_app (A : List Bl) : ∀ (o : Nat) (B : List Bl), eds o (A ++ B) = eds o A ++ eds (o + (one A).length) B := by
  induction A with
  | nil => intro o B; simp [eds, one]
  | cons a A ih =>
    intro o B
    simp only [List.cons_append, eds, ih, one, List.length_append]
    congr 3
    omega
theorem eds_len (B : List Bl) : ∀ o, (eds o B).length = B.length := by
  induction B with
  | nil => intro o; rfl
  | cons b B ih => intro o; simp [eds, ih]
theorem eds_real {B : List Bl} (h : fine B) : ∀ o, ∀ e ∈ eds o B, real e := by
  have : ∀ (B : List Bl), (∀ b ∈ B, ¬ (b.2.1 = [] ∧ b.2.2 = [])) → ∀ o, ∀ e ∈ eds o B, real e := by
    intro B
    induction B with
    | nil => intro _ o e he; simp [eds] at he
    | cons b B ih =>
      intro hb o e he
      rcases List.mem_cons.mp he with rfl | he
      · exact hb b List.mem_cons_self
      · exact ih (fun x hx => hb x (List.mem_cons_of_mem _ hx)) _ e he
  exact this B h.1
/-- one begins behind the other -/
def asc : List Ed → Prop
  | e :: f :: r => e.1 + e.2.1.length < f.1 ∧ asc (f :: r)
  | _ => True
theorem eds_asc : ∀ (B : List Bl) (o : Nat), (∀ b ∈ B.tail, b.1 ≠ []) → asc (eds o B)
  | [], _, _ => trivial
  | [b], _, _ => trivial
  | b :: c :: r, o, h => by
    refine ⟨?_, eds_asc (c :: r) _ fun x hx => h x (List.mem_cons_of_mem _ hx)⟩
    have : 0 < c.1.length := List.length_pos_iff.mpr (h c List.mem_cons_self)
    show o + b.1.length + b.2.1.length < o + b.1.length + b.2.1.length + c.1.length
    omega
/-- what the edit makes of a text, from a place on -/
def app (text : List Nat) : Nat → List Ed → List Nat
  | o, [] => text.drop o
  | o, e :: r => (text.drop o).take (e.1 - o) ++ e.2.2 ++ app text (e.1 + e.2.1.length) r
theorem app_eds (t : List Nat) : ∀ (B : List Bl) (pre : List Nat), app (pre ++ one B ++ t) pre.length (eds pre.length B) = oth B ++ t
  | [], pre => by simp [app, eds, one, oth]
  | b :: r, pre => by
    have e1 : pre ++ one (b :: r) ++ t = (pre ++ b.1 ++ b.2.1) ++ one r ++ t := by simp [one]
    have e2 : pre.length + b.1.length + b.2.1.length = (pre ++ b.1 ++ b.2.1).length := by simp [Nat.add_assoc]
    have ih := app_eds t r (pre ++ b.1 ++ b.2.1)
    simp only [eds, app]
    rw [e2, e1, ih]
    have e3 : (List.drop pre.length (pre ++ b.1 ++ b.2.1 ++ one r ++ t)).take (pre.length + b.1.length - pre.length) = b.1 := by
      rw [Nat.add_sub_cancel_left]
      simp [List.append_assoc]
    rw [e3]
    simp [oth]
def fits (text : List Nat) (e : Ed) : Prop := e.1 ≤ text.length ∧ (text.drop e.1).take e.2.1.length = e.2.1
theorem eds_fits (t : List Nat) : ∀ (B : List Bl) (pre : List Nat), ∀ e ∈ eds pre.length B, fits (pre ++ one B ++ t) e
  | [], pre, e, h => by simp [eds] at h
  | b :: r, pre, e, h => by
    have e1 : pre ++ one (b :: r) ++ t = (pre ++ b.1 ++ b.2.1) ++ one r ++ t := by simp [one]
    have e2 : pre.length + b.1.length + b.2.1.length = (pre ++ b.1 ++ b.2.1).length := by simp [Nat.add_assoc]
    simp only [eds] at h
    rcases List.mem_cons.mp h with rfl | h
    · refine ⟨by simp only [one, List.length_append]; omega, ?_⟩
      have e3 : pre ++ one (b :: r) ++ t = (pre ++ b.1) ++ (b.2.1 ++ (one r ++ t)) := by simp [one]
      have e4 : pre.length + b.1.length = (pre ++ b.1).length := by simp
      simp only
      rw [e3, e4, List.drop_left, List.take_left]
    · rw [e2] at h
      rw [e1]
      exact eds_fits t r _ e h
def cost (es : List Ed) : Nat := (es.map fun e => e.2.1.length + e.2.2.length).sum
theorem cost_bak : ∀ (B : List Bl) (o p : Nat), cost (eds o (bak B)) = cost (eds p B)
  | [], _, _ => rfl
  | b :: r, o, p => by
    have ih := cost_bak r (o + b.1.length + b.2.2.length) (p + b.1.length + b.2.1.length)
    show b.2.2.length + b.2.1.length + cost (eds _ (bak r)) = b.2.1.length + b.2.2.length + cost (eds _ r)
    rw [ih]
    omega
/-! ### from the deeds to the blocks -/
/-- the blocks so far, what is kept behind them, what is open -/
abbrev Sta := List Bl × List Nat × Option (List Nat × List Nat)
def Sta.bl : Sta → List Bl
  | (B, _, none) => B
  | (B, k, some (g, c)) => B ++ [(k, g, c)]
def Sta.tl : Sta → List Nat
  | (_, k, none) => k
  | (_, _, some _) => []
/-- a deed: the sign that is kept or taken away, the one that is put in -/
def stp (d : Nat) (a b : Nat) : Sta → Sta
  | (B, k, none) => if d = 0 then (B, k ++ [a], none) else if d = 1 then (B, k, some ([a], [])) else (B, k, some ([], [b]))
  | (B, k, some (g, c)) => if d = 0 then (B ++ [(k, g, c)], [a], none) else if d = 1 then (B, k, some (g ++ [a], c)) else (B, k, some (g, c ++ [b]))
/-- the deeds done -/
def go : List Nat → List Nat → Sta → Sta
  | [], [], s => s
  | [], b :: bs, s => go [] bs (stp 2 0 b s)
  | a :: as, [], s => go as [] (stp 1 a 0 s)
  | a :: as, b :: bs, s => if a = b then go as bs (stp 0 a b s) else if dist (a :: as) (b :: bs) = 1 + dist as (b :: bs) then go as (b :: bs) (stp 1 a b s) else go (a :: as) bs (stp 2 a b s)
termination_by a b => a.length + b.length
structure Sta.ok (s : Sta) : Prop where
  fn : fine s.bl
  tl : s.2.2 = none → s.1 ≠ [] → s.2.1 ≠ []
theorem tail_app {α : Type} (l : List α) (x : α) : ∀ b ∈ (l ++ [x]).tail, b ∈ l.tail ∨ (b = x ∧ l ≠ []) := by
  intro b hb
  cases l with
  | nil => simp at hb
  | cons y l =>
    simp only [List.cons_append, List.tail_cons, List.mem_append, List.mem_singleton] at hb
    rcases hb with h | h
    · exact .inl h
    · exact .inr ⟨h, by simp⟩
theorem stp_ok {s : Sta} (h : s.ok) (d a b : Nat) : (stp d a b s).ok := by
  obtain ⟨B, k, o⟩ := s
  cases o with
  | none =>
    have hB : fine B := h.fn
    have hk : B ≠ [] → k ≠ [] := fun z => h.tl rfl z
    have key : ∀ g c : List Nat, ¬ (g = [] ∧ c = []) → (Sta.ok (B, k, some (g, c))) := fun g c hg => by
      refine ⟨⟨fun x hx => ?_, fun x hx => ?_⟩, fun z => by cases z⟩
      · rcases List.mem_append.mp hx with z | z
        · exact hB.1 x z
        · have : x = (k, g, c) := by simpa using z
          subst this
          exact hg
      · rcases tail_app B (k, g, c) x hx with z | ⟨rfl, z⟩
        · exact hB.2 x z
        · exact hk z
    simp only [stp]
    split
    · exact ⟨hB, fun _ _ => by simp⟩
    · split
      · exact key _ _ (by simp)
      · exact key _ _ (by simp)
  | some p =>
    obtain ⟨g, c⟩ := p
    have hB : fine (B ++ [(k, g, c)]) := h.fn
    have key : ∀ g' c' : List Nat, ¬ (g' = [] ∧ c' = []) → (Sta.ok (B, k, some (g', c'))) := fun g' c' hg => by
      refine ⟨⟨fun x hx => ?_, fun x hx => ?_⟩, fun z => by cases z⟩
      · rcases List.mem_append.mp hx with z | z
        · exact hB.1 x (List.mem_append_left _ z)
        · have : x = (k, g', c') := by simpa using z
          subst this
          exact hg
      · have hb : ∀ y ∈ B.tail, y.1 ≠ [] := fun y hy => hB.2 y (by
          cases B with
          | nil => simp at hy
          | cons z B => simp only [List.cons_append, List.tail_cons] at hy ⊢; exact List.mem_append_left _ hy)
        rcases tail_app B (k, g', c') x hx with z | ⟨rfl, z⟩
        · exact hb x z
        · refine hB.2 (k, g, c) ?_
          cases B with
          | nil => exact absurd rfl z
          | cons y B => simp
    simp only [stp]
    split
    · exact ⟨hB, fun _ _ => by simp⟩
    · split
      · exact key _ _ (by simp)
      · exact key _ _ (by simp)
theorem go_ok : ∀ (n : Nat) (as bs : List Nat), as.length + bs.length ≤ n → ∀ s : Sta, s.ok → (go as bs s).ok
  | 0, as, bs, h, s, hs => by
    have h1 : as = [] := List.length_eq_zero_iff.mp (by omega)
    have h2 : bs = [] := List.length_eq_zero_iff.mp (by omega)
    subst h1 h2
    rw [go]
    exact hs
  | n + 1, as, bs, h, s, hs => by
    cases as with
    | nil =>
      cases bs with
      | nil => rw [go]; exact hs
      | cons b bs => rw [go]; exact go_ok n [] bs (by simp only [List.length_cons] at h; omega) _ (stp_ok hs 2 0 b)
    | cons a as =>
      cases bs with
      | nil => rw [go]; exact go_ok n as [] (by simp only [List.length_cons] at h; omega) _ (stp_ok hs 1 a 0)
      | cons b bs =>
        rw [go]
        split
        · exact go_ok n as bs (by simp only [List.length_cons] at h; omega) _ (stp_ok hs 0 a b)
        · split
          · exact go_ok n as (b :: bs) (by simp only [List.length_cons] at h ⊢; omega) _ (stp_ok hs 1 a b)
          · exact go_ok n (a :: as) bs (by simp only [List.length_cons] at h ⊢; omega) _ (stp_ok hs 2 a b)
/-- the texts so far -/
def Sta.one (s : Sta) : List Nat := K64.one s.bl ++ s.tl
def Sta.oth (s : Sta) : List Nat := K64.oth s.bl ++ s.tl
theorem stp_one (d a b : Nat) (s : Sta) : (stp d a b s).one = if d = 0 ∨ d = 1 then s.one ++ [a] else s.one := by
  obtain ⟨B, k, o⟩ := s
  cases o with
  | none => by_cases h0 : d = 0 <;> by_cases h1 : d = 1 <;> simp [stp, Sta.one, Sta.bl, Sta.tl, h0, h1, one_app, one]
  | some p =>
    obtain ⟨g, c⟩ := p
    by_cases h0 : d = 0 <;> by_cases h1 : d = 1 <;> simp [stp, Sta.one, Sta.bl, Sta.tl, h0, h1, one_app, one]
theorem stp_oth (d a b : Nat) (s : Sta) : (stp d a b s).oth = if d = 0 then s.oth ++ [a] else if d = 1 then s.oth else s.oth ++ [b] := by
  obtain ⟨B, k, o⟩ := s
  cases o with
  | none => by_cases h0 : d = 0 <;> by_cases h1 : d = 1 <;> simp [stp, Sta.oth, Sta.bl, Sta.tl, h0, h1, oth_app, oth]
  | some p =>
    obtain ⟨g, c⟩ := p
    by_cases h0 : d = 0 <;> by_cases h1 : d = 1 <;> simp [stp, Sta.oth, Sta.bl, Sta.tl, h0, h1, oth_app, oth]
theorem go_txt : ∀ (n : Nat) (as bs : List Nat), as.length + bs.length ≤ n → ∀ s : Sta, (go as bs s).one = s.one ++ as ∧ (go as bs s).oth = s.oth ++ bs
  | 0, as, bs, h, s => by
    have h1 : as = [] := List.length_eq_zero_iff.mp (by omega)
    have h2 : bs = [] := List.length_eq_zero_iff.mp (by omega)
    subst h1 h2
    rw [go]
    simp
  | n + 1, as, bs, h, s => by
    cases as with
    | nil =>
      cases bs with
      | nil => rw [go]; simp
      | cons b bs =>
        rw [go]
        have := go_txt n [] bs (by simp only [List.length_cons] at h; omega) (stp 2 0 b s)
        rw [this.1, this.2, stp_one, stp_oth]
        simp
    | cons a as =>
      cases bs with
      | nil =>
        rw [go]
        have := go_txt n as [] (by simp only [List.length_cons] at h; omega) (stp 1 a 0 s)
        rw [this.1, this.2, stp_one, stp_oth]
        simp
      | cons b bs =>
        rw [go]
        split
        · rename_i e
          subst e
          have := go_txt n as bs (by simp only [List.length_cons] at h; omega) (stp 0 a a s)
          rw [this.1, this.2, stp_one, stp_oth]
          simp
        · split
          · have := go_txt n as (b :: bs) (by simp only [List.length_cons] at h ⊢; omega) (stp 1 a b s)
            rw [this.1, this.2, stp_one, stp_oth]
            simp
          · have := go_txt n (a :: as) bs (by simp only [List.length_cons] at h ⊢; omega) (stp 2 a b s)
            rw [this.1, this.2, stp_one, stp_oth]
            simp
/-- the edit of two texts -/
def fin (as bs : List Nat) : Sta := go as bs ([], [], none)
def edit (as bs : List Nat) : List Ed := eds 0 (fin as bs).bl
theorem fin_ok (as bs : List Nat) : (fin as bs).ok := go_ok _ as bs (Nat.le_refl _) _ ⟨⟨by simp [Sta.bl], by simp [Sta.bl]⟩, fun _ z => absurd rfl z⟩
theorem fin_txt (as bs : List Nat) : (fin as bs).one = as ∧ (fin as bs).oth = bs := by
  have := go_txt _ as bs (Nat.le_refl _) ([], [], none)
  exact ⟨this.1, this.2⟩
end K64
end

section
set_option linter.all false
set_option maxRecDepth 100000
set_option maxHeartbeats 4000000
/-! k64: what the defs of edits do. -/
namespace K64
open T2
/-! ### texts -/
def SIGNS : List W := [.str [115, 105, 103, 110, 115]]
theorem t0 (n : Nat) (x : List Nat) (h : x.length ≤ 400) (G : List O) : cl (n + 1) 0 [.str x] G = .ok .non G := by
  have h2 : x.length ≤ 16777216 := by omega
  have h3 : ¬ (400 : Int) < x.length := by omega
  rw [c0]
  simp [ev, evs, evT, evO, evC, evI, asgT, asgTs, evH, pickH, ex, exB, runD, look, seqOf, isKds, isKd, szOk, bnd_ok, bnd_exc, noX_ok, wipe, st_mkt, st_mkf, st_addi, st_adds, st_addt, st_auI, st_auS, st_sub, st_mul, st_fdiv, st_mod, st_pow, st_cat, st_repl, st_reps, st_lt, st_le, st_gt, st_ge, st_eqi, st_nei, st_eqs, st_nes, st_idxL, st_idxS, st_idxT, st_idxs, at_n, at_0, at_1, at_2, at_m1, st_slcL, st_slcT, st_slcs, cut_nn, cut_n, cut_from, cut_1, cut_to1, st_lens, st_lenL, st_lenS, st_lenT, st_inti, st_intb, st_min2, st_max2, st_sumL, st_allL, st_anyL, st_tupL, st_tupT, st_joinL, st_rcvj, st_sh, st_idxr, st_lenr, st_tupr, st_appr, st_rcvr, st_joinr, st_setr, mulOk_fm, mulOk_r, mulOk_l, st_eq, st_ne, W.eq, W.eqs, W.pl, W.pls, W.dep, W.deps, gk, CK, d0, b0, h2, h3]
theorem i0 (n : Nat) (x : List Nat) (h : x.length ≤ 400) (G : List O) : callW (cl (n + 1)) .iso 0 [.str x] G = .ok .non G := iso_pl rfl (t0 n x h []) rfl
theorem x0a (n : Nat) (G : List O) : callW (cl (n + 1)) .iso 0 [.non] G = .exc 0 SIGNS G := iso_exc rfl (G1 := []) (by
  rw [c0]
  simp [ev, evs, evT, evO, evC, evI, asgT, asgTs, evH, pickH, ex, exB, runD, look, seqOf, isKds, isKd, szOk, bnd_ok, bnd_exc, noX_ok, wipe, st_mkt, st_mkf, st_addi, st_adds, st_addt, st_auI, st_auS, st_sub, st_mul, st_fdiv, st_mod, st_pow, st_cat, st_repl, st_reps, st_lt, st_le, st_gt, st_ge, st_eqi, st_nei, st_eqs, st_nes, st_idxL, st_idxS, st_idxT, st_idxs, at_n, at_0, at_1, at_2, at_m1, st_slcL, st_slcT, st_slcs, cut_nn, cut_n, cut_from, cut_1, cut_to1, st_lens, st_lenL, st_lenS, st_lenT, st_inti, st_intb, st_min2, st_max2, st_sumL, st_allL, st_anyL, st_tupL, st_tupT, st_joinL, st_rcvj, st_sh, st_idxr, st_lenr, st_tupr, st_appr, st_rcvr, st_joinr, st_setr, mulOk_fm, mulOk_r, mulOk_l, st_eq, st_ne, W.eq, W.eqs, W.pl, W.pls, W.dep, W.deps, d0, b0, SIGNS]) rfl
theorem x0b (n : Nat) (G : List O) : callW (cl (n + 1)) .iso 0 [.int 5] G = .exc 0 SIGNS G := iso_exc rfl (G1 := []) (by
  rw [c0]
  simp [ev, evs, evT, evO, evC, evI, asgT, asgTs, evH, pickH, ex, exB, runD, look, seqOf, isKds, isKd, szOk, bnd_ok, bnd_exc, noX_ok, wipe, st_mkt, st_mkf, st_addi, st_adds, st_addt, st_auI, st_auS, st_sub, st_mul, st_fdiv, st_mod, st_pow, st_cat, st_repl, st_reps, st_lt, st_le, st_gt, st_ge, st_eqi, st_nei, st_eqs, st_nes, st_idxL, st_idxS, st_idxT, st_idxs, at_n, at_0, at_1, at_2, at_m1, st_slcL, st_slcT, st_slcs, cut_nn, cut_n, cut_from, cut_1, cut_to1, st_lens, st_lenL, st_lenS, st_lenT, st_inti, st_intb, st_min2, st_max2, st_sumL, st_allL, st_anyL, st_tupL, st_tupT, st_joinL, st_rcvj, st_sh, st_idxr, st_lenr, st_tupr, st_appr, st_rcvr, st_joinr, st_setr, mulOk_fm, mulOk_r, mulOk_l, st_eq, st_ne, W.eq, W.eqs, W.pl, W.pls, W.dep, W.deps, d0, b0, SIGNS]) rfl
theorem x0c (n : Nat) (x : List Nat) (h : 400 < x.length) (h2 : x.length ≤ 16777216) (G : List O) : callW (cl (n + 1)) .iso 0 [.str x] G = .exc 0 SIGNS G := iso_exc rfl (G1 := []) (by
  have h3 : (400 : Int) < x.length := by omega
  rw [c0]
  simp [ev, evs, evT, evO, evC, evI, asgT, asgTs, evH, pickH, ex, exB, runD, look, seqOf, isKds, isKd, szOk, bnd_ok, bnd_exc, noX_ok, wipe, st_mkt, st_mkf, st_addi, st_adds, st_addt, st_auI, st_auS, st_sub, st_mul, st_fdiv, st_mod, st_pow, st_cat, st_repl, st_reps, st_lt, st_le, st_gt, st_ge, st_eqi, st_nei, st_eqs, st_nes, st_idxL, st_idxS, st_idxT, st_idxs, at_n, at_0, at_1, at_2, at_m1, st_slcL, st_slcT, st_slcs, cut_nn, cut_n, cut_from, cut_1, cut_to1, st_lens, st_lenL, st_lenS, st_lenT, st_inti, st_intb, st_min2, st_max2, st_sumL, st_allL, st_anyL, st_tupL, st_tupT, st_joinL, st_rcvj, st_sh, st_idxr, st_lenr, st_tupr, st_appr, st_rcvr, st_joinr, st_setr, mulOk_fm, mulOk_r, mulOk_l, st_eq, st_ne, W.eq, W.eqs, W.pl, W.pls, W.dep, W.deps, d0, b0, gk, CK, h2, h3, SIGNS]) rfl
/-- what an edit must be for its size -/
def sz (es : List Ed) : Prop := es.length ≤ 1000 ∧ ∀ e ∈ es, e.2.1.length ≤ 1000 ∧ e.2.2.length ≤ 1000
theorem enc_nr (es : List Ed) : W.nrs (es.map enc) = true := by
  rw [W.nrs_all]
  simp [List.all_map, Function.comp_def, enc, W.nr, W.nrs]
theorem encE_nr (es : List Ed) : W.nr (encE es) = true := by simp [W.nr, encE, enc_nr es]
theorem enc_pl (es : List Ed) : W.pls (es.map enc) = true := by
  rw [W.pls_all]
  simp [List.all_map, Function.comp_def, enc, W.pl, W.pls]
theorem encE_pl (es : List Ed) : W.pl (encE es) = true := by simp [W.pl, encE, enc_pl es]
/-! changed -/
def pcs (t : List Nat) : Nat → List Ed → List (List Nat)
  | _, [] => []
  | o, e :: r => (t.drop o).take (e.1 - o) :: e.2.2 :: pcs t (e.1 + e.2.1.length) r
def endp : Nat → List Ed → Nat
  | o, [] => o
  | _, e :: r => endp (e.1 + e.2.1.length) r
theorem pcs_app (t : List Nat) : ∀ (es : List Ed) (o : Nat), (pcs t o es).flatten ++ t.drop (endp o es) = app t o es
  | [], o => by simp [pcs, endp, app]
  | e :: r, o => by
    simp only [pcs, endp, app, List.flatten_cons, List.append_assoc]
    rw [pcs_app t r]
theorem pcs_len (t : List Nat) : ∀ (es : List Ed) (o : Nat), (pcs t o es).length = 2 * es.length
  | [], o => rfl
  | e :: r, o => by simp only [pcs, List.length_cons, pcs_len t r]; omega
theorem strs_map : ∀ ps : List (List Nat), strs? (ps.map W.str) = some ps
  | [] => rfl
  | p :: ps => by simp [strs?, strs_map ps]
theorem joinS_nil : ∀ ps : List (List Nat), joinS [] ps = ps.flatten
  | [] => rfl
  | [p] => by simp [joinS]
  | p :: q :: r => by
    have := joinS_nil (q :: r)
    simp only [joinS, List.append_nil, this, List.flatten_cons]
theorem sum_len (ps : List (List Nat)) : (ps.map List.length).sum = ps.flatten.length := by rw [List.length_flatten]
abbrev a3 (n : Nat) : W → Sl → List O → Res Sl := fun w sw G => asgT (cl n) gk (.tp (.cons (.nm 4) (.cons (.nm 5) (.cons (.nm 6) .nil)))) w sw G
abbrev f3 (n : Nat) : Sl → List O → Res Fl := fun sw G => exB (cl n) gk wf b1_0 sw G
theorem l3 (n : Nat) (s : Seq) (hs : ∀ G, s.ok G = true) (E : W) (t : List Nat) (ht : t.length ≤ 1000) : ∀ (es : List Ed) (o : Nat) (ps : List (List Nat)) (x y z : Option W), ps.length + 2 * es.length ≤ 10000 → (∀ e ∈ es, e.2.1.length ≤ 1000 ∧ e.2.2.length ≤ 1000) →
    ∃ x' y' z', forL (a3 n) (f3 n) s (es.map enc) [some (.str t), some E, some (.ref 0), some (.int o), x, y, z] [.lst (ps.map .str)] = .ok (.nx [some (.str t), some E, some (.ref 0), some (.int (endp o es)), x', y', z']) [.lst ((ps ++ pcs t o es).map .str)]
  | [], o, ps, x, y, z, _, _ => ⟨x, y, z, by rw [List.map_nil, forL_nil (hs _)]; simp [endp, pcs]⟩
  | e :: r, o, ps, x, y, z, hl, hz => by
    obtain ⟨x', y', z', ih⟩ := l3 n s hs E t ht r (e.1 + e.2.1.length) (ps ++ [(t.drop o).take (e.1 - o), e.2.2]) (some (.int e.1)) (some (.str e.2.1)) (some (.str e.2.2)) (by simp only [List.length_append, List.length_cons, List.length_nil] at hl ⊢; omega) fun a ha => hz a (List.mem_cons_of_mem _ ha)
    refine ⟨x', y', z', ?_⟩
    have h1 : t.length ≤ 16777216 := by omega
    have h2 : e.2.1.length ≤ 16777216 := by have := (hz e List.mem_cons_self).1; omega
    have h3 : ps.length < 16777216 := by simp only [List.length_cons] at hl; omega
    have h4 : ps.length + 1 < 16777216 := by simp only [List.length_cons] at hl; omega
    rw [List.map_cons, forL_ok (sw1 := [some (.str t), some E, some (.ref 0), some (.int o), some (.int e.1), some (.str e.2.1), some (.str e.2.2)]) (G1 := [.lst (ps.map .str)]) (sw2 := [some (.str t), some E, some (.ref 0), some (.int ((e.1 + e.2.1.length : Nat) : Int)), some (.int e.1), some (.str e.2.1), some (.str e.2.2)])
      (G2 := [.lst ((ps ++ [(t.drop o).take (e.1 - o), e.2.2]).map .str)]) (hs _) (by simp [ev, evs, evT, evO, evC, evI, asgT, asgTs, evH, pickH, ex, exB, runD, look, seqOf, isKds, isKd, szOk, bnd_ok, bnd_exc, noX_ok, wipe, st_mkt, st_mkf, st_addi, st_adds, st_addt, st_auI, st_auS, st_sub, st_mul, st_fdiv, st_mod, st_pow, st_cat, st_repl, st_reps, st_lt, st_le, st_gt, st_ge, st_eqi, st_nei, st_eqs, st_nes, st_idxL, st_idxS, st_idxT, st_idxs, at_n, at_0, at_1, at_2, at_m1, st_slcL, st_slcT, st_slcs, cut_nn, cut_n, cut_from, cut_1, cut_to1, st_lens, st_lenL, st_lenS, st_lenT, st_inti, st_intb, st_min2, st_max2, st_sumL, st_allL, st_anyL, st_tupL, st_tupT, st_joinL, st_rcvj, st_sh, st_idxr, st_lenr, st_tupr, st_appr, st_rcvr, st_joinr, st_setr, mulOk_fm, mulOk_r, mulOk_l, st_eq, st_ne, W.eq, W.eqs, W.pl, W.pls, W.dep, W.deps, a3, enc]) (by simp [ev, evs, evT, evO, evC, evI, asgT, asgTs, evH, pickH, ex, exB, runD, look, seqOf, isKds, isKd, szOk, bnd_ok, bnd_exc, noX_ok, wipe, st_mkt, st_mkf, st_addi, st_adds, st_addt, st_auI, st_auS, st_sub, st_mul, st_fdiv, st_mod, st_pow, st_cat, st_repl, st_reps, st_lt, st_le, st_gt, st_ge, st_eqi, st_nei, st_eqs, st_nes, st_idxL, st_idxS, st_idxT, st_idxs, at_n, at_0, at_1, at_2, at_m1, st_slcL, st_slcT, st_slcs, cut_nn, cut_n, cut_from, cut_1, cut_to1, st_lens, st_lenL, st_lenS, st_lenT, st_inti, st_intb, st_min2, st_max2, st_sumL, st_allL, st_anyL, st_tupL, st_tupT, st_joinL, st_rcvj, st_sh, st_idxr, st_lenr, st_tupr, st_appr, st_rcvr, st_joinr, st_setr, mulOk_fm, mulOk_r, mulOk_l, st_eq, st_ne, W.eq, W.eqs, W.pl, W.pls, W.dep, W.deps, f3, b1_0, h1, h2, h3, h4])]
    rw [ih]
    simp [endp, pcs]
theorem t3 (n : Nat) (t : List Nat) (es : List Ed) (ht : t.length ≤ 1000) (hz : sz es) (ha : (app t 0 es).length ≤ 100000) (G : List O) : callW (cl (n + 1)) .iso 1 [.str t, encE es] G = .ok (.str (app t 0 es)) G := by
  have nr : W.nrs [.str t, encE es] = true := by simp [W.nrs, W.nr, encE_nr]
  obtain ⟨x', y', z', e⟩ := l3 n ⟨es.map enc, none⟩ (fun _ => rfl) (.tup (es.map enc)) t ht es 0 [] none none none (by have := hz.1; simp; omega) hz.2
  have hp := pcs_len t es 0
  have h1 : t.length ≤ 16777216 := by omega
  have h2 : (pcs t 0 es).length < 16777216 := by have := hz.1; omega
  have hj : strs? ((pcs t 0 es).map W.str ++ [W.str (t.drop (endp 0 es))]) = some (pcs t 0 es ++ [t.drop (endp 0 es)]) := by
    have := strs_map (pcs t 0 es ++ [t.drop (endp 0 es)])
    simpa using this
  have hs : ((pcs t 0 es).map List.length).sum + (t.length - endp 0 es) ≤ 16777216 := by
    have e1 := congrArg List.length (pcs_app t es 0)
    rw [List.length_append, List.length_drop] at e1
    rw [sum_len]
    omega
  delta a3 f3 at e
  simp [ev, evs, evT, evO, evC, evI, asgT, asgTs, evH, pickH, ex, exB, runD, look, seqOf, isKds, isKd, szOk, bnd_ok, bnd_exc, noX_ok, wipe, st_mkt, st_mkf, st_addi, st_adds, st_addt, st_auI, st_auS, st_sub, st_mul, st_fdiv, st_mod, st_pow, st_cat, st_repl, st_reps, st_lt, st_le, st_gt, st_ge, st_eqi, st_nei, st_eqs, st_nes, st_idxL, st_idxS, st_idxT, st_idxs, at_n, at_0, at_1, at_2, at_m1, st_slcL, st_slcT, st_slcs, cut_nn, cut_n, cut_from, cut_1, cut_to1, st_lens, st_lenL, st_lenS, st_lenT, st_inti, st_intb, st_min2, st_max2, st_sumL, st_allL, st_anyL, st_tupL, st_tupT, st_joinL, st_rcvj, st_sh, st_idxr, st_lenr, st_tupr, st_appr, st_rcvr, st_joinr, st_setr, mulOk_fm, mulOk_r, mulOk_l, st_eq, st_ne, W.eq, W.eqs, W.pl, W.pls, W.dep, W.deps] at e
  refine iso_pl nr (G1 := [.lst ((pcs t 0 es ++ [t.drop (endp 0 es)]).map .str)]) ?_ rfl
  rw [c1]
  simp [ev, evs, evT, evO, evC, evI, asgT, asgTs, evH, pickH, ex, exB, runD, look, seqOf, isKds, isKd, szOk, bnd_ok, bnd_exc, noX_ok, wipe, st_mkt, st_mkf, st_addi, st_adds, st_addt, st_auI, st_auS, st_sub, st_mul, st_fdiv, st_mod, st_pow, st_cat, st_repl, st_reps, st_lt, st_le, st_gt, st_ge, st_eqi, st_nei, st_eqs, st_nes, st_idxL, st_idxS, st_idxT, st_idxs, at_n, at_0, at_1, at_2, at_m1, st_slcL, st_slcT, st_slcs, cut_nn, cut_n, cut_from, cut_1, cut_to1, st_lens, st_lenL, st_lenS, st_lenT, st_inti, st_intb, st_min2, st_max2, st_sumL, st_allL, st_anyL, st_tupL, st_tupT, st_joinL, st_rcvj, st_sh, st_idxr, st_lenr, st_tupr, st_appr, st_rcvr, st_joinr, st_setr, mulOk_fm, mulOk_r, mulOk_l, st_eq, st_ne, W.eq, W.eqs, W.pl, W.pls, W.dep, W.deps, d1, b1, encE, e, h1, h2, hj, hs, joinS_nil, pcs_app]
end K64
end

section
set_option linter.all false
set_option maxRecDepth 100000
set_option maxHeartbeats 4000000
/-! k64: the table of costs. -/
namespace K64
open T2
/-- a, a - 1, .., 0 -/
theorem dn (m : Nat) : rng3L (m : Int) (-1) (-1) = (List.range (m + 1)).map fun (k : Nat) => W.int ((m : Int) - (k : Int)) := by
  unfold rng3L
  rw [if_neg (by decide)]
  have e : ((m : Int) - -1 + (- -1) - 1) / (- -1) = (m + 1 : Nat) := by simp
  rw [e, Int.toNat_natCast]
  apply List.map_congr_left
  intro k _
  congr 1
  omega
theorem dn_get {m k : Nat} {w : W} (h : ((List.range (m + 1)).map fun (k : Nat) => W.int ((m : Int) - (k : Int)))[k]? = some w) : k ≤ m ∧ w = .int ((m - k : Nat) : Int) := by
  rw [List.getElem?_map] at h
  by_cases hk : k < m + 1
  · rw [List.getElem?_range hk] at h
    have e : ((m - k : Nat) : Int) = (m : Int) - k := by omega
    rw [e]
    exact ⟨by omega, (Option.some.inj h).symm⟩
  · rw [List.getElem?_eq_none (by simpa using Nat.le_of_not_lt hk)] at h
    cases h
/-- v stands in row i at place j -/
def cell (G : List O) (i j : Nat) (v : Nat) : Prop := ∃ row, G[i]? = some (.lst row) ∧ row[j]? = some (.int v)
/-- the rows behind i are done, and in row i the places from c on -/
structure Tab (a b : List Nat) (i c : Nat) (G : List O) : Prop where
  len : G.length = a.length + 1
  row : ∀ i', i' ≤ a.length → ∃ row, G[i']? = some (.lst row) ∧ row.length = b.length + 1
  old : ∀ i' j', i < i' → i' ≤ a.length → j' ≤ b.length → cell G i' j' (dist (a.drop i') (b.drop j'))
  new : ∀ j', c ≤ j' → j' ≤ b.length → cell G i j' (dist (a.drop i) (b.drop j'))
theorem Tab.put {a b : List Nat} {i j : Nat} {G : List O} {row : List W} (t : Tab a b i (j + 1) G) (hi : i ≤ a.length) (hj : j ≤ b.length) (h : G[i]? = some (.lst row)) (hr : row.length = b.length + 1) : Tab a b i j (G.set i (.lst (row.set j (.int (dist (a.drop i) (b.drop j) : Nat))))) := by
  have hl : i < G.length := by rw [t.len]; omega
  refine ⟨by rw [List.length_set]; exact t.len, fun i' h' => ?_, fun i' j' h1 h2 h3 => ?_, fun j' h1 h2 => ?_⟩
  · by_cases e : i = i'
    · subst e
      exact ⟨_, List.getElem?_set_self hl, by rw [List.length_set]; exact hr⟩
    · rw [List.getElem?_set_ne e]
      exact t.row i' h'
  · obtain ⟨r, e1, e2⟩ := t.old i' j' h1 h2 h3
    exact ⟨r, by rw [List.getElem?_set_ne (by omega)]; exact e1, e2⟩
  · refine ⟨_, List.getElem?_set_self hl, ?_⟩
    by_cases e : j = j'
    · subst e
      rw [List.getElem?_set_self (by omega)]
    · rw [List.getElem?_set_ne e]
      obtain ⟨r, e1, e2⟩ := t.new j' (by omega) h2
      rw [h] at e1
      cases e1
      exact e2
theorem drop_cons {a : List Nat} {i : Nat} (h : i < a.length) : a.drop i = a[i] :: a.drop (i + 1) := List.drop_eq_getElem_cons h
theorem at_s {α : Type} (xs : List α) (n : Nat) : atW xs ((n : Int) + 1) = xs[n + 1]? := at_n xs (n + 1)
theorem s7 (n : Nat) (a b : List Nat) (ha : a.length ≤ 1000) (hb : b.length ≤ 1000) (refs : List W) (hC : ∀ i, i ≤ a.length → refs[i]? = some (.ref i)) (i j : Nat) (hi : i ≤ a.length) (hj : j ≤ b.length) (G : List O) (t : Tab a b i (j + 1) G) :
    ∃ G', exB (cl n) gk wf b2_0 [some (.str a), some (.str b), some (.lst refs), some (.int i), some (.int j)] G = .ok (.nx [some (.str a), some (.str b), some (.lst refs), some (.int i), some (.int j)]) G' ∧ Tab a b i j G' := by
  obtain ⟨row, hrow, hlen⟩ := t.row i hi
  refine ⟨_, ?_, t.put hi hj hrow hlen⟩
  have h1 : a.length ≤ 16777216 := by omega
  have h2 : b.length ≤ 16777216 := by omega
  have hjl : j < row.length := by omega
  have c1 := hC i hi
  by_cases e1 : i = a.length
  · have hv : dist (a.drop i) (b.drop j) = b.length - j := by rw [e1, List.drop_length, dist_nil, List.length_drop]
    have hv2 : ((b.length - j : Nat) : Int) = (b.length : Int) - j := by omega
    have e1' : (i : Int) = a.length := by omega
    rw [hv, hv2]
    simp [ev, evs, evT, evO, evC, evI, asgT, asgTs, evH, pickH, ex, exB, runD, look, seqOf, isKds, isKd, szOk, bnd_ok, bnd_exc, noX_ok, wipe, st_mkt, st_mkf, st_addi, st_adds, st_addt, st_auI, st_auS, st_sub, st_mul, st_fdiv, st_mod, st_pow, st_cat, st_repl, st_reps, st_lt, st_le, st_gt, st_ge, st_eqi, st_nei, st_eqs, st_nes, st_idxL, st_idxS, st_idxT, st_idxs, at_n, at_0, at_1, at_2, at_m1, st_slcL, st_slcT, st_slcs, cut_nn, cut_n, cut_from, cut_1, cut_to1, st_lens, st_lenL, st_lenS, st_lenT, st_inti, st_intb, st_min2, st_max2, st_sumL, st_allL, st_anyL, st_tupL, st_tupT, st_joinL, st_rcvj, st_sh, st_idxr, st_lenr, st_tupr, st_appr, st_rcvr, st_joinr, st_setr, mulOk_fm, mulOk_r, mulOk_l, st_eq, st_ne, W.eq, W.eqs, W.pl, W.pls, W.dep, W.deps, b2_0, h1, h2, e1', c1, hrow, hjl]
    simp [ev, evs, evT, evO, evC, evI, asgT, asgTs, evH, pickH, ex, exB, runD, look, seqOf, isKds, isKd, szOk, bnd_ok, bnd_exc, noX_ok, wipe, st_mkt, st_mkf, st_addi, st_adds, st_addt, st_auI, st_auS, st_sub, st_mul, st_fdiv, st_mod, st_pow, st_cat, st_repl, st_reps, st_lt, st_le, st_gt, st_ge, st_eqi, st_nei, st_eqs, st_nes, st_idxL, st_idxS, st_idxT, st_idxs, at_n, at_0, at_1, at_2, at_m1, st_slcL, st_slcT, st_slcs, cut_nn, cut_n, cut_from, cut_1, cut_to1, st_lens, st_lenL, st_lenS, st_lenT, st_inti, st_intb, st_min2, st_max2, st_sumL, st_allL, st_anyL, st_tupL, st_tupT, st_joinL, st_rcvj, st_sh, st_idxr, st_lenr, st_tupr, st_appr, st_rcvr, st_joinr, st_setr, mulOk_fm, mulOk_r, mulOk_l, st_eq, st_ne, W.eq, W.eqs, W.pl, W.pls, W.dep, W.deps, ← e1, c1, hrow, hjl]
  · have e1' : ¬ (i : Int) = a.length := by omega
    by_cases e2 : j = b.length
    · have hv : dist (a.drop i) (b.drop j) = a.length - i := by rw [e2, List.drop_length, dist_nil', List.length_drop]
      have hv2 : ((a.length - i : Nat) : Int) = (a.length : Int) - i := by omega
      have e2' : (j : Int) = b.length := by omega
      rw [hv, hv2]
      simp [ev, evs, evT, evO, evC, evI, asgT, asgTs, evH, pickH, ex, exB, runD, look, seqOf, isKds, isKd, szOk, bnd_ok, bnd_exc, noX_ok, wipe, st_mkt, st_mkf, st_addi, st_adds, st_addt, st_auI, st_auS, st_sub, st_mul, st_fdiv, st_mod, st_pow, st_cat, st_repl, st_reps, st_lt, st_le, st_gt, st_ge, st_eqi, st_nei, st_eqs, st_nes, st_idxL, st_idxS, st_idxT, st_idxs, at_n, at_0, at_1, at_2, at_m1, st_slcL, st_slcT, st_slcs, cut_nn, cut_n, cut_from, cut_1, cut_to1, st_lens, st_lenL, st_lenS, st_lenT, st_inti, st_intb, st_min2, st_max2, st_sumL, st_allL, st_anyL, st_tupL, st_tupT, st_joinL, st_rcvj, st_sh, st_idxr, st_lenr, st_tupr, st_appr, st_rcvr, st_joinr, st_setr, mulOk_fm, mulOk_r, mulOk_l, st_eq, st_ne, W.eq, W.eqs, W.pl, W.pls, W.dep, W.deps, b2_0, h1, h2, e1', e2', c1, hrow, hjl]
      simp [ev, evs, evT, evO, evC, evI, asgT, asgTs, evH, pickH, ex, exB, runD, look, seqOf, isKds, isKd, szOk, bnd_ok, bnd_exc, noX_ok, wipe, st_mkt, st_mkf, st_addi, st_adds, st_addt, st_auI, st_auS, st_sub, st_mul, st_fdiv, st_mod, st_pow, st_cat, st_repl, st_reps, st_lt, st_le, st_gt, st_ge, st_eqi, st_nei, st_eqs, st_nes, st_idxL, st_idxS, st_idxT, st_idxs, at_n, at_0, at_1, at_2, at_m1, st_slcL, st_slcT, st_slcs, cut_nn, cut_n, cut_from, cut_1, cut_to1, st_lens, st_lenL, st_lenS, st_lenT, st_inti, st_intb, st_min2, st_max2, st_sumL, st_allL, st_anyL, st_tupL, st_tupT, st_joinL, st_rcvj, st_sh, st_idxr, st_lenr, st_tupr, st_appr, st_rcvr, st_joinr, st_setr, mulOk_fm, mulOk_r, mulOk_l, st_eq, st_ne, W.eq, W.eqs, W.pl, W.pls, W.dep, W.deps, ← e2, c1, hrow, hjl]
    · have e2' : ¬ (j : Int) = b.length := by omega
      have il : i < a.length := by omega
      have jl : j < b.length := by omega
      have s1 : a[i]? = some a[i] := List.getElem?_eq_getElem il
      have s2 : b[j]? = some b[j] := List.getElem?_eq_getElem jl
      have c2 := hC (i + 1) (by omega)
      obtain ⟨r1, g1, v1⟩ := t.old (i + 1) (j + 1) (by omega) (by omega) (by omega)
      obtain ⟨r1', g1', v2⟩ := t.old (i + 1) j (by omega) (by omega) (by omega)
      rw [g1] at g1'
      cases g1'
      obtain ⟨r3, g3, v3⟩ := t.new (j + 1) (by omega) (by omega)
      rw [hrow] at g3
      cases g3
      rw [drop_cons il, drop_cons jl]
      by_cases e : a[i] = b[j]
      · rw [e, dist_eq]
        simp [ev, evs, evT, evO, evC, evI, asgT, asgTs, evH, pickH, ex, exB, runD, look, seqOf, isKds, isKd, szOk, bnd_ok, bnd_exc, noX_ok, wipe, st_mkt, st_mkf, st_addi, st_adds, st_addt, st_auI, st_auS, st_sub, st_mul, st_fdiv, st_mod, st_pow, st_cat, st_repl, st_reps, st_lt, st_le, st_gt, st_ge, st_eqi, st_nei, st_eqs, st_nes, st_idxL, st_idxS, st_idxT, st_idxs, at_n, at_0, at_1, at_2, at_m1, st_slcL, st_slcT, st_slcs, cut_nn, cut_n, cut_from, cut_1, cut_to1, st_lens, st_lenL, st_lenS, st_lenT, st_inti, st_intb, st_min2, st_max2, st_sumL, st_allL, st_anyL, st_tupL, st_tupT, st_joinL, st_rcvj, st_sh, st_idxr, st_lenr, st_tupr, st_appr, st_rcvr, st_joinr, st_setr, mulOk_fm, mulOk_r, mulOk_l, st_eq, st_ne, W.eq, W.eqs, W.pl, W.pls, W.dep, W.deps, b2_0, h1, h2, e1', e2', c1, hrow, hjl, s1, s2, e, at_s, c2, g1, v1]
      · rw [dist_ne e, ← drop_cons il, ← drop_cons jl]
        simp [ev, evs, evT, evO, evC, evI, asgT, asgTs, evH, pickH, ex, exB, runD, look, seqOf, isKds, isKd, szOk, bnd_ok, bnd_exc, noX_ok, wipe, st_mkt, st_mkf, st_addi, st_adds, st_addt, st_auI, st_auS, st_sub, st_mul, st_fdiv, st_mod, st_pow, st_cat, st_repl, st_reps, st_lt, st_le, st_gt, st_ge, st_eqi, st_nei, st_eqs, st_nes, st_idxL, st_idxS, st_idxT, st_idxs, at_n, at_0, at_1, at_2, at_m1, st_slcL, st_slcT, st_slcs, cut_nn, cut_n, cut_from, cut_1, cut_to1, st_lens, st_lenL, st_lenS, st_lenT, st_inti, st_intb, st_min2, st_max2, st_sumL, st_allL, st_anyL, st_tupL, st_tupT, st_joinL, st_rcvj, st_sh, st_idxr, st_lenr, st_tupr, st_appr, st_rcvr, st_joinr, st_setr, mulOk_fm, mulOk_r, mulOk_l, st_eq, st_ne, W.eq, W.eqs, W.pl, W.pls, W.dep, W.deps, b2_0, h1, h2, e1', e2', c1, hrow, hjl, s1, s2, e, at_s, c2, g1, v2, v3]
        congr 3
        generalize dist (List.drop (i + 1) a) (List.drop j b) = x
        generalize dist (List.drop i a) (List.drop (j + 1) b) = y
        split
        · congr 1
          omega
        · congr 1
          omega
/-! the loops -/
abbrev aj (n : Nat) : W → Sl → List O → Res Sl := fun w sw G => asgT (cl n) gk (.nm 4) w sw G
abbrev ai (n : Nat) : W → Sl → List O → Res Sl := fun w sw G => asgT (cl n) gk (.nm 3) w sw G
theorem row7 (n : Nat) (a b : List Nat) (ha : a.length ≤ 1000) (hb : b.length ≤ 1000) (refs : List W) (hC : ∀ i, i ≤ a.length → refs[i]? = some (.ref i)) (i : Nat) (hi : i ≤ a.length) (y : Option W) (G : List O) (t : Tab a b i (b.length + 1) G) :
    ∃ G' y', exB (cl n) gk wf b2_1 [some (.str a), some (.str b), some (.lst refs), some (.int i), y] G = .ok (.nx [some (.str a), some (.str b), some (.lst refs), some (.int i), y']) G' ∧ Tab a b i 0 G' := by
  have h2 : b.length ≤ 16777216 := by omega
  have hsm : small (b.length : Int) = true := small_nat _ (by omega)
  obtain ⟨sw', G', e, hst⟩ := forL_at (asg := aj n) (body := fun sw G => exB (cl n) gk wf b2_0 sw G) (s := ⟨rng3L (b.length : Int) (-1) (-1), none⟩) ((List.range (b.length + 1)).map fun (k : Nat) => W.int ((b.length : Int) - (k : Int)))
    (fun k sw G => (∃ y, sw = [some (.str a), some (.str b), some (.lst refs), some (.int i), y]) ∧ Tab a b i (b.length + 1 - k) G) [some (.str a), some (.str b), some (.lst refs), some (.int i), y] G ⟨⟨_, rfl⟩, t⟩ (fun _ _ _ _ _ => rfl) (fun k x sw G hx ⟨⟨y, hsw⟩, ht⟩ => by
      subst hsw
      obtain ⟨hk, rfl⟩ := dn_get hx
      have e : b.length + 1 - k = (b.length - k) + 1 := by omega
      rw [e] at ht
      obtain ⟨G', e1, t1⟩ := s7 n a b ha hb refs hC i (b.length - k) hi (by omega) G ht
      exact ⟨[some (.str a), some (.str b), some (.lst refs), some (.int i), some (.int ((b.length - k : Nat) : Int))], G, _, G', by simp [ev, evs, evT, evO, evC, evI, asgT, asgTs, evH, pickH, ex, exB, runD, look, seqOf, isKds, isKd, szOk, bnd_ok, bnd_exc, noX_ok, wipe, st_mkt, st_mkf, st_addi, st_adds, st_addt, st_auI, st_auS, st_sub, st_mul, st_fdiv, st_mod, st_pow, st_cat, st_repl, st_reps, st_lt, st_le, st_gt, st_ge, st_eqi, st_nei, st_eqs, st_nes, st_idxL, st_idxS, st_idxT, st_idxs, at_n, at_0, at_1, at_2, at_m1, st_slcL, st_slcT, st_slcs, cut_nn, cut_n, cut_from, cut_1, cut_to1, st_lens, st_lenL, st_lenS, st_lenT, st_inti, st_intb, st_min2, st_max2, st_sumL, st_allL, st_anyL, st_tupL, st_tupT, st_joinL, st_rcvj, st_sh, st_idxr, st_lenr, st_tupr, st_appr, st_rcvr, st_joinr, st_setr, mulOk_fm, mulOk_r, mulOk_l, st_eq, st_ne, W.eq, W.eqs, W.pl, W.pls, W.dep, W.deps, aj], .inl e1, ⟨_, rfl⟩, by
        have e : b.length + 1 - (k + 1) = b.length - k := by omega
        rw [e]
        exact t1⟩)
  obtain ⟨⟨y', rfl⟩, ht⟩ := hst
  refine ⟨G', y', ?_, by simpa using ht⟩
  delta aj at e
  rw [← dn] at e
  simp [ev, evs, evT, evO, evC, evI, asgT, asgTs, evH, pickH, ex, exB, runD, look, seqOf, isKds, isKd, szOk, bnd_ok, bnd_exc, noX_ok, wipe, st_mkt, st_mkf, st_addi, st_adds, st_addt, st_auI, st_auS, st_sub, st_mul, st_fdiv, st_mod, st_pow, st_cat, st_repl, st_reps, st_lt, st_le, st_gt, st_ge, st_eqi, st_nei, st_eqs, st_nes, st_idxL, st_idxS, st_idxT, st_idxs, at_n, at_0, at_1, at_2, at_m1, st_slcL, st_slcT, st_slcs, cut_nn, cut_n, cut_from, cut_1, cut_to1, st_lens, st_lenL, st_lenS, st_lenT, st_inti, st_intb, st_min2, st_max2, st_sumL, st_allL, st_anyL, st_tupL, st_tupT, st_joinL, st_rcvj, st_sh, st_idxr, st_lenr, st_tupr, st_appr, st_rcvr, st_joinr, st_setr, mulOk_fm, mulOk_r, mulOk_l, st_eq, st_ne, W.eq, W.eqs, W.pl, W.pls, W.dep, W.deps] at e
  simp [ev, evs, evT, evO, evC, evI, asgT, asgTs, evH, pickH, ex, exB, runD, look, seqOf, isKds, isKd, szOk, bnd_ok, bnd_exc, noX_ok, wipe, st_mkt, st_mkf, st_addi, st_adds, st_addt, st_auI, st_auS, st_sub, st_mul, st_fdiv, st_mod, st_pow, st_cat, st_repl, st_reps, st_lt, st_le, st_gt, st_ge, st_eqi, st_nei, st_eqs, st_nes, st_idxL, st_idxS, st_idxT, st_idxs, at_n, at_0, at_1, at_2, at_m1, st_slcL, st_slcT, st_slcs, cut_nn, cut_n, cut_from, cut_1, cut_to1, st_lens, st_lenL, st_lenS, st_lenT, st_inti, st_intb, st_min2, st_max2, st_sumL, st_allL, st_anyL, st_tupL, st_tupT, st_joinL, st_rcvj, st_sh, st_idxr, st_lenr, st_tupr, st_appr, st_rcvr, st_joinr, st_setr, mulOk_fm, mulOk_r, mulOk_l, st_eq, st_ne, W.eq, W.eqs, W.pl, W.pls, W.dep, W.deps, b2_1, h2, hsm, e, small_m1]
theorem all7 (n : Nat) (a b : List Nat) (ha : a.length ≤ 1000) (hb : b.length ≤ 1000) (refs : List W) (hC : ∀ i, i ≤ a.length → refs[i]? = some (.ref i)) (x y : Option W) (G : List O) (hG : G.length = a.length + 1) (hr : ∀ i', i' ≤ a.length → ∃ row, G[i']? = some (.lst row) ∧ row.length = b.length + 1) :
    ∃ G' sw', forL (ai n) (fun sw G => exB (cl n) gk wf b2_1 sw G) ⟨rng3L (a.length : Int) (-1) (-1), none⟩ (rng3L (a.length : Int) (-1) (-1)) [some (.str a), some (.str b), some (.lst refs), x, y] G = .ok (.nx sw') G' ∧ sw'[2]? = some (some (.lst refs)) ∧ Tab a b 0 0 G' := by
  obtain ⟨sw', G', e, hst⟩ := forL_at (asg := ai n) (body := fun sw G => exB (cl n) gk wf b2_1 sw G) (s := ⟨rng3L (a.length : Int) (-1) (-1), none⟩) ((List.range (a.length + 1)).map fun (k : Nat) => W.int ((a.length : Int) - (k : Int)))
    (fun k sw G => (∃ x y, sw = [some (.str a), some (.str b), some (.lst refs), x, y]) ∧ (k = 0 → G.length = a.length + 1 ∧ ∀ i', i' ≤ a.length → ∃ row, G[i']? = some (.lst row) ∧ row.length = b.length + 1) ∧ (0 < k → Tab a b (a.length + 1 - k) 0 G)) [some (.str a), some (.str b), some (.lst refs), x, y] G ⟨⟨_, _, rfl⟩, fun _ => ⟨hG, hr⟩, fun z => absurd z (Nat.lt_irrefl 0)⟩ (fun _ _ _ _ _ => rfl) (fun k w sw G hx ⟨⟨x, y, hsw⟩, h0, h1⟩ => by
      subst hsw
      obtain ⟨hk, rfl⟩ := dn_get hx
      have t : Tab a b (a.length - k) (b.length + 1) G := by
        rcases Nat.eq_zero_or_pos k with z | z
        · obtain ⟨q1, q2⟩ := h0 z
          subst z
          exact ⟨q1, q2, fun i' j' p1 p2 _ => by omega, fun j' p1 p2 => by omega⟩
        · have q := h1 z
          have e : a.length + 1 - k = (a.length - k) + 1 := by omega
          rw [e] at q
          refine ⟨q.len, q.row, fun i' j' p1 p2 p3 => ?_, fun j' p1 p2 => by omega⟩
          by_cases z2 : i' = a.length - k + 1
          · rw [z2]
            exact q.new j' (Nat.zero_le _) p3
          · exact q.old i' j' (by omega) p2 p3
      obtain ⟨G', y', e1, t1⟩ := row7 n a b ha hb refs hC (a.length - k) (by omega) y G t
      exact ⟨[some (.str a), some (.str b), some (.lst refs), some (.int ((a.length - k : Nat) : Int)), y], G, _, G', by simp [ev, evs, evT, evO, evC, evI, asgT, asgTs, evH, pickH, ex, exB, runD, look, seqOf, isKds, isKd, szOk, bnd_ok, bnd_exc, noX_ok, wipe, st_mkt, st_mkf, st_addi, st_adds, st_addt, st_auI, st_auS, st_sub, st_mul, st_fdiv, st_mod, st_pow, st_cat, st_repl, st_reps, st_lt, st_le, st_gt, st_ge, st_eqi, st_nei, st_eqs, st_nes, st_idxL, st_idxS, st_idxT, st_idxs, at_n, at_0, at_1, at_2, at_m1, st_slcL, st_slcT, st_slcs, cut_nn, cut_n, cut_from, cut_1, cut_to1, st_lens, st_lenL, st_lenS, st_lenT, st_inti, st_intb, st_min2, st_max2, st_sumL, st_allL, st_anyL, st_tupL, st_tupT, st_joinL, st_rcvj, st_sh, st_idxr, st_lenr, st_tupr, st_appr, st_rcvr, st_joinr, st_setr, mulOk_fm, mulOk_r, mulOk_l, st_eq, st_ne, W.eq, W.eqs, W.pl, W.pls, W.dep, W.deps, ai], .inl e1, ⟨_, _, rfl⟩, fun z => by omega, fun _ => by
        have e : a.length + 1 - (k + 1) = a.length - k := by omega
        rw [e]
        exact t1⟩)
  obtain ⟨⟨x', y', rfl⟩, _, ht⟩ := hst
  rw [← dn] at e
  refine ⟨G', _, e, rfl, ?_⟩
  have := ht (by simp)
  simpa using this
/-- the table, read off -/
def rowd (a b : List Nat) (i : Nat) : List W := (List.range (b.length + 1)).map fun j => .int (dist (a.drop i) (b.drop j) : Nat)
def tbl (a b : List Nat) : List W := (List.range (a.length + 1)).map fun i => .lst (rowd a b i)
theorem Tab.at_ {a b : List Nat} {G : List O} (t : Tab a b 0 0 G) (i : Nat) (hi : i ≤ a.length) : G[i]? = some (.lst (rowd a b i)) := by
  obtain ⟨row, h, hl⟩ := t.row i hi
  rw [h]
  congr 2
  apply List.ext_getElem?
  intro j
  by_cases hj : j ≤ b.length
  · have hc : cell G i j (dist (a.drop i) (b.drop j)) := by
      rcases Nat.eq_zero_or_pos i with z | z
      · rw [z]
        exact t.new j (Nat.zero_le _) hj
      · exact t.old i j z hi hj
    obtain ⟨row2, h2, e⟩ := hc
    rw [h] at h2
    cases h2
    rw [e]
    simp [rowd, List.getElem?_range (show j < b.length + 1 by omega)]
  · rw [List.getElem?_eq_none (by omega), List.getElem?_eq_none (by simp [rowd]; omega)]
theorem rowd_nr (a b : List Nat) (i : Nat) : W.nrs (rowd a b i) = true := by
  rw [W.nrs_all]
  simp [rowd, List.all_map, Function.comp_def, W.nr]
theorem frz_refs {G : List O} {r : Nat → List W} : ∀ is : List Nat, (∀ i ∈ is, G[i]? = some (.lst (r i)) ∧ W.nrs (r i) = true) → frzs G (is.map W.ref) = some (is.map fun i => .lst (r i))
  | [], _ => rfl
  | i :: is, h => by
    obtain ⟨h1, h2⟩ := h i List.mem_cons_self
    have ih := frz_refs is fun j hj => h j (List.mem_cons_of_mem _ hj)
    simp only [List.map_cons, frzs, frz, h1, h2, if_true, ih]
theorem t7 (n : Nat) (a b : List Nat) (ha : a.length ≤ 1000) (hb : b.length ≤ 1000) (G : List O) : callW (cl (n + 1)) .iso 2 [.str a, .str b] G = .ok (.lst (tbl a b)) G := by
  have h1 : a.length ≤ 16777216 := by omega
  have h2 : b.length ≤ 16777216 := by omega
  have h3 : ((b.length : Int) + 1).toNat = b.length + 1 := by omega
  have h4 : (0 : Int) ≤ (b.length : Int) + 1 := by omega
  have h5 : b.length + 1 ≤ 16777216 := by omega
  have hfl : (List.replicate (b.length + 1) [W.int 0]).flatten = List.replicate (b.length + 1) (.int 0) := by simp
  have hr : rngL 0 ((a.length : Int) + 1) = (List.range (a.length + 1)).map fun (k : Nat) => W.int (0 + (k : Int)) := by
    unfold rngL
    have : ((a.length : Int) + 1 - 0).toNat = a.length + 1 := by omega
    rw [this]
  obtain ⟨ys, G1, el, hst, hlen⟩ := lcL_rel (asg := fun x G => asgT (cl n) gk (.nm 3) x [some (.str a), some (.str b), none, none, none] G) (cd := fun sw1 G => evC (cl n) gk .no sw1 G) (e := fun sw1 G => ev (cl n) gk e2_2 sw1 G) (s := ⟨rngL 0 ((a.length : Int) + 1), none⟩)
    (fun acc G => acc = (List.range G.length).map W.ref ∧ (∀ i, i < G.length → G[i]? = some (.lst (List.replicate (b.length + 1) (.int 0)))) ∧ acc.length = G.length) (fun _ _ _ => rfl) (rngL 0 ((a.length : Int) + 1)) [] [] (by rw [hr]; simp; omega) ⟨rfl, fun i hi => by simp at hi, rfl⟩ (fun x acc G hx ⟨e1, e2, e3⟩ => by
      refine ⟨[some (.str a), some (.str b), none, some x, none], G, G, .ref G.length, G ++ [.lst (List.replicate (b.length + 1) (.int 0))], by simp [ev, evs, evT, evO, evC, evI, asgT, asgTs, evH, pickH, ex, exB, runD, look, seqOf, isKds, isKd, szOk, bnd_ok, bnd_exc, noX_ok, wipe, st_mkt, st_mkf, st_addi, st_adds, st_addt, st_auI, st_auS, st_sub, st_mul, st_fdiv, st_mod, st_pow, st_cat, st_repl, st_reps, st_lt, st_le, st_gt, st_ge, st_eqi, st_nei, st_eqs, st_nes, st_idxL, st_idxS, st_idxT, st_idxs, at_n, at_0, at_1, at_2, at_m1, st_slcL, st_slcT, st_slcs, cut_nn, cut_n, cut_from, cut_1, cut_to1, st_lens, st_lenL, st_lenS, st_lenT, st_inti, st_intb, st_min2, st_max2, st_sumL, st_allL, st_anyL, st_tupL, st_tupT, st_joinL, st_rcvj, st_sh, st_idxr, st_lenr, st_tupr, st_appr, st_rcvr, st_joinr, st_setr, mulOk_fm, mulOk_r, mulOk_l, st_eq, st_ne, W.eq, W.eqs, W.pl, W.pls, W.dep, W.deps], by simp [ev, evs, evT, evO, evC, evI, asgT, asgTs, evH, pickH, ex, exB, runD, look, seqOf, isKds, isKd, szOk, bnd_ok, bnd_exc, noX_ok, wipe, st_mkt, st_mkf, st_addi, st_adds, st_addt, st_auI, st_auS, st_sub, st_mul, st_fdiv, st_mod, st_pow, st_cat, st_repl, st_reps, st_lt, st_le, st_gt, st_ge, st_eqi, st_nei, st_eqs, st_nes, st_idxL, st_idxS, st_idxT, st_idxs, at_n, at_0, at_1, at_2, at_m1, st_slcL, st_slcT, st_slcs, cut_nn, cut_n, cut_from, cut_1, cut_to1, st_lens, st_lenL, st_lenS, st_lenT, st_inti, st_intb, st_min2, st_max2, st_sumL, st_allL, st_anyL, st_tupL, st_tupT, st_joinL, st_rcvj, st_sh, st_idxr, st_lenr, st_tupr, st_appr, st_rcvr, st_joinr, st_setr, mulOk_fm, mulOk_r, mulOk_l, st_eq, st_ne, W.eq, W.eqs, W.pl, W.pls, W.dep, W.deps], by simp [ev, evs, evT, evO, evC, evI, asgT, asgTs, evH, pickH, ex, exB, runD, look, seqOf, isKds, isKd, szOk, bnd_ok, bnd_exc, noX_ok, wipe, st_mkt, st_mkf, st_addi, st_adds, st_addt, st_auI, st_auS, st_sub, st_mul, st_fdiv, st_mod, st_pow, st_cat, st_repl, st_reps, st_lt, st_le, st_gt, st_ge, st_eqi, st_nei, st_eqs, st_nes, st_idxL, st_idxS, st_idxT, st_idxs, at_n, at_0, at_1, at_2, at_m1, st_slcL, st_slcT, st_slcs, cut_nn, cut_n, cut_from, cut_1, cut_to1, st_lens, st_lenL, st_lenS, st_lenT, st_inti, st_intb, st_min2, st_max2, st_sumL, st_allL, st_anyL, st_tupL, st_tupT, st_joinL, st_rcvj, st_sh, st_idxr, st_lenr, st_tupr, st_appr, st_rcvr, st_joinr, st_setr, mulOk_fm, mulOk_r, mulOk_l, st_eq, st_ne, W.eq, W.eqs, W.pl, W.pls, W.dep, W.deps, e2_2, h2, h3, h4, h5, hfl], ?_, fun i hi => ?_, by simp [e3]⟩
      · rw [e1, List.length_append, List.length_singleton, List.range_succ, List.map_append]
        rfl
      · by_cases z : i < G.length
        · rw [List.getElem?_append_left z]
          exact e2 i z
        · have : i = G.length := by
            rw [List.length_append, List.length_singleton] at hi
            omega
          subst this
          simp)
  have hG1 : G1.length = a.length + 1 := by
    rw [← hst.2.2, hlen, hr]
    simp
  have hys : ys = (List.range (a.length + 1)).map W.ref := by rw [hst.1, hG1]
  obtain ⟨G2, sw', ef, hsw, t⟩ := all7 n a b ha hb ys (fun i hi => by rw [hys]; simp [List.getElem?_range (show i < a.length + 1 by omega)]) none none G1 hG1 fun i' hi' => ⟨_, hst.2.1 i' (by omega), by simp⟩
  refine iso_ok rfl (G1 := G2) (w := .lst ys) ?_ ?_
  · have hsm : small ((a.length : Int) + 1) = true := by
      have := small_nat (a.length + 1) (by omega)
      simpa using this
    have hsm2 : small (a.length : Int) = true := small_nat _ (by omega)
    have hyl : ys.length ≤ 16777216 := by rw [hys]; simp; omega
    delta ai at ef
    rw [c2]
    simp [ev, evs, evT, evO, evC, evI, asgT, asgTs, evH, pickH, ex, exB, runD, look, seqOf, isKds, isKd, szOk, bnd_ok, bnd_exc, noX_ok, wipe, st_mkt, st_mkf, st_addi, st_adds, st_addt, st_auI, st_auS, st_sub, st_mul, st_fdiv, st_mod, st_pow, st_cat, st_repl, st_reps, st_lt, st_le, st_gt, st_ge, st_eqi, st_nei, st_eqs, st_nes, st_idxL, st_idxS, st_idxT, st_idxs, at_n, at_0, at_1, at_2, at_m1, st_slcL, st_slcT, st_slcs, cut_nn, cut_n, cut_from, cut_1, cut_to1, st_lens, st_lenL, st_lenS, st_lenT, st_inti, st_intb, st_min2, st_max2, st_sumL, st_allL, st_anyL, st_tupL, st_tupT, st_joinL, st_rcvj, st_sh, st_idxr, st_lenr, st_tupr, st_appr, st_rcvr, st_joinr, st_setr, mulOk_fm, mulOk_r, mulOk_l, st_eq, st_ne, W.eq, W.eqs, W.pl, W.pls, W.dep, W.deps] at el ef
    simp [ev, evs, evT, evO, evC, evI, asgT, asgTs, evH, pickH, ex, exB, runD, look, seqOf, isKds, isKd, szOk, bnd_ok, bnd_exc, noX_ok, wipe, st_mkt, st_mkf, st_addi, st_adds, st_addt, st_auI, st_auS, st_sub, st_mul, st_fdiv, st_mod, st_pow, st_cat, st_repl, st_reps, st_lt, st_le, st_gt, st_ge, st_eqi, st_nei, st_eqs, st_nes, st_idxL, st_idxS, st_idxT, st_idxs, at_n, at_0, at_1, at_2, at_m1, st_slcL, st_slcT, st_slcs, cut_nn, cut_n, cut_from, cut_1, cut_to1, st_lens, st_lenL, st_lenS, st_lenT, st_inti, st_intb, st_min2, st_max2, st_sumL, st_allL, st_anyL, st_tupL, st_tupT, st_joinL, st_rcvj, st_sh, st_idxr, st_lenr, st_tupr, st_appr, st_rcvr, st_joinr, st_setr, mulOk_fm, mulOk_r, mulOk_l, st_eq, st_ne, W.eq, W.eqs, W.pl, W.pls, W.dep, W.deps, d2, b2, h1, hsm, hsm2, small_m1, el, hyl, ef, hsw]
  · rw [hys]
    simp only [frz, frz_refs (r := rowd a b) (List.range (a.length + 1)) fun i hi => ⟨t.at_ i (by have := List.mem_range.mp hi; omega), rowd_nr a b i⟩]
    rfl
end K64
end

section
set_option linter.all false
set_option maxRecDepth 100000
set_option maxHeartbeats 4000000
/-! k64: the least edit. -/
namespace K64
open T2
theorem tbl_at (a b : List Nat) (i : Nat) (h : i ≤ a.length) : (tbl a b)[i]? = some (.lst (rowd a b i)) := by simp [tbl, List.getElem?_range (show i < a.length + 1 by omega)]
theorem rowd_at (a b : List Nat) (i j : Nat) (h : j ≤ b.length) : (rowd a b i)[j]? = some (.int (dist (a.drop i) (b.drop j) : Nat)) := by simp [rowd, List.getElem?_range (show j < b.length + 1 by omega)]
/-- the slots, the heap -/
def bp1 (B : List Bl) (k : List Nat) : Nat := (K64.one B ++ k).length
def bp2 (B : List Bl) (k : List Nat) : Nat := (K64.oth B ++ k).length
def beg : Sta → W
  | (_, _, none) => .non
  | (B, k, some _) => .tup [.int (bp1 B k), .int (bp2 B k)]
def sl8 (a b : List Nat) (s : Sta) : Sl := [some (.str a), some (.str b), some (.lst (tbl a b)), some (.ref 0), some (beg s), some (.int (s.one.length : Nat)), some (.int (s.oth.length : Nat))]
def g8 (s : Sta) : List O := [.lst ((eds 0 s.1).map enc)]
abbrev t8 (n : Nat) : Sl → List O → Res Bool := fun sw G => evT (cl n) gk b3_0t sw G
abbrev f8 (n : Nat) : Sl → List O → Res Fl := fun sw G => exB (cl n) gk wf b3_0 sw G
theorem eds_len2 (B : List Bl) : ((eds 0 B).map enc).length = B.length := by rw [List.length_map, eds_len]
theorem cut_mid (p g r : List Nat) : cutW (p ++ g ++ r) (some ((p.length : Nat) : Int)) (some (((p ++ g).length : Nat) : Int)) = g := by
  rw [cut_nn, List.append_assoc, List.drop_left, List.length_append, Nat.add_sub_cancel_left, List.take_left]
theorem cut_mid' {p g r t : List Nat} {i j : Nat} (h : t = p ++ g ++ r) (hi : i = p.length) (hj : j = (p ++ g).length) : cutW t (some (i : Int)) (some (j : Int)) = g := by
  rw [h, hi, hj]
  exact cut_mid p g r
theorem one_some (B : List Bl) (k g c : List Nat) : Sta.one (B, k, some (g, c)) = (K64.one B ++ k) ++ g := by simp [Sta.one, Sta.bl, Sta.tl, one_app, K64.one]
theorem oth_some (B : List Bl) (k g c : List Nat) : Sta.oth (B, k, some (g, c)) = (K64.oth B ++ k) ++ c := by simp [Sta.oth, Sta.bl, Sta.tl, oth_app, K64.oth]
theorem k8 (n : Nat) (a b : List Nat) (ha : a.length ≤ 400) (hb : b.length ≤ 400) (x : Nat) (as bs : List Nat) (s : Sta) (hB : s.1.length ≤ 1000) (e1 : a = s.one ++ x :: as) (e2 : b = s.oth ++ x :: bs) : f8 n (sl8 a b s) (g8 s) = .ok (.nx (sl8 a b (stp 0 x x s))) (g8 (stp 0 x x s)) := by
  have h1 : a.length ≤ 16777216 := by omega
  have h2 : b.length ≤ 16777216 := by omega
  have L1 : ((stp 0 x x s).one.length : Int) = s.one.length + 1 := by rw [stp_one]; simp
  have L2 : ((stp 0 x x s).oth.length : Int) = s.oth.length + 1 := by rw [stp_oth]; simp
  have il : s.one.length < a.length := by rw [e1]; simp
  have jl : s.oth.length < b.length := by rw [e2]; simp
  have s1 : a[s.one.length]? = some x := by rw [e1]; simp
  have s2 : b[s.oth.length]? = some x := by rw [e2]; simp
  have s1' : a[s.one.length] = x := by rw [List.getElem?_eq_getElem il] at s1; exact Option.some.inj s1
  have s2' : b[s.oth.length] = x := by rw [List.getElem?_eq_getElem jl] at s2; exact Option.some.inj s2
  simp only [sl8, L1, L2]
  generalize hi : s.one.length = i at *
  generalize hj : s.oth.length = j at *
  clear L1 L2
  obtain ⟨B, k, o⟩ := s
  cases o with
  | none => simp [ev, evs, evT, evO, evC, evI, asgT, asgTs, evH, pickH, ex, exB, runD, look, seqOf, isKds, isKd, szOk, bnd_ok, bnd_exc, noX_ok, wipe, st_mkt, st_mkf, st_addi, st_adds, st_addt, st_auI, st_auS, st_sub, st_mul, st_fdiv, st_mod, st_pow, st_cat, st_repl, st_reps, st_lt, st_le, st_gt, st_ge, st_eqi, st_nei, st_eqs, st_nes, st_idxL, st_idxS, st_idxT, st_idxs, at_n, at_0, at_1, at_2, at_m1, st_slcL, st_slcT, st_slcs, cut_nn, cut_n, cut_from, cut_1, cut_to1, st_lens, st_lenL, st_lenS, st_lenT, st_inti, st_intb, st_min2, st_max2, st_sumL, st_allL, st_anyL, st_tupL, st_tupT, st_joinL, st_rcvj, st_sh, st_idxr, st_lenr, st_tupr, st_appr, st_rcvr, st_joinr, st_setr, mulOk_fm, mulOk_r, mulOk_l, st_eq, st_ne, W.eq, W.eqs, W.pl, W.pls, W.dep, W.deps, f8, b3_0, h1, h2, il, jl, s1', s2', g8, stp, beg]
  | some p =>
    obtain ⟨g, c⟩ := p
    have hB' : B.length < 16777216 := by have : B.length ≤ 1000 := hB; omega
    have q1 : cutW a (some ((bp1 B k : Nat) : Int)) (some (i : Int)) = g := cut_mid' (e1.trans (by rw [one_some])) rfl (by rw [← hi, one_some])
    have q2 : cutW b (some ((bp2 B k : Nat) : Int)) (some (j : Int)) = c := cut_mid' (e2.trans (by rw [oth_some])) rfl (by rw [← hj, oth_some])
    have q3 : eds 0 (B ++ [(k, g, c)]) = eds 0 B ++ [(bp1 B k, g, c)] := by
      rw [eds_app]
      simp [eds, bp1]
    simp only [beg, g8, stp]
    generalize bp1 B k = p at *
    generalize bp2 B k = r at *
    have hE : (eds 0 B).length = B.length := eds_len B 0
    simp only [cut_nn] at q1 q2
    simp [ev, evs, evT, evO, evC, evI, asgT, asgTs, evH, pickH, ex, exB, runD, look, seqOf, isKds, isKd, szOk, bnd_ok, bnd_exc, noX_ok, wipe, st_mkt, st_mkf, st_addi, st_adds, st_addt, st_auI, st_auS, st_sub, st_mul, st_fdiv, st_mod, st_pow, st_cat, st_repl, st_reps, st_lt, st_le, st_gt, st_ge, st_eqi, st_nei, st_eqs, st_nes, st_idxL, st_idxS, st_idxT, st_idxs, at_n, at_0, at_1, at_2, at_m1, st_slcL, st_slcT, st_slcs, cut_nn, cut_n, cut_from, cut_1, cut_to1, st_lens, st_lenL, st_lenS, st_lenT, st_inti, st_intb, st_min2, st_max2, st_sumL, st_allL, st_anyL, st_tupL, st_tupT, st_joinL, st_rcvj, st_sh, st_idxr, st_lenr, st_tupr, st_appr, st_rcvr, st_joinr, st_setr, mulOk_fm, mulOk_r, mulOk_l, st_eq, st_ne, W.eq, W.eqs, W.pl, W.pls, W.dep, W.deps, f8, b3_0, h1, h2, il, jl, s1', s2', g8, stp, beg, q3, enc, hB', hE, q1, q2]
theorem dl8 (n : Nat) (a b : List Nat) (ha : a.length ≤ 400) (hb : b.length ≤ 400) (x z : Nat) (as bs : List Nat) (s : Sta) (e1 : a = s.one ++ x :: as) (e2 : b = s.oth ++ bs) (hne : ∀ y r, bs = y :: r → x ≠ y) (hd : dist (x :: as) bs = 1 + dist as bs) : f8 n (sl8 a b s) (g8 s) = .ok (.nx (sl8 a b (stp 1 x z s))) (g8 (stp 1 x z s)) := by
  have h1 : a.length ≤ 16777216 := by omega
  have h2 : b.length ≤ 16777216 := by omega
  have L1 : ((stp 1 x z s).one.length : Int) = s.one.length + 1 := by rw [stp_one]; simp
  have L2 : ((stp 1 x z s).oth.length : Int) = s.oth.length := by rw [stp_oth]; simp
  have il : s.one.length < a.length := by rw [e1]; simp
  have jl : s.oth.length ≤ b.length := by rw [e2]; simp
  have s1 : a[s.one.length]? = some x := by rw [e1]; simp
  have s1' : a[s.one.length] = x := by rw [List.getElem?_eq_getElem il] at s1; exact Option.some.inj s1
  have da : a.drop s.one.length = x :: as := by rw [e1, List.drop_left]
  have da' : a.drop (s.one.length + 1) = as := by rw [← List.drop_drop, da]; rfl
  have db : b.drop s.oth.length = bs := by rw [e2, List.drop_left]
  have k1 := tbl_at a b s.one.length (by omega)
  have k2 := tbl_at a b (s.one.length + 1) (by omega)
  have r1 := rowd_at a b s.one.length s.oth.length jl
  have r2 := rowd_at a b (s.one.length + 1) s.oth.length jl
  rw [da, db, hd] at r1
  rw [da', db] at r2
  have hdd : ((1 + dist as bs : Nat) : Int) = 1 + (dist as bs : Int) := by omega
  rw [hdd] at r1
  have hc : ∀ G, evT (cl n) gk (.and (.cmp .lt (.v 5) (.blt .len (.cons (.v 0) .nil))) (.and (.cmp .lt (.v 6) (.blt .len (.cons (.v 1) .nil))) (.cmp .eq (.idx (.v 0) (.v 5)) (.idx (.v 1) (.v 6))))) (sl8 a b s) G = .ok false G := fun G => by
    cases bs with
    | nil =>
      have : ¬ s.oth.length < b.length := by rw [e2]; simp
      simp [ev, evs, evT, evO, evC, evI, asgT, asgTs, evH, pickH, ex, exB, runD, look, seqOf, isKds, isKd, szOk, bnd_ok, bnd_exc, noX_ok, wipe, st_mkt, st_mkf, st_addi, st_adds, st_addt, st_auI, st_auS, st_sub, st_mul, st_fdiv, st_mod, st_pow, st_cat, st_repl, st_reps, st_lt, st_le, st_gt, st_ge, st_eqi, st_nei, st_eqs, st_nes, st_idxL, st_idxS, st_idxT, st_idxs, at_n, at_0, at_1, at_2, at_m1, st_slcL, st_slcT, st_slcs, cut_nn, cut_n, cut_from, cut_1, cut_to1, st_lens, st_lenL, st_lenS, st_lenT, st_inti, st_intb, st_min2, st_max2, st_sumL, st_allL, st_anyL, st_tupL, st_tupT, st_joinL, st_rcvj, st_sh, st_idxr, st_lenr, st_tupr, st_appr, st_rcvr, st_joinr, st_setr, mulOk_fm, mulOk_r, mulOk_l, st_eq, st_ne, W.eq, W.eqs, W.pl, W.pls, W.dep, W.deps, sl8, h1, h2, il, this]
    | cons y r =>
      have jl' : s.oth.length < b.length := by rw [e2]; simp
      have s2 : b[s.oth.length]? = some y := by rw [e2]; simp
      have s2' : b[s.oth.length] = y := by rw [List.getElem?_eq_getElem jl'] at s2; exact Option.some.inj s2
      have := hne y r rfl
      simp [ev, evs, evT, evO, evC, evI, asgT, asgTs, evH, pickH, ex, exB, runD, look, seqOf, isKds, isKd, szOk, bnd_ok, bnd_exc, noX_ok, wipe, st_mkt, st_mkf, st_addi, st_adds, st_addt, st_auI, st_auS, st_sub, st_mul, st_fdiv, st_mod, st_pow, st_cat, st_repl, st_reps, st_lt, st_le, st_gt, st_ge, st_eqi, st_nei, st_eqs, st_nes, st_idxL, st_idxS, st_idxT, st_idxs, at_n, at_0, at_1, at_2, at_m1, st_slcL, st_slcT, st_slcs, cut_nn, cut_n, cut_from, cut_1, cut_to1, st_lens, st_lenL, st_lenS, st_lenT, st_inti, st_intb, st_min2, st_max2, st_sumL, st_allL, st_anyL, st_tupL, st_tupT, st_joinL, st_rcvj, st_sh, st_idxr, st_lenr, st_tupr, st_appr, st_rcvr, st_joinr, st_setr, mulOk_fm, mulOk_r, mulOk_l, st_eq, st_ne, W.eq, W.eqs, W.pl, W.pls, W.dep, W.deps, sl8, h1, h2, il, jl', s1', s2', this]
  have hc := hc (g8 s)
  simp only [f8, b3_0, exB, ex]
  rw [hc]
  simp only [sl8, L1, L2]
  generalize hi : s.one.length = i at *
  generalize hj : s.oth.length = j at *
  clear L1 L2 hc
  obtain ⟨B, k, o⟩ := s
  cases o with
  | none =>
    have e3 : bp1 B k = i := by rw [← hi]; simp [bp1, Sta.one, Sta.bl, Sta.tl]
    have e4 : bp2 B k = j := by rw [← hj]; simp [bp2, Sta.oth, Sta.bl, Sta.tl]
    simp [ev, evs, evT, evO, evC, evI, asgT, asgTs, evH, pickH, ex, exB, runD, look, seqOf, isKds, isKd, szOk, bnd_ok, bnd_exc, noX_ok, wipe, st_mkt, st_mkf, st_addi, st_adds, st_addt, st_auI, st_auS, st_sub, st_mul, st_fdiv, st_mod, st_pow, st_cat, st_repl, st_reps, st_lt, st_le, st_gt, st_ge, st_eqi, st_nei, st_eqs, st_nes, st_idxL, st_idxS, st_idxT, st_idxs, at_n, at_0, at_1, at_2, at_m1, st_slcL, st_slcT, st_slcs, cut_nn, cut_n, cut_from, cut_1, cut_to1, st_lens, st_lenL, st_lenS, st_lenT, st_inti, st_intb, st_min2, st_max2, st_sumL, st_allL, st_anyL, st_tupL, st_tupT, st_joinL, st_rcvj, st_sh, st_idxr, st_lenr, st_tupr, st_appr, st_rcvr, st_joinr, st_setr, mulOk_fm, mulOk_r, mulOk_l, st_eq, st_ne, W.eq, W.eqs, W.pl, W.pls, W.dep, W.deps, h1, h2, il, g8, stp, beg, e3, e4, k1, at_s, k2, r1, r2]
  | some p =>
    obtain ⟨g, c⟩ := p
    simp [ev, evs, evT, evO, evC, evI, asgT, asgTs, evH, pickH, ex, exB, runD, look, seqOf, isKds, isKd, szOk, bnd_ok, bnd_exc, noX_ok, wipe, st_mkt, st_mkf, st_addi, st_adds, st_addt, st_auI, st_auS, st_sub, st_mul, st_fdiv, st_mod, st_pow, st_cat, st_repl, st_reps, st_lt, st_le, st_gt, st_ge, st_eqi, st_nei, st_eqs, st_nes, st_idxL, st_idxS, st_idxT, st_idxs, at_n, at_0, at_1, at_2, at_m1, st_slcL, st_slcT, st_slcs, cut_nn, cut_n, cut_from, cut_1, cut_to1, st_lens, st_lenL, st_lenS, st_lenT, st_inti, st_intb, st_min2, st_max2, st_sumL, st_allL, st_anyL, st_tupL, st_tupT, st_joinL, st_rcvj, st_sh, st_idxr, st_lenr, st_tupr, st_appr, st_rcvr, st_joinr, st_setr, mulOk_fm, mulOk_r, mulOk_l, st_eq, st_ne, W.eq, W.eqs, W.pl, W.pls, W.dep, W.deps, h1, h2, il, g8, stp, beg, k1, at_s, k2, r1, r2]
theorem in8 (n : Nat) (a b : List Nat) (ha : a.length ≤ 400) (hb : b.length ≤ 400) (y z : Nat) (as bs : List Nat) (s : Sta) (e1 : a = s.one ++ as) (e2 : b = s.oth ++ y :: bs) (hd : ∀ x r, as = x :: r → x ≠ y ∧ dist (x :: r) (y :: bs) ≠ 1 + dist r (y :: bs)) : f8 n (sl8 a b s) (g8 s) = .ok (.nx (sl8 a b (stp 2 z y s))) (g8 (stp 2 z y s)) := by
  have h1 : a.length ≤ 16777216 := by omega
  have h2 : b.length ≤ 16777216 := by omega
  have L1 : ((stp 2 z y s).one.length : Int) = s.one.length := by rw [stp_one]; simp
  have L2 : ((stp 2 z y s).oth.length : Int) = s.oth.length + 1 := by rw [stp_oth]; simp
  have jl : s.oth.length < b.length := by rw [e2]; simp
  have s2 : b[s.oth.length]? = some y := by rw [e2]; simp
  have s2' : b[s.oth.length] = y := by rw [List.getElem?_eq_getElem jl] at s2; exact Option.some.inj s2
  have db : b.drop s.oth.length = y :: bs := by rw [e2, List.drop_left]
  simp only [sl8, L1, L2]
  clear L1 L2
  cases as with
  | nil =>
    have il : ¬ s.one.length < a.length := by rw [e1]; simp
    generalize hi : s.one.length = i at *
    generalize hj : s.oth.length = j at *
    obtain ⟨B, k, o⟩ := s
    cases o with
    | none =>
      have e3 : bp1 B k = i := by rw [← hi]; simp [bp1, Sta.one, Sta.bl, Sta.tl]
      have e4 : bp2 B k = j := by rw [← hj]; simp [bp2, Sta.oth, Sta.bl, Sta.tl]
      simp [ev, evs, evT, evO, evC, evI, asgT, asgTs, evH, pickH, ex, exB, runD, look, seqOf, isKds, isKd, szOk, bnd_ok, bnd_exc, noX_ok, wipe, st_mkt, st_mkf, st_addi, st_adds, st_addt, st_auI, st_auS, st_sub, st_mul, st_fdiv, st_mod, st_pow, st_cat, st_repl, st_reps, st_lt, st_le, st_gt, st_ge, st_eqi, st_nei, st_eqs, st_nes, st_idxL, st_idxS, st_idxT, st_idxs, at_n, at_0, at_1, at_2, at_m1, st_slcL, st_slcT, st_slcs, cut_nn, cut_n, cut_from, cut_1, cut_to1, st_lens, st_lenL, st_lenS, st_lenT, st_inti, st_intb, st_min2, st_max2, st_sumL, st_allL, st_anyL, st_tupL, st_tupT, st_joinL, st_rcvj, st_sh, st_idxr, st_lenr, st_tupr, st_appr, st_rcvr, st_joinr, st_setr, mulOk_fm, mulOk_r, mulOk_l, st_eq, st_ne, W.eq, W.eqs, W.pl, W.pls, W.dep, W.deps, f8, b3_0, h1, h2, il, g8, stp, beg, e3, e4]
    | some p =>
      obtain ⟨g, c⟩ := p
      simp [ev, evs, evT, evO, evC, evI, asgT, asgTs, evH, pickH, ex, exB, runD, look, seqOf, isKds, isKd, szOk, bnd_ok, bnd_exc, noX_ok, wipe, st_mkt, st_mkf, st_addi, st_adds, st_addt, st_auI, st_auS, st_sub, st_mul, st_fdiv, st_mod, st_pow, st_cat, st_repl, st_reps, st_lt, st_le, st_gt, st_ge, st_eqi, st_nei, st_eqs, st_nes, st_idxL, st_idxS, st_idxT, st_idxs, at_n, at_0, at_1, at_2, at_m1, st_slcL, st_slcT, st_slcs, cut_nn, cut_n, cut_from, cut_1, cut_to1, st_lens, st_lenL, st_lenS, st_lenT, st_inti, st_intb, st_min2, st_max2, st_sumL, st_allL, st_anyL, st_tupL, st_tupT, st_joinL, st_rcvj, st_sh, st_idxr, st_lenr, st_tupr, st_appr, st_rcvr, st_joinr, st_setr, mulOk_fm, mulOk_r, mulOk_l, st_eq, st_ne, W.eq, W.eqs, W.pl, W.pls, W.dep, W.deps, f8, b3_0, h1, h2, il, g8, stp, beg]
  | cons x r =>
    have il : s.one.length < a.length := by rw [e1]; simp
    have s1 : a[s.one.length]? = some x := by rw [e1]; simp
    have s1' : a[s.one.length] = x := by rw [List.getElem?_eq_getElem il] at s1; exact Option.some.inj s1
    have da : a.drop s.one.length = x :: r := by rw [e1, List.drop_left]
    have da' : a.drop (s.one.length + 1) = r := by rw [← List.drop_drop, da]; rfl
    have k1 := tbl_at a b s.one.length (by omega)
    have k2 := tbl_at a b (s.one.length + 1) (by omega)
    have r1 := rowd_at a b s.one.length s.oth.length (by omega)
    have r2 := rowd_at a b (s.one.length + 1) s.oth.length (by omega)
    rw [da, db] at r1
    rw [da', db] at r2
    have hxy := (hd x r rfl).1
    have hq : ¬ (dist (x :: r) (y :: bs) : Int) = 1 + (dist r (y :: bs) : Int) := by have := (hd x r rfl).2; omega
    generalize hi : s.one.length = i at *
    generalize hj : s.oth.length = j at *
    obtain ⟨B, k, o⟩ := s
    cases o with
    | none =>
      have e3 : bp1 B k = i := by rw [← hi]; simp [bp1, Sta.one, Sta.bl, Sta.tl]
      have e4 : bp2 B k = j := by rw [← hj]; simp [bp2, Sta.oth, Sta.bl, Sta.tl]
      simp [ev, evs, evT, evO, evC, evI, asgT, asgTs, evH, pickH, ex, exB, runD, look, seqOf, isKds, isKd, szOk, bnd_ok, bnd_exc, noX_ok, wipe, st_mkt, st_mkf, st_addi, st_adds, st_addt, st_auI, st_auS, st_sub, st_mul, st_fdiv, st_mod, st_pow, st_cat, st_repl, st_reps, st_lt, st_le, st_gt, st_ge, st_eqi, st_nei, st_eqs, st_nes, st_idxL, st_idxS, st_idxT, st_idxs, at_n, at_0, at_1, at_2, at_m1, st_slcL, st_slcT, st_slcs, cut_nn, cut_n, cut_from, cut_1, cut_to1, st_lens, st_lenL, st_lenS, st_lenT, st_inti, st_intb, st_min2, st_max2, st_sumL, st_allL, st_anyL, st_tupL, st_tupT, st_joinL, st_rcvj, st_sh, st_idxr, st_lenr, st_tupr, st_appr, st_rcvr, st_joinr, st_setr, mulOk_fm, mulOk_r, mulOk_l, st_eq, st_ne, W.eq, W.eqs, W.pl, W.pls, W.dep, W.deps, f8, b3_0, h1, h2, il, jl, s1', s2', hxy, g8, stp, beg, e3, e4, k1, at_s, k2, r1, r2, hq]
    | some p =>
      obtain ⟨g, c⟩ := p
      simp [ev, evs, evT, evO, evC, evI, asgT, asgTs, evH, pickH, ex, exB, runD, look, seqOf, isKds, isKd, szOk, bnd_ok, bnd_exc, noX_ok, wipe, st_mkt, st_mkf, st_addi, st_adds, st_addt, st_auI, st_auS, st_sub, st_mul, st_fdiv, st_mod, st_pow, st_cat, st_repl, st_reps, st_lt, st_le, st_gt, st_ge, st_eqi, st_nei, st_eqs, st_nes, st_idxL, st_idxS, st_idxT, st_idxs, at_n, at_0, at_1, at_2, at_m1, st_slcL, st_slcT, st_slcs, cut_nn, cut_n, cut_from, cut_1, cut_to1, st_lens, st_lenL, st_lenS, st_lenT, st_inti, st_intb, st_min2, st_max2, st_sumL, st_allL, st_anyL, st_tupL, st_tupT, st_joinL, st_rcvj, st_sh, st_idxr, st_lenr, st_tupr, st_appr, st_rcvr, st_joinr, st_setr, mulOk_fm, mulOk_r, mulOk_l, st_eq, st_ne, W.eq, W.eqs, W.pl, W.pls, W.dep, W.deps, f8, b3_0, h1, h2, il, jl, s1', s2', hxy, g8, stp, beg, k1, at_s, k2, r1, r2, hq]
/-! the loop -/
theorem stp_len (d x y : Nat) (s : Sta) : (stp d x y s).1.length ≤ s.1.length + 1 := by
  obtain ⟨B, k, o⟩ := s
  cases o with
  | none => by_cases h0 : d = 0 <;> by_cases h1 : d = 1 <;> simp [stp, h0, h1]
  | some p => by_cases h0 : d = 0 <;> by_cases h1 : d = 1 <;> simp [stp, h0, h1]
theorem te8 (n : Nat) (a b : List Nat) (ha : a.length ≤ 400) (hb : b.length ≤ 400) (s : Sta) (as bs : List Nat) (e1 : a = s.one ++ as) (e2 : b = s.oth ++ bs) (G : List O) : t8 n (sl8 a b s) G = .ok (decide (¬ (as = [] ∧ bs = []))) G := by
  have h1 : a.length ≤ 16777216 := by omega
  have h2 : b.length ≤ 16777216 := by omega
  have l1 : s.one.length < a.length ↔ as ≠ [] := by
    rw [e1, List.length_append]
    cases as <;> simp
  have l2 : s.oth.length < b.length ↔ bs ≠ [] := by
    rw [e2, List.length_append]
    cases bs <;> simp
  by_cases p : as = []
  · have il : ¬ s.one.length < a.length := fun z => l1.mp z p
    by_cases q : bs = []
    · have jl : ¬ s.oth.length < b.length := fun z => l2.mp z q
      simp [ev, evs, evT, evO, evC, evI, asgT, asgTs, evH, pickH, ex, exB, runD, look, seqOf, isKds, isKd, szOk, bnd_ok, bnd_exc, noX_ok, wipe, st_mkt, st_mkf, st_addi, st_adds, st_addt, st_auI, st_auS, st_sub, st_mul, st_fdiv, st_mod, st_pow, st_cat, st_repl, st_reps, st_lt, st_le, st_gt, st_ge, st_eqi, st_nei, st_eqs, st_nes, st_idxL, st_idxS, st_idxT, st_idxs, at_n, at_0, at_1, at_2, at_m1, st_slcL, st_slcT, st_slcs, cut_nn, cut_n, cut_from, cut_1, cut_to1, st_lens, st_lenL, st_lenS, st_lenT, st_inti, st_intb, st_min2, st_max2, st_sumL, st_allL, st_anyL, st_tupL, st_tupT, st_joinL, st_rcvj, st_sh, st_idxr, st_lenr, st_tupr, st_appr, st_rcvr, st_joinr, st_setr, mulOk_fm, mulOk_r, mulOk_l, st_eq, st_ne, W.eq, W.eqs, W.pl, W.pls, W.dep, W.deps, t8, b3_0t, sl8, h1, h2, il, jl, p, q]
    · have jl : s.oth.length < b.length := l2.mpr q
      simp [ev, evs, evT, evO, evC, evI, asgT, asgTs, evH, pickH, ex, exB, runD, look, seqOf, isKds, isKd, szOk, bnd_ok, bnd_exc, noX_ok, wipe, st_mkt, st_mkf, st_addi, st_adds, st_addt, st_auI, st_auS, st_sub, st_mul, st_fdiv, st_mod, st_pow, st_cat, st_repl, st_reps, st_lt, st_le, st_gt, st_ge, st_eqi, st_nei, st_eqs, st_nes, st_idxL, st_idxS, st_idxT, st_idxs, at_n, at_0, at_1, at_2, at_m1, st_slcL, st_slcT, st_slcs, cut_nn, cut_n, cut_from, cut_1, cut_to1, st_lens, st_lenL, st_lenS, st_lenT, st_inti, st_intb, st_min2, st_max2, st_sumL, st_allL, st_anyL, st_tupL, st_tupT, st_joinL, st_rcvj, st_sh, st_idxr, st_lenr, st_tupr, st_appr, st_rcvr, st_joinr, st_setr, mulOk_fm, mulOk_r, mulOk_l, st_eq, st_ne, W.eq, W.eqs, W.pl, W.pls, W.dep, W.deps, t8, b3_0t, sl8, h1, h2, il, jl, p, q]
  · have il : s.one.length < a.length := l1.mpr p
    simp [ev, evs, evT, evO, evC, evI, asgT, asgTs, evH, pickH, ex, exB, runD, look, seqOf, isKds, isKd, szOk, bnd_ok, bnd_exc, noX_ok, wipe, st_mkt, st_mkf, st_addi, st_adds, st_addt, st_auI, st_auS, st_sub, st_mul, st_fdiv, st_mod, st_pow, st_cat, st_repl, st_reps, st_lt, st_le, st_gt, st_ge, st_eqi, st_nei, st_eqs, st_nes, st_idxL, st_idxS, st_idxT, st_idxs, at_n, at_0, at_1, at_2, at_m1, st_slcL, st_slcT, st_slcs, cut_nn, cut_n, cut_from, cut_1, cut_to1, st_lens, st_lenL, st_lenS, st_lenT, st_inti, st_intb, st_min2, st_max2, st_sumL, st_allL, st_anyL, st_tupL, st_tupT, st_joinL, st_rcvj, st_sh, st_idxr, st_lenr, st_tupr, st_appr, st_rcvr, st_joinr, st_setr, mulOk_fm, mulOk_r, mulOk_l, st_eq, st_ne, W.eq, W.eqs, W.pl, W.pls, W.dep, W.deps, t8, b3_0t, sl8, h1, h2, il, p]
theorem w8 (n : Nat) (a b : List Nat) (ha : a.length ≤ 400) (hb : b.length ≤ 400) : ∀ (m fuel : Nat) (as bs : List Nat) (s : Sta), as.length + bs.length ≤ m → m < fuel → s.1.length + m ≤ 1000 → a = s.one ++ as → b = s.oth ++ bs → whlL (t8 n) (f8 n) fuel (sl8 a b s) (g8 s) = .ok (.nx (sl8 a b (go as bs s))) (g8 (go as bs s))
  | m, 0, as, bs, s, _, h, _, _, _ => absurd h (Nat.not_lt_zero _)
  | 0, fuel + 1, as, bs, s, h, _, _, e1, e2 => by
    have p1 : as = [] := List.length_eq_zero_iff.mp (by omega)
    have p2 : bs = [] := List.length_eq_zero_iff.mp (by omega)
    subst p1 p2
    rw [go]
    exact whlL_no (te8 n a b ha hb s [] [] e1 e2 _)
  | m + 1, fuel + 1, as, bs, s, h, hf, hm, e1, e2 => by
    have ht := te8 n a b ha hb s as bs e1 e2 (g8 s)
    cases as with
    | nil =>
      cases bs with
      | nil =>
        rw [go]
        exact whlL_no ht
      | cons y bs =>
        rw [go, whlL_ok (by simpa using ht) (in8 n a b ha hb y 0 [] bs s e1 e2 fun x r z => by cases z)]
        have := stp_len 2 0 y s
        exact w8 n a b ha hb m fuel [] bs _ (by simp only [List.length_cons] at h; omega) (by omega) (by omega) (by rw [stp_one]; simpa using e1) (by rw [stp_oth]; simpa using e2)
    | cons x as =>
      cases bs with
      | nil =>
        rw [go, whlL_ok (by simpa using ht) (dl8 n a b ha hb x 0 as [] s e1 e2 (fun y r z => by cases z) (by rw [dist_nil', dist_nil', List.length_cons]; omega))]
        have := stp_len 1 x 0 s
        exact w8 n a b ha hb m fuel as [] _ (by simp only [List.length_cons] at h; omega) (by omega) (by omega) (by rw [stp_one]; simpa using e1) (by rw [stp_oth]; simpa using e2)
      | cons y bs =>
        by_cases exy : x = y
        · subst exy
          rw [go, if_pos rfl, whlL_ok (by simpa using ht) (k8 n a b ha hb x as bs s (by omega) e1 e2)]
          have := stp_len 0 x x s
          exact w8 n a b ha hb m fuel as bs _ (by simp only [List.length_cons] at h; omega) (by omega) (by omega) (by rw [stp_one]; simpa using e1) (by rw [stp_oth]; simpa using e2)
        · rw [go, if_neg exy]
          split
          · rename_i hd
            rw [whlL_ok (by simpa using ht) (dl8 n a b ha hb x y as (y :: bs) s e1 e2 (fun y' r z => by injection z with z1 z2; subst z1; exact exy) hd)]
            have := stp_len 1 x y s
            exact w8 n a b ha hb m fuel as (y :: bs) _ (by simp only [List.length_cons] at h ⊢; omega) (by omega) (by omega) (by rw [stp_one]; simpa using e1) (by rw [stp_oth]; simpa using e2)
          · rename_i hd
            rw [whlL_ok (by simpa using ht) (in8 n a b ha hb y x (x :: as) bs s e1 e2 fun x' r z => by injection z with z1 z2; subst z1 z2; exact ⟨exy, hd⟩)]
            have := stp_len 2 x y s
            exact w8 n a b ha hb m fuel (x :: as) bs _ (by simp only [List.length_cons] at h ⊢; omega) (by omega) (by omega) (by rw [stp_one]; simpa using e1) (by rw [stp_oth]; simpa using e2)
end K64
end

section
set_option linter.all false
set_option maxRecDepth 100000
set_option maxHeartbeats 4000000
/-! k64: least_edit, edit_between. -/
namespace K64
open T2
theorem go_len : ∀ (m : Nat) (as bs : List Nat) (s : Sta), as.length + bs.length ≤ m → (go as bs s).1.length ≤ s.1.length + m
  | 0, as, bs, s, h => by
    have p1 : as = [] := List.length_eq_zero_iff.mp (by omega)
    have p2 : bs = [] := List.length_eq_zero_iff.mp (by omega)
    subst p1 p2
    rw [go]
    omega
  | m + 1, as, bs, s, h => by
    cases as with
    | nil =>
      cases bs with
      | nil => rw [go]; omega
      | cons y bs =>
        rw [go]
        have q := stp_len 2 0 y s
        have := go_len m [] bs (stp 2 0 y s) (by simp only [List.length_cons] at h; omega)
        omega
    | cons x as =>
      cases bs with
      | nil =>
        rw [go]
        have q := stp_len 1 x 0 s
        have := go_len m as [] (stp 1 x 0 s) (by simp only [List.length_cons] at h; omega)
        omega
      | cons y bs =>
        rw [go]
        split
        · have q := stp_len 0 x y s
          have := go_len m as bs (stp 0 x y s) (by simp only [List.length_cons] at h; omega)
          omega
        · split
          · have q := stp_len 1 x y s
            have := go_len m as (y :: bs) (stp 1 x y s) (by simp only [List.length_cons] at h ⊢; omega)
            omega
          · have q := stp_len 2 x y s
            have := go_len m (x :: as) bs (stp 2 x y s) (by simp only [List.length_cons] at h ⊢; omega)
            omega
theorem t8' (n : Nat) (a b : List Nat) (ha : a.length ≤ 400) (hb : b.length ≤ 400) (G : List O) : callW (cl (n + 2)) .iso 3 [.str a, .str b] G = .ok (encE (edit a b)) G := by
  have h7 := t7 n a b (by omega) (by omega) []
  have hw := w8 (n + 1) a b ha hb (a.length + b.length) wf a b ([], [], none) (Nat.le_refl _) (by unfold wf; omega) (by simp; omega) (by simp [Sta.one, Sta.bl, Sta.tl, one]) (by simp [Sta.oth, Sta.bl, Sta.tl, oth])
  have hsl : sl8 a b ([], [], none) = [some (.str a), some (.str b), some (.lst (tbl a b)), some (.ref 0), some .non, some (.int 0), some (.int 0)] := rfl
  have hg : g8 ([], [], none) = [.lst []] := rfl
  have hlen := go_len (a.length + b.length) a b ([], [], none) (Nat.le_refl _)
  obtain ⟨ft1, ft2⟩ := fin_txt a b
  rw [hsl, hg] at hw
  have hfin : go a b ([], [], none) = fin a b := rfl
  rw [hfin] at hw hlen
  unfold edit
  have h1 : a.length ≤ 16777216 := by omega
  have h2 : b.length ≤ 16777216 := by omega
  generalize hs : fin a b = s at *
  delta t8 f8 at hw
  obtain ⟨B, k, o⟩ := s
  have hBl : B.length < 16777216 := by have : B.length ≤ 0 + (a.length + b.length) := hlen; omega
  have hE : (eds 0 B).length = B.length := eds_len B 0
  cases o with
  | none =>
    refine iso_pl rfl (G1 := g8 (B, k, none)) ?_ (encE_pl _)
    rw [c3]
    simp [ev, evs, evT, evO, evC, evI, asgT, asgTs, evH, pickH, ex, exB, runD, look, seqOf, isKds, isKd, szOk, bnd_ok, bnd_exc, noX_ok, wipe, st_mkt, st_mkf, st_addi, st_adds, st_addt, st_auI, st_auS, st_sub, st_mul, st_fdiv, st_mod, st_pow, st_cat, st_repl, st_reps, st_lt, st_le, st_gt, st_ge, st_eqi, st_nei, st_eqs, st_nes, st_idxL, st_idxS, st_idxT, st_idxs, at_n, at_0, at_1, at_2, at_m1, st_slcL, st_slcT, st_slcs, cut_nn, cut_n, cut_from, cut_1, cut_to1, st_lens, st_lenL, st_lenS, st_lenT, st_inti, st_intb, st_min2, st_max2, st_sumL, st_allL, st_anyL, st_tupL, st_tupT, st_joinL, st_rcvj, st_sh, st_idxr, st_lenr, st_tupr, st_appr, st_rcvr, st_joinr, st_setr, mulOk_fm, mulOk_r, mulOk_l, st_eq, st_ne, W.eq, W.eqs, W.pl, W.pls, W.dep, W.deps, sl8, beg, g8] at hw
    simp [ev, evs, evT, evO, evC, evI, asgT, asgTs, evH, pickH, ex, exB, runD, look, seqOf, isKds, isKd, szOk, bnd_ok, bnd_exc, noX_ok, wipe, st_mkt, st_mkf, st_addi, st_adds, st_addt, st_auI, st_auS, st_sub, st_mul, st_fdiv, st_mod, st_pow, st_cat, st_repl, st_reps, st_lt, st_le, st_gt, st_ge, st_eqi, st_nei, st_eqs, st_nes, st_idxL, st_idxS, st_idxT, st_idxs, at_n, at_0, at_1, at_2, at_m1, st_slcL, st_slcT, st_slcs, cut_nn, cut_n, cut_from, cut_1, cut_to1, st_lens, st_lenL, st_lenS, st_lenT, st_inti, st_intb, st_min2, st_max2, st_sumL, st_allL, st_anyL, st_tupL, st_tupT, st_joinL, st_rcvj, st_sh, st_idxr, st_lenr, st_tupr, st_appr, st_rcvr, st_joinr, st_setr, mulOk_fm, mulOk_r, mulOk_l, st_eq, st_ne, W.eq, W.eqs, W.pl, W.pls, W.dep, W.deps, d3, b3, h7, hw, g8, Sta.bl, encE]
  | some p =>
    obtain ⟨g, c⟩ := p
    have q1 : a.drop (bp1 B k) = g := by
      rw [one_some] at ft1
      rw [← ft1]
      exact List.drop_left
    have q2 : b.drop (bp2 B k) = c := by
      rw [oth_some] at ft2
      rw [← ft2]
      exact List.drop_left
    have q3 : eds 0 (B ++ [(k, g, c)]) = eds 0 B ++ [(bp1 B k, g, c)] := by
      rw [eds_app]
      simp [eds, bp1]
    refine iso_pl rfl (G1 := [.lst ((eds 0 (B ++ [(k, g, c)])).map enc)]) ?_ (encE_pl _)
    rw [c3]
    simp [ev, evs, evT, evO, evC, evI, asgT, asgTs, evH, pickH, ex, exB, runD, look, seqOf, isKds, isKd, szOk, bnd_ok, bnd_exc, noX_ok, wipe, st_mkt, st_mkf, st_addi, st_adds, st_addt, st_auI, st_auS, st_sub, st_mul, st_fdiv, st_mod, st_pow, st_cat, st_repl, st_reps, st_lt, st_le, st_gt, st_ge, st_eqi, st_nei, st_eqs, st_nes, st_idxL, st_idxS, st_idxT, st_idxs, at_n, at_0, at_1, at_2, at_m1, st_slcL, st_slcT, st_slcs, cut_nn, cut_n, cut_from, cut_1, cut_to1, st_lens, st_lenL, st_lenS, st_lenT, st_inti, st_intb, st_min2, st_max2, st_sumL, st_allL, st_anyL, st_tupL, st_tupT, st_joinL, st_rcvj, st_sh, st_idxr, st_lenr, st_tupr, st_appr, st_rcvr, st_joinr, st_setr, mulOk_fm, mulOk_r, mulOk_l, st_eq, st_ne, W.eq, W.eqs, W.pl, W.pls, W.dep, W.deps, sl8, beg, g8] at hw
    simp [ev, evs, evT, evO, evC, evI, asgT, asgTs, evH, pickH, ex, exB, runD, look, seqOf, isKds, isKd, szOk, bnd_ok, bnd_exc, noX_ok, wipe, st_mkt, st_mkf, st_addi, st_adds, st_addt, st_auI, st_auS, st_sub, st_mul, st_fdiv, st_mod, st_pow, st_cat, st_repl, st_reps, st_lt, st_le, st_gt, st_ge, st_eqi, st_nei, st_eqs, st_nes, st_idxL, st_idxS, st_idxT, st_idxs, at_n, at_0, at_1, at_2, at_m1, st_slcL, st_slcT, st_slcs, cut_nn, cut_n, cut_from, cut_1, cut_to1, st_lens, st_lenL, st_lenS, st_lenT, st_inti, st_intb, st_min2, st_max2, st_sumL, st_allL, st_anyL, st_tupL, st_tupT, st_joinL, st_rcvj, st_sh, st_idxr, st_lenr, st_tupr, st_appr, st_rcvr, st_joinr, st_setr, mulOk_fm, mulOk_r, mulOk_l, st_eq, st_ne, W.eq, W.eqs, W.pl, W.pls, W.dep, W.deps, d3, b3, h7, hw, g8, Sta.bl, encE, h1, h2, q1, q2, q3, hBl, hE, enc]
theorem t9 (n : Nat) (a b : List Nat) (ha : a.length ≤ 400) (hb : b.length ≤ 400) (G : List O) : callW (cl (n + 3)) .iso 4 [.str a, .str b] G = .ok (encE (edit a b)) G := by
  refine iso_pl rfl (G1 := []) ?_ (encE_pl _)
  rw [c4]
  simp [ev, evs, evT, evO, evC, evI, asgT, asgTs, evH, pickH, ex, exB, runD, look, seqOf, isKds, isKd, szOk, bnd_ok, bnd_exc, noX_ok, wipe, st_mkt, st_mkf, st_addi, st_adds, st_addt, st_auI, st_auS, st_sub, st_mul, st_fdiv, st_mod, st_pow, st_cat, st_repl, st_reps, st_lt, st_le, st_gt, st_ge, st_eqi, st_nei, st_eqs, st_nes, st_idxL, st_idxS, st_idxT, st_idxs, at_n, at_0, at_1, at_2, at_m1, st_slcL, st_slcT, st_slcs, cut_nn, cut_n, cut_from, cut_1, cut_to1, st_lens, st_lenL, st_lenS, st_lenT, st_inti, st_intb, st_min2, st_max2, st_sumL, st_allL, st_anyL, st_tupL, st_tupT, st_joinL, st_rcvj, st_sh, st_idxr, st_lenr, st_tupr, st_appr, st_rcvr, st_joinr, st_setr, mulOk_fm, mulOk_r, mulOk_l, st_eq, st_ne, W.eq, W.eqs, W.pl, W.pls, W.dep, W.deps, d4, b4, i0 (n + 1) a ha, i0 (n + 1) b hb, t8' n a b ha hb]
end K64
end

section
set_option linter.all false
set_option maxRecDepth 100000
set_option maxHeartbeats 4000000
/-! k64: the law's draws. -/
namespace K64
open T2
def isBag (G : List O) (i : Nat) : Prop := ∃ a b c : Int, G[i]? = some (.lst [.int a, .int b, .int c])
theorem isBag_set {G : List O} {i : Nat} (h : isBag G i) (a b c : Int) : isBag (G.set i (.lst [.int a, .int b, .int c])) i := by
  obtain ⟨_, _, _, h⟩ := h
  obtain ⟨hl, _⟩ := List.getElem?_eq_some_iff.mp h
  exact ⟨a, b, c, by simp [hl]⟩
theorem draw (n : Nat) (G : List O) (i : Nat) (m : Int) (h : isBag G i) (hm : 0 < m) (hm2 : m < 1000) : ∃ r G', cl (n + 1) 10 [.ref i, .int m] G = .ok (.int r) G' ∧ 0 ≤ r ∧ r < m ∧ isBag G' i := by
  obtain ⟨a, b, c, hG⟩ := h
  obtain ⟨hl, _⟩ := List.getElem?_eq_some_iff.mp hG
  have hs : ∀ o : O, (G.set i o)[i]? = some o := fun o => by simp [hl]
  have d0' : m ≠ 0 := by omega
  have hd : divOk m = true := divOk_lit d0' (by omega)
  have r0 := fun x : Int => fm_lt (x := x) hm
  rw [c10]
  by_cases ha : a = 0
  · subst ha
    refine ⟨_, _, by
      simp only [d10, b10]
      simp [ev, evs, evT, evO, evC, evI, asgT, asgTs, evH, pickH, ex, exB, runD, look, seqOf, isKds, isKd, szOk, bnd_ok, bnd_exc, noX_ok, wipe, st_mkt, st_mkf, st_addi, st_adds, st_addt, st_auI, st_auS, st_sub, st_mul, st_fdiv, st_mod, st_pow, st_cat, st_repl, st_reps, st_lt, st_le, st_gt, st_ge, st_eqi, st_nei, st_eqs, st_nes, st_idxL, st_idxS, st_idxT, st_idxs, at_n, at_0, at_1, at_2, at_m1, st_slcL, st_slcT, st_slcs, cut_nn, cut_n, cut_from, cut_1, cut_to1, st_lens, st_lenL, st_lenS, st_lenT, st_inti, st_intb, st_min2, st_max2, st_sumL, st_allL, st_anyL, st_tupL, st_tupT, st_joinL, st_rcvj, st_sh, st_idxr, st_lenr, st_tupr, st_appr, st_rcvr, st_joinr, st_setr, mulOk_fm, mulOk_r, mulOk_l, st_eq, st_ne, W.eq, W.eqs, W.pl, W.pls, W.dep, W.deps, hG, hs, hd, d0']
      first | exact ⟨rfl, rfl⟩ | rfl, (r0 _).1, (r0 _).2, ?_⟩
    exact ⟨_, _, _, hs _⟩
  · refine ⟨_, _, by
      simp only [d10, b10]
      simp [ev, evs, evT, evO, evC, evI, asgT, asgTs, evH, pickH, ex, exB, runD, look, seqOf, isKds, isKd, szOk, bnd_ok, bnd_exc, noX_ok, wipe, st_mkt, st_mkf, st_addi, st_adds, st_addt, st_auI, st_auS, st_sub, st_mul, st_fdiv, st_mod, st_pow, st_cat, st_repl, st_reps, st_lt, st_le, st_gt, st_ge, st_eqi, st_nei, st_eqs, st_nes, st_idxL, st_idxS, st_idxT, st_idxs, at_n, at_0, at_1, at_2, at_m1, st_slcL, st_slcT, st_slcs, cut_nn, cut_n, cut_from, cut_1, cut_to1, st_lens, st_lenL, st_lenS, st_lenT, st_inti, st_intb, st_min2, st_max2, st_sumL, st_allL, st_anyL, st_tupL, st_tupT, st_joinL, st_rcvj, st_sh, st_idxr, st_lenr, st_tupr, st_appr, st_rcvr, st_joinr, st_setr, mulOk_fm, mulOk_r, mulOk_l, st_eq, st_ne, W.eq, W.eqs, W.pl, W.pls, W.dep, W.deps, hG, hs, hd, d0', ha]
      first | exact ⟨rfl, rfl⟩ | rfl, (r0 _).1, (r0 _).2, ?_⟩
    exact ⟨_, _, _, hs _⟩
theorem one_ (n : Nat) (G : List O) (i : Nat) (h : isBag G i) : ∃ x G', cl (n + 2) 11 [.ref i, .str [97, 98, 99]] G = .ok (.str [x]) G' ∧ (x = 97 ∨ x = 98 ∨ x = 99) ∧ isBag G' i := by
  obtain ⟨r, G', e, h0, h1, h2⟩ := draw n G i 3 h (by decide) (by decide)
  rw [c11]
  have : r = 0 ∨ r = 1 ∨ r = 2 := by omega
  rcases this with rfl | rfl | rfl
  · exact ⟨97, G', by simp [ev, evs, evT, evO, evC, evI, asgT, asgTs, evH, pickH, ex, exB, runD, look, seqOf, isKds, isKd, szOk, bnd_ok, bnd_exc, noX_ok, wipe, st_mkt, st_mkf, st_addi, st_adds, st_addt, st_auI, st_auS, st_sub, st_mul, st_fdiv, st_mod, st_pow, st_cat, st_repl, st_reps, st_lt, st_le, st_gt, st_ge, st_eqi, st_nei, st_eqs, st_nes, st_idxL, st_idxS, st_idxT, st_idxs, at_n, at_0, at_1, at_2, at_m1, st_slcL, st_slcT, st_slcs, cut_nn, cut_n, cut_from, cut_1, cut_to1, st_lens, st_lenL, st_lenS, st_lenT, st_inti, st_intb, st_min2, st_max2, st_sumL, st_allL, st_anyL, st_tupL, st_tupT, st_joinL, st_rcvj, st_sh, st_idxr, st_lenr, st_tupr, st_appr, st_rcvr, st_joinr, st_setr, mulOk_fm, mulOk_r, mulOk_l, st_eq, st_ne, W.eq, W.eqs, W.pl, W.pls, W.dep, W.deps, d11, b11, e], by simp, h2⟩
  · exact ⟨98, G', by simp [ev, evs, evT, evO, evC, evI, asgT, asgTs, evH, pickH, ex, exB, runD, look, seqOf, isKds, isKd, szOk, bnd_ok, bnd_exc, noX_ok, wipe, st_mkt, st_mkf, st_addi, st_adds, st_addt, st_auI, st_auS, st_sub, st_mul, st_fdiv, st_mod, st_pow, st_cat, st_repl, st_reps, st_lt, st_le, st_gt, st_ge, st_eqi, st_nei, st_eqs, st_nes, st_idxL, st_idxS, st_idxT, st_idxs, at_n, at_0, at_1, at_2, at_m1, st_slcL, st_slcT, st_slcs, cut_nn, cut_n, cut_from, cut_1, cut_to1, st_lens, st_lenL, st_lenS, st_lenT, st_inti, st_intb, st_min2, st_max2, st_sumL, st_allL, st_anyL, st_tupL, st_tupT, st_joinL, st_rcvj, st_sh, st_idxr, st_lenr, st_tupr, st_appr, st_rcvr, st_joinr, st_setr, mulOk_fm, mulOk_r, mulOk_l, st_eq, st_ne, W.eq, W.eqs, W.pl, W.pls, W.dep, W.deps, d11, b11, e], by simp, h2⟩
  · exact ⟨99, G', by simp [ev, evs, evT, evO, evC, evI, asgT, asgTs, evH, pickH, ex, exB, runD, look, seqOf, isKds, isKd, szOk, bnd_ok, bnd_exc, noX_ok, wipe, st_mkt, st_mkf, st_addi, st_adds, st_addt, st_auI, st_auS, st_sub, st_mul, st_fdiv, st_mod, st_pow, st_cat, st_repl, st_reps, st_lt, st_le, st_gt, st_ge, st_eqi, st_nei, st_eqs, st_nes, st_idxL, st_idxS, st_idxT, st_idxs, at_n, at_0, at_1, at_2, at_m1, st_slcL, st_slcT, st_slcs, cut_nn, cut_n, cut_from, cut_1, cut_to1, st_lens, st_lenL, st_lenS, st_lenT, st_inti, st_intb, st_min2, st_max2, st_sumL, st_allL, st_anyL, st_tupL, st_tupT, st_joinL, st_rcvj, st_sh, st_idxr, st_lenr, st_tupr, st_appr, st_rcvr, st_joinr, st_setr, mulOk_fm, mulOk_r, mulOk_l, st_eq, st_ne, W.eq, W.eqs, W.pl, W.pls, W.dep, W.deps, d11, b11, e], by simp, h2⟩
def abc (x : Nat) : Prop := x = 97 ∨ x = 98 ∨ x = 99
end K64
end

section
set_option linter.all false
set_option maxRecDepth 100000
set_option maxHeartbeats 4000000
/-! k64: the law's words and bags. -/
namespace K64
open T2
theorem strs_1 : ∀ xs : List Nat, strs? (xs.map fun x => W.str [x]) = some (xs.map fun x => [x])
  | [] => rfl
  | x :: xs => by simp [strs?, strs_1 xs]
theorem len_1 : ∀ xs : List Nat, ((xs.map fun x => [x]).map List.length).sum = xs.length
  | [] => rfl
  | x :: xs => by
    have := len_1 xs
    simp only [List.map_cons, List.sum_cons, List.length_cons, List.length_nil, this]
    omega
theorem flat_1 : ∀ xs : List Nat, (xs.map fun x => [x]).flatten = xs
  | [] => rfl
  | x :: xs => by rw [List.map_cons, List.flatten_cons, flat_1 xs]; rfl
theorem sum_1 : ∀ xs : List Nat, (xs.map fun _ => 1).sum = xs.length
  | [] => rfl
  | x :: xs => by
    have := sum_1 xs
    simp only [List.map_cons, List.sum_cons, List.length_cons, this]
    omega
theorem word (n : Nat) (G : List O) (i : Nat) (m : Int) (h : isBag G i) (hm : 0 < m) (hm2 : m < 1000) : ∃ w G', cl (n + 3) 12 [.ref i, .int m] G = .ok (.str w) G' ∧ (w.length : Int) < m ∧ (∀ x ∈ w, abc x) ∧ isBag G' i := by
  obtain ⟨r, G1, e, h0, h1, h2⟩ := draw (n + 1) G i m h hm hm2
  obtain ⟨ys, G2, el, ⟨w, hw, habc, hbag⟩, hlen⟩ := lcL_rel (asg := fun x G => asgT (cl (n + 2)) gk (.nm 2) x [some (.ref i), some (.int m), none] G) (cd := fun sw1 G => evC (cl (n + 2)) gk .no sw1 G) (e := fun sw1 G => ev (cl (n + 2)) gk e12_0 sw1 G) (s := ⟨rngL 0 r, none⟩)
    (fun acc G => ∃ w : List Nat, acc = w.map (fun x => W.str [x]) ∧ (∀ x ∈ w, abc x) ∧ isBag G i) (fun _ _ _ => rfl) (rngL 0 r) [] G1 (by simp [rngL]; omega) ⟨[], rfl, by simp, h2⟩ (fun x acc G hx ⟨w, e1, e2, e3⟩ => by
      obtain ⟨c, G', ec, hc, hb⟩ := one_ n G i e3
      exact ⟨[some (.ref i), some (.int m), some x], G, G, .str [c], G', by simp [ev, evs, evT, evO, evC, evI, asgT, asgTs, evH, pickH, ex, exB, runD, look, seqOf, isKds, isKd, szOk, bnd_ok, bnd_exc, noX_ok, wipe, st_mkt, st_mkf, st_addi, st_adds, st_addt, st_auI, st_auS, st_sub, st_mul, st_fdiv, st_mod, st_pow, st_cat, st_repl, st_reps, st_lt, st_le, st_gt, st_ge, st_eqi, st_nei, st_eqs, st_nes, st_idxL, st_idxS, st_idxT, st_idxs, at_n, at_0, at_1, at_2, at_m1, st_slcL, st_slcT, st_slcs, cut_nn, cut_n, cut_from, cut_1, cut_to1, st_lens, st_lenL, st_lenS, st_lenT, st_inti, st_intb, st_min2, st_max2, st_sumL, st_allL, st_anyL, st_tupL, st_tupT, st_joinL, st_rcvj, st_sh, st_idxr, st_lenr, st_tupr, st_appr, st_rcvr, st_joinr, st_setr, mulOk_fm, mulOk_r, mulOk_l, st_eq, st_ne, W.eq, W.eqs, W.pl, W.pls, W.dep, W.deps], by simp [ev, evs, evT, evO, evC, evI, asgT, asgTs, evH, pickH, ex, exB, runD, look, seqOf, isKds, isKd, szOk, bnd_ok, bnd_exc, noX_ok, wipe, st_mkt, st_mkf, st_addi, st_adds, st_addt, st_auI, st_auS, st_sub, st_mul, st_fdiv, st_mod, st_pow, st_cat, st_repl, st_reps, st_lt, st_le, st_gt, st_ge, st_eqi, st_nei, st_eqs, st_nes, st_idxL, st_idxS, st_idxT, st_idxs, at_n, at_0, at_1, at_2, at_m1, st_slcL, st_slcT, st_slcs, cut_nn, cut_n, cut_from, cut_1, cut_to1, st_lens, st_lenL, st_lenS, st_lenT, st_inti, st_intb, st_min2, st_max2, st_sumL, st_allL, st_anyL, st_tupL, st_tupT, st_joinL, st_rcvj, st_sh, st_idxr, st_lenr, st_tupr, st_appr, st_rcvr, st_joinr, st_setr, mulOk_fm, mulOk_r, mulOk_l, st_eq, st_ne, W.eq, W.eqs, W.pl, W.pls, W.dep, W.deps], by simp [ev, evs, evT, evO, evC, evI, asgT, asgTs, evH, pickH, ex, exB, runD, look, seqOf, isKds, isKd, szOk, bnd_ok, bnd_exc, noX_ok, wipe, st_mkt, st_mkf, st_addi, st_adds, st_addt, st_auI, st_auS, st_sub, st_mul, st_fdiv, st_mod, st_pow, st_cat, st_repl, st_reps, st_lt, st_le, st_gt, st_ge, st_eqi, st_nei, st_eqs, st_nes, st_idxL, st_idxS, st_idxT, st_idxs, at_n, at_0, at_1, at_2, at_m1, st_slcL, st_slcT, st_slcs, cut_nn, cut_n, cut_from, cut_1, cut_to1, st_lens, st_lenL, st_lenS, st_lenT, st_inti, st_intb, st_min2, st_max2, st_sumL, st_allL, st_anyL, st_tupL, st_tupT, st_joinL, st_rcvj, st_sh, st_idxr, st_lenr, st_tupr, st_appr, st_rcvr, st_joinr, st_setr, mulOk_fm, mulOk_r, mulOk_l, st_eq, st_ne, W.eq, W.eqs, W.pl, W.pls, W.dep, W.deps, e12_0, ec], w ++ [c], by simp [e1], by
        intro x hx
        rcases List.mem_append.mp hx with h | h
        · exact e2 x h
        · rw [List.mem_singleton.mp h]
          exact hc, hb⟩)
  have hl : w.length = r.toNat := by
    have := hlen
    rw [hw] at this
    simpa [rngL] using this
  have hsm : small r = true := by
    have : r.natAbs < 4611686018427387904 := by omega
    simp only [small, decide_eq_true this]
  have hz : w.length ≤ 16777216 := by omega
  refine ⟨w, G2, ?_, by omega, habc, hbag⟩
  rw [c12]
  rw [hw] at el
  have hb : strs? (List.map ((fun x => W.str [x])) w) = some (w.map fun x => [x]) := strs_1 w
  simp [ev, evs, evT, evO, evC, evI, asgT, asgTs, evH, pickH, ex, exB, runD, look, seqOf, isKds, isKd, szOk, bnd_ok, bnd_exc, noX_ok, wipe, st_mkt, st_mkf, st_addi, st_adds, st_addt, st_auI, st_auS, st_sub, st_mul, st_fdiv, st_mod, st_pow, st_cat, st_repl, st_reps, st_lt, st_le, st_gt, st_ge, st_eqi, st_nei, st_eqs, st_nes, st_idxL, st_idxS, st_idxT, st_idxs, at_n, at_0, at_1, at_2, at_m1, st_slcL, st_slcT, st_slcs, cut_nn, cut_n, cut_from, cut_1, cut_to1, st_lens, st_lenL, st_lenS, st_lenT, st_inti, st_intb, st_min2, st_max2, st_sumL, st_allL, st_anyL, st_tupL, st_tupT, st_joinL, st_rcvj, st_sh, st_idxr, st_lenr, st_tupr, st_appr, st_rcvr, st_joinr, st_setr, mulOk_fm, mulOk_r, mulOk_l, st_eq, st_ne, W.eq, W.eqs, W.pl, W.pls, W.dep, W.deps] at el
  simp [ev, evs, evT, evO, evC, evI, asgT, asgTs, evH, pickH, ex, exB, runD, look, seqOf, isKds, isKd, szOk, bnd_ok, bnd_exc, noX_ok, wipe, st_mkt, st_mkf, st_addi, st_adds, st_addt, st_auI, st_auS, st_sub, st_mul, st_fdiv, st_mod, st_pow, st_cat, st_repl, st_reps, st_lt, st_le, st_gt, st_ge, st_eqi, st_nei, st_eqs, st_nes, st_idxL, st_idxS, st_idxT, st_idxs, at_n, at_0, at_1, at_2, at_m1, st_slcL, st_slcT, st_slcs, cut_nn, cut_n, cut_from, cut_1, cut_to1, st_lens, st_lenL, st_lenS, st_lenT, st_inti, st_intb, st_min2, st_max2, st_sumL, st_allL, st_anyL, st_tupL, st_tupT, st_joinL, st_rcvj, st_sh, st_idxr, st_lenr, st_tupr, st_appr, st_rcvr, st_joinr, st_setr, mulOk_fm, mulOk_r, mulOk_l, st_eq, st_ne, W.eq, W.eqs, W.pl, W.pls, W.dep, W.deps, d12, b12, e, hsm, el, hz, sum_1, strs_1, joinS_nil, flat_1, Function.comp_def]
theorem bag_new (G : List O) (a b c : Int) : isBag (G ++ [.lst [.int a, .int b, .int c]]) G.length := ⟨a, b, c, by simp⟩
theorem bag (n : Nat) (G : List O) (ns : List Int) (k : Nat) : ∃ G', cl (n + 1) 9 [.scr (ns.map .int), .int k] G = .ok (.ref G.length) G' ∧ isBag G' G.length := by
  have hp : powOk 10 18 = true := by decide
  by_cases hk : k < ns.length
  · have hk2 : (k : Int) < (ns.length : Int) := by omega
    have hat : (ns.map W.int)[k]? = some (.int ns[k]) := by simp [hk]
    generalize ns[k] = c at hat
    by_cases hc : (1000000000000000000 : Int) ≤ c
    · exact ⟨G ++ [.lst [.int c, .int c, .int k]], by
        rw [c9]
        simp [ev, evs, evT, evO, evC, evI, asgT, asgTs, evH, pickH, ex, exB, runD, look, seqOf, isKds, isKd, szOk, bnd_ok, bnd_exc, noX_ok, wipe, st_mkt, st_mkf, st_addi, st_adds, st_addt, st_auI, st_auS, st_sub, st_mul, st_fdiv, st_mod, st_pow, st_cat, st_repl, st_reps, st_lt, st_le, st_gt, st_ge, st_eqi, st_nei, st_eqs, st_nes, st_idxL, st_idxS, st_idxT, st_idxs, at_n, at_0, at_1, at_2, at_m1, st_slcL, st_slcT, st_slcs, cut_nn, cut_n, cut_from, cut_1, cut_to1, st_lens, st_lenL, st_lenS, st_lenT, st_inti, st_intb, st_min2, st_max2, st_sumL, st_allL, st_anyL, st_tupL, st_tupT, st_joinL, st_rcvj, st_sh, st_idxr, st_lenr, st_tupr, st_appr, st_rcvr, st_joinr, st_setr, mulOk_fm, mulOk_r, mulOk_l, st_eq, st_ne, W.eq, W.eqs, W.pl, W.pls, W.dep, W.deps, d9, b9, hk2, hat, hp, hc], bag_new _ _ _ _⟩
    · exact ⟨G ++ [.lst [.int 0, .int c, .int k]], by
        rw [c9]
        simp [ev, evs, evT, evO, evC, evI, asgT, asgTs, evH, pickH, ex, exB, runD, look, seqOf, isKds, isKd, szOk, bnd_ok, bnd_exc, noX_ok, wipe, st_mkt, st_mkf, st_addi, st_adds, st_addt, st_auI, st_auS, st_sub, st_mul, st_fdiv, st_mod, st_pow, st_cat, st_repl, st_reps, st_lt, st_le, st_gt, st_ge, st_eqi, st_nei, st_eqs, st_nes, st_idxL, st_idxS, st_idxT, st_idxs, at_n, at_0, at_1, at_2, at_m1, st_slcL, st_slcT, st_slcs, cut_nn, cut_n, cut_from, cut_1, cut_to1, st_lens, st_lenL, st_lenS, st_lenT, st_inti, st_intb, st_min2, st_max2, st_sumL, st_allL, st_anyL, st_tupL, st_tupT, st_joinL, st_rcvj, st_sh, st_idxr, st_lenr, st_tupr, st_appr, st_rcvr, st_joinr, st_setr, mulOk_fm, mulOk_r, mulOk_l, st_eq, st_ne, W.eq, W.eqs, W.pl, W.pls, W.dep, W.deps, d9, b9, hk2, hat, hp, hc], bag_new _ _ _ _⟩
  · have hk2 : ¬ (k : Int) < (ns.length : Int) := by omega
    exact ⟨G ++ [.lst [.int 0, .int 0, .int k]], by
      rw [c9]
      simp [ev, evs, evT, evO, evC, evI, asgT, asgTs, evH, pickH, ex, exB, runD, look, seqOf, isKds, isKd, szOk, bnd_ok, bnd_exc, noX_ok, wipe, st_mkt, st_mkf, st_addi, st_adds, st_addt, st_auI, st_auS, st_sub, st_mul, st_fdiv, st_mod, st_pow, st_cat, st_repl, st_reps, st_lt, st_le, st_gt, st_ge, st_eqi, st_nei, st_eqs, st_nes, st_idxL, st_idxS, st_idxT, st_idxs, at_n, at_0, at_1, at_2, at_m1, st_slcL, st_slcT, st_slcs, cut_nn, cut_n, cut_from, cut_1, cut_to1, st_lens, st_lenL, st_lenS, st_lenT, st_inti, st_intb, st_min2, st_max2, st_sumL, st_allL, st_anyL, st_tupL, st_tupT, st_joinL, st_rcvj, st_sh, st_idxr, st_lenr, st_tupr, st_appr, st_rcvr, st_joinr, st_setr, mulOk_fm, mulOk_r, mulOk_l, st_eq, st_ne, W.eq, W.eqs, W.pl, W.pls, W.dep, W.deps, d9, b9, hk2, hp], bag_new _ _ _ _⟩
end K64
end

section
set_option linter.all false
set_option maxRecDepth 100000
set_option maxHeartbeats 4000000
/-! k64: an edit and the way back, for short texts. -/
namespace K64
open T2
theorem bl_short : ∀ B : List Bl, (∀ b ∈ B, ¬ (b.2.1 = [] ∧ b.2.2 = [])) → B.length ≤ (one B).length + (oth B).length ∧ ∀ b ∈ B, b.2.1.length ≤ (one B).length ∧ b.2.2.length ≤ (oth B).length
  | [], _ => ⟨by simp, by simp⟩
  | b :: r, h => by
    have ih := bl_short r fun x hx => h x (List.mem_cons_of_mem _ hx)
    have hb := h b List.mem_cons_self
    have : 1 ≤ b.2.1.length + b.2.2.length := by
      rcases Nat.eq_zero_or_pos (b.2.1.length + b.2.2.length) with z | z
      · exact absurd ⟨List.length_eq_zero_iff.mp (by omega), List.length_eq_zero_iff.mp (by omega)⟩ hb
      · exact z
    refine ⟨?_, fun x hx => ?_⟩
    · have := ih.1
      simp only [one, oth, List.length_cons, List.length_append]
      omega
    · simp only [one, oth, List.length_append]
      rcases List.mem_cons.mp hx with rfl | hx
      · omega
      · have := ih.2 x hx
        omega
theorem eds_mem : ∀ (B : List Bl) (o : Nat) (e : Ed), e ∈ eds o B → ∃ b ∈ B, e.2 = b.2
  | [], _, _, h => by simp [eds] at h
  | b :: r, o, e, h => by
    rcases List.mem_cons.mp h with rfl | h
    · exact ⟨b, List.mem_cons_self, rfl⟩
    · obtain ⟨x, hx, ex⟩ := eds_mem r _ e h
      exact ⟨x, List.mem_cons_of_mem _ hx, ex⟩
/-- the blocks of an edit, and what is left -/
structure Gdd (a b : List Nat) (B : List Bl) (t : List Nat) : Prop where
  fn : fine B
  oa : one B ++ t = a
  ob : oth B ++ t = b
theorem Gdd.bak {a b : List Nat} {B : List Bl} {t : List Nat} (g : Gdd a b B t) : Gdd b a (bak B) t := ⟨fine_bak g.fn, by rw [one_bak]; exact g.ob, by rw [oth_bak]; exact g.oa⟩
theorem fin_good (a b : List Nat) : Gdd a b (fin a b).bl (fin a b).tl := ⟨(fin_ok a b).fn, (fin_txt a b).1, (fin_txt a b).2⟩
section
variable {a b t : List Nat} {B : List Bl} (g : Gdd a b B t) (ha : a.length ≤ 100) (hb : b.length ≤ 100)
include g ha hb
theorem Gdd.lens : B.length ≤ 200 ∧ ∀ x ∈ B, x.2.1.length ≤ 100 ∧ x.2.2.length ≤ 100 := by
  have h := bl_short B g.fn.1
  have h1 := congrArg List.length g.oa
  have h2 := congrArg List.length g.ob
  simp only [List.length_append] at h1 h2
  exact ⟨by have := h.1; omega, fun x hx => by have := h.2 x hx; omega⟩
theorem Gdd.szs : sz (eds 0 B) := by
  have h := g.lens ha hb
  refine ⟨by rw [eds_len]; omega, fun e he => ?_⟩
  obtain ⟨x, hx, ex⟩ := eds_mem B 0 e he
  have := h.2 x hx
  rw [ex]
  omega
theorem Gdd.app : app a 0 (eds 0 B) = b := by
  have h := app_eds t B []
  simp only [List.nil_append, List.length_nil] at h
  rw [g.oa, g.ob] at h
  exact h
end
/-- nothing between a text and itself -/
theorem go_self : ∀ (as : List Nat) (B : List Bl) (k : List Nat), go as as (B, k, none) = (B, k ++ as, none)
  | [], B, k => by rw [go]; simp
  | a :: as, B, k => by
    rw [go, if_pos rfl]
    show go as as (B, k ++ [a], none) = _
    rw [go_self as]
    simp
theorem edit_self (a : List Nat) : edit a a = [] := by
  unfold edit fin
  rw [go_self]
  rfl
end K64
end

section
set_option linter.all false
set_option maxRecDepth 100000
set_option maxHeartbeats 4000000
/-! k64, the plain part: sorted by places; what hangs together. -/
namespace K64
open T2
/-! ### by places -/
section
variable {α : Type} (k : α → Nat)
def up (l : List α) : Prop := l.Pairwise fun a b => k a < k b
def apart (l : List α) : Prop := l.Pairwise fun a b => k a ≠ k b
theorem up_eq : ∀ {a b : List α}, up k a → up k b → (∀ x, x ∈ a ↔ x ∈ b) → a = b
  | [], [], _, _, _ => rfl
  | [], y :: b, _, _, h => absurd ((h y).mpr List.mem_cons_self) (by simp)
  | x :: a, [], _, _, h => absurd ((h x).mp List.mem_cons_self) (by simp)
  | x :: a, y :: b, ha, hb, h => by
    obtain ⟨ha1, ha2⟩ := List.pairwise_cons.mp ha
    obtain ⟨hb1, hb2⟩ := List.pairwise_cons.mp hb
    have e : x = y := by
      rcases List.mem_cons.mp ((h x).mp List.mem_cons_self) with e | e
      · exact e
      · rcases List.mem_cons.mp ((h y).mpr List.mem_cons_self) with e2 | e2
        · exact e2.symm
        · have := hb1 x e
          have := ha1 y e2
          omega
    subst e
    congr 1
    refine up_eq ha2 hb2 fun z => ⟨fun hz => ?_, fun hz => ?_⟩
    · rcases List.mem_cons.mp ((h z).mp (List.mem_cons_of_mem _ hz)) with e | e
      · have := ha1 z hz
        subst e
        omega
      · exact e
    · rcases List.mem_cons.mp ((h z).mpr (List.mem_cons_of_mem _ hz)) with e | e
      · have := hb1 z hz
        subst e
        omega
      · exact e
def srt (l : List α) : List α := l.mergeSort fun a b => decide (k a ≤ k b)
theorem srt_perm (l : List α) : (srt k l).Perm l := List.mergeSort_perm _ _
theorem srt_mem {l : List α} {x : α} : x ∈ srt k l ↔ x ∈ l := (srt_perm k l).mem_iff
theorem srt_len (l : List α) : (srt k l).length = l.length := (srt_perm k l).length_eq
theorem apart_perm {a b : List α} (h : a.Perm b) (ha : apart k a) : apart k b := h.pairwise ha fun h => Ne.symm h
theorem srt_up {l : List α} (h : apart k l) : up k (srt k l) := by
  have h1 : (srt k l).Pairwise fun a b => decide (k a ≤ k b) = true := List.pairwise_mergeSort (fun a b c h1 h2 => by simp only [decide_eq_true_eq] at *; omega) (fun a b => by simp only [Bool.or_eq_true, decide_eq_true_eq]; omega) l
  have h2 : apart k (srt k l) := apart_perm k (srt_perm k l).symm h
  have h3 := h1.and h2
  refine h3.imp fun h => ?_
  have := of_decide_eq_true h.1
  have := h.2
  omega
theorem up_apart {l : List α} (h : up k l) : apart k l := h.imp fun h => Nat.ne_of_lt h
theorem srt_id {l : List α} (h : up k l) : srt k l = l := up_eq k (srt_up k (up_apart k h)) h fun x => srt_mem k
theorem apart_eq {l : List α} (h : apart k l) {a b : α} (ha : a ∈ l) (hb : b ∈ l) (e : k a = k b) : a = b := by
  induction l with
  | nil => simp at ha
  | cons x l ih =>
    obtain ⟨h1, h2⟩ := List.pairwise_cons.mp h
    rcases List.mem_cons.mp ha with rfl | ha
    · rcases List.mem_cons.mp hb with rfl | hb
      · rfl
      · exact absurd e (h1 b hb)
    · rcases List.mem_cons.mp hb with rfl | hb
      · exact absurd e.symm (h1 a (by assumption))
      · exact ih h2 ha hb
theorem up_filter {l : List α} (h : up k l) (p : α → Bool) : up k (l.filter p) := h.filter p
end
theorem le_refl_d (x : W) : PySem.W.dataLe false W.d x x = true := by
  rw [PySem.W.dataLe_eq]
  have : PySem.W.dataLt x.d x.d = false := by
    unfold PySem.W.dataLt
    have := PySem.W.lex_pre (PySem.W.keyToks x.d) [] []
    rw [List.append_nil] at this
    rw [this]
    rfl
  simp [this]
theorem le_head {i j : Nat} (r t : List W) (h : i ≠ j) : PySem.W.dataLe false W.d (.tup (.int i :: r)) (.tup (.int j :: t)) = decide (i ≤ j) := by
  rw [PySem.W.dataLe_eq]
  show (!PySem.W.dataLt (W.d (.tup (.int j :: t))) (W.d (.tup (.int i :: r)))) = _
  have lc : ∀ (i j : Int) (r t : List (Int ⊕ List Nat)), PyProof.Rows.lexLt PyProof.Rows.itemOrd (.inl i :: r) (.inl j :: t) = (decide (i < j) || (!decide (j < i) && PyProof.Rows.lexLt PyProof.Rows.itemOrd r t)) := fun i j r t => PyProof.Rows.lex_cons (O := PyProof.Rows.itemOrd) (.inl i) (.inl j) r t
  simp only [W.d, W.ds, PySem.W.dataLt, PySem.W.keyToks, PySem.W.keyToksAll, List.cons_append, List.nil_append, lc]
  by_cases h1 : i < j
  · have h2 : i ≤ j := by omega
    have h3 : ¬ j < i := by omega
    simp [h1, h2, h3]
  · have h2 : ¬ i ≤ j := by omega
    have h3 : j < i := by omega
    simp [h2, h3]
theorem srt_W {α : Type} (k : α → Nat) (f : α → W) (hf : ∀ a, ∃ r, f a = .tup (.int (k a : Nat) :: r)) {l : List α} (h : apart k l) : (l.map f).mergeSort (PySem.W.dataLe false W.d) = (srt k l).map f := by
  unfold srt
  refine (List.map_mergeSort (r := fun a b => decide (k a ≤ k b)) (s := PySem.W.dataLe false W.d) (f := f) fun a ha b hb => ?_).symm
  by_cases e : k a = k b
  · have := apart_eq k h ha hb e
    subst this
    rw [le_refl_d]
    simp
  · obtain ⟨r, hr⟩ := hf a
    obtain ⟨t, ht⟩ := hf b
    rw [hr, ht, le_head r t e]
def encR (r : Nat × List Nat × List Nat × List Nat) : W := .tup [.int r.1, .str r.2.1, .str r.2.2.1, .str r.2.2.2]
abbrev Row := Nat × List Nat × List Nat × List Nat
theorem enc_dep (es : List Ed) : W.deps (es.map enc) ≤ 1 := by
  induction es with
  | nil => simp [W.deps]
  | cons e r ih => simp only [List.map_cons, W.deps, enc, W.dep]; omega
theorem encR_dep (es : List Row) : W.deps (es.map encR) ≤ 1 := by
  induction es with
  | nil => simp [W.deps]
  | cons e r ih => simp only [List.map_cons, W.deps, encR, W.dep]; omega
theorem encR_pl (es : List Row) : W.pls (es.map encR) = true := by
  rw [W.pls_all]
  simp [List.all_map, Function.comp_def, encR, W.pl, W.pls]
theorem enc_al (a b : Ed) : W.alike (enc a) (enc b) = true := by
  show PySem.W.alike (enc a).d (enc b).d = true
  simp only [enc, W.d, W.ds, PySem.W.alike, PySem.W.alikeAll, Bool.and_self]
theorem encR_al (a b : Row) : W.alike (encR a) (encR b) = true := by
  show PySem.W.alike (encR a).d (encR b).d = true
  simp only [encR, W.d, W.ds, PySem.W.alike, PySem.W.alikeAll, Bool.and_self]
theorem al_all {α : Type} (f : α → W) (h : ∀ a b, W.alike (f a) (f b) = true) : ∀ l : List α, allAlike (l.map f) = true
  | [] => rfl
  | x :: l => by
    simp only [List.map_cons, allAlike, al_all f h l, Bool.and_true, List.all_cons, h, Bool.true_and, List.all_map, Function.comp_def, Bool.and_self]
    simp
theorem sortable_E (es : List Ed) : sortable (es.map enc) = true := by
  have h1 := enc_dep es
  have h2 : W.deps (es.map enc) ≤ 100 := by omega
  have h3 : (es.map enc).all isTup = true := by simp [List.all_map, Function.comp_def, enc, isTup]
  simp only [sortable, enc_pl, h2, decide_true, al_all enc enc_al, h3, Bool.true_or, Bool.and_self]
theorem sortable_R (es : List Row) : sortable (es.map encR) = true := by
  have h1 := encR_dep es
  have h2 : W.deps (es.map encR) ≤ 100 := by omega
  have h3 : (es.map encR).all isTup = true := by simp [List.all_map, Function.comp_def, encR, isTup]
  simp only [sortable, encR_pl, h2, decide_true, al_all encR encR_al, h3, Bool.true_or, Bool.and_self]
abbrev eK : Ed → Nat := fun e => e.1
abbrev rK : Row → Nat := fun r => r.1
theorem st_srtE {es : List Ed} (h : apart eK es) (hz : es.length ≤ 16777216) (G : List O) : bltW (.sorted false) [.lst (es.map enc)] G = .ok (.lst ((srt eK es).map enc)) G := by
  have e := srt_W eK enc (fun a => ⟨_, rfl⟩) h
  simp only [bltW, getL, sortable_E, if_true, mkL, e, szOk, List.length_map, srt_len, hz, decide_true]
  rfl
theorem st_srtR {es : List Row} (h : apart rK es) (hz : es.length ≤ 16777216) (G : List O) : bltW (.sorted false) [.lst (es.map encR)] G = .ok (.lst ((srt rK es).map encR)) G := by
  have e := srt_W rK encR (fun a => ⟨_, rfl⟩) h
  simp only [bltW, getL, sortable_R, if_true, mkL, e, szOk, List.length_map, srt_len, hz, decide_true]
  rfl
theorem st_srtRr {es : List Row} {r : Nat} {G : List O} (hG : G[r]? = some (.lst (es.map encR))) (h : apart rK es) (hz : es.length ≤ 16777216) : bltW (.sorted false) [.ref r] G = .ok (.lst ((srt rK es).map encR)) G := by
  have e := srt_W rK encR (fun a => ⟨_, rfl⟩) h
  simp only [bltW, getL, hG, sortable_R, if_true, mkL, e, szOk, List.length_map, srt_len, hz, decide_true]
  rfl
end K64
end

section
set_option linter.all false
set_option maxRecDepth 100000
set_option maxHeartbeats 4000000
/-! k64, the plain part: what hangs together, what is due. -/
namespace K64
open T2
abbrev Vx := Nat × Ed
def tch (e f : Ed) : Bool := decide (e.1 ≤ f.1 + f.2.1.length) && decide (f.1 ≤ e.1 + e.2.1.length)
theorem tch_sym (e f : Ed) : tch e f = tch f e := Bool.and_comm _ _
def adj (u v : Vx) : Bool := decide (u.1 ≠ v.1) && tch u.2 v.2
theorem adj_sym (u v : Vx) : adj u v = adj v u := by
  unfold adj
  rw [tch_sym]
  congr 1
  by_cases h : u.1 = v.1
  · simp [h]
  · have : ¬ v.1 = u.1 := fun z => h z.symm
    simp [h, this]
def own (A C : List Ed) : List Ed := A.filter fun e => decide (e ∉ C)
def U (A C : List Ed) : List Vx := (own A C).map (fun e => (0, e)) ++ (own C A).map (fun e => (1, e))
theorem U_mem {A C : List Ed} {s : Nat} {e : Ed} : (s, e) ∈ U A C ↔ (s = 0 ∧ e ∈ own A C) ∨ (s = 1 ∧ e ∈ own C A) := by
  unfold U
  rw [List.mem_append, List.mem_map, List.mem_map]
  constructor
  · rintro (⟨x, hx, h⟩ | ⟨x, hx, h⟩)
    · cases h; exact .inl ⟨rfl, hx⟩
    · cases h; exact .inr ⟨rfl, hx⟩
  · rintro (⟨rfl, h⟩ | ⟨rfl, h⟩)
    · exact .inl ⟨e, h, rfl⟩
    · exact .inr ⟨e, h, rfl⟩
theorem own_mem {A C : List Ed} {e : Ed} : e ∈ own A C ↔ e ∈ A ∧ e ∉ C := by simp [own]
/-- one leads to the other -/
inductive Con (U : List Vx) (u : Vx) : Vx → Prop where
  | refl : Con U u u
  | step {v w : Vx} : Con U u v → w ∈ U → adj v w = true → Con U u w
section
variable {U : List Vx} {u v w : Vx}
theorem Con.mem (h : Con U u v) (hu : u ∈ U) : v ∈ U := by
  cases h with
  | refl => exact hu
  | step _ h _ => exact h
theorem Con.trans (h : Con U u v) (g : Con U v w) : Con U u w := by
  induction g with
  | refl => exact h
  | step _ hw ha ih => exact .step ih hw ha
theorem Con.symm (h : Con U u v) (hu : u ∈ U) : Con U v u := by
  induction h with
  | refl => exact .refl
  | @step v w g hw ha ih => exact (Con.step .refl (g.mem hu) (by rw [adj_sym]; exact ha)).trans ih
theorem Con.last (h : Con U u v) (hne : v ≠ u) (hu : u ∈ U) : ∃ w ∈ U, Con U u w ∧ adj w v = true := by
  cases h with
  | refl => exact absurd rfl hne
  | @step x _ g hw ha => exact ⟨x, g.mem hu, g, ha⟩
end
open Classical in
noncomputable def cls (U : List Vx) (u : Vx) (v : Vx) : Bool := decide (Con U u v)
theorem cls_iff {U : List Vx} {u v : Vx} : cls U u v = true ↔ Con U u v := by
  unfold cls
  simp
theorem cls_eq {U : List Vx} {u v : Vx} (h : Con U u v) (hu : u ∈ U) : cls U u = cls U v := by
  funext w
  rw [Bool.eq_iff_iff, cls_iff, cls_iff]
  exact ⟨fun g => (h.symm hu).trans g, fun g => h.trans g⟩
def side (s : Nat) (K : Vx → Bool) (l : List Ed) : List Ed := l.filter fun e => K (s, e)
/-! begin and end -/
def lo : List Ed → Nat
  | [] => 0
  | e :: r => r.foldl (fun m f => min m f.1) e.1
def hi : List Ed → Nat
  | [] => 0
  | e :: r => r.foldl (fun m f => max m (f.1 + f.2.1.length)) (e.1 + e.2.1.length)
theorem lo_fold : ∀ (r : List Ed) (m : Nat), r.foldl (fun m f => min m f.1) m ≤ m ∧ (∀ f ∈ r, r.foldl (fun m f => min m f.1) m ≤ f.1) ∧ (r.foldl (fun m f => min m f.1) m = m ∨ ∃ f ∈ r, r.foldl (fun m f => min m f.1) m = f.1)
  | [], m => ⟨Nat.le_refl _, by simp, .inl rfl⟩
  | f :: r, m => by
    obtain ⟨h1, h2, h3⟩ := lo_fold r (min m f.1)
    simp only [List.foldl_cons]
    refine ⟨by omega, fun g hg => ?_, ?_⟩
    · rcases List.mem_cons.mp hg with rfl | hg
      · omega
      · exact h2 g hg
    · rcases h3 with h3 | ⟨g, hg, h3⟩
      · by_cases hm : m ≤ f.1
        · exact .inl (by omega)
        · exact .inr ⟨f, List.mem_cons_self, by omega⟩
      · exact .inr ⟨g, List.mem_cons_of_mem _ hg, h3⟩
theorem hi_fold : ∀ (r : List Ed) (m : Nat), m ≤ r.foldl (fun m f => max m (f.1 + f.2.1.length)) m ∧ (∀ f ∈ r, f.1 + f.2.1.length ≤ r.foldl (fun m f => max m (f.1 + f.2.1.length)) m) ∧ (r.foldl (fun m f => max m (f.1 + f.2.1.length)) m = m ∨ ∃ f ∈ r, r.foldl (fun m f => max m (f.1 + f.2.1.length)) m = f.1 + f.2.1.length)
  | [], m => ⟨Nat.le_refl _, by simp, .inl rfl⟩
  | f :: r, m => by
    obtain ⟨h1, h2, h3⟩ := hi_fold r (max m (f.1 + f.2.1.length))
    simp only [List.foldl_cons]
    refine ⟨by omega, fun g hg => ?_, ?_⟩
    · rcases List.mem_cons.mp hg with rfl | hg
      · omega
      · exact h2 g hg
    · rcases h3 with h3 | ⟨g, hg, h3⟩
      · by_cases hm : f.1 + f.2.1.length ≤ m
        · exact .inl (by omega)
        · exact .inr ⟨f, List.mem_cons_self, by omega⟩
      · exact .inr ⟨g, List.mem_cons_of_mem _ hg, h3⟩
theorem lo_le {l : List Ed} {e : Ed} (h : e ∈ l) : lo l ≤ e.1 := by
  cases l with
  | nil => simp at h
  | cons x r =>
    obtain ⟨h1, h2, _⟩ := lo_fold r x.1
    rcases List.mem_cons.mp h with rfl | h
    · exact h1
    · exact h2 e h
theorem lo_at {l : List Ed} (h : l ≠ []) : ∃ e ∈ l, lo l = e.1 := by
  cases l with
  | nil => exact absurd rfl h
  | cons x r =>
    rcases (lo_fold r x.1).2.2 with h | ⟨f, hf, h⟩
    · exact ⟨x, List.mem_cons_self, h⟩
    · exact ⟨f, List.mem_cons_of_mem _ hf, h⟩
theorem hi_le {l : List Ed} {e : Ed} (h : e ∈ l) : e.1 + e.2.1.length ≤ hi l := by
  cases l with
  | nil => simp at h
  | cons x r =>
    obtain ⟨h1, h2, _⟩ := hi_fold r (x.1 + x.2.1.length)
    rcases List.mem_cons.mp h with rfl | h
    · exact h1
    · exact h2 e h
theorem hi_at {l : List Ed} (h : l ≠ []) : ∃ e ∈ l, hi l = e.1 + e.2.1.length := by
  cases l with
  | nil => exact absurd rfl h
  | cons x r =>
    rcases (hi_fold r (x.1 + x.2.1.length)).2.2 with h | ⟨f, hf, h⟩
    · exact ⟨x, List.mem_cons_self, h⟩
    · exact ⟨f, List.mem_cons_of_mem _ hf, h⟩
theorem lo_set {a b : List Ed} (h : ∀ x, x ∈ a ↔ x ∈ b) : lo a = lo b := by
  by_cases ha : a = []
  · subst ha
    have : b = [] := List.eq_nil_iff_forall_not_mem.mpr fun x hx => by simpa using (h x).mpr hx
    rw [this]
  · have hb : b ≠ [] := fun z => ha (List.eq_nil_iff_forall_not_mem.mpr fun x hx => by simpa [z] using (h x).mp hx)
    obtain ⟨x, hx, e1⟩ := lo_at ha
    obtain ⟨y, hy, e2⟩ := lo_at hb
    have := lo_le ((h x).mp hx)
    have := lo_le ((h y).mpr hy)
    omega
theorem hi_set {a b : List Ed} (h : ∀ x, x ∈ a ↔ x ∈ b) : hi a = hi b := by
  by_cases ha : a = []
  · subst ha
    have : b = [] := List.eq_nil_iff_forall_not_mem.mpr fun x hx => by simpa using (h x).mpr hx
    rw [this]
  · have hb : b ≠ [] := fun z => ha (List.eq_nil_iff_forall_not_mem.mpr fun x hx => by simpa [z] using (h x).mp hx)
    obtain ⟨x, hx, e1⟩ := hi_at ha
    obtain ⟨y, hy, e2⟩ := hi_at hb
    have := hi_le ((h x).mp hx)
    have := hi_le ((h y).mpr hy)
    omega
/-! rows -/
def shf (b : Nat) (e : Ed) : Ed := (e.1 - b, e.2)
def cutB (base : List Nat) (b e : Nat) : List Nat := (base.drop b).take (e - b)
def rowOf (base : List Nat) (xs ys : List Ed) : Row :=
  let b := lo (xs ++ ys)
  let e := hi (xs ++ ys)
  (b, cutB base b e, app (cutB base b e) 0 (xs.map (shf b)), app (cutB base b e) 0 (ys.map (shf b)))
def flR (r : Row) : Row := (r.1, r.2.1, r.2.2.2, r.2.2.1)
theorem rowOf_swap (base : List Nat) (xs ys : List Ed) : rowOf base ys xs = flR (rowOf base xs ys) := by
  have h : ∀ x, x ∈ ys ++ xs ↔ x ∈ xs ++ ys := fun x => by simp [or_comm]
  unfold rowOf flR
  simp only [lo_set h, hi_set h]
noncomputable def rowAt (base : List Nat) (A C : List Ed) (u : Vx) : Row := rowOf base (side 0 (cls (U A C) u) (own A C)) (side 1 (cls (U A C) u) (own C A))
def isRow (base : List Nat) (A C : List Ed) (r : Row) : Prop := ∃ u ∈ U A C, ∃ v ∈ U A C, adj u v = true ∧ r = rowAt base A C u
/-! what is due -/
def CONF : List Nat := [99, 111, 110, 102, 108, 105, 99, 116, 115]
def MERG : List Nat := [109, 101, 114, 103, 101, 100]
def cW (rs : List Row) : W := .tup [.str CONF, .tup (rs.map encR)]
def mW (t : List Nat) : W := .tup [.str MERG, .str t]
def whole (A C : List Ed) : List Ed := srt eK (A ++ own C A)
def Due (base : List Nat) (A C : List Ed) (w : W) : Prop :=
  (∃ rs, rs ≠ [] ∧ up rK rs ∧ (∀ r, r ∈ rs ↔ isRow base A C r) ∧ w = cW rs) ∨ ((∀ u ∈ U A C, ∀ v ∈ U A C, adj u v = false) ∧ w = mW (app base 0 (whole A C)))
theorem Due.uniq {base : List Nat} {A C : List Ed} {w w' : W} (h : Due base A C w) (h' : Due base A C w') : w = w' := by
  have no : ∀ rs : List Row, rs ≠ [] → (∀ r, r ∈ rs ↔ isRow base A C r) → (∀ u ∈ U A C, ∀ v ∈ U A C, adj u v = false) → False := fun rs h1 h2 h3 => by
    cases rs with
    | nil => exact h1 rfl
    | cons r rs =>
      obtain ⟨u, hu, v, hv, ha, _⟩ := (h2 r).mp List.mem_cons_self
      rw [h3 u hu v hv] at ha
      cases ha
  rcases h with ⟨rs, n1, u1, m1, e1⟩ | ⟨a1, e1⟩
  · rcases h' with ⟨rs', n2, u2, m2, e2⟩ | ⟨a2, e2⟩
    · have := up_eq rK u1 u2 fun x => (m1 x).trans (m2 x).symm
      rw [e1, e2, this]
    · exact (no rs n1 m1 a2).elim
  · rcases h' with ⟨rs', n2, u2, m2, e2⟩ | ⟨a2, e2⟩
    · exact (no rs' n2 m2 a1).elim
    · rw [e1, e2]
/-! the other way round -/
def fl (u : Vx) : Vx := (1 - u.1, u.2)
theorem fl_mem {A C : List Ed} {u : Vx} (h : u ∈ U A C) : fl u ∈ U C A ∧ u.1 ≤ 1 := by
  obtain ⟨s, e⟩ := u
  rcases U_mem.mp h with ⟨rfl, h1⟩ | ⟨rfl, h1⟩
  · exact ⟨U_mem.mpr (.inr ⟨rfl, h1⟩), Nat.zero_le _⟩
  · exact ⟨U_mem.mpr (.inl ⟨rfl, h1⟩), Nat.le_refl _⟩
theorem fl_fl {u : Vx} (h : u.1 ≤ 1) : fl (fl u) = u := by
  obtain ⟨s, e⟩ := u
  have h : s ≤ 1 := h
  have : 1 - (1 - s) = s := by omega
  simp only [fl, this]
theorem fl_adj {u v : Vx} (hu : u.1 ≤ 1) (hv : v.1 ≤ 1) : adj (fl u) (fl v) = adj u v := by
  unfold adj fl
  simp only
  congr 1
  by_cases h : u.1 = v.1
  · simp [h]
  · have : ¬ (1 - u.1 = 1 - v.1) := by omega
    simp [h, this]
theorem fl_con {A C : List Ed} {u v : Vx} (hu : u ∈ U A C) (h : Con (U A C) u v) : Con (U C A) (fl u) (fl v) := by
  induction h with
  | refl => exact .refl
  | @step v w g hw ha ih => exact .step ih (fl_mem hw).1 (by rw [fl_adj (fl_mem (g.mem hu)).2 (fl_mem hw).2]; exact ha)
theorem side_fl {A C : List Ed} {u : Vx} (hu : u ∈ U A C) : side 0 (cls (U C A) (fl u)) (own C A) = side 1 (cls (U A C) u) (own C A) ∧ side 1 (cls (U C A) (fl u)) (own A C) = side 0 (cls (U A C) u) (own A C) := by
  have key : ∀ w, w ∈ U A C → cls (U C A) (fl u) (fl w) = cls (U A C) u w := fun w hw => by
    rw [Bool.eq_iff_iff, cls_iff, cls_iff]
    refine ⟨fun h => ?_, fl_con hu⟩
    have := fl_con (fl_mem hu).1 h
    rwa [fl_fl (fl_mem hu).2, fl_fl (fl_mem hw).2] at this
  constructor
  · exact List.filter_congr fun e he => key (1, e) (U_mem.mpr (.inr ⟨rfl, he⟩))
  · exact List.filter_congr fun e he => key (0, e) (U_mem.mpr (.inl ⟨rfl, he⟩))
theorem rowAt_fl {base : List Nat} {A C : List Ed} {u : Vx} (hu : u ∈ U A C) : rowAt base C A (fl u) = flR (rowAt base A C u) := by
  obtain ⟨h1, h2⟩ := side_fl hu
  unfold rowAt
  rw [h1, h2, rowOf_swap]
theorem isRow_fl {base : List Nat} {A C : List Ed} {r : Row} (h : isRow base A C r) : isRow base C A (flR r) := by
  obtain ⟨u, hu, v, hv, ha, rfl⟩ := h
  exact ⟨fl u, (fl_mem hu).1, fl v, (fl_mem hv).1, by rw [fl_adj (fl_mem hu).2 (fl_mem hv).2]; exact ha, (rowAt_fl hu).symm⟩
/-! edits, apart -/
def sep (es : List Ed) : Prop := es.Pairwise fun a b => a.1 + a.2.1.length < b.1
theorem asc_sep : ∀ es : List Ed, asc es → sep es
  | [], _ => .nil
  | [e], _ => by simp [sep]
  | e :: f :: r, h => by
    have ih := asc_sep (f :: r) h.2
    refine List.pairwise_cons.mpr ⟨fun g hg => ?_, ih⟩
    have h1 := h.1
    rcases List.mem_cons.mp hg with rfl | hg
    · exact h1
    · have := (List.pairwise_cons.mp ih).1 g hg
      omega
theorem sep_up {es : List Ed} (h : sep es) : up eK es := h.imp fun {a b} h => by
  show a.1 < b.1
  omega
/-- both edits, in their places -/
structure Two (L : Nat) (A C : List Ed) : Prop where
  a : sep A
  c : sep C
  al : ∀ e ∈ A, e.1 + e.2.1.length ≤ L
  cl : ∀ e ∈ C, e.1 + e.2.1.length ≤ L
theorem Two.symm {L : Nat} {A C : List Ed} (h : Two L A C) : Two L C A := ⟨h.c, h.a, h.cl, h.al⟩
theorem U_nodup {L : Nat} {A C : List Ed} (h : Two L A C) : (U A C).Nodup := by
  have nd : ∀ {A C : List Ed}, sep A → (own A C).Nodup := fun {A C} h => by
    have : A.Nodup := (sep_up h).imp fun {a b} h e => by
      have h : a.1 < b.1 := h
      rw [e] at h
      omega
    exact this.filter _
  unfold U
  rw [List.nodup_append]
  refine ⟨(nd h.a).map (f := fun e => (0, e)) ?_, (nd h.c).map (f := fun e => (1, e)) ?_, fun a ha b hb e => ?_⟩
  · intro a b hne e; exact hne (by cases e; rfl)
  · intro a b hne e; exact hne (by cases e; rfl)
  · obtain ⟨x, _, rfl⟩ := List.mem_map.mp ha
    obtain ⟨y, _, rfl⟩ := List.mem_map.mp hb
    cases e
/-- one place, one class -/
theorem Two.same {L : Nat} {A C : List Ed} (h : Two L A C) {u v : Vx} (hu : u ∈ U A C) (hv : v ∈ U A C) (e : u.2.1 = v.2.1) : Con (U A C) u v := by
  obtain ⟨s, x⟩ := u
  obtain ⟨t, y⟩ := v
  have e : x.1 = y.1 := e
  have tx : tch x y = true := by simp [tch]; omega
  have uq : ∀ {A C : List Ed}, sep A → x ∈ own A C → y ∈ own A C → x = y := fun {A C} h h1 h2 => apart_eq eK (up_apart eK (sep_up h)) (own_mem.mp h1).1 (own_mem.mp h2).1 e
  rcases U_mem.mp hu with ⟨rfl, h1⟩ | ⟨rfl, h1⟩
  · rcases U_mem.mp hv with ⟨rfl, h2⟩ | ⟨rfl, h2⟩
    · rw [uq h.a h1 h2]; exact .refl
    · exact .step .refl hv (by simp [adj, tx])
  · rcases U_mem.mp hv with ⟨rfl, h2⟩ | ⟨rfl, h2⟩
    · exact .step .refl hv (by simp [adj, tx])
    · rw [uq h.c h1 h2]; exact .refl
/-- the begin of a class is one of its places -/
theorem rowAt_key {base : List Nat} {A C : List Ed} {u : Vx} (hu : u ∈ U A C) : ∃ v ∈ U A C, Con (U A C) u v ∧ (rowAt base A C u).1 = v.2.1 := by
  have hne : side 0 (cls (U A C) u) (own A C) ++ side 1 (cls (U A C) u) (own C A) ≠ [] := by
    intro z
    have z1 := List.append_eq_nil_iff.mp z
    obtain ⟨s, e⟩ := u
    rcases U_mem.mp hu with ⟨rfl, h⟩ | ⟨rfl, h⟩
    · have : e ∈ side 0 (cls (U A C) (0, e)) (own A C) := List.mem_filter.mpr ⟨h, cls_iff.mpr .refl⟩
      rw [z1.1] at this
      simp at this
    · have : e ∈ side 1 (cls (U A C) (1, e)) (own C A) := List.mem_filter.mpr ⟨h, cls_iff.mpr .refl⟩
      rw [z1.2] at this
      simp at this
  obtain ⟨e, he, hl⟩ := lo_at hne
  rcases List.mem_append.mp he with he | he
  · obtain ⟨h1, h2⟩ := List.mem_filter.mp he
    exact ⟨(0, e), U_mem.mpr (.inl ⟨rfl, h1⟩), cls_iff.mp h2, hl⟩
  · obtain ⟨h1, h2⟩ := List.mem_filter.mp he
    exact ⟨(1, e), U_mem.mpr (.inr ⟨rfl, h1⟩), cls_iff.mp h2, hl⟩
theorem rowAt_con {base : List Nat} {L : Nat} {A C : List Ed} (h : Two L A C) {u v : Vx} (hu : u ∈ U A C) (hv : v ∈ U A C) (e : (rowAt base A C u).1 = (rowAt base A C v).1) : Con (U A C) u v := by
  obtain ⟨x, hx, cx, ex⟩ := rowAt_key (base := base) hu
  obtain ⟨y, hy, cy, ey⟩ := rowAt_key (base := base) hv
  exact (cx.trans (h.same hx hy (by rw [← ex, ← ey]; exact e))).trans (cy.symm hv)
theorem rowAt_eq {base : List Nat} {A C : List Ed} {u v : Vx} (hu : u ∈ U A C) (h : Con (U A C) u v) : rowAt base A C u = rowAt base A C v := by
  unfold rowAt
  rw [cls_eq h hu]
theorem isRow_key {base : List Nat} {L : Nat} {A C : List Ed} (h : Two L A C) {r r' : Row} (h1 : isRow base A C r) (h2 : isRow base A C r') (e : r.1 = r'.1) : r = r' := by
  obtain ⟨u, hu, _, _, _, rfl⟩ := h1
  obtain ⟨v, hv, _, _, _, rfl⟩ := h2
  exact rowAt_eq hu (rowAt_con h hu hv e)
/-- both together stand apart, if nothing touches -/
theorem both_apart {L : Nat} {A C : List Ed} (h : Two L A C) (hn : ∀ u ∈ U A C, ∀ v ∈ U A C, adj u v = false) : (∀ e ∈ A, ∀ f ∈ own C A, e.1 + e.2.1.length < f.1 ∨ f.1 + f.2.1.length < e.1) := by
  intro e he f hf
  by_cases hc : e ∈ C
  · have hf' := own_mem.mp hf
    have hne : e ≠ f := fun z => hf'.2 (z ▸ he)
    have key : ∀ l : List Ed, sep l → e ∈ l → f ∈ l → e.1 + e.2.1.length < f.1 ∨ f.1 + f.2.1.length < e.1 := by
      intro l
      induction l with
      | nil => intro _ h; simp at h
      | cons x l ih =>
        intro hs h1 h2
        obtain ⟨p, q⟩ := List.pairwise_cons.mp hs
        rcases List.mem_cons.mp h1 with rfl | h1
        · rcases List.mem_cons.mp h2 with rfl | h2
          · exact absurd rfl hne
          · exact .inl (p f h2)
        · rcases List.mem_cons.mp h2 with rfl | h2
          · exact .inr (p e (by assumption))
          · exact ih q h1 h2
    exact key C h.c hc hf'.1
  · have := hn (0, e) (U_mem.mpr (.inl ⟨rfl, own_mem.mpr ⟨he, hc⟩⟩)) (1, f) (U_mem.mpr (.inr ⟨rfl, hf⟩))
    simp only [adj, tch] at this
    have this : (decide (e.1 ≤ f.1 + f.2.1.length) && decide (f.1 ≤ e.1 + e.2.1.length)) = false := by simpa using this
    rw [Bool.and_eq_false_iff, decide_eq_false_iff_not, decide_eq_false_iff_not] at this
    omega
theorem whole_apart {L : Nat} {A C : List Ed} (h : Two L A C) (hn : ∀ u ∈ U A C, ∀ v ∈ U A C, adj u v = false) : apart eK (A ++ own C A) := by
  unfold apart
  rw [List.pairwise_append]
  refine ⟨up_apart eK (sep_up h.a), up_apart eK (up_filter eK (sep_up h.c) _), fun e he f hf => ?_⟩
  have := both_apart h hn e he f hf
  show e.1 ≠ f.1
  omega
theorem no_fl {A C : List Ed} (hn : ∀ u ∈ U A C, ∀ v ∈ U A C, adj u v = false) : ∀ u ∈ U C A, ∀ v ∈ U C A, adj u v = false := fun u hu v hv => by
  rw [← fl_adj (fl_mem hu).2 (fl_mem hv).2]
  exact hn _ (fl_mem hu).1 _ (fl_mem hv).1
theorem whole_fl {L : Nat} {A C : List Ed} (h : Two L A C) (hn : ∀ u ∈ U A C, ∀ v ∈ U A C, adj u v = false) : whole C A = whole A C := by
  refine up_eq eK (srt_up eK (whole_apart h.symm (no_fl hn))) (srt_up eK (whole_apart h hn)) fun x => ?_
  unfold whole
  rw [srt_mem, srt_mem, List.mem_append, List.mem_append, own_mem, own_mem]
  by_cases h1 : x ∈ A <;> by_cases h2 : x ∈ C <;> simp [h1, h2]
/-- the conflicts with the copies exchanged -/
def swapC (rs : List Row) : List Row := srt rK (rs.map flR)
theorem flR_up {rs : List Row} (h : up rK rs) : up rK (rs.map flR) := by
  unfold up at *
  rw [List.pairwise_map]
  exact h
theorem Due.swap_c {base : List Nat} {L : Nat} {A C : List Ed} (h : Two L A C) {rs : List Row} (n : rs ≠ []) (hu : up rK rs) (hm : ∀ r, r ∈ rs ↔ isRow base A C r) : Due base C A (cW (rs.map flR)) := by
  refine .inl ⟨rs.map flR, by simpa using n, flR_up hu, fun r => ?_, rfl⟩
  rw [List.mem_map]
  constructor
  · rintro ⟨x, hx, rfl⟩
    exact isRow_fl ((hm x).mp hx)
  · intro hr
    exact ⟨flR r, (hm _).mpr (isRow_fl hr), rfl⟩
theorem Due.swap_m {base : List Nat} {L : Nat} {A C : List Ed} (h : Two L A C) (hn : ∀ u ∈ U A C, ∀ v ∈ U A C, adj u v = false) : Due base C A (mW (app base 0 (whole A C))) := .inr ⟨no_fl hn, by rw [whole_fl h hn]⟩
/-! done from the last to the first -/
def don (base : List Nat) : List Ed → List Nat
  | [] => base
  | e :: r => (don base r).take e.1 ++ e.2.2 ++ (don base r).drop (e.1 + e.2.1.length)
def lin (L : Nat) : Nat → List Ed → Prop
  | _, [] => True
  | o, e :: r => o ≤ e.1 ∧ e.1 + e.2.1.length ≤ L ∧ lin L (e.1 + e.2.1.length) r
theorem don_app (base : List Nat) : ∀ (es : List Ed) (o : Nat), o ≤ base.length → lin base.length o es → don base es = base.take o ++ app base o es
  | [], o, _, _ => by simp [don, app]
  | e :: r, o, ho, h => by
    obtain ⟨h1, h2, h3⟩ := h
    have ih := don_app base r _ h2 h3
    simp only [don, app]
    rw [ih]
    have e1 : (base.take (e.1 + e.2.1.length)).length = e.1 + e.2.1.length := by rw [List.length_take]; omega
    rw [List.take_append_of_le_length (by omega), List.take_take, Nat.min_eq_left (by omega)]
    have e2 : (base.take (e.1 + e.2.1.length) ++ app base (e.1 + e.2.1.length) r).drop (e.1 + e.2.1.length) = app base (e.1 + e.2.1.length) r := List.drop_left' e1
    rw [e2]
    have e3 : base.take e.1 = base.take o ++ (base.drop o).take (e.1 - o) := by
      have := List.take_add (l := base) (i := o) (j := e.1 - o)
      rw [← this]
      congr 1
      omega
    rw [e3]
    simp [List.append_assoc]
theorem don_eq (base : List Nat) (es : List Ed) (h : lin base.length 0 es) : don base es = app base 0 es := by
  rw [don_app base es 0 (Nat.zero_le _) h]
  simp
theorem lin_sep {L : Nat} : ∀ (es : List Ed) (o : Nat), es.Pairwise (fun a b => a.1 + a.2.1.length ≤ b.1) → (∀ e ∈ es, o ≤ e.1 ∧ e.1 + e.2.1.length ≤ L) → lin L o es
  | [], _, _, _ => trivial
  | e :: r, o, h, h2 => by
    obtain ⟨p, q⟩ := List.pairwise_cons.mp h
    exact ⟨(h2 e List.mem_cons_self).1, (h2 e List.mem_cons_self).2, lin_sep r _ q fun f hf => ⟨p f hf, (h2 f (List.mem_cons_of_mem _ hf)).2⟩⟩
theorem whole_lin {L : Nat} {A C : List Ed} (h : Two L A C) (hn : ∀ u ∈ U A C, ∀ v ∈ U A C, adj u v = false) : lin L 0 (whole A C) := by
  have hb := both_apart h hn
  have hA : ∀ e ∈ A, ∀ f ∈ A, e.1 < f.1 → e.1 + e.2.1.length < f.1 := by
    have key : ∀ l : List Ed, sep l → ∀ e ∈ l, ∀ f ∈ l, e.1 < f.1 → e.1 + e.2.1.length < f.1 := by
      intro l
      induction l with
      | nil => intro _ e h; simp at h
      | cons x l ih =>
        intro hs e h1 f h2 hlt
        obtain ⟨p, q⟩ := List.pairwise_cons.mp hs
        rcases List.mem_cons.mp h1 with rfl | h1
        · rcases List.mem_cons.mp h2 with rfl | h2
          · omega
          · exact p f h2
        · rcases List.mem_cons.mp h2 with rfl | h2
          · have := p e (by assumption)
            omega
          · exact ih q e h1 f h2 hlt
    exact key A h.a
  have hC : ∀ e ∈ C, ∀ f ∈ C, e.1 < f.1 → e.1 + e.2.1.length < f.1 := by
    have key : ∀ l : List Ed, sep l → ∀ e ∈ l, ∀ f ∈ l, e.1 < f.1 → e.1 + e.2.1.length < f.1 := by
      intro l
      induction l with
      | nil => intro _ e h; simp at h
      | cons x l ih =>
        intro hs e h1 f h2 hlt
        obtain ⟨p, q⟩ := List.pairwise_cons.mp hs
        rcases List.mem_cons.mp h1 with rfl | h1
        · rcases List.mem_cons.mp h2 with rfl | h2
          · omega
          · exact p f h2
        · rcases List.mem_cons.mp h2 with rfl | h2
          · have := p e (by assumption)
            omega
          · exact ih q e h1 f h2 hlt
    exact key C h.c
  refine lin_sep _ 0 ?_ fun e he => ⟨Nat.zero_le _, ?_⟩
  · have hu := srt_up eK (whole_apart h hn)
    refine List.Pairwise.imp_of_mem (fun {a b} ha hb' hlt => ?_) hu
    have hlt : a.1 < b.1 := hlt
    unfold whole at ha hb'
    rw [srt_mem, List.mem_append] at ha hb'
    rcases ha with ha | ha
    · rcases hb' with hb' | hb'
      · have := hA a ha b hb' hlt; omega
      · have := hb a ha b hb'; omega
    · rcases hb' with hb' | hb'
      · have := hb b hb' a ha; omega
      · have := hC a (own_mem.mp ha).1 b (own_mem.mp hb').1 hlt; omega
  · unfold whole at he
    rw [srt_mem, List.mem_append] at he
    rcases he with he | he
    · exact h.al e he
    · exact h.cl e (own_mem.mp he).1
end K64
end

section
set_option linter.all false
set_option maxRecDepth 100000
set_option maxHeartbeats 4000000
/-! k64: groups_of, a turn of the inner loop. -/
namespace K64
open T2
def encV (u : Vx) : W := .tup [.int (u.1 : Nat), enc u.2]
theorem encV_pl (u : Vx) : (encV u).pl = true := by simp [encV, enc, W.pl, W.pls]
theorem encV_dep (u : Vx) : (encV u).dep = 2 := by simp [encV, enc, W.dep, W.deps]
theorem encVs_pl (l : List Vx) : W.pls (l.map encV) = true := by
  rw [W.pls_all]
  simp [List.all_map, Function.comp_def, encV_pl]
theorem encVs_nr (l : List Vx) : W.nrs (l.map encV) = true := pls_nrs _ (encVs_pl l)
theorem encVs_dep : ∀ l : List Vx, W.deps (l.map encV) ≤ 2
  | [] => by simp [W.deps]
  | u :: l => by
    have := encVs_dep l
    simp only [List.map_cons, W.deps, encV_dep]
    omega
theorem enc_dep1 (e : Ed) : (enc e).dep = 1 := by simp [enc, W.dep, W.deps]
theorem enc_pl1 (e : Ed) : (enc e).pl = true := by simp [enc, W.pl, W.pls]
theorem enc_nr1 (e : Ed) : (enc e).nr = true := pl_nr _ (enc_pl1 e)
theorem eq_enc (a b : Ed) : W.eq (enc a) (enc b) = decide (a = b) := by
  obtain ⟨p, g, c⟩ := a
  obtain ⟨p', g', c'⟩ := b
  rw [Bool.eq_iff_iff]
  simp [enc, W.eq, W.eqs]
  intro _ _
  omega
theorem eq_encV (a b : Vx) : W.eq (encV a) (encV b) = decide (a = b) := by
  obtain ⟨s, e⟩ := a
  obtain ⟨s', e'⟩ := b
  rw [Bool.eq_iff_iff]
  simp [encV, W.eq, W.eqs, eq_enc]
  intro _
  omega
/-- changes are no longer than this -/
def shrt (e : Ed) : Prop := e.2.1.length ≤ 1000 ∧ e.2.2.length ≤ 1000
theorem t5 (n : Nat) (e f : Ed) (he : shrt e) (hf : shrt f) (G : List O) : callW (cl (n + 1)) .iso 5 [enc e, enc f] G = .ok (.bl (tch e f)) G := by
  refine iso_pl (by simp [W.nrs, enc_nr1]) (G1 := []) ?_ rfl
  have z1 : e.2.1.length ≤ 16777216 := by have := he.1; omega
  have z2 : f.2.1.length ≤ 16777216 := by have := hf.1; omega
  rw [c5]
  by_cases h1 : e.1 ≤ f.1 + f.2.1.length
  · have h1' : (e.1 : Int) ≤ f.1 + f.2.1.length := by omega
    by_cases h2 : f.1 ≤ e.1 + e.2.1.length
    · have h2' : (f.1 : Int) ≤ e.1 + e.2.1.length := by omega
      simp [ev, evs, evT, evO, evC, evI, asgT, asgTs, evH, pickH, ex, exB, runD, look, seqOf, isKds, isKd, szOk, bnd_ok, bnd_exc, noX_ok, wipe, st_mkt, st_mkf, st_addi, st_adds, st_addt, st_auI, st_auS, st_sub, st_mul, st_fdiv, st_mod, st_pow, st_cat, st_repl, st_reps, st_lt, st_le, st_gt, st_ge, st_eqi, st_nei, st_eqs, st_nes, st_idxL, st_idxS, st_idxT, st_idxs, at_n, at_0, at_1, at_2, at_m1, st_slcL, st_slcT, st_slcs, cut_nn, cut_n, cut_from, cut_1, cut_to1, st_lens, st_lenL, st_lenS, st_lenT, st_inti, st_intb, st_min2, st_max2, st_sumL, st_allL, st_anyL, st_tupL, st_tupT, st_joinL, st_rcvj, st_sh, st_idxr, st_lenr, st_tupr, st_appr, st_rcvr, st_joinr, st_setr, mulOk_fm, mulOk_r, mulOk_l, st_eq, st_ne, W.eq, W.eqs, W.pl, W.pls, W.dep, W.deps, d5, b5, enc, tch, z1, z2, h1, h1', h2, h2']
    · have h2' : ¬ (f.1 : Int) ≤ e.1 + e.2.1.length := by omega
      simp [ev, evs, evT, evO, evC, evI, asgT, asgTs, evH, pickH, ex, exB, runD, look, seqOf, isKds, isKd, szOk, bnd_ok, bnd_exc, noX_ok, wipe, st_mkt, st_mkf, st_addi, st_adds, st_addt, st_auI, st_auS, st_sub, st_mul, st_fdiv, st_mod, st_pow, st_cat, st_repl, st_reps, st_lt, st_le, st_gt, st_ge, st_eqi, st_nei, st_eqs, st_nes, st_idxL, st_idxS, st_idxT, st_idxs, at_n, at_0, at_1, at_2, at_m1, st_slcL, st_slcT, st_slcs, cut_nn, cut_n, cut_from, cut_1, cut_to1, st_lens, st_lenL, st_lenS, st_lenT, st_inti, st_intb, st_min2, st_max2, st_sumL, st_allL, st_anyL, st_tupL, st_tupT, st_joinL, st_rcvj, st_sh, st_idxr, st_lenr, st_tupr, st_appr, st_rcvr, st_joinr, st_setr, mulOk_fm, mulOk_r, mulOk_l, st_eq, st_ne, W.eq, W.eqs, W.pl, W.pls, W.dep, W.deps, d5, b5, enc, tch, z1, z2, h1, h1', h2, h2']
  · have h1' : ¬ (e.1 : Int) ≤ f.1 + f.2.1.length := by omega
    simp [ev, evs, evT, evO, evC, evI, asgT, asgTs, evH, pickH, ex, exB, runD, look, seqOf, isKds, isKd, szOk, bnd_ok, bnd_exc, noX_ok, wipe, st_mkt, st_mkf, st_addi, st_adds, st_addt, st_auI, st_auS, st_sub, st_mul, st_fdiv, st_mod, st_pow, st_cat, st_repl, st_reps, st_lt, st_le, st_gt, st_ge, st_eqi, st_nei, st_eqs, st_nes, st_idxL, st_idxS, st_idxT, st_idxs, at_n, at_0, at_1, at_2, at_m1, st_slcL, st_slcT, st_slcs, cut_nn, cut_n, cut_from, cut_1, cut_to1, st_lens, st_lenL, st_lenS, st_lenT, st_inti, st_intb, st_min2, st_max2, st_sumL, st_allL, st_anyL, st_tupL, st_tupT, st_joinL, st_rcvj, st_sh, st_idxr, st_lenr, st_tupr, st_appr, st_rcvr, st_joinr, st_setr, mulOk_fm, mulOk_r, mulOk_l, st_eq, st_ne, W.eq, W.eqs, W.pl, W.pls, W.dep, W.deps, d5, b5, enc, tch, z1, z2, h1, h1']
/-! the inner loop -/
structure Pg (UU L0 : List Vx) (u0 : Vx) (group left : List Vx) (a : Nat) : Prop where
  perm : (group ++ left).Perm L0
  con : ∀ v ∈ group, Con UU u0 v
  far : ∀ i, i < a → ∀ v, group[i]? = some v → ∀ w ∈ left, adj v w = false
  le : a ≤ group.length
  u0m : u0 ∈ group
def nxt (v : Vx) (left : List Vx) : List Vx := left.filter fun w => adj w v
def rst (v : Vx) (left : List Vx) : List Vx := left.filter fun w => !adj w v
theorem Pg.step {UU L0 : List Vx} {u0 v : Vx} {group left : List Vx} {a : Nat} (hL : ∀ v ∈ L0, v ∈ UU) (p : Pg UU L0 u0 group left a) (hv : group[a]? = some v) : Pg UU L0 u0 (group ++ nxt v left) (rst v left) (a + 1) := by
  obtain ⟨ha, _⟩ := List.getElem?_eq_some_iff.mp hv
  have hmem : v ∈ group := List.mem_of_getElem? hv
  refine ⟨?_, fun w hw => ?_, fun i hi w hw x hx => ?_, by rw [List.length_append]; omega, List.mem_append_left _ p.u0m⟩
  · refine List.Perm.trans ?_ p.perm
    rw [List.append_assoc]
    exact List.Perm.append_left _ (List.filter_append_perm _ _)
  · rcases List.mem_append.mp hw with hw | hw
    · exact p.con w hw
    · obtain ⟨h1, h2⟩ := List.mem_filter.mp hw
      exact .step (p.con v hmem) (hL w (p.perm.mem_iff.mp (List.mem_append_right _ h1))) (by rw [adj_sym]; exact h2)
  · obtain ⟨h1, h2⟩ := List.mem_filter.mp hx
    rw [List.getElem?_append_left (by omega)] at hw
    by_cases hia : i = a
    · subst hia
      rw [hv] at hw
      cases hw
      rw [adj_sym]
      simpa using h2
    · exact p.far i (by omega) w hw x h1
abbrev t6i (n : Nat) : Sl → List O → Res Bool := fun sw G => evT (cl n) gk b6_3t sw G
abbrev f6i (n : Nat) : Sl → List O → Res Fl := fun sw G => exB (cl n) gk wf b6_3 sw G
theorem rst_mem (v : Vx) (left : List Vx) : left.filter (fun w => !decide (w ∈ nxt v left)) = rst v left := by
  refine List.filter_congr fun w hw => ?_
  congr 1
  by_cases h : adj w v = true
  · rw [h, decide_eq_true (show w ∈ nxt v left from List.mem_filter.mpr ⟨hw, h⟩)]
  · have h' : adj w v = false := by simpa using h
    rw [h', decide_eq_false (show ¬ w ∈ nxt v left from fun z => h (List.mem_filter.mp z).2)]
theorem step6 (n : Nat) (A C F : Option W) (l g a : Nat) (s6 s7 s8 s9 : Option W) (G : List O) (group left : List Vx) (v : Vx) (hl : G[l]? = some (.lst (left.map encV))) (hg : G[g]? = some (.lst (group.map encV))) (hv : group[a]? = some v) (z1 : left.length ≤ 1000) (z2 : group.length ≤ 1000) (z3 : ∀ w ∈ left, shrt w.2) (z4 : shrt v.2) (hne : l ≠ g) :
    f6i (n + 1) [A, C, some (.ref l), F, some (.ref g), some (.int a), s6, s7, s8, s9] G = .ok (.nx [A, C, some (.ref G.length), F, some (.ref g), some (.int (a + 1 : Nat)), some (.int (v.1 : Nat)), some (enc v.2), some (.lst ((nxt v left).map encV)), s9]) ((G ++ [O.lst ((rst v left).map encV)]).set g (.lst ((group ++ nxt v left).map encV))) := by
  have hva : (group.map encV)[a]? = some (encV v) := by rw [List.getElem?_map, hv]; rfl
  obtain ⟨hgl, _⟩ := List.getElem?_eq_some_iff.mp hg
  have hq : ∀ {r : Nat} {ws : List W}, G[r]? = some (.lst ws) → (⟨ws, some (r, ws)⟩ : Seq).ok G = true := fun {r ws} h => by simp [Seq.ok, h]
  have e1 := lcL_ty (asg := fun x G => asgT (cl (n + 1)) gk (.nm 9) x [A, C, some (.ref l), F, some (.ref g), some (.int a), some (.int (v.1 : Nat)), some (enc v.2), s8, none] G) (cd := fun sw1 G => evC (cl (n + 1)) gk (.yes (.and (.cmp .ne (.idx (.v 9) (.k (.int 0))) (.v 6)) (.call .iso 5 (.cons (.idx (.v 9) (.k (.int 1))) (.cons (.v 7) .nil))))) sw1 G) (e := fun sw1 G => ev (cl (n + 1)) gk e6_2 sw1 G)
    (s := ⟨left.map encV, some (l, left.map encV)⟩) (G := G) (hq hl) encV (fun w => adj w v) encV left [] (by simp; omega) fun x hx => by
      refine ⟨[A, C, some (.ref l), F, some (.ref g), some (.int a), some (.int (v.1 : Nat)), some (enc v.2), s8, some (encV x)], by simp [ev, evs, evT, evO, evC, evI, asgT, asgTs, evH, pickH, ex, exB, runD, look, seqOf, isKds, isKd, szOk, bnd_ok, bnd_exc, noX_ok, wipe, st_mkt, st_mkf, st_addi, st_adds, st_addt, st_auI, st_auS, st_sub, st_mul, st_fdiv, st_mod, st_pow, st_cat, st_repl, st_reps, st_lt, st_le, st_gt, st_ge, st_eqi, st_nei, st_eqs, st_nes, st_idxL, st_idxS, st_idxT, st_idxs, at_n, at_0, at_1, at_2, at_m1, st_slcL, st_slcT, st_slcs, cut_nn, cut_n, cut_from, cut_1, cut_to1, st_lens, st_lenL, st_lenS, st_lenT, st_inti, st_intb, st_min2, st_max2, st_sumL, st_allL, st_anyL, st_tupL, st_tupT, st_joinL, st_rcvj, st_sh, st_idxr, st_lenr, st_tupr, st_appr, st_rcvr, st_joinr, st_setr, mulOk_fm, mulOk_r, mulOk_l, st_eq, st_ne, W.eq, W.eqs, W.pl, W.pls, W.dep, W.deps], ?_, fun _ => by simp [ev, evs, evT, evO, evC, evI, asgT, asgTs, evH, pickH, ex, exB, runD, look, seqOf, isKds, isKd, szOk, bnd_ok, bnd_exc, noX_ok, wipe, st_mkt, st_mkf, st_addi, st_adds, st_addt, st_auI, st_auS, st_sub, st_mul, st_fdiv, st_mod, st_pow, st_cat, st_repl, st_reps, st_lt, st_le, st_gt, st_ge, st_eqi, st_nei, st_eqs, st_nes, st_idxL, st_idxS, st_idxT, st_idxs, at_n, at_0, at_1, at_2, at_m1, st_slcL, st_slcT, st_slcs, cut_nn, cut_n, cut_from, cut_1, cut_to1, st_lens, st_lenL, st_lenS, st_lenT, st_inti, st_intb, st_min2, st_max2, st_sumL, st_allL, st_anyL, st_tupL, st_tupT, st_joinL, st_rcvj, st_sh, st_idxr, st_lenr, st_tupr, st_appr, st_rcvr, st_joinr, st_setr, mulOk_fm, mulOk_r, mulOk_l, st_eq, st_ne, W.eq, W.eqs, W.pl, W.pls, W.dep, W.deps, e6_2]⟩
      have ht := t5 n x.2 v.2 (z3 x hx) z4 G
      by_cases h : x.1 = v.1
      · have h' : (x.1 : Int) = v.1 := by omega
        simp [ev, evs, evT, evO, evC, evI, asgT, asgTs, evH, pickH, ex, exB, runD, look, seqOf, isKds, isKd, szOk, bnd_ok, bnd_exc, noX_ok, wipe, st_mkt, st_mkf, st_addi, st_adds, st_addt, st_auI, st_auS, st_sub, st_mul, st_fdiv, st_mod, st_pow, st_cat, st_repl, st_reps, st_lt, st_le, st_gt, st_ge, st_eqi, st_nei, st_eqs, st_nes, st_idxL, st_idxS, st_idxT, st_idxs, at_n, at_0, at_1, at_2, at_m1, st_slcL, st_slcT, st_slcs, cut_nn, cut_n, cut_from, cut_1, cut_to1, st_lens, st_lenL, st_lenS, st_lenT, st_inti, st_intb, st_min2, st_max2, st_sumL, st_allL, st_anyL, st_tupL, st_tupT, st_joinL, st_rcvj, st_sh, st_idxr, st_lenr, st_tupr, st_appr, st_rcvr, st_joinr, st_setr, mulOk_fm, mulOk_r, mulOk_l, st_eq, st_ne, W.eq, W.eqs, W.pl, W.pls, W.dep, W.deps, encV, adj, h, h']
      · have h' : ¬ (x.1 : Int) = v.1 := by omega
        simp [ev, evs, evT, evO, evC, evI, asgT, asgTs, evH, pickH, ex, exB, runD, look, seqOf, isKds, isKd, szOk, bnd_ok, bnd_exc, noX_ok, wipe, st_mkt, st_mkf, st_addi, st_adds, st_addt, st_auI, st_auS, st_sub, st_mul, st_fdiv, st_mod, st_pow, st_cat, st_repl, st_reps, st_lt, st_le, st_gt, st_ge, st_eqi, st_nei, st_eqs, st_nes, st_idxL, st_idxS, st_idxT, st_idxs, at_n, at_0, at_1, at_2, at_m1, st_slcL, st_slcT, st_slcs, cut_nn, cut_n, cut_from, cut_1, cut_to1, st_lens, st_lenL, st_lenS, st_lenT, st_inti, st_intb, st_min2, st_max2, st_sumL, st_allL, st_anyL, st_tupL, st_tupT, st_joinL, st_rcvj, st_sh, st_idxr, st_lenr, st_tupr, st_appr, st_rcvr, st_joinr, st_setr, mulOk_fm, mulOk_r, mulOk_l, st_eq, st_ne, W.eq, W.eqs, W.pl, W.pls, W.dep, W.deps, encV, adj, h, h', ht]
  have e2 := lcL_ty (asg := fun x G => asgT (cl (n + 1)) gk (.nm 9) x [A, C, some (.ref l), F, some (.ref g), some (.int a), some (.int (v.1 : Nat)), some (enc v.2), some (.lst ((nxt v left).map encV)), none] G) (cd := fun sw1 G => evC (cl (n + 1)) gk (.yes (.cmp .notin (.v 9) (.v 8))) sw1 G) (e := fun sw1 G => ev (cl (n + 1)) gk e6_1 sw1 G)
    (s := ⟨left.map encV, some (l, left.map encV)⟩) (G := G) (hq hl) encV (fun w => !decide (w ∈ nxt v left)) encV left [] (by simp; omega) fun x hx => by
      refine ⟨[A, C, some (.ref l), F, some (.ref g), some (.int a), some (.int (v.1 : Nat)), some (enc v.2), some (.lst ((nxt v left).map encV)), some (encV x)], by simp [ev, evs, evT, evO, evC, evI, asgT, asgTs, evH, pickH, ex, exB, runD, look, seqOf, isKds, isKd, szOk, bnd_ok, bnd_exc, noX_ok, wipe, st_mkt, st_mkf, st_addi, st_adds, st_addt, st_auI, st_auS, st_sub, st_mul, st_fdiv, st_mod, st_pow, st_cat, st_repl, st_reps, st_lt, st_le, st_gt, st_ge, st_eqi, st_nei, st_eqs, st_nes, st_idxL, st_idxS, st_idxT, st_idxs, at_n, at_0, at_1, at_2, at_m1, st_slcL, st_slcT, st_slcs, cut_nn, cut_n, cut_from, cut_1, cut_to1, st_lens, st_lenL, st_lenS, st_lenT, st_inti, st_intb, st_min2, st_max2, st_sumL, st_allL, st_anyL, st_tupL, st_tupT, st_joinL, st_rcvj, st_sh, st_idxr, st_lenr, st_tupr, st_appr, st_rcvr, st_joinr, st_setr, mulOk_fm, mulOk_r, mulOk_l, st_eq, st_ne, W.eq, W.eqs, W.pl, W.pls, W.dep, W.deps], ?_, fun _ => by simp [ev, evs, evT, evO, evC, evI, asgT, asgTs, evH, pickH, ex, exB, runD, look, seqOf, isKds, isKd, szOk, bnd_ok, bnd_exc, noX_ok, wipe, st_mkt, st_mkf, st_addi, st_adds, st_addt, st_auI, st_auS, st_sub, st_mul, st_fdiv, st_mod, st_pow, st_cat, st_repl, st_reps, st_lt, st_le, st_gt, st_ge, st_eqi, st_nei, st_eqs, st_nes, st_idxL, st_idxS, st_idxT, st_idxs, at_n, at_0, at_1, at_2, at_m1, st_slcL, st_slcT, st_slcs, cut_nn, cut_n, cut_from, cut_1, cut_to1, st_lens, st_lenL, st_lenS, st_lenT, st_inti, st_intb, st_min2, st_max2, st_sumL, st_allL, st_anyL, st_tupL, st_tupT, st_joinL, st_rcvj, st_sh, st_idxr, st_lenr, st_tupr, st_appr, st_rcvr, st_joinr, st_setr, mulOk_fm, mulOk_r, mulOk_l, st_eq, st_ne, W.eq, W.eqs, W.pl, W.pls, W.dep, W.deps, e6_1]⟩
      have hn := st_niL (G := G) (x := encV x) (ys := (nxt v left).map encV) (encV_pl x) (encVs_pl _) (by rw [encV_dep]; omega)
      rw [any_eq encV eq_encV] at hn
      simp [ev, evs, evT, evO, evC, evI, asgT, asgTs, evH, pickH, ex, exB, runD, look, seqOf, isKds, isKd, szOk, bnd_ok, bnd_exc, noX_ok, wipe, st_mkt, st_mkf, st_addi, st_adds, st_addt, st_auI, st_auS, st_sub, st_mul, st_fdiv, st_mod, st_pow, st_cat, st_repl, st_reps, st_lt, st_le, st_gt, st_ge, st_eqi, st_nei, st_eqs, st_nes, st_idxL, st_idxS, st_idxT, st_idxs, at_n, at_0, at_1, at_2, at_m1, st_slcL, st_slcT, st_slcs, cut_nn, cut_n, cut_from, cut_1, cut_to1, st_lens, st_lenL, st_lenS, st_lenT, st_inti, st_intb, st_min2, st_max2, st_sumL, st_allL, st_anyL, st_tupL, st_tupT, st_joinL, st_rcvj, st_sh, st_idxr, st_lenr, st_tupr, st_appr, st_rcvr, st_joinr, st_setr, mulOk_fm, mulOk_r, mulOk_l, st_eq, st_ne, W.eq, W.eqs, W.pl, W.pls, W.dep, W.deps, hn]
  rw [rst_mem] at e2
  have hN : left.filter (fun w => adj w v) = nxt v left := rfl
  rw [hN] at e1
  have zn : (nxt v left).length ≤ left.length := List.length_filter_le _ _
  have zr : (rst v left).length ≤ left.length := List.length_filter_le _ _
  generalize nxt v left = N at *
  generalize rst v left = R at *
  have hs : seqOf (.ref l) G = .ok ⟨left.map encV, some (l, left.map encV)⟩ G := st_seqR hl
  have zN : N.length ≤ 16777216 := by omega
  have zR : R.length ≤ 16777216 := by omega
  have hg2 : (G ++ [O.lst (R.map encV)])[g]? = some (.lst (group.map encV)) := by rw [List.getElem?_append_left hgl]; exact hg
  have hx := st_extL (r := g) (ys := N.map encV) hg2 (by simp; omega)
  have hr := st_rcve hg2
  have eV : encV v = .tup [.int (v.1 : Nat), enc v.2] := rfl
  simp [ev, evs, evT, evO, evC, evI, asgT, asgTs, evH, pickH, ex, exB, runD, look, seqOf, isKds, isKd, szOk, bnd_ok, bnd_exc, noX_ok, wipe, st_mkt, st_mkf, st_addi, st_adds, st_addt, st_auI, st_auS, st_sub, st_mul, st_fdiv, st_mod, st_pow, st_cat, st_repl, st_reps, st_lt, st_le, st_gt, st_ge, st_eqi, st_nei, st_eqs, st_nes, st_idxL, st_idxS, st_idxT, st_idxs, at_n, at_0, at_1, at_2, at_m1, st_slcL, st_slcT, st_slcs, cut_nn, cut_n, cut_from, cut_1, cut_to1, st_lens, st_lenL, st_lenS, st_lenT, st_inti, st_intb, st_min2, st_max2, st_sumL, st_allL, st_anyL, st_tupL, st_tupT, st_joinL, st_rcvj, st_sh, st_idxr, st_lenr, st_tupr, st_appr, st_rcvr, st_joinr, st_setr, mulOk_fm, mulOk_r, mulOk_l, st_eq, st_ne, W.eq, W.eqs, W.pl, W.pls, W.dep, W.deps] at e1 e2
  simp [ev, evs, evT, evO, evC, evI, asgT, asgTs, evH, pickH, ex, exB, runD, look, seqOf, isKds, isKd, szOk, bnd_ok, bnd_exc, noX_ok, wipe, st_mkt, st_mkf, st_addi, st_adds, st_addt, st_auI, st_auS, st_sub, st_mul, st_fdiv, st_mod, st_pow, st_cat, st_repl, st_reps, st_lt, st_le, st_gt, st_ge, st_eqi, st_nei, st_eqs, st_nes, st_idxL, st_idxS, st_idxT, st_idxs, at_n, at_0, at_1, at_2, at_m1, st_slcL, st_slcT, st_slcs, cut_nn, cut_n, cut_from, cut_1, cut_to1, st_lens, st_lenL, st_lenS, st_lenT, st_inti, st_intb, st_min2, st_max2, st_sumL, st_allL, st_anyL, st_tupL, st_tupT, st_joinL, st_rcvj, st_sh, st_idxr, st_lenr, st_tupr, st_appr, st_rcvr, st_joinr, st_setr, mulOk_fm, mulOk_r, mulOk_l, st_eq, st_ne, W.eq, W.eqs, W.pl, W.pls, W.dep, W.deps, f6i, b6_3, hg, hl, hva, eV, hs, e1, e2, zN, zR, hx, hr]
  try omega
end K64
end

section
set_option linter.all false
set_option maxRecDepth 100000
set_option maxHeartbeats 4000000
/-! k64: groups_of, its loops. -/
namespace K64
open T2
def In6 (A C F : Option W) (G0 : List O) (l0 g : Nat) (UU L0 : List Vx) (u0 : Vx) (m : Nat) (sw : Sl) (G : List O) : Prop :=
  ∃ group left l a s6 s7 s8, sw = [A, C, some (.ref l), F, some (.ref g), some (.int (a : Nat)), s6, s7, s8, none] ∧ Pg UU L0 u0 group left a ∧ G[l]? = some (.lst (left.map encV)) ∧ G[g]? = some (.lst (group.map encV)) ∧ l ≠ g ∧ (l = l0 ∨ G0.length ≤ l) ∧ (∀ i, i < G0.length → i ≠ g → G[i]? = G0[i]?) ∧ G0.length ≤ G.length ∧ m = L0.length - a
theorem te6 (n : Nat) (A C F : Option W) (l g a : Nat) (s6 s7 s8 s9 : Option W) (G : List O) (group : List Vx) (hg : G[g]? = some (.lst (group.map encV))) : t6i n [A, C, some (.ref l), F, some (.ref g), some (.int (a : Nat)), s6, s7, s8, s9] G = .ok (decide (a < group.length)) G := by
  simp [ev, evs, evT, evO, evC, evI, asgT, asgTs, evH, pickH, ex, exB, runD, look, seqOf, isKds, isKd, szOk, bnd_ok, bnd_exc, noX_ok, wipe, st_mkt, st_mkf, st_addi, st_adds, st_addt, st_auI, st_auS, st_sub, st_mul, st_fdiv, st_mod, st_pow, st_cat, st_repl, st_reps, st_lt, st_le, st_gt, st_ge, st_eqi, st_nei, st_eqs, st_nes, st_idxL, st_idxS, st_idxT, st_idxs, at_n, at_0, at_1, at_2, at_m1, st_slcL, st_slcT, st_slcs, cut_nn, cut_n, cut_from, cut_1, cut_to1, st_lens, st_lenL, st_lenS, st_lenT, st_inti, st_intb, st_min2, st_max2, st_sumL, st_allL, st_anyL, st_tupL, st_tupT, st_joinL, st_rcvj, st_sh, st_idxr, st_lenr, st_tupr, st_appr, st_rcvr, st_joinr, st_setr, mulOk_fm, mulOk_r, mulOk_l, st_eq, st_ne, W.eq, W.eqs, W.pl, W.pls, W.dep, W.deps, t6i, b6_3t, hg]
theorem inner6 (n : Nat) (A C F : Option W) (G0 : List O) (l0 g : Nat) (UU L0 : List Vx) (u0 : Vx) (hL : ∀ v ∈ L0, v ∈ UU) (hz : L0.length ≤ 1000) (hs : ∀ v ∈ L0, shrt v.2) (hgG : g < G0.length) (m : Nat) (hm : m ≤ 1000) (sw : Sl) (G : List O) (st : In6 A C F G0 l0 g UU L0 u0 m sw G) :
    ∃ sw' G', whlL (t6i (n + 1)) (f6i (n + 1)) wf sw G = .ok (.nx sw') G' ∧ ∃ group left l s5 s6 s7 s8, sw' = [A, C, some (.ref l), F, some (.ref g), s5, s6, s7, s8, none] ∧ Pg UU L0 u0 group left group.length ∧ G'[l]? = some (.lst (left.map encV)) ∧ G'[g]? = some (.lst (group.map encV)) ∧ l ≠ g ∧ (l = l0 ∨ G0.length ≤ l) ∧ (∀ i, i < G0.length → i ≠ g → G'[i]? = G0[i]?) ∧ G0.length ≤ G'.length := by
  refine whlL_rel (In6 A C F G0 l0 g UU L0 u0) (fun sw' G' => ∃ group left l s5 s6 s7 s8, sw' = [A, C, some (.ref l), F, some (.ref g), s5, s6, s7, s8, none] ∧ Pg UU L0 u0 group left group.length ∧ G'[l]? = some (.lst (left.map encV)) ∧ G'[g]? = some (.lst (group.map encV)) ∧ l ≠ g ∧ (l = l0 ∨ G0.length ≤ l) ∧ (∀ i, i < G0.length → i ≠ g → G'[i]? = G0[i]?) ∧ G0.length ≤ G'.length) (fun m sw G st => ?_) wf m sw G (by unfold wf; omega) st
  obtain ⟨group, left, l, a, s6, s7, s8, rfl, p, h1, h2, h3, h4, h5, h6, h7⟩ := st
  have ht := te6 (n + 1) A C F l g a s6 s7 s8 none G group h2
  by_cases ha : a < group.length
  · right
    have hlen := p.perm.length_eq
    rw [List.length_append] at hlen
    have hv : group[a]? = some group[a] := List.getElem?_eq_getElem ha
    generalize group[a] = v at hv
    have hvm : v ∈ group := List.mem_of_getElem? hv
    have hb := step6 n A C F l g a s6 s7 s8 none G group left v h1 h2 hv (by omega) (by omega) (fun w hw => hs w (p.perm.mem_iff.mp (List.mem_append_right _ hw))) (hs v (p.perm.mem_iff.mp (List.mem_append_left _ hvm))) h3
    refine ⟨G, _, _, by rw [ht, decide_eq_true ha], .inl hb, L0.length - (a + 1), by omega, group ++ nxt v left, rst v left, G.length, a + 1, _, _, _, rfl, p.step hL hv, ?_, ?_, ?_, .inr h6, fun i hi hig => ?_, ?_, rfl⟩
    · rw [List.getElem?_set_ne (by omega)]
      simp
    · rw [List.getElem?_set_self (by rw [List.length_append, List.length_singleton]; omega)]
    · omega
    · rw [List.getElem?_set_ne (Ne.symm hig), List.getElem?_append_left (by omega)]
      exact h5 i hi hig
    · rw [List.length_set, List.length_append, List.length_singleton]
      omega
  · left
    have : a = group.length := by have := p.le; omega
    subst this
    exact ⟨G, by rw [ht, decide_eq_false ha], group, left, l, _, _, _, _, rfl, p, h1, h2, h3, h4, h5, h6⟩
/-! the outer loop -/
inductive Prs (G : List O) : List Nat → List (List Vx) → Prop where
  | nil : Prs G [] []
  | cons {i : Nat} {g : List Vx} {rs : List Nat} {gs : List (List Vx)} : G[i]? = some (.lst (g.map encV)) → Prs G rs gs → Prs G (i :: rs) (g :: gs)
theorem Prs.keep {G G' : List O} {rs : List Nat} {gs : List (List Vx)} (p : Prs G rs gs) (h : ∀ i ∈ rs, i < G.length → G'[i]? = G[i]?) : Prs G' rs gs := by
  induction p with
  | nil => exact .nil
  | @cons i g rs gs e p ih => exact .cons (by rw [h i List.mem_cons_self (List.getElem?_eq_some_iff.mp e).1]; exact e) (ih fun j hj => h j (List.mem_cons_of_mem _ hj))
theorem Prs.app {G : List O} {rs : List Nat} {gs : List (List Vx)} {i : Nat} {g : List Vx} (p : Prs G rs gs) (e : G[i]? = some (.lst (g.map encV))) : Prs G (rs ++ [i]) (gs ++ [g]) := by
  induction p with
  | nil => exact .cons e .nil
  | cons e1 p ih => exact .cons e1 ih
theorem Prs.len {G : List O} {rs : List Nat} {gs : List (List Vx)} (p : Prs G rs gs) : rs.length = gs.length := by
  induction p with
  | nil => rfl
  | cons e1 p ih => simp [ih]
theorem Prs.lt {G : List O} {rs : List Nat} {gs : List (List Vx)} (p : Prs G rs gs) : ∀ i ∈ rs, i < G.length := by
  induction p with
  | nil => intro i h; simp at h
  | cons e1 p ih =>
    intro j hj
    rcases List.mem_cons.mp hj with rfl | hj
    · exact (List.getElem?_eq_some_iff.mp e1).1
    · exact ih j hj
structure Qg (UU : List Vx) (gs : List (List Vx)) (left : List Vx) : Prop where
  perm : (gs.flatten ++ left).Perm UU
  cl : ∀ v ∈ left, ∀ w ∈ UU, adj v w = true → w ∈ left
  gr : ∀ g ∈ gs, ∃ u ∈ g, (∀ v ∈ g, Con UU u v) ∧ ∀ v ∈ g, ∀ w ∈ UU, adj v w = true → w ∈ g
  cnt : gs.length + left.length ≤ UU.length
theorem Qg.step {UU : List Vx} {gs : List (List Vx)} {u0 : Vx} {tl group left : List Vx} (q : Qg UU gs (u0 :: tl)) (p : Pg UU (u0 :: tl) u0 group left group.length) (h0 : u0 ∈ group) : Qg UU (gs ++ [group]) left := by
  have hin : ∀ w, w ∈ u0 :: tl ↔ w ∈ group ∨ w ∈ left := fun w => by rw [← List.mem_append, p.perm.mem_iff]
  have far : ∀ v ∈ group, ∀ w ∈ left, adj v w = false := fun v hv w hw => by
    obtain ⟨i, hi, e⟩ := List.mem_iff_getElem.mp hv
    exact p.far i hi v (by rw [List.getElem?_eq_getElem hi, e]) w hw
  refine ⟨?_, fun v hv w hw ha => ?_, fun g hg => ?_, ?_⟩
  · rw [List.flatten_append, List.flatten_singleton, List.append_assoc]
    exact (List.Perm.append_left _ p.perm).trans q.perm
  · rcases (hin w).mp (q.cl v ((hin v).mpr (.inr hv)) w hw ha) with h | h
    · rw [adj_sym, far w h v hv] at ha
      cases ha
    · exact h
  · rcases List.mem_append.mp hg with hg | hg
    · exact q.gr g hg
    · have : g = group := by simpa using hg
      subst this
      refine ⟨u0, h0, p.con, fun v hv w hw ha => ?_⟩
      rcases (hin w).mp (q.cl v ((hin v).mpr (.inl hv)) w hw ha) with h | h
      · exact h
      · rw [far v hv w h] at ha
        cases ha
  · have h1 := p.perm.length_eq
    have h2 := q.cnt
    have h3 : 0 < group.length := List.length_pos_of_mem h0
    simp only [List.length_append, List.length_cons, List.length_nil] at h1 h2 ⊢
    omega
def Out6 (A C : Option W) (UU : List Vx) (m : Nat) (sw : Sl) (G : List O) : Prop :=
  ∃ gs left rs l s4 s5 s6 s7 s8, sw = [A, C, some (.ref l), some (.ref 1), s4, s5, s6, s7, s8, none] ∧ Qg UU gs left ∧ G[l]? = some (.lst (left.map encV)) ∧ G[1]? = some (.lst (rs.map .ref)) ∧ Prs G rs gs ∧ l ≠ 1 ∧ l ∉ rs ∧ 1 ∉ rs ∧ m = left.length
abbrev t6o (n : Nat) : Sl → List O → Res Bool := fun sw G => evT (cl n) gk b6_4t sw G
abbrev f6o (n : Nat) : Sl → List O → Res Fl := fun sw G => exB (cl n) gk wf b6_4 sw G
theorem out6 (n : Nat) (A C : Option W) (UU : List Vx) (hz : UU.length ≤ 1000) (hs : ∀ v ∈ UU, shrt v.2) (m : Nat) (hm : m ≤ 1000) (sw : Sl) (G : List O) (st : Out6 A C UU m sw G) :
    ∃ sw' G', whlL (t6o (n + 1)) (f6o (n + 1)) wf sw G = .ok (.nx sw') G' ∧ ∃ gs rs l s4 s5 s6 s7 s8, sw' = [A, C, some (.ref l), some (.ref 1), s4, s5, s6, s7, s8, none] ∧ Qg UU gs [] ∧ G'[1]? = some (.lst (rs.map .ref)) ∧ Prs G' rs gs := by
  refine whlL_rel (Out6 A C UU) (fun sw' G' => ∃ gs rs l s4 s5 s6 s7 s8, sw' = [A, C, some (.ref l), some (.ref 1), s4, s5, s6, s7, s8, none] ∧ Qg UU gs [] ∧ G'[1]? = some (.lst (rs.map .ref)) ∧ Prs G' rs gs) (fun m sw G st => ?_) wf m sw G (by unfold wf; omega) st
  obtain ⟨gs, left, rs, l, s4, s5, s6, s7, s8, rfl, q, h1, h2, h3, h4, h5, h6, h7⟩ := st
  cases left with
  | nil =>
    left
    exact ⟨G, by simp [ev, evs, evT, evO, evC, evI, asgT, asgTs, evH, pickH, ex, exB, runD, look, seqOf, isKds, isKd, szOk, bnd_ok, bnd_exc, noX_ok, wipe, st_mkt, st_mkf, st_addi, st_adds, st_addt, st_auI, st_auS, st_sub, st_mul, st_fdiv, st_mod, st_pow, st_cat, st_repl, st_reps, st_lt, st_le, st_gt, st_ge, st_eqi, st_nei, st_eqs, st_nes, st_idxL, st_idxS, st_idxT, st_idxs, at_n, at_0, at_1, at_2, at_m1, st_slcL, st_slcT, st_slcs, cut_nn, cut_n, cut_from, cut_1, cut_to1, st_lens, st_lenL, st_lenS, st_lenT, st_inti, st_intb, st_min2, st_max2, st_sumL, st_allL, st_anyL, st_tupL, st_tupT, st_joinL, st_rcvj, st_sh, st_idxr, st_lenr, st_tupr, st_appr, st_rcvr, st_joinr, st_setr, mulOk_fm, mulOk_r, mulOk_l, st_eq, st_ne, W.eq, W.eqs, W.pl, W.pls, W.dep, W.deps, t6o, b6_4t, h1], gs, rs, l, s4, s5, s6, s7, s8, rfl, q, h2, h3⟩
  | cons u0 tl =>
    right
    obtain ⟨hlG, _⟩ := List.getElem?_eq_some_iff.mp h1
    obtain ⟨h1G, _⟩ := List.getElem?_eq_some_iff.mp h2
    have hrl := h3.lt
    generalize hG0 : G.set l (.lst (tl.map encV)) ++ [O.lst [encV u0]] = G0
    have g0l : G0.length = G.length + 1 := by rw [← hG0]; simp
    have g0g : G0[G.length]? = some (.lst ([u0].map encV)) := by
      rw [← hG0, List.getElem?_append_right (by simp)]
      simp
    have g0t : G0[l]? = some (.lst (tl.map encV)) := by
      rw [← hG0, List.getElem?_append_left (by simpa using hlG), List.getElem?_set_self hlG]
    have g0k : ∀ i, i < G.length → i ≠ l → G0[i]? = G[i]? := fun i hi hil => by
      rw [← hG0, List.getElem?_append_left (by simpa using hi), List.getElem?_set_ne (Ne.symm hil)]
    have hsub : ∀ v ∈ u0 :: tl, v ∈ UU := fun v hv => q.perm.mem_iff.mp (List.mem_append_right _ hv)
    have hcnt := q.cnt
    obtain ⟨sw', G', el, group, left', l', s5', s6', s7', s8', rfl, p, k1, k2, k3, k4, k5, k6⟩ := inner6 n A C (some (.ref 1)) G0 l G.length UU (u0 :: tl) u0 hsub (by omega) (fun v hv => hs v (hsub v hv)) (by omega) (u0 :: tl).length (by simp only [List.length_cons] at hcnt ⊢; omega) [A, C, some (.ref l), some (.ref 1), some (.ref G.length), some (.int ((0 : Nat) : Int)), s6, s7, s8, none] G0
      ⟨[u0], tl, l, 0, s6, s7, s8, rfl, ⟨.refl _, fun v hv => by
          have : v = u0 := by simpa using hv
          rw [this]
          exact .refl, fun i hi => absurd hi (Nat.not_lt_zero _), Nat.zero_le _, List.mem_cons_self⟩, g0t, g0g, by omega, .inl rfl, fun _ _ _ => rfl, Nat.le_refl _, rfl⟩
    have h0 : u0 ∈ group := p.u0m
    have q' := q.step p h0
    have k1' : G'[1]? = some (.lst (rs.map .ref)) := by rw [k5 1 (by omega) (by omega), g0k 1 h1G (Ne.symm h4)]; exact h2
    have hgl := h3.len
    have hln : rs.length < 16777216 := by omega
    refine ⟨G, [A, C, some (.ref l'), some (.ref 1), some (.ref G.length), s5', s6', s7', s8', none], G'.set 1 (.lst ((rs ++ [G.length]).map .ref)), by simp [ev, evs, evT, evO, evC, evI, asgT, asgTs, evH, pickH, ex, exB, runD, look, seqOf, isKds, isKd, szOk, bnd_ok, bnd_exc, noX_ok, wipe, st_mkt, st_mkf, st_addi, st_adds, st_addt, st_auI, st_auS, st_sub, st_mul, st_fdiv, st_mod, st_pow, st_cat, st_repl, st_reps, st_lt, st_le, st_gt, st_ge, st_eqi, st_nei, st_eqs, st_nes, st_idxL, st_idxS, st_idxT, st_idxs, at_n, at_0, at_1, at_2, at_m1, st_slcL, st_slcT, st_slcs, cut_nn, cut_n, cut_from, cut_1, cut_to1, st_lens, st_lenL, st_lenS, st_lenT, st_inti, st_intb, st_min2, st_max2, st_sumL, st_allL, st_anyL, st_tupL, st_tupT, st_joinL, st_rcvj, st_sh, st_idxr, st_lenr, st_tupr, st_appr, st_rcvr, st_joinr, st_setr, mulOk_fm, mulOk_r, mulOk_l, st_eq, st_ne, W.eq, W.eqs, W.pl, W.pls, W.dep, W.deps, t6o, b6_4t, h1], .inl ?_, left'.length, ?_, gs ++ [group], left', rs ++ [G.length], l', _, _, _, _, _, rfl, q', ?_, ?_, ?_, ?_, ?_, ?_, rfl⟩
    · have hr := st_rcvp h1
      have hp := st_pop0 (x := encV u0) (xs := tl.map encV) (G := G) (r := l) (by rw [h1]; rfl)
      delta t6i f6i at el
      simp at el
      simp [ev, evs, evT, evO, evC, evI, asgT, asgTs, evH, pickH, ex, exB, runD, look, seqOf, isKds, isKd, szOk, bnd_ok, bnd_exc, noX_ok, wipe, st_mkt, st_mkf, st_addi, st_adds, st_addt, st_auI, st_auS, st_sub, st_mul, st_fdiv, st_mod, st_pow, st_cat, st_repl, st_reps, st_lt, st_le, st_gt, st_ge, st_eqi, st_nei, st_eqs, st_nes, st_idxL, st_idxS, st_idxT, st_idxs, at_n, at_0, at_1, at_2, at_m1, st_slcL, st_slcT, st_slcs, cut_nn, cut_n, cut_from, cut_1, cut_to1, st_lens, st_lenL, st_lenS, st_lenT, st_inti, st_intb, st_min2, st_max2, st_sumL, st_allL, st_anyL, st_tupL, st_tupT, st_joinL, st_rcvj, st_sh, st_idxr, st_lenr, st_tupr, st_appr, st_rcvr, st_joinr, st_setr, mulOk_fm, mulOk_r, mulOk_l, st_eq, st_ne, W.eq, W.eqs, W.pl, W.pls, W.dep, W.deps, f6o, b6_4, hr, hp, hG0, el, k1', hln]
    · have hp := p.perm.length_eq
      have : 0 < group.length := List.length_pos_of_mem h0
      simp only [List.length_append, List.length_cons] at hp h7
      omega
    · rw [List.getElem?_set_ne (by rcases k4 with rfl | k4 <;> omega)]
      exact k1
    · rw [List.getElem?_set_self (by omega)]
    · refine Prs.app (h3.keep fun i hi hiG => ?_) ?_
      · have : i ≠ 1 := fun z => h6 (z ▸ hi)
        have hil : i ≠ l := fun z => h5 (z ▸ hi)
        rw [List.getElem?_set_ne (Ne.symm this), k5 i (by omega) (by omega), g0k i hiG hil]
      · rw [List.getElem?_set_ne (by omega)]
        exact k2
    · rcases k4 with rfl | k4 <;> omega
    · rw [List.mem_append, List.mem_singleton]
      rintro (h | h)
      · rcases k4 with rfl | k4
        · exact h5 h
        · have := hrl l' h
          omega
      · exact k3 h
    · rw [List.mem_append, List.mem_singleton]
      rintro (h | h)
      · exact h6 h
      · omega
end K64
end

section
set_option linter.all false
set_option maxRecDepth 100000
set_option maxHeartbeats 4000000
/-! k64: groups_of. -/
namespace K64
open T2
theorem Prs.zip {G : List O} {rs : List Nat} {gs : List (List Vx)} (p : Prs G rs gs) : ∃ ps : List (Nat × List Vx), rs = ps.map (·.1) ∧ gs = ps.map (·.2) ∧ ∀ q ∈ ps, G[q.1]? = some (.lst (q.2.map encV)) := by
  induction p with
  | nil => exact ⟨[], rfl, rfl, by simp⟩
  | @cons i g rs gs e p ih =>
    obtain ⟨ps, e1, e2, e3⟩ := ih
    refine ⟨(i, g) :: ps, by rw [e1]; rfl, by rw [e2]; rfl, fun q hq => ?_⟩
    rcases List.mem_cons.mp hq with rfl | hq
    · exact e
    · exact e3 q hq
theorem frzs_ps {G : List O} : ∀ ps : List (Nat × List Vx), (∀ q ∈ ps, G[q.1]? = some (.lst (q.2.map encV))) → frzs G (ps.map fun q => W.ref q.1) = some (ps.map fun q => W.lst (q.2.map encV))
  | [], _ => rfl
  | q :: ps, h => by
    have ih := frzs_ps ps fun x hx => h x (List.mem_cons_of_mem _ hx)
    simp only [List.map_cons, frzs, frz, h q List.mem_cons_self, encVs_nr, if_true, ih]
theorem encE_dep (es : List Ed) : W.deps (es.map enc) ≤ 1 := enc_dep es
theorem ni_enc (e : Ed) (C : List Ed) (G : List O) : cmpW .notin (enc e) (.tup (C.map enc)) G = .ok (.bl (!decide (e ∈ C))) G := by
  have hn := st_niT (G := G) (x := enc e) (ys := C.map enc) (enc_pl1 e) (enc_pl C) (by rw [enc_dep1]; omega)
  rw [any_eq enc eq_enc] at hn
  rw [hn]
  congr
theorem own_len (A C : List Ed) : (own A C).length ≤ A.length := List.length_filter_le _ _
theorem U_shrt {A C : List Ed} (hA : ∀ e ∈ A, shrt e) (hC : ∀ e ∈ C, shrt e) : ∀ v ∈ U A C, shrt v.2 := fun v hv => by
  obtain ⟨s, e⟩ := v
  rcases U_mem.mp hv with ⟨_, h⟩ | ⟨_, h⟩
  · exact hA e (own_mem.mp h).1
  · exact hC e (own_mem.mp h).1
theorem U_len (A C : List Ed) : (U A C).length ≤ A.length + C.length := by
  have := own_len A C
  have := own_len C A
  simp only [U, List.length_append, List.length_map]
  omega
def big (gs : List (List Vx)) : List (List Vx) := gs.filter fun g => decide (1 < g.length)
theorem t6 (n : Nat) (A C : List Ed) (zA : A.length ≤ 400) (zC : C.length ≤ 400) (hA : ∀ e ∈ A, shrt e) (hC : ∀ e ∈ C, shrt e) (G : List O) : ∃ gs, callW (cl (n + 2)) .iso 6 [encE A, encE C] G = .ok (.lst ((big gs).map fun g => .lst (g.map encV))) G ∧ Qg (U A C) gs [] := by
  have hU := U_len A C
  have e1 := lcL_ty (asg := fun x G => asgT (cl (n + 1)) gk (.nm 7) x [some (encE A), some (encE C), none, none, none, none, none, none, none, none] G) (cd := fun sw1 G => evC (cl (n + 1)) gk (.yes (.cmp .notin (.v 7) (.v 1))) sw1 G) (e := fun sw1 G => ev (cl (n + 1)) gk e6_6 sw1 G)
    (s := ⟨A.map enc, none⟩) (G := []) rfl enc (fun e => !decide (e ∈ C)) (fun e => encV (0, e)) A [] (by simp; omega) fun x hx =>
      ⟨[some (encE A), some (encE C), none, none, none, none, none, some (enc x), none, none], by simp [ev, evs, evT, evO, evC, evI, asgT, asgTs, evH, pickH, ex, exB, runD, look, seqOf, isKds, isKd, szOk, bnd_ok, bnd_exc, noX_ok, wipe, st_mkt, st_mkf, st_addi, st_adds, st_addt, st_auI, st_auS, st_sub, st_mul, st_fdiv, st_mod, st_pow, st_cat, st_repl, st_reps, st_lt, st_le, st_gt, st_ge, st_eqi, st_nei, st_eqs, st_nes, st_idxL, st_idxS, st_idxT, st_idxs, at_n, at_0, at_1, at_2, at_m1, st_slcL, st_slcT, st_slcs, cut_nn, cut_n, cut_from, cut_1, cut_to1, st_lens, st_lenL, st_lenS, st_lenT, st_inti, st_intb, st_min2, st_max2, st_sumL, st_allL, st_anyL, st_tupL, st_tupT, st_joinL, st_rcvj, st_sh, st_idxr, st_lenr, st_tupr, st_appr, st_rcvr, st_joinr, st_setr, mulOk_fm, mulOk_r, mulOk_l, st_eq, st_ne, W.eq, W.eqs, W.pl, W.pls, W.dep, W.deps], by simp [ev, evs, evT, evO, evC, evI, asgT, asgTs, evH, pickH, ex, exB, runD, look, seqOf, isKds, isKd, szOk, bnd_ok, bnd_exc, noX_ok, wipe, st_mkt, st_mkf, st_addi, st_adds, st_addt, st_auI, st_auS, st_sub, st_mul, st_fdiv, st_mod, st_pow, st_cat, st_repl, st_reps, st_lt, st_le, st_gt, st_ge, st_eqi, st_nei, st_eqs, st_nes, st_idxL, st_idxS, st_idxT, st_idxs, at_n, at_0, at_1, at_2, at_m1, st_slcL, st_slcT, st_slcs, cut_nn, cut_n, cut_from, cut_1, cut_to1, st_lens, st_lenL, st_lenS, st_lenT, st_inti, st_intb, st_min2, st_max2, st_sumL, st_allL, st_anyL, st_tupL, st_tupT, st_joinL, st_rcvj, st_sh, st_idxr, st_lenr, st_tupr, st_appr, st_rcvr, st_joinr, st_setr, mulOk_fm, mulOk_r, mulOk_l, st_eq, st_ne, W.eq, W.eqs, W.pl, W.pls, W.dep, W.deps, encE, ni_enc], fun _ => by simp [ev, evs, evT, evO, evC, evI, asgT, asgTs, evH, pickH, ex, exB, runD, look, seqOf, isKds, isKd, szOk, bnd_ok, bnd_exc, noX_ok, wipe, st_mkt, st_mkf, st_addi, st_adds, st_addt, st_auI, st_auS, st_sub, st_mul, st_fdiv, st_mod, st_pow, st_cat, st_repl, st_reps, st_lt, st_le, st_gt, st_ge, st_eqi, st_nei, st_eqs, st_nes, st_idxL, st_idxS, st_idxT, st_idxs, at_n, at_0, at_1, at_2, at_m1, st_slcL, st_slcT, st_slcs, cut_nn, cut_n, cut_from, cut_1, cut_to1, st_lens, st_lenL, st_lenS, st_lenT, st_inti, st_intb, st_min2, st_max2, st_sumL, st_allL, st_anyL, st_tupL, st_tupT, st_joinL, st_rcvj, st_sh, st_idxr, st_lenr, st_tupr, st_appr, st_rcvr, st_joinr, st_setr, mulOk_fm, mulOk_r, mulOk_l, st_eq, st_ne, W.eq, W.eqs, W.pl, W.pls, W.dep, W.deps, e6_6, encV]⟩
  have hp : ∀ (A C : List Ed), A.filter (fun e => !decide (e ∈ C)) = own A C := fun A C => List.filter_congr fun e _ => by simp
  rw [hp] at e1
  have m1 := own_len A C
  have m2 := own_len C A
  have e2 := lcL_ty (asg := fun x G => asgT (cl (n + 1)) gk (.nm 7) x [some (encE A), some (encE C), some (.ref 0), none, none, none, none, none, none, none] G) (cd := fun sw1 G => evC (cl (n + 1)) gk (.yes (.cmp .notin (.v 7) (.v 0))) sw1 G) (e := fun sw1 G => ev (cl (n + 1)) gk e6_5 sw1 G)
    (s := ⟨C.map enc, none⟩) (G := [O.lst ((own A C).map fun e => encV (0, e))]) rfl enc (fun e => !decide (e ∈ A)) (fun e => encV (1, e)) C [] (by simp; omega) fun x hx =>
      ⟨[some (encE A), some (encE C), some (.ref 0), none, none, none, none, some (enc x), none, none], by simp [ev, evs, evT, evO, evC, evI, asgT, asgTs, evH, pickH, ex, exB, runD, look, seqOf, isKds, isKd, szOk, bnd_ok, bnd_exc, noX_ok, wipe, st_mkt, st_mkf, st_addi, st_adds, st_addt, st_auI, st_auS, st_sub, st_mul, st_fdiv, st_mod, st_pow, st_cat, st_repl, st_reps, st_lt, st_le, st_gt, st_ge, st_eqi, st_nei, st_eqs, st_nes, st_idxL, st_idxS, st_idxT, st_idxs, at_n, at_0, at_1, at_2, at_m1, st_slcL, st_slcT, st_slcs, cut_nn, cut_n, cut_from, cut_1, cut_to1, st_lens, st_lenL, st_lenS, st_lenT, st_inti, st_intb, st_min2, st_max2, st_sumL, st_allL, st_anyL, st_tupL, st_tupT, st_joinL, st_rcvj, st_sh, st_idxr, st_lenr, st_tupr, st_appr, st_rcvr, st_joinr, st_setr, mulOk_fm, mulOk_r, mulOk_l, st_eq, st_ne, W.eq, W.eqs, W.pl, W.pls, W.dep, W.deps], by simp [ev, evs, evT, evO, evC, evI, asgT, asgTs, evH, pickH, ex, exB, runD, look, seqOf, isKds, isKd, szOk, bnd_ok, bnd_exc, noX_ok, wipe, st_mkt, st_mkf, st_addi, st_adds, st_addt, st_auI, st_auS, st_sub, st_mul, st_fdiv, st_mod, st_pow, st_cat, st_repl, st_reps, st_lt, st_le, st_gt, st_ge, st_eqi, st_nei, st_eqs, st_nes, st_idxL, st_idxS, st_idxT, st_idxs, at_n, at_0, at_1, at_2, at_m1, st_slcL, st_slcT, st_slcs, cut_nn, cut_n, cut_from, cut_1, cut_to1, st_lens, st_lenL, st_lenS, st_lenT, st_inti, st_intb, st_min2, st_max2, st_sumL, st_allL, st_anyL, st_tupL, st_tupT, st_joinL, st_rcvj, st_sh, st_idxr, st_lenr, st_tupr, st_appr, st_rcvr, st_joinr, st_setr, mulOk_fm, mulOk_r, mulOk_l, st_eq, st_ne, W.eq, W.eqs, W.pl, W.pls, W.dep, W.deps, encE, ni_enc], fun _ => by simp [ev, evs, evT, evO, evC, evI, asgT, asgTs, evH, pickH, ex, exB, runD, look, seqOf, isKds, isKd, szOk, bnd_ok, bnd_exc, noX_ok, wipe, st_mkt, st_mkf, st_addi, st_adds, st_addt, st_auI, st_auS, st_sub, st_mul, st_fdiv, st_mod, st_pow, st_cat, st_repl, st_reps, st_lt, st_le, st_gt, st_ge, st_eqi, st_nei, st_eqs, st_nes, st_idxL, st_idxS, st_idxT, st_idxs, at_n, at_0, at_1, at_2, at_m1, st_slcL, st_slcT, st_slcs, cut_nn, cut_n, cut_from, cut_1, cut_to1, st_lens, st_lenL, st_lenS, st_lenT, st_inti, st_intb, st_min2, st_max2, st_sumL, st_allL, st_anyL, st_tupL, st_tupT, st_joinL, st_rcvj, st_sh, st_idxr, st_lenr, st_tupr, st_appr, st_rcvr, st_joinr, st_setr, mulOk_fm, mulOk_r, mulOk_l, st_eq, st_ne, W.eq, W.eqs, W.pl, W.pls, W.dep, W.deps, e6_5, encV]⟩
  rw [hp] at e2
  have hUe : (U A C).map encV = (own A C).map (fun e => encV (0, e)) ++ (own C A).map (fun e => encV (1, e)) := by simp [U, List.map_map, Function.comp_def]
  obtain ⟨sw', G', el, gs, rs, l, s4, s5, s6, s7, s8, rfl, q, h2, h3⟩ := out6 n (some (encE A)) (some (encE C)) (U A C) (by omega) (U_shrt hA hC) (U A C).length (by omega) [some (encE A), some (encE C), some (.ref 0), some (.ref 1), none, none, none, none, none, none] [O.lst ((U A C).map encV), .lst []]
    ⟨[], U A C, [], 0, none, none, none, none, none, rfl, ⟨by simp, fun v hv w hw ha => hw, by simp, by simp⟩, rfl, rfl, .nil, by decide, by simp, by simp, rfl⟩
  refine ⟨gs, ?_, q⟩
  obtain ⟨ps, er, eg, hps⟩ := h3.zip
  have hcnt := q.cnt
  have zps : ps.length ≤ 16777216 := by
    have := congrArg List.length eg
    rw [List.length_map] at this
    omega
  have e3 := lcL_ty (asg := fun x G => asgT (cl (n + 1)) gk (.nm 4) x [some (encE A), some (encE C), some (.ref l), some (.ref 1), none, s5, s6, s7, s8, none] G) (cd := fun sw1 G => evC (cl (n + 1)) gk (.yes (.cmp .gt (.blt .len (.cons (.v 4) .nil)) (.k (.int 1)))) sw1 G) (e := fun sw1 G => ev (cl (n + 1)) gk e6_0 sw1 G)
    (s := ⟨rs.map .ref, some (1, rs.map .ref)⟩) (G := G') (by simp [Seq.ok, h2]) (fun q => W.ref q.1) (fun q => decide (1 < q.2.length)) (fun q => W.ref q.1) ps [] (by simp; omega) fun x hx => by
      have hx2 := hps x hx
      refine ⟨[some (encE A), some (encE C), some (.ref l), some (.ref 1), some (.ref x.1), s5, s6, s7, s8, none], by simp [ev, evs, evT, evO, evC, evI, asgT, asgTs, evH, pickH, ex, exB, runD, look, seqOf, isKds, isKd, szOk, bnd_ok, bnd_exc, noX_ok, wipe, st_mkt, st_mkf, st_addi, st_adds, st_addt, st_auI, st_auS, st_sub, st_mul, st_fdiv, st_mod, st_pow, st_cat, st_repl, st_reps, st_lt, st_le, st_gt, st_ge, st_eqi, st_nei, st_eqs, st_nes, st_idxL, st_idxS, st_idxT, st_idxs, at_n, at_0, at_1, at_2, at_m1, st_slcL, st_slcT, st_slcs, cut_nn, cut_n, cut_from, cut_1, cut_to1, st_lens, st_lenL, st_lenS, st_lenT, st_inti, st_intb, st_min2, st_max2, st_sumL, st_allL, st_anyL, st_tupL, st_tupT, st_joinL, st_rcvj, st_sh, st_idxr, st_lenr, st_tupr, st_appr, st_rcvr, st_joinr, st_setr, mulOk_fm, mulOk_r, mulOk_l, st_eq, st_ne, W.eq, W.eqs, W.pl, W.pls, W.dep, W.deps], ?_, fun _ => by simp [ev, evs, evT, evO, evC, evI, asgT, asgTs, evH, pickH, ex, exB, runD, look, seqOf, isKds, isKd, szOk, bnd_ok, bnd_exc, noX_ok, wipe, st_mkt, st_mkf, st_addi, st_adds, st_addt, st_auI, st_auS, st_sub, st_mul, st_fdiv, st_mod, st_pow, st_cat, st_repl, st_reps, st_lt, st_le, st_gt, st_ge, st_eqi, st_nei, st_eqs, st_nes, st_idxL, st_idxS, st_idxT, st_idxs, at_n, at_0, at_1, at_2, at_m1, st_slcL, st_slcT, st_slcs, cut_nn, cut_n, cut_from, cut_1, cut_to1, st_lens, st_lenL, st_lenS, st_lenT, st_inti, st_intb, st_min2, st_max2, st_sumL, st_allL, st_anyL, st_tupL, st_tupT, st_joinL, st_rcvj, st_sh, st_idxr, st_lenr, st_tupr, st_appr, st_rcvr, st_joinr, st_setr, mulOk_fm, mulOk_r, mulOk_l, st_eq, st_ne, W.eq, W.eqs, W.pl, W.pls, W.dep, W.deps, e6_0]⟩
      by_cases h1 : 1 < x.2.length
      · have h1' : (1 : Int) < x.2.length := by omega
        simp [ev, evs, evT, evO, evC, evI, asgT, asgTs, evH, pickH, ex, exB, runD, look, seqOf, isKds, isKd, szOk, bnd_ok, bnd_exc, noX_ok, wipe, st_mkt, st_mkf, st_addi, st_adds, st_addt, st_auI, st_auS, st_sub, st_mul, st_fdiv, st_mod, st_pow, st_cat, st_repl, st_reps, st_lt, st_le, st_gt, st_ge, st_eqi, st_nei, st_eqs, st_nes, st_idxL, st_idxS, st_idxT, st_idxs, at_n, at_0, at_1, at_2, at_m1, st_slcL, st_slcT, st_slcs, cut_nn, cut_n, cut_from, cut_1, cut_to1, st_lens, st_lenL, st_lenS, st_lenT, st_inti, st_intb, st_min2, st_max2, st_sumL, st_allL, st_anyL, st_tupL, st_tupT, st_joinL, st_rcvj, st_sh, st_idxr, st_lenr, st_tupr, st_appr, st_rcvr, st_joinr, st_setr, mulOk_fm, mulOk_r, mulOk_l, st_eq, st_ne, W.eq, W.eqs, W.pl, W.pls, W.dep, W.deps, hx2, h1, h1']
      · have h1' : ¬ (1 : Int) < x.2.length := by omega
        simp [ev, evs, evT, evO, evC, evI, asgT, asgTs, evH, pickH, ex, exB, runD, look, seqOf, isKds, isKd, szOk, bnd_ok, bnd_exc, noX_ok, wipe, st_mkt, st_mkf, st_addi, st_adds, st_addt, st_auI, st_auS, st_sub, st_mul, st_fdiv, st_mod, st_pow, st_cat, st_repl, st_reps, st_lt, st_le, st_gt, st_ge, st_eqi, st_nei, st_eqs, st_nes, st_idxL, st_idxS, st_idxT, st_idxs, at_n, at_0, at_1, at_2, at_m1, st_slcL, st_slcT, st_slcs, cut_nn, cut_n, cut_from, cut_1, cut_to1, st_lens, st_lenL, st_lenS, st_lenT, st_inti, st_intb, st_min2, st_max2, st_sumL, st_allL, st_anyL, st_tupL, st_tupT, st_joinL, st_rcvj, st_sh, st_idxr, st_lenr, st_tupr, st_appr, st_rcvr, st_joinr, st_setr, mulOk_fm, mulOk_r, mulOk_l, st_eq, st_ne, W.eq, W.eqs, W.pl, W.pls, W.dep, W.deps, hx2, h1, h1']
  have er' : ps.map (fun q => W.ref q.1) = rs.map .ref := by rw [er, List.map_map]; rfl
  rw [er'] at e3
  generalize hF : ps.filter (fun q => decide (1 < q.2.length)) = F at *
  have zF : F.length ≤ 16777216 := by rw [← hF]; exact Nat.le_trans (List.length_filter_le _ _) zps
  have hbig : (big gs).map (fun g => W.lst (g.map encV)) = F.map fun q => W.lst (q.2.map encV) := by
    unfold big
    rw [eg, List.filter_map, List.map_map, ← hF]
    rfl
  have hfr := frzs_ps (G := G') F fun q hq => hps q (List.mem_filter.mp (hF ▸ hq)).1
  have nr : W.nrs [encE A, encE C] = true := by simp [W.nrs, encE_nr]
  refine iso_ok nr (G1 := G') (w := .lst (F.map fun q => W.ref q.1)) ?_ (by simp only [frz, hfr, hbig]; rfl)
  have hs := st_seqR h2
  rw [hUe] at el
  have hx := st_extL (r := 0) (xs := (own A C).map (fun e => encV (0, e))) (ys := (own C A).map (fun e => encV (1, e))) (G := [O.lst ((own A C).map fun e => encV (0, e))]) rfl (by simp; omega)
  have hr := st_rcve (r := 0) (xs := (own A C).map (fun e => encV (0, e))) (G := [O.lst ((own A C).map fun e => encV (0, e))]) rfl
  have zO1 : (own A C).length ≤ 16777216 := by omega
  have zO2 : (own C A).length ≤ 16777216 := by omega
  generalize own A C = X at *
  generalize own C A = Y at *
  delta t6o f6o at el
  rw [c6]
  simp [ev, evs, evT, evO, evC, evI, asgT, asgTs, evH, pickH, ex, exB, runD, look, seqOf, isKds, isKd, szOk, bnd_ok, bnd_exc, noX_ok, wipe, st_mkt, st_mkf, st_addi, st_adds, st_addt, st_auI, st_auS, st_sub, st_mul, st_fdiv, st_mod, st_pow, st_cat, st_repl, st_reps, st_lt, st_le, st_gt, st_ge, st_eqi, st_nei, st_eqs, st_nes, st_idxL, st_idxS, st_idxT, st_idxs, at_n, at_0, at_1, at_2, at_m1, st_slcL, st_slcT, st_slcs, cut_nn, cut_n, cut_from, cut_1, cut_to1, st_lens, st_lenL, st_lenS, st_lenT, st_inti, st_intb, st_min2, st_max2, st_sumL, st_allL, st_anyL, st_tupL, st_tupT, st_joinL, st_rcvj, st_sh, st_idxr, st_lenr, st_tupr, st_appr, st_rcvr, st_joinr, st_setr, mulOk_fm, mulOk_r, mulOk_l, st_eq, st_ne, W.eq, W.eqs, W.pl, W.pls, W.dep, W.deps, encE] at e1 e2 e3 el
  simp [ev, evs, evT, evO, evC, evI, asgT, asgTs, evH, pickH, ex, exB, runD, look, seqOf, isKds, isKd, szOk, bnd_ok, bnd_exc, noX_ok, wipe, st_mkt, st_mkf, st_addi, st_adds, st_addt, st_auI, st_auS, st_sub, st_mul, st_fdiv, st_mod, st_pow, st_cat, st_repl, st_reps, st_lt, st_le, st_gt, st_ge, st_eqi, st_nei, st_eqs, st_nes, st_idxL, st_idxS, st_idxT, st_idxs, at_n, at_0, at_1, at_2, at_m1, st_slcL, st_slcT, st_slcs, cut_nn, cut_n, cut_from, cut_1, cut_to1, st_lens, st_lenL, st_lenS, st_lenT, st_inti, st_intb, st_min2, st_max2, st_sumL, st_allL, st_anyL, st_tupL, st_tupT, st_joinL, st_rcvj, st_sh, st_idxr, st_lenr, st_tupr, st_appr, st_rcvr, st_joinr, st_setr, mulOk_fm, mulOk_r, mulOk_l, st_eq, st_ne, W.eq, W.eqs, W.pl, W.pls, W.dep, W.deps, d6, b6, encE, e1, e2, hx, hr, el, h2, e3, zO1, zO2, zF]
end K64
end

section
set_option linter.all false
set_option maxRecDepth 100000
set_option maxHeartbeats 4000000
/-! k64: region_of. -/
namespace K64
open T2
/-! lengths -/
theorem app_len (t : List Nat) (M : Nat) : ∀ (es : List Ed) (o : Nat), (∀ e ∈ es, e.2.2.length ≤ M) → (app t o es).length ≤ t.length + es.length * (t.length + M)
  | [], o, _ => by simp [app]
  | e :: r, o, h => by
    have ih := app_len t M r (e.1 + e.2.1.length) fun x hx => h x (List.mem_cons_of_mem _ hx)
    have h1 := h e List.mem_cons_self
    simp only [app, List.length_append, List.length_take, List.length_drop, List.length_cons]
    have h2 : (r.length + 1) * (t.length + M) = r.length * (t.length + M) + (t.length + M) := by rw [Nat.add_mul, Nat.one_mul]
    omega
/-- small -/
def tiny (e : Ed) : Prop := e.2.1.length ≤ 100 ∧ e.2.2.length ≤ 100
theorem tiny.shrt {e : Ed} (h : tiny e) : shrt e := ⟨by have := h.1; omega, by have := h.2; omega⟩
theorem chg1 (n : Nat) (t : List Nat) (es : List Ed) (ht : t.length ≤ 100) (hz : es.length ≤ 400) (hs : ∀ e ∈ es, tiny e) (G : List O) : callW (cl (n + 1)) .iso 1 [.str t, encE es] G = .ok (.str (app t 0 es)) G := by
  refine t3 n t es (by omega) ⟨by omega, fun e he => (hs e he).shrt⟩ ?_ G
  have := app_len t 100 es 0 fun e he => (hs e he).2
  have h2 : es.length * (t.length + 100) ≤ 400 * 200 := Nat.mul_le_mul hz (by omega)
  omega
/-! begin, end -/
theorem lo_int : ∀ (r : List Ed) (m : Nat), (r.map fun e => ((e.1 : Nat) : Int)).foldl (fun m j => if j < m then j else m) (m : Int) = ((r.foldl (fun m f => min m f.1) m : Nat) : Int)
  | [], m => rfl
  | e :: r, m => by
    have ih := lo_int r (min m e.1)
    simp only [List.map_cons, List.foldl_cons]
    rw [← ih]
    congr 1
    split <;> omega
theorem hi_int : ∀ (r : List Ed) (m : Nat), (r.map fun e => ((e.1 + e.2.1.length : Nat) : Int)).foldl (fun m j => if m < j then j else m) (m : Int) = ((r.foldl (fun m f => max m (f.1 + f.2.1.length)) m : Nat) : Int)
  | [], m => rfl
  | e :: r, m => by
    have ih := hi_int r (max m (e.1 + e.2.1.length))
    simp only [List.map_cons, List.foldl_cons]
    rw [← ih]
    congr 1
    split <;> omega
theorem min_lo {es : List Ed} (h : es ≠ []) (G : List O) : bltW .min1 [.lst (es.map fun e => .int ((e.1 : Nat) : Int))] G = .ok (.int (lo es : Nat)) G := by
  cases es with
  | nil => exact absurd rfl h
  | cons e r =>
    have := st_min1i (e.1 : Int) (r.map fun e => ((e.1 : Nat) : Int)) G
    rw [lo_int, List.map_map] at this
    exact this
theorem max_hi {es : List Ed} (h : es ≠ []) (G : List O) : bltW .max1 [.lst (es.map fun e => .int ((e.1 + e.2.1.length : Nat) : Int))] G = .ok (.int (hi es : Nat)) G := by
  cases es with
  | nil => exact absurd rfl h
  | cons e r =>
    have := st_max1i ((e.1 + e.2.1.length : Nat) : Int) (r.map fun e => ((e.1 + e.2.1.length : Nat) : Int)) G
    rw [hi_int, List.map_map] at this
    exact this
def gside (s : Nat) (g : List Vx) : List Ed := (g.filter fun u => decide (u.1 = s)).map (·.2)
def rowG (base : List Nat) (g : List Vx) : Row :=
  let b := lo (g.map (·.2))
  let e := hi (g.map (·.2))
  (b, cutB base b e, app (cutB base b e) 0 ((srt eK (gside 0 g)).map (shf b)), app (cutB base b e) 0 ((srt eK (gside 1 g)).map (shf b)))
theorem gside_len (s : Nat) (g : List Vx) : (gside s g).length ≤ g.length := by
  simp only [gside, List.length_map]
  exact List.length_filter_le _ _
theorem gside_mem {s : Nat} {g : List Vx} {e : Ed} : e ∈ gside s g ↔ (s, e) ∈ g := by
  simp only [gside, List.mem_map, List.mem_filter, decide_eq_true_eq]
  constructor
  · rintro ⟨⟨t, f⟩, ⟨h, rfl⟩, rfl⟩
    exact h
  · intro h
    exact ⟨(s, e), ⟨h, rfl⟩, rfl⟩
abbrev f7 (n : Nat) : Sl → List O → Res Fl := fun sw G => exB (cl n) gk wf b7_2 sw G
theorem s7r (n : Nat) (base : List Nat) (g : List Vx) (b e s : Nat) (Dn : List W) (sd ow mo : Option W) (hb : base.length ≤ 100) (hg : g.length ≤ 400) (ht : ∀ u ∈ g, tiny u.2) (hlo : ∀ u ∈ g, b ≤ u.2.1) (ha : apart eK (gside s g)) (hD : Dn.length ≤ 5) :
    f7 (n + 1) [some (.str base), some (.lst (g.map encV)), some (.int (b : Nat)), some (.int (e : Nat)), some (.ref 0), some (.int (s : Nat)), ow, mo, none, none, none, none, none, none] [.lst Dn]
      = .ok (.nx [some (.str base), some (.lst (g.map encV)), some (.int (b : Nat)), some (.int (e : Nat)), some (.ref 0), some (.int (s : Nat)), some (.lst ((srt eK (gside s g)).map enc)), some (encE ((srt eK (gside s g)).map (shf b))), none, none, none, none, none, none]) [.lst (Dn ++ [.str (app (cutB base b e) 0 ((srt eK (gside s g)).map (shf b)))])] := by
  have hgs := gside_len s g
  have e1 := lcL_ty (asg := fun x G => asgT (cl (n + 1)) gk (.tp (.cons (.nm 10) (.cons (.nm 9) .nil))) x [some (.str base), some (.lst (g.map encV)), some (.int (b : Nat)), some (.int (e : Nat)), some (.ref 0), some (.int (s : Nat)), ow, mo, none, none, none, none, none, none] G) (cd := fun sw1 G => evC (cl (n + 1)) gk (.yes (.cmp .eq (.v 10) (.v 5))) sw1 G) (e := fun sw1 G => ev (cl (n + 1)) gk e7_1 sw1 G)
    (s := ⟨g.map encV, none⟩) (G := [O.lst Dn]) rfl encV (fun u => decide (u.1 = s)) (fun u => enc u.2) g [] (by simp; omega) fun x hx => by
      refine ⟨[some (.str base), some (.lst (g.map encV)), some (.int (b : Nat)), some (.int (e : Nat)), some (.ref 0), some (.int (s : Nat)), ow, mo, none, some (enc x.2), some (.int (x.1 : Nat)), none, none, none], by simp [ev, evs, evT, evO, evC, evI, asgT, asgTs, evH, pickH, ex, exB, runD, look, seqOf, isKds, isKd, szOk, bnd_ok, bnd_exc, noX_ok, wipe, st_mkt, st_mkf, st_addi, st_adds, st_addt, st_auI, st_auS, st_sub, st_mul, st_fdiv, st_mod, st_pow, st_cat, st_repl, st_reps, st_lt, st_le, st_gt, st_ge, st_eqi, st_nei, st_eqs, st_nes, st_idxL, st_idxS, st_idxT, st_idxs, at_n, at_0, at_1, at_2, at_m1, st_slcL, st_slcT, st_slcs, cut_nn, cut_n, cut_from, cut_1, cut_to1, st_lens, st_lenL, st_lenS, st_lenT, st_inti, st_intb, st_min2, st_max2, st_sumL, st_allL, st_anyL, st_tupL, st_tupT, st_joinL, st_rcvj, st_sh, st_idxr, st_lenr, st_tupr, st_appr, st_rcvr, st_joinr, st_setr, mulOk_fm, mulOk_r, mulOk_l, st_eq, st_ne, W.eq, W.eqs, W.pl, W.pls, W.dep, W.deps, encV], ?_, fun _ => by simp [ev, evs, evT, evO, evC, evI, asgT, asgTs, evH, pickH, ex, exB, runD, look, seqOf, isKds, isKd, szOk, bnd_ok, bnd_exc, noX_ok, wipe, st_mkt, st_mkf, st_addi, st_adds, st_addt, st_auI, st_auS, st_sub, st_mul, st_fdiv, st_mod, st_pow, st_cat, st_repl, st_reps, st_lt, st_le, st_gt, st_ge, st_eqi, st_nei, st_eqs, st_nes, st_idxL, st_idxS, st_idxT, st_idxs, at_n, at_0, at_1, at_2, at_m1, st_slcL, st_slcT, st_slcs, cut_nn, cut_n, cut_from, cut_1, cut_to1, st_lens, st_lenL, st_lenS, st_lenT, st_inti, st_intb, st_min2, st_max2, st_sumL, st_allL, st_anyL, st_tupL, st_tupT, st_joinL, st_rcvj, st_sh, st_idxr, st_lenr, st_tupr, st_appr, st_rcvr, st_joinr, st_setr, mulOk_fm, mulOk_r, mulOk_l, st_eq, st_ne, W.eq, W.eqs, W.pl, W.pls, W.dep, W.deps, e7_1]⟩
      by_cases h : x.1 = s
      · have h' : (x.1 : Int) = s := by omega
        simp [ev, evs, evT, evO, evC, evI, asgT, asgTs, evH, pickH, ex, exB, runD, look, seqOf, isKds, isKd, szOk, bnd_ok, bnd_exc, noX_ok, wipe, st_mkt, st_mkf, st_addi, st_adds, st_addt, st_auI, st_auS, st_sub, st_mul, st_fdiv, st_mod, st_pow, st_cat, st_repl, st_reps, st_lt, st_le, st_gt, st_ge, st_eqi, st_nei, st_eqs, st_nes, st_idxL, st_idxS, st_idxT, st_idxs, at_n, at_0, at_1, at_2, at_m1, st_slcL, st_slcT, st_slcs, cut_nn, cut_n, cut_from, cut_1, cut_to1, st_lens, st_lenL, st_lenS, st_lenT, st_inti, st_intb, st_min2, st_max2, st_sumL, st_allL, st_anyL, st_tupL, st_tupT, st_joinL, st_rcvj, st_sh, st_idxr, st_lenr, st_tupr, st_appr, st_rcvr, st_joinr, st_setr, mulOk_fm, mulOk_r, mulOk_l, st_eq, st_ne, W.eq, W.eqs, W.pl, W.pls, W.dep, W.deps, h, h']
      · have h' : ¬ (x.1 : Int) = s := by omega
        simp [ev, evs, evT, evO, evC, evI, asgT, asgTs, evH, pickH, ex, exB, runD, look, seqOf, isKds, isKd, szOk, bnd_ok, bnd_exc, noX_ok, wipe, st_mkt, st_mkf, st_addi, st_adds, st_addt, st_auI, st_auS, st_sub, st_mul, st_fdiv, st_mod, st_pow, st_cat, st_repl, st_reps, st_lt, st_le, st_gt, st_ge, st_eqi, st_nei, st_eqs, st_nes, st_idxL, st_idxS, st_idxT, st_idxs, at_n, at_0, at_1, at_2, at_m1, st_slcL, st_slcT, st_slcs, cut_nn, cut_n, cut_from, cut_1, cut_to1, st_lens, st_lenL, st_lenS, st_lenT, st_inti, st_intb, st_min2, st_max2, st_sumL, st_allL, st_anyL, st_tupL, st_tupT, st_joinL, st_rcvj, st_sh, st_idxr, st_lenr, st_tupr, st_appr, st_rcvr, st_joinr, st_setr, mulOk_fm, mulOk_r, mulOk_l, st_eq, st_ne, W.eq, W.eqs, W.pl, W.pls, W.dep, W.deps, h, h']
  have e1' : (g.filter fun u => decide (u.1 = s)).map (fun u => enc u.2) = (gside s g).map enc := by simp [gside, List.map_map, Function.comp_def]
  rw [e1'] at e1
  have hso := st_srtE ha (by omega) [O.lst Dn]
  have hSl := srt_len eK (gside s g)
  have hSm : ∀ x ∈ srt eK (gside s g), (s, x) ∈ g := fun x hx => gside_mem.mp ((srt_mem eK).mp hx)
  generalize srt eK (gside s g) = S at *
  have zS : S.length ≤ 16777216 := by omega
  have e2 := lcL_ty (asg := fun x G => asgT (cl (n + 1)) gk (.tp (.cons (.nm 11) (.cons (.nm 12) (.cons (.nm 13) .nil)))) x [some (.str base), some (.lst (g.map encV)), some (.int (b : Nat)), some (.int (e : Nat)), some (.ref 0), some (.int (s : Nat)), some (.lst (S.map enc)), mo, none, none, none, none, none, none] G) (cd := fun sw1 G => evC (cl (n + 1)) gk .no sw1 G) (e := fun sw1 G => ev (cl (n + 1)) gk e7_0 sw1 G)
    (s := ⟨S.map enc, none⟩) (G := [O.lst Dn]) rfl enc (fun u => true) (fun u => enc (shf b u)) S [] (by simp; omega) fun x hx => by
      refine ⟨[some (.str base), some (.lst (g.map encV)), some (.int (b : Nat)), some (.int (e : Nat)), some (.ref 0), some (.int (s : Nat)), some (.lst (S.map enc)), mo, none, none, none, some (.int (x.1 : Nat)), some (.str x.2.1), some (.str x.2.2)], by simp [ev, evs, evT, evO, evC, evI, asgT, asgTs, evH, pickH, ex, exB, runD, look, seqOf, isKds, isKd, szOk, bnd_ok, bnd_exc, noX_ok, wipe, st_mkt, st_mkf, st_addi, st_adds, st_addt, st_auI, st_auS, st_sub, st_mul, st_fdiv, st_mod, st_pow, st_cat, st_repl, st_reps, st_lt, st_le, st_gt, st_ge, st_eqi, st_nei, st_eqs, st_nes, st_idxL, st_idxS, st_idxT, st_idxs, at_n, at_0, at_1, at_2, at_m1, st_slcL, st_slcT, st_slcs, cut_nn, cut_n, cut_from, cut_1, cut_to1, st_lens, st_lenL, st_lenS, st_lenT, st_inti, st_intb, st_min2, st_max2, st_sumL, st_allL, st_anyL, st_tupL, st_tupT, st_joinL, st_rcvj, st_sh, st_idxr, st_lenr, st_tupr, st_appr, st_rcvr, st_joinr, st_setr, mulOk_fm, mulOk_r, mulOk_l, st_eq, st_ne, W.eq, W.eqs, W.pl, W.pls, W.dep, W.deps, enc], by simp [ev, evs, evT, evO, evC, evI, asgT, asgTs, evH, pickH, ex, exB, runD, look, seqOf, isKds, isKd, szOk, bnd_ok, bnd_exc, noX_ok, wipe, st_mkt, st_mkf, st_addi, st_adds, st_addt, st_auI, st_auS, st_sub, st_mul, st_fdiv, st_mod, st_pow, st_cat, st_repl, st_reps, st_lt, st_le, st_gt, st_ge, st_eqi, st_nei, st_eqs, st_nes, st_idxL, st_idxS, st_idxT, st_idxs, at_n, at_0, at_1, at_2, at_m1, st_slcL, st_slcT, st_slcs, cut_nn, cut_n, cut_from, cut_1, cut_to1, st_lens, st_lenL, st_lenS, st_lenT, st_inti, st_intb, st_min2, st_max2, st_sumL, st_allL, st_anyL, st_tupL, st_tupT, st_joinL, st_rcvj, st_sh, st_idxr, st_lenr, st_tupr, st_appr, st_rcvr, st_joinr, st_setr, mulOk_fm, mulOk_r, mulOk_l, st_eq, st_ne, W.eq, W.eqs, W.pl, W.pls, W.dep, W.deps], fun _ => ?_⟩
      have := hlo _ (hSm x hx)
      have this : b ≤ x.1 := this
      have h2 : ((x.1 - b : Nat) : Int) = (x.1 : Int) - b := by omega
      simp [ev, evs, evT, evO, evC, evI, asgT, asgTs, evH, pickH, ex, exB, runD, look, seqOf, isKds, isKd, szOk, bnd_ok, bnd_exc, noX_ok, wipe, st_mkt, st_mkf, st_addi, st_adds, st_addt, st_auI, st_auS, st_sub, st_mul, st_fdiv, st_mod, st_pow, st_cat, st_repl, st_reps, st_lt, st_le, st_gt, st_ge, st_eqi, st_nei, st_eqs, st_nes, st_idxL, st_idxS, st_idxT, st_idxs, at_n, at_0, at_1, at_2, at_m1, st_slcL, st_slcT, st_slcs, cut_nn, cut_n, cut_from, cut_1, cut_to1, st_lens, st_lenL, st_lenS, st_lenT, st_inti, st_intb, st_min2, st_max2, st_sumL, st_allL, st_anyL, st_tupL, st_tupT, st_joinL, st_rcvj, st_sh, st_idxr, st_lenr, st_tupr, st_appr, st_rcvr, st_joinr, st_setr, mulOk_fm, mulOk_r, mulOk_l, st_eq, st_ne, W.eq, W.eqs, W.pl, W.pls, W.dep, W.deps, e7_0, enc, shf, h2]
  rw [List.filter_eq_self.mpr (fun _ _ => rfl)] at e2
  have e3 : S.map (fun u => enc (shf b u)) = (S.map (shf b)).map enc := by rw [List.map_map]; rfl
  rw [e3] at e2
  have zb : base.length ≤ 16777216 := by omega
  have zc : (cutB base b e).length ≤ 100 := by simp only [cutB, List.length_take, List.length_drop]; omega
  have hch := chg1 n (cutB base b e) (S.map (shf b)) zc (by rw [List.length_map]; omega) (fun x hx => by
    obtain ⟨y, hy, rfl⟩ := List.mem_map.mp hx
    exact ht _ (hSm y hy)) [O.lst Dn]
  have hcut : cutW base (some (b : Int)) (some (e : Int)) = cutB base b e := cut_nn base b e
  have hD' : Dn.length < 16777216 := by omega
  have zM : (S.map (shf b)).length = S.length := List.length_map _
  unfold cutB at hch ⊢
  generalize S.map (shf b) = M at *
  have zM2 : M.length ≤ 16777216 := by omega
  simp [ev, evs, evT, evO, evC, evI, asgT, asgTs, evH, pickH, ex, exB, runD, look, seqOf, isKds, isKd, szOk, bnd_ok, bnd_exc, noX_ok, wipe, st_mkt, st_mkf, st_addi, st_adds, st_addt, st_auI, st_auS, st_sub, st_mul, st_fdiv, st_mod, st_pow, st_cat, st_repl, st_reps, st_lt, st_le, st_gt, st_ge, st_eqi, st_nei, st_eqs, st_nes, st_idxL, st_idxS, st_idxT, st_idxs, at_n, at_0, at_1, at_2, at_m1, st_slcL, st_slcT, st_slcs, cut_nn, cut_n, cut_from, cut_1, cut_to1, st_lens, st_lenL, st_lenS, st_lenT, st_inti, st_intb, st_min2, st_max2, st_sumL, st_allL, st_anyL, st_tupL, st_tupT, st_joinL, st_rcvj, st_sh, st_idxr, st_lenr, st_tupr, st_appr, st_rcvr, st_joinr, st_setr, mulOk_fm, mulOk_r, mulOk_l, st_eq, st_ne, W.eq, W.eqs, W.pl, W.pls, W.dep, W.deps] at e1 e2 hso
  simp [ev, evs, evT, evO, evC, evI, asgT, asgTs, evH, pickH, ex, exB, runD, look, seqOf, isKds, isKd, szOk, bnd_ok, bnd_exc, noX_ok, wipe, st_mkt, st_mkf, st_addi, st_adds, st_addt, st_auI, st_auS, st_sub, st_mul, st_fdiv, st_mod, st_pow, st_cat, st_repl, st_reps, st_lt, st_le, st_gt, st_ge, st_eqi, st_nei, st_eqs, st_nes, st_idxL, st_idxS, st_idxT, st_idxs, at_n, at_0, at_1, at_2, at_m1, st_slcL, st_slcT, st_slcs, cut_nn, cut_n, cut_from, cut_1, cut_to1, st_lens, st_lenL, st_lenS, st_lenT, st_inti, st_intb, st_min2, st_max2, st_sumL, st_allL, st_anyL, st_tupL, st_tupT, st_joinL, st_rcvj, st_sh, st_idxr, st_lenr, st_tupr, st_appr, st_rcvr, st_joinr, st_setr, mulOk_fm, mulOk_r, mulOk_l, st_eq, st_ne, W.eq, W.eqs, W.pl, W.pls, W.dep, W.deps, encE] at hch
  have zG : (gside s g).length ≤ 16777216 := by omega
  simp [ev, evs, evT, evO, evC, evI, asgT, asgTs, evH, pickH, ex, exB, runD, look, seqOf, isKds, isKd, szOk, bnd_ok, bnd_exc, noX_ok, wipe, st_mkt, st_mkf, st_addi, st_adds, st_addt, st_auI, st_auS, st_sub, st_mul, st_fdiv, st_mod, st_pow, st_cat, st_repl, st_reps, st_lt, st_le, st_gt, st_ge, st_eqi, st_nei, st_eqs, st_nes, st_idxL, st_idxS, st_idxT, st_idxs, at_n, at_0, at_1, at_2, at_m1, st_slcL, st_slcT, st_slcs, cut_nn, cut_n, cut_from, cut_1, cut_to1, st_lens, st_lenL, st_lenS, st_lenT, st_inti, st_intb, st_min2, st_max2, st_sumL, st_allL, st_anyL, st_tupL, st_tupT, st_joinL, st_rcvj, st_sh, st_idxr, st_lenr, st_tupr, st_appr, st_rcvr, st_joinr, st_setr, mulOk_fm, mulOk_r, mulOk_l, st_eq, st_ne, W.eq, W.eqs, W.pl, W.pls, W.dep, W.deps, f7, b7_2, encE, e1, e2, hso, hch, zb, hD', zS, zM2, zG]
theorem t7r (n : Nat) (base : List Nat) (g : List Vx) (hne : g ≠ []) (hb : base.length ≤ 100) (hg : g.length ≤ 400) (ht : ∀ u ∈ g, tiny u.2) (ha0 : apart eK (gside 0 g)) (ha1 : apart eK (gside 1 g)) (G : List O) : callW (cl (n + 2)) .iso 7 [.str base, .lst (g.map encV)] G = .ok (encR (rowG base g)) G := by
  have e1 := lcL_ty (asg := fun x G => asgT (cl (n + 1)) gk (.tp (.cons (.nm 8) (.cons (.nm 9) .nil))) x [some (.str base), some (.lst (g.map encV)), none, none, none, none, none, none, none, none, none, none, none, none] G) (cd := fun sw1 G => evC (cl (n + 1)) gk .no sw1 G) (e := fun sw1 G => ev (cl (n + 1)) gk e7_4 sw1 G)
    (s := ⟨g.map encV, none⟩) (G := []) rfl encV (fun u => true) (fun u => W.int ((u.2.1 : Nat) : Int)) g [] (by simp; omega) fun x hx =>
      ⟨[some (.str base), some (.lst (g.map encV)), none, none, none, none, none, none, some (.int (x.1 : Nat)), some (enc x.2), none, none, none, none], by simp [ev, evs, evT, evO, evC, evI, asgT, asgTs, evH, pickH, ex, exB, runD, look, seqOf, isKds, isKd, szOk, bnd_ok, bnd_exc, noX_ok, wipe, st_mkt, st_mkf, st_addi, st_adds, st_addt, st_auI, st_auS, st_sub, st_mul, st_fdiv, st_mod, st_pow, st_cat, st_repl, st_reps, st_lt, st_le, st_gt, st_ge, st_eqi, st_nei, st_eqs, st_nes, st_idxL, st_idxS, st_idxT, st_idxs, at_n, at_0, at_1, at_2, at_m1, st_slcL, st_slcT, st_slcs, cut_nn, cut_n, cut_from, cut_1, cut_to1, st_lens, st_lenL, st_lenS, st_lenT, st_inti, st_intb, st_min2, st_max2, st_sumL, st_allL, st_anyL, st_tupL, st_tupT, st_joinL, st_rcvj, st_sh, st_idxr, st_lenr, st_tupr, st_appr, st_rcvr, st_joinr, st_setr, mulOk_fm, mulOk_r, mulOk_l, st_eq, st_ne, W.eq, W.eqs, W.pl, W.pls, W.dep, W.deps, encV], by simp [ev, evs, evT, evO, evC, evI, asgT, asgTs, evH, pickH, ex, exB, runD, look, seqOf, isKds, isKd, szOk, bnd_ok, bnd_exc, noX_ok, wipe, st_mkt, st_mkf, st_addi, st_adds, st_addt, st_auI, st_auS, st_sub, st_mul, st_fdiv, st_mod, st_pow, st_cat, st_repl, st_reps, st_lt, st_le, st_gt, st_ge, st_eqi, st_nei, st_eqs, st_nes, st_idxL, st_idxS, st_idxT, st_idxs, at_n, at_0, at_1, at_2, at_m1, st_slcL, st_slcT, st_slcs, cut_nn, cut_n, cut_from, cut_1, cut_to1, st_lens, st_lenL, st_lenS, st_lenT, st_inti, st_intb, st_min2, st_max2, st_sumL, st_allL, st_anyL, st_tupL, st_tupT, st_joinL, st_rcvj, st_sh, st_idxr, st_lenr, st_tupr, st_appr, st_rcvr, st_joinr, st_setr, mulOk_fm, mulOk_r, mulOk_l, st_eq, st_ne, W.eq, W.eqs, W.pl, W.pls, W.dep, W.deps], fun _ => by simp [ev, evs, evT, evO, evC, evI, asgT, asgTs, evH, pickH, ex, exB, runD, look, seqOf, isKds, isKd, szOk, bnd_ok, bnd_exc, noX_ok, wipe, st_mkt, st_mkf, st_addi, st_adds, st_addt, st_auI, st_auS, st_sub, st_mul, st_fdiv, st_mod, st_pow, st_cat, st_repl, st_reps, st_lt, st_le, st_gt, st_ge, st_eqi, st_nei, st_eqs, st_nes, st_idxL, st_idxS, st_idxT, st_idxs, at_n, at_0, at_1, at_2, at_m1, st_slcL, st_slcT, st_slcs, cut_nn, cut_n, cut_from, cut_1, cut_to1, st_lens, st_lenL, st_lenS, st_lenT, st_inti, st_intb, st_min2, st_max2, st_sumL, st_allL, st_anyL, st_tupL, st_tupT, st_joinL, st_rcvj, st_sh, st_idxr, st_lenr, st_tupr, st_appr, st_rcvr, st_joinr, st_setr, mulOk_fm, mulOk_r, mulOk_l, st_eq, st_ne, W.eq, W.eqs, W.pl, W.pls, W.dep, W.deps, e7_4, enc]⟩
  rw [List.filter_eq_self.mpr (fun _ _ => rfl)] at e1
  have hl : g.map (fun u => W.int ((u.2.1 : Nat) : Int)) = (g.map (·.2)).map fun e => .int ((e.1 : Nat) : Int) := by rw [List.map_map]; rfl
  rw [hl] at e1
  have hne2 : g.map (·.2) ≠ [] := by simpa using hne
  have h1 := min_lo hne2 []
  have h2 := max_hi hne2 []
  have hlo : ∀ u ∈ g, lo (g.map (·.2)) ≤ u.2.1 := fun u hu => lo_le (List.mem_map_of_mem hu)
  have e2 := lcL_ty (asg := fun x G => asgT (cl (n + 1)) gk (.tp (.cons (.nm 8) (.cons (.nm 9) .nil))) x [some (.str base), some (.lst (g.map encV)), some (.int (lo (g.map (·.2)) : Nat)), none, none, none, none, none, none, none, none, none, none, none] G) (cd := fun sw1 G => evC (cl (n + 1)) gk .no sw1 G) (e := fun sw1 G => ev (cl (n + 1)) gk e7_3 sw1 G)
    (s := ⟨g.map encV, none⟩) (G := []) rfl encV (fun u => true) (fun u => W.int ((u.2.1 + u.2.2.1.length : Nat) : Int)) g [] (by simp; omega) fun x hx => by
      have hz : x.2.2.1.length ≤ 16777216 := by have := (ht x hx).1; omega
      exact ⟨[some (.str base), some (.lst (g.map encV)), some (.int (lo (g.map (·.2)) : Nat)), none, none, none, none, none, some (.int (x.1 : Nat)), some (enc x.2), none, none, none, none], by simp [ev, evs, evT, evO, evC, evI, asgT, asgTs, evH, pickH, ex, exB, runD, look, seqOf, isKds, isKd, szOk, bnd_ok, bnd_exc, noX_ok, wipe, st_mkt, st_mkf, st_addi, st_adds, st_addt, st_auI, st_auS, st_sub, st_mul, st_fdiv, st_mod, st_pow, st_cat, st_repl, st_reps, st_lt, st_le, st_gt, st_ge, st_eqi, st_nei, st_eqs, st_nes, st_idxL, st_idxS, st_idxT, st_idxs, at_n, at_0, at_1, at_2, at_m1, st_slcL, st_slcT, st_slcs, cut_nn, cut_n, cut_from, cut_1, cut_to1, st_lens, st_lenL, st_lenS, st_lenT, st_inti, st_intb, st_min2, st_max2, st_sumL, st_allL, st_anyL, st_tupL, st_tupT, st_joinL, st_rcvj, st_sh, st_idxr, st_lenr, st_tupr, st_appr, st_rcvr, st_joinr, st_setr, mulOk_fm, mulOk_r, mulOk_l, st_eq, st_ne, W.eq, W.eqs, W.pl, W.pls, W.dep, W.deps, encV], by simp [ev, evs, evT, evO, evC, evI, asgT, asgTs, evH, pickH, ex, exB, runD, look, seqOf, isKds, isKd, szOk, bnd_ok, bnd_exc, noX_ok, wipe, st_mkt, st_mkf, st_addi, st_adds, st_addt, st_auI, st_auS, st_sub, st_mul, st_fdiv, st_mod, st_pow, st_cat, st_repl, st_reps, st_lt, st_le, st_gt, st_ge, st_eqi, st_nei, st_eqs, st_nes, st_idxL, st_idxS, st_idxT, st_idxs, at_n, at_0, at_1, at_2, at_m1, st_slcL, st_slcT, st_slcs, cut_nn, cut_n, cut_from, cut_1, cut_to1, st_lens, st_lenL, st_lenS, st_lenT, st_inti, st_intb, st_min2, st_max2, st_sumL, st_allL, st_anyL, st_tupL, st_tupT, st_joinL, st_rcvj, st_sh, st_idxr, st_lenr, st_tupr, st_appr, st_rcvr, st_joinr, st_setr, mulOk_fm, mulOk_r, mulOk_l, st_eq, st_ne, W.eq, W.eqs, W.pl, W.pls, W.dep, W.deps], fun _ => by simp [ev, evs, evT, evO, evC, evI, asgT, asgTs, evH, pickH, ex, exB, runD, look, seqOf, isKds, isKd, szOk, bnd_ok, bnd_exc, noX_ok, wipe, st_mkt, st_mkf, st_addi, st_adds, st_addt, st_auI, st_auS, st_sub, st_mul, st_fdiv, st_mod, st_pow, st_cat, st_repl, st_reps, st_lt, st_le, st_gt, st_ge, st_eqi, st_nei, st_eqs, st_nes, st_idxL, st_idxS, st_idxT, st_idxs, at_n, at_0, at_1, at_2, at_m1, st_slcL, st_slcT, st_slcs, cut_nn, cut_n, cut_from, cut_1, cut_to1, st_lens, st_lenL, st_lenS, st_lenT, st_inti, st_intb, st_min2, st_max2, st_sumL, st_allL, st_anyL, st_tupL, st_tupT, st_joinL, st_rcvj, st_sh, st_idxr, st_lenr, st_tupr, st_appr, st_rcvr, st_joinr, st_setr, mulOk_fm, mulOk_r, mulOk_l, st_eq, st_ne, W.eq, W.eqs, W.pl, W.pls, W.dep, W.deps, e7_3, enc, hz]⟩
  rw [List.filter_eq_self.mpr (fun _ _ => rfl)] at e2
  have hl2 : g.map (fun u => W.int ((u.2.1 + u.2.2.1.length : Nat) : Int)) = (g.map (·.2)).map fun e => .int ((e.1 + e.2.1.length : Nat) : Int) := by rw [List.map_map]; rfl
  rw [hl2] at e2
  have zg : g.length ≤ 16777216 := by omega
  have zg1 : ((g.map (·.2)).map fun e : Ed => W.int ((e.1 : Nat) : Int)).length = g.length := by simp
  have zg2 : ((g.map (·.2)).map fun e : Ed => W.int ((e.1 + e.2.1.length : Nat) : Int)).length = g.length := by simp
  unfold rowG
  dsimp only
  generalize lo (g.map (·.2)) = b at *
  generalize hi (g.map (·.2)) = e at *
  have k0 := s7r n base g b e 0 [] none none none hb hg ht hlo ha0 (by simp)
  have k1 := s7r n base g b e 1 [.str (app (cutB base b e) 0 ((srt eK (gside 0 g)).map (shf b)))] none (some (.lst ((srt eK (gside 0 g)).map enc))) (some (encE ((srt eK (gside 0 g)).map (shf b)))) hb hg ht hlo ha1 (by simp)
  have nr : W.nrs [.str base, .lst (g.map encV)] = true := by simp [W.nrs, W.nr, encVs_nr]
  refine iso_pl nr (G1 := [.lst [.str (app (cutB base b e) 0 ((srt eK (gside 0 g)).map (shf b))), .str (app (cutB base b e) 0 ((srt eK (gside 1 g)).map (shf b)))]]) ?_ (by simp [encR, W.pl, W.pls])
  have zb : base.length ≤ 16777216 := by omega
  have hcut : cutW base (some (b : Int)) (some (e : Int)) = cutB base b e := cut_nn base b e
  generalize app (cutB base b e) 0 ((srt eK (gside 0 g)).map (shf b)) = T0 at *
  generalize app (cutB base b e) 0 ((srt eK (gside 1 g)).map (shf b)) = T1 at *
  generalize (g.map (·.2)).map (fun e : Ed => W.int ((e.1 : Nat) : Int)) = L0 at *
  generalize (g.map (·.2)).map (fun e : Ed => W.int ((e.1 + e.2.1.length : Nat) : Int)) = L1 at *
  generalize srt eK (gside 0 g) = S0 at *
  generalize srt eK (gside 1 g) = S1 at *
  have zL0 : L0.length ≤ 16777216 := by omega
  have zL1 : L1.length ≤ 16777216 := by omega
  delta f7 at k0 k1
  have hloop : ∀ s : Seq, (∀ G, s.ok G = true) → forL (fun w sw G => asgT (cl (n + 1)) gk (.nm 5) w sw G) (fun sw G => exB (cl (n + 1)) gk wf b7_2 sw G) s [.int 0, .int 1] [some (.str base), some (.lst (g.map encV)), some (.int (b : Nat)), some (.int (e : Nat)), some (.ref 0), none, none, none, none, none, none, none, none, none] [.lst []]
      = .ok (.nx [some (.str base), some (.lst (g.map encV)), some (.int (b : Nat)), some (.int (e : Nat)), some (.ref 0), some (.int 1), some (.lst (S1.map enc)), some (encE (S1.map (shf b))), none, none, none, none, none, none]) [.lst [.str T0, .str T1]] := fun s hs => by
    rw [forL_ok (hs _) (sw1 := [some (.str base), some (.lst (g.map encV)), some (.int (b : Nat)), some (.int (e : Nat)), some (.ref 0), some (.int ((0 : Nat) : Int)), none, none, none, none, none, none, none, none]) (G1 := [.lst []]) (by simp [ev, evs, evT, evO, evC, evI, asgT, asgTs, evH, pickH, ex, exB, runD, look, seqOf, isKds, isKd, szOk, bnd_ok, bnd_exc, noX_ok, wipe, st_mkt, st_mkf, st_addi, st_adds, st_addt, st_auI, st_auS, st_sub, st_mul, st_fdiv, st_mod, st_pow, st_cat, st_repl, st_reps, st_lt, st_le, st_gt, st_ge, st_eqi, st_nei, st_eqs, st_nes, st_idxL, st_idxS, st_idxT, st_idxs, at_n, at_0, at_1, at_2, at_m1, st_slcL, st_slcT, st_slcs, cut_nn, cut_n, cut_from, cut_1, cut_to1, st_lens, st_lenL, st_lenS, st_lenT, st_inti, st_intb, st_min2, st_max2, st_sumL, st_allL, st_anyL, st_tupL, st_tupT, st_joinL, st_rcvj, st_sh, st_idxr, st_lenr, st_tupr, st_appr, st_rcvr, st_joinr, st_setr, mulOk_fm, mulOk_r, mulOk_l, st_eq, st_ne, W.eq, W.eqs, W.pl, W.pls, W.dep, W.deps]) k0,
      forL_ok (hs _) (sw1 := [some (.str base), some (.lst (g.map encV)), some (.int (b : Nat)), some (.int (e : Nat)), some (.ref 0), some (.int ((1 : Nat) : Int)), some (.lst (S0.map enc)), some (encE (S0.map (shf b))), none, none, none, none, none, none]) (G1 := [.lst [.str T0]]) (by simp [ev, evs, evT, evO, evC, evI, asgT, asgTs, evH, pickH, ex, exB, runD, look, seqOf, isKds, isKd, szOk, bnd_ok, bnd_exc, noX_ok, wipe, st_mkt, st_mkf, st_addi, st_adds, st_addt, st_auI, st_auS, st_sub, st_mul, st_fdiv, st_mod, st_pow, st_cat, st_repl, st_reps, st_lt, st_le, st_gt, st_ge, st_eqi, st_nei, st_eqs, st_nes, st_idxL, st_idxS, st_idxT, st_idxs, at_n, at_0, at_1, at_2, at_m1, st_slcL, st_slcT, st_slcs, cut_nn, cut_n, cut_from, cut_1, cut_to1, st_lens, st_lenL, st_lenS, st_lenT, st_inti, st_intb, st_min2, st_max2, st_sumL, st_allL, st_anyL, st_tupL, st_tupT, st_joinL, st_rcvj, st_sh, st_idxr, st_lenr, st_tupr, st_appr, st_rcvr, st_joinr, st_setr, mulOk_fm, mulOk_r, mulOk_l, st_eq, st_ne, W.eq, W.eqs, W.pl, W.pls, W.dep, W.deps]) k1, forL_nil (hs _)]
    rfl
  have hl := hloop ⟨[.int 0, .int 1], none⟩ (fun _ => rfl)
  rw [c7]
  unfold cutB
  simp [ev, evs, evT, evO, evC, evI, asgT, asgTs, evH, pickH, ex, exB, runD, look, seqOf, isKds, isKd, szOk, bnd_ok, bnd_exc, noX_ok, wipe, st_mkt, st_mkf, st_addi, st_adds, st_addt, st_auI, st_auS, st_sub, st_mul, st_fdiv, st_mod, st_pow, st_cat, st_repl, st_reps, st_lt, st_le, st_gt, st_ge, st_eqi, st_nei, st_eqs, st_nes, st_idxL, st_idxS, st_idxT, st_idxs, at_n, at_0, at_1, at_2, at_m1, st_slcL, st_slcT, st_slcs, cut_nn, cut_n, cut_from, cut_1, cut_to1, st_lens, st_lenL, st_lenS, st_lenT, st_inti, st_intb, st_min2, st_max2, st_sumL, st_allL, st_anyL, st_tupL, st_tupT, st_joinL, st_rcvj, st_sh, st_idxr, st_lenr, st_tupr, st_appr, st_rcvr, st_joinr, st_setr, mulOk_fm, mulOk_r, mulOk_l, st_eq, st_ne, W.eq, W.eqs, W.pl, W.pls, W.dep, W.deps] at e1 e2 hl
  simp [ev, evs, evT, evO, evC, evI, asgT, asgTs, evH, pickH, ex, exB, runD, look, seqOf, isKds, isKd, szOk, bnd_ok, bnd_exc, noX_ok, wipe, st_mkt, st_mkf, st_addi, st_adds, st_addt, st_auI, st_auS, st_sub, st_mul, st_fdiv, st_mod, st_pow, st_cat, st_repl, st_reps, st_lt, st_le, st_gt, st_ge, st_eqi, st_nei, st_eqs, st_nes, st_idxL, st_idxS, st_idxT, st_idxs, at_n, at_0, at_1, at_2, at_m1, st_slcL, st_slcT, st_slcs, cut_nn, cut_n, cut_from, cut_1, cut_to1, st_lens, st_lenL, st_lenS, st_lenT, st_inti, st_intb, st_min2, st_max2, st_sumL, st_allL, st_anyL, st_tupL, st_tupT, st_joinL, st_rcvj, st_sh, st_idxr, st_lenr, st_tupr, st_appr, st_rcvr, st_joinr, st_setr, mulOk_fm, mulOk_r, mulOk_l, st_eq, st_ne, W.eq, W.eqs, W.pl, W.pls, W.dep, W.deps, d7, b7, e1, e2, h1, h2, hl, zb, zL0, zL1, encR]
end K64
end

section
set_option linter.all false
set_option maxRecDepth 100000
set_option maxHeartbeats 4000000
/-! k64: merge_texts tells what is due. -/
namespace K64
open T2
theorem apart_of {α : Type} (k : α → Nat) {l : List α} (h : l.Nodup) (hk : ∀ a ∈ l, ∀ b ∈ l, k a = k b → a = b) : apart k l := List.Pairwise.imp_of_mem (fun {a b} ha hb hne e => hne (hk a ha b hb e)) h
theorem ed_facts (a b : List Nat) (ha : a.length ≤ 100) (hb : b.length ≤ 100) : sep (edit a b) ∧ (∀ e ∈ edit a b, e.1 + e.2.1.length ≤ a.length) ∧ (∀ e ∈ edit a b, tiny e) ∧ (edit a b).length ≤ 200 ∧ app a 0 (edit a b) = b := by
  have g := fin_good a b
  have hz := g.lens ha hb
  have hf := eds_fits (fin a b).tl (fin a b).bl []
  simp only [List.nil_append, List.length_nil, g.oa] at hf
  refine ⟨asc_sep _ (eds_asc _ 0 g.fn.2), fun e he => ?_, fun e he => ?_, ?_, g.app ha hb⟩
  · obtain ⟨h1, h2⟩ := hf e he
    have := congrArg List.length h2
    rw [List.length_take, List.length_drop] at this
    omega
  · obtain ⟨x, hx, ex⟩ := eds_mem _ 0 e he
    have := hz.2 x hx
    exact ⟨by rw [ex]; exact this.1, by rw [ex]; exact this.2⟩
  · show (eds 0 _).length ≤ 200
    rw [eds_len]
    exact hz.1
theorem ed_two (a b c : List Nat) (ha : a.length ≤ 100) (hb : b.length ≤ 100) (hc : c.length ≤ 100) : Two a.length (edit a b) (edit a c) := by
  obtain ⟨h1, h2, _⟩ := ed_facts a b ha hb
  obtain ⟨k1, k2, _⟩ := ed_facts a c ha hc
  exact ⟨h1, k1, h2, k2⟩
/-! the groups are the classes -/
section
variable {L : Nat} {A C : List Ed} (two : Two L A C) {gs : List (List Vx)} (q : Qg (U A C) gs [])
include two q
theorem gs_nodup : (∀ g ∈ gs, g.Nodup) ∧ gs.Pairwise fun g h => ∀ x ∈ g, ∀ y ∈ h, x ≠ y := by
  have p := q.perm
  rw [List.append_nil] at p
  exact List.pairwise_flatten.mp (p.nodup_iff.mpr (U_nodup two))
theorem gs_sub {g : List Vx} (hg : g ∈ gs) {v : Vx} (hv : v ∈ g) : v ∈ U A C := by
  have p := q.perm
  rw [List.append_nil] at p
  exact p.mem_iff.mp (List.mem_flatten.mpr ⟨g, hg, hv⟩)
theorem gs_has {v : Vx} (hv : v ∈ U A C) : ∃ g ∈ gs, v ∈ g := by
  have p := q.perm
  rw [List.append_nil] at p
  exact List.mem_flatten.mp (p.mem_iff.mpr hv)
theorem gs_cls {g : List Vx} (hg : g ∈ gs) {u : Vx} (hu : u ∈ g) (v : Vx) : v ∈ g ↔ Con (U A C) u v := by
  obtain ⟨w, hw, h1, h2⟩ := q.gr g hg
  have hwU := gs_sub two q hg hw
  constructor
  · intro hv
    exact ((h1 u hu).symm hwU).trans (h1 v hv)
  · intro h
    induction h with
    | refl => exact hu
    | step _ hx ha ih => exact h2 _ ih _ hx ha
theorem gs_side {g : List Vx} (hg : g ∈ gs) : apart eK (gside 0 g) ∧ apart eK (gside 1 g) := by
  have nd := (gs_nodup two q).1 g hg
  have key : ∀ (s : Nat), (gside s g).Nodup := fun s => by
    unfold gside
    refine List.pairwise_map.mpr (List.Pairwise.imp_of_mem (fun {a b} ha hb hne e => ?_) (nd.filter _))
    have ha := of_decide_eq_true (List.mem_filter.mp ha).2
    have hb := of_decide_eq_true (List.mem_filter.mp hb).2
    exact hne (Prod.ext (ha.trans hb.symm) e)
  refine ⟨apart_of eK (key 0) fun a ha b hb e => ?_, apart_of eK (key 1) fun a ha b hb e => ?_⟩
  · have h1 := gs_sub two q hg (gside_mem.mp ha)
    have h2 := gs_sub two q hg (gside_mem.mp hb)
    rcases U_mem.mp h1 with ⟨_, h1⟩ | ⟨z, _⟩
    · rcases U_mem.mp h2 with ⟨_, h2⟩ | ⟨z, _⟩
      · exact apart_eq eK (up_apart eK (sep_up two.a)) (own_mem.mp h1).1 (own_mem.mp h2).1 e
      · cases z
    · cases z
  · have h1 := gs_sub two q hg (gside_mem.mp ha)
    have h2 := gs_sub two q hg (gside_mem.mp hb)
    rcases U_mem.mp h1 with ⟨z, _⟩ | ⟨_, h1⟩
    · cases z
    · rcases U_mem.mp h2 with ⟨z, _⟩ | ⟨_, h2⟩
      · cases z
      · exact apart_eq eK (up_apart eK (sep_up two.c)) (own_mem.mp h1).1 (own_mem.mp h2).1 e
theorem gs_row {g : List Vx} (hg : g ∈ gs) {u : Vx} (hu : u ∈ g) (base : List Nat) : rowG base g = rowAt base A C u := by
  obtain ⟨a0, a1⟩ := gs_side two q hg
  have m0 : ∀ x, x ∈ gside 0 g ↔ x ∈ side 0 (cls (U A C) u) (own A C) := fun x => by
    rw [gside_mem, gs_cls two q hg hu]
    unfold side
    rw [List.mem_filter, cls_iff]
    refine ⟨fun h => ⟨?_, h⟩, fun h => h.2⟩
    rcases U_mem.mp (h.mem (gs_sub two q hg hu)) with ⟨_, h⟩ | ⟨z, _⟩
    · exact h
    · cases z
  have m1 : ∀ x, x ∈ gside 1 g ↔ x ∈ side 1 (cls (U A C) u) (own C A) := fun x => by
    rw [gside_mem, gs_cls two q hg hu]
    unfold side
    rw [List.mem_filter, cls_iff]
    refine ⟨fun h => ⟨?_, h⟩, fun h => h.2⟩
    rcases U_mem.mp (h.mem (gs_sub two q hg hu)) with ⟨z, _⟩ | ⟨_, h⟩
    · cases z
    · exact h
  have e0 : srt eK (gside 0 g) = side 0 (cls (U A C) u) (own A C) := up_eq eK (srt_up eK a0) (up_filter eK (up_filter eK (sep_up two.a) _) _) fun x => by rw [srt_mem]; exact m0 x
  have e1 : srt eK (gside 1 g) = side 1 (cls (U A C) u) (own C A) := up_eq eK (srt_up eK a1) (up_filter eK (up_filter eK (sep_up two.c) _) _) fun x => by rw [srt_mem]; exact m1 x
  have hm : ∀ x, x ∈ g.map (·.2) ↔ x ∈ side 0 (cls (U A C) u) (own A C) ++ side 1 (cls (U A C) u) (own C A) := fun x => by
    rw [List.mem_append, ← m0, ← m1, gside_mem, gside_mem, List.mem_map]
    constructor
    · rintro ⟨⟨s, y⟩, hy, rfl⟩
      rcases U_mem.mp (gs_sub two q hg hy) with ⟨rfl, _⟩ | ⟨rfl, _⟩
      · exact .inl hy
      · exact .inr hy
    · rintro (h | h)
      · exact ⟨_, h, rfl⟩
      · exact ⟨_, h, rfl⟩
  unfold rowG rowAt rowOf
  rw [lo_set hm, hi_set hm, e0, e1]
theorem gs_rows (base : List Nat) : (∀ r, r ∈ (big gs).map (rowG base) ↔ isRow base A C r) ∧ apart rK ((big gs).map (rowG base)) := by
  obtain ⟨n1, n2⟩ := gs_nodup two q
  constructor
  · intro r
    rw [List.mem_map]
    constructor
    · rintro ⟨g, hg, rfl⟩
      obtain ⟨hg, hl⟩ := List.mem_filter.mp hg
      have hl := of_decide_eq_true hl
      obtain ⟨u, v, g', rfl⟩ : ∃ u v g', g = u :: v :: g' := by
        match g, hl with
        | u :: v :: g', _ => exact ⟨u, v, g', rfl⟩
        | [u], h => simp at h
        | [], h => simp at h
      have hu : u ∈ u :: v :: g' := List.mem_cons_self
      have hv : v ∈ u :: v :: g' := List.mem_cons_of_mem _ List.mem_cons_self
      have hne : v ≠ u := fun e => by
        have := (List.pairwise_cons.mp (n1 _ hg)).1 v List.mem_cons_self
        exact this e.symm
      have hc := (gs_cls two q hg hu v).mp hv
      obtain ⟨w, hw, cw, ha⟩ := hc.last hne (gs_sub two q hg hu)
      exact ⟨w, hw, v, gs_sub two q hg hv, ha, by rw [gs_row two q hg hu]; exact rowAt_eq (gs_sub two q hg hu) cw⟩
    · rintro ⟨u, hu, v, hv, ha, rfl⟩
      obtain ⟨g, hg, hug⟩ := gs_has two q hu
      have hvg : v ∈ g := (gs_cls two q hg hug v).mpr (.step .refl hv ha)
      refine ⟨g, List.mem_filter.mpr ⟨hg, decide_eq_true ?_⟩, gs_row two q hg hug base⟩
      have hne : u ≠ v := fun e => by
        subst e
        simp [adj] at ha
      match g, hug, hvg with
      | [x], h1, h2 => exact absurd ((List.mem_singleton.mp h1).trans (List.mem_singleton.mp h2).symm) hne
      | x :: y :: g', _, _ => simp
  · unfold apart
    refine List.pairwise_map.mpr (List.Pairwise.imp_of_mem (fun {a b} ha hb hd e => ?_) (n2.filter _))
    obtain ⟨ha, hla⟩ := List.mem_filter.mp ha
    obtain ⟨hb, hlb⟩ := List.mem_filter.mp hb
    have hla := of_decide_eq_true hla
    have hlb := of_decide_eq_true hlb
    obtain ⟨u, hu⟩ := List.exists_mem_of_length_pos (l := a) (by omega)
    obtain ⟨v, hv⟩ := List.exists_mem_of_length_pos (l := b) (by omega)
    have e : (rowG base a).1 = (rowG base b).1 := e
    rw [gs_row two q ha hu, gs_row two q hb hv] at e
    have := rowAt_con two (gs_sub two q ha hu) (gs_sub two q hb hv) e
    have hva := (gs_cls two q ha hu v).mpr this
    exact hd v hva v hv rfl
theorem gs_none (h : big gs = []) (base : List Nat) : ∀ u ∈ U A C, ∀ v ∈ U A C, adj u v = false := by
  intro u hu v hv
  cases ha : adj u v with
  | false => rfl
  | true =>
    have := ((gs_rows two q base).1 _).mpr ⟨u, hu, v, hv, ha, rfl⟩
    rw [h] at this
    simp at this
end
theorem chgL (n : Nat) (t : List Nat) (es : List Ed) (ht : t.length ≤ 100) (hz : es.length ≤ 400) (hs : ∀ e ∈ es, tiny e) (G : List O) : callW (cl (n + 1)) .iso 1 [.str t, .lst (es.map enc)] G = .ok (.str (app t 0 es)) G := by
  have nr : W.nrs [.str t, .lst (es.map enc)] = true := by simp [W.nrs, W.nr, enc_nr]
  obtain ⟨x', y', z', e⟩ := l3 n ⟨es.map enc, none⟩ (fun _ => rfl) (.lst (es.map enc)) t (by omega) es 0 [] none none none (by simp; omega) fun e he => (hs e he).shrt
  have hp := pcs_len t es 0
  have h1 : t.length ≤ 16777216 := by omega
  have h2 : (pcs t 0 es).length < 16777216 := by omega
  have hj : strs? ((pcs t 0 es).map W.str ++ [W.str (t.drop (endp 0 es))]) = some (pcs t 0 es ++ [t.drop (endp 0 es)]) := by
    have := strs_map (pcs t 0 es ++ [t.drop (endp 0 es)])
    simpa using this
  have ha := app_len t 100 es 0 fun e he => (hs e he).2
  have hm : es.length * (t.length + 100) ≤ 400 * 200 := Nat.mul_le_mul hz (by omega)
  have hs : ((pcs t 0 es).map List.length).sum + (t.length - endp 0 es) ≤ 16777216 := by
    have e1 := congrArg List.length (pcs_app t es 0)
    rw [List.length_append, List.length_drop] at e1
    rw [sum_len]
    omega
  delta a3 f3 at e
  simp [ev, evs, evT, evO, evC, evI, asgT, asgTs, evH, pickH, ex, exB, runD, look, seqOf, isKds, isKd, szOk, bnd_ok, bnd_exc, noX_ok, wipe, st_mkt, st_mkf, st_addi, st_adds, st_addt, st_auI, st_auS, st_sub, st_mul, st_fdiv, st_mod, st_pow, st_cat, st_repl, st_reps, st_lt, st_le, st_gt, st_ge, st_eqi, st_nei, st_eqs, st_nes, st_idxL, st_idxS, st_idxT, st_idxs, at_n, at_0, at_1, at_2, at_m1, st_slcL, st_slcT, st_slcs, cut_nn, cut_n, cut_from, cut_1, cut_to1, st_lens, st_lenL, st_lenS, st_lenT, st_inti, st_intb, st_min2, st_max2, st_sumL, st_allL, st_anyL, st_tupL, st_tupT, st_joinL, st_rcvj, st_sh, st_idxr, st_lenr, st_tupr, st_appr, st_rcvr, st_joinr, st_setr, mulOk_fm, mulOk_r, mulOk_l, st_eq, st_ne, W.eq, W.eqs, W.pl, W.pls, W.dep, W.deps] at e
  refine iso_pl nr (G1 := [.lst ((pcs t 0 es ++ [t.drop (endp 0 es)]).map .str)]) ?_ rfl
  rw [c1]
  simp [ev, evs, evT, evO, evC, evI, asgT, asgTs, evH, pickH, ex, exB, runD, look, seqOf, isKds, isKd, szOk, bnd_ok, bnd_exc, noX_ok, wipe, st_mkt, st_mkf, st_addi, st_adds, st_addt, st_auI, st_auS, st_sub, st_mul, st_fdiv, st_mod, st_pow, st_cat, st_repl, st_reps, st_lt, st_le, st_gt, st_ge, st_eqi, st_nei, st_eqs, st_nes, st_idxL, st_idxS, st_idxT, st_idxs, at_n, at_0, at_1, at_2, at_m1, st_slcL, st_slcT, st_slcs, cut_nn, cut_n, cut_from, cut_1, cut_to1, st_lens, st_lenL, st_lenS, st_lenT, st_inti, st_intb, st_min2, st_max2, st_sumL, st_allL, st_anyL, st_tupL, st_tupT, st_joinL, st_rcvj, st_sh, st_idxr, st_lenr, st_tupr, st_appr, st_rcvr, st_joinr, st_setr, mulOk_fm, mulOk_r, mulOk_l, st_eq, st_ne, W.eq, W.eqs, W.pl, W.pls, W.dep, W.deps, d1, b1, e, h1, h2, hj, hs, joinS_nil, pcs_app]
theorem t8m (n : Nat) (base one other : List Nat) (hb : base.length ≤ 100) (h1 : one.length ≤ 100) (h2 : other.length ≤ 100) (G : List O) : ∃ w, callW (cl (n + 4)) .iso 8 [.str base, .str one, .str other] G = .ok w G ∧ Due base (edit base one) (edit base other) w := by
  have two := ed_two base one other hb h1 h2
  obtain ⟨_, _, tA, lA, _⟩ := ed_facts base one hb h1
  obtain ⟨_, _, tC, lC, _⟩ := ed_facts base other hb h2
  have eA := t8' (n + 1) base one (by omega) (by omega) []
  have eC := t8' (n + 1) base other (by omega) (by omega) []
  generalize edit base one = A at *
  generalize edit base other = C at *
  obtain ⟨gs, e6, q⟩ := t6 (n + 1) A C (by omega) (by omega) (fun e he => (tA e he).shrt) (fun e he => (tC e he).shrt) []
  have i1 := i0 (n + 2) base (by omega) []
  have i2 := i0 (n + 2) one (by omega) []
  have i3 := i0 (n + 2) other (by omega) []
  have hcnt := q.cnt
  have hU := U_len A C
  have hbl : (big gs).length ≤ gs.length := List.length_filter_le _ _
  have m2 := own_len C A
  have zB : (big gs).length ≤ 16777216 := by omega
  cases hB : big gs with
  | nil =>
    have hn := gs_none two q hB base
    have ha := whole_apart two hn
    have hl : (A ++ own C A).length ≤ 400 := by rw [List.length_append]; omega
    have hso := st_srtE ha (by omega) []
    have hch := chgL (n + 2) base (srt eK (A ++ own C A)) hb (by rw [srt_len]; exact hl) (fun e he => by
      rcases List.mem_append.mp ((srt_mem eK).mp he) with h | h
      · exact tA e h
      · exact tC e (own_mem.mp h).1) []
    have e4 := lcL_ty (asg := fun x G => asgT (cl (n + 3)) gk (.nm 8) x [some (.str base), some (.str one), some (.str other), some (encE A), some (encE C), some (.lst []), none, none, none] G) (cd := fun sw1 G => evC (cl (n + 3)) gk (.yes (.cmp .notin (.v 8) (.v 3))) sw1 G) (e := fun sw1 G => ev (cl (n + 3)) gk e8_0 sw1 G)
      (s := ⟨C.map enc, none⟩) (G := []) rfl enc (fun e => !decide (e ∈ A)) (fun e => enc e) C [] (by simp; omega) fun x hx =>
        ⟨[some (.str base), some (.str one), some (.str other), some (encE A), some (encE C), some (.lst []), none, none, some (enc x)], by simp [ev, evs, evT, evO, evC, evI, asgT, asgTs, evH, pickH, ex, exB, runD, look, seqOf, isKds, isKd, szOk, bnd_ok, bnd_exc, noX_ok, wipe, st_mkt, st_mkf, st_addi, st_adds, st_addt, st_auI, st_auS, st_sub, st_mul, st_fdiv, st_mod, st_pow, st_cat, st_repl, st_reps, st_lt, st_le, st_gt, st_ge, st_eqi, st_nei, st_eqs, st_nes, st_idxL, st_idxS, st_idxT, st_idxs, at_n, at_0, at_1, at_2, at_m1, st_slcL, st_slcT, st_slcs, cut_nn, cut_n, cut_from, cut_1, cut_to1, st_lens, st_lenL, st_lenS, st_lenT, st_inti, st_intb, st_min2, st_max2, st_sumL, st_allL, st_anyL, st_tupL, st_tupT, st_joinL, st_rcvj, st_sh, st_idxr, st_lenr, st_tupr, st_appr, st_rcvr, st_joinr, st_setr, mulOk_fm, mulOk_r, mulOk_l, st_eq, st_ne, W.eq, W.eqs, W.pl, W.pls, W.dep, W.deps], by simp [ev, evs, evT, evO, evC, evI, asgT, asgTs, evH, pickH, ex, exB, runD, look, seqOf, isKds, isKd, szOk, bnd_ok, bnd_exc, noX_ok, wipe, st_mkt, st_mkf, st_addi, st_adds, st_addt, st_auI, st_auS, st_sub, st_mul, st_fdiv, st_mod, st_pow, st_cat, st_repl, st_reps, st_lt, st_le, st_gt, st_ge, st_eqi, st_nei, st_eqs, st_nes, st_idxL, st_idxS, st_idxT, st_idxs, at_n, at_0, at_1, at_2, at_m1, st_slcL, st_slcT, st_slcs, cut_nn, cut_n, cut_from, cut_1, cut_to1, st_lens, st_lenL, st_lenS, st_lenT, st_inti, st_intb, st_min2, st_max2, st_sumL, st_allL, st_anyL, st_tupL, st_tupT, st_joinL, st_rcvj, st_sh, st_idxr, st_lenr, st_tupr, st_appr, st_rcvr, st_joinr, st_setr, mulOk_fm, mulOk_r, mulOk_l, st_eq, st_ne, W.eq, W.eqs, W.pl, W.pls, W.dep, W.deps, encE, ni_enc], fun _ => by simp [ev, evs, evT, evO, evC, evI, asgT, asgTs, evH, pickH, ex, exB, runD, look, seqOf, isKds, isKd, szOk, bnd_ok, bnd_exc, noX_ok, wipe, st_mkt, st_mkf, st_addi, st_adds, st_addt, st_auI, st_auS, st_sub, st_mul, st_fdiv, st_mod, st_pow, st_cat, st_repl, st_reps, st_lt, st_le, st_gt, st_ge, st_eqi, st_nei, st_eqs, st_nes, st_idxL, st_idxS, st_idxT, st_idxs, at_n, at_0, at_1, at_2, at_m1, st_slcL, st_slcT, st_slcs, cut_nn, cut_n, cut_from, cut_1, cut_to1, st_lens, st_lenL, st_lenS, st_lenT, st_inti, st_intb, st_min2, st_max2, st_sumL, st_allL, st_anyL, st_tupL, st_tupT, st_joinL, st_rcvj, st_sh, st_idxr, st_lenr, st_tupr, st_appr, st_rcvr, st_joinr, st_setr, mulOk_fm, mulOk_r, mulOk_l, st_eq, st_ne, W.eq, W.eqs, W.pl, W.pls, W.dep, W.deps, e8_0]⟩
    have hp : C.filter (fun e => !decide (e ∈ A)) = own C A := List.filter_congr fun e _ => by simp
    rw [hp] at e4
    refine ⟨mW (app base 0 (whole A C)), ?_, .inr ⟨hn, rfl⟩⟩
    refine iso_pl rfl (G1 := []) ?_ (by simp [mW, W.pl, W.pls])
    have zA : A.length ≤ 16777216 := by omega
    have zO : (own C A).length ≤ 16777216 := by omega
    have zAO : A.length + (own C A).length ≤ 16777216 := by omega
    have zS : (srt eK (A ++ own C A)).length ≤ 16777216 := by rw [srt_len]; omega
    unfold whole
    rw [hB] at e6
    generalize own C A = X at *
    generalize srt eK (A ++ X) = S at *
    have hlist : bltW (.list false) [.tup (A.map enc)] [] = mkL false (A.map enc) [] := st_lisT
    rw [c8]
    simp [ev, evs, evT, evO, evC, evI, asgT, asgTs, evH, pickH, ex, exB, runD, look, seqOf, isKds, isKd, szOk, bnd_ok, bnd_exc, noX_ok, wipe, st_mkt, st_mkf, st_addi, st_adds, st_addt, st_auI, st_auS, st_sub, st_mul, st_fdiv, st_mod, st_pow, st_cat, st_repl, st_reps, st_lt, st_le, st_gt, st_ge, st_eqi, st_nei, st_eqs, st_nes, st_idxL, st_idxS, st_idxT, st_idxs, at_n, at_0, at_1, at_2, at_m1, st_slcL, st_slcT, st_slcs, cut_nn, cut_n, cut_from, cut_1, cut_to1, st_lens, st_lenL, st_lenS, st_lenT, st_inti, st_intb, st_min2, st_max2, st_sumL, st_allL, st_anyL, st_tupL, st_tupT, st_joinL, st_rcvj, st_sh, st_idxr, st_lenr, st_tupr, st_appr, st_rcvr, st_joinr, st_setr, mulOk_fm, mulOk_r, mulOk_l, st_eq, st_ne, W.eq, W.eqs, W.pl, W.pls, W.dep, W.deps, encE] at e4 e6 eA eC hso
    simp [ev, evs, evT, evO, evC, evI, asgT, asgTs, evH, pickH, ex, exB, runD, look, seqOf, isKds, isKd, szOk, bnd_ok, bnd_exc, noX_ok, wipe, st_mkt, st_mkf, st_addi, st_adds, st_addt, st_auI, st_auS, st_sub, st_mul, st_fdiv, st_mod, st_pow, st_cat, st_repl, st_reps, st_lt, st_le, st_gt, st_ge, st_eqi, st_nei, st_eqs, st_nes, st_idxL, st_idxS, st_idxT, st_idxs, at_n, at_0, at_1, at_2, at_m1, st_slcL, st_slcT, st_slcs, cut_nn, cut_n, cut_from, cut_1, cut_to1, st_lens, st_lenL, st_lenS, st_lenT, st_inti, st_intb, st_min2, st_max2, st_sumL, st_allL, st_anyL, st_tupL, st_tupT, st_joinL, st_rcvj, st_sh, st_idxr, st_lenr, st_tupr, st_appr, st_rcvr, st_joinr, st_setr, mulOk_fm, mulOk_r, mulOk_l, st_eq, st_ne, W.eq, W.eqs, W.pl, W.pls, W.dep, W.deps, d8, b8, i1, i2, i3, eA, eC, e6, e4, hso, hlist, hch, zA, zO, zAO, zS, mW, MERG]
  | cons g0 gr =>
    obtain ⟨hr1, hr2⟩ := gs_rows two q base
    have hne : big gs ≠ [] := by rw [hB]; simp
    clear hB
    have hsh := U_shrt (fun e he => (tA e he).shrt) (fun e he => (tC e he).shrt)
    have hty : ∀ v ∈ U A C, tiny v.2 := fun v hv => by
      obtain ⟨s, e⟩ := v
      rcases U_mem.mp hv with ⟨_, h⟩ | ⟨_, h⟩
      · exact tA e (own_mem.mp h).1
      · exact tC e (own_mem.mp h).1
    have e4 := lcL_ty (asg := fun x G => asgT (cl (n + 3)) gk (.nm 7) x [some (.str base), some (.str one), some (.str other), some (encE A), some (encE C), some (.lst ((big gs).map fun g => .lst (g.map encV))), none, none, none] G) (cd := fun sw1 G => evC (cl (n + 3)) gk .no sw1 G) (e := fun sw1 G => ev (cl (n + 3)) gk e8_1 sw1 G)
      (s := ⟨(big gs).map fun g => .lst (g.map encV), none⟩) (G := []) rfl (fun g => W.lst (g.map encV)) (fun g => true) (fun g => encR (rowG base g)) (big gs) [] (by simp; omega) fun x hx => by
        obtain ⟨hx, hl⟩ := List.mem_filter.mp hx
        have hl := of_decide_eq_true hl
        obtain ⟨a0, a1⟩ := gs_side two q hx
        have hxl : x.length ≤ 400 := by
          have p := q.perm.length_eq
          rw [List.append_nil] at p
          have : x.length ≤ gs.flatten.length := (List.sublist_flatten_of_mem hx).length_le
          omega
        have h7 := t7r (n + 1) base x (by rintro rfl; simp at hl) hb hxl (fun u hu => hty u (gs_sub two q hx hu)) a0 a1 []
        exact ⟨[some (.str base), some (.str one), some (.str other), some (encE A), some (encE C), some (.lst ((big gs).map fun g => .lst (g.map encV))), none, some (.lst (x.map encV)), none], by simp [ev, evs, evT, evO, evC, evI, asgT, asgTs, evH, pickH, ex, exB, runD, look, seqOf, isKds, isKd, szOk, bnd_ok, bnd_exc, noX_ok, wipe, st_mkt, st_mkf, st_addi, st_adds, st_addt, st_auI, st_auS, st_sub, st_mul, st_fdiv, st_mod, st_pow, st_cat, st_repl, st_reps, st_lt, st_le, st_gt, st_ge, st_eqi, st_nei, st_eqs, st_nes, st_idxL, st_idxS, st_idxT, st_idxs, at_n, at_0, at_1, at_2, at_m1, st_slcL, st_slcT, st_slcs, cut_nn, cut_n, cut_from, cut_1, cut_to1, st_lens, st_lenL, st_lenS, st_lenT, st_inti, st_intb, st_min2, st_max2, st_sumL, st_allL, st_anyL, st_tupL, st_tupT, st_joinL, st_rcvj, st_sh, st_idxr, st_lenr, st_tupr, st_appr, st_rcvr, st_joinr, st_setr, mulOk_fm, mulOk_r, mulOk_l, st_eq, st_ne, W.eq, W.eqs, W.pl, W.pls, W.dep, W.deps], by simp [ev, evs, evT, evO, evC, evI, asgT, asgTs, evH, pickH, ex, exB, runD, look, seqOf, isKds, isKd, szOk, bnd_ok, bnd_exc, noX_ok, wipe, st_mkt, st_mkf, st_addi, st_adds, st_addt, st_auI, st_auS, st_sub, st_mul, st_fdiv, st_mod, st_pow, st_cat, st_repl, st_reps, st_lt, st_le, st_gt, st_ge, st_eqi, st_nei, st_eqs, st_nes, st_idxL, st_idxS, st_idxT, st_idxs, at_n, at_0, at_1, at_2, at_m1, st_slcL, st_slcT, st_slcs, cut_nn, cut_n, cut_from, cut_1, cut_to1, st_lens, st_lenL, st_lenS, st_lenT, st_inti, st_intb, st_min2, st_max2, st_sumL, st_allL, st_anyL, st_tupL, st_tupT, st_joinL, st_rcvj, st_sh, st_idxr, st_lenr, st_tupr, st_appr, st_rcvr, st_joinr, st_setr, mulOk_fm, mulOk_r, mulOk_l, st_eq, st_ne, W.eq, W.eqs, W.pl, W.pls, W.dep, W.deps], fun _ => by simp [ev, evs, evT, evO, evC, evI, asgT, asgTs, evH, pickH, ex, exB, runD, look, seqOf, isKds, isKd, szOk, bnd_ok, bnd_exc, noX_ok, wipe, st_mkt, st_mkf, st_addi, st_adds, st_addt, st_auI, st_auS, st_sub, st_mul, st_fdiv, st_mod, st_pow, st_cat, st_repl, st_reps, st_lt, st_le, st_gt, st_ge, st_eqi, st_nei, st_eqs, st_nes, st_idxL, st_idxS, st_idxT, st_idxs, at_n, at_0, at_1, at_2, at_m1, st_slcL, st_slcT, st_slcs, cut_nn, cut_n, cut_from, cut_1, cut_to1, st_lens, st_lenL, st_lenS, st_lenT, st_inti, st_intb, st_min2, st_max2, st_sumL, st_allL, st_anyL, st_tupL, st_tupT, st_joinL, st_rcvj, st_sh, st_idxr, st_lenr, st_tupr, st_appr, st_rcvr, st_joinr, st_setr, mulOk_fm, mulOk_r, mulOk_l, st_eq, st_ne, W.eq, W.eqs, W.pl, W.pls, W.dep, W.deps, e8_1, h7]⟩
    rw [List.filter_eq_self.mpr (fun _ _ => rfl)] at e4
    have hrow : (big gs).map (fun g => encR (rowG base g)) = ((big gs).map (rowG base)).map encR := by rw [List.map_map]; rfl
    rw [hrow] at e4
    have hpos : 0 < (big gs).length := List.length_pos_iff.mpr hne
    have hso := st_srtR hr2 (by rw [List.length_map]; exact zB) []
    have hne' : srt rK ((big gs).map (rowG base)) ≠ [] := fun z => by
      have := srt_len rK ((big gs).map (rowG base))
      rw [z, List.length_map] at this
      have := List.length_pos_iff.mpr hne
      simp at *
      omega
    refine ⟨cW (srt rK ((big gs).map (rowG base))), ?_, .inl ⟨_, hne', srt_up rK hr2, fun r => by rw [srt_mem]; exact hr1 r, rfl⟩⟩
    refine iso_pl rfl (G1 := []) ?_ (by simp [cW, W.pl, W.pls, encR_pl])
    have zR : ((big gs).map (rowG base)).length ≤ 16777216 := by rw [List.length_map]; exact zB
    have zS : (srt rK ((big gs).map (rowG base))).length ≤ 16777216 := by rw [srt_len]; exact zR
    generalize (big gs).map (rowG base) = R at *
    generalize srt rK R = S at *
    have hlen : ((big gs).map fun g => W.lst (g.map encV)).length = (big gs).length := List.length_map _
    generalize (big gs).map (fun g => W.lst (g.map encV)) = X at *
    rw [← hlen] at hpos
    rw [c8]
    simp [ev, evs, evT, evO, evC, evI, asgT, asgTs, evH, pickH, ex, exB, runD, look, seqOf, isKds, isKd, szOk, bnd_ok, bnd_exc, noX_ok, wipe, st_mkt, st_mkf, st_addi, st_adds, st_addt, st_auI, st_auS, st_sub, st_mul, st_fdiv, st_mod, st_pow, st_cat, st_repl, st_reps, st_lt, st_le, st_gt, st_ge, st_eqi, st_nei, st_eqs, st_nes, st_idxL, st_idxS, st_idxT, st_idxs, at_n, at_0, at_1, at_2, at_m1, st_slcL, st_slcT, st_slcs, cut_nn, cut_n, cut_from, cut_1, cut_to1, st_lens, st_lenL, st_lenS, st_lenT, st_inti, st_intb, st_min2, st_max2, st_sumL, st_allL, st_anyL, st_tupL, st_tupT, st_joinL, st_rcvj, st_sh, st_idxr, st_lenr, st_tupr, st_appr, st_rcvr, st_joinr, st_setr, mulOk_fm, mulOk_r, mulOk_l, st_eq, st_ne, W.eq, W.eqs, W.pl, W.pls, W.dep, W.deps, encE] at e4 e6 eA eC hso
    simp [ev, evs, evT, evO, evC, evI, asgT, asgTs, evH, pickH, ex, exB, runD, look, seqOf, isKds, isKd, szOk, bnd_ok, bnd_exc, noX_ok, wipe, st_mkt, st_mkf, st_addi, st_adds, st_addt, st_auI, st_auS, st_sub, st_mul, st_fdiv, st_mod, st_pow, st_cat, st_repl, st_reps, st_lt, st_le, st_gt, st_ge, st_eqi, st_nei, st_eqs, st_nes, st_idxL, st_idxS, st_idxT, st_idxs, at_n, at_0, at_1, at_2, at_m1, st_slcL, st_slcT, st_slcs, cut_nn, cut_n, cut_from, cut_1, cut_to1, st_lens, st_lenL, st_lenS, st_lenT, st_inti, st_intb, st_min2, st_max2, st_sumL, st_allL, st_anyL, st_tupL, st_tupT, st_joinL, st_rcvj, st_sh, st_idxr, st_lenr, st_tupr, st_appr, st_rcvr, st_joinr, st_setr, mulOk_fm, mulOk_r, mulOk_l, st_eq, st_ne, W.eq, W.eqs, W.pl, W.pls, W.dep, W.deps, d8, b8, i1, i2, i3, eA, eC, e6, e4, hso, hpos, zR, zS, cW, CONF]
end K64
end

section
set_option linter.all false
set_option maxRecDepth 100000
set_option maxHeartbeats 4000000
/-! k64: the law's own done, touch, copy. -/
namespace K64
open T2
def stepD (t : List Nat) (e : Ed) : List Nat := t.take e.1 ++ e.2.2 ++ t.drop (e.1 + e.2.1.length)
theorem don_fold (base : List Nat) : ∀ S : List Ed, S.reverse.foldl stepD base = don base S := by
  intro S
  rw [List.foldl_reverse]
  induction S with
  | nil => rfl
  | cons e r ih => simp only [List.foldr_cons, don, ih]; rfl
theorem stepD_len (t : List Nat) (e : Ed) : (stepD t e).length ≤ t.length + e.2.2.length := by
  simp only [stepD, List.length_append, List.length_take, List.length_drop]
  omega
abbrev a14 (n : Nat) : W → Sl → List O → Res Sl := fun w sw G => asgT (cl n) gk (.tp (.cons (.nm 2) (.cons (.nm 3) (.cons (.nm 4) .nil)))) w sw G
abbrev f14 (n : Nat) : Sl → List O → Res Fl := fun sw G => exB (cl n) gk wf b14_0 sw G
theorem cut_add' (t : List Nat) (p k : Nat) : cutW t (some ((p : Int) + (k : Int))) none = t.drop (p + k) := by
  have := cut_from t (p + k)
  rwa [Int.natCast_add] at this
theorem l14 (n : Nat) (s : Seq) (hs : ∀ G, s.ok G = true) (E : Option W) (G : List O) : ∀ (l : List Ed) (t : List Nat) (x y z : Option W), t.length + 100 * l.length ≤ 100000 → (∀ e ∈ l, tiny e) →
    ∃ x' y' z', forL (a14 n) (f14 n) s (l.map enc) [some (.str t), E, x, y, z] G = .ok (.nx [some (.str (l.foldl stepD t)), E, x', y', z']) G
  | [], t, x, y, z, _, _ => ⟨x, y, z, forL_nil (hs _)⟩
  | e :: l, t, x, y, z, h, ht => by
    have he := ht e List.mem_cons_self
    have hl := stepD_len t e
    obtain ⟨x', y', z', ih⟩ := l14 n s hs E G l (stepD t e) (some (.int (e.1 : Nat))) (some (.str e.2.1)) (some (.str e.2.2)) (by have := he.2; simp only [List.length_cons] at h; omega) fun f hf => ht f (List.mem_cons_of_mem _ hf)
    refine ⟨x', y', z', ?_⟩
    have z1 : t.length ≤ 16777216 := by omega
    have z2 : e.2.1.length ≤ 16777216 := by have := he.1; omega
    have z3 : min e.1 t.length + e.2.2.length ≤ 16777216 := by have := he.2; simp only [List.length_cons] at h; omega
    have z4 : min e.1 t.length + (e.2.2.length + (t.length - (e.1 + e.2.1.length))) ≤ 16777216 := by have := he.2; simp only [List.length_cons] at h; omega
    have z5 : min e.1 t.length + e.2.2.length + (t.length - (e.1 + e.2.1.length)) ≤ 16777216 := by omega
    rw [List.map_cons, forL_ok (sw1 := [some (.str t), E, some (.int (e.1 : Nat)), some (.str e.2.1), some (.str e.2.2)]) (G1 := G) (sw2 := [some (.str (stepD t e)), E, some (.int (e.1 : Nat)), some (.str e.2.1), some (.str e.2.2)]) (G2 := G) (hs _) (by simp [ev, evs, evT, evO, evC, evI, asgT, asgTs, evH, pickH, ex, exB, runD, look, seqOf, isKds, isKd, szOk, bnd_ok, bnd_exc, noX_ok, wipe, st_mkt, st_mkf, st_addi, st_adds, st_addt, st_auI, st_auS, st_sub, st_mul, st_fdiv, st_mod, st_pow, st_cat, st_repl, st_reps, st_lt, st_le, st_gt, st_ge, st_eqi, st_nei, st_eqs, st_nes, st_idxL, st_idxS, st_idxT, st_idxs, at_n, at_0, at_1, at_2, at_m1, st_slcL, st_slcT, st_slcs, cut_nn, cut_n, cut_from, cut_1, cut_to1, st_lens, st_lenL, st_lenS, st_lenT, st_inti, st_intb, st_min2, st_max2, st_sumL, st_allL, st_anyL, st_tupL, st_tupT, st_joinL, st_rcvj, st_sh, st_idxr, st_lenr, st_tupr, st_appr, st_rcvr, st_joinr, st_setr, mulOk_fm, mulOk_r, mulOk_l, st_eq, st_ne, W.eq, W.eqs, W.pl, W.pls, W.dep, W.deps, a14, enc]) (by simp [ev, evs, evT, evO, evC, evI, asgT, asgTs, evH, pickH, ex, exB, runD, look, seqOf, isKds, isKd, szOk, bnd_ok, bnd_exc, noX_ok, wipe, st_mkt, st_mkf, st_addi, st_adds, st_addt, st_auI, st_auS, st_sub, st_mul, st_fdiv, st_mod, st_pow, st_cat, st_repl, st_reps, st_lt, st_le, st_gt, st_ge, st_eqi, st_nei, st_eqs, st_nes, st_idxL, st_idxS, st_idxT, st_idxs, at_n, at_0, at_1, at_2, at_m1, st_slcL, st_slcT, st_slcs, cut_nn, cut_n, cut_from, cut_1, cut_to1, st_lens, st_lenL, st_lenS, st_lenT, st_inti, st_intb, st_min2, st_max2, st_sumL, st_allL, st_anyL, st_tupL, st_tupT, st_joinL, st_rcvj, st_sh, st_idxr, st_lenr, st_tupr, st_appr, st_rcvr, st_joinr, st_setr, mulOk_fm, mulOk_r, mulOk_l, st_eq, st_ne, W.eq, W.eqs, W.pl, W.pls, W.dep, W.deps, f14, b14_0, z1, z2, z3, z4, z5, cut_add', stepD])]
    exact ih
theorem t14 (n : Nat) (base : List Nat) (es : List Ed) (hb : base.length ≤ 100) (hz : es.length ≤ 400) (ht : ∀ e ∈ es, tiny e) (ha : apart eK es) (G : List O) : callW (cl (n + 1)) .iso 14 [.str base, .lst (es.map enc)] G = .ok (.str (don base (srt eK es))) G := by
  have nr : W.nrs [.str base, .lst (es.map enc)] = true := by simp [W.nrs, W.nr, enc_nr]
  have hso := st_srtE ha (by omega) []
  have hl := srt_len eK es
  have hm : ∀ e ∈ srt eK es, tiny e := fun e he => ht e ((srt_mem eK).mp he)
  generalize srt eK es = S at *
  obtain ⟨x', y', z', e⟩ := l14 n ⟨(S.map enc).reverse, none⟩ (fun _ => rfl) (some (.lst (es.map enc))) [] S.reverse base none none none (by rw [List.length_reverse]; omega) fun e he => hm e (List.mem_reverse.mp he)
  rw [don_fold, List.map_reverse] at e
  have zS : S.length ≤ 16777216 := by omega
  refine iso_pl nr (G1 := []) ?_ rfl
  delta a14 f14 at e
  rw [c14]
  simp [ev, evs, evT, evO, evC, evI, asgT, asgTs, evH, pickH, ex, exB, runD, look, seqOf, isKds, isKd, szOk, bnd_ok, bnd_exc, noX_ok, wipe, st_mkt, st_mkf, st_addi, st_adds, st_addt, st_auI, st_auS, st_sub, st_mul, st_fdiv, st_mod, st_pow, st_cat, st_repl, st_reps, st_lt, st_le, st_gt, st_ge, st_eqi, st_nei, st_eqs, st_nes, st_idxL, st_idxS, st_idxT, st_idxs, at_n, at_0, at_1, at_2, at_m1, st_slcL, st_slcT, st_slcs, cut_nn, cut_n, cut_from, cut_1, cut_to1, st_lens, st_lenL, st_lenS, st_lenT, st_inti, st_intb, st_min2, st_max2, st_sumL, st_allL, st_anyL, st_tupL, st_tupT, st_joinL, st_rcvj, st_sh, st_idxr, st_lenr, st_tupr, st_appr, st_rcvr, st_joinr, st_setr, mulOk_fm, mulOk_r, mulOk_l, st_eq, st_ne, W.eq, W.eqs, W.pl, W.pls, W.dep, W.deps] at e hso
  simp [ev, evs, evT, evO, evC, evI, asgT, asgTs, evH, pickH, ex, exB, runD, look, seqOf, isKds, isKd, szOk, bnd_ok, bnd_exc, noX_ok, wipe, st_mkt, st_mkf, st_addi, st_adds, st_addt, st_auI, st_auS, st_sub, st_mul, st_fdiv, st_mod, st_pow, st_cat, st_repl, st_reps, st_lt, st_le, st_gt, st_ge, st_eqi, st_nei, st_eqs, st_nes, st_idxL, st_idxS, st_idxT, st_idxs, at_n, at_0, at_1, at_2, at_m1, st_slcL, st_slcT, st_slcs, cut_nn, cut_n, cut_from, cut_1, cut_to1, st_lens, st_lenL, st_lenS, st_lenT, st_inti, st_intb, st_min2, st_max2, st_sumL, st_allL, st_anyL, st_tupL, st_tupT, st_joinL, st_rcvj, st_sh, st_idxr, st_lenr, st_tupr, st_appr, st_rcvr, st_joinr, st_setr, mulOk_fm, mulOk_r, mulOk_l, st_eq, st_ne, W.eq, W.eqs, W.pl, W.pls, W.dep, W.deps, d14, b14, hso, getL, zS, e]
/-! touch -/
theorem eq_nil (l : List W) : W.eq (.lst l) (.lst []) = decide (l = []) := by
  cases l with
  | nil => rfl
  | cons x l => rfl
theorem t15 (n : Nat) (e f : Ed) (he : shrt e) (hf : shrt f) (hl : e.1 ≤ 1000) (hne : e ≠ f) (G : List O) : callW (cl (n + 1)) .iso 15 [enc e, enc f] G = .ok (.bl (tch e f)) G := by
  refine iso_pl (by simp [W.nrs, enc_nr1]) (G1 := []) ?_ rfl
  have z1 : e.2.1.length ≤ 16777216 := by have := he.1; omega
  have z2 : f.2.1.length ≤ 16777216 := by have := hf.1; omega
  have hr : rngL (e.1 : Int) ((e.1 : Int) + (e.2.1.length : Int) + 1) = (List.range (e.2.1.length + 1)).map fun i : Nat => W.int (((e.1 + i : Nat) : Int)) := by
    unfold rngL
    have : ((e.1 : Int) + (e.2.1.length : Int) + 1 - e.1).toNat = e.2.1.length + 1 := by omega
    rw [this]
    apply List.map_congr_left
    intro i _
    congr 1
  have hlen : e.2.1.length ≤ 1000 := he.1
  have e1 := lcL_ty (asg := fun x G => asgT (cl n) gk (.nm 2) x [some (enc e), some (enc f), none] G) (cd := fun sw1 G => evC (cl n) gk (.yes (.and (.cmp .le (.idx (.v 1) (.k (.int 0))) (.v 2)) (.cmp .le (.v 2) (.bin .add (.idx (.v 1) (.k (.int 0))) (.blt .len (.cons (.idx (.v 1) (.k (.int 1))) .nil)))))) sw1 G) (e := fun sw1 G => ev (cl n) gk e15_0 sw1 G)
    (s := ⟨rngL (e.1 : Int) ((e.1 : Int) + (e.2.1.length : Int) + 1), none⟩) (G := []) rfl (fun i : Nat => W.int (((e.1 + i : Nat) : Int))) (fun i => decide (f.1 ≤ e.1 + i) && decide (e.1 + i ≤ f.1 + f.2.1.length)) (fun i : Nat => W.int (((e.1 + i : Nat) : Int))) (List.range (e.2.1.length + 1)) [] (by simp; omega) fun i hi => by
      refine ⟨[some (enc e), some (enc f), some (.int ((e.1 + i : Nat) : Int))], by simp [ev, evs, evT, evO, evC, evI, asgT, asgTs, evH, pickH, ex, exB, runD, look, seqOf, isKds, isKd, szOk, bnd_ok, bnd_exc, noX_ok, wipe, st_mkt, st_mkf, st_addi, st_adds, st_addt, st_auI, st_auS, st_sub, st_mul, st_fdiv, st_mod, st_pow, st_cat, st_repl, st_reps, st_lt, st_le, st_gt, st_ge, st_eqi, st_nei, st_eqs, st_nes, st_idxL, st_idxS, st_idxT, st_idxs, at_n, at_0, at_1, at_2, at_m1, st_slcL, st_slcT, st_slcs, cut_nn, cut_n, cut_from, cut_1, cut_to1, st_lens, st_lenL, st_lenS, st_lenT, st_inti, st_intb, st_min2, st_max2, st_sumL, st_allL, st_anyL, st_tupL, st_tupT, st_joinL, st_rcvj, st_sh, st_idxr, st_lenr, st_tupr, st_appr, st_rcvr, st_joinr, st_setr, mulOk_fm, mulOk_r, mulOk_l, st_eq, st_ne, W.eq, W.eqs, W.pl, W.pls, W.dep, W.deps], ?_, fun _ => by simp [ev, evs, evT, evO, evC, evI, asgT, asgTs, evH, pickH, ex, exB, runD, look, seqOf, isKds, isKd, szOk, bnd_ok, bnd_exc, noX_ok, wipe, st_mkt, st_mkf, st_addi, st_adds, st_addt, st_auI, st_auS, st_sub, st_mul, st_fdiv, st_mod, st_pow, st_cat, st_repl, st_reps, st_lt, st_le, st_gt, st_ge, st_eqi, st_nei, st_eqs, st_nes, st_idxL, st_idxS, st_idxT, st_idxs, at_n, at_0, at_1, at_2, at_m1, st_slcL, st_slcT, st_slcs, cut_nn, cut_n, cut_from, cut_1, cut_to1, st_lens, st_lenL, st_lenS, st_lenT, st_inti, st_intb, st_min2, st_max2, st_sumL, st_allL, st_anyL, st_tupL, st_tupT, st_joinL, st_rcvj, st_sh, st_idxr, st_lenr, st_tupr, st_appr, st_rcvr, st_joinr, st_setr, mulOk_fm, mulOk_r, mulOk_l, st_eq, st_ne, W.eq, W.eqs, W.pl, W.pls, W.dep, W.deps, e15_0]⟩
      by_cases h1 : f.1 ≤ e.1 + i
      · have h1' : (f.1 : Int) ≤ e.1 + i := by omega
        by_cases h2 : e.1 + i ≤ f.1 + f.2.1.length
        · have h2' : (e.1 : Int) + i ≤ f.1 + f.2.1.length := by omega
          simp [ev, evs, evT, evO, evC, evI, asgT, asgTs, evH, pickH, ex, exB, runD, look, seqOf, isKds, isKd, szOk, bnd_ok, bnd_exc, noX_ok, wipe, st_mkt, st_mkf, st_addi, st_adds, st_addt, st_auI, st_auS, st_sub, st_mul, st_fdiv, st_mod, st_pow, st_cat, st_repl, st_reps, st_lt, st_le, st_gt, st_ge, st_eqi, st_nei, st_eqs, st_nes, st_idxL, st_idxS, st_idxT, st_idxs, at_n, at_0, at_1, at_2, at_m1, st_slcL, st_slcT, st_slcs, cut_nn, cut_n, cut_from, cut_1, cut_to1, st_lens, st_lenL, st_lenS, st_lenT, st_inti, st_intb, st_min2, st_max2, st_sumL, st_allL, st_anyL, st_tupL, st_tupT, st_joinL, st_rcvj, st_sh, st_idxr, st_lenr, st_tupr, st_appr, st_rcvr, st_joinr, st_setr, mulOk_fm, mulOk_r, mulOk_l, st_eq, st_ne, W.eq, W.eqs, W.pl, W.pls, W.dep, W.deps, enc, z2, h1, h1', h2, h2']
        · have h2' : ¬ (e.1 : Int) + i ≤ f.1 + f.2.1.length := by omega
          simp [ev, evs, evT, evO, evC, evI, asgT, asgTs, evH, pickH, ex, exB, runD, look, seqOf, isKds, isKd, szOk, bnd_ok, bnd_exc, noX_ok, wipe, st_mkt, st_mkf, st_addi, st_adds, st_addt, st_auI, st_auS, st_sub, st_mul, st_fdiv, st_mod, st_pow, st_cat, st_repl, st_reps, st_lt, st_le, st_gt, st_ge, st_eqi, st_nei, st_eqs, st_nes, st_idxL, st_idxS, st_idxT, st_idxs, at_n, at_0, at_1, at_2, at_m1, st_slcL, st_slcT, st_slcs, cut_nn, cut_n, cut_from, cut_1, cut_to1, st_lens, st_lenL, st_lenS, st_lenT, st_inti, st_intb, st_min2, st_max2, st_sumL, st_allL, st_anyL, st_tupL, st_tupT, st_joinL, st_rcvj, st_sh, st_idxr, st_lenr, st_tupr, st_appr, st_rcvr, st_joinr, st_setr, mulOk_fm, mulOk_r, mulOk_l, st_eq, st_ne, W.eq, W.eqs, W.pl, W.pls, W.dep, W.deps, enc, z2, h1, h1', h2, h2']
      · have h1' : ¬ (f.1 : Int) ≤ e.1 + i := by omega
        simp [ev, evs, evT, evO, evC, evI, asgT, asgTs, evH, pickH, ex, exB, runD, look, seqOf, isKds, isKd, szOk, bnd_ok, bnd_exc, noX_ok, wipe, st_mkt, st_mkf, st_addi, st_adds, st_addt, st_auI, st_auS, st_sub, st_mul, st_fdiv, st_mod, st_pow, st_cat, st_repl, st_reps, st_lt, st_le, st_gt, st_ge, st_eqi, st_nei, st_eqs, st_nes, st_idxL, st_idxS, st_idxT, st_idxs, at_n, at_0, at_1, at_2, at_m1, st_slcL, st_slcT, st_slcs, cut_nn, cut_n, cut_from, cut_1, cut_to1, st_lens, st_lenL, st_lenS, st_lenT, st_inti, st_intb, st_min2, st_max2, st_sumL, st_allL, st_anyL, st_tupL, st_tupT, st_joinL, st_rcvj, st_sh, st_idxr, st_lenr, st_tupr, st_appr, st_rcvr, st_joinr, st_setr, mulOk_fm, mulOk_r, mulOk_l, st_eq, st_ne, W.eq, W.eqs, W.pl, W.pls, W.dep, W.deps, enc, z2, h1, h1']
  rw [← hr] at e1
  generalize hF : (List.range (e.2.1.length + 1)).filter (fun i => decide (f.1 ≤ e.1 + i) && decide (e.1 + i ≤ f.1 + f.2.1.length)) = F at *
  have hFl : F.length ≤ e.2.1.length + 1 := by
    rw [← hF]
    exact Nat.le_trans (List.length_filter_le _ _) (by simp)
  have hT : tch e f = !decide (F = []) := by
    rw [Bool.eq_iff_iff]
    simp only [tch, Bool.and_eq_true, decide_eq_true_eq, Bool.not_eq_true', decide_eq_false_iff_not]
    constructor
    · rintro ⟨h1, h2⟩ z
      have : (max e.1 f.1 - e.1) ∈ F := by
        rw [← hF, List.mem_filter, List.mem_range, Bool.and_eq_true, decide_eq_true_eq, decide_eq_true_eq]
        omega
      rw [z] at this
      simp at this
    · intro z
      obtain ⟨i, hi⟩ := List.exists_mem_of_ne_nil F z
      rw [← hF, List.mem_filter, List.mem_range, Bool.and_eq_true, decide_eq_true_eq, decide_eq_true_eq] at hi
      omega
  have pl : W.pls (F.map fun i : Nat => W.int (((e.1 + i : Nat) : Int))) = true := by
    rw [W.pls_all]
    simp [List.all_map, Function.comp_def, W.pl]
  have hcmp : cmpW .ne (.lst (F.map fun i : Nat => W.int (((e.1 + i : Nat) : Int)))) (.lst []) [] = .ok (.bl (tch e f)) [] := by
    rw [st_ne (by simpa [W.pl] using pl) rfl (by simp [W.dep, W.deps]), eq_nil, hT]
    simp
  have hcne : cmpW .ne (enc e) (enc f) [] = .ok (.bl true) [] := by
    rw [st_ne (enc_pl1 e) (enc_pl1 f) (by rw [enc_dep1, enc_dep1]; omega), eq_enc, decide_eq_false hne]
    rfl
  have zF : (F.map fun i : Nat => W.int (((e.1 + i : Nat) : Int))).length ≤ 16777216 := by rw [List.length_map]; omega
  generalize F.map (fun i : Nat => W.int (((e.1 + i : Nat) : Int))) = FW at *
  have s1 : small (e.1 : Int) = true := small_nat _ (by omega)
  have s2 : small ((e.1 : Int) + (e.2.1.length : Int) + 1) = true := by
    have := small_nat (e.1 + e.2.1.length + 1) (by omega)
    simpa using this
  rw [c15]
  simp [ev, evs, evT, evO, evC, evI, asgT, asgTs, evH, pickH, ex, exB, runD, look, seqOf, isKds, isKd, szOk, bnd_ok, bnd_exc, noX_ok, wipe, st_mkt, st_mkf, st_addi, st_adds, st_addt, st_auI, st_auS, st_sub, st_mul, st_fdiv, st_mod, st_pow, st_cat, st_repl, st_reps, st_lt, st_le, st_gt, st_ge, st_eqi, st_nei, st_eqs, st_nes, st_idxL, st_idxS, st_idxT, st_idxs, at_n, at_0, at_1, at_2, at_m1, st_slcL, st_slcT, st_slcs, cut_nn, cut_n, cut_from, cut_1, cut_to1, st_lens, st_lenL, st_lenS, st_lenT, st_inti, st_intb, st_min2, st_max2, st_sumL, st_allL, st_anyL, st_tupL, st_tupT, st_joinL, st_rcvj, st_sh, st_idxr, st_lenr, st_tupr, st_appr, st_rcvr, st_joinr, st_setr, mulOk_fm, mulOk_r, mulOk_l, st_eq, st_ne, W.eq, W.eqs, W.pl, W.pls, W.dep, W.deps, enc] at e1 hcmp hcne
  simp [ev, evs, evT, evO, evC, evI, asgT, asgTs, evH, pickH, ex, exB, runD, look, seqOf, isKds, isKd, szOk, bnd_ok, bnd_exc, noX_ok, wipe, st_mkt, st_mkf, st_addi, st_adds, st_addt, st_auI, st_auS, st_sub, st_mul, st_fdiv, st_mod, st_pow, st_cat, st_repl, st_reps, st_lt, st_le, st_gt, st_ge, st_eqi, st_nei, st_eqs, st_nes, st_idxL, st_idxS, st_idxT, st_idxs, at_n, at_0, at_1, at_2, at_m1, st_slcL, st_slcT, st_slcs, cut_nn, cut_n, cut_from, cut_1, cut_to1, st_lens, st_lenL, st_lenS, st_lenT, st_inti, st_intb, st_min2, st_max2, st_sumL, st_allL, st_anyL, st_tupL, st_tupT, st_joinL, st_rcvj, st_sh, st_idxr, st_lenr, st_tupr, st_appr, st_rcvr, st_joinr, st_setr, mulOk_fm, mulOk_r, mulOk_l, st_eq, st_ne, W.eq, W.eqs, W.pl, W.pls, W.dep, W.deps, d15, b15, enc, e1, hcmp, hcne, s1, s2, z1, zF]
/-! copy -/
abbrev a13 (n : Nat) : W → Sl → List O → Res Sl := fun w sw G => asgT (cl n) gk (.nm 2) w sw G
abbrev f13 (n : Nat) : Sl → List O → Res Fl := fun sw G => exB (cl n) gk wf b13_0 sw G
theorem s13 (n : Nat) (G : List O) (i : Nat) (b : List Nat) (x y : Option W) (h : isBag G i) (hb : b.length ≤ 100) : ∃ w y' G', f13 (n + 3) [some (.ref i), some (.str b), x, y] G = .ok (.nx [some (.ref i), some (.str w), x, y']) G' ∧ w.length ≤ b.length + 2 ∧ isBag G' i := by
  obtain ⟨p, G4, e4, p0, p1, h4⟩ := draw (n + 2) G i (b.length + 1) h (by omega) (by omega)
  obtain ⟨w, G5, e5, l5, c5', h5⟩ := word n G4 i 3 h4 (by decide) (by decide)
  obtain ⟨q, G6, e6, q0, q1, h6⟩ := draw (n + 2) G5 i 3 h5 (by decide) (by decide)
  obtain ⟨p, rfl⟩ := Int.eq_ofNat_of_zero_le p0
  obtain ⟨q, rfl⟩ := Int.eq_ofNat_of_zero_le q0
  have hc := cut_add' b p q
  have hsz : b.length ≤ 16777216 := by omega
  have s1 : min p b.length + w.length ≤ 16777216 := by omega
  have s2 : min p b.length + (w.length + (b.length - (p + q))) ≤ 16777216 := by omega
  have s3 : min p b.length + w.length + (b.length - (p + q)) ≤ 16777216 := by omega
  refine ⟨b.take p ++ w ++ b.drop (p + q), some (.int (p : Nat)), G6, ?_, by simp only [List.length_append, List.length_take, List.length_drop]; omega, h6⟩
  simp [ev, evs, evT, evO, evC, evI, asgT, asgTs, evH, pickH, ex, exB, runD, look, seqOf, isKds, isKd, szOk, bnd_ok, bnd_exc, noX_ok, wipe, st_mkt, st_mkf, st_addi, st_adds, st_addt, st_auI, st_auS, st_sub, st_mul, st_fdiv, st_mod, st_pow, st_cat, st_repl, st_reps, st_lt, st_le, st_gt, st_ge, st_eqi, st_nei, st_eqs, st_nes, st_idxL, st_idxS, st_idxT, st_idxs, at_n, at_0, at_1, at_2, at_m1, st_slcL, st_slcT, st_slcs, cut_nn, cut_n, cut_from, cut_1, cut_to1, st_lens, st_lenL, st_lenS, st_lenT, st_inti, st_intb, st_min2, st_max2, st_sumL, st_allL, st_anyL, st_tupL, st_tupT, st_joinL, st_rcvj, st_sh, st_idxr, st_lenr, st_tupr, st_appr, st_rcvr, st_joinr, st_setr, mulOk_fm, mulOk_r, mulOk_l, st_eq, st_ne, W.eq, W.eqs, W.pl, W.pls, W.dep, W.deps, f13, b13_0, e4, e5, e6, hc, hsz, s1, s2, s3]
theorem copy (n : Nat) (G : List O) (i : Nat) (b : List Nat) (h : isBag G i) (hb : b.length ≤ 50) : ∃ w G', cl (n + 4) 13 [.ref i, .str b] G = .ok (.str w) G' ∧ w.length ≤ b.length + 4 ∧ isBag G' i := by
  obtain ⟨r, G1, e1, r0, r1, h1⟩ := draw (n + 2) G i 3 h (by decide) (by decide)
  obtain ⟨sw', G', e, hst⟩ := forL_at (asg := a13 (n + 3)) (body := f13 (n + 3)) (s := ⟨rngL 0 r, none⟩) (rngL 0 r)
    (fun k sw G => (∃ w x y, sw = [some (.ref i), some (.str w), x, y] ∧ w.length ≤ b.length + 2 * k) ∧ isBag G i) [some (.ref i), some (.str b), none, none] G1 ⟨⟨b, none, none, rfl, by omega⟩, h1⟩ (fun _ _ _ _ _ => rfl) (fun k x sw G hx ⟨⟨w, x', y', hsw, hw⟩, hbag⟩ => by
      subst hsw
      have hk : k < r.toNat := by
        have := (List.getElem?_eq_some_iff.mp hx).1
        simpa [rngL] using this
      obtain ⟨w2, y2, G2, e2, l2, h2⟩ := s13 n G i w (some x) y' hbag (by omega)
      exact ⟨[some (.ref i), some (.str w), some x, y'], G, _, G2, by simp [ev, evs, evT, evO, evC, evI, asgT, asgTs, evH, pickH, ex, exB, runD, look, seqOf, isKds, isKd, szOk, bnd_ok, bnd_exc, noX_ok, wipe, st_mkt, st_mkf, st_addi, st_adds, st_addt, st_auI, st_auS, st_sub, st_mul, st_fdiv, st_mod, st_pow, st_cat, st_repl, st_reps, st_lt, st_le, st_gt, st_ge, st_eqi, st_nei, st_eqs, st_nes, st_idxL, st_idxS, st_idxT, st_idxs, at_n, at_0, at_1, at_2, at_m1, st_slcL, st_slcT, st_slcs, cut_nn, cut_n, cut_from, cut_1, cut_to1, st_lens, st_lenL, st_lenS, st_lenT, st_inti, st_intb, st_min2, st_max2, st_sumL, st_allL, st_anyL, st_tupL, st_tupT, st_joinL, st_rcvj, st_sh, st_idxr, st_lenr, st_tupr, st_appr, st_rcvr, st_joinr, st_setr, mulOk_fm, mulOk_r, mulOk_l, st_eq, st_ne, W.eq, W.eqs, W.pl, W.pls, W.dep, W.deps, a13], .inl e2, ⟨w2, _, _, rfl, by omega⟩, h2⟩)
  obtain ⟨⟨w, x', y', rfl, hw⟩, hbag⟩ := hst
  have hlr : (rngL 0 r).length ≤ 2 := by simp [rngL]; omega
  refine ⟨w, G', ?_, by omega, hbag⟩
  have hsm : small r = true := by
    have : r.natAbs < 4611686018427387904 := by omega
    simp only [small, decide_eq_true this]
  delta a13 f13 at e
  rw [c13]
  simp [ev, evs, evT, evO, evC, evI, asgT, asgTs, evH, pickH, ex, exB, runD, look, seqOf, isKds, isKd, szOk, bnd_ok, bnd_exc, noX_ok, wipe, st_mkt, st_mkf, st_addi, st_adds, st_addt, st_auI, st_auS, st_sub, st_mul, st_fdiv, st_mod, st_pow, st_cat, st_repl, st_reps, st_lt, st_le, st_gt, st_ge, st_eqi, st_nei, st_eqs, st_nes, st_idxL, st_idxS, st_idxT, st_idxs, at_n, at_0, at_1, at_2, at_m1, st_slcL, st_slcT, st_slcs, cut_nn, cut_n, cut_from, cut_1, cut_to1, st_lens, st_lenL, st_lenS, st_lenT, st_inti, st_intb, st_min2, st_max2, st_sumL, st_allL, st_anyL, st_tupL, st_tupT, st_joinL, st_rcvj, st_sh, st_idxr, st_lenr, st_tupr, st_appr, st_rcvr, st_joinr, st_setr, mulOk_fm, mulOk_r, mulOk_l, st_eq, st_ne, W.eq, W.eqs, W.pl, W.pls, W.dep, W.deps] at e
  simp [ev, evs, evT, evO, evC, evI, asgT, asgTs, evH, pickH, ex, exB, runD, look, seqOf, isKds, isKd, szOk, bnd_ok, bnd_exc, noX_ok, wipe, st_mkt, st_mkf, st_addi, st_adds, st_addt, st_auI, st_auS, st_sub, st_mul, st_fdiv, st_mod, st_pow, st_cat, st_repl, st_reps, st_lt, st_le, st_gt, st_ge, st_eqi, st_nei, st_eqs, st_nes, st_idxL, st_idxS, st_idxT, st_idxs, at_n, at_0, at_1, at_2, at_m1, st_slcL, st_slcT, st_slcs, cut_nn, cut_n, cut_from, cut_1, cut_to1, st_lens, st_lenL, st_lenS, st_lenT, st_inti, st_intb, st_min2, st_max2, st_sumL, st_allL, st_anyL, st_tupL, st_tupT, st_joinL, st_rcvj, st_sh, st_idxr, st_lenr, st_tupr, st_appr, st_rcvr, st_joinr, st_setr, mulOk_fm, mulOk_r, mulOk_l, st_eq, st_ne, W.eq, W.eqs, W.pl, W.pls, W.dep, W.deps, d13, b13, e1, hsm, e]
end K64
end

section
set_option linter.all false
set_option maxRecDepth 100000
set_option maxHeartbeats 4000000
/-! k64: the law's own groups: numbers that become alike. -/
namespace K64
open T2
def mrg (low high : Nat) (marks : List Nat) : List Nat := marks.map fun m => if m = high then low else m
theorem mrg_len (low high : Nat) (marks : List Nat) : (mrg low high marks).length = marks.length := List.length_map _
theorem mrg_sum : ∀ (marks : List Nat) (low high : Nat), low < high → (mrg low high marks).sum ≤ marks.sum ∧ (high ∈ marks → (mrg low high marks).sum < marks.sum)
  | [], _, _, _ => ⟨Nat.le_refl _, fun h => by simp at h⟩
  | m :: ms, low, high, h => by
    obtain ⟨h1, h2⟩ := mrg_sum ms low high h
    simp only [mrg, List.map_cons, List.sum_cons] at h1 h2 ⊢
    refine ⟨by split <;> omega, fun hm => ?_⟩
    rcases List.mem_cons.mp hm with rfl | hm
    · rw [if_pos rfl]; omega
    · have := h2 hm
      split <;> omega
theorem mrg_at (low high : Nat) (marks : List Nat) (a : Nat) (ha : a < marks.length) : (mrg low high marks)[a]? = some (if marks[a] = high then low else marks[a]) := by
  simp [mrg, ha]
/-- alike marks hang together -/
def InvM (UU : List Vx) (marks : List Nat) : Prop := marks.length = UU.length ∧ ∀ (a b : Nat) (u v : Vx) (m : Nat), UU[a]? = some u → UU[b]? = some v → marks[a]? = some m → marks[b]? = some m → Con UU u v
theorem InvM.mrg {UU : List Vx} {marks : List Nat} (h : InvM UU marks) {i k : Nat} {u v : Vx} {mi mk : Nat} (hi : UU[i]? = some u) (hk : UU[k]? = some v) (ei : marks[i]? = some mi) (ek : marks[k]? = some mk) (ha : adj u v = true) : InvM UU (mrg (min mi mk) (max mi mk) marks) := by
  refine ⟨by rw [mrg_len]; exact h.1, fun a b x y m hx hy ex ey => ?_⟩
  have hal : a < marks.length := by have := (List.getElem?_eq_some_iff.mp hx).1; rw [h.1]; exact this
  have hbl : b < marks.length := by have := (List.getElem?_eq_some_iff.mp hy).1; rw [h.1]; exact this
  rw [mrg_at _ _ _ a hal] at ex
  rw [mrg_at _ _ _ b hbl] at ey
  have ea : marks[a]? = some marks[a] := List.getElem?_eq_getElem hal
  have eb : marks[b]? = some marks[b] := List.getElem?_eq_getElem hbl
  generalize marks[a] = ma at *
  generalize marks[b] = mb at *
  have hum := List.mem_of_getElem? hi
  have hvm := List.mem_of_getElem? hk
  have uv : Con UU u v := .step .refl hvm ha
  have vu : Con UU v u := .step .refl hum (by rw [adj_sym]; exact ha)
  have hxm := List.mem_of_getElem? hx
  have hym := List.mem_of_getElem? hy
  have key : ∀ {c : Nat} {z : Vx} {mc : Nat}, UU[c]? = some z → marks[c]? = some mc → (mc = mi ∨ mc = mk) → Con UU z u := fun {c z mc} hz ec hm => by
    rcases hm with rfl | rfl
    · exact h.2 c i z u _ hz hi ec ei
    · exact (h.2 c k z v _ hz hk ec ek).trans vu
  have ex := Option.some.inj ex
  have ey := Option.some.inj ey
  by_cases h1 : ma = max mi mk
  · rw [if_pos h1] at ex
    by_cases h2 : mb = max mi mk
    · exact h.2 a b x y ma hx hy ea (by rw [eb, h1, h2])
    · rw [if_neg h2] at ey
      exact (key hx ea (by omega)).trans ((key hy eb (by omega)).symm hym)
  · rw [if_neg h1] at ex
    by_cases h2 : mb = max mi mk
    · rw [if_pos h2] at ey
      exact (key hx ea (by omega)).trans ((key hy eb (by omega)).symm hym)
    · rw [if_neg h2] at ey
      exact h.2 a b x y ma hx hy ea (by rw [eb, ← ey.trans ex.symm] )
/-- nothing is left to make alike -/
def Cls (UU : List Vx) (marks : List Nat) : Prop := ∀ (a b : Nat) (u v : Vx), UU[a]? = some u → UU[b]? = some v → adj u v = true → marks[a]? = marks[b]?
theorem Cls.con {UU : List Vx} {marks : List Nat} (nd : UU.Nodup) (h : Cls UU marks) {a : Nat} {u v : Vx} (ha : UU[a]? = some u) (c : Con UU u v) : ∀ b : Nat, UU[b]? = some v → marks[a]? = marks[b]? := by
  induction c with
  | refl =>
    intro b hb
    obtain ⟨h1, e1⟩ := List.getElem?_eq_some_iff.mp ha
    obtain ⟨h2, e2⟩ := List.getElem?_eq_some_iff.mp hb
    have : a = b := (List.getElem_inj nd).mp (e1.trans e2.symm)
    rw [this]
  | @step v w g hw hadj ih =>
    intro b hb
    obtain ⟨c, hc, ec⟩ := List.mem_iff_getElem.mp (g.mem (List.mem_of_getElem? ha))
    have ec : UU[c]? = some v := by rw [List.getElem?_eq_getElem hc, ec]
    exact (ih c ec).trans (h c b v w ec hb hadj)
end K64
end

section
set_option linter.all false
set_option maxRecDepth 100000
set_option maxHeartbeats 4000000
/-! k64: the law's own groups, the loops. -/
namespace K64
open T2
def nmk (marks : List Nat) : List W := marks.map fun m => .int (m : Nat)
def sl16 (b o1 o2 : List Nat) (A C X Y : List Ed) (marks : List Nat) (fl : Bool) (s9 s10 s11 s12 s13 : Option W) : Sl :=
  [some (.str b), some (.str o1), some (.str o2), some (encE A), some (encE C), some (.lst (X.map enc)), some (.lst (Y.map enc)), some (.lst (nmk marks)), some (.bl fl), s9, s10, s11, s12, s13, none, none, none, none, none, none, none, none, none, none, none, none]
theorem nmk_at {marks : List Nat} {i m : Nat} (h : marks[i]? = some m) : (nmk marks)[i]? = some (.int (m : Nat)) := by simp [nmk, h]
theorem nmk_len (marks : List Nat) : (nmk marks).length = marks.length := List.length_map _
theorem lc16 (n : Nat) (b o1 o2 : List Nat) (A C X Y : List Ed) (marks : List Nat) (fl : Bool) (s9 s10 s11 : Option W) (low high : Nat) (zm : marks.length ≤ 1000) (G : List O) :
    lcL (fun x G => asgT (cl (n + 1)) gk (.nm 15) x (sl16 b o1 o2 A C X Y marks fl s9 s10 s11 (some (.int (low : Nat))) (some (.int (high : Nat)))) G) (fun sw1 G => evC (cl (n + 1)) gk .no sw1 G) (fun sw1 G => ev (cl (n + 1)) gk e16_8 sw1 G) ⟨nmk marks, none⟩ (nmk marks) [] G = .ok (nmk (mrg low high marks)) G := by
  have e1 := lcL_ty (asg := fun x G => asgT (cl (n + 1)) gk (.nm 15) x (sl16 b o1 o2 A C X Y marks fl s9 s10 s11 (some (.int (low : Nat))) (some (.int (high : Nat)))) G) (cd := fun sw1 G => evC (cl (n + 1)) gk .no sw1 G) (e := fun sw1 G => ev (cl (n + 1)) gk e16_8 sw1 G)
    (s := ⟨nmk marks, none⟩) (G := G) rfl (fun m : Nat => W.int (m : Nat)) (fun m => true) (fun m => W.int ((if m = high then low else m : Nat) : Int)) marks [] (by simp; omega) fun m hm => by
      refine ⟨(sl16 b o1 o2 A C X Y marks fl s9 s10 s11 (some (.int (low : Nat))) (some (.int (high : Nat)))).set 15 (some (.int (m : Nat))), by simp (maxSteps := 4000000) [ev, evs, evT, evO, evC, evI, asgT, asgTs, evH, pickH, ex, exB, runD, look, seqOf, isKds, isKd, szOk, bnd_ok, bnd_exc, noX_ok, wipe, st_mkt, st_mkf, st_addi, st_adds, st_addt, st_auI, st_auS, st_sub, st_mul, st_fdiv, st_mod, st_pow, st_cat, st_repl, st_reps, st_lt, st_le, st_gt, st_ge, st_eqi, st_nei, st_eqs, st_nes, st_idxL, st_idxS, st_idxT, st_idxs, at_n, at_0, at_1, at_2, at_m1, st_slcL, st_slcT, st_slcs, cut_nn, cut_n, cut_from, cut_1, cut_to1, st_lens, st_lenL, st_lenS, st_lenT, st_inti, st_intb, st_min2, st_max2, st_sumL, st_allL, st_anyL, st_tupL, st_tupT, st_joinL, st_rcvj, st_sh, st_idxr, st_lenr, st_tupr, st_appr, st_rcvr, st_joinr, st_setr, mulOk_fm, mulOk_r, mulOk_l, st_eq, st_ne, W.eq, W.eqs, W.pl, W.pls, W.dep, W.deps], by simp (maxSteps := 4000000) [ev, evs, evT, evO, evC, evI, asgT, asgTs, evH, pickH, ex, exB, runD, look, seqOf, isKds, isKd, szOk, bnd_ok, bnd_exc, noX_ok, wipe, st_mkt, st_mkf, st_addi, st_adds, st_addt, st_auI, st_auS, st_sub, st_mul, st_fdiv, st_mod, st_pow, st_cat, st_repl, st_reps, st_lt, st_le, st_gt, st_ge, st_eqi, st_nei, st_eqs, st_nes, st_idxL, st_idxS, st_idxT, st_idxs, at_n, at_0, at_1, at_2, at_m1, st_slcL, st_slcT, st_slcs, cut_nn, cut_n, cut_from, cut_1, cut_to1, st_lens, st_lenL, st_lenS, st_lenT, st_inti, st_intb, st_min2, st_max2, st_sumL, st_allL, st_anyL, st_tupL, st_tupT, st_joinL, st_rcvj, st_sh, st_idxr, st_lenr, st_tupr, st_appr, st_rcvr, st_joinr, st_setr, mulOk_fm, mulOk_r, mulOk_l, st_eq, st_ne, W.eq, W.eqs, W.pl, W.pls, W.dep, W.deps], fun _ => ?_⟩
      by_cases h : m = high
      · have h' : (m : Int) = high := by omega
        simp (maxSteps := 4000000) [ev, evs, evT, evO, evC, evI, asgT, asgTs, evH, pickH, ex, exB, runD, look, seqOf, isKds, isKd, szOk, bnd_ok, bnd_exc, noX_ok, wipe, st_mkt, st_mkf, st_addi, st_adds, st_addt, st_auI, st_auS, st_sub, st_mul, st_fdiv, st_mod, st_pow, st_cat, st_repl, st_reps, st_lt, st_le, st_gt, st_ge, st_eqi, st_nei, st_eqs, st_nes, st_idxL, st_idxS, st_idxT, st_idxs, at_n, at_0, at_1, at_2, at_m1, st_slcL, st_slcT, st_slcs, cut_nn, cut_n, cut_from, cut_1, cut_to1, st_lens, st_lenL, st_lenS, st_lenT, st_inti, st_intb, st_min2, st_max2, st_sumL, st_allL, st_anyL, st_tupL, st_tupT, st_joinL, st_rcvj, st_sh, st_idxr, st_lenr, st_tupr, st_appr, st_rcvr, st_joinr, st_setr, mulOk_fm, mulOk_r, mulOk_l, st_eq, st_ne, W.eq, W.eqs, W.pl, W.pls, W.dep, W.deps, e16_8, sl16, h, h']
      · have h' : ¬ (m : Int) = high := by omega
        simp (maxSteps := 4000000) [ev, evs, evT, evO, evC, evI, asgT, asgTs, evH, pickH, ex, exB, runD, look, seqOf, isKds, isKd, szOk, bnd_ok, bnd_exc, noX_ok, wipe, st_mkt, st_mkf, st_addi, st_adds, st_addt, st_auI, st_auS, st_sub, st_mul, st_fdiv, st_mod, st_pow, st_cat, st_repl, st_reps, st_lt, st_le, st_gt, st_ge, st_eqi, st_nei, st_eqs, st_nes, st_idxL, st_idxS, st_idxT, st_idxs, at_n, at_0, at_1, at_2, at_m1, st_slcL, st_slcT, st_slcs, cut_nn, cut_n, cut_from, cut_1, cut_to1, st_lens, st_lenL, st_lenS, st_lenT, st_inti, st_intb, st_min2, st_max2, st_sumL, st_allL, st_anyL, st_tupL, st_tupT, st_joinL, st_rcvj, st_sh, st_idxr, st_lenr, st_tupr, st_appr, st_rcvr, st_joinr, st_setr, mulOk_fm, mulOk_r, mulOk_l, st_eq, st_ne, W.eq, W.eqs, W.pl, W.pls, W.dep, W.deps, e16_8, sl16, h, h']
  rw [List.filter_eq_self.mpr (fun _ _ => rfl)] at e1
  have : marks.map (fun m => W.int ((if m = high then low else m : Nat) : Int)) = nmk (mrg low high marks) := by simp [nmk, mrg, List.map_map, Function.comp_def]
  rw [this] at e1
  exact e1
def hitB (e f : Ed) (mi mk : Nat) : Bool := tch e f && decide (mi ≠ mk)
def nextM (e f : Ed) (mi mk : Nat) (marks : List Nat) : List Nat := if hitB e f mi mk then mrg (min mi mk) (max mi mk) marks else marks
theorem s16 (n : Nat) (b o1 o2 : List Nat) (A C X Y : List Ed) (marks : List Nat) (fl : Bool) (s11 s12 s13 : Option W) (i j : Nat) (e f : Ed) (mi mk : Nat) (hi : X[i]? = some e) (hj : Y[j]? = some f) (ei : marks[i]? = some mi) (ek : marks[X.length + j]? = some mk) (he : shrt e) (hf : shrt f) (hl : e.1 ≤ 1000) (hne : e ≠ f) (zm : marks.length ≤ 1000) (G : List O) :
    ∃ s11' s12' s13', exB (cl (n + 1)) gk wf b16_9 (sl16 b o1 o2 A C X Y marks fl (some (.int (i : Nat))) (some (.int (j : Nat))) s11 s12 s13) G = .ok (.nx (sl16 b o1 o2 A C X Y (nextM e f mi mk marks) (fl || hitB e f mi mk) (some (.int (i : Nat))) (some (.int (j : Nat))) s11' s12' s13')) G := by
  have ht := t15 n e f he hf hl hne G
  have wX : (X.map enc)[i]? = some (enc e) := by rw [List.getElem?_map, hi]; rfl
  have wY : (Y.map enc)[j]? = some (enc f) := by rw [List.getElem?_map, hj]; rfl
  have w1 := nmk_at ei
  have w2 := nmk_at ek
  have hk : ((X.length : Int) + (j : Int)) = ((X.length + j : Nat) : Int) := by omega
  cases hT : tch e f with
  | false =>
    rw [hT] at ht
    refine ⟨some (.int ((X.length + j : Nat) : Int)), s12, s13, ?_⟩
    simp (maxSteps := 4000000) [ev, evs, evT, evO, evC, evI, asgT, asgTs, evH, pickH, ex, exB, runD, look, seqOf, isKds, isKd, szOk, bnd_ok, bnd_exc, noX_ok, wipe, st_mkt, st_mkf, st_addi, st_adds, st_addt, st_auI, st_auS, st_sub, st_mul, st_fdiv, st_mod, st_pow, st_cat, st_repl, st_reps, st_lt, st_le, st_gt, st_ge, st_eqi, st_nei, st_eqs, st_nes, st_idxL, st_idxS, st_idxT, st_idxs, at_n, at_0, at_1, at_2, at_m1, st_slcL, st_slcT, st_slcs, cut_nn, cut_n, cut_from, cut_1, cut_to1, st_lens, st_lenL, st_lenS, st_lenT, st_inti, st_intb, st_min2, st_max2, st_sumL, st_allL, st_anyL, st_tupL, st_tupT, st_joinL, st_rcvj, st_sh, st_idxr, st_lenr, st_tupr, st_appr, st_rcvr, st_joinr, st_setr, mulOk_fm, mulOk_r, mulOk_l, st_eq, st_ne, W.eq, W.eqs, W.pl, W.pls, W.dep, W.deps, b16_9, sl16, wX, wY, ht, nextM, hitB, hT]
  | true =>
    rw [hT] at ht
    have atk : atW (nmk marks) ((X.length : Int) + (j : Int)) = some (.int (mk : Nat)) := by rw [hk, at_n]; exact w2
    by_cases hm : mi = mk
    · subst hm
      refine ⟨some (.int ((X.length + j : Nat) : Int)), s12, s13, ?_⟩
      simp (maxSteps := 4000000) [ev, evs, evT, evO, evC, evI, asgT, asgTs, evH, pickH, ex, exB, runD, look, seqOf, isKds, isKd, szOk, bnd_ok, bnd_exc, noX_ok, wipe, st_mkt, st_mkf, st_addi, st_adds, st_addt, st_auI, st_auS, st_sub, st_mul, st_fdiv, st_mod, st_pow, st_cat, st_repl, st_reps, st_lt, st_le, st_gt, st_ge, st_eqi, st_nei, st_eqs, st_nes, st_idxL, st_idxS, st_idxT, st_idxs, at_n, at_0, at_1, at_2, at_m1, st_slcL, st_slcT, st_slcs, cut_nn, cut_n, cut_from, cut_1, cut_to1, st_lens, st_lenL, st_lenS, st_lenT, st_inti, st_intb, st_min2, st_max2, st_sumL, st_allL, st_anyL, st_tupL, st_tupT, st_joinL, st_rcvj, st_sh, st_idxr, st_lenr, st_tupr, st_appr, st_rcvr, st_joinr, st_setr, mulOk_fm, mulOk_r, mulOk_l, st_eq, st_ne, W.eq, W.eqs, W.pl, W.pls, W.dep, W.deps, b16_9, sl16, wX, wY, ht, nextM, hitB, hT, w1, atk]
    · have hm' : ¬ (mi : Int) = mk := by omega
      have zN : ∀ l h : Nat, (nmk (mrg l h marks)).length ≤ 16777216 := fun l h => by rw [nmk_len, mrg_len]; omega
      by_cases hlt : mi < mk
      · have q1 : ¬ (mk : Int) < mi := by omega
        have q2 : (mi : Int) < mk := by omega
        have hmin : min mi mk = mi := by omega
        have hmax : max mi mk = mk := by omega
        have lc := lc16 n b o1 o2 A C X Y marks fl (some (.int (i : Nat))) (some (.int (j : Nat))) (some (.int ((X.length + j : Nat) : Int))) mi mk zm G
        refine ⟨some (.int ((X.length + j : Nat) : Int)), some (.int (mi : Nat)), some (.int (mk : Nat)), ?_⟩
        simp (maxSteps := 4000000) [ev, evs, evT, evO, evC, evI, asgT, asgTs, evH, pickH, ex, exB, runD, look, seqOf, isKds, isKd, szOk, bnd_ok, bnd_exc, noX_ok, wipe, st_mkt, st_mkf, st_addi, st_adds, st_addt, st_auI, st_auS, st_sub, st_mul, st_fdiv, st_mod, st_pow, st_cat, st_repl, st_reps, st_lt, st_le, st_gt, st_ge, st_eqi, st_nei, st_eqs, st_nes, st_idxL, st_idxS, st_idxT, st_idxs, at_n, at_0, at_1, at_2, at_m1, st_slcL, st_slcT, st_slcs, cut_nn, cut_n, cut_from, cut_1, cut_to1, st_lens, st_lenL, st_lenS, st_lenT, st_inti, st_intb, st_min2, st_max2, st_sumL, st_allL, st_anyL, st_tupL, st_tupT, st_joinL, st_rcvj, st_sh, st_idxr, st_lenr, st_tupr, st_appr, st_rcvr, st_joinr, st_setr, mulOk_fm, mulOk_r, mulOk_l, st_eq, st_ne, W.eq, W.eqs, W.pl, W.pls, W.dep, W.deps, sl16] at lc
        simp (maxSteps := 4000000) [ev, evs, evT, evO, evC, evI, asgT, asgTs, evH, pickH, ex, exB, runD, look, seqOf, isKds, isKd, szOk, bnd_ok, bnd_exc, noX_ok, wipe, st_mkt, st_mkf, st_addi, st_adds, st_addt, st_auI, st_auS, st_sub, st_mul, st_fdiv, st_mod, st_pow, st_cat, st_repl, st_reps, st_lt, st_le, st_gt, st_ge, st_eqi, st_nei, st_eqs, st_nes, st_idxL, st_idxS, st_idxT, st_idxs, at_n, at_0, at_1, at_2, at_m1, st_slcL, st_slcT, st_slcs, cut_nn, cut_n, cut_from, cut_1, cut_to1, st_lens, st_lenL, st_lenS, st_lenT, st_inti, st_intb, st_min2, st_max2, st_sumL, st_allL, st_anyL, st_tupL, st_tupT, st_joinL, st_rcvj, st_sh, st_idxr, st_lenr, st_tupr, st_appr, st_rcvr, st_joinr, st_setr, mulOk_fm, mulOk_r, mulOk_l, st_eq, st_ne, W.eq, W.eqs, W.pl, W.pls, W.dep, W.deps, b16_9, sl16, wX, wY, ht, nextM, hitB, hT, w1, atk, hm, hm', hmin, hmax, q1, q2, lc, zN]
      · have q1 : (mk : Int) < mi := by omega
        have q2 : ¬ (mi : Int) < mk := by omega
        have hmin : min mi mk = mk := by omega
        have hmax : max mi mk = mi := by omega
        have lc := lc16 n b o1 o2 A C X Y marks fl (some (.int (i : Nat))) (some (.int (j : Nat))) (some (.int ((X.length + j : Nat) : Int))) mk mi zm G
        refine ⟨some (.int ((X.length + j : Nat) : Int)), some (.int (mk : Nat)), some (.int (mi : Nat)), ?_⟩
        simp (maxSteps := 4000000) [ev, evs, evT, evO, evC, evI, asgT, asgTs, evH, pickH, ex, exB, runD, look, seqOf, isKds, isKd, szOk, bnd_ok, bnd_exc, noX_ok, wipe, st_mkt, st_mkf, st_addi, st_adds, st_addt, st_auI, st_auS, st_sub, st_mul, st_fdiv, st_mod, st_pow, st_cat, st_repl, st_reps, st_lt, st_le, st_gt, st_ge, st_eqi, st_nei, st_eqs, st_nes, st_idxL, st_idxS, st_idxT, st_idxs, at_n, at_0, at_1, at_2, at_m1, st_slcL, st_slcT, st_slcs, cut_nn, cut_n, cut_from, cut_1, cut_to1, st_lens, st_lenL, st_lenS, st_lenT, st_inti, st_intb, st_min2, st_max2, st_sumL, st_allL, st_anyL, st_tupL, st_tupT, st_joinL, st_rcvj, st_sh, st_idxr, st_lenr, st_tupr, st_appr, st_rcvr, st_joinr, st_setr, mulOk_fm, mulOk_r, mulOk_l, st_eq, st_ne, W.eq, W.eqs, W.pl, W.pls, W.dep, W.deps, sl16] at lc
        simp (maxSteps := 4000000) [ev, evs, evT, evO, evC, evI, asgT, asgTs, evH, pickH, ex, exB, runD, look, seqOf, isKds, isKd, szOk, bnd_ok, bnd_exc, noX_ok, wipe, st_mkt, st_mkf, st_addi, st_adds, st_addt, st_auI, st_auS, st_sub, st_mul, st_fdiv, st_mod, st_pow, st_cat, st_repl, st_reps, st_lt, st_le, st_gt, st_ge, st_eqi, st_nei, st_eqs, st_nes, st_idxL, st_idxS, st_idxT, st_idxs, at_n, at_0, at_1, at_2, at_m1, st_slcL, st_slcT, st_slcs, cut_nn, cut_n, cut_from, cut_1, cut_to1, st_lens, st_lenL, st_lenS, st_lenT, st_inti, st_intb, st_min2, st_max2, st_sumL, st_allL, st_anyL, st_tupL, st_tupT, st_joinL, st_rcvj, st_sh, st_idxr, st_lenr, st_tupr, st_appr, st_rcvr, st_joinr, st_setr, mulOk_fm, mulOk_r, mulOk_l, st_eq, st_ne, W.eq, W.eqs, W.pl, W.pls, W.dep, W.deps, b16_9, sl16, wX, wY, ht, nextM, hitB, hT, w1, atk, hm, hm', hmin, hmax, q1, q2, lc, zN]
theorem U_at0 {A C : List Ed} {i : Nat} {e : Ed} (h : (own A C)[i]? = some e) : (U A C)[i]? = some (0, e) := by
  unfold U
  rw [List.getElem?_append_left (by rw [List.length_map]; exact (List.getElem?_eq_some_iff.mp h).1), List.getElem?_map, h]
  rfl
theorem U_at1 {A C : List Ed} {j : Nat} {e : Ed} (h : (own C A)[j]? = some e) : (U A C)[(own A C).length + j]? = some (1, e) := by
  unfold U
  rw [List.getElem?_append_right (by rw [List.length_map]; omega), List.length_map, Nat.add_sub_cancel_left, List.getElem?_map, h]
  rfl
theorem U_at {A C : List Ed} {a : Nat} {u : Vx} (h : (U A C)[a]? = some u) : (∃ e, (own A C)[a]? = some e ∧ u = (0, e)) ∨ ∃ j e, a = (own A C).length + j ∧ (own C A)[j]? = some e ∧ u = (1, e) := by
  unfold U at h
  by_cases ha : a < (own A C).length
  · rw [List.getElem?_append_left (by rw [List.length_map]; exact ha), List.getElem?_map, List.getElem?_eq_getElem ha] at h
    exact .inl ⟨_, List.getElem?_eq_getElem ha, (Option.some.inj h).symm⟩
  · rw [List.getElem?_append_right (by rw [List.length_map]; omega), List.length_map, List.getElem?_map] at h
    cases hj : (own C A)[a - (own A C).length]? with
    | none => rw [hj] at h; cases h
    | some e =>
      rw [hj] at h
      exact .inr ⟨a - (own A C).length, e, by omega, hj, (Option.some.inj h).symm⟩
/-- a pass, so far -/
def Pas (A C : List Ed) (marks0 marks : List Nat) (fl : Bool) (P : Nat → Nat → Prop) : Prop :=
  InvM (U A C) marks ∧ ((fl = false ∧ marks = marks0 ∧ ∀ i j e f, P i j → (own A C)[i]? = some e → (own C A)[j]? = some f → tch e f = true → marks0[i]? = marks0[(own A C).length + j]?) ∨ (fl = true ∧ marks.sum < marks0.sum))
theorem Pas.step {A C : List Ed} {marks0 marks : List Nat} {fl : Bool} {P : Nat → Nat → Prop} (p : Pas A C marks0 marks fl P) {i j : Nat} {e f : Ed} {mi mk : Nat} (hi : (own A C)[i]? = some e) (hj : (own C A)[j]? = some f) (ei : marks[i]? = some mi) (ek : marks[(own A C).length + j]? = some mk) {P' : Nat → Nat → Prop} (hP : ∀ i' j', P' i' j' → P i' j' ∨ (i' = i ∧ j' = j)) :
    Pas A C marks0 (nextM e f mi mk marks) (fl || hitB e f mi mk) P' := by
  obtain ⟨inv, h⟩ := p
  cases hh : hitB e f mi mk with
  | true =>
    simp only [hitB, Bool.and_eq_true, decide_eq_true_eq] at hh
    have hn : nextM e f mi mk marks = mrg (min mi mk) (max mi mk) marks := by simp [nextM, hitB, hh.1, hh.2]
    rw [hn]
    have hs := mrg_sum marks (min mi mk) (max mi mk) (by have := hh.2; omega)
    have hmem : max mi mk ∈ marks := by
      by_cases hc : mi ≤ mk
      · rw [Nat.max_eq_right hc]; exact List.mem_of_getElem? ek
      · rw [Nat.max_eq_left (by omega)]; exact List.mem_of_getElem? ei
    refine ⟨inv.mrg (U_at0 hi) (U_at1 hj) ei ek (by simp [adj, hh.1]), .inr ⟨by simp, ?_⟩⟩
    have := hs.2 hmem
    rcases h with ⟨_, rfl, _⟩ | ⟨_, h⟩
    · exact this
    · omega
  | false =>
    have hn : nextM e f mi mk marks = marks := by simp [nextM, hh]
    rw [hn, Bool.or_false]
    refine ⟨inv, ?_⟩
    rcases h with ⟨h1, h2, h3⟩ | h
    · refine .inl ⟨h1, h2, fun i' j' e' f' hp hi' hj' ht => ?_⟩
      rcases hP i' j' hp with hp | ⟨rfl, rfl⟩
      · exact h3 i' j' e' f' hp hi' hj' ht
      · rw [hi] at hi'
        rw [hj] at hj'
        cases hi'
        cases hj'
        simp only [hitB, ht, Bool.true_and, decide_eq_false_iff_not] at hh
        have : mi = mk := by omega
        rw [← h2, ei, ek, this]
    · exact .inr h
end K64
end

section
set_option linter.all false
set_option maxRecDepth 100000
set_option maxHeartbeats 4000000
/-! k64: the law's own groups, the loops. -/
namespace K64
open T2
theorem rng0_get {m k : Nat} {w : W} (h : (rngL 0 (m : Int))[k]? = some w) : k < m ∧ w = .int (k : Nat) := by
  unfold rngL at h
  rw [List.getElem?_map] at h
  have e : ((m : Int) - 0).toNat = m := by omega
  rw [e] at h
  by_cases hk : k < m
  · rw [List.getElem?_range hk] at h
    have := (Option.some.inj h).symm
    refine ⟨hk, this.trans ?_⟩
    simp
  · rw [List.getElem?_eq_none (by simpa using Nat.le_of_not_lt hk)] at h
    cases h
theorem rng0_len (m : Nat) : (rngL 0 (m : Int)).length = m := by simp [rngL]
theorem Pas.mono {A C : List Ed} {marks0 marks : List Nat} {fl : Bool} {P P' : Nat → Nat → Prop} (p : Pas A C marks0 marks fl P) (h : ∀ i j f, P' i j → (own C A)[j]? = some f → P i j) : Pas A C marks0 marks fl P' := by
  refine ⟨p.1, p.2.imp (fun ⟨h1, h2, h3⟩ => ⟨h1, h2, fun i j e f hp hi hj ht => h3 i j e f (h i j f hp hj) hi hj ht⟩) id⟩
section
variable (n : Nat) (b o1 o2 : List Nat) (A C : List Ed) (zA : A.length ≤ 400) (zC : C.length ≤ 400) (hA : ∀ e ∈ A, tiny e ∧ e.1 ≤ 1000) (hC : ∀ e ∈ C, tiny e ∧ e.1 ≤ 1000)
include zA zC hA hC
theorem j16 (marks0 marks : List Nat) (fl : Bool) (i : Nat) (e : Ed) (hi : (own A C)[i]? = some e) (s10 s11 s12 s13 : Option W) (G : List O) (p : Pas A C marks0 marks fl fun i' _ => i' < i) :
    ∃ marks' fl' s10' s11' s12' s13', exB (cl (n + 1)) gk wf b16_10 (sl16 b o1 o2 A C (own A C) (own C A) marks fl (some (.int (i : Nat))) s10 s11 s12 s13) G = .ok (.nx (sl16 b o1 o2 A C (own A C) (own C A) marks' fl' (some (.int (i : Nat))) s10' s11' s12' s13')) G ∧ Pas A C marks0 marks' fl' fun i' _ => i' < i + 1 := by
  have m1 := own_len A C
  have m2 := own_len C A
  have hU : (U A C).length = (own A C).length + (own C A).length := by simp [U]
  obtain ⟨sw', G', el, hst⟩ := forL_at (asg := fun w sw G => asgT (cl (n + 1)) gk (.nm 10) w sw G) (body := fun sw G => exB (cl (n + 1)) gk wf b16_9 sw G) (s := ⟨rngL 0 ((own C A).length : Nat), none⟩) (rngL 0 ((own C A).length : Nat))
    (fun k sw G' => G' = G ∧ ∃ marks fl s10 s11 s12 s13, sw = sl16 b o1 o2 A C (own A C) (own C A) marks fl (some (.int (i : Nat))) s10 s11 s12 s13 ∧ Pas A C marks0 marks fl fun i' j' => i' < i ∨ (i' = i ∧ j' < k))
    (sl16 b o1 o2 A C (own A C) (own C A) marks fl (some (.int (i : Nat))) s10 s11 s12 s13) G ⟨rfl, marks, fl, s10, s11, s12, s13, rfl, p.mono fun i' j' f h _ => by omega⟩ (fun _ _ _ _ _ => rfl) (fun k x sw G' hx ⟨hG, marks, fl, s10, s11, s12, s13, hsw, p⟩ => by
      subst hG hsw
      obtain ⟨hk, rfl⟩ := rng0_get hx
      have hj : (own C A)[k]? = some (own C A)[k] := List.getElem?_eq_getElem hk
      generalize (own C A)[k] = f at hj
      have hem := own_mem.mp (List.mem_of_getElem? hi)
      have hfm := own_mem.mp (List.mem_of_getElem? hj)
      have hil := (List.getElem?_eq_some_iff.mp hi).1
      have hml := p.1.1
      have ei : marks[i]? = some marks[i] := List.getElem?_eq_getElem (by omega)
      have ek : marks[(own A C).length + k]? = some marks[(own A C).length + k] := List.getElem?_eq_getElem (by omega)
      generalize marks[i] = mi at ei
      generalize marks[(own A C).length + k] = mk at ek
      obtain ⟨s11', s12', s13', e1⟩ := s16 n b o1 o2 A C (own A C) (own C A) marks fl s11 s12 s13 i k e f mi mk hi hj ei ek (hA e hem.1).1.shrt (hC f hfm.1).1.shrt (hA e hem.1).2 (fun z => hem.2 (z ▸ hfm.1)) (by omega) G'
      exact ⟨sl16 b o1 o2 A C (own A C) (own C A) marks fl (some (.int (i : Nat))) (some (.int (k : Nat))) s11 s12 s13, G', _, G', by simp [ev, evs, evT, evO, evC, evI, asgT, asgTs, evH, pickH, ex, exB, runD, look, seqOf, isKds, isKd, szOk, bnd_ok, bnd_exc, noX_ok, wipe, st_mkt, st_mkf, st_addi, st_adds, st_addt, st_auI, st_auS, st_sub, st_mul, st_fdiv, st_mod, st_pow, st_cat, st_repl, st_reps, st_lt, st_le, st_gt, st_ge, st_eqi, st_nei, st_eqs, st_nes, st_idxL, st_idxS, st_idxT, st_idxs, at_n, at_0, at_1, at_2, at_m1, st_slcL, st_slcT, st_slcs, cut_nn, cut_n, cut_from, cut_1, cut_to1, st_lens, st_lenL, st_lenS, st_lenT, st_inti, st_intb, st_min2, st_max2, st_sumL, st_allL, st_anyL, st_tupL, st_tupT, st_joinL, st_rcvj, st_sh, st_idxr, st_lenr, st_tupr, st_appr, st_rcvr, st_joinr, st_setr, mulOk_fm, mulOk_r, mulOk_l, st_eq, st_ne, W.eq, W.eqs, W.pl, W.pls, W.dep, W.deps, sl16], .inl e1, rfl, _, _, _, _, _, _, rfl, p.step hi hj ei ek fun i' j' h => by omega⟩)
  obtain ⟨rfl, marks', fl', s10', s11', s12', s13', rfl, p'⟩ := hst
  refine ⟨marks', fl', s10', s11', s12', s13', ?_, p'.mono fun i' j' f h hj => ?_⟩
  · have hsm : small ((own C A).length : Int) = true := small_nat _ (by omega)
    generalize own C A = Y at *
    generalize own A C = X at *
    simp [ev, evs, evT, evO, evC, evI, asgT, asgTs, evH, pickH, ex, exB, runD, look, seqOf, isKds, isKd, szOk, bnd_ok, bnd_exc, noX_ok, wipe, st_mkt, st_mkf, st_addi, st_adds, st_addt, st_auI, st_auS, st_sub, st_mul, st_fdiv, st_mod, st_pow, st_cat, st_repl, st_reps, st_lt, st_le, st_gt, st_ge, st_eqi, st_nei, st_eqs, st_nes, st_idxL, st_idxS, st_idxT, st_idxs, at_n, at_0, at_1, at_2, at_m1, st_slcL, st_slcT, st_slcs, cut_nn, cut_n, cut_from, cut_1, cut_to1, st_lens, st_lenL, st_lenS, st_lenT, st_inti, st_intb, st_min2, st_max2, st_sumL, st_allL, st_anyL, st_tupL, st_tupT, st_joinL, st_rcvj, st_sh, st_idxr, st_lenr, st_tupr, st_appr, st_rcvr, st_joinr, st_setr, mulOk_fm, mulOk_r, mulOk_l, st_eq, st_ne, W.eq, W.eqs, W.pl, W.pls, W.dep, W.deps, sl16] at el
    simp [ev, evs, evT, evO, evC, evI, asgT, asgTs, evH, pickH, ex, exB, runD, look, seqOf, isKds, isKd, szOk, bnd_ok, bnd_exc, noX_ok, wipe, st_mkt, st_mkf, st_addi, st_adds, st_addt, st_auI, st_auS, st_sub, st_mul, st_fdiv, st_mod, st_pow, st_cat, st_repl, st_reps, st_lt, st_le, st_gt, st_ge, st_eqi, st_nei, st_eqs, st_nes, st_idxL, st_idxS, st_idxT, st_idxs, at_n, at_0, at_1, at_2, at_m1, st_slcL, st_slcT, st_slcs, cut_nn, cut_n, cut_from, cut_1, cut_to1, st_lens, st_lenL, st_lenS, st_lenT, st_inti, st_intb, st_min2, st_max2, st_sumL, st_allL, st_anyL, st_tupL, st_tupT, st_joinL, st_rcvj, st_sh, st_idxr, st_lenr, st_tupr, st_appr, st_rcvr, st_joinr, st_setr, mulOk_fm, mulOk_r, mulOk_l, st_eq, st_ne, W.eq, W.eqs, W.pl, W.pls, W.dep, W.deps, b16_10, sl16, hsm, el]
  · have := (List.getElem?_eq_some_iff.mp hj).1
    rw [rng0_len]
    omega
theorem i16 (marks0 : List Nat) (inv : InvM (U A C) marks0) (fl0 : Bool) (s9 s10 s11 s12 s13 : Option W) (G : List O) :
    ∃ marks' fl' s9' s10' s11' s12' s13', exB (cl (n + 1)) gk wf b16_11 (sl16 b o1 o2 A C (own A C) (own C A) marks0 fl0 s9 s10 s11 s12 s13) G = .ok (.nx (sl16 b o1 o2 A C (own A C) (own C A) marks' fl' s9' s10' s11' s12' s13')) G ∧ Pas A C marks0 marks' fl' fun _ _ => True := by
  have m1 := own_len A C
  obtain ⟨sw', G', el, hst⟩ := forL_at (asg := fun w sw G => asgT (cl (n + 1)) gk (.nm 9) w sw G) (body := fun sw G => exB (cl (n + 1)) gk wf b16_10 sw G) (s := ⟨rngL 0 ((own A C).length : Nat), none⟩) (rngL 0 ((own A C).length : Nat))
    (fun k sw G' => G' = G ∧ ∃ marks fl s9 s10 s11 s12 s13, sw = sl16 b o1 o2 A C (own A C) (own C A) marks fl s9 s10 s11 s12 s13 ∧ Pas A C marks0 marks fl fun i' j' => i' < k)
    (sl16 b o1 o2 A C (own A C) (own C A) marks0 false s9 s10 s11 s12 s13) G ⟨rfl, marks0, false, s9, s10, s11, s12, s13, rfl, inv, .inl ⟨rfl, rfl, fun i j e f h => absurd h (Nat.not_lt_zero _)⟩⟩ (fun _ _ _ _ _ => rfl) (fun k x sw G' hx ⟨hG, marks, fl, s9, s10, s11, s12, s13, hsw, p⟩ => by
      subst hG hsw
      obtain ⟨hk, rfl⟩ := rng0_get hx
      have hi : (own A C)[k]? = some (own A C)[k] := List.getElem?_eq_getElem hk
      obtain ⟨marks', fl', s10', s11', s12', s13', e1, p'⟩ := j16 n b o1 o2 A C zA zC hA hC marks0 marks fl k _ hi s10 s11 s12 s13 G' p
      exact ⟨sl16 b o1 o2 A C (own A C) (own C A) marks fl (some (.int (k : Nat))) s10 s11 s12 s13, G', _, G', by simp [ev, evs, evT, evO, evC, evI, asgT, asgTs, evH, pickH, ex, exB, runD, look, seqOf, isKds, isKd, szOk, bnd_ok, bnd_exc, noX_ok, wipe, st_mkt, st_mkf, st_addi, st_adds, st_addt, st_auI, st_auS, st_sub, st_mul, st_fdiv, st_mod, st_pow, st_cat, st_repl, st_reps, st_lt, st_le, st_gt, st_ge, st_eqi, st_nei, st_eqs, st_nes, st_idxL, st_idxS, st_idxT, st_idxs, at_n, at_0, at_1, at_2, at_m1, st_slcL, st_slcT, st_slcs, cut_nn, cut_n, cut_from, cut_1, cut_to1, st_lens, st_lenL, st_lenS, st_lenT, st_inti, st_intb, st_min2, st_max2, st_sumL, st_allL, st_anyL, st_tupL, st_tupT, st_joinL, st_rcvj, st_sh, st_idxr, st_lenr, st_tupr, st_appr, st_rcvr, st_joinr, st_setr, mulOk_fm, mulOk_r, mulOk_l, st_eq, st_ne, W.eq, W.eqs, W.pl, W.pls, W.dep, W.deps, sl16], .inl e1, rfl, _, _, _, _, _, _, _, rfl, p'⟩)
  obtain ⟨rfl, marks', fl', s9', s10', s11', s12', s13', rfl, p'⟩ := hst
  have hsm : small ((own A C).length : Int) = true := small_nat _ (by omega)
  refine ⟨marks', fl', s9', s10', s11', s12', s13', ?_, ?_⟩
  · generalize own C A = Y at *
    generalize own A C = X at *
    simp [ev, evs, evT, evO, evC, evI, asgT, asgTs, evH, pickH, ex, exB, runD, look, seqOf, isKds, isKd, szOk, bnd_ok, bnd_exc, noX_ok, wipe, st_mkt, st_mkf, st_addi, st_adds, st_addt, st_auI, st_auS, st_sub, st_mul, st_fdiv, st_mod, st_pow, st_cat, st_repl, st_reps, st_lt, st_le, st_gt, st_ge, st_eqi, st_nei, st_eqs, st_nes, st_idxL, st_idxS, st_idxT, st_idxs, at_n, at_0, at_1, at_2, at_m1, st_slcL, st_slcT, st_slcs, cut_nn, cut_n, cut_from, cut_1, cut_to1, st_lens, st_lenL, st_lenS, st_lenT, st_inti, st_intb, st_min2, st_max2, st_sumL, st_allL, st_anyL, st_tupL, st_tupT, st_joinL, st_rcvj, st_sh, st_idxr, st_lenr, st_tupr, st_appr, st_rcvr, st_joinr, st_setr, mulOk_fm, mulOk_r, mulOk_l, st_eq, st_ne, W.eq, W.eqs, W.pl, W.pls, W.dep, W.deps, sl16] at el
    simp [ev, evs, evT, evO, evC, evI, asgT, asgTs, evH, pickH, ex, exB, runD, look, seqOf, isKds, isKd, szOk, bnd_ok, bnd_exc, noX_ok, wipe, st_mkt, st_mkf, st_addi, st_adds, st_addt, st_auI, st_auS, st_sub, st_mul, st_fdiv, st_mod, st_pow, st_cat, st_repl, st_reps, st_lt, st_le, st_gt, st_ge, st_eqi, st_nei, st_eqs, st_nes, st_idxL, st_idxS, st_idxT, st_idxs, at_n, at_0, at_1, at_2, at_m1, st_slcL, st_slcT, st_slcs, cut_nn, cut_n, cut_from, cut_1, cut_to1, st_lens, st_lenL, st_lenS, st_lenT, st_inti, st_intb, st_min2, st_max2, st_sumL, st_allL, st_anyL, st_tupL, st_tupT, st_joinL, st_rcvj, st_sh, st_idxr, st_lenr, st_tupr, st_appr, st_rcvr, st_joinr, st_setr, mulOk_fm, mulOk_r, mulOk_l, st_eq, st_ne, W.eq, W.eqs, W.pl, W.pls, W.dep, W.deps, b16_11, sl16, hsm, el]
  · refine ⟨p'.1, p'.2.imp (fun ⟨h1, h2, h3⟩ => ⟨h1, h2, fun i j e f _ hi hj ht => h3 i j e f ?_ hi hj ht⟩) id⟩
    rw [rng0_len]
    exact (List.getElem?_eq_some_iff.mp hi).1
theorem Pas.cls {marks0 marks : List Nat} (p : Pas A C marks0 marks false fun _ _ => True) : Cls (U A C) marks := by
  rcases p.2 with ⟨_, rfl, h⟩ | ⟨z, _⟩
  · have key : ∀ (i j : Nat) (e f : Ed), (own A C)[i]? = some e → (own C A)[j]? = some f → adj (0, e) (1, f) = true → marks[i]? = marks[(own A C).length + j]? := fun i j e f hi hj ha => h i j e f trivial hi hj (by simpa [adj] using ha)
    intro a b u v ha hb hadj
    rcases U_at ha with ⟨e, h1, rfl⟩ | ⟨j, e, rfl, h1, rfl⟩
    · rcases U_at hb with ⟨f, h2, rfl⟩ | ⟨j2, f, rfl, h2, rfl⟩
      · simp [adj] at hadj
      · exact key a j2 e f h1 h2 hadj
    · rcases U_at hb with ⟨f, h2, rfl⟩ | ⟨j2, f, rfl, h2, rfl⟩
      · rw [adj_sym] at hadj
        exact (key b j f e h2 h1 hadj).symm
      · simp [adj] at hadj
  · cases z
theorem w16 (marks : List Nat) (inv : InvM (U A C) marks) (hs : marks.sum < 900000) (G : List O) :
    ∃ marks' s9 s10 s11 s12 s13, whlL (fun sw G => evT (cl (n + 1)) gk b16_11t sw G) (fun sw G => exB (cl (n + 1)) gk wf b16_11 sw G) wf (sl16 b o1 o2 A C (own A C) (own C A) marks true none none none none none) G = .ok (.nx (sl16 b o1 o2 A C (own A C) (own C A) marks' false s9 s10 s11 s12 s13)) G ∧ InvM (U A C) marks' ∧ Cls (U A C) marks' := by
  obtain ⟨sw', G', e, rfl, marks', s9, s10, s11, s12, s13, rfl, h1, h2⟩ := whlL_rel (t := fun sw G => evT (cl (n + 1)) gk b16_11t sw G) (body := fun sw G => exB (cl (n + 1)) gk wf b16_11 sw G)
    (fun m sw G' => G' = G ∧ ∃ marks fl s9 s10 s11 s12 s13, sw = sl16 b o1 o2 A C (own A C) (own C A) marks fl s9 s10 s11 s12 s13 ∧ InvM (U A C) marks ∧ (fl = false → Cls (U A C) marks) ∧ m = if fl then marks.sum + 1 else 0)
    (fun sw G' => G' = G ∧ ∃ marks s9 s10 s11 s12 s13, sw = sl16 b o1 o2 A C (own A C) (own C A) marks false s9 s10 s11 s12 s13 ∧ InvM (U A C) marks ∧ Cls (U A C) marks) (fun m sw G' ⟨hG, marks, fl, s9, s10, s11, s12, s13, hsw, inv, hc, hm⟩ => by
      subst hG hsw
      cases fl with
      | false => exact .inl ⟨G', by simp [ev, evs, evT, evO, evC, evI, asgT, asgTs, evH, pickH, ex, exB, runD, look, seqOf, isKds, isKd, szOk, bnd_ok, bnd_exc, noX_ok, wipe, st_mkt, st_mkf, st_addi, st_adds, st_addt, st_auI, st_auS, st_sub, st_mul, st_fdiv, st_mod, st_pow, st_cat, st_repl, st_reps, st_lt, st_le, st_gt, st_ge, st_eqi, st_nei, st_eqs, st_nes, st_idxL, st_idxS, st_idxT, st_idxs, at_n, at_0, at_1, at_2, at_m1, st_slcL, st_slcT, st_slcs, cut_nn, cut_n, cut_from, cut_1, cut_to1, st_lens, st_lenL, st_lenS, st_lenT, st_inti, st_intb, st_min2, st_max2, st_sumL, st_allL, st_anyL, st_tupL, st_tupT, st_joinL, st_rcvj, st_sh, st_idxr, st_lenr, st_tupr, st_appr, st_rcvr, st_joinr, st_setr, mulOk_fm, mulOk_r, mulOk_l, st_eq, st_ne, W.eq, W.eqs, W.pl, W.pls, W.dep, W.deps, b16_11t, sl16], rfl, marks, s9, s10, s11, s12, s13, rfl, inv, hc rfl⟩
      | true =>
        right
        obtain ⟨marks', fl', s9', s10', s11', s12', s13', e1, p⟩ := i16 n b o1 o2 A C zA zC hA hC marks inv true s9 s10 s11 s12 s13 G'
        refine ⟨G', _, G', by simp [ev, evs, evT, evO, evC, evI, asgT, asgTs, evH, pickH, ex, exB, runD, look, seqOf, isKds, isKd, szOk, bnd_ok, bnd_exc, noX_ok, wipe, st_mkt, st_mkf, st_addi, st_adds, st_addt, st_auI, st_auS, st_sub, st_mul, st_fdiv, st_mod, st_pow, st_cat, st_repl, st_reps, st_lt, st_le, st_gt, st_ge, st_eqi, st_nei, st_eqs, st_nes, st_idxL, st_idxS, st_idxT, st_idxs, at_n, at_0, at_1, at_2, at_m1, st_slcL, st_slcT, st_slcs, cut_nn, cut_n, cut_from, cut_1, cut_to1, st_lens, st_lenL, st_lenS, st_lenT, st_inti, st_intb, st_min2, st_max2, st_sumL, st_allL, st_anyL, st_tupL, st_tupT, st_joinL, st_rcvj, st_sh, st_idxr, st_lenr, st_tupr, st_appr, st_rcvr, st_joinr, st_setr, mulOk_fm, mulOk_r, mulOk_l, st_eq, st_ne, W.eq, W.eqs, W.pl, W.pls, W.dep, W.deps, b16_11t, sl16], .inl e1, if fl' then marks'.sum + 1 else 0, ?_, rfl, marks', fl', s9', s10', s11', s12', s13', rfl, p.1, fun z => ?_, rfl⟩
        · cases fl' with
          | false => simp [hm]
          | true =>
            rcases p.2 with ⟨z, _⟩ | ⟨_, h⟩
            · cases z
            · simp [hm]; exact h
        · subst z
          exact Pas.cls A C zA zC hA hC p) wf (marks.sum + 1) (sl16 b o1 o2 A C (own A C) (own C A) marks true none none none none none) G (by unfold wf; omega) ⟨rfl, marks, true, none, none, none, none, none, rfl, inv, fun z => by (cases z), rfl⟩
  exact ⟨marks', s9, s10, s11, s12, s13, e, h1, h2⟩
end
end K64
end

section
set_option linter.all false
set_option maxRecDepth 100000
set_option maxHeartbeats 4000000
/-! k64: the law's own rows. -/
namespace K64
open T2
def pk (marks : List Nat) (m : Nat) (l : List Ed) (o : Nat) : List Ed := ((List.range l.length).filter fun i => decide (marks[o + i]? = some m)).map fun i => l.getD i (0, [], [])
theorem getD_map (l : List Ed) : (List.range l.length).map (fun i => l.getD i (0, [], [])) = l := by
  apply List.ext_getElem?
  intro i
  by_cases h : i < l.length
  · rw [List.getElem?_map, List.getElem?_range h]
    simp [h]
  · rw [List.getElem?_eq_none (by simpa using Nat.le_of_not_lt h), List.getElem?_eq_none (by omega)]
theorem pk_eq (marks : List Nat) (m : Nat) (l : List Ed) (o : Nat) (q : Ed → Bool) (h : ∀ (i : Nat) (e : Ed), l[i]? = some e → decide (marks[o + i]? = some m) = q e) : pk marks m l o = l.filter q := by
  have e : l.filter q = ((List.range l.length).map fun i => l.getD i (0, [], [])).filter q := by rw [getD_map]
  rw [e, List.filter_map]
  unfold pk
  congr 1
  refine List.filter_congr fun i hi => ?_
  have hi := List.mem_range.mp hi
  rw [h i l[i] (List.getElem?_eq_getElem hi)]
  simp [hi]
theorem pk_len (marks : List Nat) (m : Nat) (l : List Ed) (o : Nat) : (pk marks m l o).length ≤ l.length := by
  unfold pk
  rw [List.length_map]
  exact Nat.le_trans (List.length_filter_le _ _) (by simp)
def sr (b o1 o2 : List Nat) (A C X Y : List Ed) (marks : List Nat) (s9 s10 s11 s12 s13 s15 s16 s17 s18 s19 s20 s21 : Option W) : Sl :=
  [some (.str b), some (.str o1), some (.str o2), some (encE A), some (encE C), some (.lst (X.map enc)), some (.lst (Y.map enc)), some (.lst (nmk marks)), some (.bl false), s9, s10, s11, s12, s13, some (.ref 0), s15, s16, s17, s18, s19, s20, s21, none, none, none, none]
/-- what goes into a row: in their places, within the region -/
structure Inn (base : List Nat) (b e : Nat) (xs : List Ed) : Prop where
  sp : sep xs
  lo : ∀ x ∈ xs, b ≤ x.1
  hi : ∀ x ∈ xs, x.1 + x.2.1.length ≤ e
  ty : ∀ x ∈ xs, tiny x
theorem Inn.up {base : List Nat} {b e : Nat} {xs : List Ed} (h : Inn base b e xs) : (xs.map (shf b)).Pairwise fun x y => x.1 + x.2.1.length < y.1 := by
  refine List.pairwise_map.mpr (List.Pairwise.imp_of_mem (fun {x y} hx hy hlt => ?_) h.sp)
  have := h.lo x hx
  have := h.lo y hy
  show x.1 - b + x.2.1.length < y.1 - b
  omega
theorem Inn.don {base : List Nat} {b e : Nat} {xs : List Ed} (h : Inn base b e xs) (he : e ≤ base.length) : don (cutB base b e) (srt eK (xs.map (shf b))) = app (cutB base b e) 0 (xs.map (shf b)) := by
  have hu := h.up
  rw [srt_id eK (hu.imp fun {x y} h => by show x.1 < y.1; omega)]
  refine don_eq _ _ (lin_sep _ 0 (hu.imp fun h => by omega) fun x hx => ⟨Nat.zero_le _, ?_⟩)
  obtain ⟨y, hy, rfl⟩ := List.mem_map.mp hx
  have := h.lo y hy
  have := h.hi y hy
  have hl : (cutB base b e).length = e - b := by simp only [cutB, List.length_take, List.length_drop]; omega
  rw [hl]
  show y.1 - b + y.2.1.length ≤ e - b
  omega
theorem rng0_map (m : Nat) : rngL 0 (m : Int) = (List.range m).map fun i : Nat => W.int (i : Nat) := by simp [rngL]
theorem end_set (R : O) (tl : List O) (x y : O) : (R :: (tl ++ [x])).set (tl.length + 1) y = R :: (tl ++ [y]) := by simp
theorem end_at (R : O) (tl : List O) (x : O) : (R :: (tl ++ [x]))[tl.length + 1]? = some x := by simp
section
variable (n : Nat) (b o1 o2 : List Nat) (A C X Y : List Ed) (marks : List Nat) (hb : b.length ≤ 100) (zX : X.length ≤ 200) (zY : Y.length ≤ 200)
include hb zX zY
theorem sd16 (bg en : Nat) (s9 s10 s11 s12 s13 s15 s16 s17 : Option W) (r : Nat) (Dn : List W) (xs : List Ed) (zx : xs.length ≤ 400) (h : Inn b bg en xs) (he : en ≤ b.length) (hD : Dn.length ≤ 5) (G : List O) (hG : G[r]? = some (.lst Dn)) :
    exB (cl (n + 1)) gk wf b16_2 (sr b o1 o2 A C X Y marks s9 s10 s11 s12 s13 s15 s16 s17 (some (.int (bg : Nat))) (some (.int (en : Nat))) (some (.ref r)) (some (.lst (xs.map enc)))) G
      = .ok (.nx (sr b o1 o2 A C X Y marks s9 s10 s11 s12 s13 s15 s16 s17 (some (.int (bg : Nat))) (some (.int (en : Nat))) (some (.ref r)) (some (.lst (xs.map enc))))) (G.set r (.lst (Dn ++ [.str (app (cutB b bg en) 0 (xs.map (shf bg)))]))) := by
  have e1 := lcL_ty (asg := fun x G => asgT (cl (n + 1)) gk (.tp (.cons (.nm 23) (.cons (.nm 24) (.cons (.nm 25) .nil)))) x (sr b o1 o2 A C X Y marks s9 s10 s11 s12 s13 s15 s16 s17 (some (.int (bg : Nat))) (some (.int (en : Nat))) (some (.ref r)) (some (.lst (xs.map enc)))) G) (cd := fun sw1 G => evC (cl (n + 1)) gk .no sw1 G) (e := fun sw1 G => ev (cl (n + 1)) gk e16_1 sw1 G)
    (s := ⟨xs.map enc, none⟩) (G := G) rfl enc (fun u => true) (fun u => enc (shf bg u)) xs [] (by simp; omega) fun x hx => by
      refine ⟨(((sr b o1 o2 A C X Y marks s9 s10 s11 s12 s13 s15 s16 s17 (some (.int (bg : Nat))) (some (.int (en : Nat))) (some (.ref r)) (some (.lst (xs.map enc)))).set 23 (some (.int (x.1 : Nat)))).set 24 (some (.str x.2.1))).set 25 (some (.str x.2.2)), by simp (maxSteps := 4000000) [ev, evs, evT, evO, evC, evI, asgT, asgTs, evH, pickH, ex, exB, runD, look, seqOf, isKds, isKd, szOk, bnd_ok, bnd_exc, noX_ok, wipe, st_mkt, st_mkf, st_addi, st_adds, st_addt, st_auI, st_auS, st_sub, st_mul, st_fdiv, st_mod, st_pow, st_cat, st_repl, st_reps, st_lt, st_le, st_gt, st_ge, st_eqi, st_nei, st_eqs, st_nes, st_idxL, st_idxS, st_idxT, st_idxs, at_n, at_0, at_1, at_2, at_m1, st_slcL, st_slcT, st_slcs, cut_nn, cut_n, cut_from, cut_1, cut_to1, st_lens, st_lenL, st_lenS, st_lenT, st_inti, st_intb, st_min2, st_max2, st_sumL, st_allL, st_anyL, st_tupL, st_tupT, st_joinL, st_rcvj, st_sh, st_idxr, st_lenr, st_tupr, st_appr, st_rcvr, st_joinr, st_setr, mulOk_fm, mulOk_r, mulOk_l, st_eq, st_ne, W.eq, W.eqs, W.pl, W.pls, W.dep, W.deps, enc, sr], by simp (maxSteps := 4000000) [ev, evs, evT, evO, evC, evI, asgT, asgTs, evH, pickH, ex, exB, runD, look, seqOf, isKds, isKd, szOk, bnd_ok, bnd_exc, noX_ok, wipe, st_mkt, st_mkf, st_addi, st_adds, st_addt, st_auI, st_auS, st_sub, st_mul, st_fdiv, st_mod, st_pow, st_cat, st_repl, st_reps, st_lt, st_le, st_gt, st_ge, st_eqi, st_nei, st_eqs, st_nes, st_idxL, st_idxS, st_idxT, st_idxs, at_n, at_0, at_1, at_2, at_m1, st_slcL, st_slcT, st_slcs, cut_nn, cut_n, cut_from, cut_1, cut_to1, st_lens, st_lenL, st_lenS, st_lenT, st_inti, st_intb, st_min2, st_max2, st_sumL, st_allL, st_anyL, st_tupL, st_tupT, st_joinL, st_rcvj, st_sh, st_idxr, st_lenr, st_tupr, st_appr, st_rcvr, st_joinr, st_setr, mulOk_fm, mulOk_r, mulOk_l, st_eq, st_ne, W.eq, W.eqs, W.pl, W.pls, W.dep, W.deps], fun _ => ?_⟩
      have := h.lo x hx
      have h2 : ((x.1 - bg : Nat) : Int) = (x.1 : Int) - bg := by omega
      simp (maxSteps := 4000000) [ev, evs, evT, evO, evC, evI, asgT, asgTs, evH, pickH, ex, exB, runD, look, seqOf, isKds, isKd, szOk, bnd_ok, bnd_exc, noX_ok, wipe, st_mkt, st_mkf, st_addi, st_adds, st_addt, st_auI, st_auS, st_sub, st_mul, st_fdiv, st_mod, st_pow, st_cat, st_repl, st_reps, st_lt, st_le, st_gt, st_ge, st_eqi, st_nei, st_eqs, st_nes, st_idxL, st_idxS, st_idxT, st_idxs, at_n, at_0, at_1, at_2, at_m1, st_slcL, st_slcT, st_slcs, cut_nn, cut_n, cut_from, cut_1, cut_to1, st_lens, st_lenL, st_lenS, st_lenT, st_inti, st_intb, st_min2, st_max2, st_sumL, st_allL, st_anyL, st_tupL, st_tupT, st_joinL, st_rcvj, st_sh, st_idxr, st_lenr, st_tupr, st_appr, st_rcvr, st_joinr, st_setr, mulOk_fm, mulOk_r, mulOk_l, st_eq, st_ne, W.eq, W.eqs, W.pl, W.pls, W.dep, W.deps, e16_1, enc, shf, h2, sr]
  rw [List.filter_eq_self.mpr (fun _ _ => rfl)] at e1
  have e3 : xs.map (fun u => enc (shf bg u)) = (xs.map (shf bg)).map enc := by rw [List.map_map]; rfl
  rw [e3] at e1
  have zc : (cutB b bg en).length ≤ 100 := by simp only [cutB, List.length_take, List.length_drop]; omega
  have ht := t14 n (cutB b bg en) (xs.map (shf bg)) zc (by rw [List.length_map]; omega) (fun x hx => by
    obtain ⟨y, hy, rfl⟩ := List.mem_map.mp hx
    exact h.ty y hy) (h.up.imp fun {x y} h => by show x.1 ≠ y.1; omega) G
  rw [h.don he] at ht
  have zM : (xs.map (shf bg)).length = xs.length := List.length_map _
  have zM2 : (xs.map (shf bg)).length ≤ 16777216 := by omega
  have zb : b.length ≤ 16777216 := by omega
  have hD' : Dn.length < 16777216 := by omega
  unfold cutB at ht ⊢
  generalize xs.map (shf bg) = M at *
  simp (maxSteps := 4000000) [ev, evs, evT, evO, evC, evI, asgT, asgTs, evH, pickH, ex, exB, runD, look, seqOf, isKds, isKd, szOk, bnd_ok, bnd_exc, noX_ok, wipe, st_mkt, st_mkf, st_addi, st_adds, st_addt, st_auI, st_auS, st_sub, st_mul, st_fdiv, st_mod, st_pow, st_cat, st_repl, st_reps, st_lt, st_le, st_gt, st_ge, st_eqi, st_nei, st_eqs, st_nes, st_idxL, st_idxS, st_idxT, st_idxs, at_n, at_0, at_1, at_2, at_m1, st_slcL, st_slcT, st_slcs, cut_nn, cut_n, cut_from, cut_1, cut_to1, st_lens, st_lenL, st_lenS, st_lenT, st_inti, st_intb, st_min2, st_max2, st_sumL, st_allL, st_anyL, st_tupL, st_tupT, st_joinL, st_rcvj, st_sh, st_idxr, st_lenr, st_tupr, st_appr, st_rcvr, st_joinr, st_setr, mulOk_fm, mulOk_r, mulOk_l, st_eq, st_ne, W.eq, W.eqs, W.pl, W.pls, W.dep, W.deps, sr] at e1
  simp (maxSteps := 4000000) [ev, evs, evT, evO, evC, evI, asgT, asgTs, evH, pickH, ex, exB, runD, look, seqOf, isKds, isKd, szOk, bnd_ok, bnd_exc, noX_ok, wipe, st_mkt, st_mkf, st_addi, st_adds, st_addt, st_auI, st_auS, st_sub, st_mul, st_fdiv, st_mod, st_pow, st_cat, st_repl, st_reps, st_lt, st_le, st_gt, st_ge, st_eqi, st_nei, st_eqs, st_nes, st_idxL, st_idxS, st_idxT, st_idxs, at_n, at_0, at_1, at_2, at_m1, st_slcL, st_slcT, st_slcs, cut_nn, cut_n, cut_from, cut_1, cut_to1, st_lens, st_lenL, st_lenS, st_lenT, st_inti, st_intb, st_min2, st_max2, st_sumL, st_allL, st_anyL, st_tupL, st_tupT, st_joinL, st_rcvj, st_sh, st_idxr, st_lenr, st_tupr, st_appr, st_rcvr, st_joinr, st_setr, mulOk_fm, mulOk_r, mulOk_l, st_eq, st_ne, W.eq, W.eqs, W.pl, W.pls, W.dep, W.deps, b16_2, sr, e1, ht, zb, hD', zM2, hG]
theorem sb16 (m : Nat) (xs ys : List Ed) (hx : pk marks m X 0 = xs) (hy : pk marks m Y X.length = ys) (hne : xs ++ ys ≠ []) (sx : sep xs) (sy : sep ys) (hend : ∀ e ∈ xs ++ ys, e.1 + e.2.1.length ≤ b.length) (hty : ∀ e ∈ xs ++ ys, tiny e) (hml : marks.length = X.length + Y.length) (s9 s10 s11 s12 s13 s16 s17 s18 s19 s20 s21 : Option W) (Rs : List Row) (zR : Rs.length ≤ 1000) (tl : List O) :
    ∃ s16' s17' s18' s19' s20' s21' tl', exB (cl (n + 2)) gk wf b16_7 (sr b o1 o2 A C X Y marks s9 s10 s11 s12 s13 (some (.int (m : Nat))) s16 s17 s18 s19 s20 s21) (.lst (Rs.map encR) :: tl)
      = .ok (.nx (sr b o1 o2 A C X Y marks s9 s10 s11 s12 s13 (some (.int (m : Nat))) s16' s17' s18' s19' s20' s21')) (.lst ((Rs ++ [rowOf b xs ys]).map encR) :: tl') := by
  have hxl := pk_len marks m X 0
  have hyl := pk_len marks m Y X.length
  rw [hx] at hxl
  rw [hy] at hyl
  have z1 : X.length ≤ 16777216 := by omega
  have z2 : Y.length ≤ 16777216 := by omega
  have e1 := lcL_ty (asg := fun x G => asgT (cl (n + 2)) gk (.nm 9) x (sr b o1 o2 A C X Y marks none s10 s11 s12 s13 (some (.int (m : Nat))) s16 s17 s18 s19 s20 s21) G) (cd := fun sw1 G => evC (cl (n + 2)) gk (.yes (.cmp .eq (.idx (.v 7) (.v 9)) (.v 15))) sw1 G) (e := fun sw1 G => ev (cl (n + 2)) gk e16_6 sw1 G)
    (s := ⟨rngL 0 (X.length : Nat), none⟩) (G := .lst (Rs.map encR) :: tl) rfl (fun i : Nat => W.int (i : Nat)) (fun i => decide (marks[0 + i]? = some m)) (fun i => enc (X.getD i (0, [], []))) (List.range X.length) [] (by simp; omega) fun i hi => by
      have hi := List.mem_range.mp hi
      have hm : marks[i]? = some marks[i] := List.getElem?_eq_getElem (by omega)
      generalize marks[i] = mi at hm
      have hm2 := nmk_at hm
      have hX : (X.map enc)[i]? = some (enc X[i]) := by simp [hi]
      have hg : X.getD i (0, [], []) = X[i] := by simp [hi]
      refine ⟨sr b o1 o2 A C X Y marks (some (.int (i : Nat))) s10 s11 s12 s13 (some (.int (m : Nat))) s16 s17 s18 s19 s20 s21, by simp [ev, evs, evT, evO, evC, evI, asgT, asgTs, evH, pickH, ex, exB, runD, look, seqOf, isKds, isKd, szOk, bnd_ok, bnd_exc, noX_ok, wipe, st_mkt, st_mkf, st_addi, st_adds, st_addt, st_auI, st_auS, st_sub, st_mul, st_fdiv, st_mod, st_pow, st_cat, st_repl, st_reps, st_lt, st_le, st_gt, st_ge, st_eqi, st_nei, st_eqs, st_nes, st_idxL, st_idxS, st_idxT, st_idxs, at_n, at_0, at_1, at_2, at_m1, st_slcL, st_slcT, st_slcs, cut_nn, cut_n, cut_from, cut_1, cut_to1, st_lens, st_lenL, st_lenS, st_lenT, st_inti, st_intb, st_min2, st_max2, st_sumL, st_allL, st_anyL, st_tupL, st_tupT, st_joinL, st_rcvj, st_sh, st_idxr, st_lenr, st_tupr, st_appr, st_rcvr, st_joinr, st_setr, mulOk_fm, mulOk_r, mulOk_l, st_eq, st_ne, W.eq, W.eqs, W.pl, W.pls, W.dep, W.deps, sr], ?_, fun _ => by rw [hg]; simp [ev, evs, evT, evO, evC, evI, asgT, asgTs, evH, pickH, ex, exB, runD, look, seqOf, isKds, isKd, szOk, bnd_ok, bnd_exc, noX_ok, wipe, st_mkt, st_mkf, st_addi, st_adds, st_addt, st_auI, st_auS, st_sub, st_mul, st_fdiv, st_mod, st_pow, st_cat, st_repl, st_reps, st_lt, st_le, st_gt, st_ge, st_eqi, st_nei, st_eqs, st_nes, st_idxL, st_idxS, st_idxT, st_idxs, at_n, at_0, at_1, at_2, at_m1, st_slcL, st_slcT, st_slcs, cut_nn, cut_n, cut_from, cut_1, cut_to1, st_lens, st_lenL, st_lenS, st_lenT, st_inti, st_intb, st_min2, st_max2, st_sumL, st_allL, st_anyL, st_tupL, st_tupT, st_joinL, st_rcvj, st_sh, st_idxr, st_lenr, st_tupr, st_appr, st_rcvr, st_joinr, st_setr, mulOk_fm, mulOk_r, mulOk_l, st_eq, st_ne, W.eq, W.eqs, W.pl, W.pls, W.dep, W.deps, e16_6, sr, hX]⟩
      by_cases h : mi = m
      · subst h
        simp [ev, evs, evT, evO, evC, evI, asgT, asgTs, evH, pickH, ex, exB, runD, look, seqOf, isKds, isKd, szOk, bnd_ok, bnd_exc, noX_ok, wipe, st_mkt, st_mkf, st_addi, st_adds, st_addt, st_auI, st_auS, st_sub, st_mul, st_fdiv, st_mod, st_pow, st_cat, st_repl, st_reps, st_lt, st_le, st_gt, st_ge, st_eqi, st_nei, st_eqs, st_nes, st_idxL, st_idxS, st_idxT, st_idxs, at_n, at_0, at_1, at_2, at_m1, st_slcL, st_slcT, st_slcs, cut_nn, cut_n, cut_from, cut_1, cut_to1, st_lens, st_lenL, st_lenS, st_lenT, st_inti, st_intb, st_min2, st_max2, st_sumL, st_allL, st_anyL, st_tupL, st_tupT, st_joinL, st_rcvj, st_sh, st_idxr, st_lenr, st_tupr, st_appr, st_rcvr, st_joinr, st_setr, mulOk_fm, mulOk_r, mulOk_l, st_eq, st_ne, W.eq, W.eqs, W.pl, W.pls, W.dep, W.deps, sr, hm2, hm]
      · have h' : ¬ (mi : Int) = m := by omega
        simp [ev, evs, evT, evO, evC, evI, asgT, asgTs, evH, pickH, ex, exB, runD, look, seqOf, isKds, isKd, szOk, bnd_ok, bnd_exc, noX_ok, wipe, st_mkt, st_mkf, st_addi, st_adds, st_addt, st_auI, st_auS, st_sub, st_mul, st_fdiv, st_mod, st_pow, st_cat, st_repl, st_reps, st_lt, st_le, st_gt, st_ge, st_eqi, st_nei, st_eqs, st_nes, st_idxL, st_idxS, st_idxT, st_idxs, at_n, at_0, at_1, at_2, at_m1, st_slcL, st_slcT, st_slcs, cut_nn, cut_n, cut_from, cut_1, cut_to1, st_lens, st_lenL, st_lenS, st_lenT, st_inti, st_intb, st_min2, st_max2, st_sumL, st_allL, st_anyL, st_tupL, st_tupT, st_joinL, st_rcvj, st_sh, st_idxr, st_lenr, st_tupr, st_appr, st_rcvr, st_joinr, st_setr, mulOk_fm, mulOk_r, mulOk_l, st_eq, st_ne, W.eq, W.eqs, W.pl, W.pls, W.dep, W.deps, sr, hm2, hm, h, h']
  rw [← rng0_map] at e1
  have f1 : ((List.range X.length).filter fun i => decide (marks[0 + i]? = some m)).map (fun i => enc (X.getD i (0, [], []))) = xs.map enc := by
    rw [← hx, pk, List.map_map]
    rfl
  rw [f1] at e1
  have e2 := lcL_ty (asg := fun x G => asgT (cl (n + 2)) gk (.nm 10) x (sr b o1 o2 A C X Y marks s9 none s11 s12 s13 (some (.int (m : Nat))) (some (.lst (xs.map enc))) s17 s18 s19 s20 s21) G) (cd := fun sw1 G => evC (cl (n + 2)) gk (.yes (.cmp .eq (.idx (.v 7) (.bin .add (.blt .len (.cons (.v 5) .nil)) (.v 10))) (.v 15))) sw1 G) (e := fun sw1 G => ev (cl (n + 2)) gk e16_5 sw1 G)
    (s := ⟨rngL 0 (Y.length : Nat), none⟩) (G := .lst (Rs.map encR) :: tl) rfl (fun i : Nat => W.int (i : Nat)) (fun i => decide (marks[X.length + i]? = some m)) (fun i => enc (Y.getD i (0, [], []))) (List.range Y.length) [] (by simp; omega) fun i hi => by
      have hi := List.mem_range.mp hi
      have hm : marks[X.length + i]? = some marks[X.length + i] := List.getElem?_eq_getElem (by omega)
      generalize marks[X.length + i] = mi at hm
      have hm2 := nmk_at hm
      have hk : ((X.length : Int) + (i : Int)) = ((X.length + i : Nat) : Int) := by omega
      have atk : atW (nmk marks) ((X.length : Int) + (i : Int)) = some (.int (mi : Nat)) := by rw [hk, at_n]; exact hm2
      have hY : (Y.map enc)[i]? = some (enc Y[i]) := by simp [hi]
      have hg : Y.getD i (0, [], []) = Y[i] := by simp [hi]
      refine ⟨sr b o1 o2 A C X Y marks s9 (some (.int (i : Nat))) s11 s12 s13 (some (.int (m : Nat))) (some (.lst (xs.map enc))) s17 s18 s19 s20 s21, by simp [ev, evs, evT, evO, evC, evI, asgT, asgTs, evH, pickH, ex, exB, runD, look, seqOf, isKds, isKd, szOk, bnd_ok, bnd_exc, noX_ok, wipe, st_mkt, st_mkf, st_addi, st_adds, st_addt, st_auI, st_auS, st_sub, st_mul, st_fdiv, st_mod, st_pow, st_cat, st_repl, st_reps, st_lt, st_le, st_gt, st_ge, st_eqi, st_nei, st_eqs, st_nes, st_idxL, st_idxS, st_idxT, st_idxs, at_n, at_0, at_1, at_2, at_m1, st_slcL, st_slcT, st_slcs, cut_nn, cut_n, cut_from, cut_1, cut_to1, st_lens, st_lenL, st_lenS, st_lenT, st_inti, st_intb, st_min2, st_max2, st_sumL, st_allL, st_anyL, st_tupL, st_tupT, st_joinL, st_rcvj, st_sh, st_idxr, st_lenr, st_tupr, st_appr, st_rcvr, st_joinr, st_setr, mulOk_fm, mulOk_r, mulOk_l, st_eq, st_ne, W.eq, W.eqs, W.pl, W.pls, W.dep, W.deps, sr], ?_, fun _ => by rw [hg]; simp [ev, evs, evT, evO, evC, evI, asgT, asgTs, evH, pickH, ex, exB, runD, look, seqOf, isKds, isKd, szOk, bnd_ok, bnd_exc, noX_ok, wipe, st_mkt, st_mkf, st_addi, st_adds, st_addt, st_auI, st_auS, st_sub, st_mul, st_fdiv, st_mod, st_pow, st_cat, st_repl, st_reps, st_lt, st_le, st_gt, st_ge, st_eqi, st_nei, st_eqs, st_nes, st_idxL, st_idxS, st_idxT, st_idxs, at_n, at_0, at_1, at_2, at_m1, st_slcL, st_slcT, st_slcs, cut_nn, cut_n, cut_from, cut_1, cut_to1, st_lens, st_lenL, st_lenS, st_lenT, st_inti, st_intb, st_min2, st_max2, st_sumL, st_allL, st_anyL, st_tupL, st_tupT, st_joinL, st_rcvj, st_sh, st_idxr, st_lenr, st_tupr, st_appr, st_rcvr, st_joinr, st_setr, mulOk_fm, mulOk_r, mulOk_l, st_eq, st_ne, W.eq, W.eqs, W.pl, W.pls, W.dep, W.deps, e16_5, sr, hY]⟩
      by_cases h : mi = m
      · subst h
        simp [ev, evs, evT, evO, evC, evI, asgT, asgTs, evH, pickH, ex, exB, runD, look, seqOf, isKds, isKd, szOk, bnd_ok, bnd_exc, noX_ok, wipe, st_mkt, st_mkf, st_addi, st_adds, st_addt, st_auI, st_auS, st_sub, st_mul, st_fdiv, st_mod, st_pow, st_cat, st_repl, st_reps, st_lt, st_le, st_gt, st_ge, st_eqi, st_nei, st_eqs, st_nes, st_idxL, st_idxS, st_idxT, st_idxs, at_n, at_0, at_1, at_2, at_m1, st_slcL, st_slcT, st_slcs, cut_nn, cut_n, cut_from, cut_1, cut_to1, st_lens, st_lenL, st_lenS, st_lenT, st_inti, st_intb, st_min2, st_max2, st_sumL, st_allL, st_anyL, st_tupL, st_tupT, st_joinL, st_rcvj, st_sh, st_idxr, st_lenr, st_tupr, st_appr, st_rcvr, st_joinr, st_setr, mulOk_fm, mulOk_r, mulOk_l, st_eq, st_ne, W.eq, W.eqs, W.pl, W.pls, W.dep, W.deps, sr, atk, hm]
      · have h' : ¬ (mi : Int) = m := by omega
        simp [ev, evs, evT, evO, evC, evI, asgT, asgTs, evH, pickH, ex, exB, runD, look, seqOf, isKds, isKd, szOk, bnd_ok, bnd_exc, noX_ok, wipe, st_mkt, st_mkf, st_addi, st_adds, st_addt, st_auI, st_auS, st_sub, st_mul, st_fdiv, st_mod, st_pow, st_cat, st_repl, st_reps, st_lt, st_le, st_gt, st_ge, st_eqi, st_nei, st_eqs, st_nes, st_idxL, st_idxS, st_idxT, st_idxs, at_n, at_0, at_1, at_2, at_m1, st_slcL, st_slcT, st_slcs, cut_nn, cut_n, cut_from, cut_1, cut_to1, st_lens, st_lenL, st_lenS, st_lenT, st_inti, st_intb, st_min2, st_max2, st_sumL, st_allL, st_anyL, st_tupL, st_tupT, st_joinL, st_rcvj, st_sh, st_idxr, st_lenr, st_tupr, st_appr, st_rcvr, st_joinr, st_setr, mulOk_fm, mulOk_r, mulOk_l, st_eq, st_ne, W.eq, W.eqs, W.pl, W.pls, W.dep, W.deps, sr, atk, hm, h, h']
  rw [← rng0_map] at e2
  have f2 : ((List.range Y.length).filter fun i => decide (marks[X.length + i]? = some m)).map (fun i => enc (Y.getD i (0, [], []))) = ys.map enc := by
    rw [← hy, pk, List.map_map]
    rfl
  rw [f2] at e2
  have hxyl : (xs ++ ys).length ≤ 400 := by rw [List.length_append]; omega
  have e3 := lcL_ty (asg := fun x G => asgT (cl (n + 2)) gk (.nm 22) x (sr b o1 o2 A C X Y marks s9 s10 s11 s12 s13 (some (.int (m : Nat))) (some (.lst (xs.map enc))) (some (.lst (ys.map enc))) s18 s19 s20 s21) G) (cd := fun sw1 G => evC (cl (n + 2)) gk .no sw1 G) (e := fun sw1 G => ev (cl (n + 2)) gk e16_4 sw1 G)
    (s := ⟨(xs ++ ys).map enc, none⟩) (G := .lst (Rs.map encR) :: tl) rfl enc (fun e => true) (fun e => W.int ((e.1 : Nat) : Int)) (xs ++ ys) [] (by simp only [List.length_nil]; omega) fun x hx =>
      ⟨(sr b o1 o2 A C X Y marks s9 s10 s11 s12 s13 (some (.int (m : Nat))) (some (.lst (xs.map enc))) (some (.lst (ys.map enc))) s18 s19 s20 s21).set 22 (some (enc x)), by simp [ev, evs, evT, evO, evC, evI, asgT, asgTs, evH, pickH, ex, exB, runD, look, seqOf, isKds, isKd, szOk, bnd_ok, bnd_exc, noX_ok, wipe, st_mkt, st_mkf, st_addi, st_adds, st_addt, st_auI, st_auS, st_sub, st_mul, st_fdiv, st_mod, st_pow, st_cat, st_repl, st_reps, st_lt, st_le, st_gt, st_ge, st_eqi, st_nei, st_eqs, st_nes, st_idxL, st_idxS, st_idxT, st_idxs, at_n, at_0, at_1, at_2, at_m1, st_slcL, st_slcT, st_slcs, cut_nn, cut_n, cut_from, cut_1, cut_to1, st_lens, st_lenL, st_lenS, st_lenT, st_inti, st_intb, st_min2, st_max2, st_sumL, st_allL, st_anyL, st_tupL, st_tupT, st_joinL, st_rcvj, st_sh, st_idxr, st_lenr, st_tupr, st_appr, st_rcvr, st_joinr, st_setr, mulOk_fm, mulOk_r, mulOk_l, st_eq, st_ne, W.eq, W.eqs, W.pl, W.pls, W.dep, W.deps], by simp [ev, evs, evT, evO, evC, evI, asgT, asgTs, evH, pickH, ex, exB, runD, look, seqOf, isKds, isKd, szOk, bnd_ok, bnd_exc, noX_ok, wipe, st_mkt, st_mkf, st_addi, st_adds, st_addt, st_auI, st_auS, st_sub, st_mul, st_fdiv, st_mod, st_pow, st_cat, st_repl, st_reps, st_lt, st_le, st_gt, st_ge, st_eqi, st_nei, st_eqs, st_nes, st_idxL, st_idxS, st_idxT, st_idxs, at_n, at_0, at_1, at_2, at_m1, st_slcL, st_slcT, st_slcs, cut_nn, cut_n, cut_from, cut_1, cut_to1, st_lens, st_lenL, st_lenS, st_lenT, st_inti, st_intb, st_min2, st_max2, st_sumL, st_allL, st_anyL, st_tupL, st_tupT, st_joinL, st_rcvj, st_sh, st_idxr, st_lenr, st_tupr, st_appr, st_rcvr, st_joinr, st_setr, mulOk_fm, mulOk_r, mulOk_l, st_eq, st_ne, W.eq, W.eqs, W.pl, W.pls, W.dep, W.deps], fun _ => by simp [ev, evs, evT, evO, evC, evI, asgT, asgTs, evH, pickH, ex, exB, runD, look, seqOf, isKds, isKd, szOk, bnd_ok, bnd_exc, noX_ok, wipe, st_mkt, st_mkf, st_addi, st_adds, st_addt, st_auI, st_auS, st_sub, st_mul, st_fdiv, st_mod, st_pow, st_cat, st_repl, st_reps, st_lt, st_le, st_gt, st_ge, st_eqi, st_nei, st_eqs, st_nes, st_idxL, st_idxS, st_idxT, st_idxs, at_n, at_0, at_1, at_2, at_m1, st_slcL, st_slcT, st_slcs, cut_nn, cut_n, cut_from, cut_1, cut_to1, st_lens, st_lenL, st_lenS, st_lenT, st_inti, st_intb, st_min2, st_max2, st_sumL, st_allL, st_anyL, st_tupL, st_tupT, st_joinL, st_rcvj, st_sh, st_idxr, st_lenr, st_tupr, st_appr, st_rcvr, st_joinr, st_setr, mulOk_fm, mulOk_r, mulOk_l, st_eq, st_ne, W.eq, W.eqs, W.pl, W.pls, W.dep, W.deps, e16_4, enc, sr]⟩
  rw [List.filter_eq_self.mpr (fun _ _ => rfl)] at e3
  have h1 := min_lo hne (.lst (Rs.map encR) :: tl)
  have h2 := max_hi hne (.lst (Rs.map encR) :: tl)
  have hlo : ∀ e ∈ xs ++ ys, lo (xs ++ ys) ≤ e.1 := fun e he => lo_le he
  have hhi : ∀ e ∈ xs ++ ys, e.1 + e.2.1.length ≤ hi (xs ++ ys) := fun e he => hi_le he
  obtain ⟨em, hem, ehi⟩ := hi_at hne
  have hbl : hi (xs ++ ys) ≤ b.length := by rw [ehi]; exact hend em hem
  have e4 := lcL_ty (asg := fun x G => asgT (cl (n + 2)) gk (.nm 22) x (sr b o1 o2 A C X Y marks s9 s10 s11 s12 s13 (some (.int (m : Nat))) (some (.lst (xs.map enc))) (some (.lst (ys.map enc))) (some (.int (lo (xs ++ ys) : Nat))) s19 s20 s21) G) (cd := fun sw1 G => evC (cl (n + 2)) gk .no sw1 G) (e := fun sw1 G => ev (cl (n + 2)) gk e16_3 sw1 G)
    (s := ⟨(xs ++ ys).map enc, none⟩) (G := .lst (Rs.map encR) :: tl) rfl enc (fun e => true) (fun e => W.int ((e.1 + e.2.1.length : Nat) : Int)) (xs ++ ys) [] (by simp only [List.length_nil]; omega) fun x hx => by
      have hz : x.2.1.length ≤ 16777216 := by have := (hty x hx).1; omega
      exact ⟨(sr b o1 o2 A C X Y marks s9 s10 s11 s12 s13 (some (.int (m : Nat))) (some (.lst (xs.map enc))) (some (.lst (ys.map enc))) (some (.int (lo (xs ++ ys) : Nat))) s19 s20 s21).set 22 (some (enc x)), by simp [ev, evs, evT, evO, evC, evI, asgT, asgTs, evH, pickH, ex, exB, runD, look, seqOf, isKds, isKd, szOk, bnd_ok, bnd_exc, noX_ok, wipe, st_mkt, st_mkf, st_addi, st_adds, st_addt, st_auI, st_auS, st_sub, st_mul, st_fdiv, st_mod, st_pow, st_cat, st_repl, st_reps, st_lt, st_le, st_gt, st_ge, st_eqi, st_nei, st_eqs, st_nes, st_idxL, st_idxS, st_idxT, st_idxs, at_n, at_0, at_1, at_2, at_m1, st_slcL, st_slcT, st_slcs, cut_nn, cut_n, cut_from, cut_1, cut_to1, st_lens, st_lenL, st_lenS, st_lenT, st_inti, st_intb, st_min2, st_max2, st_sumL, st_allL, st_anyL, st_tupL, st_tupT, st_joinL, st_rcvj, st_sh, st_idxr, st_lenr, st_tupr, st_appr, st_rcvr, st_joinr, st_setr, mulOk_fm, mulOk_r, mulOk_l, st_eq, st_ne, W.eq, W.eqs, W.pl, W.pls, W.dep, W.deps], by simp [ev, evs, evT, evO, evC, evI, asgT, asgTs, evH, pickH, ex, exB, runD, look, seqOf, isKds, isKd, szOk, bnd_ok, bnd_exc, noX_ok, wipe, st_mkt, st_mkf, st_addi, st_adds, st_addt, st_auI, st_auS, st_sub, st_mul, st_fdiv, st_mod, st_pow, st_cat, st_repl, st_reps, st_lt, st_le, st_gt, st_ge, st_eqi, st_nei, st_eqs, st_nes, st_idxL, st_idxS, st_idxT, st_idxs, at_n, at_0, at_1, at_2, at_m1, st_slcL, st_slcT, st_slcs, cut_nn, cut_n, cut_from, cut_1, cut_to1, st_lens, st_lenL, st_lenS, st_lenT, st_inti, st_intb, st_min2, st_max2, st_sumL, st_allL, st_anyL, st_tupL, st_tupT, st_joinL, st_rcvj, st_sh, st_idxr, st_lenr, st_tupr, st_appr, st_rcvr, st_joinr, st_setr, mulOk_fm, mulOk_r, mulOk_l, st_eq, st_ne, W.eq, W.eqs, W.pl, W.pls, W.dep, W.deps], fun _ => by simp [ev, evs, evT, evO, evC, evI, asgT, asgTs, evH, pickH, ex, exB, runD, look, seqOf, isKds, isKd, szOk, bnd_ok, bnd_exc, noX_ok, wipe, st_mkt, st_mkf, st_addi, st_adds, st_addt, st_auI, st_auS, st_sub, st_mul, st_fdiv, st_mod, st_pow, st_cat, st_repl, st_reps, st_lt, st_le, st_gt, st_ge, st_eqi, st_nei, st_eqs, st_nes, st_idxL, st_idxS, st_idxT, st_idxs, at_n, at_0, at_1, at_2, at_m1, st_slcL, st_slcT, st_slcs, cut_nn, cut_n, cut_from, cut_1, cut_to1, st_lens, st_lenL, st_lenS, st_lenT, st_inti, st_intb, st_min2, st_max2, st_sumL, st_allL, st_anyL, st_tupL, st_tupT, st_joinL, st_rcvj, st_sh, st_idxr, st_lenr, st_tupr, st_appr, st_rcvr, st_joinr, st_setr, mulOk_fm, mulOk_r, mulOk_l, st_eq, st_ne, W.eq, W.eqs, W.pl, W.pls, W.dep, W.deps, e16_3, enc, sr, hz]⟩
  rw [List.filter_eq_self.mpr (fun _ _ => rfl)] at e4
  unfold rowOf
  dsimp only
  have ix : Inn b (lo (xs ++ ys)) (hi (xs ++ ys)) xs := ⟨sx, fun x hx => hlo x (List.mem_append_left _ hx), fun x hx => hhi x (List.mem_append_left _ hx), fun x hx => hty x (List.mem_append_left _ hx)⟩
  have iy : Inn b (lo (xs ++ ys)) (hi (xs ++ ys)) ys := ⟨sy, fun x hx => hlo x (List.mem_append_right _ hx), fun x hx => hhi x (List.mem_append_right _ hx), fun x hx => hty x (List.mem_append_right _ hx)⟩
  have zL0 : ((xs ++ ys).map fun e : Ed => W.int ((e.1 : Nat) : Int)).length ≤ 16777216 := by rw [List.length_map]; omega
  have zL1 : ((xs ++ ys).map fun e : Ed => W.int ((e.1 + e.2.1.length : Nat) : Int)).length ≤ 16777216 := by rw [List.length_map]; omega
  generalize lo (xs ++ ys) = bg at *
  generalize hi (xs ++ ys) = en at *
  have k0 := sd16 (n + 1) b o1 o2 A C X Y marks hb zX zY bg en s9 s10 s11 s12 s13 (some (.int (m : Nat))) (some (.lst (xs.map enc))) (some (.lst (ys.map enc))) (tl.length + 1) [] xs (by omega) ix hbl (by simp) (.lst (Rs.map encR) :: (tl ++ [.lst []])) (end_at _ _ _)
  rw [end_set] at k0
  have k1 := sd16 (n + 1) b o1 o2 A C X Y marks hb zX zY bg en s9 s10 s11 s12 s13 (some (.int (m : Nat))) (some (.lst (xs.map enc))) (some (.lst (ys.map enc))) (tl.length + 1) [.str (app (cutB b bg en) 0 (xs.map (shf bg)))] ys (by omega) iy hbl (by simp) (.lst (Rs.map encR) :: (tl ++ [.lst [.str (app (cutB b bg en) 0 (xs.map (shf bg)))]])) (end_at _ _ _)
  rw [end_set] at k1
  rw [List.nil_append] at k0
  have hl : forL (fun w sw G => asgT (cl (n + 2)) gk (.nm 21) w sw G) (fun sw G => exB (cl (n + 2)) gk wf b16_2 sw G) ⟨[.lst (xs.map enc), .lst (ys.map enc)], none⟩ [.lst (xs.map enc), .lst (ys.map enc)] (sr b o1 o2 A C X Y marks s9 s10 s11 s12 s13 (some (.int (m : Nat))) (some (.lst (xs.map enc))) (some (.lst (ys.map enc))) (some (.int (bg : Nat))) (some (.int (en : Nat))) (some (.ref (tl.length + 1))) s21) (.lst (Rs.map encR) :: (tl ++ [.lst []]))
      = .ok (.nx (sr b o1 o2 A C X Y marks s9 s10 s11 s12 s13 (some (.int (m : Nat))) (some (.lst (xs.map enc))) (some (.lst (ys.map enc))) (some (.int (bg : Nat))) (some (.int (en : Nat))) (some (.ref (tl.length + 1))) (some (.lst (ys.map enc))))) (.lst (Rs.map encR) :: (tl ++ [.lst [.str (app (cutB b bg en) 0 (xs.map (shf bg))), .str (app (cutB b bg en) 0 (ys.map (shf bg)))]])) := by
    rw [forL_ok (s := ⟨[.lst (xs.map enc), .lst (ys.map enc)], none⟩) rfl (sw1 := sr b o1 o2 A C X Y marks s9 s10 s11 s12 s13 (some (.int (m : Nat))) (some (.lst (xs.map enc))) (some (.lst (ys.map enc))) (some (.int (bg : Nat))) (some (.int (en : Nat))) (some (.ref (tl.length + 1))) (some (.lst (xs.map enc)))) (by simp [ev, evs, evT, evO, evC, evI, asgT, asgTs, evH, pickH, ex, exB, runD, look, seqOf, isKds, isKd, szOk, bnd_ok, bnd_exc, noX_ok, wipe, st_mkt, st_mkf, st_addi, st_adds, st_addt, st_auI, st_auS, st_sub, st_mul, st_fdiv, st_mod, st_pow, st_cat, st_repl, st_reps, st_lt, st_le, st_gt, st_ge, st_eqi, st_nei, st_eqs, st_nes, st_idxL, st_idxS, st_idxT, st_idxs, at_n, at_0, at_1, at_2, at_m1, st_slcL, st_slcT, st_slcs, cut_nn, cut_n, cut_from, cut_1, cut_to1, st_lens, st_lenL, st_lenS, st_lenT, st_inti, st_intb, st_min2, st_max2, st_sumL, st_allL, st_anyL, st_tupL, st_tupT, st_joinL, st_rcvj, st_sh, st_idxr, st_lenr, st_tupr, st_appr, st_rcvr, st_joinr, st_setr, mulOk_fm, mulOk_r, mulOk_l, st_eq, st_ne, W.eq, W.eqs, W.pl, W.pls, W.dep, W.deps, sr]) k0,
      forL_ok (s := ⟨[.lst (xs.map enc), .lst (ys.map enc)], none⟩) rfl (sw1 := sr b o1 o2 A C X Y marks s9 s10 s11 s12 s13 (some (.int (m : Nat))) (some (.lst (xs.map enc))) (some (.lst (ys.map enc))) (some (.int (bg : Nat))) (some (.int (en : Nat))) (some (.ref (tl.length + 1))) (some (.lst (ys.map enc)))) (by simp [ev, evs, evT, evO, evC, evI, asgT, asgTs, evH, pickH, ex, exB, runD, look, seqOf, isKds, isKd, szOk, bnd_ok, bnd_exc, noX_ok, wipe, st_mkt, st_mkf, st_addi, st_adds, st_addt, st_auI, st_auS, st_sub, st_mul, st_fdiv, st_mod, st_pow, st_cat, st_repl, st_reps, st_lt, st_le, st_gt, st_ge, st_eqi, st_nei, st_eqs, st_nes, st_idxL, st_idxS, st_idxT, st_idxs, at_n, at_0, at_1, at_2, at_m1, st_slcL, st_slcT, st_slcs, cut_nn, cut_n, cut_from, cut_1, cut_to1, st_lens, st_lenL, st_lenS, st_lenT, st_inti, st_intb, st_min2, st_max2, st_sumL, st_allL, st_anyL, st_tupL, st_tupT, st_joinL, st_rcvj, st_sh, st_idxr, st_lenr, st_tupr, st_appr, st_rcvr, st_joinr, st_setr, mulOk_fm, mulOk_r, mulOk_l, st_eq, st_ne, W.eq, W.eqs, W.pl, W.pls, W.dep, W.deps, sr]) k1, forL_nil (by rfl)]
    rfl
  refine ⟨some (.lst (xs.map enc)), some (.lst (ys.map enc)), some (.int (bg : Nat)), some (.int (en : Nat)), some (.ref (tl.length + 1)), some (.lst (ys.map enc)), tl ++ [.lst [.str (app (cutB b bg en) 0 (xs.map (shf bg))), .str (app (cutB b bg en) 0 (ys.map (shf bg)))]], ?_⟩
  rw [List.map_append]
  generalize app (cutB b bg en) 0 (xs.map (shf bg)) = T0 at *
  generalize app (cutB b bg en) 0 (ys.map (shf bg)) = T1 at *
  generalize (xs ++ ys).map (fun e : Ed => W.int ((e.1 : Nat) : Int)) = L0 at *
  generalize (xs ++ ys).map (fun e : Ed => W.int ((e.1 + e.2.1.length : Nat) : Int)) = L1 at *
  rw [List.map_append] at e3 e4
  have zb : b.length ≤ 16777216 := by omega
  have zxs : xs.length ≤ 16777216 := by omega
  have zys : ys.length ≤ 16777216 := by omega
  have zxy : xs.length + ys.length ≤ 16777216 := by rw [List.length_append] at hxyl; omega
  have s1 : small (X.length : Int) = true := small_nat _ (by omega)
  have s2 : small (Y.length : Int) = true := small_nat _ (by omega)
  have zR' : Rs.length < 16777216 := by omega
  have hat := end_at (.lst (Rs.map encR)) tl (.lst [.str T0, .str T1])
  unfold cutB
  simp [ev, evs, evT, evO, evC, evI, asgT, asgTs, evH, pickH, ex, exB, runD, look, seqOf, isKds, isKd, szOk, bnd_ok, bnd_exc, noX_ok, wipe, st_mkt, st_mkf, st_addi, st_adds, st_addt, st_auI, st_auS, st_sub, st_mul, st_fdiv, st_mod, st_pow, st_cat, st_repl, st_reps, st_lt, st_le, st_gt, st_ge, st_eqi, st_nei, st_eqs, st_nes, st_idxL, st_idxS, st_idxT, st_idxs, at_n, at_0, at_1, at_2, at_m1, st_slcL, st_slcT, st_slcs, cut_nn, cut_n, cut_from, cut_1, cut_to1, st_lens, st_lenL, st_lenS, st_lenT, st_inti, st_intb, st_min2, st_max2, st_sumL, st_allL, st_anyL, st_tupL, st_tupT, st_joinL, st_rcvj, st_sh, st_idxr, st_lenr, st_tupr, st_appr, st_rcvr, st_joinr, st_setr, mulOk_fm, mulOk_r, mulOk_l, st_eq, st_ne, W.eq, W.eqs, W.pl, W.pls, W.dep, W.deps, sr] at e1 e2 e3 e4 hl
  simp [ev, evs, evT, evO, evC, evI, asgT, asgTs, evH, pickH, ex, exB, runD, look, seqOf, isKds, isKd, szOk, bnd_ok, bnd_exc, noX_ok, wipe, st_mkt, st_mkf, st_addi, st_adds, st_addt, st_auI, st_auS, st_sub, st_mul, st_fdiv, st_mod, st_pow, st_cat, st_repl, st_reps, st_lt, st_le, st_gt, st_ge, st_eqi, st_nei, st_eqs, st_nes, st_idxL, st_idxS, st_idxT, st_idxs, at_n, at_0, at_1, at_2, at_m1, st_slcL, st_slcT, st_slcs, cut_nn, cut_n, cut_from, cut_1, cut_to1, st_lens, st_lenL, st_lenS, st_lenT, st_inti, st_intb, st_min2, st_max2, st_sumL, st_allL, st_anyL, st_tupL, st_tupT, st_joinL, st_rcvj, st_sh, st_idxr, st_lenr, st_tupr, st_appr, st_rcvr, st_joinr, st_setr, mulOk_fm, mulOk_r, mulOk_l, st_eq, st_ne, W.eq, W.eqs, W.pl, W.pls, W.dep, W.deps, b16_7, sr, e1, e2, e3, e4, h1, h2, hl, s1, s2, zb, zxs, zys, zxy, zL0, zL1, zR', encR]
end
end K64
end

section
set_option linter.all false
set_option maxRecDepth 100000
set_option maxHeartbeats 8000000
/-! k64: the law's own merge tells what is due. -/
namespace K64
open T2
theorem count_two (m : Nat) : ∀ l : List Nat, 1 < l.count m → ∃ a b : Nat, a < b ∧ l[a]? = some m ∧ l[b]? = some m
  | [], h => by simp at h
  | x :: l, h => by
    rw [List.count_cons] at h
    by_cases e : x = m
    · subst e
      simp only [beq_self_eq_true, if_true] at h
      have hm : x ∈ l := List.count_pos_iff.mp (by omega)
      obtain ⟨b, hb, e⟩ := List.mem_iff_getElem.mp hm
      exact ⟨0, b + 1, by omega, rfl, by rw [List.getElem?_cons_succ, List.getElem?_eq_getElem hb, e]⟩
    · have : ¬ (x == m) = true := by simpa using e
      rw [if_neg this] at h
      obtain ⟨a, b, h1, h2, h3⟩ := count_two m l (by omega)
      exact ⟨a + 1, b + 1, by omega, by simpa using h2, by simpa using h3⟩
theorem two_count (m : Nat) : ∀ (l : List Nat) (a b : Nat), a < b → l[a]? = some m → l[b]? = some m → 1 < l.count m
  | [], a, b, _, h, _ => by simp at h
  | x :: l, a, b, hab, ha, hb => by
    rw [List.count_cons]
    cases a with
    | zero =>
      have e : x = m := by simpa using ha
      subst e
      cases b with
      | zero => omega
      | succ b =>
        have hb : l[b]? = some x := by simpa using hb
        have := List.count_pos_iff.mpr (List.mem_of_getElem? hb)
        simp only [beq_self_eq_true, if_true]
        omega
    | succ a =>
      cases b with
      | zero => omega
      | succ b =>
        have := two_count m l a b (by omega) (by simpa using ha) (by simpa using hb)
        omega
theorem range_sum : ∀ n : Nat, (List.range n).sum ≤ n * n
  | 0 => by simp
  | n + 1 => by
    have ih := range_sum n
    rw [List.range_succ, List.sum_append, List.sum_singleton]
    have : (n + 1) * (n + 1) = n * n + n + (n + 1) := by rw [Nat.add_mul, Nat.mul_add, Nat.mul_one, Nat.one_mul]
    omega
theorem inv_range (UU : List Vx) : InvM UU (List.range UU.length) := ⟨List.length_range, fun a b u v m ha hb ea eb => by
  have h1 := (List.getElem?_eq_some_iff.mp ha).1
  have h2 := (List.getElem?_eq_some_iff.mp hb).1
  rw [List.getElem?_range h1] at ea
  rw [List.getElem?_range h2] at eb
  have : a = b := (Option.some.inj ea).trans (Option.some.inj eb).symm
  subst this
  rw [ha] at hb
  cases hb
  exact .refl⟩
theorem ints_nmk : ∀ l : List Nat, ints? (nmk l) = some (l.map fun m : Nat => ((m : Nat) : Int))
  | [] => rfl
  | x :: l => by
    have := ints_nmk l
    simp only [nmk] at this
    simp [nmk, ints?, this]
theorem count_int (m : Nat) (l : List Nat) : (l.map fun m : Nat => ((m : Nat) : Int)).count (m : Int) = l.count m := by
  induction l with
  | nil => rfl
  | cons x l ih =>
    rw [List.map_cons, List.count_cons, List.count_cons, ih]
    congr 1
    by_cases e : x = m
    · subst e; simp
    · have : ¬ (x : Int) = m := by omega
      simp [e, this]
theorem st_cnt (m : Nat) (l : List Nat) (G : List O) : bmW .count (.lst (nmk l)) [.int (m : Nat)] G = .ok (.int (l.count m : Nat)) G := by
  show cntW _ _ _ = _
  unfold cntW
  simp only [getL, Option.bind, ints_nmk, count_int]
theorem keys_F : ∀ F : List Nat, keysI (F.map fun m : Nat => W.tup [.int (m : Nat), .int 1]) = some (F.map fun m : Nat => ((m : Nat) : Int))
  | [] => rfl
  | m :: F => by
    have := keys_F F
    simp [keysI, this]
section
variable {L : Nat} {A C : List Ed} (two : Two L A C) {marks : List Nat} (inv : InvM (U A C) marks) (cl' : Cls (U A C) marks)
include two inv cl'
theorem mk_con {a b : Nat} {u v : Vx} (ha : (U A C)[a]? = some u) (hb : (U A C)[b]? = some v) : Con (U A C) u v ↔ marks[a]? = marks[b]? := by
  have hl := inv.1
  have h1 := (List.getElem?_eq_some_iff.mp ha).1
  constructor
  · intro h
    exact cl'.con (U_nodup two) ha h b hb
  · intro h
    have : marks[a]? = some marks[a] := List.getElem?_eq_getElem (by omega)
    exact inv.2 a b u v _ ha hb this (by rw [← h, this])
theorem mk_side {a m : Nat} {u : Vx} (ha : (U A C)[a]? = some u) (hm : marks[a]? = some m) : pk marks m (own A C) 0 = side 0 (cls (U A C) u) (own A C) ∧ pk marks m (own C A) (own A C).length = side 1 (cls (U A C) u) (own C A) := by
  constructor
  · refine pk_eq _ _ _ _ _ fun i e hi => ?_
    have := mk_con two inv cl' ha (U_at0 hi)
    rw [Nat.zero_add, Bool.eq_iff_iff, decide_eq_true_eq, cls_iff, this, hm]
    exact eq_comm
  · refine pk_eq _ _ _ _ _ fun i e hi => ?_
    have := mk_con two inv cl' ha (U_at1 hi)
    rw [Bool.eq_iff_iff, decide_eq_true_eq, cls_iff, this, hm]
    exact eq_comm
theorem mk_row (base : List Nat) {a m : Nat} {u : Vx} (ha : (U A C)[a]? = some u) (hm : marks[a]? = some m) : rowOf base (pk marks m (own A C) 0) (pk marks m (own C A) (own A C).length) = rowAt base A C u := by
  obtain ⟨h1, h2⟩ := mk_side two inv cl' ha hm
  rw [h1, h2]
  rfl
def rowM (base : List Nat) (A C : List Ed) (marks : List Nat) (m : Nat) : Row := rowOf base (pk marks m (own A C) 0) (pk marks m (own C A) (own A C).length)
theorem mk_rows (base : List Nat) {D : List Nat} (hD : ∀ m, m ∈ D ↔ 1 < marks.count m) (nd : D.Nodup) : (∀ r, r ∈ D.map (rowM base A C marks) ↔ isRow base A C r) ∧ apart rK (D.map (rowM base A C marks)) := by
  have hl := inv.1
  have node : ∀ {a m : Nat}, marks[a]? = some m → ∃ u, (U A C)[a]? = some u := fun {a m} h => by
    have := (List.getElem?_eq_some_iff.mp h).1
    exact ⟨_, List.getElem?_eq_getElem (by omega)⟩
  constructor
  · intro r
    rw [List.mem_map]
    constructor
    · rintro ⟨m, hm, rfl⟩
      obtain ⟨a, b, hab, ha, hb⟩ := count_two m marks ((hD m).mp hm)
      obtain ⟨u, hu⟩ := node ha
      obtain ⟨v, hv⟩ := node hb
      have hc := (mk_con two inv cl' hu hv).mpr (by rw [ha, hb])
      have hne : v ≠ u := fun e => by
        subst e
        obtain ⟨h1, e1⟩ := List.getElem?_eq_some_iff.mp hu
        obtain ⟨h2, e2⟩ := List.getElem?_eq_some_iff.mp hv
        have : a = b := (List.getElem_inj (U_nodup two)).mp (e1.trans e2.symm)
        omega
      have hum := List.mem_of_getElem? hu
      obtain ⟨w, hw, cw, haw⟩ := hc.last hne hum
      exact ⟨w, hw, v, List.mem_of_getElem? hv, haw, by
        show rowOf base _ _ = _
        rw [mk_row two inv cl' base hu ha]
        exact rowAt_eq hum cw⟩
    · rintro ⟨u, hu, v, hv, hadj, rfl⟩
      obtain ⟨a, ha, ea⟩ := List.mem_iff_getElem.mp hu
      obtain ⟨b, hb, eb⟩ := List.mem_iff_getElem.mp hv
      have ea : (U A C)[a]? = some u := by rw [List.getElem?_eq_getElem ha, ea]
      have eb : (U A C)[b]? = some v := by rw [List.getElem?_eq_getElem hb, eb]
      have hne : a ≠ b := fun e => by
        subst e
        rw [ea] at eb
        cases eb
        simp [adj] at hadj
      have hm := (mk_con two inv cl' ea eb).mp (.step .refl hv hadj)
      have e1 : marks[a]? = some marks[a] := List.getElem?_eq_getElem (by omega)
      generalize marks[a] = m at e1
      rw [e1] at hm
      refine ⟨m, (hD m).mpr ?_, mk_row two inv cl' base ea e1⟩
      by_cases hlt : a < b
      · exact two_count m marks a b hlt e1 hm.symm
      · exact two_count m marks b a (by omega) hm.symm e1
  · unfold apart
    refine List.pairwise_map.mpr (List.Pairwise.imp_of_mem (fun {m m'} hm hm' hne e => hne ?_) nd)
    obtain ⟨a, _, _, ha, _⟩ := count_two m marks ((hD m).mp hm)
    obtain ⟨b, _, _, hb, _⟩ := count_two m' marks ((hD m').mp hm')
    obtain ⟨u, hu⟩ := node ha
    obtain ⟨v, hv⟩ := node hb
    have e : (rowOf base _ _).1 = (rowOf base _ _).1 := e
    rw [mk_row two inv cl' base hu ha, mk_row two inv cl' base hv hb] at e
    have hc := rowAt_con two (List.mem_of_getElem? hu) (List.mem_of_getElem? hv) e
    have := (mk_con two inv cl' hu hv).mp hc
    rw [ha, hb] at this
    exact Option.some.inj this
end
end K64
end

section
set_option linter.all false
set_option maxRecDepth 100000
set_option maxHeartbeats 8000000
/-! k64: _law_merge. -/
namespace K64
open T2
theorem side_up {A C : List Ed} {s : Nat} {K : Vx → Bool} (h : sep A) : sep (side s K (own A C)) := (h.filter _).filter _
theorem asI (D : List Int) (h : ∀ d ∈ D, 0 ≤ d) : D = (D.map Int.toNat).map fun m : Nat => (m : Int) := by
  rw [List.map_map]
  induction D with
  | nil => rfl
  | cons d D ih =>
    rw [List.map_cons, ← ih fun x hx => h x (List.mem_cons_of_mem _ hx)]
    congr 1
    have := h d List.mem_cons_self
    simp only [Function.comp]
    omega
/-- the marks that stand more than once -/
def dub (marks : List Nat) : List Nat := (sortU ((marks.filter fun m => decide (1 < marks.count m)).map fun m : Nat => ((m : Nat) : Int))).map Int.toNat
theorem dub_int (marks : List Nat) : sortU ((marks.filter fun m => decide (1 < marks.count m)).map fun m : Nat => ((m : Nat) : Int)) = (dub marks).map fun m : Nat => (m : Int) := asI _ fun d hd => by
  rw [sortU_mem] at hd
  obtain ⟨m, _, rfl⟩ := List.mem_map.mp hd
  omega
theorem dub_mem (marks : List Nat) (m : Nat) : m ∈ dub marks ↔ 1 < marks.count m := by
  have h : m ∈ dub marks ↔ (m : Int) ∈ (dub marks).map fun m : Nat => (m : Int) := by
    rw [List.mem_map]
    constructor
    · intro h; exact ⟨m, h, rfl⟩
    · rintro ⟨x, hx, e⟩
      have : x = m := by omega
      exact this ▸ hx
  rw [h, ← dub_int, sortU_mem, List.mem_map]
  constructor
  · rintro ⟨x, hx, e⟩
    have : x = m := by omega
    subst this
    exact of_decide_eq_true (List.mem_filter.mp hx).2
  · intro hm
    exact ⟨m, List.mem_filter.mpr ⟨List.count_pos_iff.mp (by omega), decide_eq_true hm⟩, rfl⟩
theorem dub_nodup (marks : List Nat) : (dub marks).Nodup := by
  have h := sortU_asc ((marks.filter fun m => decide (1 < marks.count m)).map fun m : Nat => ((m : Nat) : Int))
  rw [dub_int] at h
  have h := List.pairwise_map.mp h
  exact h.imp fun {a b} h e => by subst e; omega
section
variable (n : Nat) (b o1 o2 : List Nat) (A C : List Ed) (two : Two b.length A C) (hb : b.length ≤ 100) (zA : A.length ≤ 200) (zC : C.length ≤ 200) (hA : ∀ e ∈ A, tiny e) (hC : ∀ e ∈ C, tiny e)
include two hb zA zC hA hC
/-- the rows, mark by mark -/
theorem r16 (marks : List Nat) (inv : InvM (U A C) marks) (cl' : Cls (U A C) marks) (hl : marks.length ≤ 100) (s9 s10 s11 s12 s13 : Option W) :
    ∃ s15 s16 s17 s18 s19 s20 s21 tl, forL (fun w sw G => asgT (cl (n + 2)) gk (.nm 15) w sw G) (fun sw G => exB (cl (n + 2)) gk wf b16_7 sw G) ⟨(dub marks).map fun m : Nat => .int (m : Nat), none⟩ ((dub marks).map fun m : Nat => .int (m : Nat)) (sr b o1 o2 A C (own A C) (own C A) marks s9 s10 s11 s12 s13 none none none none none none none) [.lst []]
      = .ok (.nx (sr b o1 o2 A C (own A C) (own C A) marks s9 s10 s11 s12 s13 s15 s16 s17 s18 s19 s20 s21)) (.lst (((dub marks).map (rowM b A C marks)).map encR) :: tl) := by
  have m1 := own_len A C
  have m2 := own_len C A
  have hU : (U A C).length = (own A C).length + (own C A).length := by simp [U]
  have hdl : (dub marks).length ≤ 100 := by
    have := sortU_len ((marks.filter fun m => decide (1 < marks.count m)).map fun m : Nat => ((m : Nat) : Int))
    have h2 : (marks.filter fun m => decide (1 < marks.count m)).length ≤ marks.length := List.length_filter_le _ _
    rw [List.length_map] at this
    unfold dub
    rw [List.length_map]
    omega
  obtain ⟨sw', G', e, hst⟩ := forL_at (asg := fun w sw G => asgT (cl (n + 2)) gk (.nm 15) w sw G) (body := fun sw G => exB (cl (n + 2)) gk wf b16_7 sw G) (s := ⟨(dub marks).map fun m : Nat => .int (m : Nat), none⟩) ((dub marks).map fun m : Nat => .int (m : Nat))
    (fun k sw G => ∃ s15 s16 s17 s18 s19 s20 s21 tl, sw = sr b o1 o2 A C (own A C) (own C A) marks s9 s10 s11 s12 s13 s15 s16 s17 s18 s19 s20 s21 ∧ G = .lst ((((dub marks).take k).map (rowM b A C marks)).map encR) :: tl)
    (sr b o1 o2 A C (own A C) (own C A) marks s9 s10 s11 s12 s13 none none none none none none none) [.lst []] ⟨none, none, none, none, none, none, none, [], rfl, rfl⟩ (fun _ _ _ _ _ => rfl) (fun k x sw G hx ⟨s15, s16, s17, s18, s19, s20, s21, tl, hsw, hG⟩ => by
      subst hsw hG
      rw [List.getElem?_map] at hx
      cases hk : (dub marks)[k]? with
      | none => rw [hk] at hx; cases hx
      | some m =>
        rw [hk] at hx
        have hx : x = .int (m : Nat) := (Option.some.inj hx).symm
        subst hx
        have hm := (dub_mem marks m).mp (List.mem_of_getElem? hk)
        obtain ⟨a, _, _, ha, _⟩ := count_two m marks hm
        have hal := (List.getElem?_eq_some_iff.mp ha).1
        have hil := inv.1
        have hu : (U A C)[a]? = some (U A C)[a] := List.getElem?_eq_getElem (by omega)
        generalize (U A C)[a] = u at hu
        obtain ⟨q1, q2⟩ := mk_side two inv cl' hu ha
        have hum := List.mem_of_getElem? hu
        have hin : ∀ e ∈ pk marks m (own A C) 0 ++ pk marks m (own C A) (own A C).length, e ∈ A ∨ e ∈ C := fun e he => by
          rcases List.mem_append.mp he with he | he
          · rw [q1] at he
            exact .inl (own_mem.mp (List.mem_filter.mp he).1).1
          · rw [q2] at he
            exact .inr (own_mem.mp (List.mem_filter.mp he).1).1
        have hne : pk marks m (own A C) 0 ++ pk marks m (own C A) (own A C).length ≠ [] := by
          intro z
          have z1 := List.append_eq_nil_iff.mp z
          obtain ⟨s, e⟩ := u
          rcases U_mem.mp hum with ⟨rfl, h⟩ | ⟨rfl, h⟩
          · have : e ∈ pk marks m (own A C) 0 := by rw [q1]; exact List.mem_filter.mpr ⟨h, cls_iff.mpr .refl⟩
            rw [z1.1] at this
            simp at this
          · have : e ∈ pk marks m (own C A) (own A C).length := by rw [q2]; exact List.mem_filter.mpr ⟨h, cls_iff.mpr .refl⟩
            rw [z1.2] at this
            simp at this
        have hkl := (List.getElem?_eq_some_iff.mp hk).1
        obtain ⟨s16', s17', s18', s19', s20', s21', tl', e1⟩ := sb16 n b o1 o2 A C (own A C) (own C A) marks hb (by omega) (by omega) m _ _ rfl rfl hne (by rw [q1]; exact side_up two.a) (by rw [q2]; exact side_up two.c) (fun e he => (hin e he).elim (two.al e) (two.cl e)) (fun e he => (hin e he).elim (hA e) (hC e)) (by omega) s9 s10 s11 s12 s13 s16 s17 s18 s19 s20 s21 (((dub marks).take k).map (rowM b A C marks)) (by rw [List.length_map, List.length_take]; omega) tl
        refine ⟨sr b o1 o2 A C (own A C) (own C A) marks s9 s10 s11 s12 s13 (some (.int (m : Nat))) s16 s17 s18 s19 s20 s21, _, _, _, by simp (maxSteps := 4000000) [ev, evs, evT, evO, evC, evI, asgT, asgTs, evH, pickH, ex, exB, runD, look, seqOf, isKds, isKd, szOk, bnd_ok, bnd_exc, noX_ok, wipe, st_mkt, st_mkf, st_addi, st_adds, st_addt, st_auI, st_auS, st_sub, st_mul, st_fdiv, st_mod, st_pow, st_cat, st_repl, st_reps, st_lt, st_le, st_gt, st_ge, st_eqi, st_nei, st_eqs, st_nes, st_idxL, st_idxS, st_idxT, st_idxs, at_n, at_0, at_1, at_2, at_m1, st_slcL, st_slcT, st_slcs, cut_nn, cut_n, cut_from, cut_1, cut_to1, st_lens, st_lenL, st_lenS, st_lenT, st_inti, st_intb, st_min2, st_max2, st_sumL, st_allL, st_anyL, st_tupL, st_tupT, st_joinL, st_rcvj, st_sh, st_idxr, st_lenr, st_tupr, st_appr, st_rcvr, st_joinr, st_setr, mulOk_fm, mulOk_r, mulOk_l, st_eq, st_ne, W.eq, W.eqs, W.pl, W.pls, W.dep, W.deps, sr], .inl e1, _, _, _, _, _, _, _, tl', rfl, ?_⟩
        rw [List.take_succ, hk]
        simp [rowM])
  obtain ⟨s15, s16, s17, s18, s19, s20, s21, tl, rfl, rfl⟩ := hst
  refine ⟨s15, s16, s17, s18, s19, s20, s21, tl, ?_⟩
  rw [List.length_map, List.take_length] at e
  exact e
theorem t16 (n : Nat) (hab : A = edit b o1) (hac : C = edit b o2) (h1 : o1.length ≤ 100) (h2 : o2.length ≤ 100) (hsz : A.length + C.length < 64) (G : List O) : ∃ w, callW (cl (n + 5)) .iso 16 [.str b, .str o1, .str o2] G = .ok w G ∧ Due b A C w := by
  have m1 := own_len A C
  have m2 := own_len C A
  have hU : (U A C).length = (own A C).length + (own C A).length := by simp [U]
  have q1 := t9 (n + 1) b o1 (by omega) (by omega) []
  have q2 := t9 (n + 1) b o2 (by omega) (by omega) []
  rw [← hab] at q1
  rw [← hac] at q2
  have e1 := lcL_ty (asg := fun x G => asgT (cl (n + 4)) gk (.nm 22) x [some (.str b), some (.str o1), some (.str o2), some (encE A), some (encE C), none, none, none, none, none, none, none, none, none, none, none, none, none, none, none, none, none, none, none, none, none] G) (cd := fun sw1 G => evC (cl (n + 4)) gk (.yes (.cmp .notin (.v 22) (.v 4))) sw1 G) (e := fun sw1 G => ev (cl (n + 4)) gk e16_13 sw1 G)
    (s := ⟨A.map enc, none⟩) (G := []) rfl enc (fun e => !decide (e ∈ C)) (fun e => enc e) A [] (by simp; omega) fun x hx =>
      ⟨[some (.str b), some (.str o1), some (.str o2), some (encE A), some (encE C), none, none, none, none, none, none, none, none, none, none, none, none, none, none, none, none, none, some (enc x), none, none, none], by simp (maxSteps := 4000000) [ev, evs, evT, evO, evC, evI, asgT, asgTs, evH, pickH, ex, exB, runD, look, seqOf, isKds, isKd, szOk, bnd_ok, bnd_exc, noX_ok, wipe, st_mkt, st_mkf, st_addi, st_adds, st_addt, st_auI, st_auS, st_sub, st_mul, st_fdiv, st_mod, st_pow, st_cat, st_repl, st_reps, st_lt, st_le, st_gt, st_ge, st_eqi, st_nei, st_eqs, st_nes, st_idxL, st_idxS, st_idxT, st_idxs, at_n, at_0, at_1, at_2, at_m1, st_slcL, st_slcT, st_slcs, cut_nn, cut_n, cut_from, cut_1, cut_to1, st_lens, st_lenL, st_lenS, st_lenT, st_inti, st_intb, st_min2, st_max2, st_sumL, st_allL, st_anyL, st_tupL, st_tupT, st_joinL, st_rcvj, st_sh, st_idxr, st_lenr, st_tupr, st_appr, st_rcvr, st_joinr, st_setr, mulOk_fm, mulOk_r, mulOk_l, st_eq, st_ne, W.eq, W.eqs, W.pl, W.pls, W.dep, W.deps], by simp (maxSteps := 4000000) [ev, evs, evT, evO, evC, evI, asgT, asgTs, evH, pickH, ex, exB, runD, look, seqOf, isKds, isKd, szOk, bnd_ok, bnd_exc, noX_ok, wipe, st_mkt, st_mkf, st_addi, st_adds, st_addt, st_auI, st_auS, st_sub, st_mul, st_fdiv, st_mod, st_pow, st_cat, st_repl, st_reps, st_lt, st_le, st_gt, st_ge, st_eqi, st_nei, st_eqs, st_nes, st_idxL, st_idxS, st_idxT, st_idxs, at_n, at_0, at_1, at_2, at_m1, st_slcL, st_slcT, st_slcs, cut_nn, cut_n, cut_from, cut_1, cut_to1, st_lens, st_lenL, st_lenS, st_lenT, st_inti, st_intb, st_min2, st_max2, st_sumL, st_allL, st_anyL, st_tupL, st_tupT, st_joinL, st_rcvj, st_sh, st_idxr, st_lenr, st_tupr, st_appr, st_rcvr, st_joinr, st_setr, mulOk_fm, mulOk_r, mulOk_l, st_eq, st_ne, W.eq, W.eqs, W.pl, W.pls, W.dep, W.deps, encE, ni_enc], fun _ => by simp (maxSteps := 4000000) [ev, evs, evT, evO, evC, evI, asgT, asgTs, evH, pickH, ex, exB, runD, look, seqOf, isKds, isKd, szOk, bnd_ok, bnd_exc, noX_ok, wipe, st_mkt, st_mkf, st_addi, st_adds, st_addt, st_auI, st_auS, st_sub, st_mul, st_fdiv, st_mod, st_pow, st_cat, st_repl, st_reps, st_lt, st_le, st_gt, st_ge, st_eqi, st_nei, st_eqs, st_nes, st_idxL, st_idxS, st_idxT, st_idxs, at_n, at_0, at_1, at_2, at_m1, st_slcL, st_slcT, st_slcs, cut_nn, cut_n, cut_from, cut_1, cut_to1, st_lens, st_lenL, st_lenS, st_lenT, st_inti, st_intb, st_min2, st_max2, st_sumL, st_allL, st_anyL, st_tupL, st_tupT, st_joinL, st_rcvj, st_sh, st_idxr, st_lenr, st_tupr, st_appr, st_rcvr, st_joinr, st_setr, mulOk_fm, mulOk_r, mulOk_l, st_eq, st_ne, W.eq, W.eqs, W.pl, W.pls, W.dep, W.deps, e16_13]⟩
  have hp : ∀ (A C : List Ed), A.filter (fun e => !decide (e ∈ C)) = own A C := fun A C => List.filter_congr fun e _ => by simp
  rw [hp] at e1
  have e2 := lcL_ty (asg := fun x G => asgT (cl (n + 4)) gk (.nm 22) x [some (.str b), some (.str o1), some (.str o2), some (encE A), some (encE C), some (.lst ((own A C).map enc)), none, none, none, none, none, none, none, none, none, none, none, none, none, none, none, none, none, none, none, none] G) (cd := fun sw1 G => evC (cl (n + 4)) gk (.yes (.cmp .notin (.v 22) (.v 3))) sw1 G) (e := fun sw1 G => ev (cl (n + 4)) gk e16_12 sw1 G)
    (s := ⟨C.map enc, none⟩) (G := []) rfl enc (fun e => !decide (e ∈ A)) (fun e => enc e) C [] (by simp; omega) fun x hx =>
      ⟨[some (.str b), some (.str o1), some (.str o2), some (encE A), some (encE C), some (.lst ((own A C).map enc)), none, none, none, none, none, none, none, none, none, none, none, none, none, none, none, none, some (enc x), none, none, none], by simp (maxSteps := 4000000) [ev, evs, evT, evO, evC, evI, asgT, asgTs, evH, pickH, ex, exB, runD, look, seqOf, isKds, isKd, szOk, bnd_ok, bnd_exc, noX_ok, wipe, st_mkt, st_mkf, st_addi, st_adds, st_addt, st_auI, st_auS, st_sub, st_mul, st_fdiv, st_mod, st_pow, st_cat, st_repl, st_reps, st_lt, st_le, st_gt, st_ge, st_eqi, st_nei, st_eqs, st_nes, st_idxL, st_idxS, st_idxT, st_idxs, at_n, at_0, at_1, at_2, at_m1, st_slcL, st_slcT, st_slcs, cut_nn, cut_n, cut_from, cut_1, cut_to1, st_lens, st_lenL, st_lenS, st_lenT, st_inti, st_intb, st_min2, st_max2, st_sumL, st_allL, st_anyL, st_tupL, st_tupT, st_joinL, st_rcvj, st_sh, st_idxr, st_lenr, st_tupr, st_appr, st_rcvr, st_joinr, st_setr, mulOk_fm, mulOk_r, mulOk_l, st_eq, st_ne, W.eq, W.eqs, W.pl, W.pls, W.dep, W.deps], by simp (maxSteps := 4000000) [ev, evs, evT, evO, evC, evI, asgT, asgTs, evH, pickH, ex, exB, runD, look, seqOf, isKds, isKd, szOk, bnd_ok, bnd_exc, noX_ok, wipe, st_mkt, st_mkf, st_addi, st_adds, st_addt, st_auI, st_auS, st_sub, st_mul, st_fdiv, st_mod, st_pow, st_cat, st_repl, st_reps, st_lt, st_le, st_gt, st_ge, st_eqi, st_nei, st_eqs, st_nes, st_idxL, st_idxS, st_idxT, st_idxs, at_n, at_0, at_1, at_2, at_m1, st_slcL, st_slcT, st_slcs, cut_nn, cut_n, cut_from, cut_1, cut_to1, st_lens, st_lenL, st_lenS, st_lenT, st_inti, st_intb, st_min2, st_max2, st_sumL, st_allL, st_anyL, st_tupL, st_tupT, st_joinL, st_rcvj, st_sh, st_idxr, st_lenr, st_tupr, st_appr, st_rcvr, st_joinr, st_setr, mulOk_fm, mulOk_r, mulOk_l, st_eq, st_ne, W.eq, W.eqs, W.pl, W.pls, W.dep, W.deps, encE, ni_enc], fun _ => by simp (maxSteps := 4000000) [ev, evs, evT, evO, evC, evI, asgT, asgTs, evH, pickH, ex, exB, runD, look, seqOf, isKds, isKd, szOk, bnd_ok, bnd_exc, noX_ok, wipe, st_mkt, st_mkf, st_addi, st_adds, st_addt, st_auI, st_auS, st_sub, st_mul, st_fdiv, st_mod, st_pow, st_cat, st_repl, st_reps, st_lt, st_le, st_gt, st_ge, st_eqi, st_nei, st_eqs, st_nes, st_idxL, st_idxS, st_idxT, st_idxs, at_n, at_0, at_1, at_2, at_m1, st_slcL, st_slcT, st_slcs, cut_nn, cut_n, cut_from, cut_1, cut_to1, st_lens, st_lenL, st_lenS, st_lenT, st_inti, st_intb, st_min2, st_max2, st_sumL, st_allL, st_anyL, st_tupL, st_tupT, st_joinL, st_rcvj, st_sh, st_idxr, st_lenr, st_tupr, st_appr, st_rcvr, st_joinr, st_setr, mulOk_fm, mulOk_r, mulOk_l, st_eq, st_ne, W.eq, W.eqs, W.pl, W.pls, W.dep, W.deps, e16_12]⟩
  rw [hp] at e2
  have hpos : ∀ {A : List Ed}, (∀ e ∈ A, e.1 + e.2.1.length ≤ b.length) → ∀ e ∈ A, e.1 ≤ 1000 := fun h e he => by have := h e he; omega
  obtain ⟨marks, s9, s10, s11, s12, s13, ew, inv, cls'⟩ := w16 (n + 3) b o1 o2 A C (by omega) (by omega) (fun e he => ⟨hA e he, hpos two.al e he⟩) (fun e he => ⟨hC e he, hpos two.cl e he⟩) (List.range (U A C).length) (inv_range _) (by
    have := range_sum (U A C).length
    have h3 : (U A C).length * (U A C).length ≤ 64 * 64 := Nat.mul_le_mul (by omega) (by omega)
    omega) []
  have hml : marks.length ≤ 63 := by rw [inv.1]; omega
  obtain ⟨s15, s16, s17, s18, s19, s20, s21, tl, er⟩ := r16 (n + 2) b o1 o2 A C two hb zA zC hA hC marks inv cls' (by omega) s9 s10 s11 s12 s13
  have hD : ∀ m, m ∈ dub marks ↔ 1 < marks.count m := dub_mem marks
  obtain ⟨rows1, rows2⟩ := mk_rows two inv cls' b hD (dub_nodup marks)
  have e3 := lcL_ty (asg := fun x G => asgT (cl (n + 4)) gk (.nm 15) x (sr b o1 o2 A C (own A C) (own C A) marks s9 s10 s11 s12 s13 none none none none none none none) G) (cd := fun sw1 G => evC (cl (n + 4)) gk (.yes (.cmp .gt (.bm .count (.v 7) (.cons (.v 15) .nil)) (.k (.int 1)))) sw1 G) (e := fun sw1 G => ev (cl (n + 4)) gk e16_0 sw1 G)
    (s := ⟨nmk marks, none⟩) (G := [.lst []]) rfl (fun m : Nat => W.int (m : Nat)) (fun m => decide (1 < marks.count m)) (fun m => W.tup [.int (m : Nat), .int 1]) marks [] (by simp; omega) fun m hm => by
      refine ⟨sr b o1 o2 A C (own A C) (own C A) marks s9 s10 s11 s12 s13 (some (.int (m : Nat))) none none none none none none, by simp (maxSteps := 4000000) [ev, evs, evT, evO, evC, evI, asgT, asgTs, evH, pickH, ex, exB, runD, look, seqOf, isKds, isKd, szOk, bnd_ok, bnd_exc, noX_ok, wipe, st_mkt, st_mkf, st_addi, st_adds, st_addt, st_auI, st_auS, st_sub, st_mul, st_fdiv, st_mod, st_pow, st_cat, st_repl, st_reps, st_lt, st_le, st_gt, st_ge, st_eqi, st_nei, st_eqs, st_nes, st_idxL, st_idxS, st_idxT, st_idxs, at_n, at_0, at_1, at_2, at_m1, st_slcL, st_slcT, st_slcs, cut_nn, cut_n, cut_from, cut_1, cut_to1, st_lens, st_lenL, st_lenS, st_lenT, st_inti, st_intb, st_min2, st_max2, st_sumL, st_allL, st_anyL, st_tupL, st_tupT, st_joinL, st_rcvj, st_sh, st_idxr, st_lenr, st_tupr, st_appr, st_rcvr, st_joinr, st_setr, mulOk_fm, mulOk_r, mulOk_l, st_eq, st_ne, W.eq, W.eqs, W.pl, W.pls, W.dep, W.deps, sr], ?_, fun _ => by simp (maxSteps := 4000000) [ev, evs, evT, evO, evC, evI, asgT, asgTs, evH, pickH, ex, exB, runD, look, seqOf, isKds, isKd, szOk, bnd_ok, bnd_exc, noX_ok, wipe, st_mkt, st_mkf, st_addi, st_adds, st_addt, st_auI, st_auS, st_sub, st_mul, st_fdiv, st_mod, st_pow, st_cat, st_repl, st_reps, st_lt, st_le, st_gt, st_ge, st_eqi, st_nei, st_eqs, st_nes, st_idxL, st_idxS, st_idxT, st_idxs, at_n, at_0, at_1, at_2, at_m1, st_slcL, st_slcT, st_slcs, cut_nn, cut_n, cut_from, cut_1, cut_to1, st_lens, st_lenL, st_lenS, st_lenT, st_inti, st_intb, st_min2, st_max2, st_sumL, st_allL, st_anyL, st_tupL, st_tupT, st_joinL, st_rcvj, st_sh, st_idxr, st_lenr, st_tupr, st_appr, st_rcvr, st_joinr, st_setr, mulOk_fm, mulOk_r, mulOk_l, st_eq, st_ne, W.eq, W.eqs, W.pl, W.pls, W.dep, W.deps, e16_0, sr]⟩
      have hr : rcv .count (.lst (nmk marks)) [.lst []] = true := rfl
      by_cases h : 1 < marks.count m
      · have h' : (1 : Int) < (marks.count m : Nat) := by omega
        simp (maxSteps := 4000000) [ev, evs, evT, evO, evC, evI, asgT, asgTs, evH, pickH, ex, exB, runD, look, seqOf, isKds, isKd, szOk, bnd_ok, bnd_exc, noX_ok, wipe, st_mkt, st_mkf, st_addi, st_adds, st_addt, st_auI, st_auS, st_sub, st_mul, st_fdiv, st_mod, st_pow, st_cat, st_repl, st_reps, st_lt, st_le, st_gt, st_ge, st_eqi, st_nei, st_eqs, st_nes, st_idxL, st_idxS, st_idxT, st_idxs, at_n, at_0, at_1, at_2, at_m1, st_slcL, st_slcT, st_slcs, cut_nn, cut_n, cut_from, cut_1, cut_to1, st_lens, st_lenL, st_lenS, st_lenT, st_inti, st_intb, st_min2, st_max2, st_sumL, st_allL, st_anyL, st_tupL, st_tupT, st_joinL, st_rcvj, st_sh, st_idxr, st_lenr, st_tupr, st_appr, st_rcvr, st_joinr, st_setr, mulOk_fm, mulOk_r, mulOk_l, st_eq, st_ne, W.eq, W.eqs, W.pl, W.pls, W.dep, W.deps, sr, hr, st_cnt, h, h']
      · have h' : ¬ (1 : Int) < (marks.count m : Nat) := by omega
        simp (maxSteps := 4000000) [ev, evs, evT, evO, evC, evI, asgT, asgTs, evH, pickH, ex, exB, runD, look, seqOf, isKds, isKd, szOk, bnd_ok, bnd_exc, noX_ok, wipe, st_mkt, st_mkf, st_addi, st_adds, st_addt, st_auI, st_auS, st_sub, st_mul, st_fdiv, st_mod, st_pow, st_cat, st_repl, st_reps, st_lt, st_le, st_gt, st_ge, st_eqi, st_nei, st_eqs, st_nes, st_idxL, st_idxS, st_idxT, st_idxs, at_n, at_0, at_1, at_2, at_m1, st_slcL, st_slcT, st_slcs, cut_nn, cut_n, cut_from, cut_1, cut_to1, st_lens, st_lenL, st_lenS, st_lenT, st_inti, st_intb, st_min2, st_max2, st_sumL, st_allL, st_anyL, st_tupL, st_tupT, st_joinL, st_rcvj, st_sh, st_idxr, st_lenr, st_tupr, st_appr, st_rcvr, st_joinr, st_setr, mulOk_fm, mulOk_r, mulOk_l, st_eq, st_ne, W.eq, W.eqs, W.pl, W.pls, W.dep, W.deps, sr, hr, st_cnt, h, h']
  have hnm : marks.map (fun m : Nat => W.int (m : Nat)) = nmk marks := rfl
  rw [hnm] at e3
  have hkF := keys_F (marks.filter fun m => decide (1 < marks.count m))
  have hFl : (marks.filter fun m => decide (1 < marks.count m)).length ≤ marks.length := List.length_filter_le _ _
  have hdi := dub_int marks
  have hdl : (dub marks).length ≤ 63 := by
    have := sortU_len ((marks.filter fun m => decide (1 < marks.count m)).map fun m : Nat => ((m : Nat) : Int))
    rw [List.length_map] at this
    unfold dub
    rw [List.length_map]
    omega
  generalize hF : (marks.filter fun m => decide (1 < marks.count m)) = F at *
  have hrl : ((dub marks).map (rowM b A C marks)).length ≤ 63 := by rw [List.length_map]; exact hdl
  generalize hRs : (dub marks).map (rowM b A C marks) = Rs at *
  have nr : W.nrs [.str b, .str o1, .str o2] = true := rfl
  have zA' : A.length ≤ 16777216 := by omega
  have zX : (own A C).length ≤ 16777216 := by omega
  have zY : (own C A).length ≤ 16777216 := by omega
  have zF : F.length ≤ 16777216 := by omega
  have zF2 : F.length < 64 := by omega
  have zD : (dub marks).length ≤ 16777216 := by omega
  have zsum : (0 : Int) ≤ (own A C).length + (own C A).length := by omega
  have zsum2 : ((own A C).length : Int) + (own C A).length ≤ 16777216 := by omega
  have hrng : rngL 0 ((own A C).length + (own C A).length : Int) = nmk (List.range (U A C).length) := by
    have := rng0_map (U A C).length
    rw [hU] at this ⊢
    simpa [nmk] using this
  have zrg : (nmk (List.range (U A C).length)).length ≤ 16777216 := by rw [nmk_len, List.length_range]; omega
  have hgt : (W.lst ((F.map fun m : Nat => W.tup [.int (m : Nat), .int 1]))) = .lst (F.map fun m : Nat => W.tup [.int (m : Nat), .int 1]) := rfl
  have hget : ∀ G : List O, (getL (.lst (F.map fun m : Nat => W.tup [.int (m : Nat), .int 1])) G).bind keysI = some (F.map fun m : Nat => ((m : Nat) : Int)) := fun G => by simp only [getL, Option.bind]; exact hkF
  have hmm : ((dub marks).map fun m : Nat => ((m : Nat) : Int)).map W.int = (dub marks).map fun m : Nat => W.int (m : Nat) := by rw [List.map_map]; rfl
  have hne0 : cmpW .ne (.ref 0) (.lst []) (.lst (Rs.map encR) :: tl) = .ok (.bl (!decide (Rs = []))) (.lst (Rs.map encR) :: tl) := by
    rw [st_neR (xs := Rs.map encR) rfl (encR_pl _) rfl (by simp [W.dep, W.deps]), eq_nil]
    simp
  by_cases hRe : Rs = []
  · subst hRe
    have hno : ∀ u ∈ U A C, ∀ v ∈ U A C, adj u v = false := fun u hu v hv => by
      cases ha : adj u v with
      | false => rfl
      | true =>
        have := (rows1 _).mpr ⟨u, hu, v, hv, ha, rfl⟩
        simp at this
    have hap := whole_apart two hno
    have hlen : (A ++ own C A).length ≤ 400 := by rw [List.length_append]; omega
    have hd := t14 (n + 3) b (A ++ own C A) hb hlen (fun e he => by
      rcases List.mem_append.mp he with h | h
      · exact hA e h
      · exact hC e (own_mem.mp h).1) hap (.lst [] :: tl)
    have hdon : don b (srt eK (A ++ own C A)) = app b 0 (whole A C) := don_eq b _ (whole_lin two hno)
    rw [hdon] at hd
    refine ⟨mW (app b 0 (whole A C)), ?_, .inr ⟨hno, rfl⟩⟩
    refine iso_pl nr (G1 := .lst [] :: tl) ?_ (by simp [mW, W.pl, W.pls])
    have hlist : ∀ G : List O, bltW (.list false) [.tup (A.map enc)] G = mkL false (A.map enc) G := fun G => st_lisT
    have zAY : A.length + (own C A).length ≤ 16777216 := by omega
    rw [List.map_append] at hd
    generalize own C A = Y at *
    generalize own A C = X at *
    generalize (U A C).length = uu at *
    generalize dub marks = D at *
    rw [c16]
    simp (maxSteps := 4000000) [ev, evs, evT, evO, evC, evI, asgT, asgTs, evH, pickH, ex, exB, runD, look, seqOf, isKds, isKd, szOk, bnd_ok, bnd_exc, noX_ok, wipe, st_mkt, st_mkf, st_addi, st_adds, st_addt, st_auI, st_auS, st_sub, st_mul, st_fdiv, st_mod, st_pow, st_cat, st_repl, st_reps, st_lt, st_le, st_gt, st_ge, st_eqi, st_nei, st_eqs, st_nes, st_idxL, st_idxS, st_idxT, st_idxs, at_n, at_0, at_1, at_2, at_m1, st_slcL, st_slcT, st_slcs, cut_nn, cut_n, cut_from, cut_1, cut_to1, st_lens, st_lenL, st_lenS, st_lenT, st_inti, st_intb, st_min2, st_max2, st_sumL, st_allL, st_anyL, st_tupL, st_tupT, st_joinL, st_rcvj, st_sh, st_idxr, st_lenr, st_tupr, st_appr, st_rcvr, st_joinr, st_setr, mulOk_fm, mulOk_r, mulOk_l, st_eq, st_ne, W.eq, W.eqs, W.pl, W.pls, W.dep, W.deps, encE] at q1 q2 e1 e2
    simp (maxSteps := 4000000) [ev, evs, evT, evO, evC, evI, asgT, asgTs, evH, pickH, ex, exB, runD, look, seqOf, isKds, isKd, szOk, bnd_ok, bnd_exc, noX_ok, wipe, st_mkt, st_mkf, st_addi, st_adds, st_addt, st_auI, st_auS, st_sub, st_mul, st_fdiv, st_mod, st_pow, st_cat, st_repl, st_reps, st_lt, st_le, st_gt, st_ge, st_eqi, st_nei, st_eqs, st_nes, st_idxL, st_idxS, st_idxT, st_idxs, at_n, at_0, at_1, at_2, at_m1, st_slcL, st_slcT, st_slcs, cut_nn, cut_n, cut_from, cut_1, cut_to1, st_lens, st_lenL, st_lenS, st_lenT, st_inti, st_intb, st_min2, st_max2, st_sumL, st_allL, st_anyL, st_tupL, st_tupT, st_joinL, st_rcvj, st_sh, st_idxr, st_lenr, st_tupr, st_appr, st_rcvr, st_joinr, st_setr, mulOk_fm, mulOk_r, mulOk_l, st_eq, st_ne, W.eq, W.eqs, W.pl, W.pls, W.dep, W.deps, sl16, encE] at ew
    simp (maxSteps := 4000000) [ev, evs, evT, evO, evC, evI, asgT, asgTs, evH, pickH, ex, exB, runD, look, seqOf, isKds, isKd, szOk, bnd_ok, bnd_exc, noX_ok, wipe, st_mkt, st_mkf, st_addi, st_adds, st_addt, st_auI, st_auS, st_sub, st_mul, st_fdiv, st_mod, st_pow, st_cat, st_repl, st_reps, st_lt, st_le, st_gt, st_ge, st_eqi, st_nei, st_eqs, st_nes, st_idxL, st_idxS, st_idxT, st_idxs, at_n, at_0, at_1, at_2, at_m1, st_slcL, st_slcT, st_slcs, cut_nn, cut_n, cut_from, cut_1, cut_to1, st_lens, st_lenL, st_lenS, st_lenT, st_inti, st_intb, st_min2, st_max2, st_sumL, st_allL, st_anyL, st_tupL, st_tupT, st_joinL, st_rcvj, st_sh, st_idxr, st_lenr, st_tupr, st_appr, st_rcvr, st_joinr, st_setr, mulOk_fm, mulOk_r, mulOk_l, st_eq, st_ne, W.eq, W.eqs, W.pl, W.pls, W.dep, W.deps, sr, encE] at e3 er hne0
    simp (maxSteps := 4000000) [ev, evs, evT, evO, evC, evI, asgT, asgTs, evH, pickH, ex, exB, runD, look, seqOf, isKds, isKd, szOk, bnd_ok, bnd_exc, noX_ok, wipe, st_mkt, st_mkf, st_addi, st_adds, st_addt, st_auI, st_auS, st_sub, st_mul, st_fdiv, st_mod, st_pow, st_cat, st_repl, st_reps, st_lt, st_le, st_gt, st_ge, st_eqi, st_nei, st_eqs, st_nes, st_idxL, st_idxS, st_idxT, st_idxs, at_n, at_0, at_1, at_2, at_m1, st_slcL, st_slcT, st_slcs, cut_nn, cut_n, cut_from, cut_1, cut_to1, st_lens, st_lenL, st_lenS, st_lenT, st_inti, st_intb, st_min2, st_max2, st_sumL, st_allL, st_anyL, st_tupL, st_tupT, st_joinL, st_rcvj, st_sh, st_idxr, st_lenr, st_tupr, st_appr, st_rcvr, st_joinr, st_setr, mulOk_fm, mulOk_r, mulOk_l, st_eq, st_ne, W.eq, W.eqs, W.pl, W.pls, W.dep, W.deps, d16, b16, encE, q1, q2, e1, e2, zsum, zsum2, hrng, ew, e3, hget, zF2, hdi, hmm, er, hne0, hlist, hd, zA', zX, zY, zF, zD, zAY, zrg, mW, MERG]
  · have hso := st_srtRr (es := Rs) (r := 0) (G := .lst (Rs.map encR) :: tl) rfl rows2 (by omega)
    have hne' : srt rK Rs ≠ [] := fun z => by
      have := srt_len rK Rs
      rw [z] at this
      exact hRe (List.length_eq_zero_iff.mp this.symm)
    refine ⟨cW (srt rK Rs), ?_, .inl ⟨srt rK Rs, hne', srt_up rK rows2, fun r => by rw [srt_mem]; exact rows1 r, rfl⟩⟩
    refine iso_pl nr (G1 := .lst (Rs.map encR) :: tl) ?_ (by simp [cW, W.pl, W.pls, encR_pl])
    generalize srt rK Rs = S at *
    generalize own C A = Y at *
    generalize own A C = X at *
    generalize (U A C).length = uu at *
    generalize dub marks = D at *
    rw [c16]
    simp (maxSteps := 4000000) [ev, evs, evT, evO, evC, evI, asgT, asgTs, evH, pickH, ex, exB, runD, look, seqOf, isKds, isKd, szOk, bnd_ok, bnd_exc, noX_ok, wipe, st_mkt, st_mkf, st_addi, st_adds, st_addt, st_auI, st_auS, st_sub, st_mul, st_fdiv, st_mod, st_pow, st_cat, st_repl, st_reps, st_lt, st_le, st_gt, st_ge, st_eqi, st_nei, st_eqs, st_nes, st_idxL, st_idxS, st_idxT, st_idxs, at_n, at_0, at_1, at_2, at_m1, st_slcL, st_slcT, st_slcs, cut_nn, cut_n, cut_from, cut_1, cut_to1, st_lens, st_lenL, st_lenS, st_lenT, st_inti, st_intb, st_min2, st_max2, st_sumL, st_allL, st_anyL, st_tupL, st_tupT, st_joinL, st_rcvj, st_sh, st_idxr, st_lenr, st_tupr, st_appr, st_rcvr, st_joinr, st_setr, mulOk_fm, mulOk_r, mulOk_l, st_eq, st_ne, W.eq, W.eqs, W.pl, W.pls, W.dep, W.deps, encE] at q1 q2 e1 e2
    simp (maxSteps := 4000000) [ev, evs, evT, evO, evC, evI, asgT, asgTs, evH, pickH, ex, exB, runD, look, seqOf, isKds, isKd, szOk, bnd_ok, bnd_exc, noX_ok, wipe, st_mkt, st_mkf, st_addi, st_adds, st_addt, st_auI, st_auS, st_sub, st_mul, st_fdiv, st_mod, st_pow, st_cat, st_repl, st_reps, st_lt, st_le, st_gt, st_ge, st_eqi, st_nei, st_eqs, st_nes, st_idxL, st_idxS, st_idxT, st_idxs, at_n, at_0, at_1, at_2, at_m1, st_slcL, st_slcT, st_slcs, cut_nn, cut_n, cut_from, cut_1, cut_to1, st_lens, st_lenL, st_lenS, st_lenT, st_inti, st_intb, st_min2, st_max2, st_sumL, st_allL, st_anyL, st_tupL, st_tupT, st_joinL, st_rcvj, st_sh, st_idxr, st_lenr, st_tupr, st_appr, st_rcvr, st_joinr, st_setr, mulOk_fm, mulOk_r, mulOk_l, st_eq, st_ne, W.eq, W.eqs, W.pl, W.pls, W.dep, W.deps, sl16, encE] at ew
    simp (maxSteps := 4000000) [ev, evs, evT, evO, evC, evI, asgT, asgTs, evH, pickH, ex, exB, runD, look, seqOf, isKds, isKd, szOk, bnd_ok, bnd_exc, noX_ok, wipe, st_mkt, st_mkf, st_addi, st_adds, st_addt, st_auI, st_auS, st_sub, st_mul, st_fdiv, st_mod, st_pow, st_cat, st_repl, st_reps, st_lt, st_le, st_gt, st_ge, st_eqi, st_nei, st_eqs, st_nes, st_idxL, st_idxS, st_idxT, st_idxs, at_n, at_0, at_1, at_2, at_m1, st_slcL, st_slcT, st_slcs, cut_nn, cut_n, cut_from, cut_1, cut_to1, st_lens, st_lenL, st_lenS, st_lenT, st_inti, st_intb, st_min2, st_max2, st_sumL, st_allL, st_anyL, st_tupL, st_tupT, st_joinL, st_rcvj, st_sh, st_idxr, st_lenr, st_tupr, st_appr, st_rcvr, st_joinr, st_setr, mulOk_fm, mulOk_r, mulOk_l, st_eq, st_ne, W.eq, W.eqs, W.pl, W.pls, W.dep, W.deps, sr, encE, hRe] at e3 er hne0
    simp (maxSteps := 4000000) [ev, evs, evT, evO, evC, evI, asgT, asgTs, evH, pickH, ex, exB, runD, look, seqOf, isKds, isKd, szOk, bnd_ok, bnd_exc, noX_ok, wipe, st_mkt, st_mkf, st_addi, st_adds, st_addt, st_auI, st_auS, st_sub, st_mul, st_fdiv, st_mod, st_pow, st_cat, st_repl, st_reps, st_lt, st_le, st_gt, st_ge, st_eqi, st_nei, st_eqs, st_nes, st_idxL, st_idxS, st_idxT, st_idxs, at_n, at_0, at_1, at_2, at_m1, st_slcL, st_slcT, st_slcs, cut_nn, cut_n, cut_from, cut_1, cut_to1, st_lens, st_lenL, st_lenS, st_lenT, st_inti, st_intb, st_min2, st_max2, st_sumL, st_allL, st_anyL, st_tupL, st_tupT, st_joinL, st_rcvj, st_sh, st_idxr, st_lenr, st_tupr, st_appr, st_rcvr, st_joinr, st_setr, mulOk_fm, mulOk_r, mulOk_l, st_eq, st_ne, W.eq, W.eqs, W.pl, W.pls, W.dep, W.deps, d16, b16, encE, q1, q2, e1, e2, zsum, zsum2, hrng, ew, e3, hget, zF2, hdi, hmm, er, hne0, hso, zA', zX, zY, zF, zD, zrg, hRe, cW, CONF]
end
end K64
end

section
set_option linter.all false
set_option maxRecDepth 100000
set_option maxHeartbeats 8000000
/-! k64: a case, its tail. -/
namespace K64
open T2
mutual
theorem eq_refl : ∀ w : W, w.pl = true → W.eq w w = true
  | .non, _ => rfl
  | .bl b, _ => by simp [W.eq]
  | .int i, _ => by simp [W.eq]
  | .str x, _ => by simp [W.eq]
  | .tup xs, h => by simp [W.eq, eqs_refl xs (by simpa [W.pl] using h)]
  | .lst xs, h => by simp [W.eq, eqs_refl xs (by simpa [W.pl] using h)]
  | .scr _, h => by simp [W.pl] at h
  | .ref _, h => by simp [W.pl] at h
  | .fn _, h => by simp [W.pl] at h
theorem eqs_refl : ∀ ws : List W, W.pls ws = true → W.eqs ws ws = true
  | [], _ => rfl
  | w :: ws, h => by
    have h' : w.pl = true ∧ W.pls ws = true := by simpa [W.pls] using h
    simp [W.eqs, eq_refl w h'.1, eqs_refl ws h'.2]
end
theorem ne_pl {w : W} (h : w.pl = true) (hd : w.dep ≤ 100) (G : List O) : cmpW .ne w w G = .ok (.bl false) G := by
  rw [st_ne h h (by omega), eq_refl w h]
  rfl
theorem cW_pl (rs : List Row) : (cW rs).pl = true := by simp [cW, W.pl, W.pls, encR_pl]
theorem cW_dep (rs : List Row) : (cW rs).dep ≤ 100 := by
  have := encR_dep rs
  simp only [cW, W.dep, W.deps]
  omega
theorem mW_pl (t : List Nat) : (mW t).pl = true := by simp [mW, W.pl, W.pls]
theorem mW_dep (t : List Nat) : (mW t).dep ≤ 100 := by simp [mW, W.dep, W.deps]
/-! told -/
theorem told_of (n : Nat) (a b c : W) (hn : W.nrs [a, b, c] = true) (h : callW (cl (n + 1)) .iso 8 [a, b, c] [] = .exc 0 SIGNS []) (G : List O) : callW (cl (n + 2)) .iso 17 [a, b, c] G = .ok (.str [105, 110]) G := by
  refine iso_pl hn (G1 := []) ?_ rfl
  rw [c17]
  simp [ev, evs, evT, evO, evC, evI, asgT, asgTs, evH, pickH, ex, exB, runD, look, seqOf, isKds, isKd, szOk, bnd_ok, bnd_exc, noX_ok, wipe, st_mkt, st_mkf, st_addi, st_adds, st_addt, st_auI, st_auS, st_sub, st_mul, st_fdiv, st_mod, st_pow, st_cat, st_repl, st_reps, st_lt, st_le, st_gt, st_ge, st_eqi, st_nei, st_eqs, st_nes, st_idxL, st_idxS, st_idxT, st_idxs, at_n, at_0, at_1, at_2, at_m1, st_slcL, st_slcT, st_slcs, cut_nn, cut_n, cut_from, cut_1, cut_to1, st_lens, st_lenL, st_lenS, st_lenT, st_inti, st_intb, st_min2, st_max2, st_sumL, st_allL, st_anyL, st_tupL, st_tupT, st_joinL, st_rcvj, st_sh, st_idxr, st_lenr, st_tupr, st_appr, st_rcvr, st_joinr, st_setr, mulOk_fm, mulOk_r, mulOk_l, st_eq, st_ne, W.eq, W.eqs, W.pl, W.pls, W.dep, W.deps, d17, b17, h]
theorem told_none (n : Nat) (a b : List Nat) (ha : a.length ≤ 100) (hb : b.length ≤ 100) (G : List O) : callW (cl (n + 5)) .iso 17 [.str a, .str b, .non] G = .ok (.str [105, 110]) G := by
  refine told_of (n + 3) _ _ _ rfl ?_ G
  refine iso_exc (G1 := []) rfl ?_ rfl
  rw [c8]
  simp [ev, evs, evT, evO, evC, evI, asgT, asgTs, evH, pickH, ex, exB, runD, look, seqOf, isKds, isKd, szOk, bnd_ok, bnd_exc, noX_ok, wipe, st_mkt, st_mkf, st_addi, st_adds, st_addt, st_auI, st_auS, st_sub, st_mul, st_fdiv, st_mod, st_pow, st_cat, st_repl, st_reps, st_lt, st_le, st_gt, st_ge, st_eqi, st_nei, st_eqs, st_nes, st_idxL, st_idxS, st_idxT, st_idxs, at_n, at_0, at_1, at_2, at_m1, st_slcL, st_slcT, st_slcs, cut_nn, cut_n, cut_from, cut_1, cut_to1, st_lens, st_lenL, st_lenS, st_lenT, st_inti, st_intb, st_min2, st_max2, st_sumL, st_allL, st_anyL, st_tupL, st_tupT, st_joinL, st_rcvj, st_sh, st_idxr, st_lenr, st_tupr, st_appr, st_rcvr, st_joinr, st_setr, mulOk_fm, mulOk_r, mulOk_l, st_eq, st_ne, W.eq, W.eqs, W.pl, W.pls, W.dep, W.deps, d8, b8, i0 (n + 2) a (by omega), i0 (n + 2) b (by omega), x0a (n + 2) []]
theorem told_five (n : Nat) (a b : List Nat) (G : List O) : callW (cl (n + 5)) .iso 17 [.int 5, .str a, .str b] G = .ok (.str [105, 110]) G := by
  refine told_of (n + 3) _ _ _ rfl ?_ G
  refine iso_exc (G1 := []) rfl ?_ rfl
  rw [c8]
  simp [ev, evs, evT, evO, evC, evI, asgT, asgTs, evH, pickH, ex, exB, runD, look, seqOf, isKds, isKd, szOk, bnd_ok, bnd_exc, noX_ok, wipe, st_mkt, st_mkf, st_addi, st_adds, st_addt, st_auI, st_auS, st_sub, st_mul, st_fdiv, st_mod, st_pow, st_cat, st_repl, st_reps, st_lt, st_le, st_gt, st_ge, st_eqi, st_nei, st_eqs, st_nes, st_idxL, st_idxS, st_idxT, st_idxs, at_n, at_0, at_1, at_2, at_m1, st_slcL, st_slcT, st_slcs, cut_nn, cut_n, cut_from, cut_1, cut_to1, st_lens, st_lenL, st_lenS, st_lenT, st_inti, st_intb, st_min2, st_max2, st_sumL, st_allL, st_anyL, st_tupL, st_tupT, st_joinL, st_rcvj, st_sh, st_idxr, st_lenr, st_tupr, st_appr, st_rcvr, st_joinr, st_setr, mulOk_fm, mulOk_r, mulOk_l, st_eq, st_ne, W.eq, W.eqs, W.pl, W.pls, W.dep, W.deps, d8, b8, x0b (n + 2) []]
theorem told_long (n : Nat) (a b : List Nat) (ha : a.length ≤ 100) (G : List O) : callW (cl (n + 5)) .iso 17 [.str a, .str (List.replicate 401 97), .str b] G = .ok (.str [105, 110]) G := by
  refine told_of (n + 3) _ _ _ rfl ?_ G
  refine iso_exc (G1 := []) rfl ?_ rfl
  have h := x0c (n + 2) (List.replicate 401 97) (by rw [List.length_replicate]; decide) (by rw [List.length_replicate]; decide) []
  generalize List.replicate 401 97 = q at h
  rw [c8]
  simp [ev, evs, evT, evO, evC, evI, asgT, asgTs, evH, pickH, ex, exB, runD, look, seqOf, isKds, isKd, szOk, bnd_ok, bnd_exc, noX_ok, wipe, st_mkt, st_mkf, st_addi, st_adds, st_addt, st_auI, st_auS, st_sub, st_mul, st_fdiv, st_mod, st_pow, st_cat, st_repl, st_reps, st_lt, st_le, st_gt, st_ge, st_eqi, st_nei, st_eqs, st_nes, st_idxL, st_idxS, st_idxT, st_idxs, at_n, at_0, at_1, at_2, at_m1, st_slcL, st_slcT, st_slcs, cut_nn, cut_n, cut_from, cut_1, cut_to1, st_lens, st_lenL, st_lenS, st_lenT, st_inti, st_intb, st_min2, st_max2, st_sumL, st_allL, st_anyL, st_tupL, st_tupT, st_joinL, st_rcvj, st_sh, st_idxr, st_lenr, st_tupr, st_appr, st_rcvr, st_joinr, st_setr, mulOk_fm, mulOk_r, mulOk_l, st_eq, st_ne, W.eq, W.eqs, W.pl, W.pls, W.dep, W.deps, d8, b8, i0 (n + 2) a (by omega), h]
/-! what is due where a copy was not changed -/
theorem own_self (A : List Ed) : own A A = [] := by
  rw [List.eq_nil_iff_forall_not_mem]
  intro x hx
  exact (own_mem.mp hx).2 (own_mem.mp hx).1
theorem own_nil (C : List Ed) : own C [] = C := by
  unfold own
  exact List.filter_eq_self.mpr fun e _ => by simp
theorem nil_own (C : List Ed) : own [] C = [] := rfl
theorem Due.left {base : List Nat} {C : List Ed} (h : sep C) : Due base [] C (mW (app base 0 C)) := by
  refine .inr ⟨fun u hu v hv => ?_, ?_⟩
  · obtain ⟨s, e⟩ := u
    obtain ⟨t, f⟩ := v
    rcases U_mem.mp hu with ⟨_, h⟩ | ⟨rfl, _⟩
    · simp [nil_own] at h
    · rcases U_mem.mp hv with ⟨_, h⟩ | ⟨rfl, _⟩
      · simp [nil_own] at h
      · simp [adj]
  · unfold whole
    rw [own_nil, List.nil_append, srt_id eK (sep_up h)]
theorem Due.same {base : List Nat} {A : List Ed} (h : sep A) : Due base A A (mW (app base 0 A)) := by
  refine .inr ⟨fun u hu v hv => ?_, ?_⟩
  · unfold U at hu
    rw [own_self] at hu
    simp at hu
  · unfold whole
    rw [own_self, List.append_nil, srt_id eK (sep_up h)]
theorem ed_len (a b : List Nat) : (edit a b).length ≤ a.length + b.length := by
  have g := fin_good a b
  have h := (bl_short _ g.fn.1).1
  have h1 := congrArg List.length g.oa
  have h2 := congrArg List.length g.ob
  simp only [List.length_append] at h1 h2
  show (eds 0 _).length ≤ _
  rw [eds_len]
  omega
/-- merge_texts, the answer known -/
theorem mt (n : Nat) (base one other : List Nat) (hb : base.length ≤ 100) (h1 : one.length ≤ 100) (h2 : other.length ≤ 100) {w : W} (d : Due base (edit base one) (edit base other) w) (G : List O) : callW (cl (n + 4)) .iso 8 [.str base, .str one, .str other] G = .ok w G := by
  obtain ⟨w', e, d'⟩ := t8m n base one other hb h1 h2 G
  rw [e, d.uniq d']
def rest : B → B
  | .cons _ b => b
  | .nil => .nil
def hd : B → S
  | .cons s _ => s
  | .nil => .pass
def t18 : B := rest (rest (rest b18))
theorem up_len {α : Type} (k : α → Nat) (N : Nat) : ∀ (l : List α) (m : Nat), up k l → m ≤ N → (∀ x ∈ l, m ≤ k x ∧ k x < N) → m + l.length ≤ N
  | [], m, _, hm, _ => hm
  | x :: l, m, h, hm, hk => by
    obtain ⟨p, q⟩ := List.pairwise_cons.mp h
    have h1 := hk x List.mem_cons_self
    have := up_len k N l (k x + 1) q (by omega) fun y hy => ⟨by have := p y hy; omega, (hk y (List.mem_cons_of_mem _ hy)).2⟩
    rw [List.length_cons]
    omega
theorem rows_len {base : List Nat} {A C : List Ed} (two : Two base.length A C) {rs : List Row} (hu : up rK rs) (hm : ∀ r, r ∈ rs ↔ isRow base A C r) : rs.length ≤ base.length + 1 := by
  have := up_len rK (base.length + 1) rs 0 hu (Nat.zero_le _) fun r hr => by
    obtain ⟨u, hu, _, _, _, rfl⟩ := (hm r).mp hr
    obtain ⟨v, hv, _, e⟩ := rowAt_key (base := base) hu
    refine ⟨Nat.zero_le _, ?_⟩
    show (rowAt base A C u).1 < _
    rw [e]
    obtain ⟨s, x⟩ := v
    rcases U_mem.mp hv with ⟨_, h⟩ | ⟨_, h⟩
    · have := two.al x (own_mem.mp h).1
      show x.1 < _
      omega
    · have := two.cl x (own_mem.mp h).1
      show x.1 < _
      omega
  omega
theorem tail18 (n : Nat) (i : Nat) (base one other : List Nat) (hb : base.length ≤ 11) (h1 : one.length ≤ 15) (h2 : other.length ≤ 15) (G : List O) :
    exB (cl (n + 5)) gk wf t18 [some (.ref i), some (.str base), some (.str one), some (.str other), none, none, none, none, none] G = .ok (.rt (.bl true)) G := by
  have two := ed_two base one other (by omega) (by omega) (by omega)
  obtain ⟨sA, _, tA, lA, aA⟩ := ed_facts base one (by omega) (by omega)
  obtain ⟨sC, _, tC, lC, aC⟩ := ed_facts base other (by omega) (by omega)
  have kA := ed_len base one
  have kC := ed_len base other
  obtain ⟨w, e16, due⟩ := t16 base one other (edit base one) (edit base other) two (by omega) lA lC tA tC n rfl rfl (by omega) (by omega) (by omega) G
  have m1 := mt (n + 1) base one other (by omega) (by omega) (by omega) due G
  have m3 : callW (cl (n + 5)) .iso 8 [.str base, .str base, .str other] G = .ok (mW other) G := mt (n + 1) base base other (by omega) (by omega) (by omega) (by
    have := Due.left (base := base) sC
    rw [aC] at this
    rw [edit_self]
    exact this) G
  have m4 : callW (cl (n + 5)) .iso 8 [.str base, .str one, .str one] G = .ok (mW one) G := mt (n + 1) base one one (by omega) (by omega) (by omega) (by
    have := Due.same (base := base) sA
    rw [aA] at this
    exact this) G
  have q1 := told_none n base one (by omega) (by omega) G
  have q2 := told_five n one other G
  have q3 := told_long n base other (by omega) G
  have n3 := ne_pl (mW_pl other) (mW_dep other) G
  have n4 := ne_pl (mW_pl one) (mW_dep one) G
  have hR3 : cmpW .eq (.lst [.str [105, 110], .str [105, 110], .str [105, 110]]) (.lst (List.replicate 3 (.str [105, 110]))) G = .ok (.bl true) G := by rfl
  rcases due with ⟨rs, hn, hu, hm, rfl⟩ | ⟨hno, rfl⟩
  · have m2 : callW (cl (n + 5)) .iso 8 [.str base, .str other, .str one] G = .ok (cW (rs.map flR)) G := mt (n + 1) base other one (by omega) (by omega) (by omega) (Due.swap_c two hn hu hm) G
    have n1 := ne_pl (cW_pl rs) (cW_dep rs) G
    have n2 := ne_pl (cW_pl (rs.map flR)) (cW_dep (rs.map flR)) G
    have hfl : (rs.map flR).length ≤ 16777216 ∧ rs.length ≤ 16777216 := by
      have := rows_len two hu hm
      rw [List.length_map]
      omega
    have e1 := lcL_ty (asg := fun x G => asgT (cl (n + 5)) gk (.tp (.cons (.nm 5) (.cons (.nm 6) (.cons (.nm 7) (.cons (.nm 8) .nil))))) x [some (.ref i), some (.str base), some (.str one), some (.str other), some (cW rs), none, none, none, none] G) (cd := fun sw1 G => evC (cl (n + 5)) gk .no sw1 G) (e := fun sw1 G => ev (cl (n + 5)) gk e18_0 sw1 G)
      (s := ⟨rs.map encR, none⟩) (G := G) rfl encR (fun r => true) (fun r => encR (flR r)) rs [] (by simpa using hfl.2) fun x hx =>
        ⟨[some (.ref i), some (.str base), some (.str one), some (.str other), some (cW rs), some (.int (x.1 : Nat)), some (.str x.2.1), some (.str x.2.2.1), some (.str x.2.2.2)], by simp [ev, evs, evT, evO, evC, evI, asgT, asgTs, evH, pickH, ex, exB, runD, look, seqOf, isKds, isKd, szOk, bnd_ok, bnd_exc, noX_ok, wipe, st_mkt, st_mkf, st_addi, st_adds, st_addt, st_auI, st_auS, st_sub, st_mul, st_fdiv, st_mod, st_pow, st_cat, st_repl, st_reps, st_lt, st_le, st_gt, st_ge, st_eqi, st_nei, st_eqs, st_nes, st_idxL, st_idxS, st_idxT, st_idxs, at_n, at_0, at_1, at_2, at_m1, st_slcL, st_slcT, st_slcs, cut_nn, cut_n, cut_from, cut_1, cut_to1, st_lens, st_lenL, st_lenS, st_lenT, st_inti, st_intb, st_min2, st_max2, st_sumL, st_allL, st_anyL, st_tupL, st_tupT, st_joinL, st_rcvj, st_sh, st_idxr, st_lenr, st_tupr, st_appr, st_rcvr, st_joinr, st_setr, mulOk_fm, mulOk_r, mulOk_l, st_eq, st_ne, W.eq, W.eqs, W.pl, W.pls, W.dep, W.deps, encR], by simp [ev, evs, evT, evO, evC, evI, asgT, asgTs, evH, pickH, ex, exB, runD, look, seqOf, isKds, isKd, szOk, bnd_ok, bnd_exc, noX_ok, wipe, st_mkt, st_mkf, st_addi, st_adds, st_addt, st_auI, st_auS, st_sub, st_mul, st_fdiv, st_mod, st_pow, st_cat, st_repl, st_reps, st_lt, st_le, st_gt, st_ge, st_eqi, st_nei, st_eqs, st_nes, st_idxL, st_idxS, st_idxT, st_idxs, at_n, at_0, at_1, at_2, at_m1, st_slcL, st_slcT, st_slcs, cut_nn, cut_n, cut_from, cut_1, cut_to1, st_lens, st_lenL, st_lenS, st_lenT, st_inti, st_intb, st_min2, st_max2, st_sumL, st_allL, st_anyL, st_tupL, st_tupT, st_joinL, st_rcvj, st_sh, st_idxr, st_lenr, st_tupr, st_appr, st_rcvr, st_joinr, st_setr, mulOk_fm, mulOk_r, mulOk_l, st_eq, st_ne, W.eq, W.eqs, W.pl, W.pls, W.dep, W.deps], fun _ => by simp [ev, evs, evT, evO, evC, evI, asgT, asgTs, evH, pickH, ex, exB, runD, look, seqOf, isKds, isKd, szOk, bnd_ok, bnd_exc, noX_ok, wipe, st_mkt, st_mkf, st_addi, st_adds, st_addt, st_auI, st_auS, st_sub, st_mul, st_fdiv, st_mod, st_pow, st_cat, st_repl, st_reps, st_lt, st_le, st_gt, st_ge, st_eqi, st_nei, st_eqs, st_nes, st_idxL, st_idxS, st_idxT, st_idxs, at_n, at_0, at_1, at_2, at_m1, st_slcL, st_slcT, st_slcs, cut_nn, cut_n, cut_from, cut_1, cut_to1, st_lens, st_lenL, st_lenS, st_lenT, st_inti, st_intb, st_min2, st_max2, st_sumL, st_allL, st_anyL, st_tupL, st_tupT, st_joinL, st_rcvj, st_sh, st_idxr, st_lenr, st_tupr, st_appr, st_rcvr, st_joinr, st_setr, mulOk_fm, mulOk_r, mulOk_l, st_eq, st_ne, W.eq, W.eqs, W.pl, W.pls, W.dep, W.deps, e18_0, encR, flR]⟩
    rw [List.filter_eq_self.mpr (fun _ _ => rfl)] at e1
    have e2 : rs.map (fun r => encR (flR r)) = (rs.map flR).map encR := by rw [List.map_map]; rfl
    rw [e2] at e1
    have hso := st_srtR (up_apart rK (flR_up hu)) hfl.1 G
    rw [srt_id rK (flR_up hu)] at hso
    have hlen := hfl.1
    generalize rs.map flR = rs2 at *
    have heq : cmpW .eq (.str CONF) (.str CONF) G = .ok (.bl true) G := rfl
    simp [ev, evs, evT, evO, evC, evI, asgT, asgTs, evH, pickH, ex, exB, runD, look, seqOf, isKds, isKd, szOk, bnd_ok, bnd_exc, noX_ok, wipe, st_mkt, st_mkf, st_addi, st_adds, st_addt, st_auI, st_auS, st_sub, st_mul, st_fdiv, st_mod, st_pow, st_cat, st_repl, st_reps, st_lt, st_le, st_gt, st_ge, st_eqi, st_nei, st_eqs, st_nes, st_idxL, st_idxS, st_idxT, st_idxs, at_n, at_0, at_1, at_2, at_m1, st_slcL, st_slcT, st_slcs, cut_nn, cut_n, cut_from, cut_1, cut_to1, st_lens, st_lenL, st_lenS, st_lenT, st_inti, st_intb, st_min2, st_max2, st_sumL, st_allL, st_anyL, st_tupL, st_tupT, st_joinL, st_rcvj, st_sh, st_idxr, st_lenr, st_tupr, st_appr, st_rcvr, st_joinr, st_setr, mulOk_fm, mulOk_r, mulOk_l, st_eq, st_ne, W.eq, W.eqs, W.pl, W.pls, W.dep, W.deps, -List.reduceReplicate, mW, cW, MERG, CONF] at e16 m1 m2 m3 m4 n1 n2 n3 n4 e1 hso
    simp [ev, evs, evT, evO, evC, evI, asgT, asgTs, evH, pickH, ex, exB, runD, look, seqOf, isKds, isKd, szOk, bnd_ok, bnd_exc, noX_ok, wipe, st_mkt, st_mkf, st_addi, st_adds, st_addt, st_auI, st_auS, st_sub, st_mul, st_fdiv, st_mod, st_pow, st_cat, st_repl, st_reps, st_lt, st_le, st_gt, st_ge, st_eqi, st_nei, st_eqs, st_nes, st_idxL, st_idxS, st_idxT, st_idxs, at_n, at_0, at_1, at_2, at_m1, st_slcL, st_slcT, st_slcs, cut_nn, cut_n, cut_from, cut_1, cut_to1, st_lens, st_lenL, st_lenS, st_lenT, st_inti, st_intb, st_min2, st_max2, st_sumL, st_allL, st_anyL, st_tupL, st_tupT, st_joinL, st_rcvj, st_sh, st_idxr, st_lenr, st_tupr, st_appr, st_rcvr, st_joinr, st_setr, mulOk_fm, mulOk_r, mulOk_l, st_eq, st_ne, W.eq, W.eqs, W.pl, W.pls, W.dep, W.deps, -List.reduceReplicate, t18, b18, rest, e16, m1, m2, m3, m4, n1, n2, n3, n4, q1, q2, q3, hR3, e1, hso, hlen, mW, MERG, cW, CONF]
  · have m2 : callW (cl (n + 5)) .iso 8 [.str base, .str other, .str one] G = .ok (mW (app base 0 (whole (edit base one) (edit base other)))) G := mt (n + 1) base other one (by omega) (by omega) (by omega) (Due.swap_m two hno) G
    have n1 := ne_pl (mW_pl (app base 0 (whole (edit base one) (edit base other)))) (mW_dep _) G
    generalize app base 0 (whole (edit base one) (edit base other)) = T at *
    have hne : cmpW .eq (.str MERG) (.str CONF) G = .ok (.bl false) G := rfl
    simp [ev, evs, evT, evO, evC, evI, asgT, asgTs, evH, pickH, ex, exB, runD, look, seqOf, isKds, isKd, szOk, bnd_ok, bnd_exc, noX_ok, wipe, st_mkt, st_mkf, st_addi, st_adds, st_addt, st_auI, st_auS, st_sub, st_mul, st_fdiv, st_mod, st_pow, st_cat, st_repl, st_reps, st_lt, st_le, st_gt, st_ge, st_eqi, st_nei, st_eqs, st_nes, st_idxL, st_idxS, st_idxT, st_idxs, at_n, at_0, at_1, at_2, at_m1, st_slcL, st_slcT, st_slcs, cut_nn, cut_n, cut_from, cut_1, cut_to1, st_lens, st_lenL, st_lenS, st_lenT, st_inti, st_intb, st_min2, st_max2, st_sumL, st_allL, st_anyL, st_tupL, st_tupT, st_joinL, st_rcvj, st_sh, st_idxr, st_lenr, st_tupr, st_appr, st_rcvr, st_joinr, st_setr, mulOk_fm, mulOk_r, mulOk_l, st_eq, st_ne, W.eq, W.eqs, W.pl, W.pls, W.dep, W.deps, -List.reduceReplicate, mW] at e16 m1 m2 m3 m4 n1 n3 n4 
    simp [ev, evs, evT, evO, evC, evI, asgT, asgTs, evH, pickH, ex, exB, runD, look, seqOf, isKds, isKd, szOk, bnd_ok, bnd_exc, noX_ok, wipe, st_mkt, st_mkf, st_addi, st_adds, st_addt, st_auI, st_auS, st_sub, st_mul, st_fdiv, st_mod, st_pow, st_cat, st_repl, st_reps, st_lt, st_le, st_gt, st_ge, st_eqi, st_nei, st_eqs, st_nes, st_idxL, st_idxS, st_idxT, st_idxs, at_n, at_0, at_1, at_2, at_m1, st_slcL, st_slcT, st_slcs, cut_nn, cut_n, cut_from, cut_1, cut_to1, st_lens, st_lenL, st_lenS, st_lenT, st_inti, st_intb, st_min2, st_max2, st_sumL, st_allL, st_anyL, st_tupL, st_tupT, st_joinL, st_rcvj, st_sh, st_idxr, st_lenr, st_tupr, st_appr, st_rcvr, st_joinr, st_setr, mulOk_fm, mulOk_r, mulOk_l, st_eq, st_ne, W.eq, W.eqs, W.pl, W.pls, W.dep, W.deps, -List.reduceReplicate, t18, b18, rest, e16, m1, m2, m3, m4, n1, n3, n4, q1, q2, q3, hR3, mW, MERG]
end K64
end

section
set_option linter.all false
set_option maxRecDepth 100000
set_option maxHeartbeats 8000000
/-! k64: the law. -/
namespace K64
open T2
theorem case18 (n : Nat) (G : List O) (i : Nat) (h : isBag G i) : ∃ G', cl (n + 6) 18 [.ref i] G = .ok (.bl true) G' := by
  obtain ⟨b, G1, e1, l1, c1', h1⟩ := word (n + 2) G i 12 h (by decide) (by decide)
  obtain ⟨o, G2, e2, l2, h2⟩ := copy (n + 1) G1 i b h1 (by omega)
  obtain ⟨r, G3, e3, r0, r1, h3⟩ := draw (n + 4) G2 i 5 h2 (by decide) (by decide)
  have hd18 : d18 = ⟨9, 1, .cons (hd b18) (.cons (hd (rest b18)) (.cons (hd (rest (rest b18))) t18))⟩ := rfl
  rw [c18, hd18]
  by_cases hr : 0 < r
  · obtain ⟨p, G4, e4, l4, h4⟩ := copy (n + 1) G3 i b h3 (by omega)
    have ht := tail18 n i b o p (by omega) (by omega) (by omega) G4
    exact ⟨G4, by simp [ev, evs, evT, evO, evC, evI, asgT, asgTs, evH, pickH, ex, exB, runD, look, seqOf, isKds, isKd, szOk, bnd_ok, bnd_exc, noX_ok, wipe, st_mkt, st_mkf, st_addi, st_adds, st_addt, st_auI, st_auS, st_sub, st_mul, st_fdiv, st_mod, st_pow, st_cat, st_repl, st_reps, st_lt, st_le, st_gt, st_ge, st_eqi, st_nei, st_eqs, st_nes, st_idxL, st_idxS, st_idxT, st_idxs, at_n, at_0, at_1, at_2, at_m1, st_slcL, st_slcT, st_slcs, cut_nn, cut_n, cut_from, cut_1, cut_to1, st_lens, st_lenL, st_lenS, st_lenT, st_inti, st_intb, st_min2, st_max2, st_sumL, st_allL, st_anyL, st_tupL, st_tupT, st_joinL, st_rcvj, st_sh, st_idxr, st_lenr, st_tupr, st_appr, st_rcvr, st_joinr, st_setr, mulOk_fm, mulOk_r, mulOk_l, st_eq, st_ne, W.eq, W.eqs, W.pl, W.pls, W.dep, W.deps, hd, rest, b18, e1, e2, e3, hr, e4, ht]⟩
  · obtain ⟨p, G4, e4, l4, _, h4⟩ := word (n + 2) G3 i 12 h3 (by decide) (by decide)
    have ht := tail18 n i b o p (by omega) (by omega) (by omega) G4
    exact ⟨G4, by simp [ev, evs, evT, evO, evC, evI, asgT, asgTs, evH, pickH, ex, exB, runD, look, seqOf, isKds, isKd, szOk, bnd_ok, bnd_exc, noX_ok, wipe, st_mkt, st_mkf, st_addi, st_adds, st_addt, st_auI, st_auS, st_sub, st_mul, st_fdiv, st_mod, st_pow, st_cat, st_repl, st_reps, st_lt, st_le, st_gt, st_ge, st_eqi, st_nei, st_eqs, st_nes, st_idxL, st_idxS, st_idxT, st_idxs, at_n, at_0, at_1, at_2, at_m1, st_slcL, st_slcT, st_slcs, cut_nn, cut_n, cut_from, cut_1, cut_to1, st_lens, st_lenL, st_lenS, st_lenT, st_inti, st_intb, st_min2, st_max2, st_sumL, st_allL, st_anyL, st_tupL, st_tupT, st_joinL, st_rcvj, st_sh, st_idxr, st_lenr, st_tupr, st_appr, st_rcvr, st_joinr, st_setr, mulOk_fm, mulOk_r, mulOk_l, st_eq, st_ne, W.eq, W.eqs, W.pl, W.pls, W.dep, W.deps, hd, rest, b18, e1, e2, e3, hr, e4, ht]⟩
/-! the fixed ones -/
theorem fx1 (n : Nat) (G : List O) : callW (cl (n + 4)) .iso 8 [.str [97, 98, 99], .str [120, 97, 98, 99], .str [97, 98, 99, 121]] G = .ok (.tup [.str MERG, .str [120, 97, 98, 99, 121]]) G := by
  refine mt n _ _ _ (by decide) (by decide) (by decide) ?_ G
  have eA : edit [97, 98, 99] [120, 97, 98, 99] = [(0, [], [120])] := by simp [edit, fin, go, dist, stp, Sta.bl, eds]
  have eC : edit [97, 98, 99] [97, 98, 99, 121] = [(3, [], [121])] := by simp [edit, fin, go, dist, stp, Sta.bl, eds]
  rw [eA, eC]
  have o1 : own [(0, [], [120])] [(3, [], [121])] = [(0, [], [120])] := by decide
  have o2 : own [(3, [], [121])] [(0, [], [120])] = [(3, [], [121])] := by decide
  refine .inr ⟨?_, ?_⟩
  · unfold U
    rw [o1, o2]
    decide
  · unfold whole
    rw [o2, srt_id eK (by simp [up]; decide)]
    rfl
theorem fx4 (n : Nat) (G : List O) : callW (cl (n + 4)) .iso 8 [.str [97, 98, 99], .str [120, 97, 98, 99], .str [120, 97, 98]] G = .ok (.tup [.str MERG, .str [120, 97, 98]]) G := by
  refine mt n _ _ _ (by decide) (by decide) (by decide) ?_ G
  have eA : edit [97, 98, 99] [120, 97, 98, 99] = [(0, [], [120])] := by simp [edit, fin, go, dist, stp, Sta.bl, eds]
  have eC : edit [97, 98, 99] [120, 97, 98] = [(0, [], [120]), (2, [99], [])] := by simp [edit, fin, go, dist, stp, Sta.bl, eds]
  rw [eA, eC]
  have o1 : own [(0, [], [120])] [(0, [], [120]), (2, [99], [])] = [] := by decide
  have o2 : own [(0, [], [120]), (2, [99], [])] [(0, [], [120])] = [(2, [99], [])] := by decide
  refine .inr ⟨?_, ?_⟩
  · unfold U
    rw [o1, o2]
    decide
  · unfold whole
    rw [o2, srt_id eK (by simp [up]; decide)]
    rfl
theorem fx3 (n : Nat) (G : List O) : ∃ w, callW (cl (n + 4)) .iso 8 [.str [97, 98, 99], .str [97, 99], .str [97, 98, 120, 99]] G = .ok (.tup [.str CONF, w]) G := by
  obtain ⟨w, e, d⟩ := t8m n [97, 98, 99] [97, 99] [97, 98, 120, 99] (by decide) (by decide) (by decide) G
  have eA : edit [97, 98, 99] [97, 99] = [(1, [98], [])] := by simp [edit, fin, go, dist, stp, Sta.bl, eds]
  have eC : edit [97, 98, 99] [97, 98, 120, 99] = [(2, [], [120])] := by simp [edit, fin, go, dist, stp, Sta.bl, eds]
  rw [eA, eC] at d
  rcases d with ⟨rs, _, _, _, rfl⟩ | ⟨hn, _⟩
  · exact ⟨_, e⟩
  · have o1 : own [(1, [98], [])] [(2, [], [120])] = [(1, [98], [])] := by decide
    have o2 : own [(2, [], [120])] [(1, [98], [])] = [(2, [], [120])] := by decide
    have := hn (0, (1, [98], [])) (U_mem.mpr (.inl ⟨rfl, by rw [o1]; simp⟩)) (1, (2, [], [120])) (U_mem.mpr (.inr ⟨rfl, by rw [o2]; simp⟩))
    simp [adj, tch] at this
theorem fx2 (n : Nat) (G : List O) : callW (cl (n + 4)) .iso 8 [.str [97, 98, 99], .str [97, 120, 99], .str [97, 121, 99]] G = .ok (.tup [.str CONF, .tup [.tup [.int 1, .str [98], .str [120], .str [121]]]]) G := by
  obtain ⟨w, e, d⟩ := t8m n [97, 98, 99] [97, 120, 99] [97, 121, 99] (by decide) (by decide) (by decide) G
  have eA : edit [97, 98, 99] [97, 120, 99] = [(1, [98], [120])] := by simp [edit, fin, go, dist, stp, Sta.bl, eds]
  have eC : edit [97, 98, 99] [97, 121, 99] = [(1, [98], [121])] := by simp [edit, fin, go, dist, stp, Sta.bl, eds]
  rw [eA, eC] at d
  have o1 : own [(1, [98], [120])] [(1, [98], [121])] = [(1, [98], [120])] := by decide
  have o2 : own [(1, [98], [121])] [(1, [98], [120])] = [(1, [98], [121])] := by decide
  have hu : ((0, (1, [98], [120])) : Vx) ∈ U [(1, [98], [120])] [(1, [98], [121])] := U_mem.mpr (.inl ⟨rfl, by rw [o1]; simp⟩)
  have hv : ((1, (1, [98], [121])) : Vx) ∈ U [(1, [98], [120])] [(1, [98], [121])] := U_mem.mpr (.inr ⟨rfl, by rw [o2]; simp⟩)
  have ha : adj (0, (1, [98], [120])) (1, (1, [98], [121])) = true := by decide
  rcases d with ⟨rs, hne, hup, hm, rfl⟩ | ⟨hn, _⟩
  · have hrow : ∀ r ∈ rs, r = (1, [98], [120], [121]) := fun r hr => by
      obtain ⟨u, hu1, _, _, _, rfl⟩ := (hm r).mp hr
      have c1 : Con (U [(1, [98], [120])] [(1, [98], [121])]) u (0, (1, [98], [120])) := by
        obtain ⟨s, x⟩ := u
        rcases U_mem.mp hu1 with ⟨rfl, h⟩ | ⟨rfl, h⟩
        · rw [o1] at h
          rw [List.mem_singleton.mp h]
          exact .refl
        · rw [o2] at h
          rw [List.mem_singleton.mp h]
          exact .step .refl hu (by decide)
      have c2 := c1.trans (.step .refl hv ha)
      unfold rowAt
      rw [o1, o2]
      have k1 : side 0 (cls (U [(1, [98], [120])] [(1, [98], [121])]) u) [(1, [98], [120])] = [(1, [98], [120])] := by
        unfold side
        rw [List.filter_cons, if_pos (cls_iff.mpr c1)]
        rfl
      have k2 : side 1 (cls (U [(1, [98], [120])] [(1, [98], [121])]) u) [(1, [98], [121])] = [(1, [98], [121])] := by
        unfold side
        rw [List.filter_cons, if_pos (cls_iff.mpr c2)]
        rfl
      rw [k1, k2]
      rfl
    have : rs = [(1, [98], [120], [121])] := by
      match rs, hne, hup, hrow with
      | [r], _, _, h => rw [h r List.mem_cons_self]
      | r :: r' :: t, _, hu, h =>
        have h1 := h r List.mem_cons_self
        have h2 := h r' (List.mem_cons_of_mem _ List.mem_cons_self)
        have := (List.pairwise_cons.mp hu).1 r' List.mem_cons_self
        rw [h1, h2] at this
        exact absurd this (Nat.lt_irrefl _)
    rw [e, this]
    rfl
  · have := hn _ hu _ hv
    rw [ha] at this
    cases this
theorem law_true (ns : List Int) (hn : ns.length ≤ 63) : ∃ G', cl 40 19 [.scr (ns.map .int)] [] = .ok (.bl true) G' := by
  obtain ⟨m, hm⟩ : ∃ m : Nat, (if 8 < (if (ns.length : Int) < 1 then (1 : Int) else ns.length) then 8 else (if (ns.length : Int) < 1 then (1 : Int) else ns.length)) = (m : Int) ∧ m ≤ 8 := by
    refine ⟨min (max ns.length 1) 8, ?_, by omega⟩
    by_cases h1 : (ns.length : Int) < 1
    · simp only [if_pos h1]; rw [if_neg (by decide)]; omega
    · simp only [if_neg h1]
      by_cases h8 : (8 : Int) < ns.length
      · rw [if_pos h8]; omega
      · rw [if_neg h8]; omega
  obtain ⟨hm, hm8⟩ := hm
  obtain ⟨sw', G', ef, _⟩ := forL_rel (asg := fun w sw G => asgT (cl 39) gk (.nm 1) w sw G) (body := fun sw G => exB (cl 39) gk wf b19_0 sw G) (s := ⟨rngL 0 (m : Int), none⟩) (α := Unit) (fun _ sw G => ∃ x, sw = [some (.scr (ns.map .int)), x]) (fun a _ => a) (fun _ _ _ _ => rfl) (rngL 0 (m : Int)) () [some (.scr (ns.map .int)), none] [] ⟨_, rfl⟩ (fun u x sw G hx ⟨y, hsw⟩ => by
      subst hsw
      obtain ⟨k, hk, rfl⟩ := List.mem_map.mp hx
      have hk0 : (0 : Int) + (k : Nat) = ((k : Nat) : Int) := by omega
      rw [hk0]
      obtain ⟨G1, e1, h1⟩ := bag 38 G ns k
      obtain ⟨G2, e2⟩ := case18 33 G1 G.length h1
      exact ⟨[some (.scr (ns.map .int)), some (.int (k : Nat))], G, [some (.scr (ns.map .int)), some (.int (k : Nat))], G2, by simp [ev, evs, evT, evO, evC, evI, asgT, asgTs, evH, pickH, ex, exB, runD, look, seqOf, isKds, isKd, szOk, bnd_ok, bnd_exc, noX_ok, wipe, st_mkt, st_mkf, st_addi, st_adds, st_addt, st_auI, st_auS, st_sub, st_mul, st_fdiv, st_mod, st_pow, st_cat, st_repl, st_reps, st_lt, st_le, st_gt, st_ge, st_eqi, st_nei, st_eqs, st_nes, st_idxL, st_idxS, st_idxT, st_idxs, at_n, at_0, at_1, at_2, at_m1, st_slcL, st_slcT, st_slcs, cut_nn, cut_n, cut_from, cut_1, cut_to1, st_lens, st_lenL, st_lenS, st_lenT, st_inti, st_intb, st_min2, st_max2, st_sumL, st_allL, st_anyL, st_tupL, st_tupT, st_joinL, st_rcvj, st_sh, st_idxr, st_lenr, st_tupr, st_appr, st_rcvr, st_joinr, st_setr, mulOk_fm, mulOk_r, mulOk_l, st_eq, st_ne, W.eq, W.eqs, W.pl, W.pls, W.dep, W.deps], .inl (by simp [ev, evs, evT, evO, evC, evI, asgT, asgTs, evH, pickH, ex, exB, runD, look, seqOf, isKds, isKd, szOk, bnd_ok, bnd_exc, noX_ok, wipe, st_mkt, st_mkf, st_addi, st_adds, st_addt, st_auI, st_auS, st_sub, st_mul, st_fdiv, st_mod, st_pow, st_cat, st_repl, st_reps, st_lt, st_le, st_gt, st_ge, st_eqi, st_nei, st_eqs, st_nes, st_idxL, st_idxS, st_idxT, st_idxs, at_n, at_0, at_1, at_2, at_m1, st_slcL, st_slcT, st_slcs, cut_nn, cut_n, cut_from, cut_1, cut_to1, st_lens, st_lenL, st_lenS, st_lenT, st_inti, st_intb, st_min2, st_max2, st_sumL, st_allL, st_anyL, st_tupL, st_tupT, st_joinL, st_rcvj, st_sh, st_idxr, st_lenr, st_tupr, st_appr, st_rcvr, st_joinr, st_setr, mulOk_fm, mulOk_r, mulOk_l, st_eq, st_ne, W.eq, W.eqs, W.pl, W.pls, W.dep, W.deps, b19_0, e1, e2]), _, rfl⟩)
  refine ⟨G', ?_⟩
  have hsm : small (m : Int) = true := small_nat m (by omega)
  have g1 := fx1 35 []
  have g2 := fx2 35 []
  obtain ⟨w3, g3⟩ := fx3 35 []
  have g4 := fx4 35 []
  simp only [MERG, CONF] at g1 g2 g3 g4
  rw [c19]
  simp [ev, evs, evT, evO, evC, evI, asgT, asgTs, evH, pickH, ex, exB, runD, look, seqOf, isKds, isKd, szOk, bnd_ok, bnd_exc, noX_ok, wipe, st_mkt, st_mkf, st_addi, st_adds, st_addt, st_auI, st_auS, st_sub, st_mul, st_fdiv, st_mod, st_pow, st_cat, st_repl, st_reps, st_lt, st_le, st_gt, st_ge, st_eqi, st_nei, st_eqs, st_nes, st_idxL, st_idxS, st_idxT, st_idxs, at_n, at_0, at_1, at_2, at_m1, st_slcL, st_slcT, st_slcs, cut_nn, cut_n, cut_from, cut_1, cut_to1, st_lens, st_lenL, st_lenS, st_lenT, st_inti, st_intb, st_min2, st_max2, st_sumL, st_allL, st_anyL, st_tupL, st_tupT, st_joinL, st_rcvj, st_sh, st_idxr, st_lenr, st_tupr, st_appr, st_rcvr, st_joinr, st_setr, mulOk_fm, mulOk_r, mulOk_l, st_eq, st_ne, W.eq, W.eqs, W.pl, W.pls, W.dep, W.deps] at ef
  simp [ev, evs, evT, evO, evC, evI, asgT, asgTs, evH, pickH, ex, exB, runD, look, seqOf, isKds, isKd, szOk, bnd_ok, bnd_exc, noX_ok, wipe, st_mkt, st_mkf, st_addi, st_adds, st_addt, st_auI, st_auS, st_sub, st_mul, st_fdiv, st_mod, st_pow, st_cat, st_repl, st_reps, st_lt, st_le, st_gt, st_ge, st_eqi, st_nei, st_eqs, st_nes, st_idxL, st_idxS, st_idxT, st_idxs, at_n, at_0, at_1, at_2, at_m1, st_slcL, st_slcT, st_slcs, cut_nn, cut_n, cut_from, cut_1, cut_to1, st_lens, st_lenL, st_lenS, st_lenT, st_inti, st_intb, st_min2, st_max2, st_sumL, st_allL, st_anyL, st_tupL, st_tupT, st_joinL, st_rcvj, st_sh, st_idxr, st_lenr, st_tupr, st_appr, st_rcvr, st_joinr, st_setr, mulOk_fm, mulOk_r, mulOk_l, st_eq, st_ne, W.eq, W.eqs, W.pl, W.pls, W.dep, W.deps, d19, b19, g1, g2, g3, g4, hm, hsm, ef]
end K64
end

section
set_option Elab.async false
set_option linter.all false
set_option autoImplicit false
set_option maxRecDepth 100000
set_option maxHeartbeats 0
/-! The law's text is the code of PK64: printed by gen.py. -/
namespace K64
open PySem PySem.Spec L2 T2
def top (i : Nat) : Stmt := PySem.Challenge.pw_twowaytexts_k64_merges_by_signs.main.body.getD i (.Pass ⟨0, 0, 0, 0⟩)
def FN : List Str := ["check_string", "changed", "costs_from", "least_edit", "edit_between", "touch", "groups_of", "region_of", "merge_texts", "_law_bag", "_law_draw", "_law_one", "_law_word", "_law_copy", "_law_done", "_law_touch", "_law_merge", "_law_told", "_law_case", "law"]
def CN : List Str := ["MOST_TEXT"]
def XN : List Str := ["NotIn"]
def NB : List Str := ["abs", "all", "any", "bool", "dict", "enumerate", "int", "isinstance", "len", "list", "max", "min", "range", "sorted", "str", "sum", "tuple", "zip"]
def XF : List (List Str) := [["which"]]
theorem fn_0 : FN[0]? = some ("check_string" : Str) := rfl
theorem fn_1 : FN[1]? = some ("changed" : Str) := rfl
theorem fn_2 : FN[2]? = some ("costs_from" : Str) := rfl
theorem fn_3 : FN[3]? = some ("least_edit" : Str) := rfl
theorem fn_4 : FN[4]? = some ("edit_between" : Str) := rfl
theorem fn_5 : FN[5]? = some ("touch" : Str) := rfl
theorem fn_6 : FN[6]? = some ("groups_of" : Str) := rfl
theorem fn_7 : FN[7]? = some ("region_of" : Str) := rfl
theorem fn_8 : FN[8]? = some ("merge_texts" : Str) := rfl
theorem fn_9 : FN[9]? = some ("_law_bag" : Str) := rfl
theorem fn_10 : FN[10]? = some ("_law_draw" : Str) := rfl
theorem fn_11 : FN[11]? = some ("_law_one" : Str) := rfl
theorem fn_12 : FN[12]? = some ("_law_word" : Str) := rfl
theorem fn_13 : FN[13]? = some ("_law_copy" : Str) := rfl
theorem fn_14 : FN[14]? = some ("_law_done" : Str) := rfl
theorem fn_15 : FN[15]? = some ("_law_touch" : Str) := rfl
theorem fn_16 : FN[16]? = some ("_law_merge" : Str) := rfl
theorem fn_17 : FN[17]? = some ("_law_told" : Str) := rfl
theorem fn_18 : FN[18]? = some ("_law_case" : Str) := rfl
theorem fn_19 : FN[19]? = some ("law" : Str) := rfl
theorem cn_0 : CN[0]? = some ("MOST_TEXT" : Str) := rfl
theorem xn_0 : XN[0]? = some ("NotIn" : Str) := rfl
theorem lt_0 : 0 < 1 := by decide
theorem nb_abs : ("abs" : Str) ∈ NB := by decide +kernel
theorem nb_all : ("all" : Str) ∈ NB := by decide +kernel
theorem nb_any : ("any" : Str) ∈ NB := by decide +kernel
theorem nb_bool : ("bool" : Str) ∈ NB := by decide +kernel
theorem nb_dict : ("dict" : Str) ∈ NB := by decide +kernel
theorem nb_enumerate : ("enumerate" : Str) ∈ NB := by decide +kernel
theorem nb_int : ("int" : Str) ∈ NB := by decide +kernel
theorem nb_isinstance : ("isinstance" : Str) ∈ NB := by decide +kernel
theorem nb_len : ("len" : Str) ∈ NB := by decide +kernel
theorem nb_list : ("list" : Str) ∈ NB := by decide +kernel
theorem nb_max : ("max" : Str) ∈ NB := by decide +kernel
theorem nb_min : ("min" : Str) ∈ NB := by decide +kernel
theorem nb_range : ("range" : Str) ∈ NB := by decide +kernel
theorem nb_sorted : ("sorted" : Str) ∈ NB := by decide +kernel
theorem nb_str : ("str" : Str) ∈ NB := by decide +kernel
theorem nb_sum : ("sum" : Str) ∈ NB := by decide +kernel
theorem nb_tuple : ("tuple" : Str) ∈ NB := by decide +kernel
theorem nb_zip : ("zip" : Str) ∈ NB := by decide +kernel
theorem bo_int : bootBuiltins "int" = some (.type "int") := by decide +kernel
theorem bo_bool : bootBuiltins "bool" = some (.type "bool") := by decide +kernel
theorem bo_str : bootBuiltins "str" = some (.type "str") := by decide +kernel
theorem bo_tuple : bootBuiltins "tuple" = some (.type "tuple") := by decide +kernel
theorem bo_list : bootBuiltins "list" = some (.type "list") := by decide +kernel
/-- the module's names -/
def ZZ (P : Program) (w : World) (K : PySem.W.Frag) (fa xa : Nat → Addr) (mg : Str → Option Value) (base : Heap) : Ev2 := { P := P, w := w, K := K, fa := fa, xa := xa, xf := fun c => XF.getD c [], xn := 1, mg := mg, base := base, tb := tb, gk := gk, wf := wf, fnm := FN, cnm := CN, xnm := XN, nb := NB }
section
variable {P : Program} {w : World} {K : PySem.W.Frag} {fa xa : Nat → Addr} {mg : Str → Option Value} {base : Heap}
theorem tb_all : ∀ k, k < 20 → ((ZZ P w K fa xa mg base).tb k).isSome = true := fun k h => by
  have e : ∀ j : Nat, j < 20 → (tb j).isSome = true := by intro j hj; unfold tb; rw [List.getElem?_eq_getElem (by simpa [TB] using hj)]; rfl
  exact e k h
/-! check_string -/
def N0 : List Str := ["text"]
def ps0 : List Str := ["text"]
abbrev st0 : Stmt := top 5
abbrev sc0 : Scope := defScope st0
theorem v0_0 {Z : Ev2} {pos : Pos} : HE Z N0 sc0 F1 (.Name "text" pos) (.v 0) := .v rfl (by decide +kernel) (by decide +kernel)
theorem g0_MOST_TEXT : glB sc0 "MOST_TEXT" = true := by decide +kernel
theorem g0_NotIn : glB sc0 "NotIn" = true := by decide +kernel
theorem g0_isinstance : glB sc0 "isinstance" = true := by decide +kernel
theorem g0_len : glB sc0 "len" = true := by decide +kernel
theorem g0_str : glB sc0 "str" = true := by decide +kernel
theorem hb0 (gz : Good (ZZ P w K fa xa mg base)) (em : Exm (ZZ P w K fa xa mg base)) (xc : ∀ c, c < 1 → XcOk (ZZ P w K fa xa mg base) c) : HB (ZZ P w K fa xa mg base) N0 sc0 (defBody st0) b0 :=
  (.cons (.ife (HW.t (HW.or (.not (HT.val (.isi (k := .str) gz nb_isinstance g0_isinstance nb_str g0_str bo_str v0_0) rfl (fun _ _ => rfl))) (HW.or1 (.cmp ho_gt (.len gz nb_len g0_len (.cons v0_0 .nil)) (.gk gz cn_0 g0_MOST_TEXT (by decide +kernel)))))) (.cons (.raise1 gz (xc 0 lt_0) lt_0 xn_0 g0_NotIn (by decide +kernel) (.str (by decide +kernel))) .nil) .nil) .nil)
theorem fs0 : FnScope N0 ps0 sc0 := ⟨by decide +kernel, by decide +kernel, by decide +kernel, by decide +kernel, by decide +kernel, by decide +kernel, by decide +kernel⟩
/-! changed -/
def N1 : List Str := ["text", "edit", "parts", "at", "place", "gone", "come"]
def ps1 : List Str := ["text", "edit"]
abbrev st1 : Stmt := top 6
abbrev sc1 : Scope := defScope st1
theorem v1_0 {Z : Ev2} {pos : Pos} : HE Z N1 sc1 F1 (.Name "text" pos) (.v 0) := .v rfl (by decide +kernel) (by decide +kernel)
theorem v1_1 {Z : Ev2} {pos : Pos} : HE Z N1 sc1 F1 (.Name "edit" pos) (.v 1) := .v rfl (by decide +kernel) (by decide +kernel)
theorem v1_2 {Z : Ev2} {pos : Pos} : HE Z N1 sc1 F1 (.Name "parts" pos) (.v 2) := .v rfl (by decide +kernel) (by decide +kernel)
theorem v1_3 {Z : Ev2} {pos : Pos} : HE Z N1 sc1 F1 (.Name "at" pos) (.v 3) := .v rfl (by decide +kernel) (by decide +kernel)
theorem v1_4 {Z : Ev2} {pos : Pos} : HE Z N1 sc1 F1 (.Name "place" pos) (.v 4) := .v rfl (by decide +kernel) (by decide +kernel)
theorem v1_5 {Z : Ev2} {pos : Pos} : HE Z N1 sc1 F1 (.Name "gone" pos) (.v 5) := .v rfl (by decide +kernel) (by decide +kernel)
theorem v1_6 {Z : Ev2} {pos : Pos} : HE Z N1 sc1 F1 (.Name "come" pos) (.v 6) := .v rfl (by decide +kernel) (by decide +kernel)
theorem g1_len : glB sc1 "len" = true := by decide +kernel
theorem hb1 (gz : Good (ZZ P w K fa xa mg base)) (em : Exm (ZZ P w K fa xa mg base)) (xc : ∀ c, c < 1 → XcOk (ZZ P w K fa xa mg base) c) : HB (ZZ P w K fa xa mg base) N1 sc1 (defBody st1) b1 :=
  (.cons (.asg (.lst .nil) (.nm rfl (by decide +kernel) (by decide +kernel)) (fun _ _ _ => rfl) (fun _ _ => rfl)) (.cons (.asg .int (.nm rfl (by decide +kernel) (by decide +kernel)) (fun _ _ _ => rfl) (fun _ _ => rfl)) (.cons (.frr (.seq v1_1) (.tp (.cons (.nm rfl (by decide +kernel) (by decide +kernel)) (.cons (.nm rfl (by decide +kernel) (by decide +kernel)) (.cons (.nm rfl (by decide +kernel) (by decide +kernel)) .nil)))) (.cons (.exp (.append (fun _ _ => rfl) rfl v1_2 (.cons (.slc v1_0 (.yes v1_3) (.yes v1_4)) .nil)) (fun _ _ => rfl)) (.cons (.exp (.append (fun _ _ => rfl) rfl v1_2 (.cons v1_6 .nil)) (fun _ _ => rfl)) (.cons (.asg (.add v1_4 (.len gz nb_len g1_len (.cons v1_5 .nil))) (.nm rfl (by decide +kernel) (by decide +kernel)) (fun _ _ _ => rfl) (fun _ _ => rfl)) .nil)))) (.cons (.exp (.append (fun _ _ => rfl) rfl v1_2 (.cons (.slc v1_0 (.yes v1_3) .no) .nil)) (fun _ _ => rfl)) (.cons (.ret (.join (fun _ _ => rfl) rfl (.str (by decide +kernel)) (.cons v1_2 .nil))) .nil)))))
theorem fs1 : FnScope N1 ps1 sc1 := ⟨by decide +kernel, by decide +kernel, by decide +kernel, by decide +kernel, by decide +kernel, by decide +kernel, by decide +kernel⟩
/-! costs_from -/
def N2 : List Str := ["one", "other", "costs", "i", "j"]
def ps2 : List Str := ["one", "other"]
abbrev st2 : Stmt := top 7
abbrev sc2 : Scope := defScope st2
theorem v2_0 {Z : Ev2} {pos : Pos} : HE Z N2 sc2 F1 (.Name "one" pos) (.v 0) := .v rfl (by decide +kernel) (by decide +kernel)
theorem v2_1 {Z : Ev2} {pos : Pos} : HE Z N2 sc2 F1 (.Name "other" pos) (.v 1) := .v rfl (by decide +kernel) (by decide +kernel)
theorem v2_2 {Z : Ev2} {pos : Pos} : HE Z N2 sc2 F1 (.Name "costs" pos) (.v 2) := .v rfl (by decide +kernel) (by decide +kernel)
theorem v2_3 {Z : Ev2} {pos : Pos} : HE Z N2 sc2 F1 (.Name "i" pos) (.v 3) := .v rfl (by decide +kernel) (by decide +kernel)
theorem v2_4 {Z : Ev2} {pos : Pos} : HE Z N2 sc2 F1 (.Name "j" pos) (.v 4) := .v rfl (by decide +kernel) (by decide +kernel)
theorem g2_len : glB sc2 "len" = true := by decide +kernel
theorem g2_min : glB sc2 "min" = true := by decide +kernel
theorem g2_range : glB sc2 "range" = true := by decide +kernel
theorem hb2 (gz : Good (ZZ P w K fa xa mg base)) (em : Exm (ZZ P w K fa xa mg base)) (xc : ∀ c, c < 1 → XcOk (ZZ P w K fa xa mg base) c) : HB (ZZ P w K fa xa mg base) N2 sc2 (defBody st2) b2 :=
  (.cons (.setLc (own := [("i", 3)]) rfl (by decide +kernel) (by rintro ⟨⟩ _ rfl; rfl) (.rng1 gz nb_range g2_range (.add (.len gz nb_len g2_len (.cons v2_0 .nil)) .int)) (by decide +kernel) (.nm rfl (by decide +kernel) (by decide +kernel)) rfl .no (.rep (.lst (.cons .int .nil)) (.add (.len gz nb_len (by decide +kernel) (.cons (.v rfl (by decide +kernel) (by decide +kernel)) .nil)) .int))) (.cons (.frr (.rng3 gz nb_range g2_range (.len gz nb_len g2_len (.cons v2_0 .nil)) (.neg .int) (.neg .int)) (.nm rfl (by decide +kernel) (by decide +kernel)) (.cons (.frr (.rng3 gz nb_range g2_range (.len gz nb_len g2_len (.cons v2_1 .nil)) (.neg .int) (.neg .int)) (.nm rfl (by decide +kernel) (by decide +kernel)) (.cons (.ife (.cmp ho_eq v2_3 (.len gz nb_len g2_len (.cons v2_0 .nil))) (.cons (.asg (.sub (.len gz nb_len g2_len (.cons v2_1 .nil)) v2_4) (.sub (.idx v2_2 v2_3) v2_4) (fun _ _ _ => rfl) (fun _ _ => rfl)) .nil) (.cons (.ife (.cmp ho_eq v2_4 (.len gz nb_len g2_len (.cons v2_1 .nil))) (.cons (.asg (.sub (.len gz nb_len g2_len (.cons v2_0 .nil)) v2_3) (.sub (.idx v2_2 v2_3) v2_4) (fun _ _ _ => rfl) (fun _ _ => rfl)) .nil) (.cons (.ife (.cmp ho_eq (.idx v2_0 v2_3) (.idx v2_1 v2_4)) (.cons (.asg (.idx (.idx v2_2 (.add v2_3 .int)) (.add v2_4 .int)) (.sub (.idx v2_2 v2_3) v2_4) (fun _ _ _ => rfl) (fun _ _ => rfl)) .nil) (.cons (.asg (.add .int (.min2 gz nb_min g2_min (.cons (.idx (.idx v2_2 (.add v2_3 .int)) v2_4) (.cons (.idx (.idx v2_2 v2_3) (.add v2_4 .int)) .nil)))) (.sub (.idx v2_2 v2_3) v2_4) (fun _ _ _ => rfl) (fun _ _ => rfl)) .nil)) .nil)) .nil)) .nil)) .nil)) (.cons (.ret v2_2) .nil)))
theorem fs2 : FnScope N2 ps2 sc2 := ⟨by decide +kernel, by decide +kernel, by decide +kernel, by decide +kernel, by decide +kernel, by decide +kernel, by decide +kernel⟩
/-! least_edit -/
def N3 : List Str := ["one", "other", "costs", "found", "begin", "i", "j"]
def ps3 : List Str := ["one", "other"]
abbrev st3 : Stmt := top 8
abbrev sc3 : Scope := defScope st3
theorem v3_0 {Z : Ev2} {pos : Pos} : HE Z N3 sc3 F1 (.Name "one" pos) (.v 0) := .v rfl (by decide +kernel) (by decide +kernel)
theorem v3_1 {Z : Ev2} {pos : Pos} : HE Z N3 sc3 F1 (.Name "other" pos) (.v 1) := .v rfl (by decide +kernel) (by decide +kernel)
theorem v3_2 {Z : Ev2} {pos : Pos} : HE Z N3 sc3 F1 (.Name "costs" pos) (.v 2) := .v rfl (by decide +kernel) (by decide +kernel)
theorem v3_3 {Z : Ev2} {pos : Pos} : HE Z N3 sc3 F1 (.Name "found" pos) (.v 3) := .v rfl (by decide +kernel) (by decide +kernel)
theorem v3_4 {Z : Ev2} {pos : Pos} : HE Z N3 sc3 F1 (.Name "begin" pos) (.v 4) := .v rfl (by decide +kernel) (by decide +kernel)
theorem v3_5 {Z : Ev2} {pos : Pos} : HE Z N3 sc3 F1 (.Name "i" pos) (.v 5) := .v rfl (by decide +kernel) (by decide +kernel)
theorem v3_6 {Z : Ev2} {pos : Pos} : HE Z N3 sc3 F1 (.Name "j" pos) (.v 6) := .v rfl (by decide +kernel) (by decide +kernel)
theorem g3_costs_from : glB sc3 "costs_from" = true := by decide +kernel
theorem g3_len : glB sc3 "len" = true := by decide +kernel
theorem g3_tuple : glB sc3 "tuple" = true := by decide +kernel
theorem hb3 (gz : Good (ZZ P w K fa xa mg base)) (em : Exm (ZZ P w K fa xa mg base)) (xc : ∀ c, c < 1 → XcOk (ZZ P w K fa xa mg base) c) : HB (ZZ P w K fa xa mg base) N3 sc3 (defBody st3) b3 :=
  (.cons (.asg (.call gz fn_2 rfl g3_costs_from (by decide +kernel) (.cons v3_0 (.cons v3_1 .nil))) (.nm rfl (by decide +kernel) (by decide +kernel)) (fun _ _ _ => rfl) (fun _ _ => rfl)) (.cons (.asg (.lst .nil) (.nm rfl (by decide +kernel) (by decide +kernel)) (fun _ _ _ => rfl) (fun _ _ => rfl)) (.cons (.asg .non (.nm rfl (by decide +kernel) (by decide +kernel)) (fun _ _ _ => rfl) (fun _ _ => rfl)) (.cons (.asg (.tup (.cons .int (.cons .int .nil))) (.tp (.cons (.nm rfl (by decide +kernel) (by decide +kernel)) (.cons (.nm rfl (by decide +kernel) (by decide +kernel)) .nil))) (fun _ _ _ => rfl) (by rintro ⟨⟩ rfl; rfl)) (.cons (.whl (HW.t (HW.or (.cmp ho_lt v3_5 (.len gz nb_len g3_len (.cons v3_0 .nil))) (HW.or1 (.cmp ho_lt v3_6 (.len gz nb_len g3_len (.cons v3_1 .nil)))))) (.cons (.ife (HW.t (HW.and (.cmp ho_lt v3_5 (.len gz nb_len g3_len (.cons v3_0 .nil))) (HW.and (.cmp ho_lt v3_6 (.len gz nb_len g3_len (.cons v3_1 .nil))) (HW.and1 (.cmp ho_eq (.idx v3_0 v3_5) (.idx v3_1 v3_6)))))) (.cons (.ife (.isnN v3_4) (.cons (.exp (.append (fun _ _ => rfl) rfl v3_3 (.cons (.tup (.cons (.idx v3_4 .int) (.cons (.slc v3_0 (.yes (.idx v3_4 .int)) (.yes v3_5)) (.cons (.slc v3_1 (.yes (.idx v3_4 .int)) (.yes v3_6)) .nil)))) .nil)) (fun _ _ => rfl)) (.cons (.asg .non (.nm rfl (by decide +kernel) (by decide +kernel)) (fun _ _ _ => rfl) (fun _ _ => rfl)) .nil)) .nil) (.cons (.aug si_add rfl (by decide +kernel) .int) (.cons (.aug si_add rfl (by decide +kernel) .int) .nil))) (.cons (.ife (.isN v3_4) (.cons (.asg (.tup (.cons v3_5 (.cons v3_6 .nil))) (.nm rfl (by decide +kernel) (by decide +kernel)) (fun _ _ _ => rfl) (fun _ _ => rfl)) .nil) .nil) (.cons (.ife (HW.t (HW.and (.cmp ho_lt v3_5 (.len gz nb_len g3_len (.cons v3_0 .nil))) (HW.and1 (.cmp ho_eq (.idx (.idx v3_2 v3_5) v3_6) (.add .int (.idx (.idx v3_2 (.add v3_5 .int)) v3_6)))))) (.cons (.aug si_add rfl (by decide +kernel) .int) .nil) (.cons (.aug si_add rfl (by decide +kernel) .int) .nil)) .nil))) .nil)) (.cons (.ife (.isnN v3_4) (.cons (.exp (.append (fun _ _ => rfl) rfl v3_3 (.cons (.tup (.cons (.idx v3_4 .int) (.cons (.slc v3_0 (.yes (.idx v3_4 .int)) .no) (.cons (.slc v3_1 (.yes (.idx v3_4 .int)) .no) .nil)))) .nil)) (fun _ _ => rfl)) .nil) .nil) (.cons (.ret (.tuple gz nb_tuple g3_tuple (.cons v3_3 .nil))) .nil)))))))
theorem fs3 : FnScope N3 ps3 sc3 := ⟨by decide +kernel, by decide +kernel, by decide +kernel, by decide +kernel, by decide +kernel, by decide +kernel, by decide +kernel⟩
/-! edit_between -/
def N4 : List Str := ["one", "other"]
def ps4 : List Str := ["one", "other"]
abbrev st4 : Stmt := top 9
abbrev sc4 : Scope := defScope st4
theorem v4_0 {Z : Ev2} {pos : Pos} : HE Z N4 sc4 F1 (.Name "one" pos) (.v 0) := .v rfl (by decide +kernel) (by decide +kernel)
theorem v4_1 {Z : Ev2} {pos : Pos} : HE Z N4 sc4 F1 (.Name "other" pos) (.v 1) := .v rfl (by decide +kernel) (by decide +kernel)
theorem g4_check_string : glB sc4 "check_string" = true := by decide +kernel
theorem g4_least_edit : glB sc4 "least_edit" = true := by decide +kernel
theorem hb4 (gz : Good (ZZ P w K fa xa mg base)) (em : Exm (ZZ P w K fa xa mg base)) (xc : ∀ c, c < 1 → XcOk (ZZ P w K fa xa mg base) c) : HB (ZZ P w K fa xa mg base) N4 sc4 (defBody st4) b4 :=
  (.cons (.exp (.call gz fn_0 rfl g4_check_string (by decide +kernel) (.cons v4_0 .nil)) (fun _ _ => rfl)) (.cons (.exp (.call gz fn_0 rfl g4_check_string (by decide +kernel) (.cons v4_1 .nil)) (fun _ _ => rfl)) (.cons (.ret (.call gz fn_3 rfl g4_least_edit (by decide +kernel) (.cons v4_0 (.cons v4_1 .nil)))) .nil)))
theorem fs4 : FnScope N4 ps4 sc4 := ⟨by decide +kernel, by decide +kernel, by decide +kernel, by decide +kernel, by decide +kernel, by decide +kernel, by decide +kernel⟩
/-! touch -/
def N5 : List Str := ["one", "other"]
def ps5 : List Str := ["one", "other"]
abbrev st5 : Stmt := top 11
abbrev sc5 : Scope := defScope st5
theorem v5_0 {Z : Ev2} {pos : Pos} : HE Z N5 sc5 F1 (.Name "one" pos) (.v 0) := .v rfl (by decide +kernel) (by decide +kernel)
theorem v5_1 {Z : Ev2} {pos : Pos} : HE Z N5 sc5 F1 (.Name "other" pos) (.v 1) := .v rfl (by decide +kernel) (by decide +kernel)
theorem g5_len : glB sc5 "len" = true := by decide +kernel
theorem hb5 (gz : Good (ZZ P w K fa xa mg base)) (em : Exm (ZZ P w K fa xa mg base)) (xc : ∀ c, c < 1 → XcOk (ZZ P w K fa xa mg base) c) : HB (ZZ P w K fa xa mg base) N5 sc5 (defBody st5) b5 :=
  (.cons (.ret (.and (.cmp ho_le (.idx v5_0 .int) (.add (.idx v5_1 .int) (.len gz nb_len g5_len (.cons (.idx v5_1 .int) .nil)))) (.one (.cmp ho_le (.idx v5_1 .int) (.add (.idx v5_0 .int) (.len gz nb_len g5_len (.cons (.idx v5_0 .int) .nil))))))) .nil)
theorem fs5 : FnScope N5 ps5 sc5 := ⟨by decide +kernel, by decide +kernel, by decide +kernel, by decide +kernel, by decide +kernel, by decide +kernel, by decide +kernel⟩
/-! groups_of -/
def N6 : List Str := ["edit", "edit2", "left", "found", "group", "at", "side", "change", "more", "one"]
def ps6 : List Str := ["edit", "edit2"]
abbrev st6 : Stmt := top 12
abbrev sc6 : Scope := defScope st6
theorem v6_0 {Z : Ev2} {pos : Pos} : HE Z N6 sc6 F1 (.Name "edit" pos) (.v 0) := .v rfl (by decide +kernel) (by decide +kernel)
theorem v6_1 {Z : Ev2} {pos : Pos} : HE Z N6 sc6 F1 (.Name "edit2" pos) (.v 1) := .v rfl (by decide +kernel) (by decide +kernel)
theorem v6_2 {Z : Ev2} {pos : Pos} : HE Z N6 sc6 F1 (.Name "left" pos) (.v 2) := .v rfl (by decide +kernel) (by decide +kernel)
theorem v6_3 {Z : Ev2} {pos : Pos} : HE Z N6 sc6 F1 (.Name "found" pos) (.v 3) := .v rfl (by decide +kernel) (by decide +kernel)
theorem v6_4 {Z : Ev2} {pos : Pos} : HE Z N6 sc6 F1 (.Name "group" pos) (.v 4) := .v rfl (by decide +kernel) (by decide +kernel)
theorem v6_5 {Z : Ev2} {pos : Pos} : HE Z N6 sc6 F1 (.Name "at" pos) (.v 5) := .v rfl (by decide +kernel) (by decide +kernel)
theorem v6_8 {Z : Ev2} {pos : Pos} : HE Z N6 sc6 F1 (.Name "more" pos) (.v 8) := .v rfl (by decide +kernel) (by decide +kernel)
theorem g6_len : glB sc6 "len" = true := by decide +kernel
theorem hb6 (gz : Good (ZZ P w K fa xa mg base)) (em : Exm (ZZ P w K fa xa mg base)) (xc : ∀ c, c < 1 → XcOk (ZZ P w K fa xa mg base) c) : HB (ZZ P w K fa xa mg base) N6 sc6 (defBody st6) b6 :=
  (.cons (.setLc (own := [("change", 7)]) rfl (by decide +kernel) (by rintro ⟨⟩ _ rfl; rfl) (.seq v6_0) (by decide +kernel) (.nm rfl (by decide +kernel) (by decide +kernel)) rfl (.yes (.cmp ho_notin (.v rfl (by decide +kernel) (by decide +kernel)) (.v rfl (by decide +kernel) (by decide +kernel)))) (.tup (.cons .int (.cons (.v rfl (by decide +kernel) (by decide +kernel)) .nil)))) (.cons (.exp (.extend (fun _ _ => rfl) rfl v6_2 (.cons (.lc (own := [("change", 7)]) (.seq v6_1) (by decide +kernel) (.nm rfl (by decide +kernel) (by decide +kernel)) rfl (.yes (.cmp ho_notin (.v rfl (by decide +kernel) (by decide +kernel)) (.v rfl (by decide +kernel) (by decide +kernel)))) (.tup (.cons .int (.cons (.v rfl (by decide +kernel) (by decide +kernel)) .nil)))) .nil)) (fun _ _ => rfl)) (.cons (.asg (.lst .nil) (.nm rfl (by decide +kernel) (by decide +kernel)) (fun _ _ _ => rfl) (fun _ _ => rfl)) (.cons (.whl (.cmp ho_gt (.len gz nb_len g6_len (.cons v6_2 .nil)) .int) (.cons (.asg (.lst (.cons (.popAt (fun _ _ => rfl) rfl v6_2 (.cons .int .nil)) .nil)) (.nm rfl (by decide +kernel) (by decide +kernel)) (fun _ _ _ => rfl) (fun _ _ => rfl)) (.cons (.asg .int (.nm rfl (by decide +kernel) (by decide +kernel)) (fun _ _ _ => rfl) (fun _ _ => rfl)) (.cons (.whl (.cmp ho_lt v6_5 (.len gz nb_len g6_len (.cons v6_4 .nil))) (.cons (.asg (.idx v6_4 v6_5) (.tp (.cons (.nm rfl (by decide +kernel) (by decide +kernel)) (.cons (.nm rfl (by decide +kernel) (by decide +kernel)) .nil))) (fun _ _ _ => rfl) (fun _ _ => rfl)) (.cons (.asg (.lc (own := [("one", 9)]) (.seq v6_2) (by decide +kernel) (.nm rfl (by decide +kernel) (by decide +kernel)) rfl (.yes (HW.t (HW.and (.cmp ho_ne (.idx (.v rfl (by decide +kernel) (by decide +kernel)) .int) (.v rfl (by decide +kernel) (by decide +kernel))) (HW.and1 (HT.val (.call gz fn_5 rfl (by decide +kernel) (by decide +kernel) (.cons (.idx (.v rfl (by decide +kernel) (by decide +kernel)) .int) (.cons (.v rfl (by decide +kernel) (by decide +kernel)) .nil))) rfl (fun _ _ => rfl)))))) (.v rfl (by decide +kernel) (by decide +kernel))) (.nm rfl (by decide +kernel) (by decide +kernel)) (by rintro ⟨⟩ _ rfl; rfl) (fun _ _ => rfl)) (.cons (.setLc (own := [("one", 9)]) rfl (by decide +kernel) (by rintro ⟨⟩ _ rfl; rfl) (.seq v6_2) (by decide +kernel) (.nm rfl (by decide +kernel) (by decide +kernel)) rfl (.yes (.cmp ho_notin (.v rfl (by decide +kernel) (by decide +kernel)) (.v rfl (by decide +kernel) (by decide +kernel)))) (.v rfl (by decide +kernel) (by decide +kernel))) (.cons (.exp (.extend (fun _ _ => rfl) rfl v6_4 (.cons v6_8 .nil)) (fun _ _ => rfl)) (.cons (.aug si_add rfl (by decide +kernel) .int) .nil)))))) (.cons (.exp (.append (fun _ _ => rfl) rfl v6_3 (.cons v6_4 .nil)) (fun _ _ => rfl)) .nil))))) (.cons (.ret (.lc (own := [("group", 4)]) (.seq v6_3) (by decide +kernel) (.nm rfl (by decide +kernel) (by decide +kernel)) rfl (.yes (.cmp ho_gt (.len gz nb_len (by decide +kernel) (.cons (.v rfl (by decide +kernel) (by decide +kernel)) .nil)) .int)) (.v rfl (by decide +kernel) (by decide +kernel)))) .nil)))))
theorem fs6 : FnScope N6 ps6 sc6 := ⟨by decide +kernel, by decide +kernel, by decide +kernel, by decide +kernel, by decide +kernel, by decide +kernel, by decide +kernel⟩
/-! region_of -/
def N7 : List Str := ["base", "group", "begin", "end", "texts", "side", "own", "moved", "_", "change", "one", "place", "gone", "come"]
def ps7 : List Str := ["base", "group"]
abbrev st7 : Stmt := top 13
abbrev sc7 : Scope := defScope st7
theorem v7_0 {Z : Ev2} {pos : Pos} : HE Z N7 sc7 F1 (.Name "base" pos) (.v 0) := .v rfl (by decide +kernel) (by decide +kernel)
theorem v7_1 {Z : Ev2} {pos : Pos} : HE Z N7 sc7 F1 (.Name "group" pos) (.v 1) := .v rfl (by decide +kernel) (by decide +kernel)
theorem v7_2 {Z : Ev2} {pos : Pos} : HE Z N7 sc7 F1 (.Name "begin" pos) (.v 2) := .v rfl (by decide +kernel) (by decide +kernel)
theorem v7_3 {Z : Ev2} {pos : Pos} : HE Z N7 sc7 F1 (.Name "end" pos) (.v 3) := .v rfl (by decide +kernel) (by decide +kernel)
theorem v7_4 {Z : Ev2} {pos : Pos} : HE Z N7 sc7 F1 (.Name "texts" pos) (.v 4) := .v rfl (by decide +kernel) (by decide +kernel)
theorem v7_6 {Z : Ev2} {pos : Pos} : HE Z N7 sc7 F1 (.Name "own" pos) (.v 6) := .v rfl (by decide +kernel) (by decide +kernel)
theorem v7_7 {Z : Ev2} {pos : Pos} : HE Z N7 sc7 F1 (.Name "moved" pos) (.v 7) := .v rfl (by decide +kernel) (by decide +kernel)
theorem g7_changed : glB sc7 "changed" = true := by decide +kernel
theorem g7_max : glB sc7 "max" = true := by decide +kernel
theorem g7_min : glB sc7 "min" = true := by decide +kernel
theorem g7_sorted : glB sc7 "sorted" = true := by decide +kernel
theorem g7_tuple : glB sc7 "tuple" = true := by decide +kernel
theorem hb7 (gz : Good (ZZ P w K fa xa mg base)) (em : Exm (ZZ P w K fa xa mg base)) (xc : ∀ c, c < 1 → XcOk (ZZ P w K fa xa mg base) c) : HB (ZZ P w K fa xa mg base) N7 sc7 (defBody st7) b7 :=
  (.cons (.asg (.min1 gz nb_min g7_min (.cons (.lc (own := [("_", 8), ("change", 9)]) (.seq v7_1) (by decide +kernel) (.tp (.cons (.nm rfl (by decide +kernel) (by decide +kernel)) (.cons (.nm rfl (by decide +kernel) (by decide +kernel)) .nil))) rfl .no (.idx (.v rfl (by decide +kernel) (by decide +kernel)) .int)) .nil)) (.nm rfl (by decide +kernel) (by decide +kernel)) (fun _ _ _ => rfl) (fun _ _ => rfl)) (.cons (.asg (.max1 gz nb_max g7_max (.cons (.lc (own := [("_", 8), ("change", 9)]) (.seq v7_1) (by decide +kernel) (.tp (.cons (.nm rfl (by decide +kernel) (by decide +kernel)) (.cons (.nm rfl (by decide +kernel) (by decide +kernel)) .nil))) rfl .no (.add (.idx (.v rfl (by decide +kernel) (by decide +kernel)) .int) (.len gz nb_len (by decide +kernel) (.cons (.idx (.v rfl (by decide +kernel) (by decide +kernel)) .int) .nil)))) .nil)) (.nm rfl (by decide +kernel) (by decide +kernel)) (fun _ _ _ => rfl) (fun _ _ => rfl)) (.cons (.asg (.lst .nil) (.nm rfl (by decide +kernel) (by decide +kernel)) (fun _ _ _ => rfl) (fun _ _ => rfl)) (.cons (.frr (.seq (.tup (.cons .int (.cons .int .nil)))) (.nm rfl (by decide +kernel) (by decide +kernel)) (.cons (.asg (.sorted gz nb_sorted g7_sorted (.cons (.lc (own := [("one", 10), ("change", 9)]) (.seq v7_1) (by decide +kernel) (.tp (.cons (.nm rfl (by decide +kernel) (by decide +kernel)) (.cons (.nm rfl (by decide +kernel) (by decide +kernel)) .nil))) rfl (.yes (.cmp ho_eq (.v rfl (by decide +kernel) (by decide +kernel)) (.v rfl (by decide +kernel) (by decide +kernel)))) (.v rfl (by decide +kernel) (by decide +kernel))) .nil)) (.nm rfl (by decide +kernel) (by decide +kernel)) (fun _ _ _ => rfl) (fun _ _ => rfl)) (.cons (.asg (.tuple gz nb_tuple g7_tuple (.cons (.lc (own := [("place", 11), ("gone", 12), ("come", 13)]) (.seq v7_6) (by decide +kernel) (.tp (.cons (.nm rfl (by decide +kernel) (by decide +kernel)) (.cons (.nm rfl (by decide +kernel) (by decide +kernel)) (.cons (.nm rfl (by decide +kernel) (by decide +kernel)) .nil)))) rfl .no (.tup (.cons (.sub (.v rfl (by decide +kernel) (by decide +kernel)) (.v rfl (by decide +kernel) (by decide +kernel))) (.cons (.v rfl (by decide +kernel) (by decide +kernel)) (.cons (.v rfl (by decide +kernel) (by decide +kernel)) .nil))))) .nil)) (.nm rfl (by decide +kernel) (by decide +kernel)) (fun _ _ _ => rfl) (fun _ _ => rfl)) (.cons (.exp (.append (fun _ _ => rfl) rfl v7_4 (.cons (.call gz fn_1 rfl g7_changed (by decide +kernel) (.cons (.slc v7_0 (.yes v7_2) (.yes v7_3)) (.cons v7_7 .nil))) .nil)) (fun _ _ => rfl)) .nil)))) (.cons (.ret (.tup (.cons v7_2 (.cons (.slc v7_0 (.yes v7_2) (.yes v7_3)) (.cons (.idx v7_4 .int) (.cons (.idx v7_4 .int) .nil)))))) .nil)))))
theorem fs7 : FnScope N7 ps7 sc7 := ⟨by decide +kernel, by decide +kernel, by decide +kernel, by decide +kernel, by decide +kernel, by decide +kernel, by decide +kernel⟩
/-! merge_texts -/
def N8 : List Str := ["base", "one", "other", "edit", "edit2", "groups", "whole", "group", "change"]
def ps8 : List Str := ["base", "one", "other"]
abbrev st8 : Stmt := top 14
abbrev sc8 : Scope := defScope st8
theorem v8_0 {Z : Ev2} {pos : Pos} : HE Z N8 sc8 F1 (.Name "base" pos) (.v 0) := .v rfl (by decide +kernel) (by decide +kernel)
theorem v8_1 {Z : Ev2} {pos : Pos} : HE Z N8 sc8 F1 (.Name "one" pos) (.v 1) := .v rfl (by decide +kernel) (by decide +kernel)
theorem v8_2 {Z : Ev2} {pos : Pos} : HE Z N8 sc8 F1 (.Name "other" pos) (.v 2) := .v rfl (by decide +kernel) (by decide +kernel)
theorem v8_3 {Z : Ev2} {pos : Pos} : HE Z N8 sc8 F1 (.Name "edit" pos) (.v 3) := .v rfl (by decide +kernel) (by decide +kernel)
theorem v8_4 {Z : Ev2} {pos : Pos} : HE Z N8 sc8 F1 (.Name "edit2" pos) (.v 4) := .v rfl (by decide +kernel) (by decide +kernel)
theorem v8_5 {Z : Ev2} {pos : Pos} : HE Z N8 sc8 F1 (.Name "groups" pos) (.v 5) := .v rfl (by decide +kernel) (by decide +kernel)
theorem v8_6 {Z : Ev2} {pos : Pos} : HE Z N8 sc8 F1 (.Name "whole" pos) (.v 6) := .v rfl (by decide +kernel) (by decide +kernel)
theorem g8_changed : glB sc8 "changed" = true := by decide +kernel
theorem g8_check_string : glB sc8 "check_string" = true := by decide +kernel
theorem g8_groups_of : glB sc8 "groups_of" = true := by decide +kernel
theorem g8_least_edit : glB sc8 "least_edit" = true := by decide +kernel
theorem g8_len : glB sc8 "len" = true := by decide +kernel
theorem g8_list : glB sc8 "list" = true := by decide +kernel
theorem g8_sorted : glB sc8 "sorted" = true := by decide +kernel
theorem g8_tuple : glB sc8 "tuple" = true := by decide +kernel
theorem hb8 (gz : Good (ZZ P w K fa xa mg base)) (em : Exm (ZZ P w K fa xa mg base)) (xc : ∀ c, c < 1 → XcOk (ZZ P w K fa xa mg base) c) : HB (ZZ P w K fa xa mg base) N8 sc8 (defBody st8) b8 :=
  (.cons (.exp (.call gz fn_0 rfl g8_check_string (by decide +kernel) (.cons v8_0 .nil)) (fun _ _ => rfl)) (.cons (.exp (.call gz fn_0 rfl g8_check_string (by decide +kernel) (.cons v8_1 .nil)) (fun _ _ => rfl)) (.cons (.exp (.call gz fn_0 rfl g8_check_string (by decide +kernel) (.cons v8_2 .nil)) (fun _ _ => rfl)) (.cons (.asg (.call gz fn_3 rfl g8_least_edit (by decide +kernel) (.cons v8_0 (.cons v8_1 .nil))) (.nm rfl (by decide +kernel) (by decide +kernel)) (fun _ _ _ => rfl) (fun _ _ => rfl)) (.cons (.asg (.call gz fn_3 rfl g8_least_edit (by decide +kernel) (.cons v8_0 (.cons v8_2 .nil))) (.nm rfl (by decide +kernel) (by decide +kernel)) (fun _ _ _ => rfl) (fun _ _ => rfl)) (.cons (.asg (.call gz fn_6 rfl g8_groups_of (by decide +kernel) (.cons v8_3 (.cons v8_4 .nil))) (.nm rfl (by decide +kernel) (by decide +kernel)) (fun _ _ _ => rfl) (fun _ _ => rfl)) (.cons (.ife (.cmp ho_gt (.len gz nb_len g8_len (.cons v8_5 .nil)) .int) (.cons (.ret (.tup (.cons (.str (by decide +kernel)) (.cons (.tuple gz nb_tuple g8_tuple (.cons (.sorted gz nb_sorted g8_sorted (.cons (.lc (own := [("group", 7)]) (.seq v8_5) (by decide +kernel) (.nm rfl (by decide +kernel) (by decide +kernel)) rfl .no (.call gz fn_7 rfl (by decide +kernel) (by decide +kernel) (.cons (.v rfl (by decide +kernel) (by decide +kernel)) (.cons (.v rfl (by decide +kernel) (by decide +kernel)) .nil)))) .nil)) .nil)) .nil)))) .nil) .nil) (.cons (.asg (.sorted gz nb_sorted g8_sorted (.cons (.cat (.list gz nb_list g8_list (.cons v8_3 .nil)) (.lc (own := [("change", 8)]) (.seq v8_4) (by decide +kernel) (.nm rfl (by decide +kernel) (by decide +kernel)) rfl (.yes (.cmp ho_notin (.v rfl (by decide +kernel) (by decide +kernel)) (.v rfl (by decide +kernel) (by decide +kernel)))) (.v rfl (by decide +kernel) (by decide +kernel)))) .nil)) (.nm rfl (by decide +kernel) (by decide +kernel)) (fun _ _ _ => rfl) (fun _ _ => rfl)) (.cons (.ret (.tup (.cons (.str (by decide +kernel)) (.cons (.call gz fn_1 rfl g8_changed (by decide +kernel) (.cons v8_0 (.cons v8_6 .nil))) .nil)))) .nil)))))))))
theorem fs8 : FnScope N8 ps8 sc8 := ⟨by decide +kernel, by decide +kernel, by decide +kernel, by decide +kernel, by decide +kernel, by decide +kernel, by decide +kernel⟩
/-! _law_bag -/
def N9 : List Str := ["script", "k", "cell"]
def ps9 : List Str := ["script", "k"]
abbrev st9 : Stmt := top 16
abbrev sc9 : Scope := defScope st9
theorem v9_0 {Z : Ev2} {pos : Pos} : HE Z N9 sc9 F1 (.Name "script" pos) (.v 0) := .v rfl (by decide +kernel) (by decide +kernel)
theorem v9_1 {Z : Ev2} {pos : Pos} : HE Z N9 sc9 F1 (.Name "k" pos) (.v 1) := .v rfl (by decide +kernel) (by decide +kernel)
theorem v9_2 {Z : Ev2} {pos : Pos} : HE Z N9 sc9 F1 (.Name "cell" pos) (.v 2) := .v rfl (by decide +kernel) (by decide +kernel)
theorem g9_int : glB sc9 "int" = true := by decide +kernel
theorem g9_len : glB sc9 "len" = true := by decide +kernel
theorem hb9 (gz : Good (ZZ P w K fa xa mg base)) (em : Exm (ZZ P w K fa xa mg base)) (xc : ∀ c, c < 1 → XcOk (ZZ P w K fa xa mg base) c) : HB (ZZ P w K fa xa mg base) N9 sc9 (defBody st9) b9 :=
  (.cons (.asg .int (.nm rfl (by decide +kernel) (by decide +kernel)) (fun _ _ _ => rfl) (fun _ _ => rfl)) (.cons (.ife (.cmp ho_lt v9_1 (.len gz nb_len g9_len (.cons v9_0 .nil))) (.cons (.asg (.int_ gz nb_int g9_int (.cons (.idx v9_0 v9_1) .nil)) (.nm rfl (by decide +kernel) (by decide +kernel)) (fun _ _ _ => rfl) (fun _ _ => rfl)) .nil) .nil) (.cons (.ife (.cmp ho_ge v9_2 (.pow .int .int)) (.cons (.ret (.lst (.cons v9_2 (.cons v9_2 (.cons v9_1 .nil))))) .nil) .nil) (.cons (.ret (.lst (.cons .int (.cons v9_2 (.cons v9_1 .nil))))) .nil))))
theorem fs9 : FnScope N9 ps9 sc9 := ⟨by decide +kernel, by decide +kernel, by decide +kernel, by decide +kernel, by decide +kernel, by decide +kernel, by decide +kernel⟩
/-! _law_draw -/
def N10 : List Str := ["bag", "many", "seed", "rest"]
def ps10 : List Str := ["bag", "many"]
abbrev st10 : Stmt := top 17
abbrev sc10 : Scope := defScope st10
theorem v10_0 {Z : Ev2} {pos : Pos} : HE Z N10 sc10 F1 (.Name "bag" pos) (.v 0) := .v rfl (by decide +kernel) (by decide +kernel)
theorem v10_1 {Z : Ev2} {pos : Pos} : HE Z N10 sc10 F1 (.Name "many" pos) (.v 1) := .v rfl (by decide +kernel) (by decide +kernel)
theorem v10_2 {Z : Ev2} {pos : Pos} : HE Z N10 sc10 F1 (.Name "seed" pos) (.v 2) := .v rfl (by decide +kernel) (by decide +kernel)
theorem v10_3 {Z : Ev2} {pos : Pos} : HE Z N10 sc10 F1 (.Name "rest" pos) (.v 3) := .v rfl (by decide +kernel) (by decide +kernel)
theorem g10_int : glB sc10 "int" = true := by decide +kernel
theorem hb10 (gz : Good (ZZ P w K fa xa mg base)) (em : Exm (ZZ P w K fa xa mg base)) (xc : ∀ c, c < 1 → XcOk (ZZ P w K fa xa mg base) c) : HB (ZZ P w K fa xa mg base) N10 sc10 (defBody st10) b10 :=
  (.cons (.ife (.cmp ho_eq (.idx v10_0 .int) .int) (.cons (.asg (.mod (.int_ gz nb_int g10_int (.cons (.add (.add (.mul (.idx v10_0 .int) .int) (.mul (.idx v10_0 .int) .int)) .int) .nil)) .int) (.nm rfl (by decide +kernel) (by decide +kernel)) (fun _ _ _ => rfl) (fun _ _ => rfl)) (.cons (.asg (.add (.mul v10_2 .int) (.mod (.int_ gz nb_int g10_int (.cons (.add (.mul v10_2 v10_2) (.mul (.idx v10_0 .int) .int)) .nil)) .int)) (.sub v10_0 .int) (fun _ _ _ => rfl) (fun _ _ => rfl)) (.cons (.asg v10_2 (.sub v10_0 .int) (fun _ _ _ => rfl) (fun _ _ => rfl)) .nil))) .nil) (.cons (.asg (.idx v10_0 .int) (.nm rfl (by decide +kernel) (by decide +kernel)) (fun _ _ _ => rfl) (fun _ _ => rfl)) (.cons (.asg (.fdiv v10_3 v10_1) (.sub v10_0 .int) (fun _ _ _ => rfl) (fun _ _ => rfl)) (.cons (.ret (.mod (.int_ gz nb_int g10_int (.cons v10_3 .nil)) v10_1)) .nil))))
theorem fs10 : FnScope N10 ps10 sc10 := ⟨by decide +kernel, by decide +kernel, by decide +kernel, by decide +kernel, by decide +kernel, by decide +kernel, by decide +kernel⟩
/-! _law_one -/
def N11 : List Str := ["bag", "some"]
def ps11 : List Str := ["bag", "some"]
abbrev st11 : Stmt := top 18
abbrev sc11 : Scope := defScope st11
theorem v11_0 {Z : Ev2} {pos : Pos} : HE Z N11 sc11 F1 (.Name "bag" pos) (.v 0) := .v rfl (by decide +kernel) (by decide +kernel)
theorem v11_1 {Z : Ev2} {pos : Pos} : HE Z N11 sc11 F1 (.Name "some" pos) (.v 1) := .v rfl (by decide +kernel) (by decide +kernel)
theorem g11__law_draw : glB sc11 "_law_draw" = true := by decide +kernel
theorem g11_len : glB sc11 "len" = true := by decide +kernel
theorem hb11 (gz : Good (ZZ P w K fa xa mg base)) (em : Exm (ZZ P w K fa xa mg base)) (xc : ∀ c, c < 1 → XcOk (ZZ P w K fa xa mg base) c) : HB (ZZ P w K fa xa mg base) N11 sc11 (defBody st11) b11 :=
  (.cons (.ret (.idx v11_1 (.call gz fn_10 rfl g11__law_draw (by decide +kernel) (.cons v11_0 (.cons (.len gz nb_len g11_len (.cons v11_1 .nil)) .nil))))) .nil)
theorem fs11 : FnScope N11 ps11 sc11 := ⟨by decide +kernel, by decide +kernel, by decide +kernel, by decide +kernel, by decide +kernel, by decide +kernel, by decide +kernel⟩
/-! _law_word -/
def N12 : List Str := ["bag", "most", "k"]
def ps12 : List Str := ["bag", "most"]
abbrev st12 : Stmt := top 19
abbrev sc12 : Scope := defScope st12
theorem v12_0 {Z : Ev2} {pos : Pos} : HE Z N12 sc12 F1 (.Name "bag" pos) (.v 0) := .v rfl (by decide +kernel) (by decide +kernel)
theorem v12_1 {Z : Ev2} {pos : Pos} : HE Z N12 sc12 F1 (.Name "most" pos) (.v 1) := .v rfl (by decide +kernel) (by decide +kernel)
theorem g12__law_draw : glB sc12 "_law_draw" = true := by decide +kernel
theorem g12_range : glB sc12 "range" = true := by decide +kernel
theorem hb12 (gz : Good (ZZ P w K fa xa mg base)) (em : Exm (ZZ P w K fa xa mg base)) (xc : ∀ c, c < 1 → XcOk (ZZ P w K fa xa mg base) c) : HB (ZZ P w K fa xa mg base) N12 sc12 (defBody st12) b12 :=
  (.cons (.ret (.join (fun _ _ => rfl) rfl (.str (by decide +kernel)) (.cons (.lc (own := [("k", 2)]) (.rng1 gz nb_range g12_range (.call gz fn_10 rfl g12__law_draw (by decide +kernel) (.cons v12_0 (.cons v12_1 .nil)))) (by decide +kernel) (.nm rfl (by decide +kernel) (by decide +kernel)) rfl .no (.call gz fn_11 rfl (by decide +kernel) (by decide +kernel) (.cons (.v rfl (by decide +kernel) (by decide +kernel)) (.cons (.str (by decide +kernel)) .nil)))) .nil))) .nil)
theorem fs12 : FnScope N12 ps12 sc12 := ⟨by decide +kernel, by decide +kernel, by decide +kernel, by decide +kernel, by decide +kernel, by decide +kernel, by decide +kernel⟩
/-! _law_copy -/
def N13 : List Str := ["bag", "base", "turn", "at"]
def ps13 : List Str := ["bag", "base"]
abbrev st13 : Stmt := top 20
abbrev sc13 : Scope := defScope st13
theorem v13_0 {Z : Ev2} {pos : Pos} : HE Z N13 sc13 F1 (.Name "bag" pos) (.v 0) := .v rfl (by decide +kernel) (by decide +kernel)
theorem v13_1 {Z : Ev2} {pos : Pos} : HE Z N13 sc13 F1 (.Name "base" pos) (.v 1) := .v rfl (by decide +kernel) (by decide +kernel)
theorem v13_3 {Z : Ev2} {pos : Pos} : HE Z N13 sc13 F1 (.Name "at" pos) (.v 3) := .v rfl (by decide +kernel) (by decide +kernel)
theorem g13__law_draw : glB sc13 "_law_draw" = true := by decide +kernel
theorem g13__law_word : glB sc13 "_law_word" = true := by decide +kernel
theorem g13_len : glB sc13 "len" = true := by decide +kernel
theorem g13_range : glB sc13 "range" = true := by decide +kernel
theorem hb13 (gz : Good (ZZ P w K fa xa mg base)) (em : Exm (ZZ P w K fa xa mg base)) (xc : ∀ c, c < 1 → XcOk (ZZ P w K fa xa mg base) c) : HB (ZZ P w K fa xa mg base) N13 sc13 (defBody st13) b13 :=
  (.cons (.frr (.rng1 gz nb_range g13_range (.call gz fn_10 rfl g13__law_draw (by decide +kernel) (.cons v13_0 (.cons .int .nil)))) (.nm rfl (by decide +kernel) (by decide +kernel)) (.cons (.asg (.call gz fn_10 rfl g13__law_draw (by decide +kernel) (.cons v13_0 (.cons (.add (.len gz nb_len g13_len (.cons v13_1 .nil)) .int) .nil))) (.nm rfl (by decide +kernel) (by decide +kernel)) (fun _ _ _ => rfl) (fun _ _ => rfl)) (.cons (.asg (.add (.add (.slc v13_1 .no (.yes v13_3)) (.call gz fn_12 rfl g13__law_word (by decide +kernel) (.cons v13_0 (.cons .int .nil)))) (.slc v13_1 (.yes (.add v13_3 (.call gz fn_10 rfl g13__law_draw (by decide +kernel) (.cons v13_0 (.cons .int .nil))))) .no)) (.nm rfl (by decide +kernel) (by decide +kernel)) (fun _ _ _ => rfl) (fun _ _ => rfl)) .nil))) (.cons (.ret v13_1) .nil))
theorem fs13 : FnScope N13 ps13 sc13 := ⟨by decide +kernel, by decide +kernel, by decide +kernel, by decide +kernel, by decide +kernel, by decide +kernel, by decide +kernel⟩
/-! _law_done -/
def N14 : List Str := ["base", "changes", "place", "gone", "come"]
def ps14 : List Str := ["base", "changes"]
abbrev st14 : Stmt := top 21
abbrev sc14 : Scope := defScope st14
theorem v14_0 {Z : Ev2} {pos : Pos} : HE Z N14 sc14 F1 (.Name "base" pos) (.v 0) := .v rfl (by decide +kernel) (by decide +kernel)
theorem v14_1 {Z : Ev2} {pos : Pos} : HE Z N14 sc14 F1 (.Name "changes" pos) (.v 1) := .v rfl (by decide +kernel) (by decide +kernel)
theorem v14_2 {Z : Ev2} {pos : Pos} : HE Z N14 sc14 F1 (.Name "place" pos) (.v 2) := .v rfl (by decide +kernel) (by decide +kernel)
theorem v14_3 {Z : Ev2} {pos : Pos} : HE Z N14 sc14 F1 (.Name "gone" pos) (.v 3) := .v rfl (by decide +kernel) (by decide +kernel)
theorem v14_4 {Z : Ev2} {pos : Pos} : HE Z N14 sc14 F1 (.Name "come" pos) (.v 4) := .v rfl (by decide +kernel) (by decide +kernel)
theorem g14_len : glB sc14 "len" = true := by decide +kernel
theorem g14_sorted : glB sc14 "sorted" = true := by decide +kernel
theorem hb14 (gz : Good (ZZ P w K fa xa mg base)) (em : Exm (ZZ P w K fa xa mg base)) (xc : ∀ c, c < 1 → XcOk (ZZ P w K fa xa mg base) c) : HB (ZZ P w K fa xa mg base) N14 sc14 (defBody st14) b14 :=
  (.cons (.frr (.seq (.rev (.sorted gz nb_sorted g14_sorted (.cons v14_1 .nil)))) (.tp (.cons (.nm rfl (by decide +kernel) (by decide +kernel)) (.cons (.nm rfl (by decide +kernel) (by decide +kernel)) (.cons (.nm rfl (by decide +kernel) (by decide +kernel)) .nil)))) (.cons (.asg (.add (.add (.slc v14_0 .no (.yes v14_2)) v14_4) (.slc v14_0 (.yes (.add v14_2 (.len gz nb_len g14_len (.cons v14_3 .nil)))) .no)) (.nm rfl (by decide +kernel) (by decide +kernel)) (fun _ _ _ => rfl) (fun _ _ => rfl)) .nil)) (.cons (.ret v14_0) .nil))
theorem fs14 : FnScope N14 ps14 sc14 := ⟨by decide +kernel, by decide +kernel, by decide +kernel, by decide +kernel, by decide +kernel, by decide +kernel, by decide +kernel⟩
/-! _law_touch -/
def N15 : List Str := ["one", "other", "x"]
def ps15 : List Str := ["one", "other"]
abbrev st15 : Stmt := top 22
abbrev sc15 : Scope := defScope st15
theorem v15_0 {Z : Ev2} {pos : Pos} : HE Z N15 sc15 F1 (.Name "one" pos) (.v 0) := .v rfl (by decide +kernel) (by decide +kernel)
theorem v15_1 {Z : Ev2} {pos : Pos} : HE Z N15 sc15 F1 (.Name "other" pos) (.v 1) := .v rfl (by decide +kernel) (by decide +kernel)
theorem g15_len : glB sc15 "len" = true := by decide +kernel
theorem g15_range : glB sc15 "range" = true := by decide +kernel
theorem hb15 (gz : Good (ZZ P w K fa xa mg base)) (em : Exm (ZZ P w K fa xa mg base)) (xc : ∀ c, c < 1 → XcOk (ZZ P w K fa xa mg base) c) : HB (ZZ P w K fa xa mg base) N15 sc15 (defBody st15) b15 :=
  (.cons (.ret (.and (.cmp ho_ne v15_0 v15_1) (.one (.cmp ho_ne (.lc (own := [("x", 2)]) (.rng2 gz nb_range g15_range (.idx v15_0 .int) (.add (.add (.idx v15_0 .int) (.len gz nb_len g15_len (.cons (.idx v15_0 .int) .nil))) .int)) (by decide +kernel) (.nm rfl (by decide +kernel) (by decide +kernel)) rfl (.yes (HW.t (HW.and (.cmp ho_le (.idx (.v rfl (by decide +kernel) (by decide +kernel)) .int) (.v rfl (by decide +kernel) (by decide +kernel))) (HW.and1 (.cmp ho_le (.v rfl (by decide +kernel) (by decide +kernel)) (.add (.idx (.v rfl (by decide +kernel) (by decide +kernel)) .int) (.len gz nb_len (by decide +kernel) (.cons (.idx (.v rfl (by decide +kernel) (by decide +kernel)) .int) .nil)))))))) (.v rfl (by decide +kernel) (by decide +kernel))) (.lst .nil))))) .nil)
theorem fs15 : FnScope N15 ps15 sc15 := ⟨by decide +kernel, by decide +kernel, by decide +kernel, by decide +kernel, by decide +kernel, by decide +kernel, by decide +kernel⟩
/-! _law_merge -/
def N16 : List Str := ["base", "one", "other", "edit", "edit2", "first", "second", "marks", "is_new", "i", "j", "k", "low", "high", "rows", "mark", "ones", "others", "begin", "end", "texts", "changes", "change", "place", "gone", "come"]
def ps16 : List Str := ["base", "one", "other"]
abbrev st16 : Stmt := top 23
abbrev sc16 : Scope := defScope st16
theorem v16_0 {Z : Ev2} {pos : Pos} : HE Z N16 sc16 F1 (.Name "base" pos) (.v 0) := .v rfl (by decide +kernel) (by decide +kernel)
theorem v16_1 {Z : Ev2} {pos : Pos} : HE Z N16 sc16 F1 (.Name "one" pos) (.v 1) := .v rfl (by decide +kernel) (by decide +kernel)
theorem v16_2 {Z : Ev2} {pos : Pos} : HE Z N16 sc16 F1 (.Name "other" pos) (.v 2) := .v rfl (by decide +kernel) (by decide +kernel)
theorem v16_3 {Z : Ev2} {pos : Pos} : HE Z N16 sc16 F1 (.Name "edit" pos) (.v 3) := .v rfl (by decide +kernel) (by decide +kernel)
theorem v16_4 {Z : Ev2} {pos : Pos} : HE Z N16 sc16 F1 (.Name "edit2" pos) (.v 4) := .v rfl (by decide +kernel) (by decide +kernel)
theorem v16_5 {Z : Ev2} {pos : Pos} : HE Z N16 sc16 F1 (.Name "first" pos) (.v 5) := .v rfl (by decide +kernel) (by decide +kernel)
theorem v16_6 {Z : Ev2} {pos : Pos} : HE Z N16 sc16 F1 (.Name "second" pos) (.v 6) := .v rfl (by decide +kernel) (by decide +kernel)
theorem v16_7 {Z : Ev2} {pos : Pos} : HE Z N16 sc16 F1 (.Name "marks" pos) (.v 7) := .v rfl (by decide +kernel) (by decide +kernel)
theorem v16_8 {Z : Ev2} {pos : Pos} : HE Z N16 sc16 F1 (.Name "is_new" pos) (.v 8) := .v rfl (by decide +kernel) (by decide +kernel)
theorem v16_9 {Z : Ev2} {pos : Pos} : HE Z N16 sc16 F1 (.Name "i" pos) (.v 9) := .v rfl (by decide +kernel) (by decide +kernel)
theorem v16_10 {Z : Ev2} {pos : Pos} : HE Z N16 sc16 F1 (.Name "j" pos) (.v 10) := .v rfl (by decide +kernel) (by decide +kernel)
theorem v16_11 {Z : Ev2} {pos : Pos} : HE Z N16 sc16 F1 (.Name "k" pos) (.v 11) := .v rfl (by decide +kernel) (by decide +kernel)
theorem v16_14 {Z : Ev2} {pos : Pos} : HE Z N16 sc16 F1 (.Name "rows" pos) (.v 14) := .v rfl (by decide +kernel) (by decide +kernel)
theorem v16_16 {Z : Ev2} {pos : Pos} : HE Z N16 sc16 F1 (.Name "ones" pos) (.v 16) := .v rfl (by decide +kernel) (by decide +kernel)
theorem v16_17 {Z : Ev2} {pos : Pos} : HE Z N16 sc16 F1 (.Name "others" pos) (.v 17) := .v rfl (by decide +kernel) (by decide +kernel)
theorem v16_18 {Z : Ev2} {pos : Pos} : HE Z N16 sc16 F1 (.Name "begin" pos) (.v 18) := .v rfl (by decide +kernel) (by decide +kernel)
theorem v16_19 {Z : Ev2} {pos : Pos} : HE Z N16 sc16 F1 (.Name "end" pos) (.v 19) := .v rfl (by decide +kernel) (by decide +kernel)
theorem v16_20 {Z : Ev2} {pos : Pos} : HE Z N16 sc16 F1 (.Name "texts" pos) (.v 20) := .v rfl (by decide +kernel) (by decide +kernel)
theorem v16_21 {Z : Ev2} {pos : Pos} : HE Z N16 sc16 F1 (.Name "changes" pos) (.v 21) := .v rfl (by decide +kernel) (by decide +kernel)
theorem g16__law_done : glB sc16 "_law_done" = true := by decide +kernel
theorem g16__law_touch : glB sc16 "_law_touch" = true := by decide +kernel
theorem g16_dict : glB sc16 "dict" = true := by decide +kernel
theorem g16_edit_between : glB sc16 "edit_between" = true := by decide +kernel
theorem g16_len : glB sc16 "len" = true := by decide +kernel
theorem g16_list : glB sc16 "list" = true := by decide +kernel
theorem g16_max : glB sc16 "max" = true := by decide +kernel
theorem g16_min : glB sc16 "min" = true := by decide +kernel
theorem g16_range : glB sc16 "range" = true := by decide +kernel
theorem g16_sorted : glB sc16 "sorted" = true := by decide +kernel
theorem g16_tuple : glB sc16 "tuple" = true := by decide +kernel
theorem hb16 (gz : Good (ZZ P w K fa xa mg base)) (em : Exm (ZZ P w K fa xa mg base)) (xc : ∀ c, c < 1 → XcOk (ZZ P w K fa xa mg base) c) : HB (ZZ P w K fa xa mg base) N16 sc16 (defBody st16) b16 :=
  (.cons (.asg (.call gz fn_4 rfl g16_edit_between (by decide +kernel) (.cons v16_0 (.cons v16_1 .nil))) (.nm rfl (by decide +kernel) (by decide +kernel)) (fun _ _ _ => rfl) (fun _ _ => rfl)) (.cons (.asg (.call gz fn_4 rfl g16_edit_between (by decide +kernel) (.cons v16_0 (.cons v16_2 .nil))) (.nm rfl (by decide +kernel) (by decide +kernel)) (fun _ _ _ => rfl) (fun _ _ => rfl)) (.cons (.asg (.lc (own := [("change", 22)]) (.seq v16_3) (by decide +kernel) (.nm rfl (by decide +kernel) (by decide +kernel)) rfl (.yes (.cmp ho_notin (.v rfl (by decide +kernel) (by decide +kernel)) (.v rfl (by decide +kernel) (by decide +kernel)))) (.v rfl (by decide +kernel) (by decide +kernel))) (.nm rfl (by decide +kernel) (by decide +kernel)) (by rintro ⟨⟩ _ rfl; rfl) (fun _ _ => rfl)) (.cons (.asg (.lc (own := [("change", 22)]) (.seq v16_4) (by decide +kernel) (.nm rfl (by decide +kernel) (by decide +kernel)) rfl (.yes (.cmp ho_notin (.v rfl (by decide +kernel) (by decide +kernel)) (.v rfl (by decide +kernel) (by decide +kernel)))) (.v rfl (by decide +kernel) (by decide +kernel))) (.nm rfl (by decide +kernel) (by decide +kernel)) (by rintro ⟨⟩ _ rfl; rfl) (fun _ _ => rfl)) (.cons (.asg (.lrg gz nb_list g16_list nb_range g16_range (.add (.len gz nb_len g16_len (.cons v16_5 .nil)) (.len gz nb_len g16_len (.cons v16_6 .nil)))) (.nm rfl (by decide +kernel) (by decide +kernel)) (fun _ _ _ => rfl) (fun _ _ => rfl)) (.cons (.asg .bl (.nm rfl (by decide +kernel) (by decide +kernel)) (fun _ _ _ => rfl) (fun _ _ => rfl)) (.cons (.whl (HT.val v16_8 rfl (fun _ _ => rfl)) (.cons (.asg .bl (.nm rfl (by decide +kernel) (by decide +kernel)) (fun _ _ _ => rfl) (fun _ _ => rfl)) (.cons (.frr (.rng1 gz nb_range g16_range (.len gz nb_len g16_len (.cons v16_5 .nil))) (.nm rfl (by decide +kernel) (by decide +kernel)) (.cons (.frr (.rng1 gz nb_range g16_range (.len gz nb_len g16_len (.cons v16_6 .nil))) (.nm rfl (by decide +kernel) (by decide +kernel)) (.cons (.asg (.add (.len gz nb_len g16_len (.cons v16_5 .nil)) v16_10) (.nm rfl (by decide +kernel) (by decide +kernel)) (fun _ _ _ => rfl) (fun _ _ => rfl)) (.cons (.ife (HW.t (HW.and (HT.val (.call gz fn_15 rfl g16__law_touch (by decide +kernel) (.cons (.idx v16_5 v16_9) (.cons (.idx v16_6 v16_10) .nil))) rfl (fun _ _ => rfl)) (HW.and1 (.cmp ho_ne (.idx v16_7 v16_9) (.idx v16_7 v16_11))))) (.cons (.asg (.min2 gz nb_min g16_min (.cons (.idx v16_7 v16_9) (.cons (.idx v16_7 v16_11) .nil))) (.nm rfl (by decide +kernel) (by decide +kernel)) (fun _ _ _ => rfl) (fun _ _ => rfl)) (.cons (.asg (.max2 gz nb_max g16_max (.cons (.idx v16_7 v16_9) (.cons (.idx v16_7 v16_11) .nil))) (.nm rfl (by decide +kernel) (by decide +kernel)) (fun _ _ _ => rfl) (fun _ _ => rfl)) (.cons (.asg (.lc (own := [("mark", 15)]) (.seq v16_7) (by decide +kernel) (.nm rfl (by decide +kernel) (by decide +kernel)) rfl .no (.ife (.cmp ho_eq (.v rfl (by decide +kernel) (by decide +kernel)) (.v rfl (by decide +kernel) (by decide +kernel))) (.v rfl (by decide +kernel) (by decide +kernel)) (.v rfl (by decide +kernel) (by decide +kernel)))) (.nm rfl (by decide +kernel) (by decide +kernel)) (by rintro ⟨⟩ _ rfl; rfl) (fun _ _ => rfl)) (.cons (.asg .bl (.nm rfl (by decide +kernel) (by decide +kernel)) (fun _ _ _ => rfl) (fun _ _ => rfl)) .nil)))) .nil) .nil))) .nil)) .nil))) (.cons (.asg (.lst .nil) (.nm rfl (by decide +kernel) (by decide +kernel)) (fun _ _ _ => rfl) (fun _ _ => rfl)) (.cons (.frr (.seq (.srtd gz nb_sorted g16_sorted nb_dict g16_dict (.lc (own := [("mark", 15)]) (.seq v16_7) (by decide +kernel) (.nm rfl (by decide +kernel) (by decide +kernel)) rfl (.yes (.cmp ho_gt (.count (fun _ _ => rfl) rfl (.v rfl (by decide +kernel) (by decide +kernel)) (.cons (.v rfl (by decide +kernel) (by decide +kernel)) .nil)) .int)) (.tup (.cons (.v rfl (by decide +kernel) (by decide +kernel)) (.cons .int .nil)))))) (.nm rfl (by decide +kernel) (by decide +kernel)) (.cons (.setLc (own := [("i", 9)]) rfl (by decide +kernel) (by rintro ⟨⟩ _ rfl; rfl) (.rng1 gz nb_range g16_range (.len gz nb_len g16_len (.cons v16_5 .nil))) (by decide +kernel) (.nm rfl (by decide +kernel) (by decide +kernel)) rfl (.yes (.cmp ho_eq (.idx (.v rfl (by decide +kernel) (by decide +kernel)) (.v rfl (by decide +kernel) (by decide +kernel))) (.v rfl (by decide +kernel) (by decide +kernel)))) (.idx (.v rfl (by decide +kernel) (by decide +kernel)) (.v rfl (by decide +kernel) (by decide +kernel)))) (.cons (.setLc (own := [("j", 10)]) rfl (by decide +kernel) (by rintro ⟨⟩ _ rfl; rfl) (.rng1 gz nb_range g16_range (.len gz nb_len g16_len (.cons v16_6 .nil))) (by decide +kernel) (.nm rfl (by decide +kernel) (by decide +kernel)) rfl (.yes (.cmp ho_eq (.idx (.v rfl (by decide +kernel) (by decide +kernel)) (.add (.len gz nb_len (by decide +kernel) (.cons (.v rfl (by decide +kernel) (by decide +kernel)) .nil)) (.v rfl (by decide +kernel) (by decide +kernel)))) (.v rfl (by decide +kernel) (by decide +kernel)))) (.idx (.v rfl (by decide +kernel) (by decide +kernel)) (.v rfl (by decide +kernel) (by decide +kernel)))) (.cons (.asg (.min1 gz nb_min g16_min (.cons (.lc (own := [("change", 22)]) (.seq (.cat v16_16 v16_17)) (by decide +kernel) (.nm rfl (by decide +kernel) (by decide +kernel)) rfl .no (.idx (.v rfl (by decide +kernel) (by decide +kernel)) .int)) .nil)) (.nm rfl (by decide +kernel) (by decide +kernel)) (fun _ _ _ => rfl) (fun _ _ => rfl)) (.cons (.asg (.max1 gz nb_max g16_max (.cons (.lc (own := [("change", 22)]) (.seq (.cat v16_16 v16_17)) (by decide +kernel) (.nm rfl (by decide +kernel) (by decide +kernel)) rfl .no (.add (.idx (.v rfl (by decide +kernel) (by decide +kernel)) .int) (.len gz nb_len (by decide +kernel) (.cons (.idx (.v rfl (by decide +kernel) (by decide +kernel)) .int) .nil)))) .nil)) (.nm rfl (by decide +kernel) (by decide +kernel)) (fun _ _ _ => rfl) (fun _ _ => rfl)) (.cons (.asg (.lst .nil) (.nm rfl (by decide +kernel) (by decide +kernel)) (fun _ _ _ => rfl) (fun _ _ => rfl)) (.cons (.frr (.seq (.lst (.cons v16_16 (.cons v16_17 .nil)))) (.nm rfl (by decide +kernel) (by decide +kernel)) (.cons (.exp (.append (fun _ _ => rfl) rfl v16_20 (.cons (.call gz fn_14 rfl g16__law_done (by decide +kernel) (.cons (.slc v16_0 (.yes v16_18) (.yes v16_19)) (.cons (.lc (own := [("place", 23), ("gone", 24), ("come", 25)]) (.seq v16_21) (by decide +kernel) (.tp (.cons (.nm rfl (by decide +kernel) (by decide +kernel)) (.cons (.nm rfl (by decide +kernel) (by decide +kernel)) (.cons (.nm rfl (by decide +kernel) (by decide +kernel)) .nil)))) rfl .no (.tup (.cons (.sub (.v rfl (by decide +kernel) (by decide +kernel)) (.v rfl (by decide +kernel) (by decide +kernel))) (.cons (.v rfl (by decide +kernel) (by decide +kernel)) (.cons (.v rfl (by decide +kernel) (by decide +kernel)) .nil))))) .nil))) .nil)) (fun _ _ => rfl)) .nil)) (.cons (.exp (.append (fun _ _ => rfl) rfl v16_14 (.cons (.tup (.cons v16_18 (.cons (.slc v16_0 (.yes v16_18) (.yes v16_19)) (.cons (.idx v16_20 .int) (.cons (.idx v16_20 .int) .nil))))) .nil)) (fun _ _ => rfl)) .nil)))))))) (.cons (.ife (.cmp ho_ne v16_14 (.lst .nil)) (.cons (.ret (.tup (.cons (.str (by decide +kernel)) (.cons (.tuple gz nb_tuple g16_tuple (.cons (.sorted gz nb_sorted g16_sorted (.cons v16_14 .nil)) .nil)) .nil)))) .nil) .nil) (.cons (.ret (.tup (.cons (.str (by decide +kernel)) (.cons (.call gz fn_14 rfl g16__law_done (by decide +kernel) (.cons v16_0 (.cons (.cat (.list gz nb_list g16_list (.cons v16_3 .nil)) v16_6) .nil))) .nil)))) .nil)))))))))))
theorem fs16 : FnScope N16 ps16 sc16 := ⟨by decide +kernel, by decide +kernel, by decide +kernel, by decide +kernel, by decide +kernel, by decide +kernel, by decide +kernel⟩
/-! _law_told -/
def N17 : List Str := ["base", "one", "other"]
def ps17 : List Str := ["base", "one", "other"]
abbrev st17 : Stmt := top 24
abbrev sc17 : Scope := defScope st17
theorem v17_0 {Z : Ev2} {pos : Pos} : HE Z N17 sc17 F1 (.Name "base" pos) (.v 0) := .v rfl (by decide +kernel) (by decide +kernel)
theorem v17_1 {Z : Ev2} {pos : Pos} : HE Z N17 sc17 F1 (.Name "one" pos) (.v 1) := .v rfl (by decide +kernel) (by decide +kernel)
theorem v17_2 {Z : Ev2} {pos : Pos} : HE Z N17 sc17 F1 (.Name "other" pos) (.v 2) := .v rfl (by decide +kernel) (by decide +kernel)
theorem g17_NotIn : glB sc17 "NotIn" = true := by decide +kernel
theorem g17_merge_texts : glB sc17 "merge_texts" = true := by decide +kernel
theorem hb17 (gz : Good (ZZ P w K fa xa mg base)) (em : Exm (ZZ P w K fa xa mg base)) (xc : ∀ c, c < 1 → XcOk (ZZ P w K fa xa mg base) c) : HB (ZZ P w K fa xa mg base) N17 sc17 (defBody st17) b17 :=
  (.cons (.tri (.cons (.ret (.call gz fn_8 rfl g17_merge_texts (by decide +kernel) (.cons v17_0 (.cons v17_1 (.cons v17_2 .nil))))) .nil) (.retk (oi := none) gz em lt_0 xn_0 g17_NotIn (by decide +kernel) (by decide +kernel) (fun _ => pe_str) (fun _ _ => .str _) .nil)) .nil)
theorem fs17 : FnScope N17 ps17 sc17 := ⟨by decide +kernel, by decide +kernel, by decide +kernel, by decide +kernel, by decide +kernel, by decide +kernel, by decide +kernel⟩
/-! _law_case -/
def N18 : List Str := ["bag", "base", "one", "other", "due", "place", "gone", "come", "come2"]
def ps18 : List Str := ["bag"]
abbrev st18 : Stmt := top 25
abbrev sc18 : Scope := defScope st18
theorem v18_0 {Z : Ev2} {pos : Pos} : HE Z N18 sc18 F1 (.Name "bag" pos) (.v 0) := .v rfl (by decide +kernel) (by decide +kernel)
theorem v18_1 {Z : Ev2} {pos : Pos} : HE Z N18 sc18 F1 (.Name "base" pos) (.v 1) := .v rfl (by decide +kernel) (by decide +kernel)
theorem v18_2 {Z : Ev2} {pos : Pos} : HE Z N18 sc18 F1 (.Name "one" pos) (.v 2) := .v rfl (by decide +kernel) (by decide +kernel)
theorem v18_3 {Z : Ev2} {pos : Pos} : HE Z N18 sc18 F1 (.Name "other" pos) (.v 3) := .v rfl (by decide +kernel) (by decide +kernel)
theorem v18_4 {Z : Ev2} {pos : Pos} : HE Z N18 sc18 F1 (.Name "due" pos) (.v 4) := .v rfl (by decide +kernel) (by decide +kernel)
theorem g18__law_copy : glB sc18 "_law_copy" = true := by decide +kernel
theorem g18__law_draw : glB sc18 "_law_draw" = true := by decide +kernel
theorem g18__law_merge : glB sc18 "_law_merge" = true := by decide +kernel
theorem g18__law_told : glB sc18 "_law_told" = true := by decide +kernel
theorem g18__law_word : glB sc18 "_law_word" = true := by decide +kernel
theorem g18_merge_texts : glB sc18 "merge_texts" = true := by decide +kernel
theorem g18_sorted : glB sc18 "sorted" = true := by decide +kernel
theorem g18_tuple : glB sc18 "tuple" = true := by decide +kernel
theorem hb18 (gz : Good (ZZ P w K fa xa mg base)) (em : Exm (ZZ P w K fa xa mg base)) (xc : ∀ c, c < 1 → XcOk (ZZ P w K fa xa mg base) c) : HB (ZZ P w K fa xa mg base) N18 sc18 (defBody st18) b18 :=
  (.cons (.asg (.call gz fn_12 rfl g18__law_word (by decide +kernel) (.cons v18_0 (.cons .int .nil))) (.nm rfl (by decide +kernel) (by decide +kernel)) (fun _ _ _ => rfl) (fun _ _ => rfl)) (.cons (.asg (.call gz fn_13 rfl g18__law_copy (by decide +kernel) (.cons v18_0 (.cons v18_1 .nil))) (.nm rfl (by decide +kernel) (by decide +kernel)) (fun _ _ _ => rfl) (fun _ _ => rfl)) (.cons (.asg (.ife (.cmp ho_gt (.call gz fn_10 rfl g18__law_draw (by decide +kernel) (.cons v18_0 (.cons .int .nil))) .int) (.call gz fn_13 rfl g18__law_copy (by decide +kernel) (.cons v18_0 (.cons v18_1 .nil))) (.call gz fn_12 rfl g18__law_word (by decide +kernel) (.cons v18_0 (.cons .int .nil)))) (.nm rfl (by decide +kernel) (by decide +kernel)) (fun _ _ _ => rfl) (fun _ _ => rfl)) (.cons (.asg (.call gz fn_16 rfl g18__law_merge (by decide +kernel) (.cons v18_1 (.cons v18_2 (.cons v18_3 .nil)))) (.nm rfl (by decide +kernel) (by decide +kernel)) (fun _ _ _ => rfl) (fun _ _ => rfl)) (.cons (.ife (.cmp ho_ne (.call gz fn_8 rfl g18_merge_texts (by decide +kernel) (.cons v18_1 (.cons v18_2 (.cons v18_3 .nil)))) v18_4) (.cons (.ret .bl) .nil) .nil) (.cons (.ife (.cmp ho_eq (.idx v18_4 .int) (.str (by decide +kernel))) (.cons (.asg (.tup (.cons (.str (by decide +kernel)) (.cons (.tuple gz nb_tuple g18_tuple (.cons (.sorted gz nb_sorted g18_sorted (.cons (.lc (own := [("place", 5), ("gone", 6), ("come", 7), ("come2", 8)]) (.seq (.idx v18_4 .int)) (by decide +kernel) (.tp (.cons (.nm rfl (by decide +kernel) (by decide +kernel)) (.cons (.nm rfl (by decide +kernel) (by decide +kernel)) (.cons (.nm rfl (by decide +kernel) (by decide +kernel)) (.cons (.nm rfl (by decide +kernel) (by decide +kernel)) .nil))))) rfl .no (.tup (.cons (.v rfl (by decide +kernel) (by decide +kernel)) (.cons (.v rfl (by decide +kernel) (by decide +kernel)) (.cons (.v rfl (by decide +kernel) (by decide +kernel)) (.cons (.v rfl (by decide +kernel) (by decide +kernel)) .nil)))))) .nil)) .nil)) .nil))) (.nm rfl (by decide +kernel) (by decide +kernel)) (fun _ _ _ => rfl) (fun _ _ => rfl)) .nil) .nil) (.cons (.ife (HW.t (HW.or (.cmp ho_ne (.call gz fn_8 rfl g18_merge_texts (by decide +kernel) (.cons v18_1 (.cons v18_3 (.cons v18_2 .nil)))) v18_4) (HW.or (.cmp ho_ne (.call gz fn_8 rfl g18_merge_texts (by decide +kernel) (.cons v18_1 (.cons v18_1 (.cons v18_3 .nil)))) (.tup (.cons (.str (by decide +kernel)) (.cons v18_3 .nil)))) (HW.or1 (.cmp ho_ne (.call gz fn_8 rfl g18_merge_texts (by decide +kernel) (.cons v18_1 (.cons v18_2 (.cons v18_2 .nil)))) (.tup (.cons (.str (by decide +kernel)) (.cons v18_2 .nil)))))))) (.cons (.ret .bl) .nil) .nil) (.cons (.ret (.cmp ho_eq (.lst (.cons (.call gz fn_17 rfl g18__law_told (by decide +kernel) (.cons v18_1 (.cons v18_2 (.cons .non .nil)))) (.cons (.call gz fn_17 rfl g18__law_told (by decide +kernel) (.cons .int (.cons v18_2 (.cons v18_3 .nil)))) (.cons (.call gz fn_17 rfl g18__law_told (by decide +kernel) (.cons v18_1 (.cons (.rep (.str (by decide +kernel)) .int) (.cons v18_3 .nil)))) .nil)))) (.rep (.lst (.cons (.str (by decide +kernel)) .nil)) .int))) .nil))))))))
theorem fs18 : FnScope N18 ps18 sc18 := ⟨by decide +kernel, by decide +kernel, by decide +kernel, by decide +kernel, by decide +kernel, by decide +kernel, by decide +kernel⟩
/-! law -/
def N19 : List Str := ["script", "k"]
def ps19 : List Str := ["script"]
abbrev st19 : Stmt := top 26
abbrev sc19 : Scope := defScope st19
theorem v19_0 {Z : Ev2} {pos : Pos} : HE Z N19 sc19 F1 (.Name "script" pos) (.v 0) := .v rfl (by decide +kernel) (by decide +kernel)
theorem v19_1 {Z : Ev2} {pos : Pos} : HE Z N19 sc19 F1 (.Name "k" pos) (.v 1) := .v rfl (by decide +kernel) (by decide +kernel)
theorem g19__law_bag : glB sc19 "_law_bag" = true := by decide +kernel
theorem g19__law_case : glB sc19 "_law_case" = true := by decide +kernel
theorem g19_len : glB sc19 "len" = true := by decide +kernel
theorem g19_max : glB sc19 "max" = true := by decide +kernel
theorem g19_merge_texts : glB sc19 "merge_texts" = true := by decide +kernel
theorem g19_min : glB sc19 "min" = true := by decide +kernel
theorem g19_range : glB sc19 "range" = true := by decide +kernel
theorem hb19 (gz : Good (ZZ P w K fa xa mg base)) (em : Exm (ZZ P w K fa xa mg base)) (xc : ∀ c, c < 1 → XcOk (ZZ P w K fa xa mg base) c) : HB (ZZ P w K fa xa mg base) N19 sc19 (defBody st19) b19 :=
  (.cons (.ife (HW.t (HW.or (.cmp ho_ne (.call gz fn_8 rfl g19_merge_texts (by decide +kernel) (.cons (.str (by decide +kernel)) (.cons (.str (by decide +kernel)) (.cons (.str (by decide +kernel)) .nil)))) (.tup (.cons (.str (by decide +kernel)) (.cons (.str (by decide +kernel)) .nil)))) (HW.or1 (.cmp ho_ne (.call gz fn_8 rfl g19_merge_texts (by decide +kernel) (.cons (.str (by decide +kernel)) (.cons (.str (by decide +kernel)) (.cons (.str (by decide +kernel)) .nil)))) (.tup (.cons (.str (by decide +kernel)) (.cons (.tup (.cons (.tup (.cons .int (.cons (.str (by decide +kernel)) (.cons (.str (by decide +kernel)) (.cons (.str (by decide +kernel)) .nil))))) .nil)) .nil))))))) (.cons (.ret .bl) .nil) .nil) (.cons (.ife (HW.t (HW.or (.cmp ho_ne (.idx (.call gz fn_8 rfl g19_merge_texts (by decide +kernel) (.cons (.str (by decide +kernel)) (.cons (.str (by decide +kernel)) (.cons (.str (by decide +kernel)) .nil)))) .int) (.str (by decide +kernel))) (HW.or1 (.cmp ho_ne (.call gz fn_8 rfl g19_merge_texts (by decide +kernel) (.cons (.str (by decide +kernel)) (.cons (.str (by decide +kernel)) (.cons (.str (by decide +kernel)) .nil)))) (.tup (.cons (.str (by decide +kernel)) (.cons (.str (by decide +kernel)) .nil))))))) (.cons (.ret .bl) .nil) .nil) (.cons (.frr (.rng1 gz nb_range g19_range (.min2 gz nb_min g19_min (.cons (.max2 gz nb_max g19_max (.cons (.len gz nb_len g19_len (.cons v19_0 .nil)) (.cons .int .nil))) (.cons .int .nil)))) (.nm rfl (by decide +kernel) (by decide +kernel)) (.cons (.ife (.not (HT.val (.call gz fn_18 rfl g19__law_case (by decide +kernel) (.cons (.call gz fn_9 rfl g19__law_bag (by decide +kernel) (.cons v19_0 (.cons v19_1 .nil))) .nil)) rfl (fun _ _ => rfl))) (.cons (.ret .bl) .nil) .nil) .nil)) (.cons (.ret .bl) .nil))))
theorem fs19 : FnScope N19 ps19 sc19 := ⟨by decide +kernel, by decide +kernel, by decide +kernel, by decide +kernel, by decide +kernel, by decide +kernel, by decide +kernel⟩
end
end K64
end

section
set_option Elab.async false
set_option linter.all false
set_option autoImplicit false
set_option maxRecDepth 100000
set_option maxHeartbeats 0
/-! The law: the head's facts, the plain law; printed by head.py. -/
namespace K64
open PySem PySem.Spec PyProof.Rows L2 T2
abbrev R : PySem.W.OpenRow := PySem.W.OpenLaw.row PySem.Challenge.rw_twowaytexts_k64_merges_by_signs
def dd0 : He.DefD := ⟨("check_string", none), "check_string", "check_string", defArgs st0, defBody st0, sc0, [], []⟩
def dd1 : He.DefD := ⟨("changed", none), "changed", "changed", defArgs st1, defBody st1, sc1, [], []⟩
def dd2 : He.DefD := ⟨("costs_from", none), "costs_from", "costs_from", defArgs st2, defBody st2, sc2, [], []⟩
def dd3 : He.DefD := ⟨("least_edit", none), "least_edit", "least_edit", defArgs st3, defBody st3, sc3, [], []⟩
def dd4 : He.DefD := ⟨("edit_between", none), "edit_between", "edit_between", defArgs st4, defBody st4, sc4, [], []⟩
def dd5 : He.DefD := ⟨("touch", none), "touch", "touch", defArgs st5, defBody st5, sc5, [], []⟩
def dd6 : He.DefD := ⟨("groups_of", none), "groups_of", "groups_of", defArgs st6, defBody st6, sc6, [], []⟩
def dd7 : He.DefD := ⟨("region_of", none), "region_of", "region_of", defArgs st7, defBody st7, sc7, [], []⟩
def dd8 : He.DefD := ⟨("merge_texts", none), "merge_texts", "merge_texts", defArgs st8, defBody st8, sc8, [], []⟩
def dd9 : He.DefD := ⟨("_law_bag", none), "_law_bag", "_law_bag", defArgs st9, defBody st9, sc9, [], []⟩
def dd10 : He.DefD := ⟨("_law_draw", none), "_law_draw", "_law_draw", defArgs st10, defBody st10, sc10, [], []⟩
def dd11 : He.DefD := ⟨("_law_one", none), "_law_one", "_law_one", defArgs st11, defBody st11, sc11, [], []⟩
def dd12 : He.DefD := ⟨("_law_word", none), "_law_word", "_law_word", defArgs st12, defBody st12, sc12, [], []⟩
def dd13 : He.DefD := ⟨("_law_copy", none), "_law_copy", "_law_copy", defArgs st13, defBody st13, sc13, [], []⟩
def dd14 : He.DefD := ⟨("_law_done", none), "_law_done", "_law_done", defArgs st14, defBody st14, sc14, [], []⟩
def dd15 : He.DefD := ⟨("_law_touch", none), "_law_touch", "_law_touch", defArgs st15, defBody st15, sc15, [], []⟩
def dd16 : He.DefD := ⟨("_law_merge", none), "_law_merge", "_law_merge", defArgs st16, defBody st16, sc16, [], []⟩
def dd17 : He.DefD := ⟨("_law_told", none), "_law_told", "_law_told", defArgs st17, defBody st17, sc17, [], []⟩
def dd18 : He.DefD := ⟨("_law_case", none), "_law_case", "_law_case", defArgs st18, defBody st18, sc18, [], []⟩
def dd19 : He.DefD := ⟨("law", none), "law", "law", defArgs st19, defBody st19, sc19, [], []⟩
abbrev xi0 : Stmt := inCls (top 2)
def xd0 : He.DefD := ⟨("NotIn", some "__init__"), "__init__", "NotIn.__init__", defArgs xi0, defBody xi0, defScope xi0, [], []⟩
def fnD_0 : List He.DefD := [dd0, dd1, dd2, dd3, dd4, dd5, dd6, dd7, dd8, dd9, dd10, dd11, dd12, dd13, dd14, dd15, dd16, dd17, dd18, dd19, xd0]
def fnD : List He.DefD := fnD_0
def faC : List He.Fa := [.int "MOST_TEXT" 400]
def faX : List He.Fa := [.exm "NotIn" "NotIn" true]
def faD : List He.Fa := FN.map .glo ++ (XN.map .glo ++ (NB.map .free ++ (faC ++ faX)))
def exF (K : PySem.W.Frag) : Bool := (xcB K "NotIn" "which" && true)
abbrev hk : PySem.W.Hook := He.hookX 4 faD fnD [] [] exF
def ob (s : PySem.W.SharedT) : He.AlX := He.obsX 4 faD fnD [] [] exF (HandSHeadRun.getT s)
theorem ob_eq (s : PySem.W.SharedT) : ob s = hk.obs s.abs := He.obsX_eq (HandSHeadRun.getT_eq s)
def names_0 : List PySem.Str := ["__name__", "WayError", "NotIn", "MOST_TEXT", "check_string", "changed", "costs_from", "least_edit", "edit_between", "touch", "groups_of", "region_of", "merge_texts", "_law_bag", "_law_draw", "_law_one", "_law_word", "_law_copy", "_law_done", "_law_touch", "_law_merge", "_law_told", "_law_case"]
def names : List PySem.Str := names_0
theorem run (w : World) : HandSHeadRun.RunEq R (PySem.W.view R.prog [26]) hk ob 20000 names w := by
  intro os
  kernel_rfl
section
variable {P : Program} {w : World} {K : PySem.W.Frag} {mg : Str → Option Value} {base h : Heap}
abbrev faF (K : PySem.W.Frag) (k : Nat) : Addr := He.ga K (FN.getD k "")
abbrev xaF (K : PySem.W.Frag) (k : Nat) : Addr := He.ga K (XN.getD k "")
theorem getD_of {l : List Str} {k : Nat} {x : Str} (h : l[k]? = some x) : l.getD k "" = x := by rw [List.getD_eq_getElem?_getD, h]; rfl
theorem good (KX : K.In h) (G : h.Ns mainGlobals mg) (c : He.SaysD faD fnD K) : Good (ZZ P w K (faF K) (xaF K) mg base) where
  fn := fun k x hk => by
    show mg x = some (.ref (He.ga K (FN.getD k "")))
    rw [getD_of (l := FN) hk]
    exact He.glo_ok KX G (c.facts (List.mem_append_left _ (List.mem_map_of_mem (List.mem_of_getElem? hk))))
  cn := fun k x hk => by
    match k, hk with
    | 0, hk =>
      cases hk
      obtain ⟨t, e⟩ := He.int_ok KX G (x := "MOST_TEXT") (i := 400) (c.facts (List.mem_append_right _ (List.mem_append_right _ (List.mem_append_right _ (List.mem_append_left _ (List.mem_of_getElem? (i := 0) rfl))))))
      exact ⟨.int 400 t, .int 400, e, ⟨t, rfl⟩, fun φ H => .int _⟩
    | k + 1, hk => exact absurd hk (by show CN[k + 1]? ≠ some x; simp [CN])
  nb := fun x hx => He.free_ok KX G (c.facts (List.mem_append_right _ (List.mem_append_right _ (List.mem_append_left _ (List.mem_map_of_mem hx)))))
  xc := fun k x hk => by
    show mg x = some (.ref (He.ga K (XN.getD k "")))
    rw [getD_of (l := XN) hk]
    exact He.glo_ok KX G (c.facts (List.mem_append_right _ (List.mem_append_left _ (List.mem_map_of_mem (List.mem_of_getElem? hk)))))
theorem em (c : He.SaysD faD fnD K) : Exm (ZZ P w K (faF K) (xaF K) mg base) := by
  intro i j hi hj
  have hi : i < 1 := hi
  have hj : j < 1 := hj
  match i, j, hi, hj with
  | 0, 0, _, _ => exact He.exm_ok (x := "NotIn") (y := "NotIn") (b := true) (c.facts (List.mem_append_right _ (List.mem_append_right _ (List.mem_append_right _ (List.mem_append_right _ (List.mem_of_getElem? (i := 0) rfl))))))
  | 0, j + 1, _, hj => omega
  | i + 1, _, hi, _ => omega
theorem xs0 : FnScope ["self", "which"] ["self", "which"] (defScope xi0) := ⟨by decide +kernel, by decide +kernel, by decide +kernel, by decide +kernel, by decide +kernel, by decide +kernel, by decide +kernel⟩
theorem xc0 (c : He.SaysD faD fnD K) (x : XcF K "NotIn" "which") : XcOk (ZZ P w K (faF K) (xaF K) mg base) 0 := by
  obtain ⟨fd, F⟩ := c.def_ 20 (d := xd0) rfl
  have F : FunD K "__init__" "NotIn.__init__" (defArgs xi0) (defBody xi0) (defScope xi0) [] [] (He.ma K (He.ga K "NotIn") "__init__") fd := F
  exact ⟨x.oex, ⟨_, fd, "which", rfl, x.ini, x.fn, ini_ok F xs0 ⟨_, _, _, _, rfl⟩ (by decide +kernel) (by decide +kernel) (by decide +kernel) x.oex x.no, FunD.bindsN F fun _ _ _ _ _ _ us hl => match us, hl with | [_, _], _ => rfl⟩, x.xfc, fun g hg => by
    have hg : g = "which" := by simpa [ZZ, XF] using hg
    rw [hg]
    exact x.no⟩
theorem xcs (c : He.SaysD faD fnD K) (x : exF K = true) : ∀ i, i < 1 → XcOk (ZZ P w K (faF K) (xaF K) mg base) i := by
  intro i hi
  simp only [exF, Bool.and_eq_true] at x
  obtain ⟨x0, _⟩ := x
  match i, hi with
  | 0, _ => exact xc0 c (xcB_ok x0)
  | i + 1, hi => omega
theorem fd0 (gz : Good (ZZ P w K (faF K) (xaF K) mg base)) (em : Exm (ZZ P w K (faF K) (xaF K) mg base)) (xc : ∀ c, c < 1 → XcOk (ZZ P w K (faF K) (xaF K) mg base) c) (c : He.SaysD faD fnD K) : FnD (ZZ P w K (faF K) (xaF K) mg base) 0 d0 := by
  obtain ⟨fd, F⟩ := c.def_ 0 (d := dd0) rfl
  have F : FunD K "check_string" "check_string" (defArgs st0) (defBody st0) sc0 [] [] (He.ga K "check_string") fd := F
  exact ⟨_, _, _, _, _, fd, N0, ps0, F, fs0, rfl, rfl, hb0 gz em xc, FunD.bindsN F fun _ _ _ _ _ _ us hl => match us, hl with | [_], _ => rfl⟩
theorem fd1 (gz : Good (ZZ P w K (faF K) (xaF K) mg base)) (em : Exm (ZZ P w K (faF K) (xaF K) mg base)) (xc : ∀ c, c < 1 → XcOk (ZZ P w K (faF K) (xaF K) mg base) c) (c : He.SaysD faD fnD K) : FnD (ZZ P w K (faF K) (xaF K) mg base) 1 d1 := by
  obtain ⟨fd, F⟩ := c.def_ 1 (d := dd1) rfl
  have F : FunD K "changed" "changed" (defArgs st1) (defBody st1) sc1 [] [] (He.ga K "changed") fd := F
  exact ⟨_, _, _, _, _, fd, N1, ps1, F, fs1, rfl, rfl, hb1 gz em xc, FunD.bindsN F fun _ _ _ _ _ _ us hl => match us, hl with | [_, _], _ => rfl⟩
theorem fd2 (gz : Good (ZZ P w K (faF K) (xaF K) mg base)) (em : Exm (ZZ P w K (faF K) (xaF K) mg base)) (xc : ∀ c, c < 1 → XcOk (ZZ P w K (faF K) (xaF K) mg base) c) (c : He.SaysD faD fnD K) : FnD (ZZ P w K (faF K) (xaF K) mg base) 2 d2 := by
  obtain ⟨fd, F⟩ := c.def_ 2 (d := dd2) rfl
  have F : FunD K "costs_from" "costs_from" (defArgs st2) (defBody st2) sc2 [] [] (He.ga K "costs_from") fd := F
  exact ⟨_, _, _, _, _, fd, N2, ps2, F, fs2, rfl, rfl, hb2 gz em xc, FunD.bindsN F fun _ _ _ _ _ _ us hl => match us, hl with | [_, _], _ => rfl⟩
theorem fd3 (gz : Good (ZZ P w K (faF K) (xaF K) mg base)) (em : Exm (ZZ P w K (faF K) (xaF K) mg base)) (xc : ∀ c, c < 1 → XcOk (ZZ P w K (faF K) (xaF K) mg base) c) (c : He.SaysD faD fnD K) : FnD (ZZ P w K (faF K) (xaF K) mg base) 3 d3 := by
  obtain ⟨fd, F⟩ := c.def_ 3 (d := dd3) rfl
  have F : FunD K "least_edit" "least_edit" (defArgs st3) (defBody st3) sc3 [] [] (He.ga K "least_edit") fd := F
  exact ⟨_, _, _, _, _, fd, N3, ps3, F, fs3, rfl, rfl, hb3 gz em xc, FunD.bindsN F fun _ _ _ _ _ _ us hl => match us, hl with | [_, _], _ => rfl⟩
theorem fd4 (gz : Good (ZZ P w K (faF K) (xaF K) mg base)) (em : Exm (ZZ P w K (faF K) (xaF K) mg base)) (xc : ∀ c, c < 1 → XcOk (ZZ P w K (faF K) (xaF K) mg base) c) (c : He.SaysD faD fnD K) : FnD (ZZ P w K (faF K) (xaF K) mg base) 4 d4 := by
  obtain ⟨fd, F⟩ := c.def_ 4 (d := dd4) rfl
  have F : FunD K "edit_between" "edit_between" (defArgs st4) (defBody st4) sc4 [] [] (He.ga K "edit_between") fd := F
  exact ⟨_, _, _, _, _, fd, N4, ps4, F, fs4, rfl, rfl, hb4 gz em xc, FunD.bindsN F fun _ _ _ _ _ _ us hl => match us, hl with | [_, _], _ => rfl⟩
theorem fd5 (gz : Good (ZZ P w K (faF K) (xaF K) mg base)) (em : Exm (ZZ P w K (faF K) (xaF K) mg base)) (xc : ∀ c, c < 1 → XcOk (ZZ P w K (faF K) (xaF K) mg base) c) (c : He.SaysD faD fnD K) : FnD (ZZ P w K (faF K) (xaF K) mg base) 5 d5 := by
  obtain ⟨fd, F⟩ := c.def_ 5 (d := dd5) rfl
  have F : FunD K "touch" "touch" (defArgs st5) (defBody st5) sc5 [] [] (He.ga K "touch") fd := F
  exact ⟨_, _, _, _, _, fd, N5, ps5, F, fs5, rfl, rfl, hb5 gz em xc, FunD.bindsN F fun _ _ _ _ _ _ us hl => match us, hl with | [_, _], _ => rfl⟩
theorem fd6 (gz : Good (ZZ P w K (faF K) (xaF K) mg base)) (em : Exm (ZZ P w K (faF K) (xaF K) mg base)) (xc : ∀ c, c < 1 → XcOk (ZZ P w K (faF K) (xaF K) mg base) c) (c : He.SaysD faD fnD K) : FnD (ZZ P w K (faF K) (xaF K) mg base) 6 d6 := by
  obtain ⟨fd, F⟩ := c.def_ 6 (d := dd6) rfl
  have F : FunD K "groups_of" "groups_of" (defArgs st6) (defBody st6) sc6 [] [] (He.ga K "groups_of") fd := F
  exact ⟨_, _, _, _, _, fd, N6, ps6, F, fs6, rfl, rfl, hb6 gz em xc, FunD.bindsN F fun _ _ _ _ _ _ us hl => match us, hl with | [_, _], _ => rfl⟩
theorem fd7 (gz : Good (ZZ P w K (faF K) (xaF K) mg base)) (em : Exm (ZZ P w K (faF K) (xaF K) mg base)) (xc : ∀ c, c < 1 → XcOk (ZZ P w K (faF K) (xaF K) mg base) c) (c : He.SaysD faD fnD K) : FnD (ZZ P w K (faF K) (xaF K) mg base) 7 d7 := by
  obtain ⟨fd, F⟩ := c.def_ 7 (d := dd7) rfl
  have F : FunD K "region_of" "region_of" (defArgs st7) (defBody st7) sc7 [] [] (He.ga K "region_of") fd := F
  exact ⟨_, _, _, _, _, fd, N7, ps7, F, fs7, rfl, rfl, hb7 gz em xc, FunD.bindsN F fun _ _ _ _ _ _ us hl => match us, hl with | [_, _], _ => rfl⟩
theorem fd8 (gz : Good (ZZ P w K (faF K) (xaF K) mg base)) (em : Exm (ZZ P w K (faF K) (xaF K) mg base)) (xc : ∀ c, c < 1 → XcOk (ZZ P w K (faF K) (xaF K) mg base) c) (c : He.SaysD faD fnD K) : FnD (ZZ P w K (faF K) (xaF K) mg base) 8 d8 := by
  obtain ⟨fd, F⟩ := c.def_ 8 (d := dd8) rfl
  have F : FunD K "merge_texts" "merge_texts" (defArgs st8) (defBody st8) sc8 [] [] (He.ga K "merge_texts") fd := F
  exact ⟨_, _, _, _, _, fd, N8, ps8, F, fs8, rfl, rfl, hb8 gz em xc, FunD.bindsN F fun _ _ _ _ _ _ us hl => match us, hl with | [_, _, _], _ => rfl⟩
theorem fd9 (gz : Good (ZZ P w K (faF K) (xaF K) mg base)) (em : Exm (ZZ P w K (faF K) (xaF K) mg base)) (xc : ∀ c, c < 1 → XcOk (ZZ P w K (faF K) (xaF K) mg base) c) (c : He.SaysD faD fnD K) : FnD (ZZ P w K (faF K) (xaF K) mg base) 9 d9 := by
  obtain ⟨fd, F⟩ := c.def_ 9 (d := dd9) rfl
  have F : FunD K "_law_bag" "_law_bag" (defArgs st9) (defBody st9) sc9 [] [] (He.ga K "_law_bag") fd := F
  exact ⟨_, _, _, _, _, fd, N9, ps9, F, fs9, rfl, rfl, hb9 gz em xc, FunD.bindsN F fun _ _ _ _ _ _ us hl => match us, hl with | [_, _], _ => rfl⟩
theorem fd10 (gz : Good (ZZ P w K (faF K) (xaF K) mg base)) (em : Exm (ZZ P w K (faF K) (xaF K) mg base)) (xc : ∀ c, c < 1 → XcOk (ZZ P w K (faF K) (xaF K) mg base) c) (c : He.SaysD faD fnD K) : FnD (ZZ P w K (faF K) (xaF K) mg base) 10 d10 := by
  obtain ⟨fd, F⟩ := c.def_ 10 (d := dd10) rfl
  have F : FunD K "_law_draw" "_law_draw" (defArgs st10) (defBody st10) sc10 [] [] (He.ga K "_law_draw") fd := F
  exact ⟨_, _, _, _, _, fd, N10, ps10, F, fs10, rfl, rfl, hb10 gz em xc, FunD.bindsN F fun _ _ _ _ _ _ us hl => match us, hl with | [_, _], _ => rfl⟩
theorem fd11 (gz : Good (ZZ P w K (faF K) (xaF K) mg base)) (em : Exm (ZZ P w K (faF K) (xaF K) mg base)) (xc : ∀ c, c < 1 → XcOk (ZZ P w K (faF K) (xaF K) mg base) c) (c : He.SaysD faD fnD K) : FnD (ZZ P w K (faF K) (xaF K) mg base) 11 d11 := by
  obtain ⟨fd, F⟩ := c.def_ 11 (d := dd11) rfl
  have F : FunD K "_law_one" "_law_one" (defArgs st11) (defBody st11) sc11 [] [] (He.ga K "_law_one") fd := F
  exact ⟨_, _, _, _, _, fd, N11, ps11, F, fs11, rfl, rfl, hb11 gz em xc, FunD.bindsN F fun _ _ _ _ _ _ us hl => match us, hl with | [_, _], _ => rfl⟩
theorem fd12 (gz : Good (ZZ P w K (faF K) (xaF K) mg base)) (em : Exm (ZZ P w K (faF K) (xaF K) mg base)) (xc : ∀ c, c < 1 → XcOk (ZZ P w K (faF K) (xaF K) mg base) c) (c : He.SaysD faD fnD K) : FnD (ZZ P w K (faF K) (xaF K) mg base) 12 d12 := by
  obtain ⟨fd, F⟩ := c.def_ 12 (d := dd12) rfl
  have F : FunD K "_law_word" "_law_word" (defArgs st12) (defBody st12) sc12 [] [] (He.ga K "_law_word") fd := F
  exact ⟨_, _, _, _, _, fd, N12, ps12, F, fs12, rfl, rfl, hb12 gz em xc, FunD.bindsN F fun _ _ _ _ _ _ us hl => match us, hl with | [_, _], _ => rfl⟩
theorem fd13 (gz : Good (ZZ P w K (faF K) (xaF K) mg base)) (em : Exm (ZZ P w K (faF K) (xaF K) mg base)) (xc : ∀ c, c < 1 → XcOk (ZZ P w K (faF K) (xaF K) mg base) c) (c : He.SaysD faD fnD K) : FnD (ZZ P w K (faF K) (xaF K) mg base) 13 d13 := by
  obtain ⟨fd, F⟩ := c.def_ 13 (d := dd13) rfl
  have F : FunD K "_law_copy" "_law_copy" (defArgs st13) (defBody st13) sc13 [] [] (He.ga K "_law_copy") fd := F
  exact ⟨_, _, _, _, _, fd, N13, ps13, F, fs13, rfl, rfl, hb13 gz em xc, FunD.bindsN F fun _ _ _ _ _ _ us hl => match us, hl with | [_, _], _ => rfl⟩
theorem fd14 (gz : Good (ZZ P w K (faF K) (xaF K) mg base)) (em : Exm (ZZ P w K (faF K) (xaF K) mg base)) (xc : ∀ c, c < 1 → XcOk (ZZ P w K (faF K) (xaF K) mg base) c) (c : He.SaysD faD fnD K) : FnD (ZZ P w K (faF K) (xaF K) mg base) 14 d14 := by
  obtain ⟨fd, F⟩ := c.def_ 14 (d := dd14) rfl
  have F : FunD K "_law_done" "_law_done" (defArgs st14) (defBody st14) sc14 [] [] (He.ga K "_law_done") fd := F
  exact ⟨_, _, _, _, _, fd, N14, ps14, F, fs14, rfl, rfl, hb14 gz em xc, FunD.bindsN F fun _ _ _ _ _ _ us hl => match us, hl with | [_, _], _ => rfl⟩
theorem fd15 (gz : Good (ZZ P w K (faF K) (xaF K) mg base)) (em : Exm (ZZ P w K (faF K) (xaF K) mg base)) (xc : ∀ c, c < 1 → XcOk (ZZ P w K (faF K) (xaF K) mg base) c) (c : He.SaysD faD fnD K) : FnD (ZZ P w K (faF K) (xaF K) mg base) 15 d15 := by
  obtain ⟨fd, F⟩ := c.def_ 15 (d := dd15) rfl
  have F : FunD K "_law_touch" "_law_touch" (defArgs st15) (defBody st15) sc15 [] [] (He.ga K "_law_touch") fd := F
  exact ⟨_, _, _, _, _, fd, N15, ps15, F, fs15, rfl, rfl, hb15 gz em xc, FunD.bindsN F fun _ _ _ _ _ _ us hl => match us, hl with | [_, _], _ => rfl⟩
theorem fd16 (gz : Good (ZZ P w K (faF K) (xaF K) mg base)) (em : Exm (ZZ P w K (faF K) (xaF K) mg base)) (xc : ∀ c, c < 1 → XcOk (ZZ P w K (faF K) (xaF K) mg base) c) (c : He.SaysD faD fnD K) : FnD (ZZ P w K (faF K) (xaF K) mg base) 16 d16 := by
  obtain ⟨fd, F⟩ := c.def_ 16 (d := dd16) rfl
  have F : FunD K "_law_merge" "_law_merge" (defArgs st16) (defBody st16) sc16 [] [] (He.ga K "_law_merge") fd := F
  exact ⟨_, _, _, _, _, fd, N16, ps16, F, fs16, rfl, rfl, hb16 gz em xc, FunD.bindsN F fun _ _ _ _ _ _ us hl => match us, hl with | [_, _, _], _ => rfl⟩
theorem fd17 (gz : Good (ZZ P w K (faF K) (xaF K) mg base)) (em : Exm (ZZ P w K (faF K) (xaF K) mg base)) (xc : ∀ c, c < 1 → XcOk (ZZ P w K (faF K) (xaF K) mg base) c) (c : He.SaysD faD fnD K) : FnD (ZZ P w K (faF K) (xaF K) mg base) 17 d17 := by
  obtain ⟨fd, F⟩ := c.def_ 17 (d := dd17) rfl
  have F : FunD K "_law_told" "_law_told" (defArgs st17) (defBody st17) sc17 [] [] (He.ga K "_law_told") fd := F
  exact ⟨_, _, _, _, _, fd, N17, ps17, F, fs17, rfl, rfl, hb17 gz em xc, FunD.bindsN F fun _ _ _ _ _ _ us hl => match us, hl with | [_, _, _], _ => rfl⟩
theorem fd18 (gz : Good (ZZ P w K (faF K) (xaF K) mg base)) (em : Exm (ZZ P w K (faF K) (xaF K) mg base)) (xc : ∀ c, c < 1 → XcOk (ZZ P w K (faF K) (xaF K) mg base) c) (c : He.SaysD faD fnD K) : FnD (ZZ P w K (faF K) (xaF K) mg base) 18 d18 := by
  obtain ⟨fd, F⟩ := c.def_ 18 (d := dd18) rfl
  have F : FunD K "_law_case" "_law_case" (defArgs st18) (defBody st18) sc18 [] [] (He.ga K "_law_case") fd := F
  exact ⟨_, _, _, _, _, fd, N18, ps18, F, fs18, rfl, rfl, hb18 gz em xc, FunD.bindsN F fun _ _ _ _ _ _ us hl => match us, hl with | [_], _ => rfl⟩
theorem fd19 (gz : Good (ZZ P w K (faF K) (xaF K) mg base)) (em : Exm (ZZ P w K (faF K) (xaF K) mg base)) (xc : ∀ c, c < 1 → XcOk (ZZ P w K (faF K) (xaF K) mg base) c) (c : He.SaysD faD fnD K) : FnD (ZZ P w K (faF K) (xaF K) mg base) 19 d19 := by
  obtain ⟨fd, F⟩ := c.def_ 19 (d := dd19) rfl
  have F : FunD K "law" "law" (defArgs st19) (defBody st19) sc19 [] [] (He.ga K "law") fd := F
  exact ⟨_, _, _, _, _, fd, N19, ps19, F, fs19, rfl, rfl, hb19 gz em xc, FunD.bindsN F fun _ _ _ _ _ _ us hl => match us, hl with | [_], _ => rfl⟩
theorem all (gz : Good (ZZ P w K (faF K) (xaF K) mg base)) (em : Exm (ZZ P w K (faF K) (xaF K) mg base)) (xc : ∀ c, c < 1 → XcOk (ZZ P w K (faF K) (xaF K) mg base) c) (c : He.SaysD faD fnD K) : ∀ k d, (ZZ P w K (faF K) (xaF K) mg base).tb k = some d → FnD (ZZ P w K (faF K) (xaF K) mg base) k d := by
  intro k d h
  match k, h with
  | 0, h => exact (Option.some.inj h : d0 = d) ▸ fd0 gz em xc c
  | 1, h => exact (Option.some.inj h : d1 = d) ▸ fd1 gz em xc c
  | 2, h => exact (Option.some.inj h : d2 = d) ▸ fd2 gz em xc c
  | 3, h => exact (Option.some.inj h : d3 = d) ▸ fd3 gz em xc c
  | 4, h => exact (Option.some.inj h : d4 = d) ▸ fd4 gz em xc c
  | 5, h => exact (Option.some.inj h : d5 = d) ▸ fd5 gz em xc c
  | 6, h => exact (Option.some.inj h : d6 = d) ▸ fd6 gz em xc c
  | 7, h => exact (Option.some.inj h : d7 = d) ▸ fd7 gz em xc c
  | 8, h => exact (Option.some.inj h : d8 = d) ▸ fd8 gz em xc c
  | 9, h => exact (Option.some.inj h : d9 = d) ▸ fd9 gz em xc c
  | 10, h => exact (Option.some.inj h : d10 = d) ▸ fd10 gz em xc c
  | 11, h => exact (Option.some.inj h : d11 = d) ▸ fd11 gz em xc c
  | 12, h => exact (Option.some.inj h : d12 = d) ▸ fd12 gz em xc c
  | 13, h => exact (Option.some.inj h : d13 = d) ▸ fd13 gz em xc c
  | 14, h => exact (Option.some.inj h : d14 = d) ▸ fd14 gz em xc c
  | 15, h => exact (Option.some.inj h : d15 = d) ▸ fd15 gz em xc c
  | 16, h => exact (Option.some.inj h : d16 = d) ▸ fd16 gz em xc c
  | 17, h => exact (Option.some.inj h : d17 = d) ▸ fd17 gz em xc c
  | 18, h => exact (Option.some.inj h : d18 = d) ▸ fd18 gz em xc c
  | 19, h => exact (Option.some.inj h : d19 = d) ▸ fd19 gz em xc c
  | k + 20, h => exact absurd (show tb (k + 20) = some d from h) (by unfold tb; rw [List.getElem?_eq_none (by simp [TB])]; simp)
theorem facts {f : Addr} (KX : K.In h) (G : h.Ns mainGlobals mg) (hfa : mg ("law" : Str) = some (.ref f)) (c : He.SaysD faD fnD K) (x : exF K = true) :
    ∃ fd : FuncData, (∀ (s : Shared) (v : Value), BindsTo s fd ⟨[v], []⟩ [("script", v)]) ∧ ∀ base : Heap, FnOk P w K mg base (CXe P) 42 f fd ["script"] (spF (ZZ P w K (faF K) (xaF K) mg base) 40 19) := by
  obtain ⟨fd, F⟩ := c.def_ 19 (d := dd19) rfl
  have F : FunD K "law" "law" (defArgs st19) (defBody st19) sc19 [] [] (He.ga K "law") fd := F
  have e := hfa.symm.trans (He.glo_ok KX G (x := "law") (c.facts (List.mem_append_left _ (List.mem_map_of_mem (List.mem_of_getElem? fn_19)))))
  cases e
  have b := FunD.bindsA (ps := ["script"]) F fun _ _ _ _ _ _ us hl => match us, hl with | [_], _ => rfl
  refine ⟨fd, fun s v => b s [v] rfl, fun base => ?_⟩
  have gz := good (P := P) (w := w) (base := base) KX G c
  have xc := xcs (P := P) (w := w) (mg := mg) (base := base) c x
  exact fn_cx (fn_run (n := 39) (k := 19) (d := d19) (Z := ZZ P w K (faF K) (xaF K) mg base) rfl (fnD_all (all gz (em c) xc c) 39) F fs19 rfl rfl (hb19 gz (em c) xc)) fun _ _ _ _ _ _ z => ⟨w, z⟩
end
end K64
open PySem PySem.W PySem.Calls PyProof.Rows
theorem PySem.Challenge.cw_twowaytexts_k64_merges_by_signs_holds : PySem.Challenge.rw_twowaytexts_k64_merges_by_signs.Holds := by
  w_on; o_law
  refine HandSHeadRun.head_any (r := OpenLaw.row PySem.Challenge.rw_twowaytexts_k64_merges_by_signs) (q := view (OpenLaw.row PySem.Challenge.rw_twowaytexts_k64_merges_by_signs).prog [26]) (H := K64.hk) (ob := K64.ob) (M := 20000) (loose := K64.names) (d := HandSHeadRun.topDef (OpenLaw.row PySem.Challenge.rw_twowaytexts_k64_merges_by_signs).prog 26) (kwd := []) K64.ob_eq
    (by kernel_rfl) (fun s => by kernel_rfl) K64.run (by kernel_rfl) (by kernel_rfl) (by kernel_rfl) (by rfl) (by first | assumption | decide +kernel) (by decide +kernel) ⟨rfl, rfl, rfl, rfl, rfl, by decide +kernel⟩ ?hw ?hc
  case hw => w_witness2
  case hc =>
    refine L2.walk_ofE (l := PySem.Challenge.rw_twowaytexts_k64_merges_by_signs) (n := 63) (k := 42) (x := "script") (CX := T2.CXe (PySem.Challenge.rw_twowaytexts_k64_merges_by_signs).prog) rfl (by decide) (by kernel_rfl) ⟨rfl, by decide, by decide⟩ ?F T2.cxe_no
    intro w mg fa h Y G hmg0
    obtain ⟨K, KX, c⟩ := Y
    have hmg : mg ("law" : PySem.Str) = some (.ref fa) := by
      have e : (HandSHeadRun.topDef (OpenLaw.row PySem.Challenge.rw_twowaytexts_k64_merges_by_signs).prog 26).name = ("law" : PySem.Str) := by kernel_rfl
      rw [← e]
      exact hmg0
    obtain ⟨fd, hb, hF⟩ := K64.facts (P := (PySem.Challenge.rw_twowaytexts_k64_merges_by_signs).prog) (w := w) KX G hmg c.t.d c.more
    refine ⟨K, fd, T2.spF (K64.ZZ (PySem.Challenge.rw_twowaytexts_k64_merges_by_signs).prog w K (K64.faF K) (K64.xaF K) mg h) 40 19, KX, hb, fun H a ns hl _ hS => ?_, fun base _ _ => ?_⟩
    · obtain ⟨G', e⟩ := K64.law_true ns hl
      exact T2.law_sp hS e
    · exact hF base
end
