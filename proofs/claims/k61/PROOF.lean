import PyProof.Rows.All
import KE.DatumOrd
import KE.DataEq
import KE.SortData
import HandS.ForMost
import HandS.Exc
import HandS.TryMany
import HandS.Deep
import HandS.WordsExc
import HandS.ExcInit
import HandS.TupAny
import HandS.Zip
import HandS.Style
import KE.KDictKeyed
import HandS.IsInst
import HandS.Codes
import HandS.ExcField
import HandS.TryOnly
import HandS.CallLocal
import HandS.ExcOwn
import HandS.Comp
import HandS.Defaults
import KE.KStateDown
import HandS.Ends
import HandS.Head0
import HandS.Head1
import HandS.Head2
import HandS.HeadEnd
import HandS.HeadHook1
import HandS.HeadHook2
import HandS.HeadHook3
import HandS.HeadHook4
import PySem.Challenge.RW_twowaytexts_k61_edits_of_texts
section
set_option linter.all false
set_option autoImplicit false
set_option maxRecDepth 100000
/-! T2: a small language over plain values, with an abstract heap: values W, objects O, code E, S; what code does (ev, ex). -/
namespace T2
open PySem

/-- values: tuples, and lists that nobody changes any more, are plain; scr: a list that is but read (the script); ref: an object of the abstract heap; fn: a def of the table -/
inductive W where
  | non | bl (b : Bool) | int (i : Int) | str (x : List Nat)
  | tup (xs : List W) | lst (xs : List W) | scr (xs : List W) | ref (i : Nat) | fn (k : Nat)

/-- what may change -/
inductive O where
  | lst (xs : List W)
  | dct (kvs : List (W × W))

mutual
def W.beq : W → W → Bool
  | .non, .non => true
  | .bl a, .bl b => a == b
  | .int a, .int b => a == b
  | .str a, .str b => a == b
  | .tup a, .tup b => W.beqs a b
  | .lst a, .lst b => W.beqs a b
  | .scr a, .scr b => W.beqs a b
  | .ref a, .ref b => a == b
  | .fn a, .fn b => a == b
  | _, _ => false
def W.beqs : List W → List W → Bool
  | [], [] => true
  | x :: xs, y :: ys => W.beq x y && W.beqs xs ys
  | _, _ => false
end
mutual
theorem W.beq_iff : ∀ a b : W, W.beq a b = true ↔ a = b
  | .non, b => by cases b <;> simp [W.beq]
  | .bl a, b => by cases b <;> simp [W.beq]
  | .int a, b => by cases b <;> simp [W.beq]
  | .str a, b => by cases b <;> simp [W.beq]
  | .tup a, b => by
    cases b with
    | tup b => simp [W.beq, W.beqs_iff a b]
    | _ => simp [W.beq]
  | .lst a, b => by
    cases b with
    | lst b => simp [W.beq, W.beqs_iff a b]
    | _ => simp [W.beq]
  | .scr a, b => by
    cases b with
    | scr b => simp [W.beq, W.beqs_iff a b]
    | _ => simp [W.beq]
  | .ref a, b => by cases b <;> simp [W.beq]
  | .fn a, b => by cases b <;> simp [W.beq]
theorem W.beqs_iff : ∀ a b : List W, W.beqs a b = true ↔ a = b
  | [], b => by cases b <;> simp [W.beqs]
  | x :: xs, b => by
    cases b with
    | nil => simp [W.beqs]
    | cons y ys => simp [W.beqs, W.beq_iff x y, W.beqs_iff xs ys]
end
instance : DecidableEq W := fun a b => decidable_of_iff _ (W.beq_iff a b)
instance : Inhabited W := ⟨.non⟩

/-! ### values as data -/
mutual
/-- as the library's data; refs and defs are none -/
def W.d : W → PyData
  | .non => .none
  | .bl b => .bool b
  | .int i => .int i
  | .str x => .str ⟨x.toArray⟩
  | .tup xs => .tuple (W.ds xs)
  | .lst xs => .list (W.ds xs)
  | .scr _ => .dict []
  | .ref _ => .dict []
  | .fn _ => .dict []
def W.ds : List W → List PyData
  | [] => []
  | x :: xs => W.d x :: W.ds xs
end
theorem W.ds_map (xs : List W) : W.ds xs = xs.map W.d := by
  induction xs with
  | nil => rfl
  | cons x xs ih => rw [W.ds, ih, List.map_cons]
mutual
/-- no ref and no def within -/
def W.pl : W → Bool
  | .non | .bl _ | .int _ | .str _ => true
  | .tup xs | .lst xs => W.pls xs
  | .scr _ | .ref _ | .fn _ => false
def W.pls : List W → Bool
  | [] => true
  | x :: xs => W.pl x && W.pls xs
end
theorem W.pls_all (xs : List W) : W.pls xs = xs.all W.pl := by
  induction xs with
  | nil => rfl
  | cons x xs ih => rw [W.pls, ih, List.all_cons]
mutual
/-- no ref within (defs may be) -/
def W.nr : W → Bool
  | .non | .bl _ | .int _ | .str _ | .fn _ => true
  | .tup xs | .lst xs | .scr xs => W.nrs xs
  | .ref _ => false
def W.nrs : List W → Bool
  | [] => true
  | x :: xs => W.nr x && W.nrs xs
end
theorem W.nrs_all (xs : List W) : W.nrs xs = xs.all W.nr := by
  induction xs with
  | nil => rfl
  | cons x xs ih => rw [W.nrs, ih, List.all_cons]
mutual
def W.dep : W → Nat
  | .tup xs | .lst xs => W.deps xs + 1
  | _ => 0
def W.deps : List W → Nat
  | [] => 0
  | x :: xs => max (W.dep x) (W.deps xs)
end
mutual
/-- Python's == of plain values -/
def W.eq : W → W → Bool
  | .non, .non => true
  | .bl a, .bl b => a == b
  | .bl a, .int j => (if a then 1 else 0) == j
  | .int i, .bl b => i == (if b then 1 else 0)
  | .int i, .int j => i == j
  | .str x, .str y => x == y
  | .lst xs, .lst ys => W.eqs xs ys
  | .tup xs, .tup ys => W.eqs xs ys
  | _, _ => false
def W.eqs : List W → List W → Bool
  | [], [] => true
  | x :: xs, y :: ys => W.eq x y && W.eqs xs ys
  | _, _ => false
end
/-- Python's < of alike data -/
def W.lt (a b : W) : Bool := PySem.W.dataLt a.d b.d
def W.alike (a b : W) : Bool := PySem.W.alike a.d b.d

/-! ### results -/
inductive Res (α : Type) where
  | ok (a : α) (G : List O)
  | exc (c : Nat) (fs : List W) (G : List O)
  | stuck
def bnd {α β : Type} (r : Res α) (f : α → List O → Res β) : Res β :=
  match r with
  | .ok a G => f a G
  | .exc c fs G => .exc c fs G
  | .stuck => .stuck
@[simp] theorem bnd_ok {α β : Type} (a : α) (G : List O) (f : α → List O → Res β) : bnd (.ok a G) f = f a G := rfl
@[simp] theorem bnd_exc {α β : Type} (c : Nat) (fs : List W) (G : List O) (f : α → List O → Res β) : bnd (.exc c fs G) f = .exc c fs G := rfl
@[simp] theorem bnd_stuck {α β : Type} (f : α → List O → Res β) : bnd .stuck f = .stuck := rfl

/-- an error there is not served -/
def noX {α : Type} : Res α → Res α
  | .ok a G => .ok a G
  | _ => .stuck
@[simp] theorem noX_ok {α : Type} (a : α) (G : List O) : noX (.ok a G) = .ok a G := rfl
@[simp] theorem noX_exc {α : Type} (c : Nat) (fs : List W) (G : List O) : noX (.exc c fs G : Res α) = .stuck := rfl
@[simp] theorem noX_stuck {α : Type} : noX (.stuck : Res α) = .stuck := rfl
theorem noX_bnd {α β : Type} (r : Res α) (f : α → List O → Res β) : noX (bnd r f) = bnd (noX r) (fun a G => noX (f a G)) := by cases r <;> rfl
abbrev Sl := List (Option W)
/-- how a block ends -/
inductive Fl where
  | nx (sw : Sl) | rt (w : W) | bk (sw : Sl) | ct (sw : Sl)

/-! ### code -/
inductive BOp where
  | add | addI | sub | mul | fdiv | mod | pow | cat (m : Bool) | rep (m : Bool)
  deriving DecidableEq
inductive COp where
  | eq | ne | lt | le | gt | ge | isin | notin
  deriving DecidableEq
/-- kinds that isinstance asks -/
inductive Kd where
  | int | bool | str | tuple | list
  deriving DecidableEq
inductive Blt where
  | len | int | abs | min1 | max1 | min2 | max2 | sum | any | all | tuple | list (m : Bool) | sorted (m : Bool)
  deriving DecidableEq
inductive Bm where
  | append | extend | pop | popAt | join | count
  deriving DecidableEq
/-- how a def of the text is called: over the heap as it is; alone (its arguments are plain, what it made is read off); alone, and what it hands back is a new list of ours -/
inductive Cm where
  | shared | iso | new
  deriving DecidableEq
mutual
inductive E where
  | k (w : W) | v (i : Nat) | gf (k : Nat) | gk (k : Nat)
  | bin (o : BOp) (a b : E) | neg (a : E) | not (a : E)
  | cmp (o : COp) (a b : E) | isk (ng : Bool) (w : W) (a : E) | chn (o1 o2 : COp) (a b c : E)
  | and (a b : E) | or (a b : E) | ife (t a b : E)
  | tup (es : Es) | lst (m : Bool) (es : Es) | dct0
  | idx (a b : E) | slc (m : Bool) (a : E) (lo hi : Op)
  | call (m : Cm) (k : Nat) (es : Es) | cv (m : Cm) (i mx : Nat) (es : Es) | blt (b : Blt) (es : Es) | bm (b : Bm) (o : E) (es : Es)
  | isi (a : E) (ks : List Kd)
  | lc (m : Bool) (own : List Nat) (t : T) (it : It) (cd : Op) (e : E)
inductive Es where
  | nil | cons (e : E) (es : Es)
inductive Op where
  | no | yes (e : E)
inductive It where
  | seq (e : E) | rng1 (a : E) | rng2 (a b : E) | rng3 (a b c : E) | enum (e : E) | zip (a b : E)
inductive T where
  | nm (i : Nat) | tp (ts : Ts) | sub (o i : E)
inductive Ts where
  | nil | cons (t : T) (ts : Ts)
end
/-- an except suite: it hands back a constant, or the caught error's field, or goes on with the loop -/
inductive Hf where
  | retk (w : W) | retf (f : Nat) | cont
mutual
inductive S where
  | asg (t : T) (e : E) | aug (i : Nat) (o : BOp) (e : E) | exp (e : E) | ret (e : E) | ret0
  | ife (t : E) (a b : B) | whl (t : E) (b : B) | frr (t : T) (it : It) (b : B)
  | raise (c : Nat) (es : Es) | tri (b : B) (hs : List (Nat × Hf)) | pass | brk | cnt
inductive B where
  | nil | cons (s : S) (b : B)
end

/-! ### operations -/
/-- lists, strings and tuples are no longer than the model's line -/
def szOk (n : Nat) : Bool := decide (n ≤ 16777216)
def mkL (m : Bool) (ws : List W) (G : List O) : Res W :=
  if szOk ws.length then (if m then .ok (.ref G.length) (G ++ [.lst ws]) else .ok (.lst ws) G) else .stuck
/-- the items of a list that is ours to join -/
def getM (w : W) (G : List O) : Option (List W) :=
  match w with
  | .lst ws => some ws
  | .ref i => match G[i]? with
    | some (.lst ws) => some ws
    | _ => none
  | _ => none
/-- the items of a list -/
def getL (w : W) (G : List O) : Option (List W) :=
  match w with
  | .lst ws => some ws
  | .scr ws => some ws
  | .ref i => match G[i]? with
    | some (.lst ws) => some ws
    | _ => none
  | _ => none
/-- a list of the heap is read as it stands -/
def look (w : W) (G : List O) : W :=
  match w with
  | .scr ws => .lst ws
  | .ref i => match G[i]? with
    | some (.lst ws) => .lst ws
    | _ => w
  | _ => w
def mulOk (i j : Int) : Bool := decide (i.natAbs < 18446744073709551616) || decide (j.natAbs < 18446744073709551616)
def divOk (j : Int) : Bool := decide (j ≠ 0) && decide (j.natAbs < 1073741824)
def powOk (i j : Int) : Bool := decide (0 ≤ j) && decide (j.toNat ≤ 1000000) && decide (i.natAbs < 18446744073709551616)

def binW (o : BOp) (x y : W) (G : List O) : Res W :=
  match o with
  | .add => match x, y with
    | .int i, .int j => .ok (.int (i + j)) G
    | .str a, .str b => if szOk (a.length + b.length) then .ok (.str (a ++ b)) G else .stuck
    | .tup a, .tup b => if szOk (a.length + b.length) then .ok (.tup (a ++ b)) G else .stuck
    | _, _ => .stuck
  | .addI => match x, y with
    | .int i, .int j => .ok (.int (i + j)) G
    | .str a, .str b => if szOk (a.length + b.length) then .ok (.str (a ++ b)) G else .stuck
    | _, _ => .stuck
  | .sub => match x, y with
    | .int i, .int j => .ok (.int (i - j)) G
    | _, _ => .stuck
  | .mul => match x, y with
    | .int i, .int j => if mulOk i j then .ok (.int (i * j)) G else .stuck
    | _, _ => .stuck
  | .fdiv => match x, y with
    | .int i, .int j => if divOk j then .ok (.int (i.fdiv j)) G else .stuck
    | _, _ => .stuck
  | .mod => match x, y with
    | .int i, .int j => if decide (j ≠ 0) then .ok (.int (i.fmod j)) G else .stuck
    | _, _ => .stuck
  | .pow => match x, y with
    | .int i, .int j => if powOk i j then .ok (.int (i ^ j.toNat)) G else .stuck
    | _, _ => .stuck
  | .cat m => match getM x G, getM y G with
    | some a, some b => mkL m (a ++ b) G
    | _, _ => .stuck
  | .rep m => match getM x G, y with
    | some a, .int k => if decide (0 ≤ k) && decide (k.toNat ≤ 16777216) then mkL m (List.replicate k.toNat a).flatten G else .stuck
    | _, _ => match x, y with
      | .str a, .int k => if decide (0 ≤ k) && decide (k.toNat ≤ 16777216) && szOk (a.length * k.toNat) then .ok (.str (List.replicate k.toNat a).flatten) G else .stuck
      | _, _ => .stuck

/-- as look, for a comparison -/
def lookC (w : W) (G : List O) : W :=
  match w with
  | .ref i => match G[i]? with
    | some (.lst ws) => .lst ws
    | _ => w
  | _ => w
def cmpW (o : COp) (x y : W) (G : List O) : Res W :=
  let x := lookC x G
  let y := lookC y G
  match o with
  | .eq => if x.pl && y.pl && decide (min x.dep y.dep ≤ 100) then .ok (.bl (W.eq x y)) G else .stuck
  | .ne => if x.pl && y.pl && decide (min x.dep y.dep ≤ 100) then .ok (.bl (!W.eq x y)) G else .stuck
  | .lt => if x.pl && y.pl && decide (min x.dep y.dep ≤ 100) && W.alike x y && decide (x ≠ .non) then .ok (.bl (W.lt x y)) G else .stuck
  | .gt => if x.pl && y.pl && decide (min x.dep y.dep ≤ 100) && W.alike x y && decide (x ≠ .non) then .ok (.bl (W.lt y x)) G else .stuck
  | .le => if x.pl && y.pl && decide (min x.dep y.dep ≤ 100) && W.alike x y && decide (x ≠ .non) then .ok (.bl (!W.lt y x)) G else .stuck
  | .ge => if x.pl && y.pl && decide (min x.dep y.dep ≤ 100) && W.alike x y && decide (x ≠ .non) then .ok (.bl (!W.lt x y)) G else .stuck
  | .isin => match y with
    | .lst ys => if x.pl && W.pls ys && decide (min (W.deps ys) x.dep ≤ 100) then .ok (.bl (ys.any fun z => W.eq z x)) G else .stuck
    | .tup ys => if x.pl && W.pls ys && decide (min (W.deps ys) x.dep ≤ 100) then .ok (.bl (ys.any fun z => W.eq z x)) G else .stuck
    | .str ys => match x with
      | .str [c] => .ok (.bl (decide (c ∈ ys))) G
      | _ => .stuck
    | _ => .stuck
  | .notin => match y with
    | .lst ys => if x.pl && W.pls ys && decide (min (W.deps ys) x.dep ≤ 100) then .ok (.bl (!ys.any fun z => W.eq z x)) G else .stuck
    | .tup ys => if x.pl && W.pls ys && decide (min (W.deps ys) x.dep ≤ 100) then .ok (.bl (!ys.any fun z => W.eq z x)) G else .stuck
    | .str ys => match x with
      | .str [c] => .ok (.bl (!decide (c ∈ ys))) G
      | _ => .stuck
    | _ => .stuck

/-- xs[i], i of any sign -/
def atW {α : Type} (xs : List α) (i : Int) : Option α :=
  if 0 ≤ i then xs[i.toNat]? else if -(xs.length : Int) ≤ i then xs[(i + xs.length).toNat]? else none
def dget (kvs : List (W × W)) (k : W) : Option W := (kvs.find? fun p => decide (p.1 = k)).map (·.2)
/-- a key that is served: a tuple of ints and texts -/
def keyA : W → Bool
  | .int _ | .str _ => true
  | _ => false
def keyOk : W → Bool
  | .tup xs => xs.all keyA
  | _ => false
def idxW (x y : W) (G : List O) : Res W :=
  match look x G, y with
  | .lst xs, .int i => match atW xs i with
    | some w => .ok w G
    | none => .stuck
  | .tup xs, .int i => match atW xs i with
    | some w => .ok w G
    | none => .stuck
  | .str xs, .int i => if szOk xs.length then (match atW xs i with
    | some c => .ok (.str [c]) G
    | none => .stuck) else .stuck
  | .ref r, k => match G[r]? with
    | some (.dct kvs) => if keyOk k then (match dget kvs k with
      | some w => .ok w G
      | none => .stuck) else .stuck
    | _ => .stuck
  | _, _ => .stuck
/-- a bound of a slice -/
def clip (n : Nat) (i : Int) : Nat := if i < 0 then (i + (n : Int)).toNat else min i.toNat n
def cutW {α : Type} (xs : List α) (lo hi : Option Int) : List α :=
  let a := match lo with
    | none => 0
    | some i => clip xs.length i
  let b := match hi with
    | none => xs.length
    | some i => clip xs.length i
  (xs.drop a).take (b - a)
def slcW (m : Bool) (x : W) (lo hi : Option Int) (G : List O) : Res W :=
  match look x G with
  | .lst xs => mkL m (cutW xs lo hi) G
  | .tup xs => .ok (.tup (cutW xs lo hi)) G
  | .str xs => if szOk xs.length then .ok (.str (cutW xs lo hi)) G else .stuck
  | _ => .stuck

def ints? : List W → Option (List Int)
  | [] => some []
  | .int i :: xs => (ints? xs).map (i :: ·)
  | _ => none
def bls? : List W → Option (List Bool)
  | [] => some []
  | .bl i :: xs => (bls? xs).map (i :: ·)
  | _ => none
def strs? : List W → Option (List (List Nat))
  | [] => some []
  | .str i :: xs => (strs? xs).map (i :: ·)
  | _ => none
/-- every two can be compared, place by place -/
def allAlike : List W → Bool
  | [] => true
  | x :: xs => (x :: xs).all (fun y => W.alike x y && W.alike y x) && allAlike xs
def leastW (x : W) (xs : List W) : W := xs.foldl (fun a y => if W.lt y a then y else a) x
def mostW (x : W) (xs : List W) : W := xs.foldl (fun a y => if W.lt a y then y else a) x
def isTup : W → Bool
  | .tup (_ :: _) => true
  | _ => false
def isTup0 : W → Bool
  | .tup _ => true
  | _ => false
/-- what sorted takes -/
def sortable (xs : List W) : Bool := W.pls xs && decide (W.deps xs ≤ 100) && allAlike xs && (xs.all isTup || xs.all fun x => decide (x ≠ .non) && !isTup0 x)
def bltW (b : Blt) (ws : List W) (G : List O) : Res W :=
  match b, ws with
  | .len, [w] => match look w G with
    | .lst xs => .ok (.int xs.length) G
    | .tup xs => .ok (.int xs.length) G
    | .str xs => if szOk xs.length then .ok (.int xs.length) G else .stuck
    | _ => .stuck
  | .int, [w] => match w with
    | .int i => .ok (.int i) G
    | .bl b => .ok (.int (if b then 1 else 0)) G
    | _ => .stuck
  | .abs, [w] => match w with
    | .int i => .ok (.int (if i < 0 then -i else i)) G
    | _ => .stuck
  | .min1, [w] => match getL w G with
    | some (x :: xs) => if W.pls (x :: xs) && decide (W.deps (x :: xs) ≤ 100) && allAlike (x :: xs) && decide (x ≠ .non) then .ok (leastW x xs) G else .stuck
    | _ => .stuck
  | .max1, [w] => match getL w G with
    | some (x :: xs) => if W.pls (x :: xs) && decide (W.deps (x :: xs) ≤ 100) && allAlike (x :: xs) && decide (x ≠ .non) then .ok (mostW x xs) G else .stuck
    | _ => .stuck
  | .min2, [x, y] => match x, y with
    | .int i, .int j => .ok (.int (if j < i then j else i)) G
    | _, _ => .stuck
  | .max2, [x, y] => match x, y with
    | .int i, .int j => .ok (.int (if j > i then j else i)) G
    | _, _ => .stuck
  | .sum, [w] => match (getL w G).bind ints? with
    | some ns => .ok (.int ns.sum) G
    | none => .stuck
  | .any, [w] => match (getL w G).bind bls? with
    | some bs => .ok (.bl (bs.any id)) G
    | none => .stuck
  | .all, [w] => match (getL w G).bind bls? with
    | some bs => .ok (.bl (bs.all id)) G
    | none => .stuck
  | .tuple, [w] => match look w G with
    | .lst xs => .ok (.tup xs) G
    | .tup xs => .ok (.tup xs) G
    | _ => .stuck
  | .list m, [w] => match look w G with
    | .lst xs => mkL m xs G
    | .tup xs => mkL m xs G
    | _ => .stuck
  | .sorted m, [w] => match getL w G with
    | some xs => if sortable xs then mkL m (xs.mergeSort (PySem.W.dataLe false W.d)) G else .stuck
    | none => .stuck
  | _, _ => .stuck

def joinS (s : List Nat) : List (List Nat) → List Nat
  | [] => []
  | [x] => x
  | x :: y :: r => x ++ s ++ joinS s (y :: r)
def bmW (b : Bm) (o : W) (ws : List W) (G : List O) : Res W :=
  match b, o, ws with
  | .append, .ref i, [w] => match G[i]? with
    | some (.lst xs) => if decide (xs.length < 16777216) then .ok .non (G.set i (.lst (xs ++ [w]))) else .stuck
    | _ => .stuck
  | .extend, .ref i, [w] => match G[i]?, getM w G with
    | some (.lst xs), some ys => if szOk (xs.length + ys.length) then .ok .non (G.set i (.lst (xs ++ ys))) else .stuck
    | _, _ => .stuck
  | .pop, .ref i, [] => match G[i]? with
    | some (.lst xs) => match xs.getLast? with
      | some w => .ok w (G.set i (.lst xs.dropLast))
      | none => .stuck
    | _ => .stuck
  | .popAt, .ref i, [.int k] => match G[i]? with
    | some (.lst xs) => if decide (0 ≤ k) && decide (k.toNat < 4611686018427387904) then (match xs[k.toNat]? with
      | some w => .ok w (G.set i (.lst (xs.eraseIdx k.toNat)))
      | none => .stuck) else .stuck
    | _ => .stuck
  | .join, .str s, [w] => match (getL w G).bind strs? with
    | some xs => if szOk ((xs.map List.length).sum + xs.length * s.length) then .ok (.str (joinS s xs)) G else .stuck
    | none => .stuck
  | _, _, _ => .stuck

/-- the receiver, as soon as it is there -/
def rcv (b : Bm) (o : W) (G : List O) : Bool :=
  match b with
  | .join => match o with
    | .str _ => true
    | _ => false
  | _ => match o with
    | .ref i => match G[i]? with
      | some (.lst _) => true
      | _ => false
    | _ => false
def isKd : W → Kd → List O → Option Bool
  | .non, _, _ => some false
  | .bl _, .bool, _ | .bl _, .int, _ => some true
  | .bl _, _, _ => some false
  | .int _, .int, _ => some true
  | .int _, _, _ => some false
  | .str _, .str, _ => some true
  | .str _, _, _ => some false
  | .tup _, .tuple, _ => some true
  | .tup _, _, _ => some false
  | .lst _, .list, _ | .scr _, .list, _ => some true
  | .lst _, _, _ | .scr _, _, _ => some false
  | .ref i, k, G => match G[i]? with
    | some (.lst _) => some (decide (k = .list))
    | _ => none
  | .fn _, _, _ => none
def isKds (w : W) (G : List O) : List Kd → Option Bool
  | [] => some false
  | k :: ks => match isKd w k G with
    | some true => some true
    | some false => isKds w G ks
    | none => none

/-- o[i] = w -/
def setW (o i w : W) (G : List O) : Res Unit :=
  match o with
  | .ref r => match G[r]? with
    | some (.lst xs) => match i with
      | .int k => if 0 ≤ k then (if k.toNat < xs.length then .ok () (G.set r (.lst (xs.set k.toNat w))) else .stuck)
        else if -(xs.length : Int) ≤ k then .ok () (G.set r (.lst (xs.set (k + xs.length).toNat w))) else .stuck
      | _ => .stuck
    | some (.dct kvs) => if keyOk i && decide (kvs.length < 16777216) then
        .ok () (G.set r (.dct (if kvs.any (fun p => decide (p.1 = i)) then kvs.map (fun p => if p.1 = i then (p.1, w) else p) else kvs ++ [(i, w)])))
      else .stuck
    | _ => .stuck
  | _ => .stuck

/-! ### what is read off behind a call alone -/
mutual
def frz (G : List O) : W → Option W
  | .ref i => match G[i]? with
    | some (.lst ws) => if W.nrs ws then some (.lst ws) else none
    | _ => none
  | .tup ws => (frzs G ws).map .tup
  | .lst ws => (frzs G ws).map .lst
  | .scr _ => none
  | w => some w
def frzs (G : List O) : List W → Option (List W)
  | [] => some []
  | w :: ws => match frz G w, frzs G ws with
    | some a, some b => some (a :: b)
    | _, _ => none
end
/-- a call of a def -/
def callW (cl : Nat → List W → List O → Res W) (m : Cm) (k : Nat) (ws : List W) (G : List O) : Res W :=
  match m with
  | .shared => cl k ws G
  | .iso => if W.nrs ws then (match cl k ws [] with
    | .ok w G1 => match frz G1 w with
      | some w' => .ok w' G
      | none => .stuck
    | .exc c fs _ => if W.nrs fs then .exc c fs G else .stuck
    | .stuck => .stuck) else .stuck
  | .new => if W.nrs ws then (match cl k ws [] with
    | .ok (.ref i) G1 => match G1[i]? with
      | some (.lst xs) => if W.nrs xs then .ok (.ref G.length) (G ++ [.lst xs]) else .stuck
      | _ => .stuck
    | .exc c fs _ => if W.nrs fs then .exc c fs G else .stuck
    | _ => .stuck) else .stuck

/-! ### loops -/
/-- an iterable that has been evaluated: its items, and whether they may still be walked -/
structure Seq where
  items : List W
  own : Option (Nat × List W)
def Seq.ok (s : Seq) (G : List O) : Bool :=
  match s.own with
  | none => true
  | some (r, ws) => match G[r]? with
    | some (.lst xs) => decide (xs = ws)
    | _ => false
def forL (asg : W → Sl → List O → Res Sl) (body : Sl → List O → Res Fl) (s : Seq) : List W → Sl → List O → Res Fl
  | [], sw, G => if s.ok G then .ok (.nx sw) G else .stuck
  | x :: xs, sw, G => if s.ok G then bnd (noX (asg x sw G)) fun sw1 G1 => bnd (body sw1 G1) fun f G2 =>
      match f with
      | .nx sw2 => forL asg body s xs sw2 G2
      | .ct sw2 => forL asg body s xs sw2 G2
      | .bk sw2 => .ok (.nx sw2) G2
      | .rt w => .ok (.rt w) G2
    else .stuck
def whlL (t : Sl → List O → Res Bool) (body : Sl → List O → Res Fl) : Nat → Sl → List O → Res Fl
  | 0, _, _ => .stuck
  | n + 1, sw, G => bnd (t sw G) fun c G1 =>
    if c then bnd (body sw G1) fun f G2 =>
      match f with
      | .nx sw2 => whlL t body n sw2 G2
      | .ct sw2 => whlL t body n sw2 G2
      | .bk sw2 => .ok (.nx sw2) G2
      | .rt w => .ok (.rt w) G2
    else .ok (.nx sw) G1
/-- a comprehension's turns; an error within is not served -/
def lcL (asg : W → List O → Res Sl) (cd : Sl → List O → Res Bool) (e : Sl → List O → Res W) (s : Seq) : List W → List W → List O → Res (List W)
  | [], acc, G => if s.ok G then .ok acc G else .stuck
  | x :: xs, acc, G => if s.ok G && szOk (acc.length + 1) then
      bnd (noX (asg x G)) fun sw1 G1 => bnd (noX (cd sw1 G1)) fun c G2 =>
        if c then bnd (noX (e sw1 G2)) fun w G3 => lcL asg cd e s xs (acc ++ [w]) G3 else lcL asg cd e s xs acc G2
    else .stuck
def wipe (sw : Sl) : List Nat → Sl
  | [] => sw
  | i :: r => (wipe sw r).set i none
def rngL (a b : Int) : List W := (List.range (b - a).toNat).map fun i => W.int (a + (i : Nat))
def small (a : Int) : Bool := decide (a.natAbs < 4611686018427387904)
/-- a, a + c, .. ahead of b -/
def rng3L (a b c : Int) : List W :=
  if 0 < c then (List.range ((b - a + c - 1) / c).toNat).map fun i => W.int (a + (i : Nat) * c)
  else (List.range ((a - b + (-c) - 1) / (-c)).toNat).map fun i => W.int (a + (i : Nat) * c)
def seqOf (w : W) (G : List O) : Res Seq :=
  match w with
  | .lst xs => .ok ⟨xs, none⟩ G
  | .scr xs => .ok ⟨xs, none⟩ G
  | .tup xs => .ok ⟨xs, none⟩ G
  | .str xs => .ok ⟨xs.map fun c => .str [c], none⟩ G
  | .ref r => match G[r]? with
    | some (.lst xs) => .ok ⟨xs, some (r, xs)⟩ G
    | _ => .stuck
  | _ => .stuck

/-! ### what code does -/
section
variable (cl : Nat → List W → List O → Res W) (gk : Nat → W) (wf : Nat)
mutual
def ev : E → Sl → List O → Res W
  | .k w, _, G => .ok w G
  | .v i, sw, G => match sw[i]? with
    | some (some w) => .ok w G
    | _ => .stuck
  | .gf k, _, G => .ok (.fn k) G
  | .gk k, _, G => .ok (gk k) G
  | .bin o a b, sw, G => bnd (ev a sw G) fun x G1 => bnd (ev b sw G1) fun y G2 => binW o x y G2
  | .neg a, sw, G => bnd (ev a sw G) fun x G1 => match x with
    | .int i => .ok (.int (-i)) G1
    | _ => .stuck
  | .not a, sw, G => bnd (evT a sw G) fun c G1 => .ok (.bl (!c)) G1
  | .cmp o a b, sw, G => bnd (ev a sw G) fun x G1 => bnd (ev b sw G1) fun y G2 => cmpW o x y G2
  | .isk ng w a, sw, G => bnd (ev a sw G) fun x G1 => match w, x with
    | .non, .fn _ => .stuck
    | .non, x => .ok (.bl (decide (x = .non) != ng)) G1
    | .bl b, .bl c => .ok (.bl (decide (c = b) != ng)) G1
    | _, _ => .stuck
  | .chn o1 o2 a b c, sw, G => bnd (ev a sw G) fun x G1 => bnd (ev b sw G1) fun y G2 => bnd (cmpW o1 x y G2) fun r G3 =>
    match r with
    | .bl true => bnd (ev c sw G3) fun z G4 => cmpW o2 y z G4
    | .bl false => .ok (.bl false) G3
    | _ => .stuck
  | .and a b, sw, G => bnd (evT a sw G) fun c G1 => if c then bnd (evT b sw G1) fun d G2 => .ok (.bl d) G2 else .ok (.bl false) G1
  | .or a b, sw, G => bnd (evT a sw G) fun c G1 => if c then .ok (.bl true) G1 else bnd (evT b sw G1) fun d G2 => .ok (.bl d) G2
  | .ife t a b, sw, G => bnd (evT t sw G) fun c G1 => if c then ev a sw G1 else ev b sw G1
  | .tup es, sw, G => bnd (evs es sw G) fun ws G1 => if szOk ws.length then .ok (.tup ws) G1 else .stuck
  | .lst m es, sw, G => bnd (evs es sw G) fun ws G1 => mkL m ws G1
  | .dct0, _, G => .ok (.ref G.length) (G ++ [.dct []])
  | .idx a b, sw, G => bnd (ev a sw G) fun x G1 => bnd (ev b sw G1) fun y G2 => idxW x y G2
  | .slc m a lo hi, sw, G => bnd (ev a sw G) fun x G1 => bnd (evO lo sw G1) fun l G2 => bnd (evO hi sw G2) fun h G3 => slcW m x l h G3
  | .call m k es, sw, G => bnd (evs es sw G) fun ws G1 => callW cl m k ws G1
  | .cv m i mx es, sw, G => match sw[i]? with
    | some (some (.fn k)) => if k < mx then bnd (evs es sw G) fun ws G1 => callW cl m k ws G1 else .stuck
    | _ => .stuck
  | .blt b es, sw, G => bnd (evs es sw G) fun ws G1 => bltW b ws G1
  | .bm b o es, sw, G => bnd (ev o sw G) fun x G1 => if rcv b x G1 then bnd (evs es sw G1) fun ws G2 => bmW b x ws G2 else .stuck
  | .isi a ks, sw, G => bnd (ev a sw G) fun x G1 => match isKds x G1 ks with
    | some r => .ok (.bl r) G1
    | none => .stuck
  | .lc m own t it cd e, sw, G => bnd (evI it sw G) fun s G1 =>
    bnd (lcL (fun x G => asgT t x (wipe sw own) G) (fun sw1 G => evC cd sw1 G) (fun sw1 G => ev e sw1 G) s s.items [] G1) fun ws G2 => mkL m ws G2
/-- as a test: the value is a truth value -/
def evT : E → Sl → List O → Res Bool
  | .not a, sw, G => bnd (evT a sw G) fun c G1 => .ok (!c) G1
  | .and a b, sw, G => bnd (evT a sw G) fun c G1 => if c then evT b sw G1 else .ok false G1
  | .or a b, sw, G => bnd (evT a sw G) fun c G1 => if c then .ok true G1 else evT b sw G1
  | e, sw, G => bnd (ev e sw G) fun x G1 => match x with
    | .bl c => .ok c G1
    | _ => .stuck
def evs : Es → Sl → List O → Res (List W)
  | .nil, _, G => .ok [] G
  | .cons e es, sw, G => bnd (ev e sw G) fun x G1 => bnd (evs es sw G1) fun xs G2 => .ok (x :: xs) G2
def evO : Op → Sl → List O → Res (Option Int)
  | .no, _, G => .ok none G
  | .yes e, sw, G => bnd (ev e sw G) fun x G1 => match x with
    | .int i => .ok (some i) G1
    | _ => .stuck
/-- a comprehension's if -/
def evC : Op → Sl → List O → Res Bool
  | .no, _, G => .ok true G
  | .yes e, sw, G => evT e sw G
def evI : It → Sl → List O → Res Seq
  | .seq e, sw, G => bnd (ev e sw G) fun x G1 => seqOf x G1
  | .rng1 a, sw, G => bnd (ev a sw G) fun x G1 => match x with
    | .int j => if small j then .ok ⟨rngL 0 j, none⟩ G1 else .stuck
    | _ => .stuck
  | .rng2 a b, sw, G => bnd (ev a sw G) fun x G1 => bnd (ev b sw G1) fun y G2 => match x, y with
    | .int i, .int j => if small i && small j then .ok ⟨rngL i j, none⟩ G2 else .stuck
    | _, _ => .stuck
  | .rng3 a b c, sw, G => bnd (ev a sw G) fun x G1 => bnd (ev b sw G1) fun y G2 => bnd (ev c sw G2) fun z G3 => match x, y, z with
    | .int i, .int j, .int c => if small i && small j && decide (c = -1) then .ok ⟨rng3L i j c, none⟩ G3 else .stuck
    | _, _, _ => .stuck
  | .enum e, sw, G => bnd (ev e sw G) fun x G1 => match x with
    | .lst xs => .ok ⟨xs.zipIdx.map fun p => .tup [.int (p.2 : Nat), p.1], none⟩ G1
    | .ref r => match G1[r]? with
      | some (.lst xs) => .ok ⟨xs.zipIdx.map fun p => .tup [.int (p.2 : Nat), p.1], some (r, xs)⟩ G1
      | _ => .stuck
    | _ => .stuck
  | .zip a b, sw, G => bnd (ev a sw G) fun x G1 => bnd (ev b sw G1) fun y G2 => match x, y with
    | .tup xs, .tup ys => .ok ⟨(xs.zip ys).map fun p => .tup [p.1, p.2], none⟩ G2
    | .lst xs, .lst ys => .ok ⟨(xs.zip ys).map fun p => .tup [p.1, p.2], none⟩ G2
    | _, _ => .stuck
def asgT : T → W → Sl → List O → Res Sl
  | .nm i, w, sw, G => .ok (sw.set i (some w)) G
  | .tp ts, w, sw, G => match look w G with
    | .tup ws => asgTs ts ws sw G
    | .lst ws => asgTs ts ws sw G
    | _ => .stuck
  | .sub o i, w, sw, G => bnd (ev o sw G) fun x G1 => bnd (ev i sw G1) fun y G2 => bnd (setW x y w G2) fun _ G3 => .ok sw G3
def asgTs : Ts → List W → Sl → List O → Res Sl
  | .nil, [], sw, G => .ok sw G
  | .cons t ts, w :: ws, sw, G => bnd (asgT t w sw G) fun sw1 G1 => asgTs ts ws sw1 G1
  | _, _, _, _ => .stuck
end
def plainT : E → Bool
  | .not _ | .and _ _ | .or _ _ => false
  | _ => true
theorem evT_val {e : E} (h : plainT e = true) (sw : Sl) (G : List O) : evT cl gk e sw G = bnd (ev cl gk e sw G) fun x G1 => match x with
    | .bl c => .ok c G1
    | _ => .stuck := by
  cases e <;> first | (simp [plainT] at h; done) | simp only [evT]
theorem bnd_id {α : Type} (r : Res α) : (bnd r fun d G => .ok d G) = r := by cases r <;> rfl
theorem evT_ev : ∀ (e : E) (sw : Sl) (G : List O), evT cl gk e sw G = bnd (ev cl gk e sw G) fun x G1 => match x with
    | .bl c => .ok c G1
    | _ => .stuck := by
  intro e sw G
  cases e with
  | not a =>
    simp only [evT, ev]
    cases evT cl gk a sw G <;> rfl
  | and a b =>
    simp only [evT, ev]
    cases evT cl gk a sw G with
    | ok c G1 =>
      cases c with
      | true =>
        simp only [bnd_ok, if_true]
        cases evT cl gk b sw G1 <;> rfl
      | false => rfl
    | _ => rfl
  | or a b =>
    simp only [evT, ev]
    cases evT cl gk a sw G with
    | ok c G1 =>
      cases c with
      | false =>
        simp only [bnd_ok, if_false]
        cases evT cl gk b sw G1 <;> rfl
      | true => rfl
    | _ => rfl
  | _ => exact evT_val cl gk rfl sw G
/-- an except suite at its end -/
def evH : Hf → List W → Sl → List O → Res Fl
  | .retk w, _, _, G => .ok (.rt w) G
  | .retf f, fs, _, G => match fs[f]? with
    | some w => .ok (.rt w) G
    | none => .stuck
  | .cont, _, sw, G => .ok (.ct sw) G
def pickH : List (Nat × Hf) → Nat → Option Hf
  | [], _ => none
  | (c, h) :: r, d => if c = d then some h else pickH r d
mutual
def ex : S → Sl → List O → Res Fl
  | .asg t e, sw, G => bnd (ev cl gk e sw G) fun w G1 => bnd (noX (asgT cl gk t w sw G1)) fun sw1 G2 => .ok (.nx sw1) G2
  | .aug i o e, sw, G => match sw[i]? with
    | some (some x) => bnd (ev cl gk e sw G) fun y G1 => bnd (binW o x y G1) fun w G2 => .ok (.nx (sw.set i (some w))) G2
    | _ => .stuck
  | .exp e, sw, G => bnd (ev cl gk e sw G) fun _ G1 => .ok (.nx sw) G1
  | .ret e, sw, G => bnd (ev cl gk e sw G) fun w G1 => .ok (.rt w) G1
  | .ret0, _, G => .ok (.rt .non) G
  | .ife t a b, sw, G => bnd (evT cl gk t sw G) fun c G1 => if c then exB a sw G1 else exB b sw G1
  | .whl t b, sw, G => whlL (fun sw G => evT cl gk t sw G) (fun sw G => exB b sw G) wf sw G
  | .frr t it b, sw, G => bnd (evI cl gk it sw G) fun s G1 => forL (fun w sw G => asgT cl gk t w sw G) (fun sw G => exB b sw G) s s.items sw G1
  | .raise c es, sw, G => bnd (evs cl gk es sw G) fun ws G1 => .exc c ws G1
  | .tri b hs, sw, G => match exB b sw G with
    | .ok f G1 => .ok f G1
    | .exc c fs G1 => match pickH hs c with
      | some h => evH h fs sw G1
      | none => .exc c fs G1
    | .stuck => .stuck
  | .pass, sw, G => .ok (.nx sw) G
  | .brk, sw, G => .ok (.bk sw) G
  | .cnt, sw, G => .ok (.ct sw) G
def exB : B → Sl → List O → Res Fl
  | .nil, sw, G => .ok (.nx sw) G
  | .cons s b, sw, G => bnd (ex s sw G) fun f G1 => match f with
    | .nx sw1 => exB b sw1 G1
    | f => .ok f G1
end
end
/-- a def: how many slots, how many parameters, its block -/
structure Df where
  slots : Nat
  pars : Nat
  body : B
def runD (cl : Nat → List W → List O → Res W) (gk : Nat → W) (wf : Nat) (d : Df) (ws : List W) (G : List O) : Res W :=
  if ws.length = d.pars then
    match exB cl gk wf d.body (ws.map some ++ List.replicate (d.slots - d.pars) none) G with
    | .ok (.rt w) G1 => .ok w G1
    | .ok (.nx _) G1 => .ok .non G1
    | .ok _ _ => .stuck
    | .exc c fs G1 => .exc c fs G1
    | .stuck => .stuck
  else .stuck
/-- n calls within one another -/
def calls (tb : Nat → Option Df) (gk : Nat → W) (wf : Nat) : Nat → Nat → List W → List O → Res W
  | 0, _, _, _ => .stuck
  | n + 1, k, ws, G => match tb k with
    | some d => runD (calls tb gk wf n) gk wf d ws G
    | none => .stuck
end T2
end

section
set_option linter.all false
set_option autoImplicit false
set_option maxRecDepth 100000
set_option maxHeartbeats 1000000
/-! T2: how values and the abstract heap stand in the machine's tracked heap. -/
namespace T2
open PySem L2

/-- what is fixed through a law: the written part, where defs and exception classes stand -/
structure Ev0 where
  P : Program
  w : World
  K : PySem.W.Frag
  fa : Nat → Addr
  xa : Nat → Addr

/-- addresses: of the abstract heap's objects, by their numbers; of other objects that may change, which are not to be touched -/
structure Ad where
  l : List Addr
  m : List Addr
/-- a list nobody changes -/
def FzL (φ : Ad) (H : Hp) (a : Addr) (vs : List V) : Prop := a ∉ φ.l ∧ a ∉ φ.m ∧ H a = some (.lst vs)
/-- a list that is read; it may be one of the written part -/
def RdL (K : PySem.W.Frag) (φ : Ad) (H : Hp) (a : Addr) (vs : List V) : Prop :=
  (a ∉ φ.l ∧ a ∉ φ.m ∧ Rd H a (.lst vs)) ∨
    ∃ (o : Obj) (its : Array Value) (n : Nat), K.lookup a = some o ∧ o.cls = .type "list" ∧ o.dict = none ∧ o.data = .seq its n ∧ its.size ≤ sizeLine ∧ Vals vs its.toList
theorem RdL.sq {K : PySem.W.Frag} {φ : Ad} {H : Hp} {a : Addr} {vs : List V} (h : RdL K φ H a vs) : SqL K H a vs := by
  rcases h with ⟨_, _, h⟩ | h
  · exact .inl h
  · exact .inr h
theorem FzL.sq {K : PySem.W.Frag} {φ : Ad} {H : Hp} {a : Addr} {vs : List V} (h : FzL φ H a vs) : SqL K H a vs := .inl (.inl h.2.2)

mutual
inductive Sim (Z : Ev0) (φ : Ad) (H : Hp) : W → V → Prop where
  | non : Sim Z φ H .non .non
  | bl (b : Bool) : Sim Z φ H (.bl b) (.bl b)
  | int (i : Int) : Sim Z φ H (.int i) (.int i)
  | str (x : List Nat) : Sim Z φ H (.str x) (.str ⟨x.toArray⟩)
  | tup {a : Addr} {ws : List W} {vs : List V} : H a = some (.tup vs) → Sims Z φ H ws vs → Sim Z φ H (.tup ws) (.ref a)
  | lst {a : Addr} {ws : List W} {vs : List V} : FzL φ H a vs → Sims Z φ H ws vs → Sim Z φ H (.lst ws) (.ref a)
  | scr {a : Addr} {ws : List W} {vs : List V} : RdL Z.K φ H a vs → Sims Z φ H ws vs → Sim Z φ H (.scr ws) (.ref a)
  | ref {i : Nat} {a : Addr} : φ.l[i]? = some a → Sim Z φ H (.ref i) (.ref a)
  | fn (k : Nat) : Sim Z φ H (.fn k) (.ref (Z.fa k))
inductive Sims (Z : Ev0) (φ : Ad) (H : Hp) : List W → List V → Prop where
  | nil : Sims Z φ H [] []
  | cons {w : W} {ws : List W} {v : V} {vs : List V} : Sim Z φ H w v → Sims Z φ H ws vs → Sims Z φ H (w :: ws) (v :: vs)
end

/-- a key's place -/
def keyL : W → Option Key
  | .int i => some (.inl i)
  | .str x => some (.inr ⟨x.toArray⟩)
  | _ => none
def keysL : List W → Option (List Key)
  | [] => some []
  | x :: xs => match keyL x, keysL xs with
    | some k, some ks => some (k :: ks)
    | _, _ => none
def keyT : W → Option (List Key)
  | .tup xs => keysL xs
  | _ => none
/-- a dict's pairs -/
inductive DSim (Z : Ev0) (φ : Ad) (H : Hp) : List (W × W) → List (List Key × V) → Prop where
  | nil : DSim Z φ H [] []
  | cons {k w : W} {kk : List Key} {v : V} {r : List (W × W)} {q : List (List Key × V)} : keyT k = some kk → Sim Z φ H w v → DSim Z φ H r q → DSim Z φ H ((k, w) :: r) ((kk, v) :: q)

/-- the object at a is the abstract one -/
inductive OSim (Z : Ev0) (φ : Ad) (H : Hp) (a : Addr) : O → Prop where
  | lst {ws : List W} {vs : List V} : H a = some (.lst vs) → Sims Z φ H ws vs → OSim Z φ H a (.lst ws)
  | dct {kvs : List (W × W)} {ks : List (List Key × V)} : H a = some (.dT ks) → DSim Z φ H kvs ks → OSim Z φ H a (.dct kvs)

structure Rel (Z : Ev0) (φ : Ad) (G : List O) (H : Hp) : Prop where
  len : φ.l.length = G.length
  nd : φ.l.Nodup
  obj : ∀ (i : Nat) (a : Addr) (o : O), φ.l[i]? = some a → G[i]? = some o → OSim Z φ H a o
  ban : ∀ a ∈ φ.m, ∃ o, H a = some o ∧ (∀ vs, o ≠ .tup vs) ∧ ∀ ob u, o ≠ .frz ob u

/-- what a step leaves: new objects are new, all that is not ours stands -/
structure Fr (φ : Ad) (H : Hp) (φ' : Ad) (H' : Hp) : Prop where
  more : ∃ t, φ'.l = φ.l ++ t ∧ ∀ a ∈ t, H a = none
  same : (∀ a ∈ φ.m, a ∈ φ'.m) ∧ ∀ a ∈ φ'.m, a ∈ φ.m ∨ H a = none
  keep : ∀ b o, b ∉ φ.l → H b = some o → H' b = some o
  back : ∀ b, H' b = none → H b = none

section
variable {Z : Ev0} {φ φ' φ'' : Ad} {G G' : List O} {H H' H'' : Hp} {w : W} {v : V} {ws : List W} {vs : List V}
theorem Fr.refl : Fr φ H φ H := ⟨⟨[], by simp, by simp⟩, ⟨fun _ h => h, fun _ h => .inl h⟩, fun _ _ _ h => h, fun _ h => h⟩
theorem Fr.trans (a : Fr φ H φ' H') (b : Fr φ' H' φ'' H'') : Fr φ H φ'' H'' := by
  obtain ⟨t, et, n⟩ := a.more
  obtain ⟨u, eu, m⟩ := b.more
  refine ⟨⟨t ++ u, by rw [eu, et, List.append_assoc], fun x hx => ?_⟩, ⟨fun x hx => b.same.1 x (a.same.1 x hx), fun x hx => (b.same.2 x hx).elim (a.same.2 x) fun z => .inr (a.back x z)⟩, fun x o hx e => ?_, fun x h => a.back x (b.back x h)⟩
  · rcases List.mem_append.mp hx with hx | hx
    · exact n x hx
    · exact a.back x (m x hx)
  · refine b.keep x o (fun hm => ?_) (a.keep x o hx e)
    rw [et] at hm
    rcases List.mem_append.mp hm with hm | hm
    · exact hx hm
    · rw [n x hm] at e
      cases e
theorem Fr.out (a : Fr φ H φ' H') {x : Addr} {o : HO} (h : x ∉ φ.l) (e : H x = some o) : x ∉ φ'.l := by
  obtain ⟨t, et, n⟩ := a.more
  intro hm
  rw [et] at hm
  rcases List.mem_append.mp hm with hm | hm
  · exact h hm
  · rw [n x hm] at e
    cases e
theorem Fr.at (a : Fr φ H φ' H') {i : Nat} {x : Addr} (h : φ.l[i]? = some x) : φ'.l[i]? = some x := by
  obtain ⟨t, et, _⟩ := a.more
  rw [et, List.getElem?_append_left (List.getElem?_eq_some_iff.mp h).1]
  exact h
/-- all that is ours becomes another's -/
def Ad.shut (φ : Ad) : Ad := ⟨[], φ.l ++ φ.m⟩
/-- alone: nothing is ours -/
theorem Fr.alone {ψ : Ad} (a : Fr φ.shut H ψ H') : Fr φ H φ H' := ⟨⟨[], by simp, by simp⟩, ⟨fun _ h => h, fun _ h => .inl h⟩, fun b o _ e => a.keep b o (by simp [Ad.shut]) e, a.back⟩
/-- a new object that is not ours -/
theorem Fr.new {p : Addr} {o : HO} (h : H p = none) : Fr φ H φ (upd H p o) := by
  refine ⟨⟨[], by simp, by simp⟩, ⟨fun _ h => h, fun _ h => .inl h⟩, fun b u _ e => ?_, fun b e => ?_⟩
  · rw [upd_ne (ne_of_none e h)]
    exact e
  · by_cases hb : b = p
    · subst hb
      exact h
    · rw [upd_ne hb] at e
      exact e
def Ad.add (φ : Ad) (p : Addr) : Ad := ⟨φ.l ++ [p], φ.m⟩
/-- a new object of ours -/
theorem Fr.mine {p : Addr} {o : HO} (h : H p = none) : Fr φ H (φ.add p) (upd H p o) := by
  obtain ⟨_, _, k, b⟩ := Fr.new (φ := φ) (o := o) h
  exact ⟨⟨[p], rfl, by simpa using h⟩, ⟨fun _ h => h, fun _ h => .inl h⟩, k, b⟩
/-- one of ours is written -/
theorem Fr.put {p : Addr} {o : HO} (h : p ∈ φ.l) : Fr φ H φ (upd H p o) := by
  refine ⟨⟨[], by simp, by simp⟩, ⟨fun _ h => h, fun _ h => .inl h⟩, fun b u hb e => ?_, fun b e => ?_⟩
  · rw [upd_ne (fun z => hb (by rw [z]; exact h))]
    exact e
  · by_cases hb : b = p
    · subst hb
      rw [upd_same] at e
      cases e
    · rw [upd_ne hb] at e
      exact e

/-! ### what stays -/
/-- of an address of ours: it is tracked, and no tuple and nothing frozen -/
def Ours (φ : Ad) (H : Hp) : Prop := ∀ a, a ∈ φ.l ∨ a ∈ φ.m → ∃ o, H a = some o ∧ (∀ vs, o ≠ .tup vs) ∧ ∀ ob u, o ≠ .frz ob u
theorem OSim.kind {a : Addr} {o : O} (h : OSim Z φ H a o) : ∃ u, H a = some u ∧ (∀ vs, u ≠ .tup vs) ∧ ∀ ob x, u ≠ .frz ob x := by
  cases h with
  | lst h1 _ => exact ⟨_, h1, fun _ z => (by cases z), fun _ _ z => (by cases z)⟩
  | dct h1 _ => exact ⟨_, h1, fun _ z => (by cases z), fun _ _ z => (by cases z)⟩
theorem Rel.get (r : Rel Z φ G H) {a : Addr} (ha : a ∈ φ.l) : ∃ (i : Nat) (o : O), φ.l[i]? = some a ∧ G[i]? = some o ∧ OSim Z φ H a o := by
  obtain ⟨i, hi, e⟩ := List.mem_iff_getElem.mp ha
  have hg : i < G.length := by rw [← r.len]; exact hi
  exact ⟨i, G[i], by rw [← e]; simp, by simp, r.obj i a G[i] (by rw [← e]; simp) (by simp)⟩
theorem Rel.ours (r : Rel Z φ G H) : Ours φ H := fun a ha => by
  rcases ha with ha | ha
  · obtain ⟨i, o, _, _, h⟩ := r.get ha
    exact h.kind
  · exact r.ban a ha
theorem Ours.shut (o : Ours φ H) : Ours φ.shut H := fun a ha => o a (by simpa [Ad.shut] using ha)
theorem Rel.shut (r : Rel Z φ G H) : Rel Z φ.shut [] H := ⟨rfl, by simp [Ad.shut], fun i a o h => by simp [Ad.shut] at h, fun a ha => r.ours.shut a (.inr ha)⟩
theorem Fr.ban (f : Fr φ H φ' H') {a : Addr} {o : HO} (n : a ∉ φ.m) (e : H a = some o) : a ∉ φ'.m := fun hm => (f.same.2 a hm).elim n fun z => by
  rw [z] at e
  cases e
theorem rd_keep {a : Addr} {u : HO} (f : Fr φ H φ' H') (n : a ∉ φ.l) (h : Rd H a u) : Rd H' a u := by
  rcases h with h | ⟨o, h⟩
  · exact .inl (f.keep a _ n h)
  · exact .inr ⟨o, f.keep a _ n h⟩
theorem rd_out {a : Addr} (o : Ours φ H) {vs : List V} (h : Rd H a (.tup vs)) : a ∉ φ.l := fun hm => by
  obtain ⟨u, e, n1, n2⟩ := o a (.inl hm)
  rcases h with h | ⟨ob, h⟩
  · rw [e] at h
    exact n1 vs (Option.some.inj h)
  · rw [e] at h
    exact n2 ob _ (Option.some.inj h)
theorem FzL.keep {a : Addr} (f : Fr φ H φ' H') (h : FzL φ H a vs) : FzL φ' H' a vs := ⟨f.out h.1 h.2.2, f.ban h.2.1 h.2.2, f.keep a _ h.1 h.2.2⟩
theorem RdL.keep {a : Addr} (f : Fr φ H φ' H') (h : RdL Z.K φ H a vs) : RdL Z.K φ' H' a vs := by
  rcases h with ⟨n, m, h⟩ | h
  · rcases h with h | ⟨o, h⟩
    · exact .inl ⟨f.out n h, f.ban m h, rd_keep f n (.inl h)⟩
    · exact .inl ⟨f.out n h, f.ban m h, rd_keep f n (.inr ⟨o, h⟩)⟩
  · exact .inr h
theorem tup_keep {a : Addr} (f : Fr φ H φ' H') (o : Ours φ H) (h : H a = some (.tup vs)) : H' a = some (.tup vs) := f.keep a _ (rd_out o (.inl h)) h
mutual
theorem Sim.keep (f : Fr φ H φ' H') (o : Ours φ H) : ∀ {w : W} {v : V}, Sim Z φ H w v → Sim Z φ' H' w v
  | _, _, .non => .non
  | _, _, .bl b => .bl b
  | _, _, .int i => .int i
  | _, _, .str x => .str x
  | _, _, .tup h s => .tup (tup_keep f o h) (Sims.keep f o s)
  | _, _, .lst h s => .lst (FzL.keep f h) (Sims.keep f o s)
  | _, _, .scr h s => .scr (RdL.keep (Z := Z) f h) (Sims.keep f o s)
  | _, _, .ref h => .ref (f.at h)
  | _, _, .fn k => .fn k
theorem Sims.keep (f : Fr φ H φ' H') (o : Ours φ H) : ∀ {ws : List W} {vs : List V}, Sims Z φ H ws vs → Sims Z φ' H' ws vs
  | _, _, .nil => .nil
  | _, _, .cons h s => .cons (Sim.keep f o h) (Sims.keep f o s)
end
theorem Sims.len : ∀ {ws : List W} {vs : List V}, Sims Z φ H ws vs → ws.length = vs.length
  | _, _, .nil => rfl
  | _, _, .cons _ s => by rw [List.length_cons, List.length_cons, s.len]
theorem Sims.get : ∀ {ws : List W} {vs : List V} {i : Nat} {w : W}, Sims Z φ H ws vs → ws[i]? = some w → ∃ v, vs[i]? = some v ∧ Sim Z φ H w v
  | _, _, _, _, .nil, e => by simp at e
  | _, _, 0, _, .cons h _, e => by
    simp at e
    subst e
    exact ⟨_, rfl, h⟩
  | _, _, i + 1, w, .cons _ s, e => by
    obtain ⟨v, h1, h2⟩ := Sims.get (i := i) (w := w) s (by simpa using e)
    exact ⟨v, by simpa using h1, h2⟩
theorem Sims.app : ∀ {ws us : List W} {vs xs : List V}, Sims Z φ H ws vs → Sims Z φ H us xs → Sims Z φ H (ws ++ us) (vs ++ xs)
  | _, _, _, _, .nil, s => s
  | _, _, _, _, .cons h r, s => .cons h (Sims.app r s)
theorem Sims.take : ∀ {ws : List W} {vs : List V} (n : Nat), Sims Z φ H ws vs → Sims Z φ H (ws.take n) (vs.take n)
  | _, _, 0, _ => .nil
  | _, _, _ + 1, .nil => .nil
  | _, _, n + 1, .cons h r => .cons h (Sims.take n r)
theorem Sims.drop : ∀ {ws : List W} {vs : List V} (n : Nat), Sims Z φ H ws vs → Sims Z φ H (ws.drop n) (vs.drop n)
  | _, _, 0, s => s
  | _, _, _ + 1, .nil => .nil
  | _, _, n + 1, .cons _ r => Sims.drop n r
theorem Sims.set {w : W} {v : V} (h : Sim Z φ H w v) : ∀ {ws : List W} {vs : List V} (n : Nat), Sims Z φ H ws vs → Sims Z φ H (ws.set n w) (vs.set n v)
  | _, _, _, .nil => .nil
  | _, _, 0, .cons _ r => .cons h r
  | _, _, n + 1, .cons h1 r => .cons h1 (Sims.set h n r)
theorem Sims.erase : ∀ {ws : List W} {vs : List V} (n : Nat), Sims Z φ H ws vs → Sims Z φ H (ws.eraseIdx n) (vs.eraseIdx n)
  | _, _, _, .nil => .nil
  | _, _, 0, .cons _ r => r
  | _, _, n + 1, .cons h1 r => .cons h1 (Sims.erase n r)
theorem Sims.dropLast {ws : List W} {vs : List V} (s : Sims Z φ H ws vs) : Sims Z φ H ws.dropLast vs.dropLast := by
  rw [List.dropLast_eq_take, List.dropLast_eq_take, s.len]
  exact s.take _
theorem Sims.ints : ∀ (ns : List Int), Sims Z φ H (ns.map .int) (ns.map .int)
  | [] => .nil
  | n :: ns => .cons (.int n) (Sims.ints ns)
theorem Sims.strs : ∀ (ns : List (List Nat)), Sims Z φ H (ns.map .str) (ns.map fun x => .str ⟨x.toArray⟩)
  | [] => .nil
  | n :: ns => .cons (.str n) (Sims.strs ns)
theorem Sims.of_ints : ∀ {ws : List W} {vs : List V} {ns : List Int}, Sims Z φ H ws vs → ints? ws = some ns → vs = ns.map .int
  | _, _, ns, .nil, e => by
    cases e
    rfl
  | _, _, ns, .cons (w := w) (ws := ws) h s, e => by
    cases w with
    | int i =>
      cases h
      cases q : ints? ws with
      | none => simp [ints?, q] at e
      | some ms =>
        simp [ints?, q] at e
        subst e
        rw [Sims.of_ints s q, List.map_cons]
    | _ => simp [ints?] at e
theorem Sims.of_bls : ∀ {ws : List W} {vs : List V} {ns : List Bool}, Sims Z φ H ws vs → bls? ws = some ns → vs = ns.map .bl
  | _, _, ns, .nil, e => by
    cases e
    rfl
  | _, _, ns, .cons (w := w) (ws := ws) h s, e => by
    cases w with
    | bl i =>
      cases h
      cases q : bls? ws with
      | none => simp [bls?, q] at e
      | some ms =>
        simp [bls?, q] at e
        subst e
        rw [Sims.of_bls s q, List.map_cons]
    | _ => simp [bls?] at e
theorem Sims.of_strs : ∀ {ws : List W} {vs : List V} {ns : List (List Nat)}, Sims Z φ H ws vs → strs? ws = some ns → vs = ns.map fun x => .str ⟨x.toArray⟩
  | _, _, ns, .nil, e => by
    cases e
    rfl
  | _, _, ns, .cons (w := w) (ws := ws) h s, e => by
    cases w with
    | str i =>
      cases h
      cases q : strs? ws with
      | none => simp [strs?, q] at e
      | some ms =>
        simp [strs?, q] at e
        subst e
        rw [Sims.of_strs s q, List.map_cons]
    | _ => simp [strs?] at e
/-- without refs: the addresses by number do not matter -/
theorem Sim.free {ψ : Ad} (hψ : ∀ a o, H a = some o → a ∉ φ.l → a ∉ φ.m → a ∉ ψ.l ∧ a ∉ ψ.m) : ∀ {w : W} {v : V}, w.nr = true → Sim Z φ H w v → Sim Z ψ H w v
  | .non, _, _, h => by cases h; exact .non
  | .bl b, _, _, h => by cases h; exact .bl b
  | .int i, _, _, h => by cases h; exact .int i
  | .str x, _, _, h => by cases h; exact .str x
  | .tup xs, _, n, h => by
    cases h with
    | tup h s => exact .tup h (go xs _ (by simpa [W.nr] using n) s)
  | .lst xs, _, n, h => by
    cases h with
    | lst h s =>
      obtain ⟨m1, m2⟩ := hψ _ _ h.2.2 h.1 h.2.1
      exact .lst ⟨m1, m2, h.2.2⟩ (go xs _ (by simpa [W.nr] using n) s)
  | .scr xs, _, n, h => by
    cases h with
    | scr h s =>
      refine .scr ?_ (go xs _ (by simpa [W.nr] using n) s)
      rcases h with ⟨n1, n2, h⟩ | h
      · obtain ⟨m1, m2⟩ : _ ∉ ψ.l ∧ _ ∉ ψ.m := by
          rcases h with h | ⟨o, h⟩
          · exact hψ _ _ h n1 n2
          · exact hψ _ _ h n1 n2
        exact .inl ⟨m1, m2, h⟩
      · exact .inr h
  | .ref _, _, n, _ => by simp [W.nr] at n
  | .fn k, _, _, h => by cases h; exact .fn k
where go : ∀ (ws : List W) (vs : List V), W.nrs ws = true → Sims Z φ H ws vs → Sims Z ψ H ws vs
  | [], _, _, h => by cases h; exact .nil
  | w :: ws, _, n, h => by
    have n' : w.nr = true ∧ W.nrs ws = true := by simpa [W.nrs] using n
    cases h with
    | cons h s => exact .cons (Sim.free hψ n'.1 h) (go ws _ n'.2 s)
theorem Sims.free {ψ : Ad} (hψ : ∀ a o, H a = some o → a ∉ φ.l → a ∉ φ.m → a ∉ ψ.l ∧ a ∉ ψ.m) {ws : List W} {vs : List V} (n : W.nrs ws = true) (h : Sims Z φ H ws vs) : Sims Z ψ H ws vs := Sim.free.go hψ ws vs n h
theorem Sims.shut {ws : List W} {vs : List V} (n : W.nrs ws = true) (h : Sims Z φ H ws vs) : Sims Z φ.shut H ws vs := h.free (fun a o _ h1 h2 => by simp [Ad.shut, h1, h2]) n
/-- back from a call alone -/
theorem Sim.back {ψ : Ad} (f : Fr φ.shut H ψ H') {w : W} {v : V} (n : w.nr = true) (h : Sim Z ψ H' w v) : Sim Z φ H' w v := h.free (fun a o _ h1 h2 => by
  have q : a ∉ φ.shut.m := fun z => h2 (f.same.1 a z)
  simpa [Ad.shut] using q) n

mutual
theorem Sim.move {ψ : Ad} (hr : ∀ (i : Nat) (a : Addr), φ.l[i]? = some a → ψ.l[i]? = some a) (hψ : ∀ a o, H a = some o → a ∉ φ.l → a ∉ φ.m → a ∉ ψ.l ∧ a ∉ ψ.m ∧ H' a = some o) (ht : ∀ a, (∃ vs, H a = some (.tup vs)) ∨ (∃ o u, H a = some (.frz o u)) → H' a = H a) :
    ∀ {w : W} {v : V}, Sim Z φ H w v → Sim Z ψ H' w v
  | _, _, .non => .non
  | _, _, .bl b => .bl b
  | _, _, .int i => .int i
  | _, _, .str x => .str x
  | _, _, .tup h s => .tup ((ht _ (.inl ⟨_, h⟩)).trans h) (Sims.move hr hψ ht s)
  | _, _, .lst h s => .lst ⟨(hψ _ _ h.2.2 h.1 h.2.1).1, (hψ _ _ h.2.2 h.1 h.2.1).2.1, (hψ _ _ h.2.2 h.1 h.2.1).2.2⟩ (Sims.move hr hψ ht s)
  | _, _, .scr h s => .scr (by
      rcases h with ⟨n1, n2, h | ⟨o, h⟩⟩ | h
      · obtain ⟨m1, m2, e⟩ := hψ _ _ h n1 n2
        exact .inl ⟨m1, m2, .inl e⟩
      · obtain ⟨m1, m2, e⟩ := hψ _ _ h n1 n2
        exact .inl ⟨m1, m2, .inr ⟨o, e⟩⟩
      · exact .inr h) (Sims.move hr hψ ht s)
  | _, _, .ref h => .ref (hr _ _ h)
  | _, _, .fn k => .fn k
theorem Sims.move {ψ : Ad} (hr : ∀ (i : Nat) (a : Addr), φ.l[i]? = some a → ψ.l[i]? = some a) (hψ : ∀ a o, H a = some o → a ∉ φ.l → a ∉ φ.m → a ∉ ψ.l ∧ a ∉ ψ.m ∧ H' a = some o) (ht : ∀ a, (∃ vs, H a = some (.tup vs)) ∨ (∃ o u, H a = some (.frz o u)) → H' a = H a) :
    ∀ {ws : List W} {vs : List V}, Sims Z φ H ws vs → Sims Z ψ H' ws vs
  | _, _, .nil => .nil
  | _, _, .cons h s => .cons (Sim.move hr hψ ht h) (Sims.move hr hψ ht s)
end

/-! ### the heap's steps -/
theorem DSim.keep (f : Fr φ H φ' H') (ou : Ours φ H) : ∀ {kvs : List (W × W)} {ks : List (List Key × V)}, DSim Z φ H kvs ks → DSim Z φ' H' kvs ks
  | _, _, .nil => .nil
  | _, _, .cons h s r => .cons h (s.keep f ou) (DSim.keep f ou r)
theorem DSim.move {ψ : Ad} (hr : ∀ (i : Nat) (a : Addr), φ.l[i]? = some a → ψ.l[i]? = some a) (hψ : ∀ a o, H a = some o → a ∉ φ.l → a ∉ φ.m → a ∉ ψ.l ∧ a ∉ ψ.m ∧ H' a = some o) (ht : ∀ a, (∃ vs, H a = some (.tup vs)) ∨ (∃ o u, H a = some (.frz o u)) → H' a = H a) :
    ∀ {kvs : List (W × W)} {ks : List (List Key × V)}, DSim Z φ H kvs ks → DSim Z ψ H' kvs ks
  | _, _, .nil => .nil
  | _, _, .cons h s r => .cons h (s.move hr hψ ht) (DSim.move hr hψ ht r)
theorem OSim.keep {a : Addr} {o : O} (f : Fr φ H φ' H') (ou : Ours φ H) (e : H' a = H a) (h : OSim Z φ H a o) : OSim Z φ' H' a o := by
  cases h with
  | lst h1 s => exact .lst (e.trans h1) (Sims.keep f ou s)
  | dct h1 s => exact .dct (e.trans h1) (s.keep f ou)
theorem Ours.keep (f : Fr φ H φ' H') (ou : Ours φ H) {a : Addr} (ha : a ∈ φ.m) (hn : a ∉ φ.l) : ∃ o, H' a = some o ∧ (∀ vs, o ≠ .tup vs) ∧ ∀ ob u, o ≠ .frz ob u := by
  obtain ⟨o, h1, h2⟩ := ou a (.inr ha)
  exact ⟨o, f.keep a o hn h1, h2⟩
end
end T2
end

section
set_option linter.all false
set_option autoImplicit false
set_option maxRecDepth 100000
set_option maxHeartbeats 1000000
/-! T2: what a result asks of the machine; operators. -/
namespace T2
open PySem L2
section
variable {Z : Ev0} {φ φ' φ1 : Ad} {G G' G1 : List O} {H H' H1 : Hp} {w : W} {v : V} {ws : List W} {vs : List V}

/-! ### the heap's steps -/
theorem Rel.new {p : Addr} {o : HO} (r : Rel Z φ G H) (h : H p = none) : Rel Z φ G (upd H p o) := by
  have f : Fr φ H φ (upd H p o) := Fr.new h
  refine ⟨r.len, r.nd, fun i a ob h1 h2 => ?_, fun a ha => ?_⟩
  · have q := r.obj i a ob h1 h2
    obtain ⟨u, e, _⟩ := q.kind
    exact q.keep f r.ours (upd_ne (ne_of_none e h))
  · obtain ⟨u, e, n⟩ := r.ban a ha
    exact ⟨u, by rw [upd_ne (ne_of_none e h)]; exact e, n⟩
theorem Rel.add {p : Addr} {o : HO} {ob : O} (r : Rel Z φ G H) (h : H p = none) (q : OSim Z (φ.add p) (upd H p o) p ob) : Rel Z (φ.add p) (G ++ [ob]) (upd H p o) := by
  have f : Fr φ H (φ.add p) (upd H p o) := Fr.mine h
  have np : ∀ a, a ∈ φ.l → a ≠ p := fun a ha z => by
    obtain ⟨i, ob, _, _, q⟩ := r.get ha
    obtain ⟨u, e, _⟩ := q.kind
    rw [z, h] at e
    cases e
  refine ⟨by simp [Ad.add, r.len], ?_, fun i a ob' h1 h2 => ?_, fun a ha => ?_⟩
  · show (φ.l ++ [p]).Nodup
    rw [List.nodup_append]
    exact ⟨r.nd, by simp, fun a ha b hb => by
      have : b = p := by simpa using hb
      rw [this]
      exact np a ha⟩
  · have h1 : (φ.l ++ [p])[i]? = some a := h1
    by_cases hi : i < φ.l.length
    · rw [List.getElem?_append_left hi] at h1
      rw [List.getElem?_append_left (by rw [← r.len]; exact hi)] at h2
      exact (r.obj i a ob' h1 h2).keep f r.ours (upd_ne (np a (List.mem_of_getElem? h1)))
    · rw [List.getElem?_append_right (by omega)] at h1
      rw [List.getElem?_append_right (by rw [← r.len]; omega)] at h2
      have e1 : i - φ.l.length = 0 := by
        rcases Nat.eq_zero_or_pos (i - φ.l.length) with z | z
        · exact z
        · rw [List.getElem?_eq_none (by simp; omega)] at h1
          cases h1
      rw [e1] at h1
      have e2 : i - G.length = 0 := by rw [← r.len]; exact e1
      rw [e2] at h2
      simp at h1 h2
      subst h1
      subst h2
      exact q
  · obtain ⟨u, e, n⟩ := r.ban a ha
    exact ⟨u, by rw [upd_ne (ne_of_none e h)]; exact e, n⟩
theorem Rel.put {i : Nat} {a : Addr} {o : HO} {ob : O} (r : Rel Z φ G H) (h : φ.l[i]? = some a) (hi : i < G.length) (ht : (∀ vs, o ≠ .tup vs) ∧ ∀ b u, o ≠ .frz b u) (q : OSim Z φ (upd H a o) a ob) : Rel Z φ (G.set i ob) (upd H a o) := by
  have ha := List.mem_of_getElem? h
  have f : Fr φ H φ (upd H a o) := Fr.put ha
  refine ⟨by rw [List.length_set]; exact r.len, r.nd, fun j b ob' h1 h2 => ?_, fun b hb => ?_⟩
  · by_cases e : j = i
    · subst e
      rw [h] at h1
      cases h1
      rw [List.getElem?_set_self hi] at h2
      cases h2
      exact q
    · rw [List.getElem?_set_ne (Ne.symm e)] at h2
      have ne : b ≠ a := fun z => e (by
        subst z
        obtain ⟨x1, y1⟩ := List.getElem?_eq_some_iff.mp h
        obtain ⟨x2, y2⟩ := List.getElem?_eq_some_iff.mp h1
        exact (List.getElem_inj r.nd).mp (y2.trans y1.symm))
      exact (r.obj j b ob' h1 h2).keep f r.ours (upd_ne ne)
  · obtain ⟨u, e, n⟩ := r.ban b hb
    by_cases z : b = a
    · subst z
      exact ⟨o, upd_same, ht⟩
    · exact ⟨u, by rw [upd_ne z]; exact e, n⟩
theorem Rel.at (r : Rel Z φ G H) {i : Nat} {o : O} (h : G[i]? = some o) : ∃ a, φ.l[i]? = some a ∧ a ∈ φ.l ∧ OSim Z φ H a o := by
  obtain ⟨hi, e⟩ := List.getElem?_eq_some_iff.mp h
  have hl : i < φ.l.length := by rw [r.len]; exact hi
  exact ⟨φ.l[i], by simp, List.getElem_mem _, r.obj i _ o (by simp) h⟩

/-! ### results -/
/-- an exception's own dict -/
def XSim (Z : Ev0) (xf : Nat → List Str) (xn : Nat) (φ : Ad) (H : Hp) (c : Nat) (fs : List W) (d : Option Addr) : Prop :=
  (c < xn ∧ fs.length = (xf c).length) ∧ (if xf c = [] then d = none else ∃ (dx : Addr) (vs : List V), d = some dx ∧ H dx = some (.xd ((xf c).zip vs)) ∧ Sims Z φ H fs vs)
end

/-- the names of the errors' fields -/
structure Ev1 extends Ev0 where
  xf : Nat → List Str
  xn : Nat

/-- what is asked where a result is due -/
def Run (Z : Ev1) (E : XK) {α β : Type} (R : Ad → Hp → α → β → Prop) (r : Res α) (φ : Ad) (H : Hp) (Q : β → Hp → Prop) : Prop :=
  match r with
  | .ok a G' => ∀ φ' H' b, Fr φ H φ' H' → Rel Z.toEv0 φ' G' H' → R φ' H' a b → Q b H'
  | .exc c fs G' => ∀ φ' H' d, Fr φ H φ' H' → Rel Z.toEv0 φ' G' H' → XSim Z.toEv0 Z.xf Z.xn φ' H' c fs d → E (.ref (Z.xa c)) d H'
  | .stuck => False
abbrev SimR (Z : Ev1) : Ad → Hp → W → V → Prop := fun φ H w v => Sim Z.toEv0 φ H w v
abbrev SimsR (Z : Ev1) : Ad → Hp → List W → List V → Prop := fun φ H w v => Sims Z.toEv0 φ H w v
abbrev EqR {α : Type} : Ad → Hp → α → α → Prop := fun _ _ a b => a = b

section
variable {Z : Ev1} {E : XK} {φ φ' φ1 : Ad} {G G' G1 : List O} {H H' H1 : Hp} {α β γ δ : Type} {R : Ad → Hp → α → β → Prop} {S : Ad → Hp → γ → δ → Prop} {r : Res α} {Q : β → Hp → Prop}
theorem Run.later (h : Run Z E R r φ H Q) (f : Fr φ H φ1 H1) : Run Z E R r φ1 H1 Q := by
  cases r with
  | ok a G => exact fun φ' H' b g rl q => h φ' H' b (f.trans g) rl q
  | exc c fs G => exact fun φ' H' d g rl q => h φ' H' d (f.trans g) rl q
  | stuck => exact h
theorem Run.imp {Q' : β → Hp → Prop} (h : Run Z E R r φ H Q) (hq : ∀ b H', Q b H' → Q' b H') : Run Z E R r φ H Q' := by
  cases r with
  | ok a G => exact fun φ' H' b g rl q => hq _ _ (h φ' H' b g rl q)
  | exc c fs G => exact h
  | stuck => exact h
theorem Run.bnd {f : α → List O → Res γ} {Q : δ → Hp → Prop} (h : Run Z E S (bnd r f) φ H Q) :
    Run Z E R r φ H (fun b H1 => ∃ φ1 G1 a, Fr φ H φ1 H1 ∧ Rel Z.toEv0 φ1 G1 H1 ∧ R φ1 H1 a b ∧ Run Z E S (f a G1) φ1 H1 Q) := by
  cases r with
  | ok a G => exact fun φ' H' b g rl q => ⟨φ', G, a, g, rl, q, h.later g⟩
  | exc c fs G => exact h
  | stuck => exact h
theorem Run.here {a : α} {b : β} (h : Run Z E R (.ok a G) φ H Q) (r : Rel Z.toEv0 φ G H) (q : R φ H a b) : Q b H := h φ H b .refl r q

theorem line_eq {n : Nat} (h : n ≤ 16777216) : n ≤ sizeLine := by rw [sizeLine_eq]; exact h
theorem Run.mkL {m : Bool} {ws : List W} {vs : List V} {Q : V → Hp → Prop} (h : Run Z E (SimR Z) (mkL m ws G) φ H Q) (r : Rel Z.toEv0 φ G H) (s : Sims Z.toEv0 φ H ws vs) :
    vs.length ≤ sizeLine ∧ ∀ p, H p = none → Q (.ref p) (upd H p (.lst vs)) := by
  unfold T2.mkL at h
  split at h
  · rename_i hz
    have hz' : ws.length ≤ 16777216 := by simpa [szOk] using hz
    refine ⟨by rw [← s.len]; exact line_eq hz', fun p hp => ?_⟩
    have o := r.ours
    cases m with
    | true =>
      have f : Fr φ H (φ.add p) (upd H p (.lst vs)) := Fr.mine hp
      refine h _ _ _ f (r.add hp (.lst upd_same (s.keep f o))) (.ref ?_)
      show (φ.l ++ [p])[G.length]? = some p
      rw [← r.len]
      simp
    | false =>
      have f : Fr φ H φ (upd H p (.lst vs)) := Fr.new hp
      refine h _ _ _ f (r.new hp) (.lst ⟨fun hm => ?_, fun hm => ?_, upd_same⟩ (s.keep f o))
      · obtain ⟨u, e, _⟩ := o p (.inl hm)
        rw [hp] at e
        cases e
      · obtain ⟨u, e, _⟩ := o p (.inr hm)
        rw [hp] at e
        cases e
  · exact h.elim

/-- the list that stands there -/
theorem getM_sim {w : W} {v : V} {ws : List W} (r : Rel Z.toEv0 φ G H) (s : Sim Z.toEv0 φ H w v) (h : getM w G = some ws) : ∃ a vs, v = .ref a ∧ H a = some (.lst vs) ∧ Sims Z.toEv0 φ H ws vs := by
  cases w with
  | lst xs =>
    cases h
    cases s with
    | lst f q => exact ⟨_, _, rfl, f.2.2, q⟩
  | ref i =>
    cases s with
    | ref hi =>
      cases hG : G[i]? with
      | none => simp [getM, hG] at h
      | some o =>
        cases o with
        | lst xs =>
          simp [getM, hG] at h
          subst h
          have q := r.obj i _ _ hi hG
          cases q with
          | lst h1 h2 => exact ⟨_, _, rfl, h1, h2⟩
        | dct kvs => simp [getM, hG] at h
  | _ => simp [getM] at h
theorem getL_sim {w : W} {v : V} {ws : List W} (r : Rel Z.toEv0 φ G H) (s : Sim Z.toEv0 φ H w v) (h : getL w G = some ws) : ∃ a vs, v = .ref a ∧ SqL Z.K H a vs ∧ Sims Z.toEv0 φ H ws vs := by
  cases w with
  | scr xs =>
    cases h
    cases s with
    | scr f q => exact ⟨_, _, rfl, f.sq, q⟩
  | lst xs =>
    obtain ⟨a, vs, e, h1, h2⟩ := getM_sim r s (show getM (.lst xs) G = some ws from h)
    exact ⟨a, vs, e, .of h1, h2⟩
  | ref i =>
    obtain ⟨a, vs, e, h1, h2⟩ := getM_sim r s (show getM (.ref i) G = some ws from h)
    exact ⟨a, vs, e, .of h1, h2⟩
  | _ => simp [getL] at h
/-- what is looked at -/
inductive Seen (Z : Ev1) (φ : Ad) (H : Hp) : W → V → Prop where
  | lst {a : Addr} {ws : List W} {vs : List V} : SqL Z.K H a vs → Sims Z.toEv0 φ H ws vs → Seen Z φ H (.lst ws) (.ref a)
  | tup {a : Addr} {ws : List W} {vs : List V} : H a = some (.tup vs) → Sims Z.toEv0 φ H ws vs → Seen Z φ H (.tup ws) (.ref a)
  | oth {w : W} {v : V} : Sim Z.toEv0 φ H w v → (∀ ws, w ≠ .lst ws) → (∀ ws, w ≠ .tup ws) → (∀ ws, w ≠ .scr ws) → Seen Z φ H w v
theorem look_sim {w : W} {v : V} (r : Rel Z.toEv0 φ G H) (s : Sim Z.toEv0 φ H w v) : Seen Z φ H (look w G) v := by
  cases w with
  | lst xs =>
    cases s with
    | lst f q => exact .lst f.sq q
  | scr xs =>
    cases s with
    | scr f q => exact .lst f.sq q
  | tup xs =>
    cases s with
    | tup f q => exact .tup f q
  | ref i =>
    cases hG : G[i]? with
    | none =>
      have : look (.ref i) G = .ref i := by simp [look, hG]
      rw [this]
      exact .oth s (fun _ z => by cases z) (fun _ z => by cases z) (fun _ z => by cases z)
    | some o =>
      cases o with
      | lst xs =>
        have : look (.ref i) G = .lst xs := by simp [look, hG]
        rw [this]
        obtain ⟨a, vs, e, h1, h2⟩ := getM_sim r s (show getM (.ref i) G = some xs by simp [getM, hG])
        subst e
        exact .lst (.of h1) h2
      | dct kvs =>
        have : look (.ref i) G = .ref i := by simp [look, hG]
        rw [this]
        exact .oth s (fun _ z => by cases z) (fun _ z => by cases z) (fun _ z => by cases z)
  | _ => exact .oth s (fun _ z => by cases z) (fun _ z => by cases z) (fun _ z => by cases z)

/-! ### data -/
mutual
theorem dp_of (K : PySem.W.Frag) (hK : K = Z.K) : ∀ {w : W} {v : V}, w.pl = true → Sim Z.toEv0 φ H w v → Dp K H v w.d
  | .non, _, _, h => by cases h; exact .non
  | .bl b, _, _, h => by cases h; exact .bl b
  | .int i, _, _, h => by cases h; exact .int i
  | .str x, _, _, h => by cases h; exact .str _
  | .tup xs, _, n, h => by
    cases h with
    | tup h s => exact .tup (.of h) (dps_of K hK (by simpa [W.pl] using n) s)
  | .lst xs, _, n, h => by
    cases h with
    | lst h s => exact .lst h.sq (dps_of K hK (by simpa [W.pl] using n) s)
  | .scr _, _, n, _ => by simp [W.pl] at n
  | .ref _, _, n, _ => by simp [W.pl] at n
  | .fn k, _, n, _ => by simp [W.pl] at n
theorem dps_of (K : PySem.W.Frag) (hK : K = Z.K) : ∀ {ws : List W} {vs : List V}, W.pls ws = true → Sims Z.toEv0 φ H ws vs → DpAll K H vs (W.ds ws)
  | [], _, _, h => by cases h; exact .nil
  | w :: ws, _, n, h => by
    have n' : w.pl = true ∧ W.pls ws = true := by simpa [W.pls] using n
    cases h with
    | cons h s => exact .cons (dp_of K hK n'.1 h) (dps_of K hK n'.2 s)
end
/-- as data, a list of the heap as it stands -/
theorem dpC {w : W} {v : V} (r : Rel Z.toEv0 φ G H) (s : Sim Z.toEv0 φ H w v) (n : (lookC w G).pl = true) : Dp Z.K H v (lookC w G).d := by
  cases w with
  | ref i =>
    cases hG : G[i]? with
    | none => simp [lookC, hG, W.pl] at n
    | some o =>
      cases o with
      | lst xs =>
        have e : lookC (.ref i) G = .lst xs := by simp [lookC, hG]
        rw [e] at n ⊢
        obtain ⟨a, vs, e, h1, h2⟩ := getM_sim r s (show getM (.ref i) G = some xs by simp [getM, hG])
        subst e
        exact .lst (.of h1) (dps_of Z.K rfl (by simpa [W.pl] using n) h2)
      | dct kvs => simp [lookC, hG, W.pl] at n
  | _ => exact dp_of Z.K rfl n s
mutual
theorem plain_d : ∀ w : W, w.pl = true → w.d.plain = true
  | .non, _ => rfl
  | .bl _, _ => rfl
  | .int _, _ => rfl
  | .str _, _ => rfl
  | .tup xs, n => by
    simp only [W.d, PyData.plain]
    exact plains_d xs (by simpa [W.pl] using n)
  | .lst xs, n => by
    simp only [W.d, PyData.plain]
    exact plains_d xs (by simpa [W.pl] using n)
  | .scr _, n => by simp [W.pl] at n
  | .ref _, n => by simp [W.pl] at n
  | .fn _, n => by simp [W.pl] at n
theorem plains_d : ∀ ws : List W, W.pls ws = true → PyData.plainAll (W.ds ws) = true
  | [], _ => rfl
  | w :: ws, n => by
    have n' : w.pl = true ∧ W.pls ws = true := by simpa [W.pls] using n
    simp only [W.ds, PyData.plainAll, plain_d w n'.1, plains_d ws n'.2, Bool.and_self]
end
mutual
theorem dep_d : ∀ w : W, w.pl = true → w.d.depth = w.dep
  | .non, _ => rfl
  | .bl _, _ => rfl
  | .int _, _ => rfl
  | .str _, _ => rfl
  | .tup xs, n => by
    simp only [W.d, PyData.depth, W.dep]
    rw [deps_d xs (by simpa [W.pl] using n)]
  | .lst xs, n => by
    simp only [W.d, PyData.depth, W.dep]
    rw [deps_d xs (by simpa [W.pl] using n)]
  | .scr _, n => by simp [W.pl] at n
  | .ref _, n => by simp [W.pl] at n
  | .fn _, n => by simp [W.pl] at n
theorem deps_d : ∀ ws : List W, W.pls ws = true → PyData.depthAll (W.ds ws) = W.deps ws
  | [], _ => rfl
  | w :: ws, n => by
    have n' : w.pl = true ∧ W.pls ws = true := by simpa [W.pls] using n
    simp only [W.ds, PyData.depthAll, W.deps, dep_d w n'.1, deps_d ws n'.2]
end
theorem str_beq (a b : List Nat) : ((⟨a.toArray⟩ : Str) == ⟨b.toArray⟩) = (a == b) := by
  by_cases h : a = b
  · subst h
    simp
  · have : (⟨a.toArray⟩ : Str) ≠ ⟨b.toArray⟩ := fun z => h (by simpa using z)
    rw [beq_eq_false_iff_ne.mpr h, beq_eq_false_iff_ne.mpr this]
mutual
theorem eq_d : ∀ a b : W, a.pl = true → b.pl = true → PyData.eqv a.d b.d = W.eq a b
  | .non, b, _, n => by cases b <;> first | rfl | simp [W.pl] at n
  | .bl a, b, _, n => by cases b <;> first | rfl | simp [W.pl] at n
  | .int a, b, _, n => by cases b <;> first | rfl | simp [W.pl] at n
  | .str a, b, _, n => by
    cases b with
    | str b => exact str_beq a b
    | scr _ => simp [W.pl] at n
    | ref _ => simp [W.pl] at n
    | fn _ => simp [W.pl] at n
    | _ => rfl
  | .tup xs, b, m, n => by
    cases b with
    | tup ys => exact eqs_d xs ys (by simpa [W.pl] using m) (by simpa [W.pl] using n)
    | scr _ => simp [W.pl] at n
    | ref _ => simp [W.pl] at n
    | fn _ => simp [W.pl] at n
    | _ => rfl
  | .lst xs, b, m, n => by
    cases b with
    | lst ys => exact eqs_d xs ys (by simpa [W.pl] using m) (by simpa [W.pl] using n)
    | scr _ => simp [W.pl] at n
    | ref _ => simp [W.pl] at n
    | fn _ => simp [W.pl] at n
    | _ => rfl
  | .scr _, _, m, _ => by simp [W.pl] at m
  | .ref _, _, m, _ => by simp [W.pl] at m
  | .fn _, _, m, _ => by simp [W.pl] at m
theorem eqs_d : ∀ a b : List W, W.pls a = true → W.pls b = true → PyData.eqvAll (W.ds a) (W.ds b) = W.eqs a b
  | [], [], _, _ => rfl
  | [], _ :: _, _, _ => rfl
  | _ :: _, [], _, _ => rfl
  | x :: xs, y :: ys, m, n => by
    have m' : x.pl = true ∧ W.pls xs = true := by simpa [W.pls] using m
    have n' : y.pl = true ∧ W.pls ys = true := by simpa [W.pls] using n
    simp only [W.ds, PyData.eqvAll, W.eqs, eq_d x y m'.1 n'.1, eqs_d xs ys m'.2 n'.2]
end
theorem any_d (x : W) (hx : x.pl = true) : ∀ ws : List W, W.pls ws = true → ((W.ds ws).any fun z => PyData.eqv z x.d) = ws.any fun z => W.eq z x
  | [], _ => rfl
  | w :: ws, n => by
    have n' : w.pl = true ∧ W.pls ws = true := by simpa [W.pls] using n
    simp only [W.ds, List.any_cons, eq_d w x n'.1 hx, any_d x hx ws n'.2]
end
end T2
end

section
set_option linter.all false
set_option autoImplicit false
set_option maxRecDepth 100000
set_option maxHeartbeats 2000000
/-! T2: operators, subscripts, slices, calls of built-ins, methods of built-in types, by values. -/
namespace T2
open PySem L2
/-- where code runs: the same written part, nothing handled, room for n calls -/
structure Gd (Z : Ev1) (n : Nat) (X : Cx) : Prop where
  P : X.prog = Z.P
  w : X.w = Z.w
  K : X.K = Z.K
  calm : X.calm = true
  room : Room (n + 2) X.A
section
variable {Z : Ev1} {n : Nat} {X : Cx}
theorem Gd.u (g : Gd Z n X) : X.A.units + 190 < cLine := by have := g.room.un; omega
/-- two values and what the language says of them -/
def r2S (Z : Ev1) (g : W → W → List O → Res W) : R2 := fun x y H Q => ∃ (E : XK) (φ : Ad) (G : List O) (wx wy : W), Rel Z.toEv0 φ G H ∧ Sim Z.toEv0 φ H wx x ∧ Sim Z.toEv0 φ H wy y ∧ Run Z E (SimR Z) (g wx wy G) φ H Q
theorem str_len (x : List Nat) : (⟨x.toArray⟩ : Str).length = x.length := by simp [Str.length]
theorem str_app (x y : List Nat) : (⟨x.toArray⟩ : Str) ++ ⟨y.toArray⟩ = ⟨(x ++ y).toArray⟩ := by
  show Str.append _ _ = _
  simp [Str.append]
theorem szOk_iff {k : Nat} : szOk k = true ↔ k ≤ 16777216 := by simp [szOk]

/-! ### + - * // % ** -/
theorem s_add (g : Gd Z n X) {op : Operator} (h1 : OpR X (binaryOp op) (rI0 fun i j => .int (i + j))) (h2 : OpR X (binaryOp op) (fun x y H Q => ∃ i j, x = .str i ∧ y = .str j ∧ i.length + j.length ≤ sizeLine ∧ Q (.str (i ++ j)) H)) (h3 : OpR X (binaryOp op) (rCatA X.K)) :
    OpR X (binaryOp op) (r2S Z (binW .add)) := by
  intro pins s σ H x y v u Q I rx ry ⟨E, φ, G, wx, wy, rl, sx, sy, run⟩
  cases sx with
  | int i =>
    cases sy with
    | int j => exact h1 pins s σ H _ _ v u Q I rx ry ⟨i, j, rfl, rfl, run.here rl (.int _)⟩
    | _ => exact run.elim
  | str a =>
    cases sy with
    | str b =>
      by_cases hz : szOk (a.length + b.length) = true
      · have run : Run Z E (SimR Z) (if szOk (a.length + b.length) then .ok (.str (a ++ b)) G else .stuck) φ H Q := run
        rw [if_pos hz] at run
        refine h2 pins s σ H _ _ v u Q I rx ry ⟨_, _, rfl, rfl, ?_, ?_⟩
        · rw [str_len, str_len]
          exact line_eq (szOk_iff.mp hz)
        · rw [str_app]
          exact run.here rl (.str _)
      · have run : Run Z E (SimR Z) (if szOk (a.length + b.length) then .ok (.str (a ++ b)) G else .stuck) φ H Q := run
        rw [if_neg hz] at run
        exact run.elim
    | _ => exact run.elim
  | @tup a ws vs t1 s1 =>
    cases sy with
    | @tup b us xs t2 s2 =>
      by_cases hz : szOk (ws.length + us.length) = true
      · have run : Run Z E (SimR Z) (if szOk (ws.length + us.length) then .ok (.tup (ws ++ us)) G else .stuck) φ H Q := run
        rw [if_pos hz] at run
        refine h3 pins s σ H _ _ v u Q I rx ry ⟨_, _, vs, xs, rfl, rfl, by rw [g.K]; exact .of t1, by rw [g.K]; exact .of t2, ?_, fun e => ?_, fun _ e => ?_, fun _ _ p hp => ?_⟩
        · rw [← s1.len, ← s2.len]
          exact line_eq (szOk_iff.mp hz)
        · subst e
          cases s1
          exact run.here rl (.tup t2 (by simpa using s2))
        · subst e
          cases s2
          exact run.here rl (.tup t1 (by simpa using s1))
        · have f : Fr φ H φ (upd H p (.tup (vs ++ xs))) := Fr.new hp
          exact run φ _ _ f (rl.new hp) (.tup upd_same ((s1.app s2).keep f rl.ours))
      · have run : Run Z E (SimR Z) (if szOk (ws.length + us.length) then .ok (.tup (ws ++ us)) G else .stuck) φ H Q := run
        rw [if_neg hz] at run
        exact run.elim
    | _ => exact run.elim
  | _ => exact run.elim
theorem s_addI {f : Value → Value → Sem Value} (h1 : OpR X f (rI0 fun i j => .int (i + j))) (h2 : OpR X f (fun x y H Q => ∃ i j, x = .str i ∧ y = .str j ∧ i.length + j.length ≤ sizeLine ∧ Q (.str (i ++ j)) H)) : OpR X f (r2S Z (binW .addI)) := by
  intro pins s σ H x y v u Q I rx ry ⟨E, φ, G, wx, wy, rl, sx, sy, run⟩
  cases sx with
  | int i =>
    cases sy with
    | int j => exact h1 pins s σ H _ _ v u Q I rx ry ⟨i, j, rfl, rfl, run.here rl (.int _)⟩
    | _ => exact run.elim
  | str a =>
    cases sy with
    | str b =>
      have run : Run Z E (SimR Z) (if szOk (a.length + b.length) then .ok (.str (a ++ b)) G else .stuck) φ H Q := run
      split at run
      · rename_i hz
        refine h2 pins s σ H _ _ v u Q I rx ry ⟨_, _, rfl, rfl, ?_, ?_⟩
        · rw [str_len, str_len]
          exact line_eq (szOk_iff.mp hz)
        · rw [str_app]
          exact run.here rl (.str _)
      · exact run.elim
    | _ => exact run.elim
  | _ => exact run.elim
theorem s_sub {f : Value → Value → Sem Value} (h1 : OpR X f (rI0 fun i j => .int (i - j))) : OpR X f (r2S Z (binW .sub)) := by
  intro pins s σ H x y v u Q I rx ry ⟨E, φ, G, wx, wy, rl, sx, sy, run⟩
  cases sx with
  | int i =>
    cases sy with
    | int j => exact h1 pins s σ H _ _ v u Q I rx ry ⟨i, j, rfl, rfl, run.here rl (.int _)⟩
    | _ => exact run.elim
  | _ => exact run.elim
theorem s_mul {f : Value → Value → Sem Value} (h1 : OpR X f (rI CMul fun i j => .int (i * j))) : OpR X f (r2S Z (binW .mul)) := by
  intro pins s σ H x y v u Q I rx ry ⟨E, φ, G, wx, wy, rl, sx, sy, run⟩
  cases sx with
  | int i =>
    cases sy with
    | int j =>
      have run : Run Z E (SimR Z) (if mulOk i j then .ok (.int (i * j)) G else .stuck) φ H Q := run
      split at run
      · rename_i hm
        refine h1 pins s σ H _ _ v u Q I rx ry ⟨i, j, rfl, rfl, ?_, run.here rl (.int _)⟩
        simp only [mulOk, Bool.or_eq_true, decide_eq_true_eq] at hm
        unfold CMul
        omega
      · exact run.elim
    | _ => exact run.elim
  | _ => exact run.elim
theorem s_fdiv : OpR X (binaryOp .FloorDiv) (r2S Z (binW .fdiv)) := by
  intro pins s σ H x y v u Q I rx ry ⟨E, φ, G, wx, wy, rl, sx, sy, run⟩
  cases sx with
  | int i =>
    cases sy with
    | int j =>
      have run : Run Z E (SimR Z) (if divOk j then .ok (.int (i.fdiv j)) G else .stuck) φ H Q := run
      split at run
      · rename_i hm
        refine op_fdivN pins s σ H _ _ v u Q I rx ry ⟨i, j, rfl, rfl, ?_, run.here rl (.int _)⟩
        simpa [divOk, CDivN] using hm
      · exact run.elim
    | _ => exact run.elim
  | _ => exact run.elim
theorem s_mod : OpR X (binaryOp .Mod) (r2S Z (binW .mod)) := by
  intro pins s σ H x y v u Q I rx ry ⟨E, φ, G, wx, wy, rl, sx, sy, run⟩
  cases sx with
  | int i =>
    cases sy with
    | int j =>
      have run : Run Z E (SimR Z) (if decide (j ≠ 0) then .ok (.int (i.fmod j)) G else .stuck) φ H Q := run
      split at run
      · rename_i hm
        exact op_modN pins s σ H _ _ v u Q I rx ry ⟨i, j, rfl, rfl, by simpa using hm, run.here rl (.int _)⟩
      · exact run.elim
    | _ => exact run.elim
  | _ => exact run.elim
theorem s_pow : OpR X (binaryOp .Pow) (r2S Z (binW .pow)) := by
  intro pins s σ H x y v u Q I rx ry ⟨E, φ, G, wx, wy, rl, sx, sy, run⟩
  cases sx with
  | int i =>
    cases sy with
    | int j =>
      have run : Run Z E (SimR Z) (if powOk i j then .ok (.int (i ^ j.toNat)) G else .stuck) φ H Q := run
      split at run
      · rename_i hm
        refine op_pow pins s σ H _ _ v u Q I rx ry ⟨i, j, rfl, rfl, ?_, run.here rl (.int _)⟩
        simp only [powOk, Bool.and_eq_true, decide_eq_true_eq] at hm
        exact ⟨hm.1.1, by omega, by omega⟩
      · exact run.elim
    | _ => exact run.elim
  | _ => exact run.elim
theorem s_cat {m : Bool} : OpR X (binaryOp .Add) (r2S Z (binW (.cat m))) := by
  intro pins s σ H x y v u Q I rx ry ⟨E, φ, G, wx, wy, rl, sx, sy, run⟩
  cases ha : getM wx G with
  | none => simp only [binW, ha] at run; exact run.elim
  | some xs =>
    cases hb : getM wy G with
    | none => simp only [binW, ha, hb] at run; exact run.elim
    | some ys =>
      simp only [binW, ha, hb] at run
      obtain ⟨a, vs, rfl, h1, q1⟩ := getM_sim rl sx ha
      obtain ⟨b, us, rfl, h2, q2⟩ := getM_sim rl sy hb
      obtain ⟨z, k⟩ := run.mkL rl (q1.app q2)
      exact op_cat pins s σ H _ _ v u Q I rx ry ⟨a, b, vs, us, rfl, rfl, h1, h2, by rw [List.length_append] at z; exact z, k⟩
theorem Sims.rep {φ : Ad} {H : Hp} {ws : List W} {vs : List V} (s : Sims Z.toEv0 φ H ws vs) : ∀ k : Nat, Sims Z.toEv0 φ H (List.replicate k ws).flatten (List.replicate k vs).flatten
  | 0 => .nil
  | k + 1 => by
    rw [List.replicate_succ, List.replicate_succ, List.flatten_cons, List.flatten_cons]
    exact s.app (Sims.rep s k)
theorem flat_arr (a : List Nat) : ∀ (k : Nat) (acc : Array Nat), (List.replicate k a.toArray).foldl (· ++ ·) acc = acc ++ (List.replicate k a).flatten.toArray
  | 0, acc => by simp
  | k + 1, acc => by
    rw [List.replicate_succ, List.foldl_cons, flat_arr a k, List.replicate_succ, List.flatten_cons]
    simp
theorem s_rep {m : Bool} : OpR X (binaryOp .Mult) (r2S Z (binW (.rep m))) := by
  intro pins s σ H x y v u Q I rx ry ⟨E, φ, G, wx, wy, rl, sx, sy, run⟩
  cases ha : getM wx G with
  | none =>
    simp only [binW, ha] at run
    cases sx with
    | str a =>
      cases sy with
      | int k =>
        simp only at run
        split at run
        · rename_i hk
          simp only [Bool.and_eq_true, decide_eq_true_eq] at hk
          obtain ⟨⟨k1, k2⟩, k3⟩ := hk
          have k3 := szOk_iff.mp k3
          obtain ⟨t, rfl⟩ := rx
          obtain ⟨t2, rfl⟩ := ry
          have hz : sizeLine = 16777216 := sizeLine_eq
          have q := run.here rl (.str _)
          refine P.mul_str (by simp; omega) (fun h1 h2 h3 => ?_) (fun h1 h2 => ?_) ?_
          · have hk0 : 0 < k := by omega
            have e1 : (2 ^ 63 - 1) / k < ((⟨a.toArray⟩ : Str).length : Int) := h3
            rw [str_len] at e1
            have e2 := Int.lt_ediv_add_one_mul_self (2 ^ 63 - 1) hk0
            have e3 : ((2 ^ 63 - 1) / k + 1) * k ≤ (a.length : Int) * k := Int.mul_le_mul_of_nonneg_right (by omega) (by omega)
            have e4 : ((a.length * k.toNat : Nat) : Int) = (a.length : Int) * k := by rw [Int.natCast_mul]; congr 1; omega
            omega
          · rw [str_len]
            have : ¬ (a.length * k.toNat > sizeLine) := by omega
            unfold Builtin.Str.tooLong
            exact decide_eq_false this
          · split
            · rename_i h1
              have : k = 0 := by omega
              subst this
              exact ⟨by decide, .str ⟨#[]⟩, H, I.tok _, ⟨_, rfl⟩, q⟩
            · split
              · rename_i h1 h2
                rw [str_len] at h2
                have e : (List.replicate k.toNat a).flatten = a := by
                  simp only [Bool.or_eq_true, beq_iff_eq] at h2
                  rcases h2 with h2 | h2
                  · subst h2
                    simp
                  · have : a = [] := List.length_eq_zero_iff.mp h2
                    subst this
                    simp
                rw [e] at q
                exact ⟨.str _, H, I, ⟨_, rfl⟩, q⟩
              · have e : (⟨(List.replicate k.toNat (⟨a.toArray⟩ : Str).cps).foldl (· ++ ·) #[]⟩ : Str) = ⟨(List.replicate k.toNat a).flatten.toArray⟩ := by
                  show (⟨(List.replicate k.toNat a.toArray).foldl (· ++ ·) #[]⟩ : Str) = _
                  rw [flat_arr]
                  simp
                rw [e]
                exact ⟨by rw [str_len]; rw [PyProof.Rows.lm_len_rep_flat, Nat.mul_comm]; simpa [Nat.mul_comm] using line_eq k3, .str _, H, I.tok _, ⟨_, rfl⟩, q⟩
        · exact run.elim
      | _ => exact run.elim
    | lst f q => simp [getM] at ha
    | _ => exact run.elim
  | some xs =>
    cases sy with
    | int k =>
      simp only [binW, ha] at run
      split at run
      · rename_i hk
        simp only [Bool.and_eq_true, decide_eq_true_eq] at hk
        obtain ⟨a, vs, rfl, h1, q1⟩ := getM_sim rl sx ha
        obtain ⟨z, kk⟩ := run.mkL rl (Sims.rep q1 k.toNat)
        refine op_rep pins s σ H _ _ v u Q I rx ry ⟨a, k, vs, rfl, rfl, h1, by omega, by omega, ?_, kk⟩
        rw [PyProof.Rows.lm_len_rep_flat, Nat.mul_comm] at z
        exact z
      · exact run.elim
    | _ =>
      simp only [binW, ha] at run
      cases wx <;> first | exact run.elim | simp [getM] at ha

/-! ### comparisons -/
theorem room_c {A : Around} {a b : Nat} (h : A.units + 190 < cLine) (z : min a b ≤ 100) : A.units + min a b < cLine := by omega
theorem room_c1 {A : Around} {a b : Nat} (h : A.units + 190 < cLine) (z : min a b ≤ 100) : A.units + 1 + min a b < cLine := by omega
theorem s_eq (g : Gd Z n X) : OpR X (compareOp .Eq) (r2S Z (cmpW .eq)) := by
  intro pins s σ H x y v u Q I rx ry ⟨E, φ, G, wx, wy, rl, sx, sy, run⟩
  simp only [cmpW] at run
  split at run
  · rename_i h
    simp only [Bool.and_eq_true, decide_eq_true_eq] at h
    obtain ⟨as, r1⟩ := Dp.reads I _ x v (by rw [g.K]; exact dpC rl sx h.1.1) rx
    obtain ⟨bs, r2⟩ := Dp.reads I _ y u (by rw [g.K]; exact dpC rl sy h.1.2) ry
    refine PySem.SeqAt.eq_plain r1 r2 (plain_d _ h.1.1) (plain_d _ h.1.2) (by rw [dep_d _ h.1.1, dep_d _ h.1.2]; exact room_c g.u h.2) ?_
    rw [eq_d _ _ h.1.1 h.1.2]
    exact ⟨.bl _, H, I, rfl, run.here rl (.bl _)⟩
  · exact run.elim
theorem s_ne (g : Gd Z n X) : OpR X (compareOp .NotEq) (r2S Z (cmpW .ne)) := by
  intro pins s σ H x y v u Q I rx ry ⟨E, φ, G, wx, wy, rl, sx, sy, run⟩
  simp only [cmpW] at run
  split at run
  · rename_i h
    simp only [Bool.and_eq_true, decide_eq_true_eq] at h
    obtain ⟨as, r1⟩ := Dp.reads I _ x v (by rw [g.K]; exact dpC rl sx h.1.1) rx
    obtain ⟨bs, r2⟩ := Dp.reads I _ y u (by rw [g.K]; exact dpC rl sy h.1.2) ry
    refine PySem.SeqAt.ne_plain r1 r2 (plain_d _ h.1.1) (plain_d _ h.1.2) (by rw [dep_d _ h.1.1, dep_d _ h.1.2]; exact room_c g.u h.2) ?_
    rw [eq_d _ _ h.1.1 h.1.2]
    exact ⟨.bl _, H, I, rfl, run.here rl (.bl _)⟩
  · exact run.elim
theorem non_d {w : W} (h : w.pl = true) (n : w ≠ .non) : w.d ≠ .none := by
  cases w <;> first | exact absurd rfl n | (intro z; cases z)
theorem s_lt (g : Gd Z n X) : OpR X (compareOp .Lt) (r2S Z (cmpW .lt)) := by
  intro pins s σ H x y v u Q I rx ry ⟨E, φ, G, wx, wy, rl, sx, sy, run⟩
  simp only [cmpW] at run
  split at run
  · rename_i h
    simp only [Bool.and_eq_true, decide_eq_true_eq] at h
    obtain ⟨⟨⟨⟨h1, h2⟩, h3⟩, h4⟩, h5⟩ := h
    obtain ⟨as, r1⟩ := Dp.reads I _ x v (by rw [g.K]; exact dpC rl sx h1) rx
    obtain ⟨bs, r2⟩ := Dp.reads I _ y u (by rw [g.K]; exact dpC rl sy h2) ry
    exact PySem.W.lt_data r1 r2 h4 (non_d h1 h5) (by rw [dep_d _ h1, dep_d _ h2]; exact room_c g.u h3) ⟨.bl _, H, I, rfl, run.here rl (.bl _)⟩
  · exact run.elim
theorem s_gt (g : Gd Z n X) : OpR X (compareOp .Gt) (r2S Z (cmpW .gt)) := by
  intro pins s σ H x y v u Q I rx ry ⟨E, φ, G, wx, wy, rl, sx, sy, run⟩
  simp only [cmpW] at run
  split at run
  · rename_i h
    simp only [Bool.and_eq_true, decide_eq_true_eq] at h
    obtain ⟨⟨⟨⟨h1, h2⟩, h3⟩, h4⟩, h5⟩ := h
    obtain ⟨as, r1⟩ := Dp.reads I _ x v (by rw [g.K]; exact dpC rl sx h1) rx
    obtain ⟨bs, r2⟩ := Dp.reads I _ y u (by rw [g.K]; exact dpC rl sy h2) ry
    exact PySem.W.gt_data r1 r2 h4 (non_d h1 h5) (by rw [dep_d _ h1, dep_d _ h2]; exact room_c g.u h3) ⟨.bl _, H, I, rfl, run.here rl (.bl _)⟩
  · exact run.elim
theorem s_le (g : Gd Z n X) : OpR X (compareOp .LtE) (r2S Z (cmpW .le)) := by
  intro pins s σ H x y v u Q I rx ry ⟨E, φ, G, wx, wy, rl, sx, sy, run⟩
  simp only [cmpW] at run
  split at run
  · rename_i h
    simp only [Bool.and_eq_true, decide_eq_true_eq] at h
    obtain ⟨⟨⟨⟨h1, h2⟩, h3⟩, h4⟩, h5⟩ := h
    obtain ⟨as, r1⟩ := Dp.reads I _ x v (by rw [g.K]; exact dpC rl sx h1) rx
    obtain ⟨bs, r2⟩ := Dp.reads I _ y u (by rw [g.K]; exact dpC rl sy h2) ry
    exact PySem.W.le_data r1 r2 h4 (non_d h1 h5) (by rw [dep_d _ h1, dep_d _ h2]; exact room_c g.u h3) ⟨.bl _, H, I, rfl, run.here rl (.bl _)⟩
  · exact run.elim
theorem s_ge (g : Gd Z n X) : OpR X (compareOp .GtE) (r2S Z (cmpW .ge)) := by
  intro pins s σ H x y v u Q I rx ry ⟨E, φ, G, wx, wy, rl, sx, sy, run⟩
  simp only [cmpW] at run
  split at run
  · rename_i h
    simp only [Bool.and_eq_true, decide_eq_true_eq] at h
    obtain ⟨⟨⟨⟨h1, h2⟩, h3⟩, h4⟩, h5⟩ := h
    obtain ⟨as, r1⟩ := Dp.reads I _ x v (by rw [g.K]; exact dpC rl sx h1) rx
    obtain ⟨bs, r2⟩ := Dp.reads I _ y u (by rw [g.K]; exact dpC rl sy h2) ry
    exact PySem.W.ge_data r1 r2 h4 (non_d h1 h5) (by rw [dep_d _ h1, dep_d _ h2]; exact room_c g.u h3) ⟨.bl _, H, I, rfl, run.here rl (.bl _)⟩
  · exact run.elim
/-- what stands behind in -/
inductive InC : W → Prop where
  | lst (ys : List W) : InC (.lst ys)
  | tup (ys : List W) : InC (.tup ys)
  | str (ys : List Nat) : InC (.str ys)
theorem lookC_str {w : W} {G : List O} {ys : List Nat} (h : lookC w G = .str ys) : w = .str ys := by
  cases w with
  | ref i =>
    cases hG : G[i]? with
    | none => simp [lookC, hG] at h
    | some o => cases o <;> simp [lookC, hG] at h
  | _ => simpa [lookC] using h
theorem s_in (g : Gd Z n X) : OpR X (compareOp .In) (r2S Z (cmpW .isin)) := by
  intro pins s σ H x y v u Q I rx ry ⟨E, φ, G, wx, wy, rl, sx, sy, run⟩
  simp only [cmpW] at run
  split at run
  · rename_i ys e
    split at run
    · rename_i h
      simp only [Bool.and_eq_true, decide_eq_true_eq] at h
      obtain ⟨⟨h1, h2⟩, h3⟩ := h
      obtain ⟨as, r1⟩ := Dp.reads I _ x v (by rw [g.K]; exact dpC rl sx h1) rx
      have d2 := dpC rl sy (by rw [e]; simpa [W.pl] using h2)
      rw [e] at d2
      obtain ⟨bs, r2⟩ := Dp.reads I _ y u (by rw [g.K]; exact d2) ry
      refine PySem.SeqAt.in_list_data r2 r1 (plains_d ys h2) (plain_d _ h1) (by rw [deps_d _ h2, dep_d _ h1]; exact room_c1 g.u h3) ?_
      rw [any_d _ h1 ys h2]
      exact ⟨.bl _, H, I, rfl, run.here rl (.bl _)⟩
    · exact run.elim
  · rename_i ys e
    split at run
    · rename_i h
      simp only [Bool.and_eq_true, decide_eq_true_eq] at h
      obtain ⟨⟨h1, h2⟩, h3⟩ := h
      obtain ⟨as, r1⟩ := Dp.reads I _ x v (by rw [g.K]; exact dpC rl sx h1) rx
      have d2 := dpC rl sy (by rw [e]; simpa [W.pl] using h2)
      rw [e] at d2
      obtain ⟨bs, r2⟩ := Dp.reads I _ y u (by rw [g.K]; exact d2) ry
      refine PySem.SeqAt.in_tuple_data r2 r1 (plains_d ys h2) (plain_d _ h1) (by rw [deps_d _ h2, dep_d _ h1]; exact room_c1 g.u h3) ?_
      rw [any_d _ h1 ys h2]
      exact ⟨.bl _, H, I, rfl, run.here rl (.bl _)⟩
    · exact run.elim
  · rename_i ys e
    have ey := lookC_str e
    subst ey
    split at run
    · rename_i c e2
      have ex := lookC_str e2
      subst ex
      cases sx
      cases sy
      exact op_in_sign pins s σ H _ _ v u Q I rx ry ⟨c, ⟨ys.toArray⟩, rfl, rfl, by simpa using run.here rl (.bl _)⟩
    · exact run.elim
  · exact run.elim
theorem s_notin (g : Gd Z n X) : OpR X (compareOp .NotIn) (r2S Z (cmpW .notin)) := by
  intro pins s σ H x y v u Q I rx ry ⟨E, φ, G, wx, wy, rl, sx, sy, run⟩
  simp only [cmpW] at run
  split at run
  · rename_i ys e
    split at run
    · rename_i h
      simp only [Bool.and_eq_true, decide_eq_true_eq] at h
      obtain ⟨⟨h1, h2⟩, h3⟩ := h
      obtain ⟨as, r1⟩ := Dp.reads I _ x v (by rw [g.K]; exact dpC rl sx h1) rx
      have d2 := dpC rl sy (by rw [e]; simpa [W.pl] using h2)
      rw [e] at d2
      obtain ⟨bs, r2⟩ := Dp.reads I _ y u (by rw [g.K]; exact d2) ry
      refine PySem.SeqAt.notIn_list_data r2 r1 (plains_d ys h2) (plain_d _ h1) (by rw [deps_d _ h2, dep_d _ h1]; exact room_c1 g.u h3) ?_
      rw [any_d _ h1 ys h2]
      exact ⟨.bl _, H, I, rfl, run.here rl (.bl _)⟩
    · exact run.elim
  · rename_i ys e
    split at run
    · rename_i h
      simp only [Bool.and_eq_true, decide_eq_true_eq] at h
      obtain ⟨⟨h1, h2⟩, h3⟩ := h
      obtain ⟨as, r1⟩ := Dp.reads I _ x v (by rw [g.K]; exact dpC rl sx h1) rx
      have d2 := dpC rl sy (by rw [e]; simpa [W.pl] using h2)
      rw [e] at d2
      obtain ⟨bs, r2⟩ := Dp.reads I _ y u (by rw [g.K]; exact d2) ry
      refine PySem.SeqAt.notIn_tuple_data r2 r1 (plains_d ys h2) (plain_d _ h1) (by rw [deps_d _ h2, dep_d _ h1]; exact room_c1 g.u h3) ?_
      rw [any_d _ h1 ys h2]
      exact ⟨.bl _, H, I, rfl, run.here rl (.bl _)⟩
    · exact run.elim
  · rename_i ys e
    have ey := lookC_str e
    subst ey
    split at run
    · rename_i c e2
      have ex := lookC_str e2
      subst ex
      cases sx
      cases sy
      exact op_notIn_sign pins s σ H _ _ v u Q I rx ry ⟨c, ⟨ys.toArray⟩, rfl, rfl, by simpa using run.here rl (.bl _)⟩
    · exact run.elim
  · exact run.elim
end
end T2
end

section
set_option linter.all false
set_option autoImplicit false
set_option maxRecDepth 100000
set_option maxHeartbeats 2000000
/-! T2: subscripts, slices, calls of built-ins, methods of built-in types, by values. -/
namespace T2
open PySem L2
section
variable {Z : Ev1} {n : Nat} {X : Cx}
/-! ### xs[i] -/
theorem atI_eq {α : Type} (xs : List α) (i : Int) : atI xs i = atW xs i := by
  unfold atI atW ixN
  by_cases h : 0 ≤ i
  · rw [if_pos h, if_pos h]
    by_cases h2 : i < xs.length
    · rw [if_pos h2]
      rfl
    · rw [if_neg h2]
      have : xs.length ≤ i.toNat := by omega
      rw [List.getElem?_eq_none this]
      rfl
  · rw [if_neg h, if_neg h]
    by_cases h2 : -(xs.length : Int) ≤ i
    · rw [if_pos h2, if_pos h2]
      rfl
    · rw [if_neg h2, if_neg h2]
      rfl
theorem atW_get {xs : List W} {vs : List V} {φ : Ad} {H : Hp} {i : Int} {w : W} (s : Sims Z.toEv0 φ H xs vs) (h : atW xs i = some w) : ∃ v, atI vs i = some v ∧ Sim Z.toEv0 φ H w v := by
  rw [atI_eq]
  unfold atW at h ⊢
  rw [← s.len]
  by_cases h0 : 0 ≤ i
  · rw [if_pos h0] at h ⊢
    exact s.get h
  · rw [if_neg h0] at h ⊢
    by_cases h2 : -(xs.length : Int) ≤ i
    · rw [if_pos h2] at h ⊢
      exact s.get h
    · rw [if_neg h2] at h
      cases h
/-- the subscript of a list, a tuple, a text; of a dict: h -/
theorem s_idx (g : Gd Z n X) (hd : IxR X (fun x y H Q => ∃ (E : XK) (φ : Ad) (G : List O) (r : Nat) (kvs : List (W × W)) (wy : W), G[r]? = some (.dct kvs) ∧ Rel Z.toEv0 φ G H ∧ Sim Z.toEv0 φ H (.ref r) x ∧ Sim Z.toEv0 φ H wy y ∧ Run Z E (SimR Z) (idxW (.ref r) wy G) φ H Q)) :
    IxR X (r2S Z idxW) := by
  intro value slice pins s σ H x y v u Q I rx ry ⟨E, φ, G, wx, wy, rl, sx, sy, run⟩ hs
  have lk := look_sim rl sx
  cases hl : look wx G with
  | lst xs =>
    rw [hl] at lk
    simp only [idxW, hl] at run
    cases lk with
    | lst h1 q1 =>
      cases sy with
      | int i =>
        cases hi : atW xs i with
        | none => simp only [hi] at run; exact run.elim
        | some w =>
          simp only [hi] at run
          obtain ⟨z, e, sz⟩ := atW_get q1 hi
          exact ix_list value slice pins s σ H _ _ v u Q I rx ry ⟨_, _, i, z, rfl, rfl, by rw [g.K]; exact h1, e, run.here rl sz⟩ hs
      | _ => exact run.elim
    | oth _ h _ _ => exact absurd rfl (h xs)
  | tup xs =>
    rw [hl] at lk
    simp only [idxW, hl] at run
    cases lk with
    | tup h1 q1 =>
      cases sy with
      | int i =>
        cases hi : atW xs i with
        | none => simp only [hi] at run; exact run.elim
        | some w =>
          simp only [hi] at run
          obtain ⟨z, e, sz⟩ := atW_get q1 hi
          exact ix_tup value slice pins s σ H _ _ v u Q I rx ry ⟨_, _, i, z, rfl, rfl, by rw [g.K]; exact .of h1, e, run.here rl sz⟩ hs
      | _ => exact run.elim
    | oth _ _ h _ => exact absurd rfl (h xs)
  | str xs =>
    rw [hl] at lk
    simp only [idxW, hl] at run
    cases lk with
    | oth h0 _ _ _ =>
      cases h0
      cases sy with
      | int i =>
        have run : Run Z E (SimR Z) (if szOk xs.length = true then (match atW xs i with | some c => Res.ok (W.str [c]) G | none => Res.stuck) else Res.stuck) φ H Q := run
        by_cases hz : szOk xs.length = true
        · rw [if_pos hz] at run
          cases hi : atW xs i with
          | none => simp only [hi] at run; exact run.elim
          | some c =>
            simp only [hi] at run
            exact ix_str value slice pins s σ H _ _ v u Q I rx ry ⟨_, i, c, rfl, rfl, by rw [str_len]; exact line_eq (szOk_iff.mp hz), by rw [atI_eq]; exact hi, run.here rl (.str [c])⟩ hs
        · rw [if_neg hz] at run
          exact run.elim
      | _ => exact run.elim
  | ref r =>
    have e : wx = .ref r := by
      cases wx with
      | ref i =>
        cases hG : G[i]? with
        | none => simpa [look, hG] using hl
        | some o => cases o <;> simp_all [look]
      | _ => simp [look] at hl
    subst e
    cases hG : G[r]? with
    | none => simp only [idxW, hl, hG] at run; exact run.elim
    | some o =>
      cases o with
      | lst xs => simp [look, hG] at hl
      | dct kvs => exact hd value slice pins s σ H x y v u Q I rx ry ⟨E, φ, G, r, kvs, wy, hG, rl, sx, sy, run⟩ hs
  | scr xs => simp only [idxW, hl] at run; exact run.elim
  | _ => simp only [idxW, hl] at run; exact run.elim
/-! ### slices -/
theorem clip_sIx (n d : Nat) (i : Int) : HT.sIx n d (some i) = clip n i := rfl
theorem cutW_len {α : Type} (xs : List α) (lo hi : Option Int) : (cutW xs lo hi).length ≤ xs.length := by
  unfold cutW
  rw [List.length_take, List.length_drop]
  omega
theorem cutW_eq {α : Type} (xs : List α) (lo hi : Option Int) : cutW xs lo hi = (xs.drop (HT.sIx xs.length 0 lo)).take (HT.sIx xs.length xs.length hi - HT.sIx xs.length 0 lo) := by
  cases lo <;> cases hi <;> rfl
theorem cutV_eq (xs : List V) (lo hi : Option Int) : cutV xs lo hi = cutW xs lo hi := (cutW_eq xs lo hi).symm
theorem Sims.cut {φ : Ad} {H : Hp} {ws : List W} {vs : List V} (s : Sims Z.toEv0 φ H ws vs) (lo hi : Option Int) : Sims Z.toEv0 φ H (cutW ws lo hi) (cutW vs lo hi) := by
  rw [cutW_eq, cutW_eq, s.len]
  exact (s.drop _).take _
theorem cut_all {α : Type} (xs : List α) (lo hi : Option Int) (h : HT.sIx xs.length 0 lo = 0 ∧ HT.sIx xs.length xs.length hi = xs.length) : cutW xs lo hi = xs := by
  rw [cutW_eq, h.1, h.2]
  simp
def rSlS' (Z : Ev1) (m : Bool) : V → Option Int → Option Int → Hp → VK → Prop := fun x lo hi H Q => ∃ (E : XK) (φ : Ad) (G : List O) (wx : W), Rel Z.toEv0 φ G H ∧ Sim Z.toEv0 φ H wx x ∧ Run Z E (SimR Z) (slcW m wx lo hi G) φ H Q
theorem s_slc (g : Gd Z n X) {m : Bool} : SlR X (rSlS' Z m) := by
  intro pins s σ H x v vl vu lo hi sl Q I rx hs pl pu ⟨E, φ, G, wx, rl, sx, run⟩
  have lk := look_sim rl sx
  cases hl : look wx G with
  | lst xs =>
    rw [hl] at lk
    simp only [slcW, hl] at run
    cases lk with
    | @lst a _ vs h1 q1 =>
      obtain ⟨z, k⟩ := run.mkL rl (q1.cut lo hi)
      exact sl_list pins s σ H _ v vl vu lo hi sl Q I rx hs pl pu ⟨a, vs, rfl, by rw [g.K]; exact h1, fun p hp => by rw [cutV_eq]; exact k p hp⟩
    | oth _ h _ _ => exact absurd rfl (h xs)
  | tup xs =>
    rw [hl] at lk
    simp only [slcW, hl] at run
    cases lk with
    | @tup a _ vs h1 q1 =>
      refine sl_tupA pins s σ H _ v vl vu lo hi sl Q I rx hs pl pu ⟨a, vs, rfl, by rw [g.K]; exact .of h1, fun e => ?_, fun _ p hp => ?_⟩
      · refine run.here rl (.tup h1 ?_)
        rw [cut_all xs lo hi (by rw [q1.len]; exact e)]
        exact q1
      · have f : Fr φ H φ (upd H p (.tup (cutV vs lo hi))) := Fr.new hp
        refine run φ _ _ f (rl.new hp) (.tup upd_same ?_)
        rw [cutV_eq]
        exact (q1.cut lo hi).keep f rl.ours
    | oth _ _ h _ => exact absurd rfl (h xs)
  | str xs =>
    rw [hl] at lk
    simp only [slcW, hl] at run
    cases lk with
    | oth h0 _ _ _ =>
      cases h0
      split at run
      · rename_i hz
        refine sl_str pins s σ H _ v vl vu lo hi sl Q I rx hs pl pu ⟨_, rfl, by rw [str_len]; exact line_eq (szOk_iff.mp hz), ?_⟩
        have e : cutS ⟨xs.toArray⟩ lo hi = ⟨(cutW xs lo hi).toArray⟩ := by
          unfold cutS
          rw [str_len, cutW_eq]
        rw [e]
        exact run.here rl (.str _)
      · exact run.elim
  | _ => simp only [slcW, hl] at run; exact run.elim

/-! ### built-ins -/
def rCS (Z : Ev1) (f : List W → List O → Res W) : List V → Hp → VK → Prop := fun xs H Q => ∃ (E : XK) (φ : Ad) (G : List O) (ws : List W), Rel Z.toEv0 φ G H ∧ Sims Z.toEv0 φ H ws xs ∧ Run Z E (SimR Z) (f ws G) φ H Q
theorem b_len (g : Gd Z n X) : CallR X (.builtin "len") (rCS Z (bltW .len)) := by
  intro pins s σ H xs us Q I r ⟨E, φ, G, ws, rl, ss, run⟩
  cases ss with
  | nil => exact run.elim
  | @cons w ws v vs s1 ss =>
    cases ss with
    | cons _ _ => exact run.elim
    | nil =>
      have lk := look_sim rl s1
      cases hl : look w G with
      | lst xs =>
        rw [hl] at lk
        simp only [bltW, hl] at run
        cases lk with
        | @lst a _ vs h1 q1 =>
          refine call_len pins s σ H _ us Q I r ⟨_, vs.length, rfl, .inl ⟨vs, by rw [g.K]; exact h1, rfl⟩, ?_⟩
          rw [← q1.len]
          exact run.here rl (.int _)
        | oth _ h _ _ => exact absurd rfl (h xs)
      | tup xs =>
        rw [hl] at lk
        simp only [bltW, hl] at run
        cases lk with
        | @tup a _ vs h1 q1 =>
          refine call_len pins s σ H _ us Q I r ⟨_, vs.length, rfl, .inr ⟨vs, by rw [g.K]; exact .of h1, rfl⟩, ?_⟩
          rw [← q1.len]
          exact run.here rl (.int _)
        | oth _ _ h _ => exact absurd rfl (h xs)
      | str xs =>
        rw [hl] at lk
        simp only [bltW, hl] at run
        cases lk with
        | oth h0 _ _ _ =>
          cases h0
          split at run
          · rename_i hz
            refine call_len pins s σ H _ us Q I r ⟨_, xs.length, rfl, ⟨by rw [str_len]; exact line_eq (szOk_iff.mp hz), (str_len xs).symm⟩, run.here rl (.int _)⟩
          · exact run.elim
      | _ => simp only [bltW, hl] at run; exact run.elim
theorem b_int : CallR X (.type "int") (rCS Z (bltW .int)) := by
  intro pins s σ H xs us Q I r ⟨E, φ, G, ws, rl, ss, run⟩
  cases ss with
  | nil => exact run.elim
  | @cons w ws v vs s1 ss =>
    cases ss with
    | cons _ _ => exact run.elim
    | nil =>
      cases s1 with
      | int i => exact call_int1 pins s σ H _ us Q I r (.inl ⟨i, rfl, run.here rl (.int _)⟩)
      | bl b => exact call_int1 pins s σ H _ us Q I r (.inr ⟨b, rfl, run.here rl (.int _)⟩)
      | _ => exact run.elim
theorem b_abs : CallR X (.builtin "abs") (rCS Z (bltW .abs)) := by
  intro pins s σ H xs us Q I r ⟨E, φ, G, ws, rl, ss, run⟩
  cases ss with
  | nil => exact run.elim
  | @cons w ws v vs s1 ss =>
    cases ss with
    | cons _ _ => exact run.elim
    | nil =>
      cases s1 with
      | int i => exact call_abs pins s σ H _ us Q I r ⟨i, rfl, run.here rl (.int _)⟩
      | _ => exact run.elim
theorem b_min2 (g : Gd Z n X) : CallR X (.builtin "min") (rCS Z (bltW .min2)) := by
  intro pins s σ H xs us Q I r ⟨E, φ, G, ws, rl, ss, run⟩
  cases ss with
  | nil => exact run.elim
  | @cons w ws v vs s1 ss =>
    cases ss with
    | nil => exact run.elim
    | @cons w2 ws v2 vs s2 ss =>
      cases ss with
      | cons _ _ => exact run.elim
      | nil =>
        cases s1 with
        | int i =>
          cases s2 with
          | int j => exact call_min2 g.calm pins s σ H _ us Q I r ⟨i, j, rfl, run.here rl (.int _)⟩
          | _ => exact run.elim
        | _ => exact run.elim
theorem b_max2 (g : Gd Z n X) : CallR X (.builtin "max") (rCS Z (bltW .max2)) := by
  intro pins s σ H xs us Q I r ⟨E, φ, G, ws, rl, ss, run⟩
  cases ss with
  | nil => exact run.elim
  | @cons w ws v vs s1 ss =>
    cases ss with
    | nil => exact run.elim
    | @cons w2 ws v2 vs s2 ss =>
      cases ss with
      | cons _ _ => exact run.elim
      | nil =>
        cases s1 with
        | int i =>
          cases s2 with
          | int j => exact call_max2 g.calm pins s σ H _ us Q I r ⟨i, j, rfl, run.here rl (.int _)⟩
          | _ => exact run.elim
        | _ => exact run.elim
/-- a call with one argument -/
theorem one_arg' {φ : Ad} {G : List O} {H : Hp} {E : XK} {Q : VK} {ws : List W} {xs : List V} (b : Blt) (h0 : ∀ ws G, ws.length ≠ 1 → bltW b ws G = .stuck) (ss : Sims Z.toEv0 φ H ws xs) (run : Run Z E (SimR Z) (bltW b ws G) φ H Q) :
    ∃ w v, ws = [w] ∧ xs = [v] ∧ Sim Z.toEv0 φ H w v := by
  cases ss with
  | nil => rw [h0 [] G (by simp)] at run; exact run.elim
  | @cons w ws v vs s1 ss =>
    cases ss with
    | cons _ _ => rw [h0 _ G (by simp)] at run; exact run.elim
    | nil => exact ⟨w, v, rfl, rfl, s1⟩
theorem b_sum (g : Gd Z n X) : CallR X (.builtin "sum") (rCS Z (bltW .sum)) := by
  intro pins s σ H xs us Q I r ⟨E, φ, G, ws, rl, ss, run⟩
  obtain ⟨w, v, rfl, rfl, s1⟩ := one_arg' .sum (fun ws G h => by rcases ws with _ | ⟨_, _ | _⟩ <;> first | rfl | exact absurd rfl h) ss run
  cases hl : getL w G with
  | none => simp only [bltW, hl, Option.bind] at run; exact run.elim
  | some ys =>
    cases hn : ints? ys with
    | none => simp only [bltW, hl, Option.bind, hn] at run; exact run.elim
    | some ns =>
      simp only [bltW, hl, Option.bind, hn] at run
      obtain ⟨a, vs, rfl, h1, q1⟩ := getL_sim rl s1 hl
      have e := q1.of_ints hn
      subst e
      exact cr_sum g.calm pins s σ H _ us Q I r ⟨a, ns, rfl, by rw [g.K]; exact h1, run.here rl (.int _)⟩
theorem b_any (g : Gd Z n X) : CallR X (.builtin "any") (rCS Z (bltW .any)) := by
  intro pins s σ H xs us Q I r ⟨E, φ, G, ws, rl, ss, run⟩
  obtain ⟨w, v, rfl, rfl, s1⟩ := one_arg' .any (fun ws G h => by rcases ws with _ | ⟨_, _ | _⟩ <;> first | rfl | exact absurd rfl h) ss run
  cases hl : getL w G with
  | none => simp only [bltW, hl, Option.bind] at run; exact run.elim
  | some ys =>
    cases hn : bls? ys with
    | none => simp only [bltW, hl, Option.bind, hn] at run; exact run.elim
    | some ns =>
      simp only [bltW, hl, Option.bind, hn] at run
      obtain ⟨a, vs, rfl, h1, q1⟩ := getL_sim rl s1 hl
      have e := q1.of_bls hn
      subst e
      exact cr_any g.calm pins s σ H _ us Q I r ⟨a, ns, rfl, by rw [g.K]; exact h1, run.here rl (.bl _)⟩
theorem b_all (g : Gd Z n X) : CallR X (.builtin "all") (rCS Z (bltW .all)) := by
  intro pins s σ H xs us Q I r ⟨E, φ, G, ws, rl, ss, run⟩
  obtain ⟨w, v, rfl, rfl, s1⟩ := one_arg' .all (fun ws G h => by rcases ws with _ | ⟨_, _ | _⟩ <;> first | rfl | exact absurd rfl h) ss run
  cases hl : getL w G with
  | none => simp only [bltW, hl, Option.bind] at run; exact run.elim
  | some ys =>
    cases hn : bls? ys with
    | none => simp only [bltW, hl, Option.bind, hn] at run; exact run.elim
    | some ns =>
      simp only [bltW, hl, Option.bind, hn] at run
      obtain ⟨a, vs, rfl, h1, q1⟩ := getL_sim rl s1 hl
      have e := q1.of_bls hn
      subst e
      exact cr_all g.calm pins s σ H _ us Q I r ⟨a, ns, rfl, by rw [g.K]; exact h1, run.here rl (.bl _)⟩
theorem b_tuple (g : Gd Z n X) : CallR X (.type "tuple") (rCS Z (bltW .tuple)) := by
  intro pins s σ H xs us Q I r ⟨E, φ, G, ws, rl, ss, run⟩
  obtain ⟨w, v, rfl, rfl, s1⟩ := one_arg' .tuple (fun ws G h => by rcases ws with _ | ⟨_, _ | _⟩ <;> first | rfl | exact absurd rfl h) ss run
  have lk := look_sim rl s1
  cases hl : look w G with
  | lst xs =>
    rw [hl] at lk
    simp only [bltW, hl] at run
    cases lk with
    | @lst a _ vs h1 q1 =>
      refine call_tuple_of pins s σ H _ us Q I r ⟨a, vs, rfl, .inl ⟨by rw [g.K]; exact h1, fun p hp => ?_⟩⟩
      have f : Fr φ H φ (upd H p (.tup vs)) := Fr.new hp
      exact run φ _ _ f (rl.new hp) (.tup upd_same (q1.keep f rl.ours))
    | oth _ h _ _ => exact absurd rfl (h xs)
  | tup xs =>
    rw [hl] at lk
    simp only [bltW, hl] at run
    cases lk with
    | @tup a _ vs h1 q1 => exact call_tuple_of pins s σ H _ us Q I r ⟨a, vs, rfl, .inr ⟨by rw [g.K]; exact .of h1, run.here rl (.tup h1 q1)⟩⟩
    | oth _ _ h _ => exact absurd rfl (h xs)
  | _ => simp only [bltW, hl] at run; exact run.elim
theorem b_list (g : Gd Z n X) {m : Bool} : CallR X (.type "list") (rCS Z (bltW (.list m))) := by
  intro pins s σ H xs us Q I r ⟨E, φ, G, ws, rl, ss, run⟩
  obtain ⟨w, v, rfl, rfl, s1⟩ := one_arg' (.list m) (fun ws G h => by rcases ws with _ | ⟨_, _ | _⟩ <;> first | rfl | exact absurd rfl h) ss run
  have lk := look_sim rl s1
  cases hl : look w G with
  | lst xs =>
    rw [hl] at lk
    simp only [bltW, hl] at run
    cases lk with
    | @lst a _ vs h1 q1 =>
      obtain ⟨z, k⟩ := run.mkL rl q1
      exact call_list_of pins s σ H _ us Q I r ⟨a, vs, rfl, .inl (by rw [g.K]; exact h1), k⟩
    | oth _ h _ _ => exact absurd rfl (h xs)
  | tup xs =>
    rw [hl] at lk
    simp only [bltW, hl] at run
    cases lk with
    | @tup a _ vs h1 q1 =>
      obtain ⟨z, k⟩ := run.mkL rl q1
      exact call_list_of pins s σ H _ us Q I r ⟨a, vs, rfl, .inr (by rw [g.K]; exact .of h1), k⟩
    | oth _ _ h _ => exact absurd rfl (h xs)
  | _ => simp only [bltW, hl] at run; exact run.elim
end
end T2
end

section
set_option linter.all false
set_option autoImplicit false
set_option maxRecDepth 100000
set_option maxHeartbeats 2000000
/-! T2: sorted, min, max, methods of lists and texts, stores, isinstance, by values. -/
namespace T2
open PySem L2
section
variable {Z : Ev1} {n : Nat} {X : Cx}
theorem allAlike_mem : ∀ {xs : List W}, allAlike xs = true → ∀ a ∈ xs, ∀ b ∈ xs, PySem.W.alike a.d b.d = true
  | [], _, _, h, _, _ => by simp at h
  | x :: xs, h, a, ha, b, hb => by
    have h' : (∀ y ∈ x :: xs, W.alike x y = true ∧ W.alike y x = true) ∧ allAlike xs = true := by
      simp only [allAlike, Bool.and_eq_true, List.all_eq_true] at h
      exact h
    rcases List.mem_cons.mp ha with e | ha'
    · subst e
      exact (h'.1 b hb).1
    · rcases List.mem_cons.mp hb with e | hb'
      · subst e
        exact (h'.1 a ha).2
      · exact allAlike_mem h'.2 a ha' b hb'
theorem pls_mem {xs : List W} (h : W.pls xs = true) {a : W} (ha : a ∈ xs) : a.pl = true := by
  rw [W.pls_all, List.all_eq_true] at h
  exact h a ha
theorem deps_mem : ∀ {xs : List W} {a : W}, a ∈ xs → a.dep ≤ W.deps xs
  | x :: xs, a, h => by
    rcases List.mem_cons.mp h with e | h
    · subst e
      exact Nat.le_max_left _ _
    · exact Nat.le_trans (deps_mem h) (Nat.le_max_right _ _)
  | [], _, h => by simp at h
/-- the items of a list, item by item -/
theorem each_of {φ : Ad} {H : Hp} : ∀ {ws : List W} {vs : List V} {its : List Value}, Sims Z.toEv0 φ H ws vs → Vals vs its → PySem.W.EachIs (fun u w => ∃ x, RelV x u ∧ Sim Z.toEv0 φ H w x) its ws
  | _, _, _, .nil, .nil => .nil
  | _, _, _, .cons h s, .cons r t => .cons ⟨_, r, h⟩ (each_of s t)
theorem of_each {φ : Ad} {H : Hp} : ∀ {ws : List W} {its : List Value}, PySem.W.EachIs (fun u w => ∃ x, RelV x u ∧ Sim Z.toEv0 φ H w x) its ws → ∃ vs, Vals vs its ∧ Sims Z.toEv0 φ H ws vs
  | _, _, .nil => ⟨[], .nil, .nil⟩
  | _, _, .cons h t => by
    obtain ⟨x, r, s⟩ := h
    obtain ⟨vs, rv, ss⟩ := of_each t
    exact ⟨x :: vs, .cons r rv, .cons s ss⟩
theorem each_reads {pins : List (Addr × Obj)} {σ : L2.St} {s : Shared} {φ : Ad} {H : Hp} (I : L2.Inv X pins σ H s) (hK : X.K = Z.K) : ∀ {ws : List W} {vs : List V} {its : List Value}, W.pls ws = true → Sims Z.toEv0 φ H ws vs → Vals vs its → PySem.W.EachIs (fun u w => ∃ as, Reads s.heap u w.d as) its ws
  | [], _, _, _, .nil, .nil => .nil
  | w :: ws, _, _, p, .cons h t, .cons r q => by
    have p' : w.pl = true ∧ W.pls ws = true := by simpa [W.pls] using p
    exact .cons (Dp.reads I _ _ _ (dp_of X.K hK p'.1 h) r) (each_reads I hK p'.2 t q)
theorem sortable_iff {xs : List W} (h : sortable xs = true) : W.pls xs = true ∧ W.deps xs ≤ 100 ∧ allAlike xs = true ∧ PySem.W.Sortable (xs.map W.d) := by
  simp only [sortable, Bool.and_eq_true, Bool.or_eq_true, decide_eq_true_eq] at h
  obtain ⟨⟨⟨h1, h2⟩, h3⟩, h4⟩ := h
  refine ⟨h1, h2, h3, ?_⟩
  rcases h4 with h4 | h4
  · refine .inl fun d hd => ?_
    obtain ⟨x, hx, rfl⟩ := List.mem_map.mp hd
    have q := List.all_eq_true.mp h4 x hx
    cases x with
    | tup ys =>
      cases ys with
      | nil => simp [isTup] at q
      | cons y ys => exact ⟨y.d, W.ds ys, rfl⟩
    | _ => simp [isTup] at q
  · refine .inr fun d hd => ?_
    obtain ⟨x, hx, rfl⟩ := List.mem_map.mp hd
    have q := List.all_eq_true.mp h4 x hx
    simp only [Bool.and_eq_true, decide_eq_true_eq, Bool.not_eq_true'] at q
    refine ⟨non_d (pls_mem h1 hx) q.1, fun ys z => ?_⟩
    cases x with
    | tup ys => simp [isTup0] at q
    | _ => cases z
theorem b_sorted (g : Gd Z n X) {m : Bool} : CallR X (.builtin "sorted") (rCS Z (bltW (.sorted m))) := by
  intro pins s σ H xs us Q I r ⟨E, φ, G, ws, rl, ss, run⟩
  obtain ⟨w, v, rfl, rfl, s1⟩ := one_arg' (.sorted m) (fun ws G h => by rcases ws with _ | ⟨_, _ | _⟩ <;> first | rfl | exact absurd rfl h) ss run
  cases hl : getL w G with
  | none => simp only [bltW, hl] at run; exact run.elim
  | some ys =>
    simp only [bltW, hl] at run
    by_cases hS : sortable ys = true
    · rw [if_pos hS] at run
      obtain ⟨h1, h2, h3, h4⟩ := sortable_iff hS
      obtain ⟨a, vs, rfl, hsq, q1⟩ := getL_sim rl s1 hl
      obtain ⟨its, rv, pl, hz⟩ := I.list (by rw [g.K]; exact hsq)
      rw [Vals.ref1 r]
      refine PySem.W.sorted_data (enc := W.d) (bs := ys) (R := fun u w => ∃ x, RelV x u ∧ Sim Z.toEv0 φ H w x) pl.isList (each_of q1 rv) (each_reads I g.K h1 q1 rv) (fun d hd d' hd' => ?_) h4 (by rw [q1.len]; exact hz) (fun b hb => ?_) fun out ho he => ?_
      · obtain ⟨x, hx, rfl⟩ := List.mem_map.mp hd
        obtain ⟨y, hy, rfl⟩ := List.mem_map.mp hd'
        exact allAlike_mem h3 x hx y hy
      · have := deps_mem hb
        have := g.u
        rw [dep_d b (pls_mem h1 hb)]
        omega
      · obtain ⟨zs, rz, sz⟩ := of_each he
        obtain ⟨z, k⟩ := run.mkL rl sz
        obtain ⟨ep, he'⟩ := PyProof.Rows.sortedAll_at s.heap its out.toArray
        exact ⟨.ref _, upd H (s.heap.objs.size + 1) (.lst zs), I.laid (t' := s.toks) (fun _ _ => PyProof.Rows.sortedAll_old) (Nat.le_succ _) ⟨z, out, ep, rz, he'⟩, rfl, k _ (I.hok.fresh (Nat.le_succ _))⟩
    · rw [if_neg hS] at run
      exact run.elim

/-! ### min, max -/
mutual
theorem d_inj : ∀ {a b : W}, a.pl = true → b.pl = true → a.d = b.d → a = b
  | .non, b, _, n, e => by cases b <;> first | rfl | cases e | simp [W.pl] at n
  | .bl x, b, _, n, e => by cases b <;> first | (cases e; rfl) | cases e | simp [W.pl] at n
  | .int x, b, _, n, e => by cases b <;> first | (cases e; rfl) | cases e | simp [W.pl] at n
  | .str x, b, _, n, e => by
    cases b with
    | str y =>
      have e : PyData.str ⟨x.toArray⟩ = PyData.str ⟨y.toArray⟩ := e
      injection e with e
      injection e with e
      have : x = y := by simpa using congrArg Array.toList e
      rw [this]
    | _ => first | cases e | simp [W.pl] at n
  | .tup x, b, m, n, e => by
    cases b with
    | tup y =>
      have e : PyData.tuple (W.ds x) = PyData.tuple (W.ds y) := e
      injection e with e
      rw [ds_inj (by simpa [W.pl] using m) (by simpa [W.pl] using n) e]
    | _ => first | cases e | simp [W.pl] at n
  | .lst x, b, m, n, e => by
    cases b with
    | lst y =>
      have e : PyData.list (W.ds x) = PyData.list (W.ds y) := e
      injection e with e
      rw [ds_inj (by simpa [W.pl] using m) (by simpa [W.pl] using n) e]
    | _ => first | cases e | simp [W.pl] at n
  | .scr _, _, m, _, _ => by simp [W.pl] at m
  | .ref _, _, m, _, _ => by simp [W.pl] at m
  | .fn _, _, m, _, _ => by simp [W.pl] at m
theorem ds_inj : ∀ {a b : List W}, W.pls a = true → W.pls b = true → W.ds a = W.ds b → a = b
  | [], [], _, _, _ => rfl
  | [], _ :: _, _, _, e => by simp [W.ds] at e
  | _ :: _, [], _, _, e => by simp [W.ds] at e
  | x :: xs, y :: ys, m, n, e => by
    have m' : x.pl = true ∧ W.pls xs = true := by simpa [W.pls] using m
    have n' : y.pl = true ∧ W.pls ys = true := by simpa [W.pls] using n
    have e' : x.d = y.d ∧ W.ds xs = W.ds ys := by simpa [W.ds] using e
    rw [d_inj m'.1 n'.1 e'.1, ds_inj m'.2 n'.2 e'.2]
end
theorem leastW_d (xs : List W) : ∀ x : W, (leastW x xs).d = PySem.W.minD x.d (W.ds xs) := by
  induction xs with
  | nil => intro x; rfl
  | cons y ys ih =>
    intro x
    show (leastW (if W.lt y x then y else x) ys).d = PySem.W.minD (if PySem.W.dataLt y.d x.d then y.d else x.d) (W.ds ys)
    rw [ih]
    congr 1
    show (if PySem.W.dataLt y.d x.d = true then y else x).d = _
    split <;> rfl
theorem mostW_d (xs : List W) : ∀ x : W, (mostW x xs).d = PySem.W.maxD x.d (W.ds xs) := by
  induction xs with
  | nil => intro x; rfl
  | cons y ys ih =>
    intro x
    show (mostW (if W.lt x y then y else x) ys).d = PySem.W.maxD (if PySem.W.dataLt x.d y.d then y.d else x.d) (W.ds ys)
    rw [ih]
    congr 1
    show (if PySem.W.dataLt x.d y.d = true then y else x).d = _
    split <;> rfl
theorem leastW_mem (xs : List W) : ∀ x : W, leastW x xs ∈ x :: xs := by
  induction xs with
  | nil => intro x; simp [leastW]
  | cons y ys ih =>
    intro x
    have h := ih (if W.lt y x then y else x)
    show leastW (if W.lt y x then y else x) ys ∈ _
    rcases List.mem_cons.mp h with e | h
    · rw [e]
      split <;> simp
    · exact List.mem_cons_of_mem _ (List.mem_cons_of_mem _ h)
theorem mostW_mem (xs : List W) : ∀ x : W, mostW x xs ∈ x :: xs := by
  induction xs with
  | nil => intro x; simp [mostW]
  | cons y ys ih =>
    intro x
    have h := ih (if W.lt x y then y else x)
    show mostW (if W.lt x y then y else x) ys ∈ _
    rcases List.mem_cons.mp h with e | h
    · rw [e]
      split <;> simp
    · exact List.mem_cons_of_mem _ (List.mem_cons_of_mem _ h)
theorem alikeAll_of {x : W} {xs : List W} (h1 : W.pls (x :: xs) = true) (h3 : allAlike (x :: xs) = true) (h4 : x ≠ .non) : PySem.W.AlikeAll (W.ds (x :: xs)) := by
  rw [W.ds_map]
  refine ⟨fun d hd d' hd' => ?_, fun d hd z => ?_⟩
  · obtain ⟨a, ha, rfl⟩ := List.mem_map.mp hd
    obtain ⟨b, hb, rfl⟩ := List.mem_map.mp hd'
    exact allAlike_mem h3 a ha b hb
  · obtain ⟨a, ha, rfl⟩ := List.mem_map.mp hd
    have q := allAlike_mem h3 x List.mem_cons_self a ha
    rw [z] at q
    have p := non_d (pls_mem h1 List.mem_cons_self) h4
    cases hx : x.d with
    | none => exact p hx
    | _ => rw [hx] at q; simp [PySem.W.alike] at q
/-- the item that is found -/
theorem item_of {pins : List (Addr × Obj)} {σ : L2.St} {s : Shared} {φ : Ad} {H : Hp} {ws : List W} {vs : List V} {its : List Value} {i : Nat} {u : Value} {h' : Heap} {as : List Addr} {w : W} (I : L2.Inv X pins σ H s) (hK : X.K = Z.K) (hp : W.pls ws = true) (q : Sims Z.toEv0 φ H ws vs) (rv : Vals vs its)
    (hi : its.toArray[i]? = some u) (hr : Reads h' u w.d as) (hk : ∀ b o, s.heap.get? b = some o → h'.get? b = some o) (hw : w ∈ ws) : ∃ x, RelV x u ∧ Sim Z.toEv0 φ H w x := by
  have hi : its[i]? = some u := by simpa using hi
  have hl : i < its.length := (List.getElem?_eq_some_iff.mp hi).1
  have hlw : i < ws.length := by rw [q.len, rv.length]; exact hl
  obtain ⟨x, hx, sx⟩ := q.get (i := i) (w := ws[i]) (by simp)
  obtain ⟨u', hu', ru⟩ := rv.get hx
  rw [hi] at hu'
  cases hu'
  have px : (ws[i]).pl = true := pls_mem hp (List.getElem_mem _)
  obtain ⟨bs, rd⟩ := Dp.reads I _ x u (dp_of X.K hK px sx) ru
  have e := PySem.SeqAt.plain_unique _ _ _ _ _ (plain_d _ px) (PyProof.Rows.Reads.keeps hk rd) hr
  have e2 := d_inj px (pls_mem hp hw) e
  rw [← e2]
  exact ⟨x, ru, sx⟩
theorem b_min1 (g : Gd Z n X) : CallR X (.builtin "min") (rCS Z (bltW .min1)) := by
  intro pins s σ H xs us Q I r ⟨E, φ, G, ws, rl, ss, run⟩
  obtain ⟨w, v, rfl, rfl, s1⟩ := one_arg' .min1 (fun ws G h => by rcases ws with _ | ⟨_, _ | _⟩ <;> first | rfl | exact absurd rfl h) ss run
  cases hl : getL w G with
  | none => simp only [bltW, hl] at run; exact run.elim
  | some ys =>
    cases ys with
    | nil => simp only [bltW, hl] at run; exact run.elim
    | cons y ys =>
      simp only [bltW, hl] at run
      split at run
      · rename_i hc
        simp only [Bool.and_eq_true, decide_eq_true_eq] at hc
        obtain ⟨⟨⟨h1, h2⟩, h3⟩, h4⟩ := hc
        obtain ⟨a, vs, rfl, hsq, q1⟩ := getL_sim rl s1 hl
        obtain ⟨its, rv, pl, hz⟩ := I.list (by rw [g.K]; exact hsq)
        have dl : Dp X.K H (.ref a) (.list (W.ds (y :: ys))) := .lst (by rw [g.K]; exact hsq) (dps_of X.K g.K h1 q1)
        rw [Vals.ref1 r]
        obtain ⟨as, ra⟩ := Dp.readsAll I _ vs its (dps_of X.K g.K h1 q1) rv
        refine PySem.W.min_list_data (I.ok.hd g.calm) pl.isList (by simpa [W.ds] using ra) (alikeAll_of h1 h3 h4) (by have := g.u; have e := deps_d _ h1; simp only [W.ds] at e; rw [e]; omega) fun i u h' tk bs hi hr hk => ?_
        obtain ⟨x, ru, sx⟩ := item_of (w := leastW y ys) I g.K h1 q1 rv hi (by rw [leastW_d]; exact hr) hk (leastW_mem ys y)
        exact ⟨x, H, I.kept hk, ru, run.here rl sx⟩
      · exact run.elim
theorem b_max1 (g : Gd Z n X) : CallR X (.builtin "max") (rCS Z (bltW .max1)) := by
  intro pins s σ H xs us Q I r ⟨E, φ, G, ws, rl, ss, run⟩
  obtain ⟨w, v, rfl, rfl, s1⟩ := one_arg' .max1 (fun ws G h => by rcases ws with _ | ⟨_, _ | _⟩ <;> first | rfl | exact absurd rfl h) ss run
  cases hl : getL w G with
  | none => simp only [bltW, hl] at run; exact run.elim
  | some ys =>
    cases ys with
    | nil => simp only [bltW, hl] at run; exact run.elim
    | cons y ys =>
      simp only [bltW, hl] at run
      split at run
      · rename_i hc
        simp only [Bool.and_eq_true, decide_eq_true_eq] at hc
        obtain ⟨⟨⟨h1, h2⟩, h3⟩, h4⟩ := hc
        obtain ⟨a, vs, rfl, hsq, q1⟩ := getL_sim rl s1 hl
        obtain ⟨its, rv, pl, hz⟩ := I.list (by rw [g.K]; exact hsq)
        rw [Vals.ref1 r]
        obtain ⟨as, ra⟩ := Dp.readsAll I _ vs its (dps_of X.K g.K h1 q1) rv
        refine PySem.W.max_list_data (I.ok.hd g.calm) pl.isList (by simpa [W.ds] using ra) (alikeAll_of h1 h3 h4) (by have := g.u; have e := deps_d _ h1; simp only [W.ds] at e; rw [e]; omega) fun i u h' tk bs hi hr hk => ?_
        obtain ⟨x, ru, sx⟩ := item_of (w := mostW y ys) I g.K h1 q1 rv hi (by rw [mostW_d]; exact hr) hk (mostW_mem ys y)
        exact ⟨x, H, I.kept hk, ru, run.here rl sx⟩
      · exact run.elim

/-! ### methods -/
/-- a method: what is asked of the receiver, the arguments and the heap -/
def rMS (Z : Ev1) (b : Bm) : V → List V → Hp → VK → Prop := fun x xs H Q => ∃ (E : XK) (φ : Ad) (G : List O) (w : W) (ws : List W), Rel Z.toEv0 φ G H ∧ Sim Z.toEv0 φ H w x ∧ Sims Z.toEv0 φ H ws xs ∧ Run Z E (SimR Z) (bmW b w ws G) φ H Q
theorem Run.put {E : XK} {φ : Ad} {G : List O} {H : Hp} {Q : V → Hp → Prop} {i : Nat} {a : Addr} {w : W} {v : V} {ws ws' : List W} {vs : List V} (run : Run Z E (SimR Z) (.ok w (G.set i (.lst ws))) φ H Q) (rl : Rel Z.toEv0 φ G H) (h : φ.l[i]? = some a) (hG : G[i]? = some (.lst ws'))
    (s : Sims Z.toEv0 φ H ws vs) (sv : Sim Z.toEv0 φ H w v) : Q v (upd H a (.lst vs)) := by
  have f : Fr φ H φ (upd H a (.lst vs)) := Fr.put (List.mem_of_getElem? h)
  exact run φ _ _ f (rl.put h (List.getElem?_eq_some_iff.mp hG).1 ⟨fun _ z => (by cases z), fun _ _ z => (by cases z)⟩ (.lst upd_same (s.keep f rl.ours))) (sv.keep f rl.ours)
theorem m_append : MtR X "list.append" (rMS Z .append) := by
  intro pins s σ H x xs v us Q I rx rs ⟨E, φ, G, w, ws, rl, s1, ss, run⟩
  cases s1 with
  | @ref i a hi =>
    cases ss with
    | nil => exact run.elim
    | @cons w1 ws v1 vs s2 ss =>
      cases ss with
      | cons _ _ => exact run.elim
      | nil =>
        cases hG : G[i]? with
        | none => simp only [bmW, hG] at run; exact run.elim
        | some o =>
          cases o with
          | dct _ => simp only [bmW, hG] at run; exact run.elim
          | lst ys =>
            simp only [bmW, hG] at run
            split at run
            · rename_i hz
              have hz : ys.length < 16777216 := by simpa using hz
              have q := rl.obj i a _ hi hG
              cases q with
              | @lst _ zs h1 q1 =>
                refine mt_append pins s σ H _ _ v us Q I rx rs ⟨a, zs, v1, rfl, rfl, h1, ?_, run.put rl hi hG (q1.app (.cons s2 .nil)) .non⟩
                rw [← q1.len, sizeLine_eq]
                exact hz
            · exact run.elim
  | _ => exact run.elim
theorem m_extend : MtR X "list.extend" (rMS Z .extend) := by
  intro pins s σ H x xs v us Q I rx rs ⟨E, φ, G, w, ws, rl, s1, ss, run⟩
  cases s1 with
  | @ref i a hi =>
    cases ss with
    | nil => exact run.elim
    | @cons w1 ws v1 vs s2 ss =>
      cases ss with
      | cons _ _ => exact run.elim
      | nil =>
        cases hG : G[i]? with
        | none => simp only [bmW, hG] at run; exact run.elim
        | some o =>
          cases o with
          | dct _ => simp only [bmW, hG] at run; exact run.elim
          | lst ys =>
            cases hM : getM w1 G with
            | none =>
              simp only [bmW, hG, hM] at run
              exact run.elim
            | some us' =>
              simp only [bmW, hG, hM] at run
              split at run
              · rename_i hz
                have hz := szOk_iff.mp hz
                have q := rl.obj i a _ hi hG
                obtain ⟨b, ts, rfl, hb, q2⟩ := getM_sim rl s2 hM
                cases q with
                | @lst _ zs h1 q1 =>
                  refine mt_extend pins s σ H _ _ v us Q I rx rs ⟨a, b, zs, ts, rfl, rfl, h1, hb, ?_, run.put rl hi hG (q1.app q2) .non⟩
                  rw [← q1.len, ← q2.len, sizeLine_eq]
                  exact hz
              · exact run.elim
  | _ => exact run.elim
theorem m_pop : MtR X "list.pop" (rMS Z .pop) := by
  intro pins s σ H x xs v us Q I rx rs ⟨E, φ, G, w, ws, rl, s1, ss, run⟩
  cases s1 with
  | @ref i a hi =>
    cases ss with
    | cons _ _ => exact run.elim
    | nil =>
      cases hG : G[i]? with
      | none => simp only [bmW, hG] at run; exact run.elim
      | some o =>
        cases o with
        | dct _ => simp only [bmW, hG] at run; exact run.elim
        | lst ys =>
          simp only [bmW, hG] at run
          cases hg : ys.getLast? with
          | none => simp only [hg] at run; exact run.elim
          | some y =>
            simp only [hg] at run
            have q := rl.obj i a _ hi hG
            cases q with
            | @lst _ zs h1 q1 =>
              rw [List.getLast?_eq_getElem?] at hg
              obtain ⟨z, hz, sz⟩ := q1.get hg
              rw [q1.len] at hz
              exact mt_pop pins s σ H _ _ v us Q I rx rs ⟨a, zs, z, rfl, rfl, h1, hz, run.put rl hi hG q1.dropLast sz⟩
  | _ => exact run.elim
theorem m_popAt : MtR X "list.pop" (rMS Z .popAt) := by
  intro pins s σ H x xs v us Q I rx rs ⟨E, φ, G, w, ws, rl, s1, ss, run⟩
  cases s1 with
  | @ref i a hi =>
    cases ss with
    | nil => exact run.elim
    | @cons w1 ws v1 vs s2 ss =>
      cases ss with
      | cons _ _ => cases s2 <;> exact run.elim
      | nil =>
        cases s2 with
        | int k =>
          cases hG : G[i]? with
          | none => simp only [bmW, hG] at run; exact run.elim
          | some o =>
            cases o with
            | dct _ => simp only [bmW, hG] at run; exact run.elim
            | lst ys =>
              simp only [bmW, hG] at run
              split at run
              · rename_i hk
                simp only [Bool.and_eq_true, decide_eq_true_eq] at hk
                cases hg : ys[k.toNat]? with
                | none => simp only [hg] at run; exact run.elim
                | some y =>
                  simp only [hg] at run
                  have q := rl.obj i a _ hi hG
                  cases q with
                  | @lst _ zs h1 q1 =>
                    obtain ⟨z, hz, sz⟩ := q1.get hg
                    have hlt : k.toNat < zs.length := (List.getElem?_eq_some_iff.mp hz).1
                    refine mt_popAt pins s σ H _ _ v us Q I rx rs ⟨a, zs, k, k.toNat, z, rfl, rfl, h1, by omega, by omega, ?_, hz, run.put rl hi hG (q1.erase _) sz⟩
                    have e : ixN zs.length k = some k.toNat := by
                      unfold ixN
                      rw [if_pos hk.1, if_pos (by omega)]
                    exact (ixN_seq e).1
              · exact run.elim
        | _ => exact run.elim
  | _ => exact run.elim
theorem joinS_eq (s : List Nat) : ∀ xs : List (List Nat), TL.joinL s xs = joinS s xs
  | [] => rfl
  | [x] => by
    show TL.joinL s [x] = x
    first | rfl | simp [TL.joinL]
  | x :: y :: r => by
    show x ++ (s ++ TL.joinL s (y :: r)) = x ++ s ++ joinS s (y :: r)
    rw [joinS_eq s (y :: r), List.append_assoc]
theorem m_join (g : Gd Z n X) : MtR X "str.join" (rMS Z .join) := by
  intro pins s σ H x xs v us Q I rx rs ⟨E, φ, G, w, ws, rl, s1, ss, run⟩
  cases s1 with
  | str t =>
    cases ss with
    | nil => exact run.elim
    | @cons w1 ws v1 vs s2 ss =>
      cases ss with
      | cons _ _ => exact run.elim
      | nil =>
        cases hl : getL w1 G with
        | none => simp only [bmW, hl, Option.bind] at run; exact run.elim
        | some ys =>
          cases hn : strs? ys with
          | none => simp only [bmW, hl, Option.bind, hn] at run; exact run.elim
          | some ns =>
            simp only [bmW, hl, Option.bind, hn] at run
            split at run
            · rename_i hz
              have hz := szOk_iff.mp hz
              obtain ⟨a, zs, rfl, h1, q1⟩ := getL_sim rl s2 hl
              have e := q1.of_strs hn
              subst e
              have e2 : (ns.map fun x => V.str ⟨x.toArray⟩) = (ns.map fun x => (⟨x.toArray⟩ : Str)).map V.str := by rw [List.map_map]; rfl
              rw [e2] at h1
              refine mt_join pins s σ H _ _ v us Q I rx rs ⟨⟨t.toArray⟩, a, ns.map fun x => ⟨x.toArray⟩, rfl, rfl, .inl (by rw [g.K]; exact h1), ?_, ?_⟩
              · rw [List.length_map, List.map_map]
                have e3 : ((fun x : Str => x.length) ∘ fun x : List Nat => (⟨x.toArray⟩ : Str)) = List.length := by funext z; exact str_len z
                rw [e3, str_len]
                exact hz
              · have e4 : Txt.join ⟨t.toArray⟩ (ns.map fun x => (⟨x.toArray⟩ : Str)) = ⟨(joinS t ns).toArray⟩ := by
                  rw [← joinS_eq]
                  exact SX.join_S t ns
                rw [e4]
                exact run.here rl (.str _)
            · exact run.elim
  | _ => exact run.elim
end
end T2
end

section
set_option linter.all false
set_option autoImplicit false
set_option maxRecDepth 100000
set_option maxHeartbeats 2000000
/-! T2: expressions, by the language. -/
namespace T2
open PySem L2
/-- the module's names: defs, constants, exception classes, free ones; the defs' code; constants; fuel -/
structure Ev2 extends Ev1 where
  mg : Str → Option Value
  base : Heap
  tb : Nat → Option Df
  gk : Nat → W
  wf : Nat
  fnm : List Str
  cnm : List Str
  xnm : List Str
  nb : List Str
abbrev Ev2.cl (Z : Ev2) (n : Nat) : Nat → List W → List O → Res W := calls Z.tb Z.gk Z.wf n
/-- what a def promises, with n calls within one another -/
def spF (Z : Ev2) (n k : Nat) : Sp := fun vs H Q E => ∃ (φ : Ad) (G : List O) (ws : List W), Rel Z.toEv0 φ G H ∧ Sims Z.toEv0 φ H ws vs ∧ Run Z.toEv1 E (SimR Z.toEv1) (Z.cl n k ws G) φ H Q
structure Fn1 (Z : Ev2) (n k : Nat) : Prop where
  ex : ∃ (fd : FuncData) (ps : List Str), FnOk Z.P Z.w Z.K Z.mg Z.base (L2.CX Z.P Z.w) (n + 2) (Z.fa k) fd ps (spF Z n k) ∧ PySem.W.keepIn Z.K (.ref (Z.fa k)) = true ∧ Binds Z.K fd ps []
/-- where a block runs: the names N, the scope sc, what is let out W; F: the block of a def itself -/
structure Ctx (Z : Ev2) (n : Nat) (N : List Str) (sc : Scope) (F : Str → Bool) (W : WX) (X : Cx) : Prop where
  gd : Gd Z.toEv1 n X
  nm : X.N = N
  nd : N.Nodup
  sc : X.env.scope = sc
  tk : Takes X W
  mg : X.mg = Z.mg
  base : X.base = Z.base
  fns : ∀ k d, Z.tb k = some d → Fn1 Z n k
  fn : ∀ x, F x = true → X.fn x = true
/-- the module's names stand as told -/
structure Good (Z : Ev2) : Prop where
  fn : ∀ k x, Z.fnm[k]? = some x → Z.mg x = some (.ref (Z.fa k))
  cn : ∀ k x, Z.cnm[k]? = some x → ∃ u v, Z.mg x = some u ∧ RelV v u ∧ ∀ φ H, Sim Z.toEv0 φ H (Z.gk k) v
  nb : ∀ x ∈ Z.nb, Z.mg x = none
  xc : ∀ c x, Z.xnm[c]? = some x → Z.mg x = some (.ref (Z.xa c))

/-- the slots' values -/
structure Slots (Z : Ev0) (φ : Ad) (H : Hp) (sw : Sl) (σ : L2.St) : Prop where
  len : sw.length = σ.length
  at_ : ∀ (i : Nat) (w : W), sw[i]? = some (some w) → ∃ v, σ[i]? = some (some v) ∧ Sim Z φ H w v
theorem Slots.keep {Z : Ev0} {φ φ' : Ad} {H H' : Hp} {sw : Sl} {σ : L2.St} (s : Slots Z φ H sw σ) (f : Fr φ H φ' H') (o : Ours φ H) : Slots Z φ' H' sw σ := ⟨s.len, fun i w h => by
  obtain ⟨v, e, q⟩ := s.at_ i w h
  exact ⟨v, e, q.keep f o⟩⟩
theorem Slots.set {Z : Ev0} {φ : Ad} {H : Hp} {sw : Sl} {σ : L2.St} (s : Slots Z φ H sw σ) {w : W} {v : V} (h : Sim Z φ H w v) (i : Nat) : Slots Z φ H (sw.set i (some w)) (σ.set i (some v)) := ⟨by simp [s.len], fun j w' e => by
  by_cases hj : i = j
  · subst hj
    by_cases hi : i < sw.length
    · rw [List.getElem?_set_self hi] at e
      cases e
      exact ⟨v, by rw [List.getElem?_set_self (by rw [← s.len]; exact hi)], h⟩
    · rw [List.getElem?_eq_none (by simp; omega)] at e
      cases e
  · rw [List.getElem?_set_ne hj] at e
    obtain ⟨v', e', q⟩ := s.at_ j w' e
    exact ⟨v', by rw [List.getElem?_set_ne hj]; exact e', q⟩⟩
theorem Slots.off {Z : Ev0} {φ : Ad} {H : Hp} {sw : Sl} {σ : L2.St} (s : Slots Z φ H sw σ) (i : Nat) (x : Option V) : Slots Z φ H (sw.set i none) (σ.set i x) := ⟨by simp [s.len], fun j w' e => by
  by_cases hj : i = j
  · subst hj
    by_cases hi : i < sw.length
    · rw [List.getElem?_set_self hi] at e
      cases e
    · rw [List.getElem?_eq_none (by simp; omega)] at e
      cases e
  · rw [List.getElem?_set_ne hj] at e
    obtain ⟨v', e', q⟩ := s.at_ j w' e
    exact ⟨v', by rw [List.getElem?_set_ne hj]; exact e', q⟩⟩
theorem Slots.wipe {Z : Ev0} {φ : Ad} {H : Hp} {sw : Sl} {σ : L2.St} (s : Slots Z φ H sw σ) : ∀ l : List Nat, Slots Z φ H (T2.wipe sw l) (L2.wipe σ l)
  | [] => s
  | i :: l => (Slots.wipe s l).off i Option.none

/-! ### weaker readings -/
section
variable {X : Cx}
theorem PE_of {e : Expr} {t t' : TE} (h : PE X e t) (k : ∀ σ H Q, t' σ H Q → t σ H Q) : PE X e t' := ⟨fun pins s σ H Q I hw => h.run pins s σ H Q I (k _ _ _ hw)⟩
theorem PT_of {e : Expr} {t t' : TT} (h : PT X e t) (k : ∀ σ H Q, t' σ H Q → t σ H Q) : PT X e t' := ⟨fun pins s σ H Q I hw => h.run pins s σ H Q I (k _ _ _ hw)⟩
theorem PW_of {e : Expr} {t t' : TT} (h : PW X e t) (k : ∀ σ H Q, t' σ H Q → t σ H Q) : PW X e t' := ⟨fun wh pins s σ H Q I hw => h.run wh pins s σ H Q I (k _ _ _ hw)⟩
theorem PA_of {e : List Expr} {t t' : TA} (h : PA X e t) (k : ∀ σ H Q, t' σ H Q → t σ H Q) : PA X e t' := ⟨fun pos pins s σ H Q I hw => h.run pos pins s σ H Q I (k _ _ _ hw)⟩
theorem PO_of {e : Option Expr} {t t' : TO} (h : PO X e t) (k : ∀ σ H Q, t' σ H Q → t σ H Q) : PO X e t' := ⟨fun pins s σ H Q I hw => h.run pins s σ H Q I (k _ _ _ hw)⟩
theorem PI_of {tg e : Expr} {t t' : TI} (h : PI X tg e t) (k : ∀ σ H R, t' σ H R → t σ H R) : PI X tg e t' := ⟨fun pins s σ H Q I hw => h.run pins s σ H Q I (k _ _ _ hw)⟩
theorem PG_of {tg : Expr} {t t' : TG} (h : PG X tg t) (k : ∀ v σ H R, t' v σ H R → t v σ H R) : PG X tg t' := ⟨fun pins s σ H v u Q I r hw => h.run pins s σ H v u Q I r (k _ _ _ _ hw)⟩
theorem PGs_of {tg : List Expr} {t t' : TGs} (h : PGs X tg t) (k : ∀ v σ H R, t' v σ H R → t v σ H R) : PGs X tg t' := ⟨fun pins s σ H v u Q I r hw => h.run pins s σ H v u Q I r (k _ _ _ _ hw)⟩
theorem PTs_of {tg : List Expr} {t t' : TT} (h : PTs X tg t) (k : ∀ σ H R, t' σ H R → t σ H R) : PTs X tg t' := ⟨fun pins s σ H Q I hw => h.run pins s σ H Q I (k _ _ _ hw)⟩
theorem PS_of {st : Stmt} {t t' : TS} (h : PS X st t) (k : ∀ D σ H, t' D σ H → t D σ H) : PS X st t' := ⟨fun pins s σ H D I hw => h.run pins s σ H D I (k _ _ _ hw)⟩
theorem PSs_of {st : List Stmt} {t t' : TS} (h : PSs X st t) (k : ∀ D σ H, t' D σ H → t D σ H) : PSs X st t' := ⟨fun pins s σ H D I hw => h.run pins s σ H D I (k _ _ _ hw)⟩
end

/-! ### readings by the language -/
/-- what is let out, whatever the slots -/
abbrev Er (W : WX) : XK := fun c d H => ∀ σ, W c d σ H
/-- m's result is wanted -/
def tM {α β : Type} (Z : Ev2) (W : WX) (R : Ad → Hp → α → β → Prop) (m : Sl → List O → Res α) : L2.St → Hp → (β → Hp → Prop) → Prop := fun σ H Q => ∃ (φ : Ad) (G : List O) (sw : Sl), Rel Z.toEv0 φ G H ∧ Slots Z.toEv0 φ H sw σ ∧ Run Z.toEv1 (Er W) R (m sw G) φ H Q
abbrev tE (Z : Ev2) (W : WX) (m : Sl → List O → Res T2.W) : TE := tM Z W (SimR Z.toEv1) m
abbrev tT (Z : Ev2) (W : WX) (m : Sl → List O → Res Bool) : TT := tM Z W EqR m
abbrev tA (Z : Ev2) (W : WX) (m : Sl → List O → Res (List T2.W)) : TA := tM Z W (SimsR Z.toEv1) m
abbrev tO (Z : Ev2) (W : WX) (m : Sl → List O → Res (Option Int)) : TO := tM Z W EqR m
section
variable {Z : Ev2} {W : WX} {α β γ δ : Type} {R : Ad → Hp → α → β → Prop} {S : Ad → Hp → γ → δ → Prop} {σ : L2.St} {H : Hp} {φ : Ad} {G : List O} {sw : Sl}
/-- a part first -/
theorem tM_bnd {m : Sl → List O → Res α} {f : α → List O → Res γ} {Q : δ → Hp → Prop} {Q' : β → Hp → Prop} (rl : Rel Z.toEv0 φ G H) (sl : Slots Z.toEv0 φ H sw σ) (run : Run Z.toEv1 (Er W) S (bnd (m sw G) f) φ H Q)
    (k : ∀ b φ1 G1 H1 a, Fr φ H φ1 H1 → Rel Z.toEv0 φ1 G1 H1 → Slots Z.toEv0 φ1 H1 sw σ → R φ1 H1 a b → Run Z.toEv1 (Er W) S (f a G1) φ1 H1 Q → Q' b H1) : tM Z W R m σ H Q' :=
  ⟨φ, G, sw, rl, sl, (run.bnd).imp fun b H' ⟨φ1, G1, a, fr, rl1, s, r⟩ => k b φ1 G1 H' a fr rl1 (sl.keep fr rl.ours) s r⟩
theorem tM_all {m : Sl → List O → Res α} {Q Q' : β → Hp → Prop} (rl : Rel Z.toEv0 φ G H) (sl : Slots Z.toEv0 φ H sw σ) (run : Run Z.toEv1 (Er W) R (m sw G) φ H Q) (k : ∀ b H', Q b H' → Q' b H') : tM Z W R m σ H Q' :=
  ⟨φ, G, sw, rl, sl, run.imp k⟩
theorem Run.noX {E E' : XK} {r : Res α} {Q : β → Hp → Prop} (run : Run Z.toEv1 E R (noX r) φ H Q) : Run Z.toEv1 E' R r φ H Q := by
  cases r with
  | ok a G => exact run
  | exc c fs G => exact run.elim
  | stuck => exact run
end

/-- what is plain of an expression's form -/
structure Sx (e : Expr) : Prop where
  p1 : ∀ (env : Env) (es : List Expr), starEach (e :: es) env = (false, eval e env) :: starEach es env
  ix : PlainIx e
  mb : ∀ op, behindInMarks op e = false
  fs : ∀ (env : Env) (x : Value), foldedSetIterable e env x = pure x
  asg : ∀ (o : Expr) (pos : Pos) (env : Env) (v : Value), assign (.Subscript o e pos) env v = (do
      let ov ← holding [v] (eval o env)
      let iv ← holding [v, ov] (eval e env)
      standAt pos
      holding [v, ov, iv] (setItem ov iv v)
      release [v, ov, iv] [])
/-- e is c -/
structure HE (Z : Ev2) (N : List Str) (sc : Scope) (F : Str → Bool) (e : Expr) (c : E) : Prop where
  run : ∀ n W X, Ctx Z n N sc F W X → PE X e (tE Z W (ev (Z.cl n) Z.gk c))
  sx : Sx e
structure HT (Z : Ev2) (N : List Str) (sc : Scope) (F : Str → Bool) (e : Expr) (c : E) : Prop where
  run : ∀ n W X, Ctx Z n N sc F W X → PT X e (tT Z W (evT (Z.cl n) Z.gk c))
structure HW (Z : Ev2) (N : List Str) (sc : Scope) (F : Str → Bool) (e : Expr) (c : E) : Prop where
  run : ∀ n W X, Ctx Z n N sc F W X → PW X e (tT Z W (evT (Z.cl n) Z.gk c))
structure HA (Z : Ev2) (N : List Str) (sc : Scope) (F : Str → Bool) (es : List Expr) (c : Es) : Prop where
  run : ∀ n W X, Ctx Z n N sc F W X → PA X es (tA Z W (evs (Z.cl n) Z.gk c))
  st : ∀ env, starEach es env = es.map fun e => (false, eval e env)
structure HO' (Z : Ev2) (N : List Str) (sc : Scope) (F : Str → Bool) (e : Option Expr) (c : Op) : Prop where
  run : ∀ n W X, Ctx Z n N sc F W X → PO X e (tO Z W (evO (Z.cl n) Z.gk c))
section
variable {Z : Ev2} {N : List Str} {sc : Scope} {F : Str → Bool} {e a b c₁ : Expr} {c ca cb cc : E} {pos p p1 : Pos} {es : List Expr} {cs : Es} {x : Str}
theorem HA.hs (h : HA Z N sc F (e :: es) cs) (env : Env) : starEach (e :: es) env = (false, eval e env) :: starEach es env := by
  have q := h.st env
  rw [q, List.map_cons]
  congr 1
  cases es with
  | nil => rfl
  | cons e2 es2 =>
    have q2 : starEach (e :: e2 :: es2) env = (false, eval e env) :: (e2 :: es2).map fun e => (false, eval e env) := q
    cases e <;> first
      | (have := congrArg List.tail q2; exact this.symm)
theorem HA.hpl (h : HA Z N sc F es cs) (env : Env) (pos : Pos) : (backTo pos (starEach es env)).any (·.1) = false := by
  rw [h.st env]
  unfold backTo
  rw [List.map_map, List.any_map]
  clear h
  induction es with
  | nil => rfl
  | cons e es ih => rw [List.any_cons, ih]; rfl
/-! #### values -/
theorem HE.con {v : V} {w : W} (h : ∀ X : Cx, PE X e (tC v)) (hs : ∀ φ H, Sim Z.toEv0 φ H w v) (sx : Sx e) : HE Z N sc F e (.k w) := ⟨fun n W X g => PE_of (h X) fun σ H Q ⟨φ, G, sw, rl, sl, run⟩ => by
  simp only [ev] at run
  exact run.here rl (hs _ _), sx⟩
theorem HE.int {i : Int} {j : Nat} : HE Z N sc F (.Constant (.int i) j pos) (.k (.int i)) := .con (fun _ => pe_int) (fun _ _ => .int i) ⟨fun _ _ => rfl, fun _ _ => rfl, fun _ => rfl, fun _ _ => rfl, fun _ _ _ _ => rfl⟩
theorem HE.bl {i : Bool} {j : Nat} : HE Z N sc F (.Constant (.bool i) j pos) (.k (.bl i)) := .con (fun _ => pe_bl) (fun _ _ => .bl i) ⟨fun _ _ => rfl, fun _ _ => rfl, fun _ => rfl, fun _ _ => rfl, fun _ _ _ _ => rfl⟩
theorem HE.non {j : Nat} : HE Z N sc F (.Constant .none j pos) (.k .non) := .con (fun _ => pe_non) (fun _ _ => .non) ⟨fun _ _ => rfl, fun _ _ => rfl, fun _ => rfl, fun _ _ => rfl, fun _ _ _ _ => rfl⟩
theorem HE.str {y : Str} {l : List Nat} {j : Nat} (h : y = ⟨l.toArray⟩) : HE Z N sc F (.Constant (.str y) j pos) (.k (.str l)) := by
  subst h
  exact .con (fun _ => pe_str) (fun _ _ => .str l) ⟨fun _ _ => rfl, fun _ _ => rfl, fun _ => rfl, fun _ _ => rfl, fun _ _ _ _ => rfl⟩
theorem sx_name : Sx (.Name x pos) := ⟨fun _ _ => rfl, fun _ _ => rfl, fun _ => rfl, fun _ _ => rfl, fun _ _ _ _ => rfl⟩
/-- a name of the block -/
def visB (sc : Scope) (x : Str) : Bool := decide (sc.names.lookup x = some .local) || decide (sc.names.lookup x = some .cell) || decide (sc.names.lookup x = some .free)
theorem visB_ok {X : Cx} (h : visB sc x = true) (hs : X.env.scope = sc) : Vis X.env.scope x := by
  rw [hs]
  simpa [visB, Vis, or_assoc] using h
def nmB (x : Str) : Bool := (x == ("__debug__" : Str)) || (x == ("__classdict__" : Str)) || (x == ("__name__" : Str))
theorem nmB_1 (h : nmB x = false) : (x == ("__debug__" : Str)) = false := by simp [nmB] at h; simp [h]
theorem nmB_2 (h : nmB x = false) : (x == ("__classdict__" : Str)) = false := by simp [nmB] at h; simp [h]
theorem nmB_3 (h : nmB x = false) : x ≠ "__name__" := by simp [nmB] at h; simp [h]
theorem HE.v {i : Nat} (hN : N[i]? = some x) (hv : visB sc x = true) (hn : nmB x = false) : HE Z N sc F (.Name x pos) (.v i) := ⟨fun n W X g => PE_of (pe_var (i := i) (by rw [g.nm]; exact hN) (visB_ok hv g.sc) (nmB_1 hn) (nmB_2 hn)) fun σ H Q ⟨φ, G, sw, rl, sl, run⟩ => by
  simp only [ev] at run
  cases h : sw[i]? with
  | none => simp only [h] at run; exact run.elim
  | some o =>
    cases o with
    | none => simp only [h] at run; exact run.elim
    | some w =>
      simp only [h] at run
      obtain ⟨v, e, q⟩ := sl.at_ i w h
      exact ⟨v, e, run.here rl q⟩, sx_name⟩
def glB (sc : Scope) (x : Str) : Bool := decide (sc.names.lookup x = some .globalImplicit)
theorem glB_ok {X : Cx} (h : glB sc x = true) (hs : X.env.scope = sc) : Gl X x := by
  show X.env.scope.names.lookup x = _
  rw [hs]
  simpa [glB] using h
theorem HE.gf {k : Nat} (gz : Good Z) (hk : Z.fnm[k]? = some x) (hg : glB sc x = true) (hn : nmB x = false) : HE Z N sc F (.Name x pos) (.gf k) := ⟨fun n W X g => PE_of (pe_glob (v := .ref (Z.fa k)) (glB_ok hg g.sc) (by rw [g.mg]; exact gz.fn k x hk) rfl (nmB_1 hn)) fun σ H Q ⟨φ, G, sw, rl, sl, run⟩ => by
  simp only [ev] at run
  exact run.here rl (.fn k), sx_name⟩
theorem HE.gk {k : Nat} (gz : Good Z) (hk : Z.cnm[k]? = some x) (hg : glB sc x = true) (hn : nmB x = false) : HE Z N sc F (.Name x pos) (.gk k) := by
  obtain ⟨u, v, e, r, q⟩ := gz.cn k x hk
  exact ⟨fun n W X g => PE_of (pe_glob (v := v) (glB_ok hg g.sc) (by rw [g.mg]; exact e) r (nmB_1 hn)) fun σ H Q ⟨φ, G, sw, rl, sl, run⟩ => by
    simp only [ev] at run
    exact run.here rl (q _ _), sx_name⟩

/-! #### operators -/
theorem HE.bin {o : BOp} {op : Operator} (ho : ∀ n X, Gd Z.toEv1 n X → OpR X (binaryOp op) (r2S Z.toEv1 (binW o))) (ha : HE Z N sc F a ca) (hb : HE Z N sc F b cb) : HE Z N sc F (.BinOp a op b pos) (.bin o ca cb) :=
  ⟨fun n W X g => PE_of (pe_op (ho n X g.gd) (ha.run n W X g) (hb.run n W X g)) fun σ H Q ⟨φ, G, sw, rl, sl, run⟩ => by
    simp only [ev] at run
    exact tM_bnd rl sl run fun x φ1 G1 H1 wx f1 rl1 sl1 sx run1 => tM_bnd rl1 sl1 run1 fun y φ2 G2 H2 wy f2 rl2 sl2 sy run2 => ⟨_, φ2, G2, wx, wy, rl2, Sim.keep f2 rl1.ours sx, sy, run2⟩,
  ⟨fun _ _ => rfl, fun _ _ => rfl, fun _ => rfl, fun _ _ => rfl, fun _ _ _ _ => rfl⟩⟩
theorem HE.add (ha : HE Z N sc F a ca) (hb : HE Z N sc F b cb) : HE Z N sc F (.BinOp a .Add b pos) (.bin .add ca cb) := .bin (fun n X g => s_add g op_add op_add_str op_catA) ha hb
theorem HE.sub (ha : HE Z N sc F a ca) (hb : HE Z N sc F b cb) : HE Z N sc F (.BinOp a .Sub b pos) (.bin .sub ca cb) := .bin (fun n X g => s_sub op_sub) ha hb
theorem HE.mul (ha : HE Z N sc F a ca) (hb : HE Z N sc F b cb) : HE Z N sc F (.BinOp a .Mult b pos) (.bin .mul ca cb) := .bin (fun n X g => s_mul op_mul) ha hb
theorem HE.fdiv (ha : HE Z N sc F a ca) (hb : HE Z N sc F b cb) : HE Z N sc F (.BinOp a .FloorDiv b pos) (.bin .fdiv ca cb) := .bin (fun n X g => s_fdiv) ha hb
theorem HE.mod (ha : HE Z N sc F a ca) (hb : HE Z N sc F b cb) : HE Z N sc F (.BinOp a .Mod b pos) (.bin .mod ca cb) := .bin (fun n X g => s_mod) ha hb
theorem HE.pow (ha : HE Z N sc F a ca) (hb : HE Z N sc F b cb) : HE Z N sc F (.BinOp a .Pow b pos) (.bin .pow ca cb) := .bin (fun n X g => s_pow) ha hb
theorem HE.cat {m : Bool} (ha : HE Z N sc F a ca) (hb : HE Z N sc F b cb) : HE Z N sc F (.BinOp a .Add b pos) (.bin (.cat m) ca cb) := .bin (fun n X g => s_cat) ha hb
theorem HE.rep {m : Bool} (ha : HE Z N sc F a ca) (hb : HE Z N sc F b cb) : HE Z N sc F (.BinOp a .Mult b pos) (.bin (.rep m) ca cb) := .bin (fun n X g => s_rep) ha hb
theorem HE.neg (ha : HE Z N sc F a ca) : HE Z N sc F (.UnaryOp .USub a pos) (.neg ca) :=
  ⟨fun n W X g => PE_of (pe_un un_neg (ha.run n W X g)) fun σ H Q ⟨φ, G, sw, rl, sl, run⟩ => by
    simp only [ev] at run
    exact tM_bnd rl sl run fun x φ1 G1 H1 wx f1 rl1 sl1 sx run1 => by
      cases sx with
      | int i => exact ⟨i, rfl, run1.here rl1 (.int _)⟩
      | _ => exact run1.elim,
  ⟨fun _ _ => rfl, fun _ _ => rfl, fun _ => rfl, fun _ _ => rfl, fun _ _ _ _ => rfl⟩⟩

/-! #### comparisons, tests -/
theorem cmp_pe {o : COp} {op : CmpOp} (ho : ∀ n X, Gd Z.toEv1 n X → OpR X (compareOp op) (r2S Z.toEv1 (cmpW o))) (ha : HE Z N sc F a ca) (hb : HE Z N sc F b cb) {n : Nat} {W : WX} {X : Cx} (g : Ctx Z n N sc F W X) {σ : L2.St} {H : Hp} {Q : VK}
    (h : tE Z W (ev (Z.cl n) Z.gk (.cmp o ca cb)) σ H Q) : tOp (r2S Z.toEv1 (cmpW o)) (tE Z W (ev (Z.cl n) Z.gk ca)) (tE Z W (ev (Z.cl n) Z.gk cb)) σ H Q := by
  obtain ⟨φ, G, sw, rl, sl, run⟩ := h
  simp only [ev] at run
  exact tM_bnd rl sl run fun x φ1 G1 H1 wx f1 rl1 sl1 sx run1 => tM_bnd rl1 sl1 run1 fun y φ2 G2 H2 wy f2 rl2 sl2 sy run2 => ⟨_, φ2, G2, wx, wy, rl2, Sim.keep f2 rl1.ours sx, sy, run2⟩
theorem HE.cmp {o : COp} {op : CmpOp} (ho : ∀ n X, Gd Z.toEv1 n X → OpR X (compareOp op) (r2S Z.toEv1 (cmpW o))) (ha : HE Z N sc F a ca) (hb : HE Z N sc F b cb) : HE Z N sc F (.Compare a [op] [b] pos) (.cmp o ca cb) :=
  ⟨fun n W X g => PE_of (pe_cmpR (ho n X g.gd) (ha.run n W X g) (hb.run n W X g) (hb.sx.mb op)) fun σ H Q h => cmp_pe ho ha hb g h,
  ⟨fun _ _ => rfl, fun _ _ => rfl, fun _ => rfl, fun _ _ => rfl, fun _ _ _ _ => rfl⟩⟩
/-- a truth value, as a test -/
theorem tT_of {n : Nat} {W : WX} {c : E} {σ : L2.St} {H : Hp} {Q : Bool → Hp → Prop} (h : tT Z W (evT (Z.cl n) Z.gk c) σ H Q) : tE Z W (ev (Z.cl n) Z.gk c) σ H (fun x H1 => ∃ k, x = .bl k ∧ Q k H1) := by
  obtain ⟨φ, G, sw, rl, sl, run⟩ := h
  rw [evT_ev] at run
  exact tM_bnd rl sl run fun x φ1 G1 H1 wx f1 rl1 sl1 sx run1 => by
    cases sx with
    | bl k => exact ⟨k, rfl, run1.here rl1 rfl⟩
    | _ => exact run1.elim
theorem HT.cmp {o : COp} {op : CmpOp} (ho : ∀ n X, Gd Z.toEv1 n X → OpR X (compareOp op) (r2S Z.toEv1 (cmpW o))) (ha : HE Z N sc F a ca) (hb : HE Z N sc F b cb) : HT Z N sc F (.Compare a [op] [b] pos) (.cmp o ca cb) :=
  ⟨fun n W X g => PT_of (pt_cmpR (ho n X g.gd) (ha.run n W X g) (hb.run n W X g) (hb.sx.mb op)) fun σ H Q h => cmp_pe ho ha hb g (tT_of h)⟩
theorem ho_eq (n : Nat) (X : Cx) (g : Gd Z.toEv1 n X) : OpR X (compareOp .Eq) (r2S Z.toEv1 (cmpW .eq)) := s_eq g
theorem ho_ne (n : Nat) (X : Cx) (g : Gd Z.toEv1 n X) : OpR X (compareOp .NotEq) (r2S Z.toEv1 (cmpW .ne)) := s_ne g
theorem ho_lt (n : Nat) (X : Cx) (g : Gd Z.toEv1 n X) : OpR X (compareOp .Lt) (r2S Z.toEv1 (cmpW .lt)) := s_lt g
theorem ho_le (n : Nat) (X : Cx) (g : Gd Z.toEv1 n X) : OpR X (compareOp .LtE) (r2S Z.toEv1 (cmpW .le)) := s_le g
theorem ho_gt (n : Nat) (X : Cx) (g : Gd Z.toEv1 n X) : OpR X (compareOp .Gt) (r2S Z.toEv1 (cmpW .gt)) := s_gt g
theorem ho_ge (n : Nat) (X : Cx) (g : Gd Z.toEv1 n X) : OpR X (compareOp .GtE) (r2S Z.toEv1 (cmpW .ge)) := s_ge g
theorem ho_in (n : Nat) (X : Cx) (g : Gd Z.toEv1 n X) : OpR X (compareOp .In) (r2S Z.toEv1 (cmpW .isin)) := s_in g
theorem ho_notin (n : Nat) (X : Cx) (g : Gd Z.toEv1 n X) : OpR X (compareOp .NotIn) (r2S Z.toEv1 (cmpW .notin)) := s_notin g
theorem chn_pe {o o2 : COp} {n : Nat} {W : WX} {X : Cx} {σ : L2.St} {H : Hp} {Q : VK} (h : tE Z W (ev (Z.cl n) Z.gk (.chn o o2 ca cb cc)) σ H Q) :
    tChain (r2S Z.toEv1 (cmpW o)) (r2S Z.toEv1 (cmpW o2)) (tE Z W (ev (Z.cl n) Z.gk ca)) (tE Z W (ev (Z.cl n) Z.gk cb)) (tE Z W (ev (Z.cl n) Z.gk cc)) σ H Q := by
  obtain ⟨φ, G, sw, rl, sl, run⟩ := h
  simp only [ev] at run
  refine tM_bnd rl sl run fun x φ1 G1 H1 wx f1 rl1 sl1 sx run1 => tM_bnd rl1 sl1 run1 fun y φ2 G2 H2 wy f2 rl2 sl2 sy run2 => ⟨_, φ2, G2, wx, wy, rl2, Sim.keep f2 rl1.ours sx, sy, (run2.bnd).imp fun b H3 ⟨φ3, G3, a, f3, rl3, s3, run3⟩ => ?_⟩
  cases s3 with
  | bl k =>
    refine ⟨k, rfl, ?_⟩
    cases k with
    | true =>
      rw [if_pos rfl]
      exact tM_bnd rl3 (sl2.keep f3 rl2.ours) run3 fun z φ4 G4 H4 wz f4 rl4 sl4 sz run4 => ⟨_, φ4, G4, wy, wz, rl4, Sim.keep f4 rl3.ours (Sim.keep f3 rl2.ours sy), sz, run4⟩
    | false =>
      rw [if_neg (by decide)]
      exact run3.here rl3 (.bl _)
  | _ => exact run3.elim
theorem HE.chn {o o2 : COp} {op op2 : CmpOp} (ho : ∀ n X, Gd Z.toEv1 n X → OpR X (compareOp op) (r2S Z.toEv1 (cmpW o))) (ho2 : ∀ n X, Gd Z.toEv1 n X → OpR X (compareOp op2) (r2S Z.toEv1 (cmpW o2))) (ha : HE Z N sc F a ca) (hb : HE Z N sc F b cb) (hc : HE Z N sc F c₁ cc) :
    HE Z N sc F (.Compare a [op, op2] [b, c₁] pos) (.chn o o2 ca cb cc) :=
  ⟨fun n W X g => PE_of (pe_chain (ho n X g.gd) (ho2 n X g.gd) (ha.run n W X g) (hb.run n W X g) (hc.run n W X g) (hc.sx.mb op2)) fun σ H Q h => chn_pe (X := X) h,
  ⟨fun _ _ => rfl, fun _ _ => rfl, fun _ => rfl, fun _ _ => rfl, fun _ _ _ _ => rfl⟩⟩
theorem HT.chn {o o2 : COp} {op op2 : CmpOp} (ho : ∀ n X, Gd Z.toEv1 n X → OpR X (compareOp op) (r2S Z.toEv1 (cmpW o))) (ho2 : ∀ n X, Gd Z.toEv1 n X → OpR X (compareOp op2) (r2S Z.toEv1 (cmpW o2))) (ha : HE Z N sc F a ca) (hb : HE Z N sc F b cb) (hc : HE Z N sc F c₁ cc) :
    HT Z N sc F (.Compare a [op, op2] [b, c₁] pos) (.chn o o2 ca cb cc) :=
  ⟨fun n W X g => PT_of (pt_chain (ho n X g.gd) (ho2 n X g.gd) (ha.run n W X g) (hb.run n W X g) (hc.run n W X g) (hc.sx.mb op2)) fun σ H Q h => chn_pe (X := X) (tT_of h)⟩
theorem HT.val (ha : HE Z N sc F a ca) (hp : plainT ca = true) (he : ∀ env whole, isTrue a env whole = (do let v ← whole; standAt a.pos; holding [v] (truthy v))) : HT Z N sc F a ca :=
  ⟨fun n W X g => PT_of (pt_val (ha.run n W X g) (he X.env)) fun σ H Q h => tT_of h⟩
theorem HT.not (ha : HT Z N sc F a ca) : HT Z N sc F (.UnaryOp .Not a pos) (.not ca) :=
  ⟨fun n W X g => PT_of (pt_not (ha.run n W X g)) fun σ H Q ⟨φ, G, sw, rl, sl, run⟩ => by
    simp only [evT] at run
    exact tM_bnd rl sl run fun x φ1 G1 H1 wx f1 rl1 sl1 sx run1 => by
      have sx : wx = x := sx
      subst sx
      exact run1.here rl1 rfl⟩
theorem HE.not (ha : HE Z N sc F a ca) : HE Z N sc F (.UnaryOp .Not a pos) (.not ca) :=
  ⟨fun n W X g => PE_of (pe_not (ha.run n W X g)) fun σ H Q ⟨φ, G, sw, rl, sl, run⟩ => by
    simp only [ev] at run
    exact tT_of (Q := fun c H1 => Q (.bl (!c)) H1) (tM_bnd rl sl run fun x φ1 G1 H1 wx f1 rl1 sl1 sx run1 => by
      have sx : wx = x := sx
      subst sx
      exact run1.here rl1 (.bl _)),
  ⟨fun _ _ => rfl, fun _ _ => rfl, fun _ => rfl, fun _ _ => rfl, fun _ _ _ _ => rfl⟩⟩
theorem HW.and1 (ha : HT Z N sc F a ca) : HW Z N sc F (.BoolOp .And [a] pos) ca := ⟨fun n W X g => pw_and1 (ha.run n W X g)⟩
theorem HW.or1 (ha : HT Z N sc F a ca) : HW Z N sc F (.BoolOp .Or [a] pos) ca := ⟨fun n W X g => pw_or1 (ha.run n W X g)⟩
theorem HW.and {rest : List Expr} (ha : HT Z N sc F a ca) (hb : HW Z N sc F (.BoolOp .And (b :: rest) pos) cb) : HW Z N sc F (.BoolOp .And (a :: b :: rest) pos) (.and ca cb) :=
  ⟨fun n W X g => PW_of (pw_and (ha.run n W X g) (hb.run n W X g)) fun σ H Q ⟨φ, G, sw, rl, sl, run⟩ => by
    simp only [evT] at run
    exact tM_bnd rl sl run fun x φ1 G1 H1 wx f1 rl1 sl1 sx run1 => by
      have sx : wx = x := sx
      subst sx
      cases wx with
      | true => exact tM_all rl1 sl1 run1 fun _ _ q => q
      | false => exact run1.here rl1 rfl⟩
theorem HW.or {rest : List Expr} (ha : HT Z N sc F a ca) (hb : HW Z N sc F (.BoolOp .Or (b :: rest) pos) cb) : HW Z N sc F (.BoolOp .Or (a :: b :: rest) pos) (.or ca cb) :=
  ⟨fun n W X g => PW_of (pw_or (ha.run n W X g) (hb.run n W X g)) fun σ H Q ⟨φ, G, sw, rl, sl, run⟩ => by
    simp only [evT] at run
    exact tM_bnd rl sl run fun x φ1 G1 H1 wx f1 rl1 sl1 sx run1 => by
      have sx : wx = x := sx
      subst sx
      cases wx with
      | false => exact tM_all rl1 sl1 run1 fun _ _ q => q
      | true => exact run1.here rl1 rfl⟩
theorem HW.t (h : HW Z N sc F e c) : HT Z N sc F e c := ⟨fun n W X g => (h.run n W X g).pt⟩
theorem HE.one {op : BoolOp} (ha : HE Z N sc F a ca) : HE Z N sc F (.BoolOp op [a] pos) ca := ⟨fun n W X g => pe_one (ha.run n W X g), ⟨fun _ _ => rfl, fun _ _ => rfl, fun _ => rfl, fun _ _ => rfl, fun _ _ _ _ => rfl⟩⟩
theorem HE.and {rest : List Expr} (ha : HE Z N sc F a ca) (hb : HE Z N sc F (.BoolOp .And (b :: rest) pos) cb) : HE Z N sc F (.BoolOp .And (a :: b :: rest) pos) (.and ca cb) :=
  ⟨fun n W X g => PE_of (pe_and (ha.run n W X g) (hb.run n W X g)) fun σ H Q ⟨φ, G, sw, rl, sl, run⟩ => by
    simp only [ev] at run
    exact tT_of (Q := fun c H1 => if c = true then tE Z W (ev (Z.cl n) Z.gk cb) σ H1 Q else Q (.bl false) H1) (tM_bnd rl sl run fun x φ1 G1 H1 wx f1 rl1 sl1 sx run1 => by
      have sx : wx = x := sx
      subst sx
      cases wx with
      | true =>
        rw [if_pos rfl]
        have q := tT_of (n := n) (W := W) (σ := σ) (Q := fun c H1 => Q (.bl c) H1) (tM_bnd rl1 sl1 run1 fun y φ2 G2 H2 wy f2 rl2 sl2 sy run2 => by
          have sy : wy = y := sy
          subst sy
          exact run2.here rl2 (.bl _))
        obtain ⟨φ', G', sw', r1, r2, r3⟩ := q
        exact ⟨φ', G', sw', r1, r2, r3.imp fun b H' ⟨k, e, q⟩ => by subst e; exact q⟩
      | false => exact run1.here rl1 (.bl _)),
  ⟨fun _ _ => rfl, fun _ _ => rfl, fun _ => rfl, fun _ _ => rfl, fun _ _ _ _ => rfl⟩⟩
theorem HE.or {rest : List Expr} (ha : HE Z N sc F a ca) (hb : HE Z N sc F (.BoolOp .Or (b :: rest) pos) cb) : HE Z N sc F (.BoolOp .Or (a :: b :: rest) pos) (.or ca cb) :=
  ⟨fun n W X g => PE_of (pe_or (ha.run n W X g) (hb.run n W X g)) fun σ H Q ⟨φ, G, sw, rl, sl, run⟩ => by
    simp only [ev] at run
    exact tT_of (Q := fun c H1 => if c = true then Q (.bl true) H1 else tE Z W (ev (Z.cl n) Z.gk cb) σ H1 Q) (tM_bnd rl sl run fun x φ1 G1 H1 wx f1 rl1 sl1 sx run1 => by
      have sx : wx = x := sx
      subst sx
      cases wx with
      | false =>
        rw [if_neg (by decide)]
        have q := tT_of (n := n) (W := W) (σ := σ) (Q := fun c H1 => Q (.bl c) H1) (tM_bnd rl1 sl1 run1 fun y φ2 G2 H2 wy f2 rl2 sl2 sy run2 => by
          have sy : wy = y := sy
          subst sy
          exact run2.here rl2 (.bl _))
        obtain ⟨φ', G', sw', r1, r2, r3⟩ := q
        exact ⟨φ', G', sw', r1, r2, r3.imp fun b H' ⟨k, e, q⟩ => by subst e; exact q⟩
      | true => exact run1.here rl1 (.bl _)),
  ⟨fun _ _ => rfl, fun _ _ => rfl, fun _ => rfl, fun _ _ => rfl, fun _ _ _ _ => rfl⟩⟩
theorem HE.ife {t : Expr} {ct : E} (ht : HT Z N sc F t ct) (ha : HE Z N sc F a ca) (hb : HE Z N sc F b cb) : HE Z N sc F (.IfExp t a b pos) (.ife ct ca cb) :=
  ⟨fun n W X g => PE_of (pe_ifExp (ht.run n W X g) (ha.run n W X g) (hb.run n W X g)) fun σ H Q ⟨φ, G, sw, rl, sl, run⟩ => by
    simp only [ev] at run
    exact tM_bnd rl sl run fun x φ1 G1 H1 wx f1 rl1 sl1 sx run1 => by
      have sx : wx = x := sx
      subst sx
      cases wx with
      | true => exact tM_all rl1 sl1 run1 fun _ _ q => q
      | false => exact tM_all rl1 sl1 run1 fun _ _ q => q,
  ⟨fun _ _ => rfl, fun _ _ => rfl, fun _ => rfl, fun _ _ => rfl, fun _ _ _ _ => rfl⟩⟩

/-! #### displays, subscripts -/
theorem HA.nil : HA Z N sc F [] .nil := ⟨fun n W X g => PA_of pa_nil fun σ H Q ⟨φ, G, sw, rl, sl, run⟩ => by
  simp only [evs] at run
  exact run.here rl .nil, fun _ => rfl⟩
theorem HA.cons (ha : HE Z N sc F e c) (hr : HA Z N sc F es cs) : HA Z N sc F (e :: es) (.cons c cs) := ⟨fun n W X g => PA_of (pa_cons (ha.run n W X g) (hr.run n W X g) (ha.sx.p1 X.env es)) fun σ H Q ⟨φ, G, sw, rl, sl, run⟩ => by
  simp only [evs] at run
  exact tM_bnd rl sl run fun x φ1 G1 H1 wx f1 rl1 sl1 sx run1 => tM_bnd rl1 sl1 run1 fun ys φ2 G2 H2 wy f2 rl2 sl2 sy run2 => run2.here rl2 (.cons (Sim.keep f2 rl1.ours sx) sy), fun env => by
  rw [ha.sx.p1 env es, hr.st env, List.map_cons]⟩
theorem HE.tup {k : Nat} (ha : HA Z N sc F es cs) : HE Z N sc F (.Tuple es k pos) (.tup cs) :=
  ⟨fun n W X g => PE_of (pe_tup (ha.run n W X g)) fun σ H Q ⟨φ, G, sw, rl, sl, run⟩ => by
    simp only [ev] at run
    exact tM_bnd rl sl run fun vs φ1 G1 H1 ws f1 rl1 sl1 ss run1 => by
      split at run1
      · rename_i hz
        have ss : Sims Z.toEv0 φ1 H1 ws vs := ss
        refine ⟨by rw [← ss.len]; exact line_eq (szOk_iff.mp hz), fun p hp => ?_⟩
        exact run1 φ1 _ _ (Fr.new hp) (rl1.new hp) (.tup upd_same (ss.keep (Fr.new hp) rl1.ours))
      · exact run1.elim,
  ⟨fun _ _ => rfl, fun _ _ => rfl, fun _ => rfl, fun _ _ => rfl, fun _ _ _ _ => rfl⟩⟩
theorem HE.lst {m : Bool} (ha : HA Z N sc F es cs) : HE Z N sc F (.List es pos) (.lst m cs) :=
  ⟨fun n W X g => PE_of (pe_lst (ha.run n W X g)) fun σ H Q ⟨φ, G, sw, rl, sl, run⟩ => by
    simp only [ev] at run
    exact tM_bnd rl sl run fun vs φ1 G1 H1 ws f1 rl1 sl1 ss run1 => run1.mkL rl1 ss,
  ⟨fun _ _ => rfl, fun _ _ => rfl, fun _ => rfl, fun _ _ => rfl, fun _ _ _ _ => rfl⟩⟩
theorem HO'.no : HO' Z N sc F none .no := ⟨fun n W X g => PO_of po_none fun σ H Q ⟨φ, G, sw, rl, sl, run⟩ => by
  simp only [evO] at run
  exact run.here rl rfl⟩
theorem HO'.yes (ha : HE Z N sc F e c) : HO' Z N sc F (some e) (.yes c) := ⟨fun n W X g => PO_of (po_some (ha.run n W X g)) fun σ H Q ⟨φ, G, sw, rl, sl, run⟩ => by
  simp only [evO] at run
  exact tM_bnd rl sl run fun x φ1 G1 H1 wx f1 rl1 sl1 sx run1 => by
    cases sx with
    | int i => exact ⟨i, rfl, run1.here rl1 rfl⟩
    | _ => exact run1.elim⟩
theorem HE.slc {m : Bool} {lo hi : Option Expr} {cl ch : Op} (ha : HE Z N sc F a ca) (hl : HO' Z N sc F lo cl) (hh : HO' Z N sc F hi ch) : HE Z N sc F (.Subscript a (.Slice lo hi none p1) pos) (.slc m ca cl ch) :=
  ⟨fun n W X g => PE_of (pe_slice (s_slc g.gd) (ha.run n W X g) (hl.run n W X g) (hh.run n W X g)) fun σ H Q ⟨φ, G, sw, rl, sl, run⟩ => by
    simp only [ev] at run
    exact tM_bnd rl sl run fun x φ1 G1 H1 wx f1 rl1 sl1 sx run1 => tM_bnd rl1 sl1 run1 fun l φ2 G2 H2 wl f2 rl2 sl2 el run2 => tM_bnd rl2 sl2 run2 fun h φ3 G3 H3 wh f3 rl3 sl3 eh run3 => by
      have el : wl = l := el
      have eh : wh = h := eh
      subst el eh
      exact ⟨_, φ3, G3, wx, rl3, Sim.keep f3 rl2.ours (Sim.keep f2 rl1.ours sx), run3⟩,
  ⟨fun _ _ => rfl, fun _ _ => rfl, fun _ => rfl, fun _ _ => rfl, fun _ _ _ _ => rfl⟩⟩
end
end T2
end

section
set_option linter.all false
set_option autoImplicit false
set_option maxRecDepth 100000
set_option maxHeartbeats 2000000
/-! T2: subscripts, calls, by the language. -/
namespace T2
open PySem L2
section
variable {Z : Ev2} {N : List Str} {sc : Scope} {F : Str → Bool} {e a b c₁ : Expr} {c ca cb cc : E} {pos p p1 p2 : Pos} {es : List Expr} {cs : Es} {x : Str}
theorem keyL_inj {a b : T2.W} {k : Key} (ha : keyL a = some k) (hb : keyL b = some k) : a = b := by
  cases a with
  | int i =>
    cases ha
    cases b with
    | int j => simp [keyL] at hb; rw [hb]
    | str y => simp [keyL] at hb
    | _ => cases hb
  | str x =>
    cases ha
    cases b with
    | int j => simp [keyL] at hb
    | str y => simp [keyL] at hb; rw [hb]
    | _ => cases hb
  | _ => cases ha
theorem keysL_inj : ∀ {a b : List T2.W} {k : List Key}, keysL a = some k → keysL b = some k → a = b
  | [], [], _, _, _ => rfl
  | [], y :: ys, k, ha, hb => by
    simp [keysL] at ha
    subst ha
    cases h1 : keyL y <;> cases h2 : keysL ys <;> simp [keysL, h1, h2] at hb
  | x :: xs, [], k, ha, hb => by
    simp [keysL] at hb
    subst hb
    cases h1 : keyL x <;> cases h2 : keysL xs <;> simp [keysL, h1, h2] at ha
  | x :: xs, y :: ys, k, ha, hb => by
    cases h1 : keyL x with
    | none => simp [keysL, h1] at ha
    | some k1 =>
      cases h2 : keysL xs with
      | none => simp [keysL, h1, h2] at ha
      | some k2 =>
        cases h3 : keyL y with
        | none => simp [keysL, h3] at hb
        | some k3 =>
          cases h4 : keysL ys with
          | none => simp [keysL, h3, h4] at hb
          | some k4 =>
            simp [keysL, h1, h2] at ha
            simp [keysL, h3, h4] at hb
            subst ha
            simp at hb
            rw [keyL_inj h1 (by rw [h3, hb.1]), keysL_inj h2 (by rw [h4, hb.2])]
theorem keyT_inj {a b : T2.W} {k : List Key} (ha : keyT a = some k) (hb : keyT b = some k) : a = b := by
  cases a with
  | tup xs =>
    cases b with
    | tup ys => rw [keysL_inj (a := xs) (b := ys) ha hb]
    | _ => cases hb
  | _ => cases ha
theorem keysL_ok : ∀ {xs : List T2.W}, xs.all keyA = true → ∃ k, keysL xs = some k
  | [], _ => ⟨[], rfl⟩
  | x :: xs, h => by
    simp only [List.all_cons, Bool.and_eq_true] at h
    obtain ⟨k, e⟩ := keysL_ok h.2
    cases x with
    | int i => exact ⟨_, by simp only [keysL, keyL, e] <;> rfl⟩
    | str i => exact ⟨_, by simp only [keysL, keyL, e] <;> rfl⟩
    | _ => simp [keyA] at h
theorem keyT_ok {k : T2.W} (h : keyOk k = true) : ∃ kk, keyT k = some kk := by
  cases k with
  | tup xs => exact keysL_ok h
  | _ => cases h
theorem keys_vals {φ : Ad} {H : Hp} : ∀ {xs : List T2.W} {vs : List V} {k : List Key}, Sims Z.toEv0 φ H xs vs → keysL xs = some k → vs = k.map kV
  | _, _, k, .nil, h => by
    simp [keysL] at h
    subst h
    rfl
  | _, _, k, .cons (w := w) (ws := ws) h r, e => by
    cases h1 : keyL w with
    | none => simp [keysL, h1] at e
    | some k1 =>
      cases h2 : keysL ws with
      | none => simp [keysL, h1, h2] at e
      | some k2 =>
        simp [keysL, h1, h2] at e
        subst e
        rw [keys_vals r h2, List.map_cons]
        congr 1
        cases h <;> cases h1 <;> rfl
theorem key_at {φ : Ad} {H : Hp} {k : T2.W} {y : V} {kk : List Key} (s : Sim Z.toEv0 φ H k y) (h : keyT k = some kk) : ∃ b, y = .ref b ∧ H b = some (.tup (kk.map kV)) := by
  cases s with
  | @tup a ws vs q ss => exact ⟨a, rfl, by rw [q, keys_vals ss h]⟩
  | _ => cases h
theorem dsim_eq {k k' : T2.W} {kk kk' : List Key} (h : keyT k = some kk) (h' : keyT k' = some kk') : decide (k' = k) = decide (kk' = kk) := by
  by_cases e : k' = k
  · subst e
    rw [h] at h'
    cases h'
    simp
  · rw [decide_eq_false e, decide_eq_false fun z => e (by subst z; exact keyT_inj h' h)]
theorem DSim.get {φ : Ad} {H : Hp} {k w : T2.W} {kk : List Key} (h : keyT k = some kk) : ∀ {kvs : List (T2.W × T2.W)} {ks : List (List Key × V)}, DSim Z.toEv0 φ H kvs ks → dget kvs k = some w → ∃ v, valV ks kk = some v ∧ Sim Z.toEv0 φ H w v
  | _, _, .nil, e => by simp [dget] at e
  | _, _, .cons (k := k1) (w := w1) (kk := kk1) (v := v1) (r := r) (q := q) h1 s t, e => by
    by_cases z : k1 = k
    · have z2 : kk1 = kk := by
        subst z
        rw [h1] at h
        exact Option.some.inj h
      have : w1 = w := by simpa [dget, List.find?_cons, z] using e
      subst this
      exact ⟨v1, by simp [valV, List.find?_cons, z2], s⟩
    · have z2 : ¬ kk1 = kk := fun y => z (by subst y; exact keyT_inj h1 h)
      have e' : dget r k = some w := by simpa [dget, List.find?_cons, z] using e
      obtain ⟨v, h2, s2⟩ := DSim.get h t e'
      exact ⟨v, by rw [valV_neg z2]; exact h2, s2⟩
theorem DSim.len {φ : Ad} {H : Hp} : ∀ {kvs : List (T2.W × T2.W)} {ks : List (List Key × V)}, DSim Z.toEv0 φ H kvs ks → kvs.length = ks.length
  | _, _, .nil => rfl
  | _, _, .cons _ _ t => by rw [List.length_cons, List.length_cons, t.len]
theorem DSim.any {φ : Ad} {H : Hp} {k : T2.W} {kk : List Key} (h : keyT k = some kk) : ∀ {kvs : List (T2.W × T2.W)} {ks : List (List Key × V)}, DSim Z.toEv0 φ H kvs ks → (kvs.any fun p => decide (p.1 = k)) = ks.any fun p => decide (p.1 = kk)
  | _, _, .nil => rfl
  | _, _, .cons h1 _ t => by
    rw [List.any_cons, List.any_cons, DSim.any h t]
    congr 1
    exact dsim_eq h h1
theorem DSim.map {φ : Ad} {H : Hp} {k w : T2.W} {v : V} {kk : List Key} (h : keyT k = some kk) (s : Sim Z.toEv0 φ H w v) : ∀ {kvs : List (T2.W × T2.W)} {ks : List (List Key × V)}, DSim Z.toEv0 φ H kvs ks → DSim Z.toEv0 φ H (kvs.map fun p => if p.1 = k then (p.1, w) else p) (ks.map fun p => if p.1 = kk then (p.1, v) else p)
  | _, _, .nil => .nil
  | _, _, .cons (k := k1) (kk := kk1) h1 s1 t => by
    rw [List.map_cons, List.map_cons]
    have e := dsim_eq h h1
    by_cases z : k1 = k
    · have z2 : kk1 = kk := by simpa [z] using e.symm
      simp only [z, z2, if_true]
      exact .cons h s (DSim.map h s t)
    · have z2 : ¬ kk1 = kk := by simpa [z] using e.symm
      simp only [z, z2, if_false]
      exact .cons h1 s1 (DSim.map h s t)
theorem DSim.app {φ : Ad} {H : Hp} {k w : T2.W} {v : V} {kk : List Key} (h : keyT k = some kk) (s : Sim Z.toEv0 φ H w v) : ∀ {kvs : List (T2.W × T2.W)} {ks : List (List Key × V)}, DSim Z.toEv0 φ H kvs ks → DSim Z.toEv0 φ H (kvs ++ [(k, w)]) (ks ++ [(kk, v)])
  | _, _, .nil => .cons h s .nil
  | _, _, .cons h1 s1 t => .cons h1 s1 (DSim.app h s t)
def putD (kvs : List (T2.W × T2.W)) (k w : T2.W) : List (T2.W × T2.W) := if kvs.any (fun p => decide (p.1 = k)) then kvs.map (fun p => if p.1 = k then (p.1, w) else p) else kvs ++ [(k, w)]
theorem DSim.put {φ : Ad} {H : Hp} {k w : T2.W} {v : V} {kk : List Key} (h : keyT k = some kk) (s : Sim Z.toEv0 φ H w v) {kvs : List (T2.W × T2.W)} {ks : List (List Key × V)} (d : DSim Z.toEv0 φ H kvs ks) : DSim Z.toEv0 φ H (putD kvs k w) (putK ks kk v) := by
  unfold putD putK
  rw [DSim.any h d]
  split
  · exact DSim.map h s d
  · exact DSim.app h s d
theorem s_dct {n : Nat} {X : Cx} (g : Gd Z.toEv1 n X) : IxR X (fun x y H Q => ∃ (E : XK) (φ : Ad) (G : List O) (r : Nat) (kvs : List (W × W)) (wy : W), G[r]? = some (.dct kvs) ∧ Rel Z.toEv0 φ G H ∧ Sim Z.toEv0 φ H (.ref r) x ∧ Sim Z.toEv0 φ H wy y ∧ Run Z.toEv1 E (SimR Z.toEv1) (idxW (.ref r) wy G) φ H Q) := by
  intro value slice pins s σ H x y v u Q I rx ry ⟨E, φ, G, r, kvs, wy, hG, rl, sx, sy, run⟩ hs
  have hlk : look (.ref r) G = .ref r := by simp [look, hG]
  simp only [idxW, hlk, hG] at run
  cases sx with
  | @ref _ a hi =>
    have q := rl.obj r _ _ hi hG
    cases q with
    | @dct _ ks h1 d =>
      split at run
      case isFalse => exact run.elim
      rename_i hk
      obtain ⟨kk, ek⟩ := keyT_ok hk
      cases hd : dget kvs wy with
      | none => simp only [hd] at run; exact run.elim
      | some w =>
        simp only [hd] at run
        obtain ⟨z, ev_, sz⟩ := DSim.get ek d hd
        obtain ⟨b, rfl, hb⟩ := key_at sy ek
        obtain rfl : v = Value.ref a := rx
        have gg : DGet H a (.ref b) (some z) := by
          rw [← ev_]
          exact DGet.t h1 hb
        exact PyProof.Rows.tail_any (dict_typeIs I gg) PySem.F.slot_dict_getitem.lookup (d_getItem (by have := g.u; omega) I gg ry fun w' s3 I3 rw' => ⟨z, H, I3, rw', run.here rl sz⟩) hs
theorem HE.idx (ha : HE Z N sc F a ca) (hb : HE Z N sc F b cb) : HE Z N sc F (.Subscript a b pos) (.idx ca cb) :=
  ⟨fun n W X g => PE_of (pe_ix (s_idx g.gd (s_dct g.gd)) (ha.run n W X g) (hb.run n W X g) hb.sx.ix) fun σ H Q ⟨φ, G, sw, rl, sl, run⟩ => by
    simp only [ev] at run
    exact tM_bnd rl sl run fun x φ1 G1 H1 wx f1 rl1 sl1 sx run1 => tM_bnd rl1 sl1 run1 fun y φ2 G2 H2 wy f2 rl2 sl2 sy run2 => ⟨_, φ2, G2, wx, wy, rl2, Sim.keep f2 rl1.ours sx, sy, run2⟩,
  ⟨fun _ _ => rfl, fun _ _ => rfl, fun _ => rfl, fun _ _ => rfl, fun _ _ _ _ => rfl⟩⟩

/-! #### is -/
theorem isN_pe {n : Nat} {W : WX} {ng : Bool} {σ : L2.St} {H : Hp} {Q : VK} (h : tE Z W (ev (Z.cl n) Z.gk (.isk ng .non ca)) σ H Q) : tE Z W (ev (Z.cl n) Z.gk ca) σ H fun x H1 => Q (.bl (decide (x = .non) != ng)) H1 := by
  obtain ⟨φ, G, sw, rl, sl, run⟩ := h
  simp only [ev] at run
  refine tM_bnd rl sl run fun x φ1 G1 H1 wx f1 rl1 sl1 sx run1 => ?_
  have key : ∀ (b : Bool), decide (x = .non) = b → Run Z.toEv1 (Er W) (SimR Z.toEv1) (.ok (.bl (b != ng)) G1) φ1 H1 Q → Q (.bl (decide (x = .non) != ng)) H1 := fun b e r => by
    rw [e]
    exact r.here rl1 (.bl _)
  cases sx with
  | fn k => exact run1.elim
  | non => exact key true (by decide) run1
  | _ => exact key false (by simp) run1
theorem HE.isN (ha : HE Z N sc F a ca) {j : Nat} : HE Z N sc F (.Compare a [.Is] [.Constant .none j p1] pos) (.isk false .non ca) :=
  ⟨fun n W X g => PE_of (pe_cmpR op_isN (ha.run n W X g) pe_non (nomark _)) fun σ H Q h => by
    obtain ⟨φ, G, sw, rl, sl, run⟩ := isN_pe h
    exact ⟨φ, G, sw, rl, sl, run.imp fun x H1 q => ⟨rfl, by simpa using q⟩⟩,
  ⟨fun _ _ => rfl, fun _ _ => rfl, fun _ => rfl, fun _ _ => rfl, fun _ _ _ _ => rfl⟩⟩
theorem HT.isN (ha : HE Z N sc F a ca) {j : Nat} : HT Z N sc F (.Compare a [.Is] [.Constant .none j p1] pos) (.isk false .non ca) :=
  ⟨fun n W X g => PT_of (pt_cmpR op_isN (ha.run n W X g) pe_non (nomark _)) fun σ H Q h => by
    obtain ⟨φ, G, sw, rl, sl, run⟩ := isN_pe (tT_of h)
    exact ⟨φ, G, sw, rl, sl, run.imp fun x H1 ⟨k, e, q⟩ => ⟨rfl, k, by simpa using e, q⟩⟩⟩
theorem HE.isnN (ha : HE Z N sc F a ca) {j : Nat} : HE Z N sc F (.Compare a [.IsNot] [.Constant .none j p1] pos) (.isk true .non ca) :=
  ⟨fun n W X g => PE_of (pe_cmpR op_notN (ha.run n W X g) pe_non (nomark _)) fun σ H Q h => by
    obtain ⟨φ, G, sw, rl, sl, run⟩ := isN_pe h
    exact ⟨φ, G, sw, rl, sl, run.imp fun x H1 q => ⟨rfl, by simpa using q⟩⟩,
  ⟨fun _ _ => rfl, fun _ _ => rfl, fun _ => rfl, fun _ _ => rfl, fun _ _ _ _ => rfl⟩⟩
theorem HT.isnN (ha : HE Z N sc F a ca) {j : Nat} : HT Z N sc F (.Compare a [.IsNot] [.Constant .none j p1] pos) (.isk true .non ca) :=
  ⟨fun n W X g => PT_of (pt_cmpR op_notN (ha.run n W X g) pe_non (nomark _)) fun σ H Q h => by
    obtain ⟨φ, G, sw, rl, sl, run⟩ := isN_pe (tT_of h)
    exact ⟨φ, G, sw, rl, sl, run.imp fun x H1 ⟨k, e, q⟩ => ⟨rfl, k, by simpa using e, q⟩⟩⟩

/-! #### built-ins by name -/
theorem HE.callB {B : Blt} {id : String} (gz : Good Z) (hc : ∀ n X, Gd Z.toEv1 n X → CallR X (.builtin id) (rCS Z.toEv1 (bltW B))) (hm : x ∈ Z.nb) (hg : glB sc x = true) (hv : bootBuiltins x = some (.builtin id)) (hn : nmB x = false) (ha : HA Z N sc F (e :: es) cs) :
    HE Z N sc F (.Call (.Name x p) (e :: es) [] pos) (.blt B cs) :=
  ⟨fun n W X g => PE_of (pe_callB (hc n X g.gd) (glB_ok hg g.sc) (by rw [g.mg]; exact gz.nb x hm) hv (ha.run n W X g) (nmB_3 hn) (nmB_1 hn) (ha.hs X.env) (by
      have q := ha.hpl X.env pos
      rw [ha.hs] at q
      exact q)) fun σ H Q ⟨φ, G, sw, rl, sl, run⟩ => by
    simp only [ev] at run
    exact tM_bnd rl sl run fun vs φ1 G1 H1 ws f1 rl1 sl1 ss run1 => ⟨_, φ1, G1, ws, rl1, ss, run1⟩,
  ⟨fun _ _ => rfl, fun _ _ => rfl, fun _ => rfl, fun _ _ => rfl, fun _ _ _ _ => rfl⟩⟩
theorem HE.callTy {B : Blt} {id : String} (gz : Good Z) (hc : ∀ n X, Gd Z.toEv1 n X → CallR X (.type id) (rCS Z.toEv1 (bltW B))) (hm : x ∈ Z.nb) (hg : glB sc x = true) (hv : bootBuiltins x = some (.type id)) (hn : nmB x = false) (ha : HA Z N sc F (e :: es) cs) :
    HE Z N sc F (.Call (.Name x p) (e :: es) [] pos) (.blt B cs) :=
  ⟨fun n W X g => PE_of (pe_callTy (hc n X g.gd) (glB_ok hg g.sc) (by rw [g.mg]; exact gz.nb x hm) hv (ha.run n W X g) (nmB_3 hn) (nmB_1 hn) (ha.hs X.env) (by
      have q := ha.hpl X.env pos
      rw [ha.hs] at q
      exact q)) fun σ H Q ⟨φ, G, sw, rl, sl, run⟩ => by
    simp only [ev] at run
    exact tM_bnd rl sl run fun vs φ1 G1 H1 ws f1 rl1 sl1 ss run1 => ⟨_, φ1, G1, ws, rl1, ss, run1⟩,
  ⟨fun _ _ => rfl, fun _ _ => rfl, fun _ => rfl, fun _ _ => rfl, fun _ _ _ _ => rfl⟩⟩
theorem HE.len (gz : Good Z) (hm : ("len" : Str) ∈ Z.nb) (hg : glB sc "len" = true) (ha : HA Z N sc F (e :: es) cs) : HE Z N sc F (.Call (.Name "len" p) (e :: es) [] pos) (.blt .len cs) := .callB gz (fun n X g => b_len g) hm hg boot_len (by decide) ha
theorem HE.int_ (gz : Good Z) (hm : ("int" : Str) ∈ Z.nb) (hg : glB sc "int" = true) (ha : HA Z N sc F (e :: es) cs) : HE Z N sc F (.Call (.Name "int" p) (e :: es) [] pos) (.blt .int cs) := .callTy gz (fun n X g => b_int) hm hg (by decide +kernel) (by decide) ha
theorem HE.abs (gz : Good Z) (hm : ("abs" : Str) ∈ Z.nb) (hg : glB sc "abs" = true) (ha : HA Z N sc F (e :: es) cs) : HE Z N sc F (.Call (.Name "abs" p) (e :: es) [] pos) (.blt .abs cs) := .callB gz (fun n X g => b_abs) hm hg (by decide +kernel) (by decide) ha
theorem HE.min1 (gz : Good Z) (hm : ("min" : Str) ∈ Z.nb) (hg : glB sc "min" = true) (ha : HA Z N sc F (e :: es) cs) : HE Z N sc F (.Call (.Name "min" p) (e :: es) [] pos) (.blt .min1 cs) := .callB gz (fun n X g => b_min1 g) hm hg (by decide +kernel) (by decide) ha
theorem HE.max1 (gz : Good Z) (hm : ("max" : Str) ∈ Z.nb) (hg : glB sc "max" = true) (ha : HA Z N sc F (e :: es) cs) : HE Z N sc F (.Call (.Name "max" p) (e :: es) [] pos) (.blt .max1 cs) := .callB gz (fun n X g => b_max1 g) hm hg (by decide +kernel) (by decide) ha
theorem HE.min2 (gz : Good Z) (hm : ("min" : Str) ∈ Z.nb) (hg : glB sc "min" = true) (ha : HA Z N sc F (e :: es) cs) : HE Z N sc F (.Call (.Name "min" p) (e :: es) [] pos) (.blt .min2 cs) := .callB gz (fun n X g => b_min2 g) hm hg (by decide +kernel) (by decide) ha
theorem HE.max2 (gz : Good Z) (hm : ("max" : Str) ∈ Z.nb) (hg : glB sc "max" = true) (ha : HA Z N sc F (e :: es) cs) : HE Z N sc F (.Call (.Name "max" p) (e :: es) [] pos) (.blt .max2 cs) := .callB gz (fun n X g => b_max2 g) hm hg (by decide +kernel) (by decide) ha
theorem HE.sum (gz : Good Z) (hm : ("sum" : Str) ∈ Z.nb) (hg : glB sc "sum" = true) (ha : HA Z N sc F (e :: es) cs) : HE Z N sc F (.Call (.Name "sum" p) (e :: es) [] pos) (.blt .sum cs) := .callB gz (fun n X g => b_sum g) hm hg (by decide +kernel) (by decide) ha
theorem HE.any (gz : Good Z) (hm : ("any" : Str) ∈ Z.nb) (hg : glB sc "any" = true) (ha : HA Z N sc F (e :: es) cs) : HE Z N sc F (.Call (.Name "any" p) (e :: es) [] pos) (.blt .any cs) := .callB gz (fun n X g => b_any g) hm hg (by decide +kernel) (by decide) ha
theorem HE.all (gz : Good Z) (hm : ("all" : Str) ∈ Z.nb) (hg : glB sc "all" = true) (ha : HA Z N sc F (e :: es) cs) : HE Z N sc F (.Call (.Name "all" p) (e :: es) [] pos) (.blt .all cs) := .callB gz (fun n X g => b_all g) hm hg (by decide +kernel) (by decide) ha
theorem HE.tuple (gz : Good Z) (hm : ("tuple" : Str) ∈ Z.nb) (hg : glB sc "tuple" = true) (ha : HA Z N sc F (e :: es) cs) : HE Z N sc F (.Call (.Name "tuple" p) (e :: es) [] pos) (.blt .tuple cs) := .callTy gz (fun n X g => b_tuple g) hm hg (by decide +kernel) (by decide) ha
theorem HE.list {m : Bool} (gz : Good Z) (hm : ("list" : Str) ∈ Z.nb) (hg : glB sc "list" = true) (ha : HA Z N sc F (e :: es) cs) : HE Z N sc F (.Call (.Name "list" p) (e :: es) [] pos) (.blt (.list m) cs) := .callTy gz (fun n X g => b_list g) hm hg (by decide +kernel) (by decide) ha
theorem HE.sorted {m : Bool} (gz : Good Z) (hm : ("sorted" : Str) ∈ Z.nb) (hg : glB sc "sorted" = true) (ha : HA Z N sc F (e :: es) cs) : HE Z N sc F (.Call (.Name "sorted" p) (e :: es) [] pos) (.blt (.sorted m) cs) := .callB gz (fun n X g => b_sorted g) hm hg (by decide +kernel) (by decide) ha

/-! #### isinstance -/
def Kd.nm : Kd → String
  | .int => "int" | .bool => "bool" | .str => "str" | .tuple => "tuple" | .list => "list"
/-- the type's name of a value -/
def tyN : W → List O → Option String
  | .non, _ => some "NoneType"
  | .bl _, _ => some "bool"
  | .int _, _ => some "int"
  | .str _, _ => some "str"
  | .tup _, _ => some "tuple"
  | .lst _, _ => some "list"
  | .scr _, _ => some "list"
  | .ref i, G => match G[i]? with
    | some (.lst _) => some "list"
    | _ => none
  | .fn _, _ => none
theorem kit_kd : ∀ (t : String), t ∈ ["NoneType", "bool", "int", "str", "tuple", "list"] → ∀ k : Kd, kitB t k.nm = some (decide (t = k.nm) || (decide (t = "bool") && decide (k = .int))) := by
  intro t ht k
  simp only [List.mem_cons, List.not_mem_nil, or_false] at ht
  rcases ht with rfl | rfl | rfl | rfl | rfl | rfl <;> cases k <;> decide +kernel
theorem isKd_ty {w : W} {G : List O} {k : Kd} {r : Bool} (h : isKd w k G = some r) : ∃ t, tyN w G = some t ∧ t ∈ ["NoneType", "bool", "int", "str", "tuple", "list"] ∧ r = (decide (t = k.nm) || (decide (t = "bool") && decide (k = .int))) := by
  cases w with
  | ref i =>
    cases hG : G[i]? with
    | none => simp [isKd, hG] at h
    | some o =>
      cases o with
      | dct _ => simp [isKd, hG] at h
      | lst ws =>
        simp only [isKd, hG] at h
        refine ⟨"list", by simp [tyN, hG], by decide, ?_⟩
        cases h
        cases k <;> decide
  | fn k => simp [isKd] at h
  | non => exact ⟨"NoneType", rfl, by decide, by cases k <;> (simp [isKd] at h; subst h; decide)⟩
  | bl b => exact ⟨"bool", rfl, by decide, by cases k <;> (simp [isKd] at h; subst h; decide)⟩
  | int b => exact ⟨"int", rfl, by decide, by cases k <;> (simp [isKd] at h; subst h; decide)⟩
  | str b => exact ⟨"str", rfl, by decide, by cases k <;> (simp [isKd] at h; subst h; decide)⟩
  | tup b => exact ⟨"tuple", rfl, by decide, by cases k <;> (simp [isKd] at h; subst h; decide)⟩
  | lst b => exact ⟨"list", rfl, by decide, by cases k <;> (simp [isKd] at h; subst h; decide)⟩
  | scr b => exact ⟨"list", rfl, by decide, by cases k <;> (simp [isKd] at h; subst h; decide)⟩
theorem ty_sim {φ : Ad} {G : List O} {H : Hp} {w : W} {v : V} {t : String} (r : Rel Z.toEv0 φ G H) (s : Sim Z.toEv0 φ H w v) (h : tyN w G = some t) : TyX Z.K H v (.type t) := by
  cases s with
  | non => cases h; exact .base .non
  | bl b => cases h; exact .base (.bl b)
  | int b => cases h; exact .base (.int b)
  | str b => cases h; exact .base (.str _)
  | tup q _ =>
    cases h
    exact .base (.tup q)
  | lst q _ => cases h; exact .base (.lst q.2.2)
  | scr q _ =>
    cases h
    rcases q with ⟨_, _, q | ⟨o, q⟩⟩ | ⟨o, its, n, h1, h2, _⟩
    · exact .base (.lst q)
    · exact .base (.frz q)
    · exact .kList h1 h2
  | @ref i a hi =>
    cases hG : G[i]? with
    | none => simp [tyN, hG] at h
    | some o =>
      cases o with
      | dct _ => simp [tyN, hG] at h
      | lst ws =>
        simp only [tyN, hG] at h
        cases h
        have q := r.obj i _ _ hi hG
        cases q with
        | lst h1 _ => exact .base (.lst h1)
  | fn k => cases h
theorem HE.isi {k : Kd} (gz : Good Z) (hm : ("isinstance" : Str) ∈ Z.nb) (hg : glB sc "isinstance" = true) (hm2 : (Str.ofString k.nm) ∈ Z.nb) (hg2 : glB sc (Str.ofString k.nm) = true) (hv : bootBuiltins (Str.ofString k.nm) = some (.type k.nm)) (ha : HE Z N sc F a ca) :
    HE Z N sc F (.Call (.Name "isinstance" p) [a, .Name (Str.ofString k.nm) p1] [] pos) (.isi ca [k]) :=
  ⟨fun n W X g => PE_of (pe_callB call_isi (glB_ok hg g.sc) (by rw [g.mg]; exact gz.nb _ hm) (by decide +kernel)
      (pa_cons (ha.run n W X g) (pa_cons (pe_bltn (v := .ty k.nm) (glB_ok hg2 g.sc) (by rw [g.mg]; exact gz.nb _ hm2) hv rfl (by cases k <;> decide) (by cases k <;> decide)) pa_nil) (ha.sx.p1 _ _)) (by decide) (by decide) (ha.sx.p1 _ _)) fun σ H Q ⟨φ, G, sw, rl, sl, run⟩ => by
    simp only [ev] at run
    refine tM_bnd rl sl run fun x φ1 G1 H1 wx f1 rl1 sl1 sx run1 => ?_
    cases h : isKds wx G1 [k] with
    | none => simp only [h] at run1; exact run1.elim
    | some r =>
      simp only [h] at run1
      have h' : isKd wx k G1 = some r := by
        unfold isKds at h
        cases q : isKd wx k G1 with
        | none => simp [q] at h
        | some b => cases b <;> simp [q, isKds] at h <;> simp [h]
      obtain ⟨t, h1, h2, h3⟩ := isKd_ty h'
      refine ⟨x, .ty k.nm, .type t, .type k.nm, r, rfl, .ty _, by rw [g.gd.K]; exact ty_sim rl1 sx h1, kit_ty (by rw [h3]; exact kit_kd t h2 k), run1.here rl1 (.bl _)⟩,
  ⟨fun _ _ => rfl, fun _ _ => rfl, fun _ => rfl, fun _ _ => rfl, fun _ _ _ _ => rfl⟩⟩

/-! #### methods -/
theorem rcv_ty {φ : Ad} {G : List O} {H : Hp} {w : W} {v : V} {B : Bm} (hB : B ≠ .join) (r : Rel Z.toEv0 φ G H) (s : Sim Z.toEv0 φ H w v) (h : rcv B w G = true) : tyV Z.K "list" v H := by
  have : ∃ i ws, w = .ref i ∧ G[i]? = some (.lst ws) := by
    cases w with
    | ref i =>
      cases hG : G[i]? with
      | none => cases B <;> simp [rcv, hG] at h
      | some o =>
        cases o with
        | lst ws => exact ⟨i, ws, rfl, hG⟩
        | dct _ => cases B <;> simp [rcv, hG] at h
    | str _ => cases B <;> first | exact absurd rfl hB | simp [rcv] at h
    | _ => cases B <;> simp [rcv] at h
  obtain ⟨i, ws, rfl, hG⟩ := this
  cases s with
  | ref hi =>
    have q := r.obj i _ _ hi hG
    cases q with
    | lst h1 _ => exact .inl ⟨rfl, _, .of h1⟩
theorem rcv_join {φ : Ad} {G : List O} {H : Hp} {w : W} {v : V} (s : Sim Z.toEv0 φ H w v) (h : rcv .join w G = true) : tyV Z.K "str" v H := by
  cases s with
  | str x => rfl
  | _ => simp [rcv] at h
theorem HE.bm1 {T id : String} {B : Bm} {nm : Str} {apos cpos : Pos} (pa : PlainAttrs T) (slot : Slot T nm id) (hty : typeOf (.builtin id) = pure (.type "method_descriptor")) (hm : ∀ n X, Gd Z.toEv1 n X → MtR X id (rMS Z.toEv1 B))
    (ht : ∀ φ G H w v, Rel Z.toEv0 φ G H → Sim Z.toEv0 φ H w v → rcv B w G = true → tyV Z.K T v H) (hab : ∀ env r, attributeBase a nm env r = r) (hl : (apos.endLine == cpos.line) = true) (ha : HE Z N sc F a ca) (hr : HA Z N sc F [e] cs) :
    HE Z N sc F (.Call (.Attribute a nm apos) [e] [] cpos) (.bm B ca cs) :=
  ⟨fun n W X g => PE_of (pe_bm pa slot hty (hm n X g.gd) (ha.run n W X g) (hr.run n W X g) (hab _ _) (by rw [hr.st X.env]; rfl) hl (hr.hs X.env)) fun σ H Q ⟨φ, G, sw, rl, sl, run⟩ => by
    simp only [ev] at run
    refine tM_bnd rl sl run fun x φ1 G1 H1 wx f1 rl1 sl1 sx run1 => ?_
    split at run1
    · rename_i hrc
      exact ⟨by rw [g.gd.K]; exact ht _ _ _ _ _ rl1 sx hrc, tM_bnd rl1 sl1 run1 fun ys φ2 G2 H2 ws f2 rl2 sl2 ss run2 => ⟨_, φ2, G2, wx, ws, rl2, Sim.keep f2 rl1.ours sx, ss, run2⟩⟩
    · exact run1.elim,
  ⟨fun _ _ => rfl, fun _ _ => rfl, fun _ => rfl, fun _ _ => rfl, fun _ _ _ _ => rfl⟩⟩
theorem HE.append {apos cpos : Pos} (hab : ∀ env r, attributeBase a "append" env r = r) (hl : (apos.endLine == cpos.line) = true) (ha : HE Z N sc F a ca) (hr : HA Z N sc F [e] cs) : HE Z N sc F (.Call (.Attribute a "append" apos) [e] [] cpos) (.bm .append ca cs) :=
  .bm1 PySem.F.plainAttrs_list PySem.F.slot_list_append PySem.F.type_list_append (fun n X g => m_append) (fun φ G H w v r s h => rcv_ty (by decide) r s h) hab hl ha hr
theorem HE.extend {apos cpos : Pos} (hab : ∀ env r, attributeBase a "extend" env r = r) (hl : (apos.endLine == cpos.line) = true) (ha : HE Z N sc F a ca) (hr : HA Z N sc F [e] cs) : HE Z N sc F (.Call (.Attribute a "extend" apos) [e] [] cpos) (.bm .extend ca cs) :=
  .bm1 PySem.F.plainAttrs_list PySem.F.slot_list_extend PySem.F.type_list_extend (fun n X g => m_extend) (fun φ G H w v r s h => rcv_ty (by decide) r s h) hab hl ha hr
theorem HE.popAt {apos cpos : Pos} (hab : ∀ env r, attributeBase a "pop" env r = r) (hl : (apos.endLine == cpos.line) = true) (ha : HE Z N sc F a ca) (hr : HA Z N sc F [e] cs) : HE Z N sc F (.Call (.Attribute a "pop" apos) [e] [] cpos) (.bm .popAt ca cs) :=
  .bm1 PySem.F.plainAttrs_list PySem.F.slot_list_pop PySem.F.type_list_pop (fun n X g => m_popAt) (fun φ G H w v r s h => rcv_ty (by decide) r s h) hab hl ha hr
theorem HE.join {apos cpos : Pos} (hab : ∀ env r, attributeBase a "join" env r = r) (hl : (apos.endLine == cpos.line) = true) (ha : HE Z N sc F a ca) (hr : HA Z N sc F [e] cs) : HE Z N sc F (.Call (.Attribute a "join" apos) [e] [] cpos) (.bm .join ca cs) :=
  .bm1 PySem.F.plainAttrs_str PySem.F.slot_str_join PySem.F.type_str_join (fun n X g => m_join g) (fun φ G H w v r s h => rcv_join s h) hab hl ha hr
theorem HE.pop {apos cpos : Pos} (hab : ∀ env r, attributeBase a "pop" env r = r) (hl : (apos.endLine == cpos.line) = true) (ha : HE Z N sc F a ca) : HE Z N sc F (.Call (.Attribute a "pop" apos) [] [] cpos) (.bm .pop ca .nil) :=
  ⟨fun n W X g => PE_of (pe_bm0 PySem.F.plainAttrs_list PySem.F.slot_list_pop PySem.F.type_list_pop m_pop (ha.run n W X g) (hab _ _) hl) fun σ H Q ⟨φ, G, sw, rl, sl, run⟩ => by
    simp only [ev, evs] at run
    refine tM_bnd rl sl run fun x φ1 G1 H1 wx f1 rl1 sl1 sx run1 => ?_
    split at run1
    · rename_i hrc
      exact ⟨by rw [g.gd.K]; exact rcv_ty (by decide) rl1 sx hrc, _, φ1, G1, wx, [], rl1, sx, .nil, run1⟩
    · exact run1.elim,
  ⟨fun _ _ => rfl, fun _ _ => rfl, fun _ => rfl, fun _ _ => rfl, fun _ _ _ _ => rfl⟩⟩
end
end T2
end

section
set_option linter.all false
set_option autoImplicit false
set_option maxRecDepth 100000
set_option maxHeartbeats 2000000
/-! T2: calls of the text's own defs. -/
namespace T2
open PySem L2
section
variable {Z : Ev0} {φ ψ : Ad} {G G1 : List O} {H H' : Hp}
/-- behind a call alone what was ours stands -/
theorem Rel.over (r : Rel Z φ G H) (f : Fr φ.shut H ψ H') : Rel Z φ G H' := by
  have g : Fr φ H φ H' := f.alone
  refine ⟨r.len, r.nd, fun i a o h1 h2 => ?_, fun a ha => ?_⟩
  · have q := r.obj i a o h1 h2
    obtain ⟨u, e, _⟩ := q.kind
    exact q.keep g r.ours ((f.keep a u (by simp [Ad.shut]) e).trans e.symm)
  · obtain ⟨u, e, n⟩ := r.ban a ha
    exact ⟨u, f.keep a u (by simp [Ad.shut]) e, n⟩
theorem shut_new (f : Fr φ.shut H ψ H') {a : Addr} (h : a ∈ ψ.l) : H a = none := by
  obtain ⟨t, e, n⟩ := f.more
  refine n a ?_
  rw [e] at h
  simpa [Ad.shut] using h
theorem shut_out (o : Ours φ H) (f : Fr φ.shut H ψ H') {a : Addr} (h : a ∈ ψ.l) : a ∉ φ.l ∧ a ∉ φ.m := by
  have e := shut_new f h
  constructor
  · intro hm
    obtain ⟨u, q, _⟩ := o a (.inl hm)
    rw [e] at q
    cases q
  · intro hm
    obtain ⟨u, q, _⟩ := o a (.inr hm)
    rw [e] at q
    cases q
theorem shut_free (f : Fr φ.shut H ψ H') : ∀ a o, H' a = some o → a ∉ ψ.l → a ∉ ψ.m → a ∉ φ.l ∧ a ∉ φ.m := fun a o _ _ h2 => by
  have q : a ∉ φ.shut.m := fun z => h2 (f.same.1 a z)
  simpa [Ad.shut] using q
/-- read off -/
theorem frz_sim (o : Ours φ H) (f : Fr φ.shut H ψ H') (r1 : Rel Z ψ G1 H') : ∀ {w : W} {w' : W} {v : V}, Sim Z ψ H' w v → frz G1 w = some w' → Sim Z φ H' w' v
  | .non, _, _, s, e => by simp [frz] at e; subst e; cases s; exact .non
  | .bl b, _, _, s, e => by simp [frz] at e; subst e; cases s; exact .bl b
  | .int i, _, _, s, e => by simp [frz] at e; subst e; cases s; exact .int i
  | .str x, _, _, s, e => by simp [frz] at e; subst e; cases s; exact .str x
  | .fn k, _, _, s, e => by simp [frz] at e; subst e; cases s; exact .fn k
  | .scr ws, _, _, s, e => by simp [frz] at e
  | .tup ws, w', v, s, e => by
    cases h : frzs G1 ws with
    | none => simp [frz, h] at e
    | some us =>
      simp [frz, h] at e
      subst e
      cases s with
      | tup q s => exact .tup q (go ws us _ s h)
  | .lst ws, w', v, s, e => by
    cases h : frzs G1 ws with
    | none => simp [frz, h] at e
    | some us =>
      simp [frz, h] at e
      subst e
      cases s with
      | lst q s => exact .lst ⟨(shut_free f _ _ q.2.2 q.1 q.2.1).1, (shut_free f _ _ q.2.2 q.1 q.2.1).2, q.2.2⟩ (go ws us _ s h)
  | .ref i, w', v, s, e => by
    cases s with
    | @ref _ a hi =>
      cases hG : G1[i]? with
      | none => simp [frz, hG] at e
      | some ob =>
        cases ob with
        | dct _ => simp [frz, hG] at e
        | lst ws =>
          simp only [frz, hG] at e
          split at e
          · rename_i hn
            cases e
            have q := r1.obj i a _ hi hG
            cases q with
            | lst h1 s1 =>
              obtain ⟨n1, n2⟩ := shut_out o f (List.mem_of_getElem? hi)
              exact .lst ⟨n1, n2, h1⟩ (s1.free (shut_free f) hn)
          · cases e
where go : ∀ (ws us : List W) (vs : List V), Sims Z ψ H' ws vs → frzs G1 ws = some us → Sims Z φ H' us vs
  | [], us, _, s, e => by
    simp [frzs] at e
    subst e
    cases s
    exact .nil
  | w :: ws, us, _, s, e => by
    cases h1 : frz G1 w with
    | none => simp [frzs, h1] at e
    | some a =>
      cases h2 : frzs G1 ws with
      | none => simp [frzs, h1, h2] at e
      | some bs =>
        simp [frzs, h1, h2] at e
        subst e
        cases s with
        | cons s t => exact .cons (frz_sim o f r1 s h1) (go ws bs _ t h2)
/-- a new list of ours, as it came -/
theorem Rel.adopt (r : Rel Z φ G H) (f : Fr φ.shut H ψ H') {a : Addr} {ws : List W} {vs : List V} (ha : a ∈ ψ.l) (e : H' a = some (.lst vs)) (s : Sims Z ψ H' ws vs) (hn : W.nrs ws = true) : Rel Z (φ.add a) (G ++ [.lst ws]) H' ∧ Fr φ H (φ.add a) H' := by
  have g : Fr φ H φ H' := f.alone
  have hnone := shut_new f ha
  have g2 : Fr φ H (φ.add a) H' := ⟨⟨[a], rfl, by simpa using hnone⟩, g.same, g.keep, g.back⟩
  obtain ⟨n1, n2⟩ := shut_out r.ours f ha
  have np : ∀ b, b ∈ φ.l → b ≠ a := fun b hb z => n1 (z ▸ hb)
  refine ⟨⟨by simp [Ad.add, r.len], ?_, fun i b ob h1 h2 => ?_, fun b hb => ?_⟩, g2⟩
  · show (φ.l ++ [a]).Nodup
    rw [List.nodup_append]
    exact ⟨r.nd, by simp, fun x hx y hy => by
      have : y = a := by simpa using hy
      rw [this]
      exact np x hx⟩
  · have h1 : (φ.l ++ [a])[i]? = some b := h1
    by_cases hi : i < φ.l.length
    · rw [List.getElem?_append_left hi] at h1
      rw [List.getElem?_append_left (by rw [← r.len]; exact hi)] at h2
      have q := r.obj i b ob h1 h2
      obtain ⟨u, eu, _⟩ := q.kind
      exact q.keep g2 r.ours ((f.keep b u (by simp [Ad.shut]) eu).trans eu.symm)
    · rw [List.getElem?_append_right (by omega)] at h1
      rw [List.getElem?_append_right (by rw [← r.len]; omega)] at h2
      have e1 : i - φ.l.length = 0 := by
        rcases Nat.eq_zero_or_pos (i - φ.l.length) with z | z
        · exact z
        · rw [List.getElem?_eq_none (by simp; omega)] at h1
          cases h1
      rw [e1] at h1
      have e2 : i - G.length = 0 := by rw [← r.len]; exact e1
      rw [e2] at h2
      simp at h1 h2
      subst h1
      subst h2
      refine .lst e (s.free (fun x o hx h1 h2 => ?_) hn)
      obtain ⟨m1, m2⟩ := shut_free f x o hx h1 h2
      refine ⟨fun hm => ?_, m2⟩
      rcases List.mem_append.mp hm with hm | hm
      · exact m1 hm
      · have : x = a := by simpa using hm
        exact h1 (this ▸ ha)
  · obtain ⟨u, eu, n⟩ := r.ban b hb
    exact ⟨u, f.keep b u (by simp [Ad.shut]) eu, n⟩
end
theorem Run.exi {Z : Ev1} {E E' : XK} {α β : Type} {R : Ad → Hp → α → β → Prop} {r : Res α} {φ : Ad} {H : Hp} {Q : β → Hp → Prop} (run : Run Z E R r φ H Q) (h : ∀ c d H', E c d H' → E' c d H') : Run Z E' R r φ H Q := by
  cases r with
  | ok a G => exact run
  | exc c fs G => exact fun φ' H' d f rl x => h _ _ _ (run φ' H' d f rl x)
  | stuck => exact run
section
variable {Z : Ev2} {N : List Str} {sc : Scope} {F : Str → Bool} {e a b c₁ : Expr} {c ca cb cc : E} {pos p p1 p2 : Pos} {es : List Expr} {cs : Es} {x : Str}
/-- a call, by the callee's promise -/
theorem callW_sp {n k : Nat} {m : Cm} {φ : Ad} {G : List O} {H : Hp} {ws : List W} {vs : List V} {E : XK} {Q : VK} (rl : Rel Z.toEv0 φ G H) (ss : Sims Z.toEv0 φ H ws vs) (run : Run Z.toEv1 E (SimR Z.toEv1) (callW (Z.cl n) m k ws G) φ H Q) : spF Z n k vs H Q E := by
  cases m with
  | shared => exact ⟨φ, G, ws, rl, ss, run⟩
  | iso =>
    simp only [callW] at run
    split at run
    · rename_i hn
      refine ⟨φ.shut, [], ws, rl.shut, ss.shut hn, ?_⟩
      cases hc : Z.cl n k ws [] with
      | ok w G1 =>
        rw [hc] at run
        simp only at run
        cases hf : frz G1 w with
        | none => simp only [hf] at run; exact run.elim
        | some w' =>
          simp only [hf] at run
          intro ψ H' b f r1 s
          exact run φ H' b f.alone (rl.over f) (frz_sim rl.ours f r1 s hf)
      | exc c fs G1 =>
        rw [hc] at run
        simp only at run
        split at run
        · rename_i hnf
          intro ψ H' d f r1 s
          refine run φ H' d f.alone (rl.over f) ⟨s.1, ?_⟩
          have s2 := s.2
          split
          · rename_i hx
            rw [if_pos hx] at s2
            exact s2
          · rename_i hx
            rw [if_neg hx] at s2
            obtain ⟨dx, us, e1, e2, s3⟩ := s2
            exact ⟨dx, us, e1, e2, s3.free (shut_free f) hnf⟩
        · exact run.elim
      | stuck => rw [hc] at run; exact run.elim
    · exact run.elim
  | new =>
    simp only [callW] at run
    split at run
    · rename_i hn
      refine ⟨φ.shut, [], ws, rl.shut, ss.shut hn, ?_⟩
      cases hc : Z.cl n k ws [] with
      | ok w G1 =>
        rw [hc] at run
        cases w with
        | ref i =>
          simp only at run
          cases hG : G1[i]? with
          | none => simp only [hG] at run; exact run.elim
          | some o =>
            cases o with
            | dct _ => simp only [hG] at run; exact run.elim
            | lst xs =>
              simp only [hG] at run
              split at run
              · rename_i hnx
                intro ψ H' b f r1 s
                cases s with
                | @ref _ a hi =>
                  have q := r1.obj i a _ hi hG
                  cases q with
                  | lst h1 s1 =>
                    obtain ⟨r2, f2⟩ := rl.adopt f (List.mem_of_getElem? hi) h1 s1 hnx
                    refine run _ H' _ f2 r2 (.ref ?_)
                    show (φ.l ++ [a])[G.length]? = some a
                    rw [← rl.len]
                    simp
              · exact run.elim
        | _ => exact run.elim
      | exc c fs G1 =>
        rw [hc] at run
        simp only at run
        split at run
        · rename_i hnf
          intro ψ H' d f r1 s
          refine run φ H' d f.alone (rl.over f) ⟨s.1, ?_⟩
          have s2 := s.2
          split
          · rename_i hx
            rw [if_pos hx] at s2
            exact s2
          · rename_i hx
            rw [if_neg hx] at s2
            obtain ⟨dx, us, e1, e2, s3⟩ := s2
            exact ⟨dx, us, e1, e2, s3.free (shut_free f) hnf⟩
        · exact run.elim
      | stuck => rw [hc] at run; exact run.elim
    · exact run.elim
theorem calls_none {n k : Nat} (h : Z.tb k = none) (ws : List W) (G : List O) : Z.cl n k ws G = .stuck := by
  cases n with
  | zero => rfl
  | succ n =>
    show (match Z.tb k with
      | some d => _
      | none => _) = _
    rw [h]
theorem callW_none {n k : Nat} (m : Cm) (h : Z.tb k = none) (ws : List W) (G : List O) : callW (Z.cl n) m k ws G = .stuck := by
  cases m with
  | shared => exact calls_none h ws G
  | iso => simp only [callW, calls_none h]; split <;> rfl
  | new => simp only [callW, calls_none h]; split <;> rfl
theorem HE.call {k : Nat} {m : Cm} (gz : Good Z) (hk : Z.fnm[k]? = some x) (ht : (Z.tb k).isSome = true) (hg : glB sc x = true) (hn : nmB x = false) (ha : HA Z N sc F (e :: es) cs) : HE Z N sc F (.Call (.Name x p) (e :: es) [] pos) (.call m k cs) :=
  ⟨fun n W X g => by
    obtain ⟨d, hd⟩ := Option.isSome_iff_exists.mp ht
    obtain ⟨fd, ps, Fk, kp, bi⟩ := (g.fns k d hd).ex
    have Fk' : FnOk X.prog X.w X.K X.mg X.base (L2.CX X.prog X.w) (n + 2) (Z.fa k) fd ps (spF Z n k) := by rw [g.gd.P, g.gd.w, g.gd.K, g.mg, g.base]; exact Fk
    refine PE_of (pe_callS (E := WE W) Fk' g.gd.room (glB_ok hg g.sc) (by rw [g.mg]; exact gz.fn k x hk) (by rw [g.gd.K]; exact kp) (by rw [g.gd.K]; exact bi) (fun σ => passAt g.tk σ) (ha.run n W X g) (nmB_1 hn) (ha.hs X.env) ?_) ?_
    · have q := ha.hpl X.env pos
      rw [ha.hs] at q
      exact q
    · intro σ H Q ⟨φ, G, sw, rl, sl, run⟩
      simp only [ev] at run
      exact tM_bnd rl sl run fun vs φ1 G1 H1 ws f1 rl1 sl1 ss run1 => callW_sp rl1 ss (run1.exi fun c d H' h => h σ),
  ⟨fun _ _ => rfl, fun _ _ => rfl, fun _ => rfl, fun _ _ => rfl, fun _ _ _ _ => rfl⟩⟩
/-- a call of a local name that holds a def -/
theorem HE.cv {i mx : Nat} {m : Cm} (ht : ∀ k, k < mx → (Z.tb k).isSome = true) (hN : N[i]? = some x) (hv : visB sc x = true) (hn : nmB x = false) (ha : HA Z N sc F (e :: es) cs) : HE Z N sc F (.Call (.Name x p) (e :: es) [] pos) (.cv m i mx cs) :=
  ⟨fun n W X g => ⟨fun pins s σ H Q I ⟨φ, G, sw, rl, sl, run⟩ => by
    simp only [ev] at run
    cases hs : sw[i]? with
    | none => simp only [hs] at run; exact run.elim
    | some o =>
      cases o with
      | none => simp only [hs] at run; exact run.elim
      | some w =>
        cases w with
        | fn k =>
          simp only [hs] at run
          obtain ⟨v, ev_, sv⟩ := sl.at_ i _ hs
          cases sv
          split at run
          · rename_i hk
            obtain ⟨d, hd⟩ := Option.isSome_iff_exists.mp (ht k hk)
            obtain ⟨fd, ps, Fk, kp, bi⟩ := (g.fns k d hd).ex
            have Fk' : FnOk X.prog X.w X.K X.mg X.base (L2.CX X.prog X.w) (n + 2) (Z.fa k) fd ps (spF Z n k) := by rw [g.gd.P, g.gd.w, g.gd.K, g.mg, g.base]; exact Fk
            refine wpAny_Call_Name_kw (thn ((pe_var (X := X) (pos := p) (i := i) (by rw [g.nm]; exact hN) (visB_ok hv g.sc) (nmB_1 hn) (nmB_2 hn)).run pins s σ H (fun v H1 => v = .ref (Z.fa k) ∧ H1 = H) I ⟨.ref (Z.fa k), ev_, rfl, rfl⟩) fun u s1 ⟨v, H1, I1, r1, q1⟩ => ?_)
            obtain ⟨rfl, rfl⟩ := q1
            cases r1
            refine PySem.W.callWith_K (h₀ := X.base) I.ok.mod.kin (by rw [g.gd.K]; exact kp) (thn ((ha.run n W X g).run pos pins s1 σ _ (fun vs H2 => spF Z n k vs H2 Q (WE W σ)) I1 (tM_bnd rl sl run fun vs φ1 G1 H1 ws f1 rl1 sl1 ss run1 => callW_sp rl1 ss (run1.exi fun c d H' h => h σ))) fun us s2 ⟨vs, H2, I2, r, q⟩ => ⟨I2.kIn, ?_⟩) (ha.hs X.env) ?_
            · exact run_fnS Fk' g.gd.room (by rw [g.gd.K]; exact bi) (passAt g.tk σ) I2 r q
            · have q := ha.hpl X.env pos
              rw [ha.hs] at q
              exact q
          · exact run.elim
        | _ => simp only [hs] at run; exact run.elim⟩,
  ⟨fun _ _ => rfl, fun _ _ => rfl, fun _ => rfl, fun _ _ => rfl, fun _ _ _ _ => rfl⟩⟩
end
end T2
end

section
set_option linter.all false
set_option autoImplicit false
set_option maxRecDepth 100000
set_option maxHeartbeats 2000000
/-! T2: what is walked, targets, comprehensions. -/
namespace T2
open PySem L2
section
variable {Z : Ev2} {N : List Str} {sc : Scope} {F : Str → Bool} {e a b c₁ tg : Expr} {c ca cb cc : E} {pos p p1 p2 : Pos} {es : List Expr} {cs : Es} {x : Str}
/-- the iterator yields the items, as long as they may be walked -/
def SeqR (Z : Ev2) : Ad → Hp → Seq → L2.It → Prop := fun φ0 H0 s J => ∀ (i : Nat) (φ : Ad) (G : List O) (H : Hp), Fr φ0 H0 φ H → Rel Z.toEv0 φ G H → s.ok G = true →
  (∀ w, s.items[i]? = some w → J.go i H ∧ ∀ x H', J.yld i H x H' → Fr φ H φ H' ∧ Rel Z.toEv0 φ G H' ∧ Sim Z.toEv0 φ H' w x) ∧ (s.items.length ≤ i → J.stop i H)
structure HI (Z : Ev2) (N : List Str) (sc : Scope) (F : Str → Bool) (tg e : Expr) (c : T2.It) : Prop where
  run : ∀ n W X, Ctx Z n N sc F W X → PI X tg e (tM Z W (SeqR Z) (evI (Z.cl n) Z.gk c))
  fs : ∀ (env : Env) (x : Value), foldedSetIterable e env x = pure x
theorem seq_list {φ0 : Ad} {H0 : Hp} {s : Seq} {a : Addr} (h : ∀ φ G H, Fr φ0 H0 φ H → Rel Z.toEv0 φ G H → s.ok G = true → ∃ vs, SqL Z.K H a vs ∧ Sims Z.toEv0 φ H s.items vs) : SeqR Z φ0 H0 s (Itl Z.K a) := fun i φ G H f r ok => by
  obtain ⟨vs, q, ss⟩ := h φ G H f r ok
  refine ⟨fun w hw => ?_, fun hl => ⟨vs, q, by rw [← ss.len]; exact hl⟩⟩
  obtain ⟨v, hv, sv⟩ := ss.get hw
  refine ⟨⟨vs, v, q, hv⟩, fun x H' ⟨e, y⟩ => ?_⟩
  subst e
  have := y vs q
  rw [hv] at this
  cases this
  exact ⟨.refl, r, sv⟩
theorem seq_tup {φ0 : Ad} {H0 : Hp} {s : Seq} {a : Addr} (h : ∀ φ G H, Fr φ0 H0 φ H → Rel Z.toEv0 φ G H → s.ok G = true → ∃ vs, SqT Z.K H a vs ∧ Sims Z.toEv0 φ H s.items vs) : SeqR Z φ0 H0 s (Itt Z.K a) := fun i φ G H f r ok => by
  obtain ⟨vs, q, ss⟩ := h φ G H f r ok
  refine ⟨fun w hw => ?_, fun hl => ⟨vs, q, by rw [← ss.len]; exact hl⟩⟩
  obtain ⟨v, hv, sv⟩ := ss.get hw
  refine ⟨⟨vs, v, q, hv⟩, fun x H' ⟨e, y⟩ => ?_⟩
  subst e
  have := y vs q
  rw [hv] at this
  cases this
  exact ⟨.refl, r, sv⟩
theorem seq_str {φ0 : Ad} {H0 : Hp} (xs : List Nat) : SeqR Z φ0 H0 ⟨xs.map fun c => .str [c], none⟩ (Its ⟨xs.toArray⟩) := fun i φ G H f r ok => by
  refine ⟨fun w hw => ?_, fun hl => by simpa [Its] using hl⟩
  have hw : (xs.map fun c => W.str [c])[i]? = some w := hw
  rw [List.getElem?_map] at hw
  cases hx : xs[i]? with
  | none => rw [hx] at hw; cases hw
  | some c =>
    rw [hx] at hw
    cases hw
    refine ⟨?_, fun x H' ⟨e, c', h1, h2⟩ => ?_⟩
    · have := (List.getElem?_eq_some_iff.mp hx).1
      simpa [Its] using this
    · subst e h2
      have h1 : (xs.toArray)[i]? = some c' := h1
      rw [List.getElem?_toArray, hx] at h1
      cases h1
      exact ⟨.refl, r, .str [c]⟩
theorem seq_of {φ : Ad} {G G1 : List O} {H : Hp} {w : W} {s : Seq} {v : V} (r : Rel Z.toEv0 φ G H) (sv : Sim Z.toEv0 φ H w v) (h : seqOf w G = .ok s G1) : G1 = G ∧ ((∃ a vs, v = .ref a ∧ SqL Z.K H a vs ∧ SeqR Z φ H s (Itl Z.K a)) ∨ (∃ a vs, v = .ref a ∧ SqT Z.K H a vs ∧ SeqR Z φ H s (Itt Z.K a)) ∨ ∃ x, v = .str x ∧ SeqR Z φ H s (Its x)) := by
  have o := r.ours
  cases sv with
  | @lst a ws vs q ss =>
    cases h
    exact ⟨rfl, .inl ⟨a, vs, rfl, q.sq, seq_list fun φ' G' H' f _ _ => ⟨vs, (q.keep f).sq, ss.keep f o⟩⟩⟩
  | @scr a ws vs q ss =>
    cases h
    exact ⟨rfl, .inl ⟨a, vs, rfl, q.sq, seq_list fun φ' G' H' f _ _ => ⟨vs, (RdL.keep (Z := Z.toEv0) f q).sq, ss.keep f o⟩⟩⟩
  | @tup a ws vs q ss =>
    cases h
    exact ⟨rfl, .inr (.inl ⟨a, vs, rfl, .of q, seq_tup fun φ' G' H' f _ _ => ⟨vs, .of (tup_keep f o q), ss.keep f o⟩⟩)⟩
  | str xs =>
    cases h
    exact ⟨rfl, .inr (.inr ⟨_, rfl, seq_str xs⟩)⟩
  | @ref i a hi =>
    cases hG : G[i]? with
    | none => simp [seqOf, hG] at h
    | some ob =>
      cases ob with
      | dct _ => simp [seqOf, hG] at h
      | lst ws =>
        simp only [seqOf, hG] at h
        cases h
        have q := r.obj i _ _ hi hG
        cases q with
        | @lst _ vs h1 s1 =>
          refine ⟨rfl, .inl ⟨a, vs, rfl, .of h1, seq_list fun φ' G' H' f r' ok => ?_⟩⟩
          simp only [Seq.ok] at ok
          cases hG' : G'[i]? with
          | none => simp [hG'] at ok
          | some ob' =>
            cases ob' with
            | dct _ => simp [hG'] at ok
            | lst us =>
              simp [hG'] at ok
              subst ok
              have q' := r'.obj i _ _ (f.at hi) hG'
              cases q' with
              | @lst _ vs' h1' s1' => exact ⟨vs', .of h1', s1'⟩
  | _ => cases h
theorem HI.seq (ha : HE Z N sc F a ca) : HI Z N sc F tg a (.seq ca) := ⟨fun n W X g => ⟨fun pins s σ H R I ⟨φ, G, sw, rl, sl, run⟩ => by
  simp only [evI] at run
  refine thn ((ha.run n W X g).run pins s σ H (fun v H1 => (∃ a vs, v = .ref a ∧ SqL Z.K H1 a vs ∧ R (Itl Z.K a) H1) ∨ (∃ a vs, v = .ref a ∧ SqT Z.K H1 a vs ∧ R (Itt Z.K a) H1) ∨ ∃ x, v = .str x ∧ R (Its x) H1) I (tM_bnd rl sl run fun v φ1 G1 H1 w f1 rl1 sl1 sv run1 => ?_)) fun u s1 ⟨x, H1, I1, r1, q1⟩ => ?_
  · cases hq : seqOf w G1 with
    | ok s G2 =>
      rw [hq] at run1
      obtain ⟨e, q⟩ := seq_of rl1 sv hq
      subst e
      rcases q with ⟨a, vs, h1, h2, h3⟩ | ⟨a, vs, h1, h2, h3⟩ | ⟨x, h1, h3⟩
      · exact .inl ⟨a, vs, h1, h2, run1.here rl1 h3⟩
      · exact .inr (.inl ⟨a, vs, h1, h2, run1.here rl1 h3⟩)
      · exact .inr (.inr ⟨x, h1, run1.here rl1 h3⟩)
    | exc c fs G2 =>
      exfalso
      cases w <;> simp [seqOf] at hq
      rename_i r
      cases h : G1[r]? with
      | none => simp [h] at hq
      | some o => cases o <;> simp [h] at hq
    | stuck => rw [hq] at run1; exact run1.elim
  · rcases q1 with ⟨a, vs, e, hq, q⟩ | ⟨a, vs, e, hq, q⟩ | ⟨x, ex, q⟩
    · subst e
      cases r1
      obtain ⟨its, rv, p, hz⟩ := I1.list (by rw [g.gd.K]; exact hq)
      refine wpAny_pyIter_list p.isList ?_
      refine ⟨s1.heap.objs.size, [s1.heap.objs.size], _, _, H1, rfl, I1.kept (t' := s1.toks) fun b o e => Heap.get?_push_of_some _ e, turn_list a _, ⟨_, Heap.get?_push_size _ rfl, rfl, rfl⟩, fun b hb => ?_, by rw [g.gd.K]; exact q⟩
      have e : b = s1.heap.objs.size := by simpa using hb
      subst e
      exact I1.fpOk (Nat.le_refl _) (I1.hok.fresh (Nat.le_refl _))
    · subst e
      cases r1
      obtain ⟨its, rv, p, hz⟩ := I1.tuple (by rw [g.gd.K]; exact hq)
      refine wpAny_pyIter_tuple (show s1.heap.IsTuple a its.toArray from p) ?_
      refine ⟨s1.heap.objs.size, [s1.heap.objs.size], _, _, H1, rfl, I1.kept (t' := s1.toks) fun b o e => Heap.get?_push_of_some _ e, turn_tuple a _, ⟨_, Heap.get?_push_size _ rfl, rfl, rfl⟩, fun b hb => ?_, by rw [g.gd.K]; exact q⟩
      have e : b = s1.heap.objs.size := by simpa using hb
      subst e
      exact I1.fpOk (Nat.le_refl _) (I1.hok.fresh (Nat.le_refl _))
    · subst ex
      obtain ⟨t, rfl⟩ := r1
      cases ha : x.cps.all (· < 128)
      · exact wpAny_pyIter_wide ha (pi_one (tk := s1.toks) I1 _ (turn_str _ x t "str_iterator" (.inr rfl)) ⟨_, Heap.get?_push_size _ rfl, rfl, rfl⟩ q)
      · exact wpAny_pyIter_ascii ha (pi_one (tk := s1.toks) I1 _ (turn_str _ x t "str_ascii_iterator" (.inl rfl)) ⟨_, Heap.get?_push_size _ rfl, rfl, rfl⟩ q)⟩, ha.sx.fs⟩
theorem rngL_get (a b : Int) (i : Nat) (w : W) (h : (rngL a b)[i]? = some w) : i < (b - a).toNat ∧ w = .int (a + (i : Nat)) := by
  unfold rngL at h
  rw [List.getElem?_map] at h
  by_cases hi : i < (b - a).toNat
  · rw [List.getElem?_range hi] at h
    cases h
    exact ⟨hi, rfl⟩
  · rw [List.getElem?_eq_none (by simp; omega)] at h
    cases h
theorem seq_rng {φ0 : Ad} {H0 : Hp} (a b : Int) : SeqR Z φ0 H0 ⟨rngL a b, none⟩ (Itr a (b - a).toNat) := fun i φ G H f r ok => by
  refine ⟨fun w hw => ?_, fun hl => by simpa [Itr, rngL] using hl⟩
  obtain ⟨h1, rfl⟩ := rngL_get a b i w hw
  exact ⟨h1, fun x H' ⟨e1, e2⟩ => by
    subst e1 e2
    exact ⟨.refl, r, .int _⟩⟩
theorem small_iff {a : Int} (h : small a = true) : -(2 ^ 62) ≤ a ∧ a < 2 ^ 62 := by
  have h : a.natAbs < 4611686018427387904 := by simpa [small] using h
  omega
theorem HI.rng1 (gz : Good Z) (hm : ("range" : Str) ∈ Z.nb) (hg : glB sc "range" = true) (ha : HE Z N sc F a ca) : HI Z N sc F tg (.Call (.Name "range" p) [a] [] pos) (.rng1 ca) :=
  ⟨fun n W X g => PI_of (pi_range1 (glB_ok hg g.sc) (by rw [g.mg]; exact gz.nb _ hm) (pa_cons (ha.run n W X g) pa_nil (ha.sx.p1 _ _)) (ha.sx.p1 _ _)) fun σ H R ⟨φ, G, sw, rl, sl, run⟩ => by
    simp only [evI] at run
    refine tM_bnd rl sl run fun v φ1 G1 H1 w f1 rl1 sl1 sv run1 => ?_
    cases sv with
    | int j =>
      simp only at run1
      split at run1
      · rename_i hs
        obtain ⟨h1, h2⟩ := small_iff hs
        refine ⟨j, rfl, h1, h2, run1.here rl1 ?_⟩
        have := seq_rng (Z := Z) (φ0 := φ1) (H0 := H1) 0 j
        rw [Int.sub_zero] at this
        exact this
      · exact run1.elim
    | _ => exact run1.elim, fun _ _ => rfl⟩
theorem HI.rng2 (gz : Good Z) (hm : ("range" : Str) ∈ Z.nb) (hg : glB sc "range" = true) (ha : HE Z N sc F a ca) (hb : HE Z N sc F b cb) : HI Z N sc F tg (.Call (.Name "range" p) [a, b] [] pos) (.rng2 ca cb) :=
  ⟨fun n W X g => PI_of (pi_range2 (glB_ok hg g.sc) (by rw [g.mg]; exact gz.nb _ hm) (pa_cons (ha.run n W X g) (pa_cons (hb.run n W X g) pa_nil (hb.sx.p1 _ _)) (ha.sx.p1 _ _)) (by rw [ha.sx.p1, hb.sx.p1]; rfl) (by rw [hb.sx.p1]; rfl)) fun σ H R ⟨φ, G, sw, rl, sl, run⟩ => by
    simp only [evI] at run
    refine tM_bnd rl sl run fun v φ1 G1 H1 w f1 rl1 sl1 sv run1 => tM_bnd rl1 sl1 run1 fun v2 φ2 G2 H2 w2 f2 rl2 sl2 sv2 run2 => ?_
    cases sv with
    | int i =>
      cases sv2 with
      | int j =>
        simp only at run2
        split at run2
        · rename_i hs
          simp only [Bool.and_eq_true] at hs
          obtain ⟨h1, h2⟩ := small_iff hs.1
          obtain ⟨h3, h4⟩ := small_iff hs.2
          exact ⟨i, j, rfl, ⟨h1, h2, h3, h4⟩, run2.here rl2 (seq_rng i j)⟩
        · exact run2.elim
      | _ => exact run2.elim
    | _ => exact run2.elim, fun _ _ => rfl⟩
theorem rng3_get (a b : Int) (i : Nat) (w : W) (h : (rng3L a b (-1))[i]? = some w) : i < (a - b).toNat ∧ w = .int (a + (i : Nat) * (-1)) := by
  unfold rng3L at h
  rw [if_neg (by decide), List.getElem?_map] at h
  have e : (a - b + (- -1) - 1) / (- -1) = a - b := by simp
  rw [e] at h
  by_cases hi : i < (a - b).toNat
  · rw [List.getElem?_range hi] at h
    cases h
    exact ⟨hi, rfl⟩
  · rw [List.getElem?_eq_none (by simp; omega)] at h
    cases h
theorem rng3_len (a b : Int) : (rng3L a b (-1)).length = (a - b).toNat := by
  unfold rng3L
  rw [if_neg (by decide), List.length_map, List.length_range]
  have e : (a - b + (- -1) - 1) / (- -1) = a - b := by simp
  rw [e]
theorem seq_rng3 {φ0 : Ad} {H0 : Hp} (a b : Int) : SeqR Z φ0 H0 ⟨rng3L a b (-1), none⟩ (Itc a (-1) (a - b).toNat) := fun i φ G H f r ok => by
  refine ⟨fun w hw => ?_, fun hl => by
    have hl : (rng3L a b (-1)).length ≤ i := hl
    rw [rng3_len] at hl
    exact hl⟩
  obtain ⟨h1, rfl⟩ := rng3_get a b i w hw
  exact ⟨h1, fun x H' ⟨e1, e2⟩ => by
    subst e1 e2
    exact ⟨.refl, r, .int _⟩⟩
theorem HI.rng3 (gz : Good Z) (hm : ("range" : Str) ∈ Z.nb) (hg : glB sc "range" = true) (ha : HE Z N sc F a ca) (hb : HE Z N sc F b cb) (hc : HE Z N sc F c₁ cc) : HI Z N sc F tg (.Call (.Name "range" p) [a, b, c₁] [] pos) (.rng3 ca cb cc) :=
  ⟨fun n W X g => PI_of (pi_range3 (glB_ok hg g.sc) (by rw [g.mg]; exact gz.nb _ hm) (pa_cons (ha.run n W X g) (pa_cons (hb.run n W X g) (pa_cons (hc.run n W X g) pa_nil (hc.sx.p1 _ _)) (hb.sx.p1 _ _)) (ha.sx.p1 _ _)) (ha.sx.p1 _ _) (by rw [hb.sx.p1, hc.sx.p1]; rfl)) fun σ H R ⟨φ, G, sw, rl, sl, run⟩ => by
    simp only [evI] at run
    refine tM_bnd rl sl run fun v φ1 G1 H1 w f1 rl1 sl1 sv run1 => tM_bnd rl1 sl1 run1 fun v2 φ2 G2 H2 w2 f2 rl2 sl2 sv2 run2 => tM_bnd rl2 sl2 run2 fun v3 φ3 G3 H3 w3 f3 rl3 sl3 sv3 run3 => ?_
    cases sv with
    | int i =>
      cases sv2 with
      | int j =>
        cases sv3 with
        | int k =>
          simp only at run3
          split at run3
          · rename_i hs
            simp only [Bool.and_eq_true, decide_eq_true_eq] at hs
            obtain ⟨h1, h2⟩ := small_iff hs.1.1
            obtain ⟨h3, h4⟩ := small_iff hs.1.2
            obtain rfl := hs.2
            exact ⟨i, j, -1, _, rfl, RgC.neg h1 h2 h3 h4, run3.here rl3 (seq_rng3 i j)⟩
          · exact run3.elim
        | _ => exact run3.elim
      | _ => exact run3.elim
    | _ => exact run3.elim, fun _ _ => rfl⟩
theorem new_tup {φ : Ad} {G : List O} {H : Hp} {T : Addr} {ws : List W} {vs : List V} (r : Rel Z.toEv0 φ G H) (hT : H T = none) (s : Sims Z.toEv0 φ H ws vs) : Fr φ H φ (upd H T (.tup vs)) ∧ Rel Z.toEv0 φ G (upd H T (.tup vs)) ∧ Sim Z.toEv0 φ (upd H T (.tup vs)) (.tup ws) (.ref T) :=
  ⟨Fr.new hT, r.new hT, .tup upd_same (s.keep (Fr.new hT) r.ours)⟩
theorem seq_enum {φ0 : Ad} {H0 : Hp} {ws : List W} {own : Option (Nat × List W)} {a : Addr} (h : ∀ φ G H, Fr φ0 H0 φ H → Rel Z.toEv0 φ G H → Seq.ok ⟨ws.zipIdx.map fun p => .tup [.int (p.2 : Nat), p.1], own⟩ G = true → ∃ vs, SqL Z.K H a vs ∧ Sims Z.toEv0 φ H ws vs) :
    SeqR Z φ0 H0 ⟨ws.zipIdx.map fun p => .tup [.int (p.2 : Nat), p.1], own⟩ (Ite Z.K a) := fun i φ G H f r ok => by
  obtain ⟨vs, q, ss⟩ := h φ G H f r ok
  refine ⟨fun w hw => ?_, fun hl => ⟨vs, q, by rw [← ss.len]; simpa using hl⟩⟩
  have hw : (ws.zipIdx.map fun p => W.tup [.int (p.2 : Nat), p.1])[i]? = some w := hw
  rw [List.getElem?_map, List.getElem?_zipIdx] at hw
  cases hx : ws[i]? with
  | none => rw [hx] at hw; cases hw
  | some y =>
    rw [hx] at hw
    simp at hw
    subst hw
    obtain ⟨v, hv, sv⟩ := ss.get hx
    refine ⟨⟨vs, v, q, hv⟩, fun x H' ⟨T, z, e1, hT, e2, y'⟩ => ?_⟩
    subst e1 e2
    have := y' vs q
    rw [hv] at this
    cases this
    exact new_tup r hT (.cons (.int _) (.cons sv .nil))
theorem HI.enum {elts : List Expr} {kk : Nat} {tpos : Pos} (gz : Good Z) (hm : ("enumerate" : Str) ∈ Z.nb) (hg : glB sc "enumerate" = true) (ha : HE Z N sc F a ca) : HI Z N sc F (.Tuple elts kk tpos) (.Call (.Name "enumerate" p) [a] [] pos) (.enum ca) :=
  ⟨fun n W X g => PI_of (pi_enum (glB_ok hg g.sc) (by rw [g.mg]; exact gz.nb _ hm) (pa_cons (ha.run n W X g) pa_nil (ha.sx.p1 _ _)) (ha.sx.p1 _ _)) fun σ H R ⟨φ, G, sw, rl, sl, run⟩ => by
    simp only [evI] at run
    refine tM_bnd rl sl run fun v φ1 G1 H1 w f1 rl1 sl1 sv run1 => ?_
    have o := rl1.ours
    cases sv with
    | @lst a ws vs q ss =>
      rw [g.gd.K]
      exact ⟨a, vs, rfl, q.sq, run1.here rl1 (seq_enum fun φ' G' H' f _ _ => ⟨vs, (q.keep f).sq, ss.keep f o⟩)⟩
    | @ref i a hi =>
      cases hG : G1[i]? with
      | none => simp only [hG] at run1; exact run1.elim
      | some ob =>
        cases ob with
        | dct _ => simp only [hG] at run1; exact run1.elim
        | lst ws =>
          simp only [hG] at run1
          have q := rl1.obj i _ _ hi hG
          cases q with
          | @lst _ vs h1 s1 =>
            rw [g.gd.K]
            refine ⟨a, vs, rfl, .of h1, run1.here rl1 (seq_enum fun φ' G' H' f r' ok => ?_)⟩
            simp only [Seq.ok] at ok
            cases hG' : G'[i]? with
            | none => simp [hG'] at ok
            | some ob' =>
              cases ob' with
              | dct _ => simp [hG'] at ok
              | lst us =>
                simp [hG'] at ok
                subst ok
                have q' := r'.obj i _ _ (f.at hi) hG'
                cases q' with
                | @lst _ vs' h1' s1' => exact ⟨vs', .of h1', s1'⟩
    | _ => exact run1.elim, fun _ _ => rfl⟩
theorem zip_get {xs ys : List W} {i : Nat} {w : W} (h : ((xs.zip ys).map fun p => W.tup [p.1, p.2])[i]? = some w) : ∃ x y, xs[i]? = some x ∧ ys[i]? = some y ∧ w = .tup [x, y] := by
  rw [List.getElem?_map] at h
  cases hz : (xs.zip ys)[i]? with
  | none => rw [hz] at h; cases h
  | some p =>
    rw [hz] at h
    cases h
    have := List.getElem?_zip_eq_some.mp hz
    exact ⟨p.1, p.2, this.1, this.2, rfl⟩
theorem HI.zip {elts : List Expr} {kk : Nat} {tpos : Pos} (gz : Good Z) (hm : ("zip" : Str) ∈ Z.nb) (hg : glB sc "zip" = true) (ha : HE Z N sc F a ca) (hb : HE Z N sc F b cb) : HI Z N sc F (.Tuple elts kk tpos) (.Call (.Name "zip" p) [a, b] [] pos) (.zip ca cb) :=
  ⟨fun n W X g => PI_of (RZ.pi_zipA (glB_ok hg g.sc) (by rw [g.mg]; exact gz.nb _ hm) (pa_cons (ha.run n W X g) (pa_cons (hb.run n W X g) pa_nil (hb.sx.p1 _ _)) (ha.sx.p1 _ _)) (ha.sx.p1 _ _) (by rw [hb.sx.p1]; rfl)) fun σ H R ⟨φ, G, sw, rl, sl, run⟩ => by
    simp only [evI] at run
    refine tM_bnd rl sl run fun v φ1 G1 H1 w f1 rl1 sl1 sv run1 => tM_bnd rl1 sl1 run1 fun v2 φ2 G2 H2 w2 f2 rl2 sl2 sv2 run2 => ?_
    have o := rl2.ours
    have sv := Sim.keep f2 rl1.ours sv
    cases sv with
    | @tup a ws vs q ss =>
      cases sv2 with
      | @tup b us xs q2 ss2 =>
        rw [g.gd.K]
        refine ⟨a, b, vs, xs, rfl, .inr ⟨.of q, .of q2, run2.here rl2 fun i φ' G' H' f r ok => ?_⟩⟩
        have q' : SqT Z.K H' a vs := .of (tup_keep f o q)
        have q2' : SqT Z.K H' b xs := .of (tup_keep f o q2)
        have ss' := ss.keep f o
        have ss2' := ss2.keep f o
        refine ⟨fun w hw => ?_, fun hl => ⟨vs, xs, q', q2', by
          have hl : ((ws.zip us).map fun p => T2.W.tup [p.1, p.2]).length ≤ i := hl
          rw [List.length_map, List.length_zip] at hl
          have e1 := ss.len
          have e2 := ss2.len
          omega⟩⟩
        obtain ⟨x, y, h1, h2, rfl⟩ := zip_get hw
        obtain ⟨v1, hv1, sv1⟩ := ss'.get h1
        obtain ⟨v2, hv2, sv2⟩ := ss2'.get h2
        refine ⟨⟨vs, xs, v1, v2, q', q2', hv1, hv2⟩, fun z H'' ⟨T, x', y', e1, hT, e2, g1, g2⟩ => ?_⟩
        subst e1 e2
        have k1 := g1 vs q'
        have k2 := g2 xs q2'
        rw [hv1] at k1
        rw [hv2] at k2
        cases k1
        cases k2
        exact new_tup r hT (.cons sv1 (.cons sv2 .nil))
      | _ => exact run2.elim
    | @lst a ws vs q ss =>
      cases sv2 with
      | @lst b us xs q2 ss2 =>
        rw [g.gd.K]
        refine ⟨a, b, vs, xs, rfl, .inl ⟨q.sq, q2.sq, run2.here rl2 fun i φ' G' H' f r ok => ?_⟩⟩
        have q' := (q.keep f).sq (K := Z.K)
        have q2' := (q2.keep f).sq (K := Z.K)
        have ss' := ss.keep f o
        have ss2' := ss2.keep f o
        refine ⟨fun w hw => ?_, fun hl => ⟨vs, xs, q', q2', by
          have hl : ((ws.zip us).map fun p => T2.W.tup [p.1, p.2]).length ≤ i := hl
          rw [List.length_map, List.length_zip] at hl
          have e1 := ss.len
          have e2 := ss2.len
          omega⟩⟩
        obtain ⟨x, y, h1, h2, rfl⟩ := zip_get hw
        obtain ⟨v1, hv1, sv1⟩ := ss'.get h1
        obtain ⟨v2, hv2, sv2⟩ := ss2'.get h2
        refine ⟨⟨vs, xs, v1, v2, q', q2', hv1, hv2⟩, fun z H'' ⟨T, x', y', e1, hT, e2, g1, g2⟩ => ?_⟩
        subst e1 e2
        have k1 := g1 vs q'
        have k2 := g2 xs q2'
        rw [hv1] at k1
        rw [hv2] at k2
        cases k1
        cases k2
        exact new_tup r hT (.cons sv1 (.cons sv2 .nil))
      | _ => exact run2.elim
    | _ => cases sv2 <;> exact run2.elim, fun _ _ => rfl⟩
end
end T2
end

section
set_option linter.all false
set_option autoImplicit false
set_option maxRecDepth 100000
set_option maxHeartbeats 2000000
/-! T2: targets, comprehensions. -/
namespace T2
open PySem L2
mutual
/-- the slots that a target stores -/
def T.own : T → List Nat
  | .nm i => [i]
  | .tp ts => Ts.own ts
  | .sub _ _ => []
def Ts.own : Ts → List Nat
  | .nil => []
  | .cons t ts => T.own t ++ Ts.own ts
end
/-- a target's end -/
def TgR (Z : Ev2) (own : List Nat) (σ : L2.St) : Ad → Hp → Sl → L2.St → Prop := fun φ H sw' σ' => Slots Z.toEv0 φ H sw' σ' ∧ (∀ j, j ∉ own → σ'[j]? = σ[j]?) ∧ σ'.length = σ.length
def tG (Z : Ev2) (own : List Nat) (m : W → Sl → List O → Res Sl) : TG := fun v σ H Q => ∃ (φ : Ad) (G : List O) (sw : Sl) (w : W), Rel Z.toEv0 φ G H ∧ Slots Z.toEv0 φ H sw σ ∧ Sim Z.toEv0 φ H w v ∧ Run Z.toEv1 (fun _ _ _ => False) (TgR Z own σ) (noX (m w sw G)) φ H Q
def tGs (Z : Ev2) (own : List Nat) (m : List W → Sl → List O → Res Sl) : TGs := fun vs σ H Q => ∃ (φ : Ad) (G : List O) (sw : Sl) (ws : List W), Rel Z.toEv0 φ G H ∧ Slots Z.toEv0 φ H sw σ ∧ Sims Z.toEv0 φ H ws vs ∧ Run Z.toEv1 (fun _ _ _ => False) (TgR Z own σ) (noX (m ws sw G)) φ H Q
structure HG (Z : Ev2) (N : List Str) (sc : Scope) (F : Str → Bool) (e : Expr) (t : T) : Prop where
  run : ∀ n W X, Ctx Z n N sc F W X → PG X e (tG Z t.own (asgT (Z.cl n) Z.gk t))
  p1 : ∀ (env : Env) (es : List Expr), assignEach (e :: es) env = (false, assign e env) :: assignEach es env
structure HGs (Z : Ev2) (N : List Str) (sc : Scope) (F : Str → Bool) (es : List Expr) (ts : Ts) : Prop where
  run : ∀ n W X, Ctx Z n N sc F W X → PGs X es (tGs Z ts.own (asgTs (Z.cl n) Z.gk ts))
  st : ∀ env, assignEach es env = es.map fun e => (false, assign e env)
  ln : ∀ cl gk ws sw G, noX (asgTs cl gk ts ws sw G) ≠ .stuck → ws.length = es.length
section
variable {Z : Ev2} {N : List Str} {sc : Scope} {F : Str → Bool} {e a b c₁ tg : Expr} {c ca cb cc : E} {t : T} {ts : Ts} {pos p p1 p2 : Pos} {es : List Expr} {cs : Es} {x : Str}
def locB (sc : Scope) (x : Str) : Bool := decide (sc.names.lookup x = some .local) || decide (sc.names.lookup x = some .cell)
/-- a part first, without errors -/
theorem tM_bndX {W : WX} {α β γ δ : Type} {R : Ad → Hp → α → β → Prop} {S : Ad → Hp → γ → δ → Prop} {σ : L2.St} {H : Hp} {φ : Ad} {G : List O} {sw : Sl} {E : XK} {m : Sl → List O → Res α} {f : α → List O → Res γ} {Q : δ → Hp → Prop} {Q' : β → Hp → Prop} (rl : Rel Z.toEv0 φ G H) (sl : Slots Z.toEv0 φ H sw σ) (run : Run Z.toEv1 E S (bnd (noX (m sw G)) f) φ H Q)
    (k : ∀ b φ1 G1 H1 a, Fr φ H φ1 H1 → Rel Z.toEv0 φ1 G1 H1 → Slots Z.toEv0 φ1 H1 sw σ → R φ1 H1 a b → Run Z.toEv1 E S (f a G1) φ1 H1 Q → Q' b H1) : tM Z W R m σ H Q' :=
  ⟨φ, G, sw, rl, sl, Run.noX (E := E) ((run.bnd).imp fun b H' ⟨φ1, G1, a, fr, rl1, s, r⟩ => k b φ1 G1 H' a fr rl1 (sl.keep fr rl.ours) s r)⟩
theorem HG.nm {i : Nat} (hN : N[i]? = some x) (hl : locB sc x = true) (hf : (F x || decide (sc.names.lookup x = some .local)) = true) : HG Z N sc F (.Name x pos) (.nm i) :=
  ⟨fun n W X g => PG_of (pg_name (i := i) (by rw [g.nm]; exact g.nd) (by rw [g.nm]; exact hN) (by rw [g.sc]; simpa [locB, L2.Loc] using hl) (by
      rw [g.sc]
      simp only [Bool.or_eq_true, decide_eq_true_eq] at hf
      exact hf.imp (g.fn x) id)) fun v σ H Q ⟨φ, G, sw, w, rl, sl, sv, run⟩ => by
    simp only [asgT, noX] at run
    refine run.here rl ⟨sl.set sv i, fun j hj => ?_, List.length_set⟩
    have hj : j ≠ i := by simpa [T.own] using hj
    rw [List.getElem?_set_ne (Ne.symm hj)], fun _ _ => rfl⟩
theorem HGs.nil : HGs Z N sc F [] .nil := ⟨fun n W X g => PGs_of pgs_nil fun vs σ H Q ⟨φ, G, sw, ws, rl, sl, ss, run⟩ => by
  cases ss with
  | nil =>
    simp only [asgTs, noX] at run
    exact ⟨rfl, run.here rl ⟨sl, fun _ _ => rfl, rfl⟩⟩
  | cons _ _ => simp only [asgTs, noX] at run; exact run.elim, fun _ => rfl, fun cl gk ws sw G h => by
  cases ws with
  | nil => rfl
  | cons _ _ => exact absurd (by simp only [asgTs, noX]) h⟩
theorem HGs.cons (h1 : HG Z N sc F e t) (h2 : HGs Z N sc F es ts) : HGs Z N sc F (e :: es) (.cons t ts) :=
  ⟨fun n W X g => PGs_of (pgs_cons (h1.run n W X g) (h2.run n W X g) (by rw [h1.p1]; rfl)) fun vs σ H Q ⟨φ, G, sw, ws, rl, sl, ss, run⟩ => by
    cases ss with
    | nil => simp only [asgTs, noX] at run; exact run.elim
    | @cons w ws v vs sv ss =>
      simp only [asgTs, noX_bnd] at run
      refine ⟨v, vs, rfl, φ, G, sw, w, rl, sl, sv, (run.bnd).imp fun σ1 H1 ⟨φ1, G1, sw1, fr, rl1, ⟨sl1, same, ln1⟩, run1⟩ => ⟨φ1, G1, sw1, ws, rl1, sl1, ss.keep fr rl.ours, ?_⟩⟩
      generalize asgTs (Z.cl n) Z.gk ts ws sw1 G1 = r at run1 ⊢
      cases r with
      | ok sw2 G2 => exact fun φ' H' b f r q => run1 φ' H' b f r ⟨q.1, fun j hj => by
          have hj : j ∉ t.own ∧ j ∉ ts.own := by simpa [Ts.own] using hj
          rw [q.2.1 j hj.2, same j hj.1], q.2.2.trans ln1⟩
      | exc _ _ _ => exact run1
      | stuck => exact run1, fun env => by rw [h1.p1, h2.st, List.map_cons], fun cl gk ws sw G h => by
    cases ws with
    | nil => exact absurd (by simp only [asgTs, noX]) h
    | cons w ws =>
      simp only [asgTs, noX_bnd] at h
      cases hr : noX (asgT cl gk t w sw G) with
      | ok sw1 G1 =>
        rw [hr] at h
        rw [List.length_cons, List.length_cons, h2.ln cl gk ws sw1 G1 h]
      | exc _ _ _ =>
        exfalso
        cases hq : asgT cl gk t w sw G <;> rw [hq] at hr <;> cases hr
      | stuck => rw [hr] at h; exact absurd rfl h⟩
theorem HG.tp {k : Nat} (h : HGs Z N sc F es ts) : HG Z N sc F (.Tuple es k pos) (.tp ts) :=
  ⟨fun n W X g => ⟨fun pins s σ H v u Q I ru ⟨φ, G, sw, w, rl, sl, sv, run⟩ => by
    have hst : (assignEach es X.env).length = es.length := by rw [h.st, List.length_map]
    have hst2 : (assignEach es X.env).findIdx? (·.1) = none := by
      rw [h.st, List.findIdx?_map, List.findIdx?_eq_none_iff]
      intro x _
      rfl
    have lk := look_sim rl sv
    simp only [asgT] at run
    cases hl : look w G with
    | tup ws =>
      rw [hl] at lk
      simp only [hl] at run
      cases lk with
      | @tup a _ vs q ss =>
        refine (pg_tup (X := X) (pos := pos) (k := k) g.gd.calm (h.run n W X g) hst hst2).run pins s σ H _ u Q I ru ⟨a, vs, rfl, by rw [g.gd.K]; exact .of q, ?_, φ, G, sw, ws, rl, sl, ss, run⟩
        rw [← ss.len]
        exact h.ln _ _ ws sw G fun z => by rw [z] at run; exact run
      | oth _ _ h _ => exact absurd rfl (h ws)
    | lst ws =>
      rw [hl] at lk
      simp only [hl] at run
      cases lk with
      | @lst a _ vs q ss =>
        refine (pg_lst (X := X) (pos := pos) (k := k) g.gd.calm (h.run n W X g) hst hst2).run pins s σ H _ u Q I ru ⟨a, vs, rfl, by rw [g.gd.K]; exact q, ?_, φ, G, sw, ws, rl, sl, ss, run⟩
        rw [← ss.len]
        exact h.ln _ _ ws sw G fun z => by rw [z] at run; exact run
      | oth _ h _ _ => exact absurd rfl (h ws)
    | _ => simp only [hl] at run; exact run.elim⟩, fun _ _ => rfl⟩
/-- o[i] = v, by values -/
def rSetS (Z : Ev2) : TSet := fun o i v H Q => ∃ (φ : Ad) (G : List O) (wo wi wv : W), Rel Z.toEv0 φ G H ∧ Sim Z.toEv0 φ H wo o ∧ Sim Z.toEv0 φ H wi i ∧ Sim Z.toEv0 φ H wv v ∧ Run Z.toEv1 (fun _ _ _ => False) (fun _ _ _ _ => True) (setW wo wi wv G) φ H (fun (_ : Unit) H' => Q H')
theorem set_S {n : Nat} {X : Cx} (g : Gd Z.toEv1 n X) : PSet X (rSetS Z) := by
  intro pins s σ H o i v ov iv u Q I ro ri rv ⟨φ, G, wo, wi, wv, rl, so, si, sv, run⟩
  cases so with
  | @ref r a hr =>
    simp only [setW] at run
    cases hG : G[r]? with
    | none => simp only [hG] at run; exact run.elim
    | some ob =>
      have q := rl.obj r a _ hr hG
      cases ob with
      | lst ws =>
        simp only [hG] at run
        cases si with
        | int k =>
          simp only at run
          split at run
          · rename_i h0
            split at run
            · rename_i hk
              cases q with
              | @lst _ vs h1 ss =>
                refine set_list pins s σ H _ _ v ov iv u Q I ro ri rv ⟨a, vs, k, k.toNat, rfl, rfl, h1, ?_, ?_⟩
                · unfold ixN
                  rw [if_pos h0, if_pos (by rw [← ss.len]; omega)]
                · have f : Fr φ H φ (upd H a (.lst (vs.set k.toNat v))) := Fr.put (List.mem_of_getElem? hr)
                  exact run φ _ () f (rl.put hr (List.getElem?_eq_some_iff.mp hG).1 ⟨fun _ z => (by cases z), fun _ _ z => (by cases z)⟩ (.lst upd_same ((ss.set sv k.toNat).keep f rl.ours))) trivial
            · exact run.elim
          · split at run
            · rename_i h0 hk
              cases q with
              | @lst _ vs h1 ss =>
                refine set_list pins s σ H _ _ v ov iv u Q I ro ri rv ⟨a, vs, k, (k + ws.length).toNat, rfl, rfl, h1, ?_, ?_⟩
                · unfold ixN
                  rw [if_neg h0, if_pos (by rw [← ss.len]; omega), ss.len]
                · have f : Fr φ H φ (upd H a (.lst (vs.set (k + ws.length).toNat v))) := Fr.put (List.mem_of_getElem? hr)
                  exact run φ _ () f (rl.put hr (List.getElem?_eq_some_iff.mp hG).1 ⟨fun _ z => (by cases z), fun _ _ z => (by cases z)⟩ (.lst upd_same ((ss.set sv (k + ws.length).toNat).keep f rl.ours))) trivial
            · exact run.elim
        | _ => exact run.elim
      | dct kvs =>
        simp only [hG] at run
        split at run
        case isFalse => exact run.elim
        rename_i hk
        simp only [Bool.and_eq_true, decide_eq_true_eq] at hk
        obtain ⟨kk, ek⟩ := keyT_ok hk.1
        obtain ⟨b, rfl, hb⟩ := key_at si ek
        cases q with
        | @dct _ ks h1 d =>
          obtain rfl : ov = Value.ref a := ro
          refine d_setItem (by have := g.u; omega) I (DPut.t h1 hb (by rw [← d.len, sizeLine_eq]; exact hk.2)) ri rv fun s' J => ⟨_, J, ?_⟩
          have f : Fr φ H φ (upd H a (.dT (putK ks kk v))) := Fr.put (List.mem_of_getElem? hr)
          exact run φ _ () f (rl.put hr (List.getElem?_eq_some_iff.mp hG).1 ⟨fun _ z => (by cases z), fun _ _ z => (by cases z)⟩ (.dct upd_same ((DSim.put ek sv d).keep f rl.ours))) trivial
  | _ => exact run.elim
theorem HG.sub {o i : Expr} {co ci : E} (ho : HE Z N sc F o co) (hi : HE Z N sc F i ci) : HG Z N sc F (.Subscript o i pos) (.sub co ci) :=
  ⟨fun n W X g => PG_of (pg_sub (ho.run n W X g) (hi.run n W X g) (set_S g.gd) fun v => hi.sx.asg o pos X.env v) fun v σ H Q ⟨φ, G, sw, w, rl, sl, sv, run⟩ => by
    simp only [asgT, noX_bnd] at run
    exact tM_bndX rl sl run fun x φ1 G1 H1 wx f1 rl1 sl1 sx run1 => tM_bndX rl1 sl1 run1 fun y φ2 G2 H2 wy f2 rl2 sl2 sy run2 => by
      refine ⟨φ2, G2, wx, wy, w, rl2, Sim.keep f2 rl1.ours sx, sy, Sim.keep f2 rl1.ours (Sim.keep f1 rl.ours sv), ?_⟩
      generalize setW wx wy w G2 = r at run2 ⊢
      cases r with
      | ok u G3 => exact fun φ' H' b f r _ => run2 φ' H' σ f r ⟨sl2.keep f rl2.ours, fun _ _ => rfl, rfl⟩
      | exc _ _ _ => exact run2.elim
      | stuck => exact run2, fun _ _ => rfl⟩
end
end T2
end

section
set_option linter.all false
set_option autoImplicit false
set_option maxRecDepth 100000
set_option maxHeartbeats 2000000
/-! T2: comprehensions. -/
namespace T2
open PySem L2
section
variable {Z : Ev0} {φ ψ : Ad} {G : List O} {H H' : Hp}
theorem OSim.move {a : Addr} {o : O} (hr : ∀ (i : Nat) (a : Addr), φ.l[i]? = some a → ψ.l[i]? = some a) (hψ : ∀ a o, H a = some o → a ∉ φ.l → a ∉ φ.m → a ∉ ψ.l ∧ a ∉ ψ.m ∧ H' a = some o) (ht : ∀ a, (∃ vs, H a = some (.tup vs)) ∨ (∃ o u, H a = some (.frz o u)) → H' a = H a) (e : H' a = H a) (h : OSim Z φ H a o) : OSim Z ψ H' a o := by
  cases h with
  | lst h1 s => exact .lst (e.trans h1) (s.move hr hψ ht)
  | dct h1 s => exact .dct (e.trans h1) (s.move hr hψ ht)
/-- the list that is being made is written -/
theorem Rel.ban_put {D : Addr} {vs : List V} (r : Rel Z φ G H) (hm : D ∈ φ.m) (hl : D ∉ φ.l) (hD : ∃ us, H D = some (.lst us)) : Rel Z φ G (upd H D (.lst vs)) := by
  obtain ⟨us, hD⟩ := hD
  have hψ : ∀ a o, H a = some o → a ∉ φ.l → a ∉ φ.m → a ∉ φ.l ∧ a ∉ φ.m ∧ upd H D (.lst vs) a = some o := fun a o e h1 h2 => ⟨h1, h2, by rw [upd_ne (fun z => h2 (by rw [z]; exact hm))]; exact e⟩
  have ht : ∀ a, (∃ vs, H a = some (.tup vs)) ∨ (∃ o u, H a = some (.frz o u)) → upd H D (.lst vs) a = H a := fun a h => upd_ne (fun z => by
    subst z
    rcases h with ⟨_, h⟩ | ⟨_, _, h⟩ <;> (rw [hD] at h; cases h))
  refine ⟨r.len, r.nd, fun i a o h1 h2 => (r.obj i a o h1 h2).move (fun _ _ h => h) hψ ht (upd_ne fun z => hl (by rw [← z]; exact List.mem_of_getElem? h1)), fun a ha => ?_⟩
  by_cases z : a = D
  · subst z
    exact ⟨_, upd_same, fun _ z => (by cases z), fun _ _ z => (by cases z)⟩
  · obtain ⟨u, e, n⟩ := r.ban a ha
    exact ⟨u, by rw [upd_ne z]; exact e, n⟩
theorem Sims.ban_put {D : Addr} {vs : List V} {ws : List W} {xs : List V} (s : Sims Z φ H ws xs) (hm : D ∈ φ.m) (hD : ∃ us, H D = some (.lst us)) : Sims Z φ (upd H D (.lst vs)) ws xs := by
  obtain ⟨us, hD⟩ := hD
  exact s.move (fun _ _ h => h) (fun a o e h1 h2 => ⟨h1, h2, by rw [upd_ne (fun z => h2 (by rw [z]; exact hm))]; exact e⟩) fun a h => upd_ne (fun z => by
    subst z
    rcases h with ⟨_, h⟩ | ⟨_, _, h⟩ <;> (rw [hD] at h; cases h))
/-- the list that is being made -/
def Ad.with (φ : Ad) (D : Addr) : Ad := ⟨φ.l, D :: φ.m⟩
def Ad.free (φ : Ad) (D : Addr) : Ad := ⟨φ.l, φ.m.filter fun a => decide (a ≠ D)⟩
theorem Fr.with {D : Addr} {o : HO} (h : H D = none) : Fr φ H (φ.with D) (upd H D o) := by
  obtain ⟨m, s, k, b⟩ := Fr.new (φ := φ) (o := o) h
  exact ⟨⟨[], by simp [Ad.with], by simp⟩, ⟨fun a ha => List.mem_cons_of_mem _ ha, fun a ha => by
    rcases List.mem_cons.mp ha with z | z
    · exact .inr (z ▸ h)
    · exact .inl z⟩, k, b⟩
theorem Rel.with {D : Addr} {vs : List V} (r : Rel Z φ G H) (h : H D = none) : Rel Z (φ.with D) G (upd H D (.lst vs)) := by
  have r2 := r.new (p := D) (o := .lst vs) h
  have hn : D ∉ φ.l := fun hm => by
    obtain ⟨u, e, _⟩ := r.ours D (.inl hm)
    rw [h] at e
    cases e
  have hψ : ∀ a o, H a = some o → a ∉ φ.l → a ∉ φ.m → a ∉ (φ.with D).l ∧ a ∉ (φ.with D).m ∧ upd H D (.lst vs) a = some o := fun a o e h1 h2 => ⟨h1, fun hm => (List.mem_cons.mp hm).elim (fun z => by rw [z, h] at e; cases e) h2, by rw [upd_ne (ne_of_none e h)]; exact e⟩
  refine ⟨r.len, r.nd, fun i a o h1 h2 => OSim.move (φ := φ) (ψ := φ.with D) (fun _ _ h => h) hψ (fun a hh => upd_ne fun z => by
    subst z
    rcases hh with ⟨_, e⟩ | ⟨_, _, e⟩ <;> (rw [h] at e; cases e)) (upd_ne fun z => hn (by rw [← z]; exact List.mem_of_getElem? h1)) (r.obj i a o h1 h2), fun a ha => ?_⟩
  rcases List.mem_cons.mp ha with z | z
  · subst z
    exact ⟨_, upd_same, fun _ z => (by cases z), fun _ _ z => (by cases z)⟩
  · exact r2.ban a z
theorem free_out {D a : Addr} (h : a ∉ φ.m) : a ∉ (φ.free D).m := fun hm => h (List.mem_filter.mp hm).1
theorem Rel.free {D : Addr} (r : Rel Z φ G H) : Rel Z (φ.free D) G H :=
  ⟨r.len, r.nd, fun i a o h1 h2 => OSim.move (φ := φ) (ψ := φ.free D) (fun _ _ h => h) (fun a o e h1 h2 => ⟨h1, free_out h2, e⟩) (fun _ _ => rfl) rfl (r.obj i a o h1 h2), fun a ha => r.ban a (List.mem_filter.mp ha).1⟩
theorem Sims.unban {D : Addr} {ws : List W} {xs : List V} (s : Sims Z φ H ws xs) : Sims Z (φ.free D) H ws xs := Sims.move (φ := φ) (ψ := φ.free D) (fun _ _ h => h) (fun a o e h1 h2 => ⟨h1, free_out h2, e⟩) (fun _ _ => rfl) s
theorem Fr.free {φ1 : Ad} {H1 : Hp} {D : Addr} (f : Fr φ1 H1 φ H) (o : Ours φ1 H1) (h : H1 D = none) : Fr φ1 H1 (φ.free D) H :=
  ⟨f.more, ⟨fun a ha => List.mem_filter.mpr ⟨f.same.1 a ha, by
    simp only [decide_eq_true_eq]
    rintro rfl
    obtain ⟨u, e, _⟩ := o a (.inr ha)
    rw [h] at e
    cases e⟩, fun a ha => f.same.2 a (List.mem_filter.mp ha).1⟩, f.keep, f.back⟩
/-- the list is made: it is ours -/
theorem Rel.made {D : Addr} {ws : List W} {vs : List V} (r : Rel Z φ G H) (hl : D ∉ φ.l) (hm : D ∈ φ.m) (hD : H D = some (.lst vs)) (s : Sims Z φ H ws vs) : Rel Z ((φ.free D).add D) (G ++ [.lst ws]) H := by
  have hψ : ∀ a o, H a = some o → a ∉ φ.l → a ∉ φ.m → a ∉ ((φ.free D).add D).l ∧ a ∉ ((φ.free D).add D).m ∧ H a = some o := fun a o e h1 h2 => ⟨fun z => by
    rcases List.mem_append.mp z with z | z
    · exact h1 z
    · have : a = D := by simpa using z
      exact h2 (this ▸ hm), free_out h2, e⟩
  have hr : ∀ (i : Nat) (a : Addr), φ.l[i]? = some a → ((φ.free D).add D).l[i]? = some a := fun i a h => by
    show (φ.l ++ [D])[i]? = some a
    rw [List.getElem?_append_left (List.getElem?_eq_some_iff.mp h).1]
    exact h
  refine ⟨by simp [Ad.add, Ad.free, r.len], ?_, fun i b ob h1 h2 => ?_, fun b hb => r.ban b (List.mem_filter.mp hb).1⟩
  · show (φ.l ++ [D]).Nodup
    rw [List.nodup_append]
    exact ⟨r.nd, by simp, fun x hx y hy => by
      have : y = D := by simpa using hy
      rw [this]
      exact fun z => hl (z ▸ hx)⟩
  · have h1 : (φ.l ++ [D])[i]? = some b := h1
    by_cases hi : i < φ.l.length
    · rw [List.getElem?_append_left hi] at h1
      rw [List.getElem?_append_left (by rw [← r.len]; exact hi)] at h2
      exact (r.obj i b ob h1 h2).move hr hψ (fun _ _ => rfl) rfl
    · rw [List.getElem?_append_right (by omega)] at h1
      rw [List.getElem?_append_right (by rw [← r.len]; omega)] at h2
      have e1 : i - φ.l.length = 0 := by
        rcases Nat.eq_zero_or_pos (i - φ.l.length) with z | z
        · exact z
        · rw [List.getElem?_eq_none (by simp; omega)] at h1
          cases h1
      rw [e1] at h1
      have e2 : i - G.length = 0 := by rw [← r.len]; exact e1
      rw [e2] at h2
      simp at h1 h2
      subst h1
      subst h2
      exact .lst hD (s.move hr hψ (fun _ _ => rfl))
end
section
variable {Z : Ev2} {N : List Str} {sc : Scope} {F : Str → Bool} {e a b c₁ tg iter elt : Expr} {c ca cb cc ce : E} {t : T} {ts : Ts} {pos p p1 p2 : Pos} {es ifs : List Expr} {cs : Es} {x : Str}
structure HC (Z : Ev2) (N : List Str) (sc : Scope) (F : Str → Bool) (ifs : List Expr) (c : Op) : Prop where
  run : ∀ n W X, Ctx Z n N sc F W X → PTs X ifs (tT Z W (evC (Z.cl n) Z.gk c))
theorem HC.no : HC Z N sc F [] .no := ⟨fun n W X g => PTs_of pts_nil fun σ H Q ⟨φ, G, sw, rl, sl, run⟩ => by
  simp only [evC] at run
  exact run.here rl rfl⟩
theorem HC.yes (h : HT Z N sc F e c) : HC Z N sc F [e] (.yes c) := ⟨fun n W X g => PTs_of (pts_one (h.run n W X g)) fun σ H Q ⟨φ, G, sw, rl, sl, run⟩ => by
  simp only [evC] at run
  exact ⟨φ, G, sw, rl, sl, run⟩⟩
/-- nothing is let out -/
abbrev W0 : WX := fun _ _ _ _ => False
theorem Ctx.blk {n : Nat} {W : WX} {X : Cx} (g : Ctx Z n N sc F W X) (scope : Scope) (s : Shared) (H : Hp) (C : Addr) (cl : List (Str × Addr)) (fp : List Addr) :
    Ctx Z n N (relS scope sc) (fun x => scope.names.lookup x == some .cell) W0 (X.blk s H scope (compEnvC scope cl C X.env) fp) :=
  ⟨⟨g.gd.P, g.gd.w, g.gd.K, g.gd.calm, g.gd.room⟩, g.nm, g.nd, by rw [← g.sc]; rfl, takes0, g.mg, g.base, g.fns, fun _ h => h⟩
theorem wipe_len (σ : L2.St) : ∀ l : List Nat, (L2.wipe σ l).length = σ.length
  | [] => rfl
  | i :: l => by show ((L2.wipe σ l).set i none).length = _; rw [List.length_set, wipe_len σ l]
theorem wipe_at (σ : L2.St) (j : Nat) : ∀ l : List Nat, (L2.wipe σ l)[j]? = if j ∈ l ∧ j < σ.length then some none else σ[j]?
  | [] => by simp [L2.wipe]
  | i :: l => by
    show ((L2.wipe σ l).set i none)[j]? = _
    by_cases h : i = j
    · subst h
      by_cases hl : i < σ.length
      · rw [List.getElem?_set_self (by rw [wipe_len]; exact hl), if_pos ⟨List.mem_cons_self, hl⟩]
      · rw [if_neg (fun z => hl z.2), List.getElem?_eq_none (by simp [wipe_len]; omega), List.getElem?_eq_none (by omega)]
    · rw [List.getElem?_set_ne h, wipe_at σ j l]
      have : (j ∈ i :: l ∧ j < σ.length) ↔ (j ∈ l ∧ j < σ.length) := by
        rw [List.mem_cons]
        constructor
        · rintro ⟨z | z, h2⟩
          · exact absurd z.symm h
          · exact ⟨z, h2⟩
        · exact fun z => ⟨.inr z.1, z.2⟩
      by_cases hc : j ∈ l ∧ j < σ.length
      · rw [if_pos hc, if_pos (this.mpr hc)]
      · rw [if_neg hc, if_neg (fun z => hc (this.mp z))]
theorem wipe_same {σ σ2 : L2.St} {vs own : List Nat} (hs : ∀ i ∈ own, i ∈ vs) (hl : σ2.length = σ.length) (h : ∀ j, j ∉ own → σ2[j]? = (L2.wipe σ vs)[j]?) : L2.wipe σ2 vs = L2.wipe σ vs := by
  apply List.ext_getElem?
  intro j
  rw [wipe_at, wipe_at, hl]
  by_cases hc : j ∈ vs ∧ j < σ.length
  · rw [if_pos hc, if_pos hc]
  · rw [if_neg hc, if_neg hc]
    by_cases ho : j ∈ own
    · have : ¬ j < σ.length := fun z => hc ⟨hs j ho, z⟩
      rw [List.getElem?_eq_none (by omega), List.getElem?_eq_none (by omega)]
    · rw [h j ho, wipe_at, if_neg hc]
theorem noX_case {α : Type} (r : Res α) : (∃ a G, r = .ok a G ∧ noX r = .ok a G) ∨ noX r = .stuck := by
  cases r with
  | ok a G => exact .inl ⟨a, G, rfl, rfl⟩
  | exc _ _ _ => exact .inr rfl
  | stuck => exact .inr rfl
/-- a comprehension's reading -/
theorem lc_read {n : Nat} {W : WX} {m : Bool} {own : List Nat} {it : T2.It} {cd : Op} {σ : L2.St} {H : Hp} {Q : VK} (hsub : ∀ i ∈ t.own, i ∈ own) (h : tE Z W (ev (Z.cl n) Z.gk (.lc m own t it cd ce)) σ H Q) :
    tLc (tM Z W (SeqR Z) (evI (Z.cl n) Z.gk it)) (tG Z t.own (asgT (Z.cl n) Z.gk t)) (tT Z W0 (evC (Z.cl n) Z.gk cd)) (tE Z W0 (ev (Z.cl n) Z.gk ce)) own σ H Q := by
  obtain ⟨φ, G, sw, rl, sl, run⟩ := h
  simp only [ev] at run
  refine tM_bnd rl sl run fun J φ1 G1 H1 s f1 rl1 sl1 sj run1 => ?_
  intro D hD
  generalize hA : (fun (x : T2.W) (G : List O) => asgT (Z.cl n) Z.gk t x (T2.wipe sw own) G) = A at run1
  generalize hC : (fun (sw1 : Sl) (G : List O) => evC (Z.cl n) Z.gk cd sw1 G) = C at run1
  generalize hE : (fun (sw1 : Sl) (G : List O) => ev (Z.cl n) Z.gk ce sw1 G) = E at run1
  refine ⟨fun i m' H => m' = s.items.length - i ∧ ∃ (φ : Ad) (G : List O) (accW : List T2.W) (accV : List V), Fr φ1 H1 φ H ∧ D ∈ φ.m ∧ D ∉ φ.l ∧ H D = some (.lst accV) ∧ Rel Z.toEv0 φ G H ∧ Sims Z.toEv0 φ H accW accV ∧
    Run Z.toEv1 (Er W) (SimR Z.toEv1) (bnd (lcL A C E s (s.items.drop i) accW G) fun ws G2 => T2.mkL m ws G2) φ1 H1 Q, ⟨_, rfl, φ1.with D, G1, [], [], Fr.with hD, List.mem_cons_self, fun hm => ?_, upd_same, rl1.with hD, .nil, run1⟩, ?_⟩
  · obtain ⟨u, e, _⟩ := rl1.ours D (.inl hm)
    rw [hD] at e
    cases e
  rintro i m' H ⟨rfl, φ, G, accW, accV, fr, dm, dl, hHD, r, ss, run2⟩
  have hok : s.ok G = true := by
    cases hd : s.items.drop i with
    | nil =>
      rw [hd] at run2
      simp only [lcL] at run2
      cases ho : s.ok G with
      | true => rfl
      | false => rw [ho] at run2; exact run2.elim
    | cons w ws =>
      rw [hd] at run2
      simp only [lcL] at run2
      cases ho : s.ok G with
      | true => rfl
      | false => rw [ho] at run2; exact run2.elim
  obtain ⟨go, stop⟩ := sj i φ G H fr r hok
  cases hw : s.items[i]? with
  | none =>
    have hi : s.items.length ≤ i := by
      rcases Nat.lt_or_ge i s.items.length with z | z
      · rw [List.getElem?_eq_getElem z] at hw
        cases hw
      · exact z
    refine .inl ⟨stop hi, ?_⟩
    rw [List.drop_eq_nil_of_le hi] at run2
    simp only [lcL, hok, if_true, bnd_ok] at run2
    have f2 := fr.free rl1.ours hD
    unfold T2.mkL at run2
    split at run2
    · cases m with
      | true =>
        have f3 : Fr φ1 H1 ((φ.free D).add D) H := by
          obtain ⟨tl, e, nn⟩ := f2.more
          refine ⟨⟨tl ++ [D], by show φ.l ++ [D] = _; rw [show φ.l = _ from e, List.append_assoc], fun a ha => ?_⟩, f2.same, f2.keep, f2.back⟩
          rcases List.mem_append.mp ha with z | z
          · exact nn a z
          · have : a = D := by simpa using z
            exact this ▸ hD
        refine run2 _ H _ f3 (r.made dl dm hHD ss) (.ref ?_)
        show (φ.l ++ [D])[G.length]? = some D
        rw [← r.len]
        simp
      | false => exact run2 _ H _ f2 r.free (.lst ⟨dl, fun z => by simpa using (List.mem_filter.mp z).2, hHD⟩ ss.unban)
    · exact run2.elim
  | some w =>
    have hi : i < s.items.length := (List.getElem?_eq_some_iff.mp hw).1
    obtain ⟨hgo, hy⟩ := go w hw
    refine .inr ⟨hgo, fun H' => ∃ (φ : Ad) (G : List O) (accW : List T2.W) (accV : List V), Fr φ1 H1 φ H' ∧ D ∈ φ.m ∧ D ∉ φ.l ∧ H' D = some (.lst accV) ∧ Rel Z.toEv0 φ G H' ∧ Sims Z.toEv0 φ H' accW accV ∧
      Run Z.toEv1 (Er W) (SimR Z.toEv1) (bnd (lcL A C E s (s.items.drop (i + 1)) accW G) fun ws G2 => T2.mkL m ws G2) φ1 H1 Q, fun H' h => ⟨_, by omega, rfl, h⟩, fun x H' y => ?_⟩
    obtain ⟨fy, ry, sx⟩ := hy x H' y
    have hdrop : s.items.drop i = w :: s.items.drop (i + 1) := by
      rw [List.drop_eq_getElem_cons hi]
      congr 1
      rw [List.getElem?_eq_getElem hi] at hw
      exact Option.some.inj hw
    rw [hdrop] at run2
    simp only [lcL, hok, Bool.true_and] at run2
    split at run2
    case isFalse => exact run2.elim
    rename_i hz
    have hz := szOk_iff.mp hz
    rcases noX_case (A w G) with ⟨sw1, G2, eA, eA'⟩ | eA
    case inr => rw [eA] at run2; exact run2.elim
    rw [eA', bnd_ok] at run2
    have frY := fr.trans fy
    have slY : Slots Z.toEv0 φ H' (T2.wipe sw own) (L2.wipe σ own) := (sl1.keep frY rl1.ours).wipe own
    refine ⟨φ, G, T2.wipe sw own, w, ry, slY, sx, ?_⟩
    have eA2 : asgT (Z.cl n) Z.gk t w (T2.wipe sw own) G = .ok sw1 G2 := by rw [← hA] at eA; exact eA
    rw [eA2, noX_ok]
    intro φ2 H2 σ2 f2 r2 ⟨sl2, same2, len2⟩
    refine ⟨wipe_same hsub (by rw [len2, wipe_len]) same2, ?_⟩
    rcases noX_case (C sw1 G2) with ⟨cv, G3, eC, eC'⟩ | eC
    case inr => rw [eC] at run2; exact run2.elim
    rw [eC', bnd_ok] at run2
    have eC2 : evC (Z.cl n) Z.gk cd sw1 G2 = .ok cv G3 := by rw [← hC] at eC; exact eC
    refine ⟨φ2, G2, sw1, r2, sl2, ?_⟩
    rw [eC2]
    intro φ3 H3 bv f3 r3 eb
    have eb : cv = bv := eb
    subst eb
    have F3 := (fy.trans f2).trans f3
    cases cv with
    | false =>
      rw [if_neg (by decide)]
      rw [if_neg (by decide)] at run2
      refine ⟨φ3, G3, accW, accV, fr.trans F3, F3.same.1 _ dm, F3.out dl hHD, F3.keep _ _ dl hHD, r3, ss.keep F3 r.ours, run2⟩
    | true =>
      rw [if_pos rfl]
      rw [if_pos rfl] at run2
      rcases noX_case (E sw1 G3) with ⟨yv, G4, eE, eE'⟩ | eE
      case inr => rw [eE] at run2; exact run2.elim
      rw [eE', bnd_ok] at run2
      have eE2 : ev (Z.cl n) Z.gk ce sw1 G3 = .ok yv G4 := by rw [← hE] at eE; exact eE
      refine ⟨φ3, G3, sw1, r3, sl2.keep f3 r2.ours, ?_⟩
      rw [eE2]
      intro φ4 H4 v f4 r4 s4
      have F4 := F3.trans f4
      have hD4 := F4.keep _ _ dl hHD
      have dm4 := F4.same.1 _ dm
      have dl4 := F4.out dl hHD
      have ss4 := ss.keep F4 r.ours
      refine ⟨accV, hD4, by rw [← ss.len, sizeLine_eq]; omega, φ4, G4, accW ++ [yv], accV ++ [v], ?_, dm4, dl4, upd_same, r4.ban_put dm4 dl4 ⟨_, hD4⟩, (ss4.app (.cons s4 .nil)).ban_put dm4 ⟨_, hD4⟩, run2⟩
      have F := fr.trans F4
      refine ⟨F.more, F.same, fun bb o hb e => ?_, fun bb e => ?_⟩
      · rw [upd_ne (ne_of_none e hD)]
        exact F.keep bb o hb e
      · by_cases z : bb = D
        · exact z ▸ hD
        · rw [upd_ne z] at e
          exact F.back bb e
theorem HE.lc {m : Bool} {scope : Scope} {own : List (Str × Nat)} {it : T2.It} {cd : Op} (hi : HI Z N sc F tg iter it) (ok : blkC N sc scope own = true) (hg : HG Z N (relS scope sc) (fun x => scope.names.lookup x == some .cell) tg t) (hsub : (t.own.all fun i => (own.map (·.2)).contains i) = true)
    (ht : HC Z N (relS scope sc) (fun x => scope.names.lookup x == some .cell) ifs cd) (he : HE Z N (relS scope sc) (fun x => scope.names.lookup x == some .cell) elt ce) : HE Z N sc F (.ListComp elt [⟨tg, iter, ifs, 0⟩] scope pos) (.lc m (own.map (·.2)) t it cd ce) :=
  ⟨fun n W X g => PE_of (pe_lc g.gd.calm (by rw [g.nm]; exact g.nd) (hi.run n W X g) (by rw [g.nm, g.sc]; exact blkOk_by ok) (fun s H C cl fp => hg.run n W0 _ (g.blk scope s H C cl fp)) (fun s H C cl fp => ht.run n W0 _ (g.blk scope s H C cl fp)) (fun s H C cl fp => he.run n W0 _ (g.blk scope s H C cl fp)) (hi.fs X.env)) fun σ H Q h =>
    lc_read (fun i hi => by
      have := List.all_eq_true.mp hsub i hi
      simpa using this) h,
  ⟨fun _ _ => rfl, fun _ _ => rfl, fun _ => rfl, fun _ _ => rfl, fun _ _ _ _ => rfl⟩⟩
theorem HE.dct0 : HE Z N sc F (.Dict [] [] pos) .dct0 :=
  ⟨fun n W X g => PE_of pe_dnewT fun σ H Q ⟨φ, G, sw, rl, sl, run⟩ => by
    simp only [ev] at run
    intro p hp
    have f : Fr φ H (φ.add p) (upd H p (.dT [])) := Fr.mine hp
    refine run _ _ _ f (rl.add hp (.dct upd_same .nil)) (.ref ?_)
    show (φ.l ++ [p])[G.length]? = some p
    rw [← rl.len]
    simp,
  ⟨fun _ _ => rfl, fun _ _ => rfl, fun _ => rfl, fun _ _ => rfl, fun _ _ _ _ => rfl⟩⟩
end
end T2
end

section
set_option linter.all false
set_option autoImplicit false
set_option maxRecDepth 100000
set_option maxHeartbeats 2000000
/-! T2: statements, defs, by the language. -/
namespace T2
open PySem L2
/-- what stands behind a statement -/
inductive Fo where
  | nx (σ : L2.St) | rt (v : V) | bk (σ : L2.St) | ct (σ : L2.St)
def FlR (Z : Ev2) (φ : Ad) (H : Hp) : Fl → Fo → Prop
  | .nx sw, .nx σ => Slots Z.toEv0 φ H sw σ
  | .rt w, .rt v => Sim Z.toEv0 φ H w v
  | .bk sw, .bk σ => Slots Z.toEv0 φ H sw σ
  | .ct sw, .ct σ => Slots Z.toEv0 φ H sw σ
  | _, _ => False
def DQ (D : Ends) : Fo → Hp → Prop
  | .nx σ, H => D.nx σ H
  | .rt v, H => D.rt v H
  | .bk σ, H => D.bk σ H
  | .ct σ, H => D.ct σ H
def tS (Z : Ev2) (W : WX) (m : Sl → List O → Res Fl) : TS := fun D σ H => tM Z W (FlR Z) m σ H (DQ D)
/-- a def's own block -/
structure Ctx1 (Z : Ev2) (n : Nat) (N : List Str) (sc : Scope) (W : WX) (X : Cx) : Prop extends Ctx Z n N sc (fun _ => true) W X where
  own : PassesOwn (model X.prog X.w) X.A X.env X.xe
  stk : X.stack = X.env :: X.outer
  fr : X.env.frame = some X.env.locals
structure HS (Z : Ev2) (N : List Str) (sc : Scope) (st : Stmt) (c : S) : Prop where
  run : ∀ n W X, Ctx1 Z n N sc W X → PS X st (tS Z W (ex (Z.cl n) Z.gk Z.wf c))
structure HB (Z : Ev2) (N : List Str) (sc : Scope) (sts : List Stmt) (c : B) : Prop where
  run : ∀ n W X, Ctx1 Z n N sc W X → PSs X sts (tS Z W (exB (Z.cl n) Z.gk Z.wf c))
section
variable {Z : Ev2} {E : XK} {φ : Ad} {G : List O} {H : Hp} {D : Ends} {σ : L2.St} {sw : Sl} {w : W} {v : V}
theorem nx_here (run : Run Z.toEv1 E (FlR Z) (.ok (.nx sw) G) φ H (DQ D)) (rl : Rel Z.toEv0 φ G H) (sl : Slots Z.toEv0 φ H sw σ) : D.nx σ H := run φ H (.nx σ) .refl rl sl
theorem rt_here (run : Run Z.toEv1 E (FlR Z) (.ok (.rt w) G) φ H (DQ D)) (rl : Rel Z.toEv0 φ G H) (sl : Sim Z.toEv0 φ H w v) : D.rt v H := run φ H (.rt v) .refl rl sl
theorem bk_here (run : Run Z.toEv1 E (FlR Z) (.ok (.bk sw) G) φ H (DQ D)) (rl : Rel Z.toEv0 φ G H) (sl : Slots Z.toEv0 φ H sw σ) : D.bk σ H := run φ H (.bk σ) .refl rl sl
theorem ct_here (run : Run Z.toEv1 E (FlR Z) (.ok (.ct sw) G) φ H (DQ D)) (rl : Rel Z.toEv0 φ G H) (sl : Slots Z.toEv0 φ H sw σ) : D.ct σ H := run φ H (.ct σ) .refl rl sl
end
abbrev F1 : Str → Bool := fun _ => true
section
variable {Z : Ev2} {N : List Str} {sc : Scope} {e a b c₁ tg iter elt : Expr} {c ca cb cc ce : E} {t : T} {ts : Ts} {pos p p1 p2 : Pos} {es ifs : List Expr} {cs : Es} {x : Str} {st : Stmt} {sts sts2 : List Stmt} {s : S} {bb bb2 : B}
theorem HB.nil : HB Z N sc [] .nil := ⟨fun n W X g => PSs_of pss_nil fun D σ H ⟨φ, G, sw, rl, sl, run⟩ => by
  simp only [exB] at run
  exact nx_here (D := D) run rl sl⟩
theorem HB.cons (h1 : HS Z N sc st s) (h2 : HB Z N sc sts bb) : HB Z N sc (st :: sts) (.cons s bb) := ⟨fun n W X g => PSs_of (pss_cons (h1.run n W X g) (h2.run n W X g)) fun D σ H ⟨φ, G, sw, rl, sl, run⟩ => by
  simp only [exB] at run
  refine ⟨φ, G, sw, rl, sl, (run.bnd).imp fun b H' ⟨φ1, G1, f, fr, rl1, s, r⟩ => ?_⟩
  cases f with
  | nx sw1 =>
    cases b with
    | nx σ1 => exact ⟨φ1, G1, sw1, rl1, s, r⟩
    | _ => exact s.elim
  | rt w =>
    cases b with
    | rt v => exact rt_here (D := D) r rl1 s
    | _ => exact s.elim
  | bk sw1 =>
    cases b with
    | bk σ1 => exact bk_here (D := D) r rl1 s
    | _ => exact s.elim
  | ct sw1 =>
    cases b with
    | ct σ1 => exact ct_here (D := D) r rl1 s
    | _ => exact s.elim⟩
/-- as HB.cons, for a docstring -/
theorem HS.doc {y : Str} {j : Nat} : HS Z N sc (.Expr (.Constant (.str y) j p) pos) .pass := ⟨fun n W X g => PS_of ps_doc fun D σ H ⟨φ, G, sw, rl, sl, run⟩ => by
  simp only [ex] at run
  exact nx_here (D := D) run rl sl⟩
theorem HS.pass : HS Z N sc (.Pass pos) .pass := ⟨fun n W X g => PS_of ps_pass fun D σ H ⟨φ, G, sw, rl, sl, run⟩ => by
  simp only [ex] at run
  exact nx_here (D := D) run rl sl⟩
theorem HS.brk : HS Z N sc (.Break pos) .brk := ⟨fun n W X g => PS_of ps_break fun D σ H ⟨φ, G, sw, rl, sl, run⟩ => by
  simp only [ex] at run
  exact bk_here (D := D) run rl sl⟩
theorem HS.cnt : HS Z N sc (.Continue pos) .cnt := ⟨fun n W X g => PS_of ps_continue fun D σ H ⟨φ, G, sw, rl, sl, run⟩ => by
  simp only [ex] at run
  exact ct_here (D := D) run rl sl⟩
theorem HS.exp (he : HE Z N sc F1 e c) (hs : ∀ env line, swapsWith e none line env = pure false) : HS Z N sc (.Expr e pos) (.exp c) := ⟨fun n W X g => PS_of (ps_expr (he.run n W X g.toCtx) (hs _ _)) fun D σ H ⟨φ, G, sw, rl, sl, run⟩ => by
  simp only [ex] at run
  exact tM_bnd rl sl run fun v φ1 G1 H1 w f1 rl1 sl1 sv run1 => nx_here (D := D) run1 rl1 sl1⟩
theorem HS.ret (he : HE Z N sc F1 e c) : HS Z N sc (.Return (some e) pos) (.ret c) := ⟨fun n W X g => PS_of (ps_ret (he.run n W X g.toCtx)) fun D σ H ⟨φ, G, sw, rl, sl, run⟩ => by
  simp only [ex] at run
  exact tM_bnd rl sl run fun v φ1 G1 H1 w f1 rl1 sl1 sv run1 => rt_here (D := D) run1 rl1 sv⟩
theorem HS.ret0 : HS Z N sc (.Return none pos) .ret0 := ⟨fun n W X g => PS_of ps_retN fun D σ H ⟨φ, G, sw, rl, sl, run⟩ => by
  simp only [ex] at run
  exact rt_here (D := D) run rl .non⟩
theorem HS.ife (ht : HT Z N sc F1 a ca) (h1 : HB Z N sc sts bb) (h2 : HB Z N sc sts2 bb2) : HS Z N sc (.If a sts sts2 pos) (.ife ca bb bb2) := ⟨fun n W X g => PS_of (ps_if (ht.run n W X g.toCtx) (h1.run n W X g) (h2.run n W X g)) fun D σ H ⟨φ, G, sw, rl, sl, run⟩ => by
  simp only [ex] at run
  exact tM_bnd rl sl run fun v φ1 G1 H1 w f1 rl1 sl1 sv run1 => by
    have sv : w = v := sv
    subst sv
    cases w with
    | true => exact ⟨φ1, G1, sw, rl1, sl1, run1⟩
    | false => exact ⟨φ1, G1, sw, rl1, sl1, run1⟩⟩

/-! #### stores -/
theorem asg_read {n : Nat} {W : WX} {X : Cx} {D : Ends} {σ : L2.St} {H : Hp} (h : tS Z W (ex (Z.cl n) Z.gk Z.wf (.asg t c)) D σ H) : tAsg (tE Z W (ev (Z.cl n) Z.gk c)) (tG Z t.own (asgT (Z.cl n) Z.gk t)) D σ H := by
  obtain ⟨φ, G, sw, rl, sl, run⟩ := h
  simp only [ex] at run
  refine tM_bnd rl sl run fun v φ1 G1 H1 w f1 rl1 sl1 sv run1 => ⟨φ1, G1, sw, w, rl1, sl1, sv, ?_⟩
  rcases noX_case (asgT (Z.cl n) Z.gk t w sw G1) with ⟨sw1, G2, e1, e2⟩ | e1
  · rw [e2, bnd_ok] at run1
    rw [e2]
    exact fun φ' H' σ' f r q => run1 φ' H' (.nx σ') f r q.1
  · rw [e1] at run1
    exact run1.elim
theorem HS.asg (he : HE Z N sc F1 e c) (hg : HG Z N sc F1 tg t) (hs : ∀ env line, env.scope = sc → swapsWithSole [tg] e line env = pure false) (hw : ∀ env, env.scope = sc → swappedStores [tg] e env = pure none) : HS Z N sc (.Assign [tg] e pos) (.asg t c) :=
  ⟨fun n W X g => PS_of (ps_asg (he.run n W X g.toCtx) (hg.run n W X g.toCtx) (hs _ _ g.sc) (hw _ g.sc) (by rw [hg.p1]; rfl)) fun D σ H h => asg_read (X := X) h⟩
/-- name = [.. for ..] -/
theorem HS.setLc {i : Nat} {m : Bool} {scope : Scope} {own : List (Str × Nat)} {it : T2.It} {cd : Op} {spos : Pos} (hN : N[i]? = some x) (hl : sc.names.lookup x = some .local)
    (hsw : ∀ env line, env.scope = sc → swapsWith (.ListComp elt [⟨tg, iter, ifs, 0⟩] scope pos) (some (.Name x p)) line env = pure true) (hi : HI Z N sc F1 tg iter it) (ok : blkC N sc scope own = true) (hg : HG Z N (relS scope sc) (fun x => scope.names.lookup x == some .cell) tg t)
    (hsub : (t.own.all fun i => (own.map (·.2)).contains i) = true) (ht : HC Z N (relS scope sc) (fun x => scope.names.lookup x == some .cell) ifs cd) (he : HE Z N (relS scope sc) (fun x => scope.names.lookup x == some .cell) elt ce) :
    HS Z N sc (.Assign [.Name x p] (.ListComp elt [⟨tg, iter, ifs, 0⟩] scope pos) spos) (.asg (.nm i) (.lc m (own.map (·.2)) t it cd ce)) :=
  ⟨fun n W X g => PS_of (ps_setLc (i := i) g.gd.calm (by rw [g.nm]; exact g.nd) (by rw [g.nm]; exact hN) (by rw [g.sc]; exact hl) (hsw _ _ g.sc) (hi.run n W X g.toCtx) (by rw [g.nm, g.sc]; exact blkOk_by ok) (fun s H C cl fp => hg.run n W0 _ (g.toCtx.blk scope s H C cl fp)) (fun s H C cl fp => ht.run n W0 _ (g.toCtx.blk scope s H C cl fp))
      (fun s H C cl fp => he.run n W0 _ (g.toCtx.blk scope s H C cl fp)) (hi.fs X.env)) fun D σ H ⟨φ, G, sw, rl, sl, run⟩ => by
    simp only [ex] at run
    refine lc_read (n := n) (W := W) (m := m) (fun i hi => by
      have := List.all_eq_true.mp hsub i hi
      simpa using this) (tM_bnd rl sl run fun v φ1 G1 H1 w f1 rl1 sl1 sv run1 => ?_)
    simp only [asgT, noX_ok, bnd_ok] at run1
    exact nx_here (D := D) run1 rl1 (sl1.set sv i)⟩
/-- a, b = x, y with two names -/
theorem HS.par {i j : Nat} {y : Str} {px py pt : Pos} {kt k2 : Nat} {pt2 : Pos} (hN : N[i]? = some x) (hM : N[j]? = some y) (hij : i ≠ j) (hx : sc.names.lookup x = some .local) (hy : sc.names.lookup y = some .local) (ha : HA Z N sc F1 [a, b] cs)
    (hw : ∀ env, env.scope = sc → swappedStores [.Tuple [.Name x px, .Name y py] kt pt] (.Tuple [a, b] k2 pt2) env = pure (some [x, y])) :
    HS Z N sc (.Assign [.Tuple [.Name x px, .Name y py] kt pt] (.Tuple [a, b] k2 pt2) pos) (.asg (.tp (.cons (.nm i) (.cons (.nm j) .nil))) (.tup cs)) :=
  ⟨fun n W X g => PS_of (ps_par (i := i) (j := j) g.gd.calm (by rw [g.nm]; exact g.nd) (by rw [g.nm]; exact hN) (by rw [g.nm]; exact hM) hij (by rw [g.sc]; exact hx) (by rw [g.sc]; exact hy) (ha.run n W X g.toCtx) (hw _ g.sc)) fun D σ H ⟨φ, G, sw, rl, sl, run⟩ => by
    simp only [ex, ev] at run
    have run : Run Z.toEv1 (Er W) (FlR Z) (bnd (evs (Z.cl n) Z.gk cs sw G) fun ws G1 => bnd (if szOk ws.length = true then Res.ok (T2.W.tup ws) G1 else .stuck) fun w G1 => bnd (noX (asgT (Z.cl n) Z.gk (.tp (.cons (.nm i) (.cons (.nm j) .nil))) w sw G1)) fun sw1 G2 => .ok (.nx sw1) G2) φ H (DQ D) := by
      have e : ∀ (r : Res (List T2.W)) (f : List T2.W → List O → Res T2.W) (k : T2.W → List O → Res Fl), bnd (bnd r f) k = bnd r fun a G => bnd (f a G) k := fun r f k => by cases r <;> rfl
      rw [e] at run
      exact run
    refine tM_bnd rl sl run fun vs φ1 G1 H1 ws f1 rl1 sl1 ss run1 => ?_
    split at run1
    · rw [bnd_ok] at run1
      have ss : Sims Z.toEv0 φ1 H1 ws vs := ss
      match ws, vs, ss with
      | [], _, .nil => simp only [asgT, look, asgTs, noX_stuck] at run1; exact run1.elim
      | [_], _, .cons _ .nil => simp only [asgT, look, asgTs, bnd_ok, noX_stuck] at run1; exact run1.elim
      | [w1, w2], [v1, v2], .cons s1 (.cons s2 .nil) =>
        simp only [asgT, look, asgTs, bnd_ok, noX_ok] at run1
        exact ⟨v1, v2, rfl, nx_here (D := D) run1 rl1 ((sl1.set s1 i).set s2 j)⟩
      | _ :: _ :: _ :: _, _, .cons _ (.cons _ (.cons _ _)) => simp only [asgT, look, asgTs, bnd_ok, noX_stuck] at run1; exact run1.elim
    · exact run1.elim⟩
/-- x op= e -/
theorem HS.aug {i : Nat} {o : BOp} {op : Operator} (ho : ∀ n X, Gd Z.toEv1 n X → OpR X (inplaceOp op) (r2S Z.toEv1 (binW o))) (hN : N[i]? = some x) (hl : locB sc x = true) (he : HE Z N sc F1 e c) : HS Z N sc (.AugAssign (.Name x p) op e pos) (.aug i o c) :=
  ⟨fun n W X g => PS_of (ps_aug (i := i) (by rw [g.nm]; exact g.nd) (by rw [g.nm]; exact hN) (by rw [g.sc]; simpa [locB, L2.Loc] using hl) (he.run n W X g.toCtx) (ho n X g.gd) (.inl (g.fn x rfl))) fun D σ H ⟨φ, G, sw, rl, sl, run⟩ => by
    simp only [ex] at run
    cases h : sw[i]? with
    | none => simp only [h] at run; exact run.elim
    | some o =>
      cases o with
      | none => simp only [h] at run; exact run.elim
      | some w =>
        simp only [h] at run
        obtain ⟨v, e, q⟩ := sl.at_ i w h
        refine ⟨v, e, tM_bnd rl sl run fun y φ1 G1 H1 wy f1 rl1 sl1 sy run1 => ⟨_, φ1, G1, w, wy, rl1, Sim.keep f1 rl.ours q, sy, (run1.bnd).imp fun z H2 ⟨φ2, G2, wz, f2, rl2, sz, run2⟩ => ?_⟩⟩
        exact nx_here (D := D) run2 rl2 ((sl1.keep f2 rl1.ours).set sz i)⟩
theorem si_add (n : Nat) (X : Cx) (g : Gd Z.toEv1 n X) : OpR X (inplaceOp .Add) (r2S Z.toEv1 (binW .addI)) := s_addI iop_add iop_add_str
theorem si_sub (n : Nat) (X : Cx) (g : Gd Z.toEv1 n X) : OpR X (inplaceOp .Sub) (r2S Z.toEv1 (binW .sub)) := s_sub iop_sub
theorem si_mul (n : Nat) (X : Cx) (g : Gd Z.toEv1 n X) : OpR X (inplaceOp .Mult) (r2S Z.toEv1 (binW .mul)) := s_mul iop_mul

/-! #### loops -/
theorem HS.whl (ht : HT Z N sc F1 a ca) (hb : HB Z N sc sts bb) : HS Z N sc (.While a sts [] pos) (.whl ca bb) :=
  ⟨fun n W X g => PS_of (ps_while g.own (ht.run n W X g.toCtx) (hb.run n W X g)) fun D σ H ⟨φ, G, sw, rl, sl, run⟩ => by
    simp only [ex] at run
    refine ⟨fun m σ H => ∃ (φ : Ad) (G : List O) (sw : Sl), Rel Z.toEv0 φ G H ∧ Slots Z.toEv0 φ H sw σ ∧ Run Z.toEv1 (Er W) (FlR Z) (whlL (fun sw G => evT (Z.cl n) Z.gk ca sw G) (fun sw G => exB (Z.cl n) Z.gk Z.wf bb sw G) m sw G) φ H (DQ D), ⟨Z.wf, φ, G, sw, rl, sl, run⟩, ?_⟩
    rintro m σ H ⟨φ, G, sw, rl, sl, run⟩
    cases m with
    | zero => exact run.elim
    | succ m =>
      simp only [whlL] at run
      refine tM_bnd rl sl run fun v φ1 G1 H1 w f1 rl1 sl1 sv run1 => ?_
      have sv : w = v := sv
      subst sv
      cases w with
      | false => exact nx_here (D := D) run1 rl1 sl1
      | true =>
        rw [if_pos rfl] at run1
        rw [if_pos rfl]
        refine ⟨fun σ' H' => ∃ (φ : Ad) (G : List O) (sw : Sl), Rel Z.toEv0 φ G H' ∧ Slots Z.toEv0 φ H' sw σ' ∧ Run Z.toEv1 (Er W) (FlR Z) (whlL (fun sw G => evT (Z.cl n) Z.gk ca sw G) (fun sw G => exB (Z.cl n) Z.gk Z.wf bb sw G) m sw G) φ H' (DQ D), fun σ' H' h => ⟨m, Nat.lt_succ_self m, h⟩, ?_⟩
        refine ⟨φ1, G1, sw, rl1, sl1, (run1.bnd).imp fun b H2 ⟨φ2, G2, f, fr, rl2, s, run2⟩ => ?_⟩
        cases f with
        | nx sw2 =>
          cases b with
          | nx σ2 => exact ⟨φ2, G2, sw2, rl2, s, run2⟩
          | _ => exact s.elim
        | ct sw2 =>
          cases b with
          | ct σ2 => exact ⟨φ2, G2, sw2, rl2, s, run2⟩
          | _ => exact s.elim
        | bk sw2 =>
          cases b with
          | bk σ2 => exact nx_here (D := D) run2 rl2 s
          | _ => exact s.elim
        | rt w =>
          cases b with
          | rt v => exact rt_here (D := D) run2 rl2 s
          | _ => exact s.elim⟩
theorem HS.frr {it : T2.It} (hi : HI Z N sc F1 tg iter it) (hg : HG Z N sc F1 tg t) (hb : HB Z N sc sts bb) : HS Z N sc (.For tg iter sts [] pos) (.frr t it bb) :=
  ⟨fun n W X g => PS_of (ps_for g.own g.gd.calm (hi.run n W X g.toCtx) (hg.run n W X g.toCtx) (hb.run n W X g) (hi.fs X.env)) fun D σ H ⟨φ, G, sw, rl, sl, run⟩ => by
    simp only [ex] at run
    refine tM_bnd rl sl run fun J φ1 G1 H1 s f1 rl1 sl1 sj run1 => ?_
    generalize hA : (fun (w : T2.W) (sw : Sl) (G : List O) => asgT (Z.cl n) Z.gk t w sw G) = A at run1
    generalize hB : (fun (sw : Sl) (G : List O) => exB (Z.cl n) Z.gk Z.wf bb sw G) = Bf at run1
    refine ⟨fun i m σ H => m = s.items.length - i ∧ ∃ (φ : Ad) (G : List O) (sw : Sl), Fr φ1 H1 φ H ∧ Rel Z.toEv0 φ G H ∧ Slots Z.toEv0 φ H sw σ ∧ Run Z.toEv1 (Er W) (FlR Z) (forL A Bf s (s.items.drop i) sw G) φ H (DQ D), ⟨_, rfl, φ1, G1, sw, .refl, rl1, sl1, run1⟩, ?_⟩
    rintro i m σ H ⟨rfl, φ, G, sw, fr, r, sl, run2⟩
    have hok : s.ok G = true := by
      cases hd : s.items.drop i with
      | nil =>
        rw [hd] at run2
        simp only [forL] at run2
        cases ho : s.ok G with
        | true => rfl
        | false => rw [ho] at run2; exact run2.elim
      | cons w ws =>
        rw [hd] at run2
        simp only [forL] at run2
        cases ho : s.ok G with
        | true => rfl
        | false => rw [ho] at run2; exact run2.elim
    obtain ⟨go, stop⟩ := sj i φ G H fr r hok
    cases hw : s.items[i]? with
    | none =>
      have hi : s.items.length ≤ i := by
        rcases Nat.lt_or_ge i s.items.length with z | z
        · rw [List.getElem?_eq_getElem z] at hw
          cases hw
        · exact z
      refine .inl ⟨stop hi, ?_⟩
      rw [List.drop_eq_nil_of_le hi] at run2
      simp only [forL, hok, if_true] at run2
      exact nx_here (D := D) run2 r sl
    | some w =>
      have hi : i < s.items.length := (List.getElem?_eq_some_iff.mp hw).1
      obtain ⟨hgo, hy⟩ := go w hw
      refine .inr ⟨hgo, fun σ' H' => ∃ (φ : Ad) (G : List O) (sw : Sl), Fr φ1 H1 φ H' ∧ Rel Z.toEv0 φ G H' ∧ Slots Z.toEv0 φ H' sw σ' ∧ Run Z.toEv1 (Er W) (FlR Z) (forL A Bf s (s.items.drop (i + 1)) sw G) φ H' (DQ D), fun σ' H' h => ⟨_, by omega, rfl, h⟩, fun x H' y => ?_⟩
      obtain ⟨fy, ry, sx⟩ := hy x H' y
      have hdrop : s.items.drop i = w :: s.items.drop (i + 1) := by
        rw [List.drop_eq_getElem_cons hi]
        congr 1
        rw [List.getElem?_eq_getElem hi] at hw
        exact Option.some.inj hw
      rw [hdrop] at run2
      simp only [forL, hok, if_true] at run2
      have run2 := run2.later fy
      rcases noX_case (A w sw G) with ⟨sw1, G2, eA, eA'⟩ | eA
      case inr => rw [eA] at run2; exact run2.elim
      rw [eA', bnd_ok] at run2
      refine ⟨φ, G, sw, w, ry, sl.keep fy r.ours, sx, ?_⟩
      have eA2 : asgT (Z.cl n) Z.gk t w sw G = .ok sw1 G2 := by rw [← hA] at eA; exact eA
      rw [eA2, noX_ok]
      intro φ2 H2 σ2 f2 r2 ⟨sl2, _, _⟩
      have run3 := run2.later f2
      have eB : ∀ sw G, exB (Z.cl n) Z.gk Z.wf bb sw G = Bf sw G := fun sw G => by rw [← hB]
      refine ⟨φ2, G2, sw1, r2, sl2, ?_⟩
      rw [eB]
      refine (run3.bnd).imp fun b H3 ⟨φ3, G3, f, f3, rl3, s3, run4⟩ => ?_
      have F3 := ((fr.trans fy).trans f2).trans f3
      cases f with
      | nx sw2 =>
        cases b with
        | nx σ3 => exact ⟨φ3, G3, sw2, F3, rl3, s3, run4⟩
        | _ => exact s3.elim
      | ct sw2 =>
        cases b with
        | ct σ3 => exact ⟨φ3, G3, sw2, F3, rl3, s3, run4⟩
        | _ => exact s3.elim
      | bk sw2 =>
        cases b with
        | bk σ3 => exact nx_here (D := D) run4 rl3 s3
        | _ => exact s3.elim
      | rt w =>
        cases b with
        | rt v => exact rt_here (D := D) run4 rl3 s3
        | _ => exact s3.elim⟩
end
end T2
end

section
set_option linter.all false
set_option autoImplicit false
set_option maxRecDepth 100000
set_option maxHeartbeats 2000000
/-! T2: except clauses, with and without a name, in one try. -/
namespace T2
open PySem L2 PySem.Spec PyProof.Rows
/-- a clause: the class, the slot of its name (if it has one), its suite -/
abbrev Cl3 := Value × Option Nat × (Addr → Value → Option Addr → TS)
/-- the end of a suite whose name goes -/
def endOf (D : Ends) : Option Nat → Ends
  | none => D
  | some i => { nx := fun σ H => D.nx (σ.set i none) H, rt := D.rt, bk := fun σ H => D.bk (σ.set i none) H, ct := fun σ H => D.ct (σ.set i none) H }
def slotOf (σ : L2.St) (a : Addr) : Option Nat → L2.St
  | none => σ
  | some i => σ.set i (some (.ref a))
def wMix (K : PySem.W.Frag) (Wout : WX) (D : Ends) : List Cl3 → WX
  | [] => Wout
  | (c, oi, ts) :: r => fun cls d σ H => ∃ b, PySem.W.exmOne K cls c = some b ∧ (b = true → ∀ a, H a = none → ts a cls d (endOf D oi) (slotOf σ a oi) H) ∧ (b = false → wMix K Wout D r cls d σ H)
/-- the name of a clause -/
def NameOk (X : Cx) : Option Str → Option Nat → Prop
  | none, none => True
  | some n, some i => X.N.Nodup ∧ X.N[i]? = some n ∧ X.env.kindOf n = some .local
  | _, _ => False
inductive MixOk (X : Cx) : List ExceptHandler → List Cl3 → Prop
  | nil : MixOk X [] []
  | cons {x : Str} {on : Option Str} {oi : Option Nat} {c : Value} {ts : Addr → Value → Option Addr → TS} {b₀ : Stmt} {suite : List Stmt} {np pos' : Pos} {hds : List ExceptHandler} {l : List Cl3} (hc : Names X x c) (hn : NameOk X on oi)
      (hsu : ∀ (a : Addr) (oe : Obj) (cls : Value) (d : Option Addr) (pn : List (Addr × Obj)), Zc cls d oe → (∃ vs, oe.data = .fields vs) → PSs (X.suite a ((a, oe) :: pn)) (b₀ :: suite) (ts a cls d)) (r : MixOk X hds l) :
      MixOk X (.ExceptHandler (some (.Name x np)) on (b₀ :: suite) pos' :: hds) ((c, oi, ts) :: l)
/-- an exception that has come down to the clauses -/
structure Down (X : Cx) (pins : List (Addr × Obj)) (σ : L2.St) (H : Hp) (a : Addr) (cls : Value) (d : Option Addr) (h : Heap) (s' : Shared) : Prop where
  ex : ∃ (B : Heap) (sI : Shared), L2.Inv X pins σ H sI ∧ (∀ b o, sI.heap.get? b = some o → b ∉ frs X.stack → B.get? b = some o) ∧ PySem.HandSPX.FlyingZ B (X.env :: X.outer) a (Zc cls d) h ∧ sI.heap.UpToSlots h ∧ H a = none ∧ s'.os = sI.os ∧ AllBare s'.gens
section
variable {X : Cx} {pins : List (Addr × Obj)} {σ : L2.St} {H : Hp} {a : Addr} {cls : Value} {d : Option Addr} {h : Heap} {s' : Shared}
theorem Down.inv (D : Down X pins σ H a cls d h s') : L2.Inv X pins σ H { s' with heap := h } := by
  obtain ⟨B, sI, J, nb, fl, up, na, os, ag⟩ := D.ex
  exact J.landed nb fl.1 up os ag
theorem Down.na (D : Down X pins σ H a cls d h s') : H a = none := by
  obtain ⟨B, sI, J, nb, fl, up, na, os, ag⟩ := D.ex
  exact na
/-- the state in a suite -/
theorem Down.suite (D : Down X pins σ H a cls d h s') (hf : X.env.frame = some X.env.locals) : ∃ (oe : Obj) (vs : Array Value), h.get? a = some oe ∧ Zc cls d oe ∧ oe.data = .fields vs ∧ L2.Inv (X.suite a ((a, oe) :: (X.pn ++ pins))) [] σ H { s' with heap := h } := by
  obtain ⟨B, sI, J, nb, fl, up, na, os, ag⟩ := D.ex
  obtain ⟨oe, vs, he, hz, hd⟩ := fl.there
  have nfr : a ∉ frs (X.env :: X.outer) := fun hm => by
    obtain ⟨_, o', e', hnf⟩ := fl.2.2.1.mem hm
    rw [he] at e'
    cases e'
    exact hnf _ hd
  have nL : a ≠ X.env.locals := fun z => nfr (List.mem_filterMap.mpr ⟨X.env, List.mem_cons_self, by rw [hf, z]⟩)
  have nF : a ∉ X.fs := fun hm => by
    obtain ⟨e, he, q⟩ := List.mem_filterMap.mp hm
    exact nfr (List.mem_filterMap.mpr ⟨e, List.mem_cons_of_mem _ he, q⟩)
  exact ⟨oe, vs, he, hz, hd, D.inv.suite he hd na nL nF⟩
/-- no clause is left -/
theorem Down.out {Wout : WX} {Q : Flow → Shared → Prop} (D : Down X pins σ H a cls d h s') (hs : X.stack = X.env :: X.outer) (hf : X.env.frame = some X.env.locals) (tk : Takes X Wout) (w : Wout cls d σ H) :
    wpAny (model X.prog X.w) X.A (handleBy (.ref a) X.env []) Q X.xe { s' with heap := h } := by
  obtain ⟨B, sI, J, nb, fl, up, na, os, ag⟩ := D.ex
  refine wpAny_handleBy_nil ?_
  obtain ⟨k1, k2, k3, oe, vs, T, oT, ts', he, hz, hd, h1, hr⟩ := id fl
  unfold PySem.passOn
  refine wpAny_bind (wpAny_field he hd h1 ?_)
  rw [if_neg (show ¬ ((Value.ref T == Value.none) = true) from by simp)]
  have fin : wpAny (model X.prog X.w) X.A (setFlight (.ref a) X.env.frame) (fun _ s4 => wpAny (model X.prog X.w) X.A (throw (.ref a) : Sem Flow) Q X.xe s4) X.xe { s' with heap := h } := by
    rw [hf]
    refine HandSPX.setFlight_upZ fl fun h4 hh4 up4 => wpAny_throw (tk _ _ ?_)
    exact ⟨a, B, sI, pins, σ, H, cls, d, rfl, J, nb, up.trans up4, .inr (.inr (by rw [hs]; exact hh4)), na, os, ag, w⟩
  first
    | exact wpAny_bind (wpAny_pure (wpAny_bind fin))
    | exact wpAny_bind fin
/-- a suite that ends -/
theorem suite_end {D : Ends} {q : Addr × Obj} {pn' : List (Addr × Obj)} {f : Flow} {s6 : Shared} (ok : X.Ok) (hsp : SP (X.suite a (q :: (X.pn ++ pins))) pn' D f s6) : SP X pins D f s6 := by
  cases f with
  | next => obtain ⟨σ6, H6, S6, q6⟩ := hsp; exact ⟨_, _, S6.unsuite ok, q6⟩
  | brk => obtain ⟨σ6, H6, S6, q6⟩ := hsp; exact ⟨_, _, S6.unsuite ok, q6⟩
  | cont => obtain ⟨σ6, H6, S6, q6⟩ := hsp; exact ⟨_, _, S6.unsuite ok, q6⟩
  | ret u => obtain ⟨v6, σ6, H6, S6, r6, q6⟩ := hsp; exact ⟨_, _, _, S6.unsuite ok, r6, q6⟩
theorem handle_mix {D : Ends} {Wout : WX} {hds : List ExceptHandler} {l : List Cl3} (hs : X.stack = X.env :: X.outer) (hf : X.env.frame = some X.env.locals) (tk : Takes X Wout) (hk : MixOk X hds l) (ok : X.Ok) (dn : Down X pins σ H a cls d h s') (w : wMix X.K Wout D l cls d σ H) :
    wpAny (model X.prog X.w) X.A (handleBy (.ref a) X.env hds) (SP X pins D) X.xe { s' with heap := h } := by
  induction hk with
  | nil => exact dn.out hs hf tk w
  | @cons x on oi c ts b₀ suite np pos' hds2 l2 hc hn hsu r ih =>
    obtain ⟨b, hb1, hyes, hno⟩ := w
    obtain ⟨oe3, vs3, he3, hz3, hd3, S3⟩ := dn.suite hf
    have LT : PySem.W.Looks (model X.prog X.w) h (typeOf (.ref a)) cls := fun A Q E s k q => wpAny_typeOf_ref (k _ _ he3) (by rw [hz3.1]; exact q)
    have LM := PySem.W.exm_one (M := model X.prog X.w) (dn.inv.kIn) LT hb1
    have test : ∀ {Q : Value → Shared → Prop} {E : Value → Shared → Prop}, Q c { s' with heap := h } → wpAny (model X.prog X.w) (X.A.mark (some (.ref a))) (eval (.Name x np) X.env) Q E { s' with heap := h } := fun {Q E} q => by
      obtain ⟨hg, hdbg, hm | ⟨hm, hv, hnn⟩⟩ := hc
      · exact ld_glob (X := X.suite a ((a, oe3) :: (X.pn ++ pins))) S3 hg hm q hdbg
      · exact ld_blt (X := X.suite a ((a, oe3) :: (X.pn ++ pins))) S3 hg hm hv q hnn hdbg
    have again : ∀ {M : Model} {A : Around} {E : Value → Shared → Prop} {Q : Unit → Shared → Prop}, (∀ h4, Down X pins σ H a cls d h4 s' → Q () { s' with heap := h4 }) → wpAny M A (setFlight (.ref a) none) Q E { s' with heap := h } → wpAny M A (setFlight (.ref a) none) Q E { s' with heap := h } := fun _ z => z
    refine wpAny_handleBy_cons (codeAny_handlers_test ?_) (by intro q; cases q)
    refine test (LM.here ?_)
    cases b with
    | false =>
      show wpAny _ X.A (handleBy (.ref a) X.env hds2) _ _ _
      exact ih (hno rfl)
    | true =>
      obtain ⟨B, sI, J, nb, fl3, up, na, os, ag⟩ := dn.ex
      cases on with
      | none =>
        cases oi with
        | some i => exact hn.elim
        | none =>
          refine codeAny_handlers_suite ?_
          refine HandSPX.lands_againZ fl3 fun h4 fl4 up4 => ?_
          have dn4 : Down X pins σ H a cls d h4 s' := ⟨B, sI, J, nb, fl4, up.trans up4, na, os, ag⟩
          obtain ⟨oe4, vs4, he4, hz4, hd4, S4⟩ := dn4.suite hf
          exact wpAny_mono ((hsu a oe4 cls d (X.pn ++ pins) hz4 ⟨_, hd4⟩).run [] _ _ H _ S4 (hyes rfl a na)) (fun f s6 hsp => by cases f <;> exact suite_end ok hsp) (fun _ _ z => False.elim z)
      | some n =>
        cases oi with
        | none => exact hn.elim
        | some i =>
          obtain ⟨hN, hi, hln⟩ := hn
          refine codeAny_handlers_suite_as ?_
          refine HandSPX.lands_againZ fl3 fun h4 fl4 up4 => ?_
          have dn4 : Down X pins σ H a cls d h4 s' := ⟨B, sI, J, nb, fl4, up.trans up4, na, os, ag⟩
          obtain ⟨oe4, vs4, he4, hz4, hd4, S4⟩ := dn4.suite hf
          refine store_ok (X := X.suite a ((a, oe4) :: (X.pn ++ pins))) (v := .ref a) S4 hN hi (.inl hln) rfl (fun s5 S5 => ?_) (.inr hln)
          refine wpAny_mono ((hsu a oe4 cls d (X.pn ++ pins) hz4 ⟨_, hd4⟩).run [] s5 _ H _ S5 (hyes rfl a na)) (fun f s6 hsp => ?_) (fun _ _ z => False.elim z)
          cases f with
          | next =>
            obtain ⟨σ6, H6, S6, q6⟩ := hsp
            exact gone_ok (S6.unsuite ok) hN hi hln fun s7 J7 => ⟨_, _, J7, q6⟩
          | brk =>
            obtain ⟨σ6, H6, S6, q6⟩ := hsp
            exact gone_ok (S6.unsuite ok) hN hi hln fun s7 J7 => ⟨_, _, J7, q6⟩
          | cont =>
            obtain ⟨σ6, H6, S6, q6⟩ := hsp
            exact gone_ok (S6.unsuite ok) hN hi hln fun s7 J7 => ⟨_, _, J7, q6⟩
          | ret u =>
            obtain ⟨v6, σ6, H6, S6, r6, q6⟩ := hsp
            exact gone_ok (S6.unsuite ok) hN hi hln fun s7 J7 => ⟨_, _, _, J7, r6, q6⟩
theorem ps_try_mix {body : List Stmt} {h₀ : ExceptHandler} {hds : List ExceptHandler} {l : List Cl3} {pos : Pos} {tb : WX → TS} {Wout : WX} (hs : X.stack = X.env :: X.outer) (hf : X.env.frame = some X.env.locals) (tk : Takes X Wout)
    (hb : ∀ (W : WX) (pn : List (Addr × Obj)) (xe : Value → Shared → Prop), Takes (X.tr pn xe) W → PassesOwn (model X.prog X.w) X.A X.env xe → PSs (X.tr pn xe) body (tb W))
    (hh : MixOk X (h₀ :: hds) l) : PS X (.Try body (h₀ :: hds) [] [] pos) (fun D σ H => tb (wMix X.K Wout D l) D σ H) := by
  refine ⟨fun pins s σ H D I hw => ?_⟩
  have ok := I.ok
  have hfr : X.A.frames = some (X.env :: X.outer) := by rw [ok.frames, hs]
  refine wpAny_Try_except ?_
  refine wpAny_mono ((hb (wMix X.K Wout D l) (X.pn ++ pins) (fun e s₁ => wpAny (model X.prog X.w) X.A (noteFrame e X.env) (fun _ s₂ => wpAny (model X.prog X.w) X.A (setFlight e none) (fun _ s₃ =>
    wpAny (model X.prog X.w) X.A (handleBy e X.env (h₀ :: hds)) (SP X pins D) X.xe s₃) X.xe s₂) X.xe s₁) (fun u s' xx => ?_) PassesOwn.looking).run [] s σ H D (I.toTry _) hw) (fun f s1 hsp => ?_) (fun e s1 he => he)
  · obtain ⟨a, B, sI, pins', σ', H', cls, d, rfl, J', nb, up, sky, na, os, ag, w⟩ := xx
    have sky' : Sky B (X.env :: X.outer) a (Zc cls d) X.env.locals s'.heap := by rw [← hs]; exact sky
    show wpAny (model X.prog X.w) X.A (noteFrame (.ref a) X.env) _ _ _
    exact Sky.land Zc.steady hfr hf sky' fun h3 fl3 up3 => handle_mix hs hf tk hh ok ⟨B, sI, J'.ofTry ok, nb, fl3, up.trans up3, na, os, ag⟩ w
  · cases f with
    | next => obtain ⟨σ', H', J', q⟩ := hsp; exact wpAny_execs_nil ⟨σ', H', J'.ofTry ok, q⟩
    | brk => obtain ⟨σ', H', J', q⟩ := hsp; exact ⟨σ', H', J'.ofTry ok, q⟩
    | cont => obtain ⟨σ', H', J', q⟩ := hsp; exact ⟨σ', H', J'.ofTry ok, q⟩
    | ret u => obtain ⟨v, σ', H', J', r, q⟩ := hsp; exact ⟨v, σ', H', J'.ofTry ok, r, q⟩
end
end T2
end

section
set_option linter.all false
set_option autoImplicit false
set_option maxRecDepth 100000
set_option maxHeartbeats 2000000
/-! T2: raise, try, defs. -/
namespace T2
open PySem L2
/-- C.__init__(self, v): self.f = v -/
def spI (C : Addr) (f : Str) : Sp := fun vs H Q E => ∃ (a : Addr) (v : V), vs = [.ref a, v] ∧ H a = some (exo a C none) ∧ ∀ dx, H dx = none → dx ≠ a → Q .non (upd (upd H dx (exd dx [(f, v)])) a (exo a C (some dx)))
/-- an exception class with a field -/
structure XcOk (Z : Ev2) (c : Nat) : Prop where
  oex : OexC Z.K (Z.xa c)
  ini : ∃ (fI : Addr) (fd : FuncData) (f : Str), Z.xf c = [f] ∧ PySem.W.findIn Z.K (.ref (Z.xa c)) "__init__" = some (some (.ref fI)) ∧ PySem.W.typeIn Z.K (.ref fI) = some (.type "function") ∧
    FnOk Z.P Z.w Z.K Z.mg Z.base (L2.CX Z.P Z.w) 1 fI fd ["self", f] (spI (Z.xa c) f) ∧ Binds Z.K fd ["self", f] []
  xfc : XfC Z.K (Z.xa c)
  no : ∀ f ∈ Z.xf c, PySem.W.findIn Z.K (.ref (Z.xa c)) f = some none
/-- the classes tell one another apart -/
def Exm (Z : Ev2) : Prop := ∀ c d, c < Z.xn → d < Z.xn → PySem.W.exmOne Z.K (.ref (Z.xa c)) (.ref (Z.xa d)) = some (decide (d = c))
section
variable {Z : Ev2} {N : List Str} {sc : Scope} {e a b c₁ tg iter elt : Expr} {ca cb cc ce : E} {t : T} {ts : Ts} {pos p p1 p2 : Pos} {es ifs : List Expr} {cs : Es} {x : Str} {st : Stmt} {sts sts2 : List Stmt} {s : S} {bb bb2 : B} {c : Nat}
/-- raise C(e) -/
theorem HS.raise1 (gz : Good Z) (xc : XcOk Z c) (hc : c < Z.xn) (hk : Z.xnm[c]? = some x) (hg : glB sc x = true) (hn : nmB x = false) (he : HE Z N sc F1 e ce) : HS Z N sc (.Raise (some (.Call (.Name x p) [e] [] p1)) none pos) (.raise c (.cons ce .nil)) :=
  ⟨fun n W X g => by
    obtain ⟨fI, fd, f, hxf, iC, tI, F1', bi⟩ := xc.ini
    refine PS_of (ps_raise (W := W) g.gd.calm g.tk (pmk_oex (CX := L2.CX X.prog X.w) (k := 1) (fI := fI) (C := Z.xa c) (sp := spI (Z.xa c) f) (dvs := []) (ds := []) (by rw [g.gd.K]; exact xc.oex) (by rw [g.gd.K]; exact iC) (by rw [g.gd.K]; exact tI)
      (by rw [g.gd.P, g.gd.w, g.gd.K, g.mg, g.base]; exact F1') (g.gd.room.mono (by omega)) (by rw [g.gd.K]; exact bi) .nil passL (glB_ok hg g.sc) (by rw [g.mg]; exact gz.xc c x hk) (pa_cons (he.run n W X g.toCtx) pa_nil (he.sx.p1 _ _)) (nmB_1 hn) (he.sx.p1 _ _) rfl)) ?_
    intro D σ H ⟨φ, G, sw, rl, sl, run⟩
    simp only [ex, evs] at run
    have run : Run Z.toEv1 (Er W) (FlR Z) (bnd (ev (Z.cl n) Z.gk ce sw G) fun w G1 => Res.exc c [w] G1) φ H (DQ D) := by
      cases h : ev (Z.cl n) Z.gk ce sw G with
      | ok w G1 => rw [h] at run; exact run
      | exc c fs G1 => rw [h] at run; exact run
      | stuck => rw [h] at run; exact run
    refine tM_bnd rl sl run fun v φ1 G1 H1 w f1 rl1 sl1 sv run1 => ?_
    have sv : Sim Z.toEv0 φ1 H1 w v := sv
    refine ⟨by simp, fun a ha => ⟨a, v, rfl, upd_same, fun dx hdx hne => ⟨rfl, dx, [(f, v)], upd_same, by rw [upd_ne hne, upd_same], ?_, ?_⟩⟩⟩
    · rw [upd_ne hne] at hdx
      exact hdx
    · have hdx1 : H1 dx = none := by
        rw [upd_ne hne] at hdx
        exact hdx
      have eH : upd (del (upd (upd (upd H1 a (exo a (Z.xa c) none)) dx (exd dx [(f, v)])) a (exo a (Z.xa c) (some dx))) a) dx (.xd [(f, v)]) = upd H1 dx (.xd [(f, v)]) := by
        funext b
        by_cases hb : b = dx
        · subst hb
          rw [upd_same, upd_same]
        · rw [upd_ne hb, upd_ne hb]
          by_cases hb2 : b = a
          · subst hb2
            rw [del_same, ha]
          · rw [del_ne hb2, upd_ne hb2, upd_ne hb, upd_ne hb2]
      rw [eH]
      refine run1 φ1 _ (some dx) (Fr.new hdx1) (rl1.new hdx1) ⟨⟨hc, by rw [hxf]; rfl⟩, ?_⟩ σ
      rw [hxf, if_neg (by simp)]
      exact ⟨dx, [v], rfl, upd_same, .cons (Sim.keep (Fr.new hdx1) rl1.ours sv) .nil⟩⟩

/-! #### try -/
/-- the clauses hds do as hs tells -/
structure HHs (Z : Ev2) (N : List Str) (sc : Scope) (hds : List ExceptHandler) (hs : List (Nat × Hf)) : Prop where
  run : ∀ n W X, Ctx1 Z n N sc W X → ∃ l, MixOk X hds l ∧ ∀ (D : Ends) (Wout : WX) (σ' : L2.St) (φ : Ad) (G : List O) (H : Hp) (c : Nat) (fs : List T2.W) (d : Option Addr) (sw : Sl), Rel Z.toEv0 φ G H → XSim Z.toEv0 Z.xf Z.xn φ H c fs d → σ'.length = N.length →
    (match pickH hs c with
      | some h => Run Z.toEv1 (Er Wout) (FlR Z) (evH h fs sw G) φ H (DQ D)
      | none => Wout (.ref (Z.xa c)) d σ' H) → wMix X.K Wout D l (.ref (Z.xa c)) d σ' H
theorem HHs.nil : HHs Z N sc [] [] := ⟨fun n W X g => ⟨[], .nil, fun D Wout σ' φ G H c fs d sw rl xs _ h => h⟩⟩
theorem names_ok {n : Nat} {W : WX} {X : Cx} (gz : Good Z) (g : Ctx1 Z n N sc W X) (hk : Z.xnm[c]? = some x) (hg : glB sc x = true) (hn : nmB x = false) : Names X x (.ref (Z.xa c)) := ⟨glB_ok hg g.sc, nmB_1 hn, .inl (by rw [g.mg]; exact gz.xc c x hk)⟩
theorem kind_ok {X : Cx} {y : Str} (hl : sc.names.lookup y = some .local) (hs : X.env.scope = sc) : X.env.kindOf y = some .local := by
  show X.env.scope.names.lookup y = _
  rw [hs]
  exact hl
/-- a clause's name -/
def nmOk (N : List Str) (sc : Scope) : Option Str → Option Nat → Bool
  | none, none => true
  | some y, some i => decide (N[i]? = some y) && decide (sc.names.lookup y = some .local)
  | _, _ => false
theorem nmOk_ok {n : Nat} {W : WX} {X : Cx} {on : Option Str} {oi : Option Nat} (g : Ctx1 Z n N sc W X) (h : nmOk N sc on oi = true) : NameOk X on oi := by
  cases on with
  | none => cases oi with
    | none => trivial
    | some i => simp [nmOk] at h
  | some y => cases oi with
    | none => simp [nmOk] at h
    | some i =>
      simp only [nmOk, Bool.and_eq_true, decide_eq_true_eq] at h
      exact ⟨by rw [g.nm]; exact g.nd, by rw [g.nm]; exact h.1, kind_ok h.2 g.sc⟩
theorem end_rt (D : Ends) (oi : Option Nat) : (endOf D oi).rt = D.rt := by cases oi <;> rfl
/-- except C: return k -/
theorem HHs.retk {hds : List ExceptHandler} {hs : List (Nat × Hf)} {on : Option Str} {oi : Option Nat} {w : T2.W} {v : V} {np pos' pos2 : Pos} (gz : Good Z) (em : Exm Z) (hc : c < Z.xn) (hk : Z.xnm[c]? = some x) (hg : glB sc x = true) (hn : nmB x = false) (ho : nmOk N sc on oi = true)
    (he : ∀ X : Cx, PE X e (tC v)) (hv : ∀ φ H, Sim Z.toEv0 φ H w v) (r : HHs Z N sc hds hs) : HHs Z N sc (.ExceptHandler (some (.Name x np)) on [.Return (some e) pos2] pos' :: hds) ((c, .retk w) :: hs) :=
  ⟨fun n W X g => by
    obtain ⟨l, hl, q⟩ := r.run n W X g
    refine ⟨(.ref (Z.xa c), oi, fun _ _ _ => tRet (tC v)) :: l, .cons (names_ok gz g hk hg hn) (nmOk_ok g ho) (fun a oe cls d pn _ _ => pss_one (ps_ret (he _))) hl, fun D Wout σ' φ G H c' fs d sw rl xs hlen h => ?_⟩
    refine ⟨decide (c = c'), by rw [g.gd.K]; exact em c' c xs.1.1 hc, fun hb a ha => ?_, fun hb => ?_⟩
    · have hb : c = c' := of_decide_eq_true hb
      subst hb
      simp only [pickH, if_true] at h
      show (endOf D oi).rt v H
      rw [end_rt]
      exact rt_here h rl (hv φ H)
    · have hb : c ≠ c' := of_decide_eq_false hb
      simp only [pickH, if_neg hb] at h
      exact q D Wout σ' φ G H c' fs d sw rl xs hlen h⟩
/-- except C as y: return y.f -/
theorem HHs.retf {hds : List ExceptHandler} {hs : List (Nat × Hf)} {y f : Str} {i : Nat} {np pos' pos2 pos3 : Pos} (gz : Good Z) (em : Exm Z) (xc : XcOk Z c) (hc : c < Z.xn) (hk : Z.xnm[c]? = some x) (hg : glB sc x = true) (hn : nmB x = false) (hN : N[i]? = some y) (hly : sc.names.lookup y = some .local) (hny : nmB y = false)
    (hf : Z.xf c = [f]) (r : HHs Z N sc hds hs) : HHs Z N sc (.ExceptHandler (some (.Name x np)) (some y) [.Return (some (.Attribute (.Name y p) f pos3)) pos2] pos' :: hds) ((c, .retf 0) :: hs) :=
  ⟨fun n W X g => by
    obtain ⟨l, hl, q⟩ := r.run n W X g
    refine ⟨(.ref (Z.xa c), some i, fun a cls d => tRet (tXf a cls d (Z.xa c) f (tVar i))) :: l, .cons (names_ok gz g hk hg hn) (nmOk_ok g (by simp [nmOk, hN, hly])) (fun a oe cls d pn hz hfl => pss_one (ps_ret (pe_xf (by rw [g.gd.K]; exact xc.xfc) (by rw [g.gd.K]; exact xc.no f (by rw [hf]; exact List.mem_cons_self)) hz hfl
      (pe_var (X := X.suite a ((a, oe) :: pn)) (i := i) (by show X.N[i]? = _; rw [g.nm]; exact hN) (.inl (kind_ok hly g.sc)) (nmB_1 hny) (nmB_2 hny))))) hl, fun D Wout σ' φ G H c' fs d sw rl xs hlen h => ?_⟩
    refine ⟨decide (c = c'), by rw [g.gd.K]; exact em c' c xs.1.1 hc, fun hb a ha => ?_, fun hb => ?_⟩
    · have hb : c = c' := of_decide_eq_true hb
      subst hb
      simp only [pickH, if_true] at h
      have h2 := xs.2
      rw [hf, if_neg (by simp)] at h2
      obtain ⟨dx, vs, ed, ex_, ss⟩ := h2
      have hl1 : fs.length = 1 := by rw [xs.1.2, hf]; rfl
      match fs, vs, ss, hl1 with
      | [w], [v], .cons s1 .nil, _ =>
        refine ⟨.ref a, ?_, rfl, rfl, dx, [(f, v)], v, ed, ex_, by simp [List.lookup], ?_⟩
        · show (σ'.set i (some (.ref a)))[i]? = _
          rw [List.getElem?_set_self (by rw [hlen]; exact (List.getElem?_eq_some_iff.mp hN).1)]
        · exact rt_here (D := D) h rl s1
    · have hb : c ≠ c' := of_decide_eq_false hb
      simp only [pickH, if_neg hb] at h
      exact q D Wout σ' φ G H c' fs d sw rl xs hlen h⟩
theorem HS.tri {h₀ : ExceptHandler} {hds : List ExceptHandler} {hs : List (Nat × Hf)} (hb : HB Z N sc sts bb) (hh : HHs Z N sc (h₀ :: hds) hs) : HS Z N sc (.Try sts (h₀ :: hds) [] [] pos) (.tri bb hs) :=
  ⟨fun n W X g => by
    obtain ⟨l, hl, q⟩ := hh.run n W X g
    refine PS_of (ps_try_mix (X := X) (Wout := W) (tb := fun W' => tS Z (fun c d σ H => σ.length = N.length → W' c d σ H) (exB (Z.cl n) Z.gk Z.wf bb)) g.stk g.fr g.tk (fun W' pn xe tk po => hb.run n _ (X.tr pn xe) ⟨⟨⟨g.gd.P, g.gd.w, g.gd.K, g.gd.calm, g.gd.room⟩, g.nm, g.nd, g.sc, ?_, g.mg, g.base, g.fns, g.fn⟩, po, g.stk, g.fr⟩) hl) ?_
    · intro u s' ⟨a, B, sI, pins, σ, H, cls, d, e, I, nb, up, sky, na, os, ag, w⟩
      exact tk u s' ⟨a, B, sI, pins, σ, H, cls, d, e, I, nb, up, sky, na, os, ag, w (by rw [I.len]; show X.N.length = _; rw [g.nm])⟩
    · intro D σ H ⟨φ, G, sw, rl, sl, run⟩
      refine ⟨φ, G, sw, rl, sl, ?_⟩
      simp only [ex] at run
      cases hr : exB (Z.cl n) Z.gk Z.wf bb sw G with
      | ok f G1 => rw [hr] at run; exact run
      | stuck => rw [hr] at run; exact run
      | exc c fs G1 =>
        rw [hr] at run
        simp only at run
        intro φ' H' d f r xs σ' hlen
        refine q D W σ' φ' G1 H' c fs d sw r xs hlen ?_
        cases hp : pickH hs c with
        | some h =>
          simp only [hp] at run ⊢
          exact run.later f
        | none =>
          simp only [hp] at run ⊢
          exact run φ' H' d f r xs σ'⟩

/-! ### defs -/
/-- the k-th def of the text -/
structure FnD (Z : Ev2) (k : Nat) (d : Df) : Prop where
  ex : ∃ (x qual : Str) (params : Arguments) (body : List Stmt) (scope : Scope) (fd : FuncData) (N ps : List Str), FunD Z.K x qual params body scope [] [] (Z.fa k) fd ∧ FnScope N ps scope ∧ ps.length = d.pars ∧ N.length = d.slots ∧ HB Z N scope body d.body ∧ Binds Z.K fd ps []
theorem fn_run {n k : Nat} {d : Df} {x qual : Str} {params : Arguments} {body : List Stmt} {scope : Scope} {fd : FuncData} {N ps : List Str} (hd : Z.tb k = some d) (fns : ∀ k d, Z.tb k = some d → Fn1 Z n k) (F : FunD Z.K x qual params body scope [] [] (Z.fa k) fd) (S : FnScope N ps scope) (hp : ps.length = d.pars) (hN : N.length = d.slots)
    (hb : HB Z N scope body d.body) : FnOk Z.P Z.w Z.K Z.mg Z.base (L2.CX Z.P Z.w) (n + 3) (Z.fa k) fd ps (spF Z (n + 1) k) := by
  have key : ∀ ws G, Z.cl (n + 1) k ws G = runD (Z.cl n) Z.gk Z.wf d ws G := fun ws G => by
    show (match Z.tb k with
      | some d => runD (calls Z.tb Z.gk Z.wf n) Z.gk Z.wf d ws G
      | none => .stuck) = _
    rw [hd]
  have lenK : ∀ vs H Q E, spF Z (n + 1) k vs H Q E → vs.length = ps.length := fun vs H Q E ⟨φ, G, ws, rl, ss, run⟩ => by
    rw [key] at run
    unfold runD at run
    split at run
    · rename_i h
      rw [← ss.len, h, hp]
    · exact run.elim
  refine FunD.ok (k := n + 2) F S lenK fun cdv A outer s H vs Q E hr hsp => ?_
  have hlen := lenK vs H Q E hsp
  obtain ⟨φ, G, ws, rl, ss, run⟩ := hsp
  rw [key] at run
  unfold runD at run
  split at run
  case isFalse => exact run.elim
  rename_i hw
  refine ⟨tS Z (fun cls d _ H => E cls d H) (exB (Z.cl n) Z.gk Z.wf d.body), hb.run n _ _ ⟨⟨⟨rfl, rfl, rfl, rfl, hr⟩, rfl, S.nd, rfl, takes_of rfl rfl rfl rfl, rfl, rfl, fns, fun _ _ => rfl⟩, passes_of rfl, rfl, rfl⟩, ?_⟩
  refine ⟨φ, G, ws.map some ++ List.replicate (d.slots - d.pars) none, rl, ?_, ?_⟩
  · refine ⟨?_, fun i w h => ?_⟩
    · unfold L2.start
      simp only [List.length_append, List.length_map, List.length_replicate]
      have := ss.len
      omega
    · unfold L2.start
      by_cases hi : i < ws.length
      · rw [List.getElem?_append_left (by simpa using hi), List.getElem?_map] at h
        cases hq : ws[i]? with
        | none => rw [hq] at h; cases h
        | some w' =>
          rw [hq] at h
          cases h
          obtain ⟨v, hv, sv⟩ := ss.get hq
          exact ⟨v, by rw [List.getElem?_append_left (by simpa using (List.getElem?_eq_some_iff.mp hv).1), List.getElem?_map, hv]; rfl, sv⟩
      · rw [List.getElem?_append_right (by simpa using hi)] at h
        have := List.mem_of_getElem? h
        rw [List.mem_replicate] at this
        cases this.2
  · cases hr : exB (Z.cl n) Z.gk Z.wf d.body (ws.map some ++ List.replicate (d.slots - d.pars) none) G with
    | stuck => rw [hr] at run; exact run
    | exc c fs G1 =>
      rw [hr] at run
      exact fun φ' H' dd f r xs _ => run φ' H' dd f r xs
    | ok f G1 =>
      rw [hr] at run
      intro φ' H' b fr r q
      cases f with
      | nx sw1 =>
        cases b with
        | nx σ1 => exact run φ' H' .non fr r .non
        | _ => exact q.elim
      | rt w =>
        cases b with
        | rt v => exact run φ' H' v fr r q
        | _ => exact q.elim
      | bk _ => exact run.elim
      | ct _ => exact run.elim
theorem fnD_step {n k : Nat} {d : Df} (hd : Z.tb k = some d) (fns : ∀ k d, Z.tb k = some d → Fn1 Z n k) (F : FnD Z k d) : Fn1 Z (n + 1) k := by
  obtain ⟨x, qual, params, body, scope, fd, N, ps, F, S, hp, hN, hb, bi⟩ := F.ex
  exact ⟨fd, ps, fn_run hd fns F S hp hN hb, F.kp, bi⟩
theorem fnD_zero {k : Nat} {d : Df} (F : FnD Z k d) : Fn1 Z 0 k := by
  obtain ⟨x, qual, params, body, scope, fd, N, ps, F, S, hp, hN, hb, bi⟩ := F.ex
  exact ⟨fd, ps, ⟨fun vs H Q E ⟨_, _, _, _, _, run⟩ => run.elim, fun _ _ _ _ _ _ _ _ _ _ _ _ _ ⟨_, _, _, _, _, run⟩ => run.elim⟩, F.kp, bi⟩
/-- all defs keep their promises -/
theorem fnD_all (h : ∀ k d, Z.tb k = some d → FnD Z k d) : ∀ n k d, Z.tb k = some d → Fn1 Z n k
  | 0, k, d, hd => fnD_zero (h k d hd)
  | n + 1, k, d, hd => fnD_step hd (fnD_all h n) (h k d hd)
end
end T2
end

section
set_option linter.all false
set_option autoImplicit false
set_option maxRecDepth 100000
set_option maxHeartbeats 2000000
/-! T2: from the head's facts to the law. -/
namespace T2
open PySem L2
/-- what is asked of an exception class with the field f -/
def oexB (K : PySem.W.Frag) (C : Addr) : Bool := match K.lookup C with
  | some ⟨.type "type", _, .cls cd, sl⟩ => (match cd.mro, sl.toList with
    | .ref C' :: bm, [_, _, _, _, some (.builtin n), _] => C' == C && n == "ValueError.__new__" && !cd.hasDel && cd.hasDict && PySem.HandSPX.refsVE bm
    | _, _ => false)
  | _ => false
theorem oexB_ok {K : PySem.W.Frag} {C : Addr} (h : oexB K C = true) : ∃ nm q N bs bm sn sub ab col dd k0 k1 k2 k3 k5, K.lookup C = some (excClassObj nm q C N bs bm true sn sub ab col dd k0 k1 k2 k3 k5 "ValueError.__new__") ∧ PySem.HandSPX.refsVE bm = true := by
  unfold oexB at h
  split at h
  case h_2 => cases h
  rename_i dd cd sl ho
  split at h
  case h_2 => cases h
  rename_i C' bm k0 k1 k2 k3 nw k5 hm hs
  simp only [Bool.and_eq_true, beq_iff_eq, Bool.not_eq_true'] at h
  obtain ⟨⟨⟨⟨rfl, rfl⟩, hdel⟩, hdict⟩, ht⟩ := h
  obtain ⟨nm, bs, mro, ns, qn, hd, sn, sub, ab, col, del⟩ := cd
  dsimp only at hm hdel hdict
  subst hm hdel hdict
  have hsl : sl = #[k0, k1, k2, k3, some (.builtin "ValueError.__new__"), k5] := by
    obtain ⟨l⟩ := sl
    simp only at hs
    rw [hs]
  subst hsl
  exact ⟨nm, qn, ns, bs, bm, sn, sub, ab, col, dd, k0, k1, k2, k3, k5, ho, ht⟩
def xcB (K : PySem.W.Frag) (x f : Str) : Bool :=
  oexB K (He.ga K x) && (decide (PySem.W.findIn K (.ref (He.ga K x)) "__setattr__" = some (some (.builtin "object.__setattr__"))) && (decide (PySem.W.subIn K (.ref (He.ga K x)) (.type "BaseException") = some true) && (decide (PySem.W.typeIn K (.ref (He.ga K x)) = some (.type "type")) &&
    (PySem.W.keepIn K (.ref (He.ga K x)) && (decide (PySem.W.findIn K (.ref (He.ga K x)) "__init__" = some (some (.ref (He.ma K (He.ga K x) "__init__")))) && (decide (PySem.W.typeIn K (.ref (He.ma K (He.ga K x) "__init__")) = some (.type "function")) &&
      (xfB K (He.ga K x) && decide (PySem.W.findIn K (.ref (He.ga K x)) f = some none))))))))
structure XcF (K : PySem.W.Frag) (x f : Str) : Prop where
  oex : OexC K (He.ga K x)
  ini : PySem.W.findIn K (.ref (He.ga K x)) "__init__" = some (some (.ref (He.ma K (He.ga K x) "__init__")))
  fn : PySem.W.typeIn K (.ref (He.ma K (He.ga K x) "__init__")) = some (.type "function")
  xfc : XfC K (He.ga K x)
  no : PySem.W.findIn K (.ref (He.ga K x)) f = some none
theorem xcB_ok {K : PySem.W.Frag} {x f : Str} (h : xcB K x f = true) : XcF K x f := by
  simp only [xcB, Bool.and_eq_true, decide_eq_true_eq] at h
  obtain ⟨h1, h2, h3, h4, h5, h6, h7, h8, h9⟩ := h
  exact ⟨⟨oexB_ok h1, h2, h3, h4, h5⟩, h6, h7, xfB_ok h8, h9⟩
/-- self.f = f -/
theorem ini_ok {P : Program} {w : World} {K : PySem.W.Frag} {mg : Str → Option Value} {base : Heap} {qual f : Str} {params : Arguments} {body : List Stmt} {scope : Scope} {fI C : Addr} {fd : FuncData} (F : FunD K "__init__" qual params body scope [] [] fI fd) (S : FnScope ["self", f] ["self", f] scope)
    (hb : ∃ p1 p2 p3 p4, body = [.Assign [.Attribute (.Name "self" p1) f p2] (.Name f p3) p4]) (hv1 : visB scope "self" = true) (hv2 : visB scope f = true) (hn : nmB f = false) (T : OexC K C) (no : PySem.W.findIn K (.ref C) f = some none) : FnOk P w K mg base (L2.CX P w) 1 fI fd ["self", f] (spI C f) := by
  obtain ⟨p1, p2, p3, p4, rfl⟩ := hb
  refine FunD.ok (k := 0) F S (fun vs H Q E ⟨a, v, e, _⟩ => by rw [e]; rfl) fun cdv A outer s H vs Q E hr ⟨a, v, e, ha, q⟩ => ?_
  subst e
  refine ⟨_, pss_one (ps_ost (pe_var (i := 0) rfl (visB_ok hv1 rfl) rfl rfl) (pe_var (i := 1) rfl (visB_ok hv2 rfl) (nmB_1 hn) (nmB_2 hn))), ?_⟩
  exact ⟨v, rfl, .ref a, rfl, a, C, rfl, T, no, .inl ⟨ha, fun dx h1 h2 => q dx h1 h2⟩⟩
/-- the law's own call -/
theorem law_sp {Z : Ev2} {n k : Nat} {H : Hp} {a : Addr} {ns : List Int} (hS : SqL Z.K H a (ns.map V.int)) {G' : List O} (h : Z.cl n k [.scr (ns.map .int)] [] = .ok (.bl true) G') : spF Z n k [.ref a] H (fun v _ => v = .bl true) fun _ _ _ => False := by
  refine ⟨⟨[], []⟩, [], [.scr (ns.map .int)], ⟨rfl, List.nodup_nil, fun i b o e => by simp at e, fun b hb => by simp at hb⟩, .cons (.scr ?_ (Sims.ints ns)) .nil, ?_⟩
  · rcases hS with hS | hS
    · exact .inl ⟨by simp, by simp, hS⟩
    · exact .inr hS
  · rw [h]
    intro φ' H' b _ _ s
    cases s
    rfl
theorem cx_no {P : Program} {w : World} (H : Hp) (s : Shared) (e : Value) (s' : Shared) (h : L2.CX P w [] H s (fun _ _ _ => False) e s') : False := by
  obtain ⟨_, _, _, _, _, _, _, _, _, _, _, _, z⟩ := h
  exact z
/-- a call that lets out more -/
theorem fn_cx {P : Program} {w : World} {K : PySem.W.Frag} {mg : Str → Option Value} {base : Heap} {A B : CXT} {k : Nat} {f : Addr} {fd : FuncData} {ps : List Str} {sp : Sp} (F : FnOk P w K mg base A k f fd ps sp) (h : ∀ o H s E u s', A o H s E u s' → B o H s E u s') : FnOk P w K mg base B k f fd ps sp :=
  ⟨F.len, fun A outer s H args us vs Q E hr he hb hv hs => codeAny_mono (F.run A outer s H args us vs Q E hr he hb hv hs) fun r s' q => by
    cases r with
    | error e => exact h _ _ _ _ _ _ q
    | ok fl => cases fl <;> exact q⟩
/-- what is let out, whatever the world -/
def CXe (P : Program) : CXT := fun o H s E u s' => ∃ w, L2.CX P w o H s E u s'
theorem cxe_no {P : Program} (H : Hp) (s : Shared) (e : Value) (s' : Shared) (h : CXe P [] H s (fun _ _ _ => False) e s') : False := by
  obtain ⟨w, h⟩ := h
  exact cx_no H s e s' h
/-- the first statement of a class's body -/
def inCls : Stmt → Stmt
  | .ClassDef _ _ _ (s :: _) _ _ _ _ _ _ _ => s
  | s => s
end T2
end

section
set_option linter.all false
set_option autoImplicit false
set_option maxRecDepth 100000
set_option maxHeartbeats 2000000
/-! T2: reckoning with code. -/
namespace T2
/-! ### loops by a relation -/
/-- a for loop, turn by turn: St a sw G says that slots and heap stand for a -/
theorem forL_rel {α : Type} {asg : W → Sl → List O → Res Sl} {body : Sl → List O → Res Fl} {s : Seq} (St : α → Sl → List O → Prop) (f : α → W → α) (hok : ∀ a sw G, St a sw G → s.ok G = true) :
    ∀ (xs : List W) (a : α) (sw : Sl) (G : List O), St a sw G →
      (∀ a x sw G, x ∈ xs → St a sw G → ∃ sw1 G1 sw2 G2, asg x sw G = .ok sw1 G1 ∧ (body sw1 G1 = .ok (.nx sw2) G2 ∨ body sw1 G1 = .ok (.ct sw2) G2) ∧ St (f a x) sw2 G2) →
      ∃ sw' G', forL asg body s xs sw G = .ok (.nx sw') G' ∧ St (xs.foldl f a) sw' G'
  | [], a, sw, G, h, _ => ⟨sw, G, by simp only [forL, hok a sw G h, if_true], h⟩
  | x :: xs, a, sw, G, h, step => by
    obtain ⟨sw1, G1, sw2, G2, e1, e2, h2⟩ := step a x sw G List.mem_cons_self h
    obtain ⟨sw', G', e3, h3⟩ := forL_rel St f hok xs (f a x) sw2 G2 h2 fun a y sw G hy => step a y sw G (List.mem_cons_of_mem _ hy)
    refine ⟨sw', G', ?_, h3⟩
    simp only [forL, hok a sw G h, if_true, e1, noX_ok, bnd_ok]
    rcases e2 with e2 | e2 <;> simp only [e2, bnd_ok, e3]
/-- with the items' places -/
theorem forL_ix {asg : W → Sl → List O → Res Sl} {body : Sl → List O → Res Fl} {s : Seq} (xs : List W) (St : Nat → Sl → List O → Prop) (hok : ∀ i sw G, i ≤ xs.length → St i sw G → s.ok G = true)
    (step : ∀ i x sw G, xs[i]? = some x → St i sw G → ∃ sw1 G1 sw2 G2, asg x sw G = .ok sw1 G1 ∧ (body sw1 G1 = .ok (.nx sw2) G2 ∨ body sw1 G1 = .ok (.ct sw2) G2) ∧ St (i + 1) sw2 G2) :
    ∀ (k : Nat) (i : Nat), i + k = xs.length → ∀ sw G, St i sw G → ∃ sw' G', forL asg body s (xs.drop i) sw G = .ok (.nx sw') G' ∧ St xs.length sw' G'
  | 0, i, e, sw, G, h => by
    have : i = xs.length := by omega
    subst this
    rw [List.drop_length]
    exact ⟨sw, G, by simp only [forL, hok _ sw G (Nat.le_refl _) h, if_true], h⟩
  | k + 1, i, e, sw, G, h => by
    have hi : i < xs.length := by omega
    obtain ⟨sw1, G1, sw2, G2, e1, e2, h2⟩ := step i xs[i] sw G (List.getElem?_eq_getElem hi) h
    obtain ⟨sw', G', e3, h3⟩ := forL_ix xs St hok step k (i + 1) (by omega) sw2 G2 h2
    refine ⟨sw', G', ?_, h3⟩
    rw [List.drop_eq_getElem_cons hi]
    simp only [forL, hok i sw G (by omega) h, if_true, e1, noX_ok, bnd_ok]
    rcases e2 with e2 | e2 <;> simp only [e2, bnd_ok, e3]
theorem forL_at {asg : W → Sl → List O → Res Sl} {body : Sl → List O → Res Fl} {s : Seq} (xs : List W) (St : Nat → Sl → List O → Prop) (sw : Sl) (G : List O) (h : St 0 sw G) (hok : ∀ i sw G, i ≤ xs.length → St i sw G → s.ok G = true)
    (step : ∀ i x sw G, xs[i]? = some x → St i sw G → ∃ sw1 G1 sw2 G2, asg x sw G = .ok sw1 G1 ∧ (body sw1 G1 = .ok (.nx sw2) G2 ∨ body sw1 G1 = .ok (.ct sw2) G2) ∧ St (i + 1) sw2 G2) :
    ∃ sw' G', forL asg body s xs sw G = .ok (.nx sw') G' ∧ St xs.length sw' G' := by
  have := forL_ix xs St hok step xs.length 0 (by omega) sw G h
  rwa [List.drop_zero] at this
/-- while, by a measure -/
theorem whlL_rel {t : Sl → List O → Res Bool} {body : Sl → List O → Res Fl} (St : Nat → Sl → List O → Prop) (Fin : Sl → List O → Prop)
    (step : ∀ m sw G, St m sw G → (∃ G1, t sw G = .ok false G1 ∧ Fin sw G1) ∨ ∃ G1 sw2 G2, t sw G = .ok true G1 ∧ (body sw G1 = .ok (.nx sw2) G2 ∨ body sw G1 = .ok (.ct sw2) G2) ∧ ∃ m', m' < m ∧ St m' sw2 G2) :
    ∀ (n m : Nat) (sw : Sl) (G : List O), m < n → St m sw G → ∃ sw' G', whlL t body n sw G = .ok (.nx sw') G' ∧ Fin sw' G'
  | 0, m, _, _, h, _ => absurd h (Nat.not_lt_zero _)
  | n + 1, m, sw, G, h, st => by
    rcases step m sw G st with ⟨G1, e, f⟩ | ⟨G1, sw2, G2, e, e2, m', hm, st2⟩
    · exact ⟨sw, G1, by simp only [whlL, e, bnd_ok]; rfl, f⟩
    · obtain ⟨sw', G', e3, f⟩ := whlL_rel St Fin step n m' sw2 G2 (by omega) st2
      refine ⟨sw', G', ?_, f⟩
      simp only [whlL, e, bnd_ok, if_true]
      rcases e2 with e2 | e2 <;> simp only [e2, bnd_ok, e3]
/-- a comprehension without a test, where nothing on the heap changes -/
theorem lcL_map {asg : W → List O → Res Sl} {cd : Sl → List O → Res Bool} {e : Sl → List O → Res W} {s : Seq} {G : List O} (hok : s.ok G = true) (f : W → W) : ∀ (xs acc : List W), acc.length + xs.length ≤ 16777216 →
    (∀ x ∈ xs, ∃ sw, asg x G = .ok sw G ∧ cd sw G = .ok true G ∧ e sw G = .ok (f x) G) → lcL asg cd e s xs acc G = .ok (acc ++ xs.map f) G
  | [], acc, _, _ => by simp [lcL, hok]
  | x :: xs, acc, hl, h => by
    obtain ⟨sw, e1, e2, e3⟩ := h x List.mem_cons_self
    have hl' : acc.length + 1 ≤ 16777216 := by simp only [List.length_cons] at hl; omega
    have ih := lcL_map hok f xs (acc ++ [f x]) (by simp only [List.length_append, List.length_cons, List.length_nil] at hl ⊢; omega) fun y hy => h y (List.mem_cons_of_mem _ hy)
    simp only [lcL, hok, szOk, Bool.true_and, hl', decide_true, if_true, e1, e2, e3, noX_ok, bnd_ok, ih, List.append_assoc, List.map_cons, List.singleton_append]
/-- a comprehension whose heap changes -/
theorem lcL_rel {asg : W → List O → Res Sl} {cd : Sl → List O → Res Bool} {e : Sl → List O → Res W} {s : Seq} (St : List W → List O → Prop) (hok : ∀ acc G, St acc G → s.ok G = true) : ∀ (xs acc : List W) (G : List O), acc.length + xs.length ≤ 16777216 → St acc G →
    (∀ x acc G, x ∈ xs → St acc G → ∃ sw G1 G2 y G3, asg x G = .ok sw G1 ∧ cd sw G1 = .ok true G2 ∧ e sw G2 = .ok y G3 ∧ St (acc ++ [y]) G3) → ∃ ys G', lcL asg cd e s xs acc G = .ok ys G' ∧ St ys G' ∧ ys.length = acc.length + xs.length
  | [], acc, G, _, h, _ => ⟨acc, G, by simp [lcL, hok acc G h], h, rfl⟩
  | x :: xs, acc, G, hl, h, step => by
    obtain ⟨sw, G1, G2, y, G3, e1, e2, e3, h2⟩ := step x acc G List.mem_cons_self h
    have hl' : acc.length + 1 ≤ 16777216 := by simp only [List.length_cons] at hl; omega
    obtain ⟨ys, G', e4, h4, l4⟩ := lcL_rel St hok xs (acc ++ [y]) G3 (by simp only [List.length_append, List.length_cons, List.length_nil] at hl ⊢; omega) h2 fun y acc G hy => step y acc G (List.mem_cons_of_mem _ hy)
    refine ⟨ys, G', ?_, h4, by simp only [List.length_append, List.length_cons, List.length_nil] at l4 ⊢; omega⟩
    simp only [lcL, hok acc G h, szOk, Bool.true_and, hl', decide_true, if_true, e1, e2, e3, noX_ok, bnd_ok, e4]
theorem forL_nil {asg : W → Sl → List O → Res Sl} {body : Sl → List O → Res Fl} {s : Seq} {sw : Sl} {G : List O} (hok : s.ok G = true) : forL asg body s [] sw G = .ok (.nx sw) G := by simp only [forL, hok, if_true]
theorem forL_ok {asg : W → Sl → List O → Res Sl} {body : Sl → List O → Res Fl} {s : Seq} {x : W} {xs : List W} {sw sw1 sw2 : Sl} {G G1 G2 : List O} (hok : s.ok G = true) (h1 : asg x sw G = .ok sw1 G1) (h2 : body sw1 G1 = .ok (.nx sw2) G2) : forL asg body s (x :: xs) sw G = forL asg body s xs sw2 G2 := by simp only [forL, hok, if_true, h1, noX_ok, bnd_ok, h2]
theorem forL_exc {asg : W → Sl → List O → Res Sl} {body : Sl → List O → Res Fl} {s : Seq} {x : W} {xs : List W} {sw sw1 : Sl} {G G1 G2 : List O} {c : Nat} {fs : List W} (hok : s.ok G = true) (h1 : asg x sw G = .ok sw1 G1) (h2 : body sw1 G1 = .exc c fs G2) : forL asg body s (x :: xs) sw G = .exc c fs G2 := by simp only [forL, hok, if_true, h1, noX_ok, bnd_ok, h2, bnd_exc]
theorem forL_rt {asg : W → Sl → List O → Res Sl} {body : Sl → List O → Res Fl} {s : Seq} {x w : W} {xs : List W} {sw sw1 : Sl} {G G1 G2 : List O} (hok : s.ok G = true) (h1 : asg x sw G = .ok sw1 G1) (h2 : body sw1 G1 = .ok (.rt w) G2) : forL asg body s (x :: xs) sw G = .ok (.rt w) G2 := by simp only [forL, hok, if_true, h1, noX_ok, bnd_ok, h2]
theorem whlL_no {t : Sl → List O → Res Bool} {body : Sl → List O → Res Fl} {n : Nat} {sw : Sl} {G G1 : List O} (h : t sw G = .ok false G1) : whlL t body (n + 1) sw G = .ok (.nx sw) G1 := by simp only [whlL, h, bnd_ok]; rfl
theorem whlL_ok {t : Sl → List O → Res Bool} {body : Sl → List O → Res Fl} {n : Nat} {sw sw2 : Sl} {G G1 G2 : List O} (h : t sw G = .ok true G1) (h2 : body sw G1 = .ok (.nx sw2) G2) : whlL t body (n + 1) sw G = whlL t body n sw2 G2 := by simp only [whlL, h, bnd_ok, if_true, h2]
/-! ### calls -/
theorem calls_at {tb : Nat → Option Df} {gk : Nat → W} {wf n k : Nat} {d : Df} (h : tb k = some d) (ws : List W) (G : List O) : calls tb gk wf (n + 1) k ws G = runD (calls tb gk wf n) gk wf d ws G := by
  show (match tb k with
    | some d => runD (calls tb gk wf n) gk wf d ws G
    | none => .stuck) = _
  rw [h]
/-- a call alone of a def that hands back a value without refs -/
theorem iso_ok {cl : Nat → List W → List O → Res W} {k : Nat} {ws : List W} {w w' : W} {G G1 : List O} (hn : W.nrs ws = true) (h : cl k ws [] = .ok w G1) (hf : frz G1 w = some w') : callW cl .iso k ws G = .ok w' G := by
  simp only [callW, hn, if_true, h, hf]
theorem iso_exc {cl : Nat → List W → List O → Res W} {k c : Nat} {ws fs : List W} {G G1 : List O} (hn : W.nrs ws = true) (h : cl k ws [] = .exc c fs G1) (hf : W.nrs fs = true) : callW cl .iso k ws G = .exc c fs G := by
  simp only [callW, hn, if_true, h, hf]
mutual
theorem frz_pl (G : List O) : ∀ w : W, w.pl = true → frz G w = some w
  | .non, _ => by simp [frz]
  | .bl _, _ => by simp [frz]
  | .int _, _ => by simp [frz]
  | .str _, _ => by simp [frz]
  | .tup ws, h => by simp [frz, frzs_pl G ws (by simpa [W.pl] using h)]
  | .lst ws, h => by simp [frz, frzs_pl G ws (by simpa [W.pl] using h)]
  | .scr _, h => by simp [W.pl] at h
  | .ref _, h => by simp [W.pl] at h
  | .fn _, h => by simp [W.pl] at h
theorem frzs_pl (G : List O) : ∀ ws : List W, W.pls ws = true → frzs G ws = some ws
  | [], _ => by simp [frzs]
  | w :: ws, h => by
    have h' : w.pl = true ∧ W.pls ws = true := by simpa [W.pls] using h
    simp [frzs, frz_pl G w h'.1, frzs_pl G ws h'.2]
end
mutual
theorem pl_nr : ∀ w : W, w.pl = true → w.nr = true
  | .non, _ => by simp [W.nr]
  | .bl _, _ => by simp [W.nr]
  | .int _, _ => by simp [W.nr]
  | .str _, _ => by simp [W.nr]
  | .tup ws, h => by simp only [W.nr]; exact pls_nrs ws (by simpa [W.pl] using h)
  | .lst ws, h => by simp only [W.nr]; exact pls_nrs ws (by simpa [W.pl] using h)
  | .scr _, h => by simp [W.pl] at h
  | .ref _, h => by simp [W.pl] at h
  | .fn _, h => by simp [W.pl] at h
theorem pls_nrs : ∀ ws : List W, W.pls ws = true → W.nrs ws = true
  | [], _ => rfl
  | w :: ws, h => by
    have h' : w.pl = true ∧ W.pls ws = true := by simpa [W.pls] using h
    simp [W.nrs, pl_nr w h'.1, pls_nrs ws h'.2]
end
/-- a call alone, what comes out plain -/
theorem iso_pl {cl : Nat → List W → List O → Res W} {k : Nat} {ws : List W} {w : W} {G G1 : List O} (hn : W.nrs ws = true) (h : cl k ws [] = .ok w G1) (hf : w.pl = true) : callW cl .iso k ws G = .ok w G := iso_ok hn h (frz_pl G1 w hf)
end T2
end

section
set_option linter.all false
set_option autoImplicit false
set_option maxRecDepth 100000
set_option maxHeartbeats 2000000
/-! T2: what operations are, form by form. -/
namespace T2
section
variable {xs ys ws : List W} {a b : List Nat} {i j k : Int} {m : Bool} {G : List O} {r : Nat} {x y w : W} {lo hi : Option Int}
theorem st_mkt : mkL true ws G = if szOk ws.length then .ok (.ref G.length) (G ++ [.lst ws]) else .stuck := (rfl)
theorem st_mkf : mkL false ws G = if szOk ws.length then .ok (.lst ws) G else .stuck := (rfl)
theorem st_addi : binW .add (.int i) (.int j) G = .ok (.int (i + j)) G := (rfl)
theorem st_adds : binW .add (.str a) (.str b) G = if szOk (a.length + b.length) then .ok (.str (a ++ b)) G else .stuck := (rfl)
theorem st_addt : binW .add (.tup xs) (.tup ys) G = if szOk (xs.length + ys.length) then .ok (.tup (xs ++ ys)) G else .stuck := (rfl)
theorem st_auI : binW .addI (.int i) (.int j) G = .ok (.int (i + j)) G := (rfl)
theorem st_auS : binW .addI (.str a) (.str b) G = if szOk (a.length + b.length) then .ok (.str (a ++ b)) G else .stuck := (rfl)
theorem st_sub : binW .sub (.int i) (.int j) G = .ok (.int (i - j)) G := (rfl)
theorem st_mul : binW .mul (.int i) (.int j) G = if mulOk i j then .ok (.int (i * j)) G else .stuck := (rfl)
theorem st_fdiv : binW .fdiv (.int i) (.int j) G = if divOk j then .ok (.int (i.fdiv j)) G else .stuck := (rfl)
theorem st_mod : binW .mod (.int i) (.int j) G = if decide (j ≠ 0) then .ok (.int (i.fmod j)) G else .stuck := (rfl)
theorem st_pow : binW .pow (.int i) (.int j) G = if powOk i j then .ok (.int (i ^ j.toNat)) G else .stuck := (rfl)
theorem st_cat : binW (.cat m) (.lst xs) (.lst ys) G = mkL m (xs ++ ys) G := (rfl)
theorem st_repl : binW (.rep m) (.lst xs) (.int k) G = if decide (0 ≤ k) && decide (k.toNat ≤ 16777216) then mkL m (List.replicate k.toNat xs).flatten G else .stuck := (rfl)
theorem st_reps : binW (.rep m) (.str a) (.int k) G = if decide (0 ≤ k) && decide (k.toNat ≤ 16777216) && szOk (a.length * k.toNat) then .ok (.str (List.replicate k.toNat a).flatten) G else .stuck := (rfl)
theorem ltI : W.lt (.int i) (.int j) = decide (i < j) := by
  show (decide (i < j) || (!decide (j < i) && false)) = _
  simp
theorem alI : W.alike (.int i) (.int j) = true := by
  show PySem.W.alike (.int i) (.int j) = true
  first | rfl | simp [PySem.W.alike]
theorem st_lt : cmpW .lt (.int i) (.int j) G = .ok (.bl (decide (i < j))) G := by
  simp [cmpW, lookC, W.pl, W.dep, alI, ltI]
theorem st_le : cmpW .le (.int i) (.int j) G = .ok (.bl (decide (i ≤ j))) G := by
  simp only [cmpW, lookC, W.pl, W.dep, alI, ltI]
  by_cases h : i ≤ j
  · simp [h]
  · simp [h]; omega
theorem st_gt : cmpW .gt (.int i) (.int j) G = .ok (.bl (decide (j < i))) G := by
  simp [cmpW, lookC, W.pl, W.dep, alI, ltI]
theorem st_ge : cmpW .ge (.int i) (.int j) G = .ok (.bl (decide (j ≤ i))) G := by
  simp only [cmpW, lookC, W.pl, W.dep, alI, ltI]
  by_cases h : j ≤ i
  · simp [h]
  · simp [h]; omega
theorem st_eqi : cmpW .eq (.int i) (.int j) G = .ok (.bl (decide (i = j))) G := by
  by_cases h : i = j <;> simp [cmpW, lookC, W.pl, W.dep, W.eq, h]
theorem st_nei : cmpW .ne (.int i) (.int j) G = .ok (.bl (decide (i ≠ j))) G := by
  by_cases h : i = j <;> simp [cmpW, lookC, W.pl, W.dep, W.eq, h]
theorem st_eqs : cmpW .eq (.str a) (.str b) G = .ok (.bl (decide (a = b))) G := by
  by_cases h : a = b <;> simp [cmpW, lookC, W.pl, W.dep, W.eq, h]
theorem st_nes : cmpW .ne (.str a) (.str b) G = .ok (.bl (decide (a ≠ b))) G := by
  by_cases h : a = b <;> simp [cmpW, lookC, W.pl, W.dep, W.eq, h]
theorem lookC_pl (h : x.pl = true) : lookC x G = x := by cases x <;> first | rfl | simp [W.pl] at h
theorem st_eq (hx : x.pl = true) (hy : y.pl = true) (hd : min x.dep y.dep ≤ 100) : cmpW .eq x y G = .ok (.bl (W.eq x y)) G := by simp [cmpW, lookC_pl hx, lookC_pl hy, hx, hy, hd]
theorem st_ne (hx : x.pl = true) (hy : y.pl = true) (hd : min x.dep y.dep ≤ 100) : cmpW .ne x y G = .ok (.bl (!W.eq x y)) G := by simp [cmpW, lookC_pl hx, lookC_pl hy, hx, hy, hd]
theorem st_neR (h : G[r]? = some (.lst xs)) (hx : W.pls xs = true) (hy : y.pl = true) (hd : min (W.deps xs + 1) y.dep ≤ 100) : cmpW .ne (.ref r) y G = .ok (.bl (!W.eq (.lst xs) y)) G := by
  have e := lookC_pl (G := G) hy
  have e2 : lookC (.ref r) G = .lst xs := by simp only [lookC, h]
  unfold cmpW
  rw [e, e2]
  simp [W.pl, W.dep, hx, hy, hd]
theorem st_eqR (h : G[r]? = some (.lst xs)) (hx : W.pls xs = true) (hy : y.pl = true) (hd : min (W.deps xs + 1) y.dep ≤ 100) : cmpW .eq (.ref r) y G = .ok (.bl (W.eq (.lst xs) y)) G := by
  have e := lookC_pl (G := G) hy
  have e2 : lookC (.ref r) G = .lst xs := by simp only [lookC, h]
  unfold cmpW
  rw [e, e2]
  simp [W.pl, W.dep, hx, hy, hd]
theorem st_inL (hx : x.pl = true) (hy : W.pls ys = true) (hd : min (W.deps ys) x.dep ≤ 100) : cmpW .isin x (.lst ys) G = .ok (.bl (ys.any fun z => W.eq z x)) G := by
  have e := lookC_pl (G := G) hx
  have e2 : lookC (.lst ys) G = .lst ys := (rfl)
  unfold cmpW
  rw [e, e2]
  simp [hx, hy, hd]
theorem st_niL (hx : x.pl = true) (hy : W.pls ys = true) (hd : min (W.deps ys) x.dep ≤ 100) : cmpW .notin x (.lst ys) G = .ok (.bl (!ys.any fun z => W.eq z x)) G := by
  have e := lookC_pl (G := G) hx
  have e2 : lookC (.lst ys) G = .lst ys := (rfl)
  unfold cmpW
  rw [e, e2]
  simp [hx, hy, hd]
theorem st_idxL : idxW (.lst xs) (.int i) G = match atW xs i with
    | some w => .ok w G
    | none => .stuck := (rfl)
theorem st_idxS : idxW (.scr xs) (.int i) G = match atW xs i with
    | some w => .ok w G
    | none => .stuck := (rfl)
theorem st_idxT : idxW (.tup xs) (.int i) G = match atW xs i with
    | some w => .ok w G
    | none => .stuck := (rfl)
theorem st_idxs : idxW (.str a) (.int i) G = if szOk a.length then (match atW a i with
    | some c => .ok (.str [c]) G
    | none => .stuck) else .stuck := (rfl)
theorem st_idxR (h : G[r]? = some (.lst xs)) : idxW (.ref r) (.int i) G = match atW xs i with
    | some w => .ok w G
    | none => .stuck := by
  simp only [idxW, look, h]
  try (cases atW xs i <;> rfl)
theorem st_idxD {kvs : List (W × W)} (h : G[r]? = some (.dct kvs)) (hk : keyOk x = true) : idxW (.ref r) x G = match dget kvs x with
    | some w => .ok w G
    | none => .stuck := by
  cases x with
  | tup q =>
    simp only [idxW, look, h, hk, if_true]
    try (cases dget kvs (.tup q) <;> rfl)
  | _ => simp [keyOk] at hk
theorem at_n {α : Type} (xs : List α) (n : Nat) : atW xs (n : Int) = xs[n]? := by simp [atW]
theorem at_0 {α : Type} (xs : List α) : atW xs 0 = xs[0]? := by simp [atW]
theorem at_1 {α : Type} (xs : List α) : atW xs 1 = xs[1]? := by simp [atW]
theorem at_2 {α : Type} (xs : List α) : atW xs 2 = xs[2]? := by simp [atW]
theorem at_m1 {α : Type} (xs : List α) : atW xs (-1) = xs.getLast? := by
  cases xs with
  | nil => rfl
  | cons x xs =>
    unfold atW
    rw [if_neg (by decide), if_pos (by simp only [List.length_cons]; omega), List.getLast?_eq_getElem?]
    congr 1
    simp only [List.length_cons]
    omega
theorem st_slcL : slcW m (.lst xs) lo hi G = mkL m (cutW xs lo hi) G := (rfl)
theorem st_slcT : slcW m (.tup xs) lo hi G = .ok (.tup (cutW xs lo hi)) G := (rfl)
theorem st_slcs : slcW m (.str a) lo hi G = if szOk a.length then .ok (.str (cutW a lo hi)) G else .stuck := (rfl)
theorem clip_n (n p : Nat) : clip n (p : Int) = min p n := by
  unfold clip
  rw [if_neg (by omega)]
  simp
theorem cut_nn {α : Type} (xs : List α) (p q : Nat) : cutW xs (some (p : Int)) (some (q : Int)) = (xs.drop p).take (q - p) := by
  have e1 : clip xs.length (p : Int) = min p xs.length := clip_n _ _
  have e2 : clip xs.length (q : Int) = min q xs.length := clip_n _ _
  simp only [cutW, e1, e2]
  by_cases h : p ≤ xs.length
  · rw [Nat.min_eq_left h]
    by_cases h2 : q ≤ xs.length
    · rw [Nat.min_eq_left h2]
    · rw [Nat.min_eq_right (Nat.le_of_not_le h2), List.take_of_length_le (by simp), List.take_of_length_le (by simp; omega)]
  · rw [Nat.min_eq_right (Nat.le_of_not_le h), List.drop_length, List.drop_eq_nil_of_le (Nat.le_of_not_le h)]
    simp
theorem cut_n {α : Type} (xs : List α) (q : Nat) : cutW xs none (some (q : Int)) = xs.take q := by
  have e2 : clip xs.length (q : Int) = min q xs.length := clip_n _ _
  simp only [cutW, e2, List.drop_zero, Nat.sub_zero]
  by_cases h2 : q ≤ xs.length
  · rw [Nat.min_eq_left h2]
  · rw [Nat.min_eq_right (by omega), List.take_length, List.take_of_length_le (by omega)]
theorem cut_from {α : Type} (xs : List α) (p : Nat) : cutW xs (some (p : Int)) none = xs.drop p := by
  have e1 : clip xs.length (p : Int) = min p xs.length := clip_n _ _
  simp only [cutW, e1]
  by_cases h : p ≤ xs.length
  · rw [Nat.min_eq_left h, List.take_of_length_le (by simp)]
  · rw [Nat.min_eq_right (by omega), List.drop_length, List.drop_eq_nil_of_le (by omega)]
    simp
theorem cut_1 {α : Type} (xs : List α) : cutW xs (some 1) none = xs.drop 1 := cut_from xs 1
theorem cut_to1 {α : Type} (xs : List α) : cutW xs none (some 1) = xs.take 1 := cut_n xs 1
theorem st_lens : bltW .len [.str a] G = if szOk a.length then .ok (.int a.length) G else .stuck := (rfl)
theorem st_lenL : bltW .len [.lst xs] G = .ok (.int xs.length) G := (rfl)
theorem st_lenS : bltW .len [.scr xs] G = .ok (.int xs.length) G := (rfl)
theorem st_lenT : bltW .len [.tup xs] G = .ok (.int xs.length) G := (rfl)
theorem st_lenR (h : G[r]? = some (.lst xs)) : bltW .len [.ref r] G = .ok (.int xs.length) G := by simp only [bltW, look, h]
theorem st_inti : bltW .int [.int i] G = .ok (.int i) G := (rfl)
theorem st_intb {c : Bool} : bltW .int [.bl c] G = .ok (.int (if c then 1 else 0)) G := (rfl)
theorem st_min2 : bltW .min2 [.int i, .int j] G = .ok (.int (if j < i then j else i)) G := (rfl)
theorem st_max2 : bltW .max2 [.int i, .int j] G = .ok (.int (if j > i then j else i)) G := (rfl)
theorem st_sumL : bltW .sum [.lst xs] G = match ints? xs with
    | some ns => .ok (.int ns.sum) G
    | none => .stuck := (rfl)
theorem st_allL : bltW .all [.lst xs] G = match bls? xs with
    | some ns => .ok (.bl (ns.all id)) G
    | none => .stuck := (rfl)
theorem st_anyL : bltW .any [.lst xs] G = match bls? xs with
    | some ns => .ok (.bl (ns.any id)) G
    | none => .stuck := (rfl)
theorem st_tupL : bltW .tuple [.lst xs] G = .ok (.tup xs) G := (rfl)
theorem st_tupT : bltW .tuple [.tup xs] G = .ok (.tup xs) G := (rfl)
theorem st_tupR (h : G[r]? = some (.lst xs)) : bltW .tuple [.ref r] G = .ok (.tup xs) G := by simp only [bltW, look, h]
theorem st_app (h : G[r]? = some (.lst xs)) : bmW .append (.ref r) [w] G = if decide (xs.length < 16777216) then .ok .non (G.set r (.lst (xs ++ [w]))) else .stuck := by simp only [bmW, h]
theorem st_joinL : bmW .join (.str a) [.lst xs] G = match strs? xs with
    | some ns => if szOk ((ns.map List.length).sum + ns.length * a.length) then .ok (.str (joinS a ns)) G else .stuck
    | none => .stuck := (rfl)
theorem st_joinR (h : G[r]? = some (.lst xs)) : bmW .join (.str a) [.ref r] G = match strs? xs with
    | some ns => if szOk ((ns.map List.length).sum + ns.length * a.length) then .ok (.str (joinS a ns)) G else .stuck
    | none => .stuck := by
  simp only [bmW, getL, h, Option.bind]
  try (cases strs? xs <;> rfl)
theorem st_rcvj : rcv .join (.str a) G = true := (rfl)
theorem st_rcva (h : G[r]? = some (.lst xs)) : rcv .append (.ref r) G = true := by simp only [rcv, h]
theorem st_setR (h : G[r]? = some (.lst xs)) : setW (.ref r) (.int k) w G = if 0 ≤ k then (if k.toNat < xs.length then .ok () (G.set r (.lst (xs.set k.toNat w))) else .stuck) else if -(xs.length : Int) ≤ k then .ok () (G.set r (.lst (xs.set (k + xs.length).toNat w))) else .stuck := by simp only [setW, h]
theorem st_sh {cl : Nat → List W → List O → Res W} {k : Nat} : callW cl .shared k ws G = cl k ws G := (rfl)
/-! whatever stands there -/
theorem st_idxr : idxW (.ref r) (.int i) G = match G[r]? with
    | some (.lst xs) => (match atW xs i with
      | some w => .ok w G
      | none => .stuck)
    | _ => .stuck := by
  cases h : G[r]? with
  | none => simp [idxW, look, h]
  | some o =>
    cases o with
    | lst ws => exact st_idxR h
    | dct kvs => simp [idxW, look, h, keyOk]
theorem st_lenr : bltW .len [.ref r] G = match G[r]? with
    | some (.lst xs) => .ok (.int xs.length) G
    | _ => .stuck := by
  cases h : G[r]? with
  | none => simp [bltW, look, h]
  | some o =>
    cases o with
    | lst ws => exact st_lenR h
    | dct kvs => simp [bltW, look, h]
theorem st_tupr : bltW .tuple [.ref r] G = match G[r]? with
    | some (.lst xs) => .ok (.tup xs) G
    | _ => .stuck := by
  cases h : G[r]? with
  | none => simp [bltW, look, h]
  | some o =>
    cases o with
    | lst ws => exact st_tupR h
    | dct kvs => simp [bltW, look, h]
theorem st_appr : bmW .append (.ref r) [w] G = match G[r]? with
    | some (.lst xs) => if decide (xs.length < 16777216) then .ok .non (G.set r (.lst (xs ++ [w]))) else .stuck
    | _ => .stuck := by
  cases h : G[r]? with
  | none => simp [bmW, h]
  | some o =>
    cases o with
    | lst ws => exact st_app h
    | dct kvs => simp [bmW, h]
theorem st_rcvr : rcv .append (.ref r) G = match G[r]? with
    | some (.lst _) => true
    | _ => false := (rfl)
theorem st_joinr : bmW .join (.str a) [.ref r] G = match G[r]? with
    | some (.lst xs) => (match strs? xs with
      | some ns => if szOk ((ns.map List.length).sum + ns.length * a.length) then .ok (.str (joinS a ns)) G else .stuck
      | none => .stuck)
    | _ => .stuck := by
  cases h : G[r]? with
  | none => simp [bmW, getL, h, Option.bind]
  | some o =>
    cases o with
    | lst ws => exact st_joinR h
    | dct kvs => simp [bmW, getL, h, Option.bind]
theorem st_setr : setW (.ref r) (.int k) w G = match G[r]? with
    | some (.lst xs) => if 0 ≤ k then (if k.toNat < xs.length then .ok () (G.set r (.lst (xs.set k.toNat w))) else .stuck) else if -(xs.length : Int) ≤ k then .ok () (G.set r (.lst (xs.set (k + xs.length).toNat w))) else .stuck
    | _ => .stuck := by
  cases h : G[r]? with
  | none => simp [setW, h]
  | some o =>
    cases o with
    | lst ws => exact st_setR h
    | dct kvs => simp [setW, h, keyOk]
theorem mulOk_r (h : j.natAbs < 18446744073709551616) : mulOk i j = true := by simp only [mulOk, decide_eq_true h, Bool.or_true]
theorem mulOk_l (h : i.natAbs < 18446744073709551616) : mulOk i j = true := by simp only [mulOk, decide_eq_true h, Bool.true_or]
theorem fm_lt {x : Int} (h : 0 < j) : 0 ≤ x.fmod j ∧ x.fmod j < j := ⟨Int.fmod_nonneg_of_pos _ h, Int.fmod_lt_of_pos _ h⟩
theorem mulOk_fm {x : Int} : mulOk (x.fmod 2147483647) k = true := mulOk_l (by
  have := fm_lt (x := x) (j := 2147483647) (by decide)
  omega)
theorem divOk_lit (h : j ≠ 0) (h2 : j.natAbs < 1073741824) : divOk j = true := by simp [divOk, h, h2]
theorem small_nat (n : Nat) (h : n ≤ 1000000) : small (n : Int) = true := by
  have h1 : (n : Int).natAbs < 4611686018427387904 := by omega
  simp only [small, decide_eq_true h1]
theorem small_m1 : small (-1) = true := by decide
theorem small_0 : small 0 = true := by decide
end
end T2
end

section
set_option linter.all false
set_option autoImplicit false
set_option maxRecDepth 100000
/-! The code of the law's text, as gen.py read it. -/
namespace K61
open T2
/-- check_string : 0 text -/
def b0 : B := (.cons (.ife (.or (.not (.isi (.v 0) [.str])) (.cmp .gt (.blt .len (.cons (.v 0) .nil)) (.gk 0))) (.cons (.raise 1 (.cons (.k (.str [115, 105, 103, 110, 115])) .nil)) .nil) .nil) .nil)
def d0 : Df := ⟨1, 1, b0⟩
/-- is_change : 0 value -/
def b1 : B := (.cons (.ife (.or (.not (.isi (.v 0) [.tuple])) (.or (.cmp .ne (.blt .len (.cons (.v 0) .nil)) (.k (.int 3))) (.not (.isi (.idx (.v 0) (.k (.int 1))) [.str])))) (.cons (.ret (.k (.bl false))) .nil) .nil) (.cons (.ife (.or (.not (.isi (.idx (.v 0) (.k (.int 2))) [.str])) (.cmp .eq (.slc false (.v 0) (.yes (.k (.int 1))) .no) (.tup (.cons (.k (.str [])) (.cons (.k (.str [])) .nil))))) (.cons (.ret (.k (.bl false))) .nil) .nil) (.cons (.ret (.and (.isi (.idx (.v 0) (.k (.int 0))) [.int]) (.and (.not (.isi (.idx (.v 0) (.k (.int 0))) [.bool])) (.cmp .ge (.idx (.v 0) (.k (.int 0))) (.k (.int 0)))))) .nil)))
def d1 : Df := ⟨1, 1, b1⟩
/-- check_edit : 0 edit, 1 one, 2 after -/
def b2_0 : B := (.cons (.ife (.cmp .le (.idx (.v 2) (.k (.int 0))) (.bin .add (.idx (.v 1) (.k (.int 0))) (.blt .len (.cons (.idx (.v 1) (.k (.int 1))) .nil)))) (.cons (.raise 0 (.cons (.k (.str [102, 111, 114, 109])) .nil)) .nil) .nil) .nil)
def e2_1 : E := .call .iso 1 (.cons (.v 1) .nil)
def b2 : B := (.cons (.ife (.or (.not (.isi (.v 0) [.tuple])) (.not (.blt .all (.cons (.lc false [1] (.nm 1) (.seq (.v 0)) .no (e2_1)) .nil)))) (.cons (.raise 0 (.cons (.k (.str [102, 111, 114, 109])) .nil)) .nil) .nil) (.cons (.frr (.tp (.cons (.nm 1) (.cons (.nm 2) .nil))) (.zip (.v 0) (.slc false (.v 0) (.yes (.k (.int 1))) .no)) b2_0) .nil))
def d2 : Df := ⟨3, 1, b2⟩
/-- changed : 0 text, 1 edit, 2 parts, 3 at, 4 place, 5 gone, 6 come -/
def b3_0 : B := (.cons (.exp (.bm .append (.v 2) (.cons (.slc false (.v 0) (.yes (.v 3)) (.yes (.v 4))) .nil))) (.cons (.exp (.bm .append (.v 2) (.cons (.v 6) .nil))) (.cons (.asg (.nm 3) (.bin .add (.v 4) (.blt .len (.cons (.v 5) .nil)))) .nil)))
def b3 : B := (.cons (.asg (.nm 2) (.lst true .nil)) (.cons (.asg (.nm 3) (.k (.int 0))) (.cons (.frr (.tp (.cons (.nm 4) (.cons (.nm 5) (.cons (.nm 6) .nil)))) (.seq (.v 1)) b3_0) (.cons (.exp (.bm .append (.v 2) (.cons (.slc false (.v 0) (.yes (.v 3)) .no) .nil))) (.cons (.ret (.bm .join (.k (.str [])) (.cons (.v 2) .nil))) .nil)))))
def d3 : Df := ⟨7, 2, b3⟩
/-- apply_edit : 0 text, 1 edit, 2 place, 3 gone, 4 _ -/
def b4_0 : B := (.cons (.ife (.or (.cmp .gt (.v 2) (.blt .len (.cons (.v 0) .nil))) (.cmp .ne (.slc false (.v 0) (.yes (.v 2)) (.yes (.bin .add (.v 2) (.blt .len (.cons (.v 3) .nil))))) (.v 3))) (.cons (.raise 0 (.cons (.k (.str [103, 111, 110, 101])) .nil)) .nil) .nil) .nil)
def b4 : B := (.cons (.exp (.call .iso 0 (.cons (.v 0) .nil))) (.cons (.exp (.call .iso 2 (.cons (.v 1) .nil))) (.cons (.frr (.tp (.cons (.nm 2) (.cons (.nm 3) (.cons (.nm 4) .nil)))) (.seq (.v 1)) b4_0) (.cons (.ret (.call .iso 3 (.cons (.v 0) (.cons (.v 1) .nil)))) .nil))))
def d4 : Df := ⟨5, 2, b4⟩
/-- undone : 0 edit, 1 found, 2 shift, 3 place, 4 gone, 5 come -/
def b5_0 : B := (.cons (.exp (.bm .append (.v 1) (.cons (.tup (.cons (.bin .add (.v 3) (.v 2)) (.cons (.v 5) (.cons (.v 4) .nil)))) .nil))) (.cons (.aug 2 .addI (.bin .sub (.blt .len (.cons (.v 5) .nil)) (.blt .len (.cons (.v 4) .nil)))) .nil))
def b5 : B := (.cons (.exp (.call .iso 2 (.cons (.v 0) .nil))) (.cons (.asg (.nm 1) (.lst true .nil)) (.cons (.asg (.nm 2) (.k (.int 0))) (.cons (.frr (.tp (.cons (.nm 3) (.cons (.nm 4) (.cons (.nm 5) .nil)))) (.seq (.v 0)) b5_0) (.cons (.ret (.blt .tuple (.cons (.v 1) .nil))) .nil)))))
def d5 : Df := ⟨6, 1, b5⟩
/-- cost_of : 0 edit, 1 _, 2 gone, 3 come -/
def e6_0 : E := .bin .add (.blt .len (.cons (.v 2) .nil)) (.blt .len (.cons (.v 3) .nil))
def b6 : B := (.cons (.exp (.call .iso 2 (.cons (.v 0) .nil))) (.cons (.ret (.blt .sum (.cons (.lc false [1, 2, 3] (.tp (.cons (.nm 1) (.cons (.nm 2) (.cons (.nm 3) .nil)))) (.seq (.v 0)) .no (e6_0)) .nil))) .nil))
def d6 : Df := ⟨4, 1, b6⟩
/-- costs_from : 0 one, 1 other, 2 costs, 3 i, 4 j -/
def b7_0 : B := (.cons (.ife (.cmp .eq (.v 3) (.blt .len (.cons (.v 0) .nil))) (.cons (.asg (.sub (.idx (.v 2) (.v 3)) (.v 4)) (.bin .sub (.blt .len (.cons (.v 1) .nil)) (.v 4))) .nil) (.cons (.ife (.cmp .eq (.v 4) (.blt .len (.cons (.v 1) .nil))) (.cons (.asg (.sub (.idx (.v 2) (.v 3)) (.v 4)) (.bin .sub (.blt .len (.cons (.v 0) .nil)) (.v 3))) .nil) (.cons (.ife (.cmp .eq (.idx (.v 0) (.v 3)) (.idx (.v 1) (.v 4))) (.cons (.asg (.sub (.idx (.v 2) (.v 3)) (.v 4)) (.idx (.idx (.v 2) (.bin .add (.v 3) (.k (.int 1)))) (.bin .add (.v 4) (.k (.int 1))))) .nil) (.cons (.asg (.sub (.idx (.v 2) (.v 3)) (.v 4)) (.bin .add (.k (.int 1)) (.blt .min2 (.cons (.idx (.idx (.v 2) (.bin .add (.v 3) (.k (.int 1)))) (.v 4)) (.cons (.idx (.idx (.v 2) (.v 3)) (.bin .add (.v 4) (.k (.int 1)))) .nil))))) .nil)) .nil)) .nil)) .nil)
def b7_1 : B := (.cons (.frr (.nm 4) (.rng3 (.blt .len (.cons (.v 1) .nil)) (.neg (.k (.int 1))) (.neg (.k (.int 1)))) b7_0) .nil)
def e7_2 : E := .bin (.rep true) (.lst false (.cons (.k (.int 0)) .nil)) (.bin .add (.blt .len (.cons (.v 1) .nil)) (.k (.int 1)))
def b7 : B := (.cons (.asg (.nm 2) (.lc false [3] (.nm 3) (.rng1 (.bin .add (.blt .len (.cons (.v 0) .nil)) (.k (.int 1)))) .no (e7_2))) (.cons (.frr (.nm 3) (.rng3 (.blt .len (.cons (.v 0) .nil)) (.neg (.k (.int 1))) (.neg (.k (.int 1)))) b7_1) (.cons (.ret (.v 2)) .nil)))
def d7 : Df := ⟨5, 2, b7⟩
/-- least_edit : 0 one, 1 other, 2 costs, 3 found, 4 begin, 5 i, 6 j -/
def b8_0t : E := .or (.cmp .lt (.v 5) (.blt .len (.cons (.v 0) .nil))) (.cmp .lt (.v 6) (.blt .len (.cons (.v 1) .nil)))
def b8_0 : B := (.cons (.ife (.and (.cmp .lt (.v 5) (.blt .len (.cons (.v 0) .nil))) (.and (.cmp .lt (.v 6) (.blt .len (.cons (.v 1) .nil))) (.cmp .eq (.idx (.v 0) (.v 5)) (.idx (.v 1) (.v 6))))) (.cons (.ife (.isk true .non (.v 4)) (.cons (.exp (.bm .append (.v 3) (.cons (.tup (.cons (.idx (.v 4) (.k (.int 0))) (.cons (.slc false (.v 0) (.yes (.idx (.v 4) (.k (.int 0)))) (.yes (.v 5))) (.cons (.slc false (.v 1) (.yes (.idx (.v 4) (.k (.int 1)))) (.yes (.v 6))) .nil)))) .nil))) (.cons (.asg (.nm 4) (.k .non)) .nil)) .nil) (.cons (.aug 5 .addI (.k (.int 1))) (.cons (.aug 6 .addI (.k (.int 1))) .nil))) (.cons (.ife (.isk false .non (.v 4)) (.cons (.asg (.nm 4) (.tup (.cons (.v 5) (.cons (.v 6) .nil)))) .nil) .nil) (.cons (.ife (.and (.cmp .lt (.v 5) (.blt .len (.cons (.v 0) .nil))) (.cmp .eq (.idx (.idx (.v 2) (.v 5)) (.v 6)) (.bin .add (.k (.int 1)) (.idx (.idx (.v 2) (.bin .add (.v 5) (.k (.int 1)))) (.v 6))))) (.cons (.aug 5 .addI (.k (.int 1))) .nil) (.cons (.aug 6 .addI (.k (.int 1))) .nil)) .nil))) .nil)
def b8 : B := (.cons (.asg (.nm 2) (.call .iso 7 (.cons (.v 0) (.cons (.v 1) .nil)))) (.cons (.asg (.nm 3) (.lst true .nil)) (.cons (.asg (.nm 4) (.k .non)) (.cons (.asg (.tp (.cons (.nm 5) (.cons (.nm 6) .nil))) (.tup (.cons (.k (.int 0)) (.cons (.k (.int 0)) .nil)))) (.cons (.whl b8_0t b8_0) (.cons (.ife (.isk true .non (.v 4)) (.cons (.exp (.bm .append (.v 3) (.cons (.tup (.cons (.idx (.v 4) (.k (.int 0))) (.cons (.slc false (.v 0) (.yes (.idx (.v 4) (.k (.int 0)))) .no) (.cons (.slc false (.v 1) (.yes (.idx (.v 4) (.k (.int 1)))) .no) .nil)))) .nil))) .nil) .nil) (.cons (.ret (.blt .tuple (.cons (.v 3) .nil))) .nil)))))))
def d8 : Df := ⟨7, 2, b8⟩
/-- edit_between : 0 one, 1 other -/
def b9 : B := (.cons (.exp (.call .iso 0 (.cons (.v 0) .nil))) (.cons (.exp (.call .iso 0 (.cons (.v 1) .nil))) (.cons (.ret (.call .iso 8 (.cons (.v 0) (.cons (.v 1) .nil)))) .nil)))
def d9 : Df := ⟨2, 2, b9⟩
/-- _law_bag : 0 script, 1 k, 2 cell -/
def b10 : B := (.cons (.asg (.nm 2) (.k (.int 0))) (.cons (.ife (.cmp .lt (.v 1) (.blt .len (.cons (.v 0) .nil))) (.cons (.asg (.nm 2) (.blt .int (.cons (.idx (.v 0) (.v 1)) .nil))) .nil) .nil) (.cons (.ife (.cmp .ge (.v 2) (.bin .pow (.k (.int 10)) (.k (.int 18)))) (.cons (.ret (.lst true (.cons (.v 2) (.cons (.v 2) (.cons (.v 1) .nil))))) .nil) .nil) (.cons (.ret (.lst true (.cons (.k (.int 0)) (.cons (.v 2) (.cons (.v 1) .nil))))) .nil))))
def d10 : Df := ⟨3, 2, b10⟩
/-- _law_draw : 0 bag, 1 many, 2 seed, 3 rest -/
def b11 : B := (.cons (.ife (.cmp .eq (.idx (.v 0) (.k (.int 0))) (.k (.int 0))) (.cons (.asg (.nm 2) (.bin .mod (.blt .int (.cons (.bin .add (.bin .add (.bin .mul (.idx (.v 0) (.k (.int 1))) (.k (.int 48271))) (.bin .mul (.idx (.v 0) (.k (.int 2))) (.k (.int 69621)))) (.k (.int 11))) .nil)) (.k (.int 2147483647)))) (.cons (.asg (.sub (.v 0) (.k (.int 0))) (.bin .add (.bin .mul (.v 2) (.k (.int 2147483629))) (.bin .mod (.blt .int (.cons (.bin .add (.bin .mul (.v 2) (.v 2)) (.bin .mul (.idx (.v 0) (.k (.int 2))) (.k (.int 16807)))) .nil)) (.k (.int 2147483629))))) (.cons (.asg (.sub (.v 0) (.k (.int 1))) (.v 2)) .nil))) .nil) (.cons (.asg (.nm 3) (.idx (.v 0) (.k (.int 0)))) (.cons (.asg (.sub (.v 0) (.k (.int 0))) (.bin .fdiv (.v 3) (.v 1))) (.cons (.ret (.bin .mod (.blt .int (.cons (.v 3) .nil)) (.v 1))) .nil))))
def d11 : Df := ⟨4, 2, b11⟩
/-- _law_one : 0 bag, 1 some -/
def b12 : B := (.cons (.ret (.idx (.v 1) (.call .shared 11 (.cons (.v 0) (.cons (.blt .len (.cons (.v 1) .nil)) .nil))))) .nil)
def d12 : Df := ⟨2, 2, b12⟩
/-- _law_told : 0 call, 1 given, 2 e -/
def b13 : B := (.cons (.tri (.cons (.ret (.ife (.cmp .eq (.blt .len (.cons (.v 1) .nil)) (.k (.int 1))) (.cv .iso 0 19 (.cons (.idx (.v 1) (.k (.int 0))) .nil)) (.cv .iso 0 19 (.cons (.idx (.v 1) (.k (.int 0))) (.cons (.idx (.v 1) (.k (.int 1))) .nil))))) .nil) ((1, .retk (.str [105, 110])) :: ((0, .retf 0) :: []))) .nil)
def d13 : Df := ⟨3, 2, b13⟩
/-- _law_deeds : 0 one, 1 other, 2 table, 3 i, 4 j, 5 found -/
def b14_0 : B := (.cons (.asg (.nm 5) (.lst true .nil)) (.cons (.ife (.and (.cmp .lt (.v 3) (.blt .len (.cons (.v 0) .nil))) (.and (.cmp .lt (.v 4) (.blt .len (.cons (.v 1) .nil))) (.cmp .eq (.idx (.v 0) (.v 3)) (.idx (.v 1) (.v 4))))) (.cons (.exp (.bm .append (.v 5) (.cons (.tup (.cons (.idx (.idx (.v 2) (.tup (.cons (.bin .add (.v 3) (.k (.int 1))) (.cons (.bin .add (.v 4) (.k (.int 1))) .nil)))) (.k (.int 0))) (.cons (.bin .add (.tup (.cons (.k (.int 0)) .nil)) (.idx (.idx (.v 2) (.tup (.cons (.bin .add (.v 3) (.k (.int 1))) (.cons (.bin .add (.v 4) (.k (.int 1))) .nil)))) (.k (.int 1)))) .nil))) .nil))) .nil) .nil) (.cons (.ife (.cmp .lt (.v 3) (.blt .len (.cons (.v 0) .nil))) (.cons (.exp (.bm .append (.v 5) (.cons (.tup (.cons (.bin .add (.idx (.idx (.v 2) (.tup (.cons (.bin .add (.v 3) (.k (.int 1))) (.cons (.v 4) .nil)))) (.k (.int 0))) (.k (.int 1))) (.cons (.bin .add (.tup (.cons (.k (.int 1)) .nil)) (.idx (.idx (.v 2) (.tup (.cons (.bin .add (.v 3) (.k (.int 1))) (.cons (.v 4) .nil)))) (.k (.int 1)))) .nil))) .nil))) .nil) .nil) (.cons (.ife (.cmp .lt (.v 4) (.blt .len (.cons (.v 1) .nil))) (.cons (.exp (.bm .append (.v 5) (.cons (.tup (.cons (.bin .add (.idx (.idx (.v 2) (.tup (.cons (.v 3) (.cons (.bin .add (.v 4) (.k (.int 1))) .nil)))) (.k (.int 0))) (.k (.int 1))) (.cons (.bin .add (.tup (.cons (.k (.int 2)) .nil)) (.idx (.idx (.v 2) (.tup (.cons (.v 3) (.cons (.bin .add (.v 4) (.k (.int 1))) .nil)))) (.k (.int 1)))) .nil))) .nil))) .nil) .nil) (.cons (.asg (.sub (.v 2) (.tup (.cons (.v 3) (.cons (.v 4) .nil)))) (.ife (.cmp .ne (.v 5) (.lst false .nil)) (.blt .min1 (.cons (.v 5) .nil)) (.tup (.cons (.k (.int 0)) (.cons (.tup .nil) .nil))))) .nil)))))
def b14_1 : B := (.cons (.frr (.nm 4) (.rng3 (.blt .len (.cons (.v 1) .nil)) (.neg (.k (.int 1))) (.neg (.k (.int 1)))) b14_0) .nil)
def b14 : B := (.cons (.asg (.nm 2) (.dct0)) (.cons (.frr (.nm 3) (.rng3 (.blt .len (.cons (.v 0) .nil)) (.neg (.k (.int 1))) (.neg (.k (.int 1)))) b14_1) (.cons (.ret (.idx (.v 2) (.tup (.cons (.k (.int 0)) (.cons (.k (.int 0)) .nil))))) .nil)))
def d14 : Df := ⟨6, 2, b14⟩
/-- _law_edit : 0 one, 1 other, 2 cost, 3 deeds, 4 found, 5 i, 6 j, 7 is_open, 8 deed -/
def b15_0 : B := (.cons (.ife (.and (.cmp .ne (.v 8) (.k (.int 0))) (.not (.v 7))) (.cons (.exp (.bm .append (.v 4) (.cons (.tup (.cons (.v 5) (.cons (.k (.str [])) (.cons (.k (.str [])) .nil)))) .nil))) .nil) .nil) (.cons (.asg (.nm 7) (.cmp .ne (.v 8) (.k (.int 0)))) (.cons (.ife (.cmp .eq (.v 8) (.k (.int 1))) (.cons (.asg (.sub (.v 4) (.neg (.k (.int 1)))) (.tup (.cons (.idx (.idx (.v 4) (.neg (.k (.int 1)))) (.k (.int 0))) (.cons (.bin .add (.idx (.idx (.v 4) (.neg (.k (.int 1)))) (.k (.int 1))) (.idx (.v 0) (.v 5))) (.cons (.idx (.idx (.v 4) (.neg (.k (.int 1)))) (.k (.int 2))) .nil))))) .nil) .nil) (.cons (.ife (.cmp .eq (.v 8) (.k (.int 2))) (.cons (.asg (.sub (.v 4) (.neg (.k (.int 1)))) (.tup (.cons (.idx (.idx (.v 4) (.neg (.k (.int 1)))) (.k (.int 0))) (.cons (.idx (.idx (.v 4) (.neg (.k (.int 1)))) (.k (.int 1))) (.cons (.bin .add (.idx (.idx (.v 4) (.neg (.k (.int 1)))) (.k (.int 2))) (.idx (.v 1) (.v 6))) .nil))))) .nil) .nil) (.cons (.asg (.nm 5) (.bin .add (.v 5) (.blt .int (.cons (.cmp .ne (.v 8) (.k (.int 2))) .nil)))) (.cons (.asg (.nm 6) (.bin .add (.v 6) (.blt .int (.cons (.cmp .ne (.v 8) (.k (.int 1))) .nil)))) .nil))))))
def b15 : B := (.cons (.asg (.tp (.cons (.nm 2) (.cons (.nm 3) .nil))) (.call .iso 14 (.cons (.v 0) (.cons (.v 1) .nil)))) (.cons (.asg (.nm 4) (.lst true .nil)) (.cons (.asg (.tp (.cons (.nm 5) (.cons (.nm 6) .nil))) (.tup (.cons (.k (.int 0)) (.cons (.k (.int 0)) .nil)))) (.cons (.asg (.nm 7) (.k (.bl false))) (.cons (.frr (.nm 8) (.seq (.v 3)) b15_0) (.cons (.ret (.blt .tuple (.cons (.v 4) .nil))) .nil))))))
def d15 : Df := ⟨9, 2, b15⟩
/-- _law_word : 0 bag, 1 most, 2 k -/
def e16_0 : E := .call .shared 12 (.cons (.v 0) (.cons (.k (.str [97, 98, 99])) .nil))
def b16 : B := (.cons (.ret (.bm .join (.k (.str [])) (.cons (.lc false [2] (.nm 2) (.rng1 (.call .shared 11 (.cons (.v 0) (.cons (.v 1) .nil)))) .no (e16_0)) .nil))) .nil)
def d16 : Df := ⟨3, 2, b16⟩
/-- _law_case : 0 bag, 1 one, 2 other, 3 at, 4 due, 5 edit, 6 back, 7 place, 8 gone, 9 come, 10 near, 11 odd, 12 value, 13 given -/
def e17_0 : E := .call .iso 13 (.cons (.gf 9) (.cons (.v 13) .nil))
def e17_1 : E := .call .iso 13 (.cons (.gf 4) (.cons (.tup (.cons (.k (.str [97, 98, 97, 98])) (.cons (.v 12) .nil))) .nil))
def e17_2 : E := .call .iso 13 (.cons (.gf 5) (.cons (.tup (.cons (.v 12) .nil)) .nil))
def e17_3 : E := .call .iso 13 (.cons (.gf 6) (.cons (.tup (.cons (.v 12) .nil)) .nil))
def b17_4 : B := (.cons (.asg (.nm 10) (.bin .add (.tup (.cons (.tup (.cons (.v 7) (.cons (.bin .add (.v 8) (.k (.str [122]))) (.cons (.v 9) .nil)))) .nil)) (.slc false (.v 5) (.yes (.k (.int 1))) .no))) (.cons (.ife (.cmp .notin (.call .iso 13 (.cons (.gf 4) (.cons (.tup (.cons (.v 1) (.cons (.v 10) .nil))) .nil))) (.lst false (.cons (.k (.str [103, 111, 110, 101])) (.cons (.k (.str [102, 111, 114, 109])) .nil)))) (.cons (.ret (.k (.bl false))) .nil) .nil) .nil))
def b17 : B := (.cons (.asg (.nm 1) (.call .shared 16 (.cons (.v 0) (.cons (.k (.int 10)) .nil)))) (.cons (.asg (.nm 2) (.call .shared 16 (.cons (.v 0) (.cons (.k (.int 10)) .nil)))) (.cons (.ife (.cmp .eq (.call .shared 11 (.cons (.v 0) (.cons (.k (.int 2)) .nil))) (.k (.int 0))) (.cons (.asg (.nm 3) (.call .shared 11 (.cons (.v 0) (.cons (.bin .add (.blt .len (.cons (.v 1) .nil)) (.k (.int 1))) .nil)))) (.cons (.asg (.nm 2) (.bin .add (.bin .add (.slc false (.v 1) .no (.yes (.v 3))) (.call .shared 16 (.cons (.v 0) (.cons (.k (.int 3)) .nil)))) (.slc false (.v 1) (.yes (.bin .add (.v 3) (.call .shared 11 (.cons (.v 0) (.cons (.k (.int 3)) .nil))))) .no))) .nil)) .nil) (.cons (.asg (.nm 4) (.call .iso 15 (.cons (.v 1) (.cons (.v 2) .nil)))) (.cons (.asg (.nm 5) (.call .iso 9 (.cons (.v 1) (.cons (.v 2) .nil)))) (.cons (.ife (.or (.cmp .ne (.v 5) (.v 4)) (.or (.cmp .ne (.call .iso 6 (.cons (.v 5) .nil)) (.idx (.call .iso 14 (.cons (.v 1) (.cons (.v 2) .nil))) (.k (.int 0)))) (.cmp .ne (.call .iso 4 (.cons (.v 1) (.cons (.v 5) .nil))) (.v 2)))) (.cons (.ret (.k (.bl false))) .nil) .nil) (.cons (.asg (.nm 6) (.call .iso 5 (.cons (.v 5) .nil))) (.cons (.ife (.or (.cmp .ne (.call .iso 4 (.cons (.v 2) (.cons (.v 6) .nil))) (.v 1)) (.or (.cmp .ne (.call .iso 5 (.cons (.v 6) .nil)) (.v 5)) (.or (.cmp .ne (.call .iso 6 (.cons (.v 6) .nil)) (.call .iso 6 (.cons (.v 5) .nil))) (.cmp .ne (.call .iso 9 (.cons (.v 1) (.cons (.v 1) .nil))) (.tup .nil))))) (.cons (.ret (.k (.bl false))) .nil) .nil) (.cons (.frr (.tp (.cons (.nm 7) (.cons (.nm 8) (.cons (.nm 9) .nil)))) (.seq (.slc false (.v 5) .no (.yes (.k (.int 1))))) b17_4) (.cons (.asg (.nm 11) (.lst false (.cons (.k .non) (.cons (.lst false .nil) (.cons (.tup (.cons (.k .non) .nil)) (.cons (.tup (.cons (.tup (.cons (.k (.int 0)) (.cons (.k (.str [97])) .nil))) .nil)) (.cons (.tup (.cons (.tup (.cons (.k (.int 0)) (.cons (.k (.str [])) (.cons (.k (.str [])) .nil)))) .nil)) (.cons (.tup (.cons (.tup (.cons (.neg (.k (.int 1))) (.cons (.k (.str [97])) (.cons (.k (.str [])) .nil)))) .nil)) (.cons (.tup (.cons (.tup (.cons (.k (.bl true)) (.cons (.k (.str [97])) (.cons (.k (.str [])) .nil)))) .nil)) (.cons (.tup (.cons (.tup (.cons (.k (.int 0)) (.cons (.k (.str [97])) (.cons (.k .non) .nil)))) .nil)) (.cons (.tup (.cons (.tup (.cons (.k (.int 0)) (.cons (.k (.str [97, 98])) (.cons (.k (.str [])) .nil)))) (.cons (.tup (.cons (.k (.int 2)) (.cons (.k (.str [])) (.cons (.k (.str [99])) .nil)))) .nil))) (.cons (.tup (.cons (.tup (.cons (.k (.int 1)) (.cons (.k (.str [])) (.cons (.k (.str [97])) .nil)))) (.cons (.tup (.cons (.k (.int 0)) (.cons (.k (.str [])) (.cons (.k (.str [98])) .nil)))) .nil))) .nil)))))))))))) (.cons (.ife (.or (.cmp .ne (.lc false [12] (.nm 12) (.seq (.v 11)) .no (e17_1)) (.bin (.rep false) (.lst false (.cons (.k (.str [102, 111, 114, 109])) .nil)) (.k (.int 10)))) (.or (.cmp .ne (.lc false [12] (.nm 12) (.seq (.v 11)) .no (e17_2)) (.bin (.rep false) (.lst false (.cons (.k (.str [102, 111, 114, 109])) .nil)) (.k (.int 10)))) (.cmp .ne (.lc false [12] (.nm 12) (.seq (.v 11)) .no (e17_3)) (.bin (.rep false) (.lst false (.cons (.k (.str [102, 111, 114, 109])) .nil)) (.k (.int 10)))))) (.cons (.ret (.k (.bl false))) .nil) .nil) (.cons (.ret (.and (.cmp .eq (.lc false [13] (.nm 13) (.seq (.lst false (.cons (.tup (.cons (.k .non) (.cons (.v 1) .nil))) (.cons (.tup (.cons (.v 1) (.cons (.k (.int 5)) .nil))) (.cons (.tup (.cons (.bin (.rep false) (.k (.str [97])) (.k (.int 401))) (.cons (.v 1) .nil))) .nil))))) .no (e17_0)) (.bin (.rep false) (.lst false (.cons (.k (.str [105, 110])) .nil)) (.k (.int 3)))) (.cmp .eq (.call .iso 13 (.cons (.gf 4) (.cons (.tup (.cons (.k .non) (.cons (.tup .nil) .nil))) .nil))) (.k (.str [105, 110]))))) .nil))))))))))))
def d17 : Df := ⟨14, 1, b17⟩
/-- law : 0 script, 1 k -/
def b18_0 : B := (.cons (.ife (.not (.call .shared 17 (.cons (.call .shared 10 (.cons (.v 0) (.cons (.v 1) .nil))) .nil))) (.cons (.ret (.k (.bl false))) .nil) .nil) .nil)
def b18 : B := (.cons (.ife (.or (.cmp .ne (.call .iso 9 (.cons (.k (.str [97, 98, 99])) (.cons (.k (.str [120, 98, 99, 121])) .nil))) (.tup (.cons (.tup (.cons (.k (.int 0)) (.cons (.k (.str [97])) (.cons (.k (.str [120])) .nil)))) (.cons (.tup (.cons (.k (.int 3)) (.cons (.k (.str [])) (.cons (.k (.str [121])) .nil)))) .nil)))) (.or (.cmp .ne (.call .iso 9 (.cons (.k (.str [97, 97, 98])) (.cons (.k (.str [97, 98])) .nil))) (.tup (.cons (.tup (.cons (.k (.int 1)) (.cons (.k (.str [97])) (.cons (.k (.str [])) .nil)))) .nil))) (.cmp .ne (.call .iso 13 (.cons (.gf 4) (.cons (.tup (.cons (.k (.str [97, 98])) (.cons (.tup (.cons (.tup (.cons (.k (.int 3)) (.cons (.k (.str [])) (.cons (.k (.str [99])) .nil)))) .nil)) .nil))) .nil))) (.k (.str [103, 111, 110, 101]))))) (.cons (.ret (.k (.bl false))) .nil) .nil) (.cons (.frr (.nm 1) (.rng1 (.blt .min2 (.cons (.blt .max2 (.cons (.blt .len (.cons (.v 0) .nil)) (.cons (.k (.int 1)) .nil))) (.cons (.k (.int 8)) .nil)))) b18_0) (.cons (.ret (.k (.bl true))) .nil)))
def d18 : Df := ⟨2, 1, b18⟩
def TB : List Df := [d0, d1, d2, d3, d4, d5, d6, d7, d8, d9, d10, d11, d12, d13, d14, d15, d16, d17, d18]
def tb (k : Nat) : Option Df := TB[k]?
def CK : List W := [.int 400]
def gk (k : Nat) : W := CK.getD k .non
def wf : Nat := 1000000
def cl (n : Nat) : Nat → List W → List O → Res W := calls tb gk wf n
theorem c0 (n : Nat) (ws : List W) (G : List O) : cl (n + 1) 0 ws G = runD (cl n) gk wf d0 ws G := rfl
theorem c1 (n : Nat) (ws : List W) (G : List O) : cl (n + 1) 1 ws G = runD (cl n) gk wf d1 ws G := rfl
theorem c2 (n : Nat) (ws : List W) (G : List O) : cl (n + 1) 2 ws G = runD (cl n) gk wf d2 ws G := rfl
theorem c3 (n : Nat) (ws : List W) (G : List O) : cl (n + 1) 3 ws G = runD (cl n) gk wf d3 ws G := rfl
theorem c4 (n : Nat) (ws : List W) (G : List O) : cl (n + 1) 4 ws G = runD (cl n) gk wf d4 ws G := rfl
theorem c5 (n : Nat) (ws : List W) (G : List O) : cl (n + 1) 5 ws G = runD (cl n) gk wf d5 ws G := rfl
theorem c6 (n : Nat) (ws : List W) (G : List O) : cl (n + 1) 6 ws G = runD (cl n) gk wf d6 ws G := rfl
theorem c7 (n : Nat) (ws : List W) (G : List O) : cl (n + 1) 7 ws G = runD (cl n) gk wf d7 ws G := rfl
theorem c8 (n : Nat) (ws : List W) (G : List O) : cl (n + 1) 8 ws G = runD (cl n) gk wf d8 ws G := rfl
theorem c9 (n : Nat) (ws : List W) (G : List O) : cl (n + 1) 9 ws G = runD (cl n) gk wf d9 ws G := rfl
theorem c10 (n : Nat) (ws : List W) (G : List O) : cl (n + 1) 10 ws G = runD (cl n) gk wf d10 ws G := rfl
theorem c11 (n : Nat) (ws : List W) (G : List O) : cl (n + 1) 11 ws G = runD (cl n) gk wf d11 ws G := rfl
theorem c12 (n : Nat) (ws : List W) (G : List O) : cl (n + 1) 12 ws G = runD (cl n) gk wf d12 ws G := rfl
theorem c13 (n : Nat) (ws : List W) (G : List O) : cl (n + 1) 13 ws G = runD (cl n) gk wf d13 ws G := rfl
theorem c14 (n : Nat) (ws : List W) (G : List O) : cl (n + 1) 14 ws G = runD (cl n) gk wf d14 ws G := rfl
theorem c15 (n : Nat) (ws : List W) (G : List O) : cl (n + 1) 15 ws G = runD (cl n) gk wf d15 ws G := rfl
theorem c16 (n : Nat) (ws : List W) (G : List O) : cl (n + 1) 16 ws G = runD (cl n) gk wf d16 ws G := rfl
theorem c17 (n : Nat) (ws : List W) (G : List O) : cl (n + 1) 17 ws G = runD (cl n) gk wf d17 ws G := rfl
theorem c18 (n : Nat) (ws : List W) (G : List O) : cl (n + 1) 18 ws G = runD (cl n) gk wf d18 ws G := rfl
end K61
end

section
set_option linter.all false
set_option autoImplicit false
set_option maxRecDepth 100000
set_option maxHeartbeats 2000000
/-! k61, the plain part: distances, deeds, blocks, edits. -/
namespace K61
open T2
/-! ### the distance, the deeds -/
def dist : List Nat → List Nat → Nat
  | [], bs => bs.length
  | a :: as, [] => as.length + 1
  | a :: as, b :: bs => if a = b then dist as bs else 1 + min (dist as (b :: bs)) (dist (a :: as) bs)
termination_by a b => a.length + b.length
theorem dist_nil (bs : List Nat) : dist [] bs = bs.length := by rw [dist]
theorem dist_nil' (as : List Nat) : dist as [] = as.length := by cases as <;> simp [dist]
theorem dist_eq (a : Nat) (as bs : List Nat) : dist (a :: as) (a :: bs) = dist as bs := by rw [dist]; simp
theorem dist_ne {a b : Nat} (h : a ≠ b) (as bs : List Nat) : dist (a :: as) (b :: bs) = 1 + min (dist as (b :: bs)) (dist (a :: as) bs) := by rw [dist]; simp [h]
/-- one sign more or less -/
theorem dist_near : ∀ (n : Nat) (as bs : List Nat), as.length + bs.length ≤ n → (∀ a, dist as bs ≤ 1 + dist (a :: as) bs ∧ dist (a :: as) bs ≤ 1 + dist as bs) ∧ (∀ b, dist as bs ≤ 1 + dist as (b :: bs) ∧ dist as (b :: bs) ≤ 1 + dist as bs)
  | 0, as, bs, h => by
    have h1 : as = [] := List.length_eq_zero_iff.mp (by omega)
    have h2 : bs = [] := List.length_eq_zero_iff.mp (by omega)
    subst h1 h2
    simp [dist]
  | n + 1, as, bs, h => by
    constructor
    · intro a
      cases bs with
      | nil => simp only [dist_nil', List.length_cons]; omega
      | cons b bs =>
        by_cases e : a = b
        · subst e
          rw [dist_eq]
          have := (dist_near n as bs (by simp only [List.length_cons] at h; omega)).2 a
          omega
        · rw [dist_ne e]
          cases as with
          | nil =>
            have := (dist_near n [] bs (by simp only [List.length_cons, List.length_nil] at h ⊢; omega)).1 a
            simp only [dist_nil, List.length_cons] at this ⊢
            omega
          | cons a' as =>
            have h1 := (dist_near n (a' :: as) bs (by simp only [List.length_cons] at h ⊢; omega)).1 a
            have h2 := (dist_near n (a' :: as) bs (by simp only [List.length_cons] at h ⊢; omega)).2 b
            omega
    · intro b
      cases as with
      | nil => simp only [dist_nil, List.length_cons]; omega
      | cons a as =>
        by_cases e : a = b
        · subst e
          rw [dist_eq]
          have := (dist_near n as bs (by simp only [List.length_cons] at h; omega)).1 a
          omega
        · rw [dist_ne e]
          have h1 := (dist_near n as bs (by simp only [List.length_cons] at h; omega)).1 a
          have h2 := (dist_near n as bs (by simp only [List.length_cons] at h; omega)).2 b
          omega
/-- the deeds: keep, take away, put in -/
def path : List Nat → List Nat → List Nat
  | [], [] => []
  | [], _ :: bs => 2 :: path [] bs
  | _ :: as, [] => 1 :: path as []
  | a :: as, b :: bs => if a = b then 0 :: path as bs else if dist (a :: as) (b :: bs) = 1 + dist as (b :: bs) then 1 :: path as (b :: bs) else 2 :: path (a :: as) bs
termination_by a b => a.length + b.length

/-! ### blocks -/
/-- kept, taken away, put in -/
abbrev Bl := List Nat × List Nat × List Nat
def one : List Bl → List Nat
  | [] => []
  | b :: r => b.1 ++ b.2.1 ++ one r
def oth : List Bl → List Nat
  | [] => []
  | b :: r => b.1 ++ b.2.2 ++ oth r
def bak (B : List Bl) : List Bl := B.map fun b => (b.1, b.2.2, b.2.1)
abbrev Ed := Nat × List Nat × List Nat
def enc (e : Ed) : W := .tup [.int e.1, .str e.2.1, .str e.2.2]
def encE (es : List Ed) : W := .tup (es.map enc)
def real (e : Ed) : Prop := ¬ (e.2.1 = [] ∧ e.2.2 = [])
/-- the edit that the blocks tell -/
def eds (o : Nat) : List Bl → List Ed
  | [] => []
  | b :: r => (o + b.1.length, b.2.1, b.2.2) :: eds (o + b.1.length + b.2.1.length) r
def fine (B : List Bl) : Prop := (∀ b ∈ B, ¬ (b.2.1 = [] ∧ b.2.2 = [])) ∧ ∀ b ∈ B.tail, b.1 ≠ []
theorem one_app (A B : List Bl) : one (A ++ B) = one A ++ one B := by
  induction A with
  | nil => rfl
  | cons a A ih => simp [one, ih]
theorem oth_app (A B : List Bl) : oth (A ++ B) = oth A ++ oth B := by
  induction A with
  | nil => rfl
  | cons a A ih => simp [oth, ih]
theorem one_bak (B : List Bl) : one (bak B) = oth B := by
  induction B with
  | nil => rfl
  | cons a A ih =>
    show a.1 ++ a.2.2 ++ one (bak A) = _
    rw [ih]
    rfl
theorem oth_bak (B : List Bl) : oth (bak B) = one B := by
  induction B with
  | nil => rfl
  | cons a A ih =>
    show a.1 ++ a.2.1 ++ oth (bak A) = _
    rw [ih]
    rfl
theorem bak_bak (B : List Bl) : bak (bak B) = B := by simp [bak, List.map_map, Function.comp_def]
theorem fine_bak {B : List Bl} (h : fine B) : fine (bak B) := by
  refine ⟨fun b hb => ?_, fun b hb => ?_⟩
  · obtain ⟨x, hx, rfl⟩ := List.mem_map.mp hb
    exact fun z => h.1 x hx ⟨z.2, z.1⟩
  · unfold bak at hb
    rw [← List.map_tail] at hb
    obtain ⟨x, hx, rfl⟩ := List.mem_map.mp hb
    exact h.2 x hx
theorem eds_app (A : List Bl) : ∀ (o : Nat) (B : List Bl), eds o (A ++ B) = eds o A ++ eds (o + (one A).length) B := by
  induction A with
  | nil => intro o B; simp [eds, one]
  | cons a A ih =>
    intro o B
    simp only [List.cons_append, eds, ih, one, List.length_append]
    congr 3
    omega
theorem eds_len (B : List Bl) : ∀ o, (eds o B).length = B.length := by
  induction B with
  | nil => intro o; rfl
  | cons b B ih => intro o; simp [eds, ih]
theorem eds_real {B : List Bl} (h : fine B) : ∀ o, ∀ e ∈ eds o B, real e := by
  have : ∀ (B : List Bl), (∀ b ∈ B, ¬ (b.2.1 = [] ∧ b.2.2 = [])) → ∀ o, ∀ e ∈ eds o B, real e := by
    intro B
    induction B with
    | nil => intro _ o e he; simp [eds] at he
    | cons b B ih =>
      intro hb o e he
      rcases List.mem_cons.mp he with rfl | he
      · exact hb b List.mem_cons_self
      · exact ih (fun x hx => hb x (List.mem_cons_of_mem _ hx)) _ e he
  exact this B h.1
/-- one begins behind the other -/
def asc : List Ed → Prop
  | e :: f :: r => e.1 + e.2.1.length < f.1 ∧ asc (f :: r)
  | _ => True
theorem eds_asc : ∀ (B : List Bl) (o : Nat), (∀ b ∈ B.tail, b.1 ≠ []) → asc (eds o B)
  | [], _, _ => trivial
  | [b], _, _ => trivial
  | b :: c :: r, o, h => by
    refine ⟨?_, eds_asc (c :: r) _ fun x hx => h x (List.mem_cons_of_mem _ hx)⟩
    have : 0 < c.1.length := List.length_pos_iff.mpr (h c List.mem_cons_self)
    show o + b.1.length + b.2.1.length < o + b.1.length + b.2.1.length + c.1.length
    omega
/-- what the edit makes of a text, from a place on -/
def app (text : List Nat) : Nat → List Ed → List Nat
  | o, [] => text.drop o
  | o, e :: r => (text.drop o).take (e.1 - o) ++ e.2.2 ++ app text (e.1 + e.2.1.length) r
theorem app_eds (t : List Nat) : ∀ (B : List Bl) (pre : List Nat), app (pre ++ one B ++ t) pre.length (eds pre.length B) = oth B ++ t
  | [], pre => by simp [app, eds, one, oth]
  | b :: r, pre => by
    have e1 : pre ++ one (b :: r) ++ t = (pre ++ b.1 ++ b.2.1) ++ one r ++ t := by simp [one]
    have e2 : pre.length + b.1.length + b.2.1.length = (pre ++ b.1 ++ b.2.1).length := by simp [Nat.add_assoc]
    have ih := app_eds t r (pre ++ b.1 ++ b.2.1)
    simp only [eds, app]
    rw [e2, e1, ih]
    have e3 : (List.drop pre.length (pre ++ b.1 ++ b.2.1 ++ one r ++ t)).take (pre.length + b.1.length - pre.length) = b.1 := by
      rw [Nat.add_sub_cancel_left]
      simp [List.append_assoc]
    rw [e3]
    simp [oth]
def fits (text : List Nat) (e : Ed) : Prop := e.1 ≤ text.length ∧ (text.drop e.1).take e.2.1.length = e.2.1
theorem eds_fits (t : List Nat) : ∀ (B : List Bl) (pre : List Nat), ∀ e ∈ eds pre.length B, fits (pre ++ one B ++ t) e
  | [], pre, e, h => by simp [eds] at h
  | b :: r, pre, e, h => by
    have e1 : pre ++ one (b :: r) ++ t = (pre ++ b.1 ++ b.2.1) ++ one r ++ t := by simp [one]
    have e2 : pre.length + b.1.length + b.2.1.length = (pre ++ b.1 ++ b.2.1).length := by simp [Nat.add_assoc]
    simp only [eds] at h
    rcases List.mem_cons.mp h with rfl | h
    · refine ⟨by simp only [one, List.length_append]; omega, ?_⟩
      have e3 : pre ++ one (b :: r) ++ t = (pre ++ b.1) ++ (b.2.1 ++ (one r ++ t)) := by simp [one]
      have e4 : pre.length + b.1.length = (pre ++ b.1).length := by simp
      simp only
      rw [e3, e4, List.drop_left, List.take_left]
    · rw [e2] at h
      rw [e1]
      exact eds_fits t r _ e h
def cost (es : List Ed) : Nat := (es.map fun e => e.2.1.length + e.2.2.length).sum
theorem cost_bak : ∀ (B : List Bl) (o p : Nat), cost (eds o (bak B)) = cost (eds p B)
  | [], _, _ => rfl
  | b :: r, o, p => by
    have ih := cost_bak r (o + b.1.length + b.2.2.length) (p + b.1.length + b.2.1.length)
    show b.2.2.length + b.2.1.length + cost (eds _ (bak r)) = b.2.1.length + b.2.2.length + cost (eds _ r)
    rw [ih]
    omega
/-! ### from the deeds to the blocks -/
/-- the blocks so far, what is kept behind them, what is open -/
abbrev Sta := List Bl × List Nat × Option (List Nat × List Nat)
def Sta.bl : Sta → List Bl
  | (B, _, none) => B
  | (B, k, some (g, c)) => B ++ [(k, g, c)]
def Sta.tl : Sta → List Nat
  | (_, k, none) => k
  | (_, _, some _) => []
/-- a deed: the sign that is kept or taken away, the one that is put in -/
def stp (d : Nat) (a b : Nat) : Sta → Sta
  | (B, k, none) => if d = 0 then (B, k ++ [a], none) else if d = 1 then (B, k, some ([a], [])) else (B, k, some ([], [b]))
  | (B, k, some (g, c)) => if d = 0 then (B ++ [(k, g, c)], [a], none) else if d = 1 then (B, k, some (g ++ [a], c)) else (B, k, some (g, c ++ [b]))
/-- the deeds done -/
def go : List Nat → List Nat → Sta → Sta
  | [], [], s => s
  | [], b :: bs, s => go [] bs (stp 2 0 b s)
  | a :: as, [], s => go as [] (stp 1 a 0 s)
  | a :: as, b :: bs, s => if a = b then go as bs (stp 0 a b s) else if dist (a :: as) (b :: bs) = 1 + dist as (b :: bs) then go as (b :: bs) (stp 1 a b s) else go (a :: as) bs (stp 2 a b s)
termination_by a b => a.length + b.length
structure Sta.ok (s : Sta) : Prop where
  fn : fine s.bl
  tl : s.2.2 = none → s.1 ≠ [] → s.2.1 ≠ []
theorem tail_app {α : Type} (l : List α) (x : α) : ∀ b ∈ (l ++ [x]).tail, b ∈ l.tail ∨ (b = x ∧ l ≠ []) := by
  intro b hb
  cases l with
  | nil => simp at hb
  | cons y l =>
    simp only [List.cons_append, List.tail_cons, List.mem_append, List.mem_singleton] at hb
    rcases hb with h | h
    · exact .inl h
    · exact .inr ⟨h, by simp⟩
theorem stp_ok {s : Sta} (h : s.ok) (d a b : Nat) : (stp d a b s).ok := by
  obtain ⟨B, k, o⟩ := s
  cases o with
  | none =>
    have hB : fine B := h.fn
    have hk : B ≠ [] → k ≠ [] := fun z => h.tl rfl z
    have key : ∀ g c : List Nat, ¬ (g = [] ∧ c = []) → (Sta.ok (B, k, some (g, c))) := fun g c hg => by
      refine ⟨⟨fun x hx => ?_, fun x hx => ?_⟩, fun z => by cases z⟩
      · rcases List.mem_append.mp hx with z | z
        · exact hB.1 x z
        · have : x = (k, g, c) := by simpa using z
          subst this
          exact hg
      · rcases tail_app B (k, g, c) x hx with z | ⟨rfl, z⟩
        · exact hB.2 x z
        · exact hk z
    simp only [stp]
    split
    · exact ⟨hB, fun _ _ => by simp⟩
    · split
      · exact key _ _ (by simp)
      · exact key _ _ (by simp)
  | some p =>
    obtain ⟨g, c⟩ := p
    have hB : fine (B ++ [(k, g, c)]) := h.fn
    have key : ∀ g' c' : List Nat, ¬ (g' = [] ∧ c' = []) → (Sta.ok (B, k, some (g', c'))) := fun g' c' hg => by
      refine ⟨⟨fun x hx => ?_, fun x hx => ?_⟩, fun z => by cases z⟩
      · rcases List.mem_append.mp hx with z | z
        · exact hB.1 x (List.mem_append_left _ z)
        · have : x = (k, g', c') := by simpa using z
          subst this
          exact hg
      · have hb : ∀ y ∈ B.tail, y.1 ≠ [] := fun y hy => hB.2 y (by
          cases B with
          | nil => simp at hy
          | cons z B => simp only [List.cons_append, List.tail_cons] at hy ⊢; exact List.mem_append_left _ hy)
        rcases tail_app B (k, g', c') x hx with z | ⟨rfl, z⟩
        · exact hb x z
        · refine hB.2 (k, g, c) ?_
          cases B with
          | nil => exact absurd rfl z
          | cons y B => simp
    simp only [stp]
    split
    · exact ⟨hB, fun _ _ => by simp⟩
    · split
      · exact key _ _ (by simp)
      · exact key _ _ (by simp)
theorem go_ok : ∀ (n : Nat) (as bs : List Nat), as.length + bs.length ≤ n → ∀ s : Sta, s.ok → (go as bs s).ok
  | 0, as, bs, h, s, hs => by
    have h1 : as = [] := List.length_eq_zero_iff.mp (by omega)
    have h2 : bs = [] := List.length_eq_zero_iff.mp (by omega)
    subst h1 h2
    rw [go]
    exact hs
  | n + 1, as, bs, h, s, hs => by
    cases as with
    | nil =>
      cases bs with
      | nil => rw [go]; exact hs
      | cons b bs => rw [go]; exact go_ok n [] bs (by simp only [List.length_cons] at h; omega) _ (stp_ok hs 2 0 b)
    | cons a as =>
      cases bs with
      | nil => rw [go]; exact go_ok n as [] (by simp only [List.length_cons] at h; omega) _ (stp_ok hs 1 a 0)
      | cons b bs =>
        rw [go]
        split
        · exact go_ok n as bs (by simp only [List.length_cons] at h; omega) _ (stp_ok hs 0 a b)
        · split
          · exact go_ok n as (b :: bs) (by simp only [List.length_cons] at h ⊢; omega) _ (stp_ok hs 1 a b)
          · exact go_ok n (a :: as) bs (by simp only [List.length_cons] at h ⊢; omega) _ (stp_ok hs 2 a b)
/-- the texts so far -/
def Sta.one (s : Sta) : List Nat := K61.one s.bl ++ s.tl
def Sta.oth (s : Sta) : List Nat := K61.oth s.bl ++ s.tl
theorem stp_one (d a b : Nat) (s : Sta) : (stp d a b s).one = if d = 0 ∨ d = 1 then s.one ++ [a] else s.one := by
  obtain ⟨B, k, o⟩ := s
  cases o with
  | none => by_cases h0 : d = 0 <;> by_cases h1 : d = 1 <;> simp [stp, Sta.one, Sta.bl, Sta.tl, h0, h1, one_app, one]
  | some p =>
    obtain ⟨g, c⟩ := p
    by_cases h0 : d = 0 <;> by_cases h1 : d = 1 <;> simp [stp, Sta.one, Sta.bl, Sta.tl, h0, h1, one_app, one]
theorem stp_oth (d a b : Nat) (s : Sta) : (stp d a b s).oth = if d = 0 then s.oth ++ [a] else if d = 1 then s.oth else s.oth ++ [b] := by
  obtain ⟨B, k, o⟩ := s
  cases o with
  | none => by_cases h0 : d = 0 <;> by_cases h1 : d = 1 <;> simp [stp, Sta.oth, Sta.bl, Sta.tl, h0, h1, oth_app, oth]
  | some p =>
    obtain ⟨g, c⟩ := p
    by_cases h0 : d = 0 <;> by_cases h1 : d = 1 <;> simp [stp, Sta.oth, Sta.bl, Sta.tl, h0, h1, oth_app, oth]
theorem go_txt : ∀ (n : Nat) (as bs : List Nat), as.length + bs.length ≤ n → ∀ s : Sta, (go as bs s).one = s.one ++ as ∧ (go as bs s).oth = s.oth ++ bs
  | 0, as, bs, h, s => by
    have h1 : as = [] := List.length_eq_zero_iff.mp (by omega)
    have h2 : bs = [] := List.length_eq_zero_iff.mp (by omega)
    subst h1 h2
    rw [go]
    simp
  | n + 1, as, bs, h, s => by
    cases as with
    | nil =>
      cases bs with
      | nil => rw [go]; simp
      | cons b bs =>
        rw [go]
        have := go_txt n [] bs (by simp only [List.length_cons] at h; omega) (stp 2 0 b s)
        rw [this.1, this.2, stp_one, stp_oth]
        simp
    | cons a as =>
      cases bs with
      | nil =>
        rw [go]
        have := go_txt n as [] (by simp only [List.length_cons] at h; omega) (stp 1 a 0 s)
        rw [this.1, this.2, stp_one, stp_oth]
        simp
      | cons b bs =>
        rw [go]
        split
        · rename_i e
          subst e
          have := go_txt n as bs (by simp only [List.length_cons] at h; omega) (stp 0 a a s)
          rw [this.1, this.2, stp_one, stp_oth]
          simp
        · split
          · have := go_txt n as (b :: bs) (by simp only [List.length_cons] at h ⊢; omega) (stp 1 a b s)
            rw [this.1, this.2, stp_one, stp_oth]
            simp
          · have := go_txt n (a :: as) bs (by simp only [List.length_cons] at h ⊢; omega) (stp 2 a b s)
            rw [this.1, this.2, stp_one, stp_oth]
            simp
/-- the edit of two texts -/
def fin (as bs : List Nat) : Sta := go as bs ([], [], none)
def edit (as bs : List Nat) : List Ed := eds 0 (fin as bs).bl
theorem fin_ok (as bs : List Nat) : (fin as bs).ok := go_ok _ as bs (Nat.le_refl _) _ ⟨⟨by simp [Sta.bl], by simp [Sta.bl]⟩, fun _ z => absurd rfl z⟩
theorem fin_txt (as bs : List Nat) : (fin as bs).one = as ∧ (fin as bs).oth = bs := by
  have := go_txt _ as bs (Nat.le_refl _) ([], [], none)
  exact ⟨this.1, this.2⟩
/-- going back -/
def back (as bs : List Nat) : List Ed := eds 0 (bak (fin as bs).bl)
/-! cost: the deeds that change -/
def chg (s : Sta) : Nat := cost (eds 0 s.bl)
theorem cost_app (a b : List Ed) : cost (a ++ b) = cost a + cost b := by simp [cost]
theorem stp_chg (d a b : Nat) (s : Sta) : chg (stp d a b s) = if d = 0 then chg s else chg s + 1 := by
  obtain ⟨B, k, o⟩ := s
  cases o with
  | none => by_cases h0 : d = 0 <;> by_cases h1 : d = 1 <;> simp [stp, chg, Sta.bl, h0, h1, eds_app, cost_app, eds, cost]
  | some p =>
    obtain ⟨g, c⟩ := p
    by_cases h0 : d = 0 <;> by_cases h1 : d = 1 <;> simp [stp, chg, Sta.bl, h0, h1, eds_app, cost_app, eds, cost] <;> omega
theorem go_chg : ∀ (n : Nat) (as bs : List Nat), as.length + bs.length ≤ n → ∀ s : Sta, chg (go as bs s) = chg s + dist as bs
  | 0, as, bs, h, s => by
    have h1 : as = [] := List.length_eq_zero_iff.mp (by omega)
    have h2 : bs = [] := List.length_eq_zero_iff.mp (by omega)
    subst h1 h2
    rw [go]
    simp [dist]
  | n + 1, as, bs, h, s => by
    cases as with
    | nil =>
      cases bs with
      | nil => rw [go]; simp [dist]
      | cons b bs =>
        rw [go]
        have := go_chg n [] bs (by simp only [List.length_cons] at h; omega) (stp 2 0 b s)
        rw [this, stp_chg]
        simp only [dist_nil, List.length_cons]
        rw [if_neg (by decide)]
        omega
    | cons a as =>
      cases bs with
      | nil =>
        rw [go]
        have := go_chg n as [] (by simp only [List.length_cons] at h; omega) (stp 1 a 0 s)
        rw [this, stp_chg]
        simp only [dist_nil', List.length_cons]
        rw [if_neg (by decide)]
        omega
      | cons b bs =>
        rw [go]
        split
        · rename_i e
          subst e
          have := go_chg n as bs (by simp only [List.length_cons] at h; omega) (stp 0 a a s)
          rw [this, stp_chg, dist_eq]
          simp
        · rename_i hab
          split
          · rename_i e
            have := go_chg n as (b :: bs) (by simp only [List.length_cons] at h ⊢; omega) (stp 1 a b s)
            rw [this, stp_chg, e]
            rw [if_neg (by decide)]
            omega
          · rename_i e
            have := go_chg n (a :: as) bs (by simp only [List.length_cons] at h ⊢; omega) (stp 2 a b s)
            rw [this, stp_chg]
            rw [if_neg (by decide)]
            have e2 := dist_ne hab as bs
            omega
theorem edit_cost (as bs : List Nat) : cost (edit as bs) = dist as bs := by
  have := go_chg _ as bs (Nat.le_refl _) ([], [], none)
  show chg (go as bs _) = _
  rw [this]
  simp [chg, Sta.bl, eds, cost]
end K61
end

section
set_option linter.all false
set_option maxRecDepth 100000
set_option maxHeartbeats 4000000
/-! k61: what the defs of edits do. -/
namespace K61
open T2
/-! ### texts -/
def FORM : List W := [.str [102, 111, 114, 109]]
def GONE : List W := [.str [103, 111, 110, 101]]
def SIGNS : List W := [.str [115, 105, 103, 110, 115]]
theorem t0 (n : Nat) (x : List Nat) (h : x.length ≤ 400) (G : List O) : cl (n + 1) 0 [.str x] G = .ok .non G := by
  have h2 : x.length ≤ 16777216 := by omega
  have h3 : ¬ (400 : Int) < x.length := by omega
  rw [c0]
  simp [ev, evs, evT, evO, evC, evI, asgT, asgTs, evH, pickH, ex, exB, runD, look, seqOf, isKds, isKd, szOk, bnd_ok, bnd_exc, noX_ok, wipe, st_mkt, st_mkf, st_addi, st_adds, st_addt, st_auI, st_auS, st_sub, st_mul, st_fdiv, st_mod, st_pow, st_cat, st_repl, st_reps, st_lt, st_le, st_gt, st_ge, st_eqi, st_nei, st_eqs, st_nes, st_idxL, st_idxS, st_idxT, st_idxs, at_n, at_0, at_1, at_2, at_m1, st_slcL, st_slcT, st_slcs, cut_nn, cut_n, cut_from, cut_1, cut_to1, st_lens, st_lenL, st_lenS, st_lenT, st_inti, st_intb, st_min2, st_max2, st_sumL, st_allL, st_anyL, st_tupL, st_tupT, st_joinL, st_rcvj, st_sh, st_idxr, st_lenr, st_tupr, st_appr, st_rcvr, st_joinr, st_setr, mulOk_fm, mulOk_r, mulOk_l, st_eq, st_ne, W.eq, W.eqs, W.pl, W.pls, W.dep, W.deps, gk, CK, d0, b0, h2, h3]
theorem i0 (n : Nat) (x : List Nat) (h : x.length ≤ 400) (G : List O) : callW (cl (n + 1)) .iso 0 [.str x] G = .ok .non G := iso_pl rfl (t0 n x h []) rfl
theorem x0a (n : Nat) (G : List O) : callW (cl (n + 1)) .iso 0 [.non] G = .exc 1 SIGNS G := iso_exc rfl (G1 := []) (by
  rw [c0]
  simp [ev, evs, evT, evO, evC, evI, asgT, asgTs, evH, pickH, ex, exB, runD, look, seqOf, isKds, isKd, szOk, bnd_ok, bnd_exc, noX_ok, wipe, st_mkt, st_mkf, st_addi, st_adds, st_addt, st_auI, st_auS, st_sub, st_mul, st_fdiv, st_mod, st_pow, st_cat, st_repl, st_reps, st_lt, st_le, st_gt, st_ge, st_eqi, st_nei, st_eqs, st_nes, st_idxL, st_idxS, st_idxT, st_idxs, at_n, at_0, at_1, at_2, at_m1, st_slcL, st_slcT, st_slcs, cut_nn, cut_n, cut_from, cut_1, cut_to1, st_lens, st_lenL, st_lenS, st_lenT, st_inti, st_intb, st_min2, st_max2, st_sumL, st_allL, st_anyL, st_tupL, st_tupT, st_joinL, st_rcvj, st_sh, st_idxr, st_lenr, st_tupr, st_appr, st_rcvr, st_joinr, st_setr, mulOk_fm, mulOk_r, mulOk_l, st_eq, st_ne, W.eq, W.eqs, W.pl, W.pls, W.dep, W.deps, d0, b0, SIGNS]) rfl
theorem x0b (n : Nat) (G : List O) : callW (cl (n + 1)) .iso 0 [.int 5] G = .exc 1 SIGNS G := iso_exc rfl (G1 := []) (by
  rw [c0]
  simp [ev, evs, evT, evO, evC, evI, asgT, asgTs, evH, pickH, ex, exB, runD, look, seqOf, isKds, isKd, szOk, bnd_ok, bnd_exc, noX_ok, wipe, st_mkt, st_mkf, st_addi, st_adds, st_addt, st_auI, st_auS, st_sub, st_mul, st_fdiv, st_mod, st_pow, st_cat, st_repl, st_reps, st_lt, st_le, st_gt, st_ge, st_eqi, st_nei, st_eqs, st_nes, st_idxL, st_idxS, st_idxT, st_idxs, at_n, at_0, at_1, at_2, at_m1, st_slcL, st_slcT, st_slcs, cut_nn, cut_n, cut_from, cut_1, cut_to1, st_lens, st_lenL, st_lenS, st_lenT, st_inti, st_intb, st_min2, st_max2, st_sumL, st_allL, st_anyL, st_tupL, st_tupT, st_joinL, st_rcvj, st_sh, st_idxr, st_lenr, st_tupr, st_appr, st_rcvr, st_joinr, st_setr, mulOk_fm, mulOk_r, mulOk_l, st_eq, st_ne, W.eq, W.eqs, W.pl, W.pls, W.dep, W.deps, d0, b0, SIGNS]) rfl
theorem x0c (n : Nat) (x : List Nat) (h : 400 < x.length) (h2 : x.length ≤ 16777216) (G : List O) : callW (cl (n + 1)) .iso 0 [.str x] G = .exc 1 SIGNS G := iso_exc rfl (G1 := []) (by
  have h3 : (400 : Int) < x.length := by omega
  rw [c0]
  simp [ev, evs, evT, evO, evC, evI, asgT, asgTs, evH, pickH, ex, exB, runD, look, seqOf, isKds, isKd, szOk, bnd_ok, bnd_exc, noX_ok, wipe, st_mkt, st_mkf, st_addi, st_adds, st_addt, st_auI, st_auS, st_sub, st_mul, st_fdiv, st_mod, st_pow, st_cat, st_repl, st_reps, st_lt, st_le, st_gt, st_ge, st_eqi, st_nei, st_eqs, st_nes, st_idxL, st_idxS, st_idxT, st_idxs, at_n, at_0, at_1, at_2, at_m1, st_slcL, st_slcT, st_slcs, cut_nn, cut_n, cut_from, cut_1, cut_to1, st_lens, st_lenL, st_lenS, st_lenT, st_inti, st_intb, st_min2, st_max2, st_sumL, st_allL, st_anyL, st_tupL, st_tupT, st_joinL, st_rcvj, st_sh, st_idxr, st_lenr, st_tupr, st_appr, st_rcvr, st_joinr, st_setr, mulOk_fm, mulOk_r, mulOk_l, st_eq, st_ne, W.eq, W.eqs, W.pl, W.pls, W.dep, W.deps, d0, b0, gk, CK, h2, h3, SIGNS]) rfl
/-! ### edits -/
theorem t1 (n : Nat) (e : Ed) (h : real e) (G : List O) : callW (cl (n + 1)) .iso 1 [enc e] G = .ok (.bl true) G := by
  obtain ⟨p, g, c⟩ := e
  refine iso_pl rfl (G1 := []) ?_ rfl
  have h1 : ¬ (p : Int) < 0 := by omega
  rw [c1]
  simp [ev, evs, evT, evO, evC, evI, asgT, asgTs, evH, pickH, ex, exB, runD, look, seqOf, isKds, isKd, szOk, bnd_ok, bnd_exc, noX_ok, wipe, st_mkt, st_mkf, st_addi, st_adds, st_addt, st_auI, st_auS, st_sub, st_mul, st_fdiv, st_mod, st_pow, st_cat, st_repl, st_reps, st_lt, st_le, st_gt, st_ge, st_eqi, st_nei, st_eqs, st_nes, st_idxL, st_idxS, st_idxT, st_idxs, at_n, at_0, at_1, at_2, at_m1, st_slcL, st_slcT, st_slcs, cut_nn, cut_n, cut_from, cut_1, cut_to1, st_lens, st_lenL, st_lenS, st_lenT, st_inti, st_intb, st_min2, st_max2, st_sumL, st_allL, st_anyL, st_tupL, st_tupT, st_joinL, st_rcvj, st_sh, st_idxr, st_lenr, st_tupr, st_appr, st_rcvr, st_joinr, st_setr, mulOk_fm, mulOk_r, mulOk_l, st_eq, st_ne, W.eq, W.eqs, W.pl, W.pls, W.dep, W.deps, d1, b1, enc, show ¬ (g = [] ∧ c = []) from h, h1]
theorem bls_all {α : Type} : ∀ xs : List α, bls? (xs.map fun _ => W.bl true) = some (xs.map fun _ => true)
  | [] => rfl
  | x :: xs => by simp [bls?, bls_all xs]
/-- the pairs that the check goes through -/
def prs (es : List Ed) : List W := ((es.map enc).zip ((es.map enc).tail)).map fun p => W.tup [p.1, p.2]
theorem prs_cons (e f : Ed) (r : List Ed) : prs (e :: f :: r) = .tup [enc e, enc f] :: prs (f :: r) := rfl
/-- what an edit must be for its size -/
def sz (es : List Ed) : Prop := es.length ≤ 1000 ∧ ∀ e ∈ es, e.2.1.length ≤ 1000 ∧ e.2.2.length ≤ 1000
abbrev a2 (n : Nat) : W → Sl → List O → Res Sl := fun w sw G => asgT (cl n) gk (.tp (.cons (.nm 1) (.cons (.nm 2) .nil))) w sw G
abbrev f2 (n : Nat) : Sl → List O → Res Fl := fun sw G => exB (cl n) gk wf b2_0 sw G
theorem l2 (n : Nat) (s : Seq) (hs : s.ok [] = true) (E : W) : ∀ (es : List Ed) (x y : Option W), asc es → (∀ e ∈ es, e.2.1.length ≤ 1000 ∧ e.2.2.length ≤ 1000) → ∃ x' y', forL (a2 n) (f2 n) s (prs es) [some E, x, y] [] = .ok (.nx [some E, x', y']) []
  | [], x, y, _, _ => ⟨x, y, forL_nil hs⟩
  | [e], x, y, _, _ => ⟨x, y, forL_nil hs⟩
  | e :: f :: r, x, y, h, hz => by
    obtain ⟨x', y', ih⟩ := l2 n s hs E (f :: r) (some (enc e)) (some (enc f)) h.2 fun z hz' => hz z (List.mem_cons_of_mem _ hz')
    refine ⟨x', y', ?_⟩
    have hg : e.2.1.length ≤ 16777216 := by have := (hz e List.mem_cons_self).1; omega
    have h3 : ¬ (f.1 : Int) ≤ e.1 + e.2.1.length := by have := h.1; omega
    rw [prs_cons, forL_ok (sw1 := [some E, some (enc e), some (enc f)]) (G1 := []) (sw2 := [some E, some (enc e), some (enc f)]) (G2 := []) hs (by simp [ev, evs, evT, evO, evC, evI, asgT, asgTs, evH, pickH, ex, exB, runD, look, seqOf, isKds, isKd, szOk, bnd_ok, bnd_exc, noX_ok, wipe, st_mkt, st_mkf, st_addi, st_adds, st_addt, st_auI, st_auS, st_sub, st_mul, st_fdiv, st_mod, st_pow, st_cat, st_repl, st_reps, st_lt, st_le, st_gt, st_ge, st_eqi, st_nei, st_eqs, st_nes, st_idxL, st_idxS, st_idxT, st_idxs, at_n, at_0, at_1, at_2, at_m1, st_slcL, st_slcT, st_slcs, cut_nn, cut_n, cut_from, cut_1, cut_to1, st_lens, st_lenL, st_lenS, st_lenT, st_inti, st_intb, st_min2, st_max2, st_sumL, st_allL, st_anyL, st_tupL, st_tupT, st_joinL, st_rcvj, st_sh, st_idxr, st_lenr, st_tupr, st_appr, st_rcvr, st_joinr, st_setr, mulOk_fm, mulOk_r, mulOk_l, st_eq, st_ne, W.eq, W.eqs, W.pl, W.pls, W.dep, W.deps, a2]) (by simp [ev, evs, evT, evO, evC, evI, asgT, asgTs, evH, pickH, ex, exB, runD, look, seqOf, isKds, isKd, szOk, bnd_ok, bnd_exc, noX_ok, wipe, st_mkt, st_mkf, st_addi, st_adds, st_addt, st_auI, st_auS, st_sub, st_mul, st_fdiv, st_mod, st_pow, st_cat, st_repl, st_reps, st_lt, st_le, st_gt, st_ge, st_eqi, st_nei, st_eqs, st_nes, st_idxL, st_idxS, st_idxT, st_idxs, at_n, at_0, at_1, at_2, at_m1, st_slcL, st_slcT, st_slcs, cut_nn, cut_n, cut_from, cut_1, cut_to1, st_lens, st_lenL, st_lenS, st_lenT, st_inti, st_intb, st_min2, st_max2, st_sumL, st_allL, st_anyL, st_tupL, st_tupT, st_joinL, st_rcvj, st_sh, st_idxr, st_lenr, st_tupr, st_appr, st_rcvr, st_joinr, st_setr, mulOk_fm, mulOk_r, mulOk_l, st_eq, st_ne, W.eq, W.eqs, W.pl, W.pls, W.dep, W.deps, f2, b2_0, enc, hg, h3])]
    exact ih
theorem t2 (n : Nat) (es : List Ed) (hr : ∀ e ∈ es, real e) (ha : asc es) (hz : sz es) (G : List O) : callW (cl (n + 2)) .iso 2 [encE es] G = .ok .non G := by
  have nr : W.nrs [encE es] = true := by
    have : ∀ es : List Ed, W.nrs (es.map enc) = true := fun es => by
      rw [W.nrs_all]
      simp [List.all_map, Function.comp_def, enc, W.nr, W.nrs]
    simp [W.nrs, W.nr, encE, this es]
  refine iso_pl nr (G1 := []) ?_ rfl
  rw [c2]
  have hz1 : es.length ≤ 16777216 := by have := hz.1; omega
  have hlc := lcL_map (asg := fun x G => asgT (cl (n + 1)) gk (.nm 1) x [some (encE es), none, none] G) (cd := fun sw1 G => evC (cl (n + 1)) gk .no sw1 G) (e := fun sw1 G => ev (cl (n + 1)) gk e2_1 sw1 G) (s := ⟨es.map enc, none⟩) (G := []) rfl (fun _ => .bl true) (es.map enc) [] (by simpa using hz1) (fun x hx => by
    obtain ⟨e, he, rfl⟩ := List.mem_map.mp hx
    refine ⟨[some (encE es), some (enc e), none], ?_, ?_, ?_⟩
    · simp [ev, evs, evT, evO, evC, evI, asgT, asgTs, evH, pickH, ex, exB, runD, look, seqOf, isKds, isKd, szOk, bnd_ok, bnd_exc, noX_ok, wipe, st_mkt, st_mkf, st_addi, st_adds, st_addt, st_auI, st_auS, st_sub, st_mul, st_fdiv, st_mod, st_pow, st_cat, st_repl, st_reps, st_lt, st_le, st_gt, st_ge, st_eqi, st_nei, st_eqs, st_nes, st_idxL, st_idxS, st_idxT, st_idxs, at_n, at_0, at_1, at_2, at_m1, st_slcL, st_slcT, st_slcs, cut_nn, cut_n, cut_from, cut_1, cut_to1, st_lens, st_lenL, st_lenS, st_lenT, st_inti, st_intb, st_min2, st_max2, st_sumL, st_allL, st_anyL, st_tupL, st_tupT, st_joinL, st_rcvj, st_sh, st_idxr, st_lenr, st_tupr, st_appr, st_rcvr, st_joinr, st_setr, mulOk_fm, mulOk_r, mulOk_l, st_eq, st_ne, W.eq, W.eqs, W.pl, W.pls, W.dep, W.deps]
    · simp [ev, evs, evT, evO, evC, evI, asgT, asgTs, evH, pickH, ex, exB, runD, look, seqOf, isKds, isKd, szOk, bnd_ok, bnd_exc, noX_ok, wipe, st_mkt, st_mkf, st_addi, st_adds, st_addt, st_auI, st_auS, st_sub, st_mul, st_fdiv, st_mod, st_pow, st_cat, st_repl, st_reps, st_lt, st_le, st_gt, st_ge, st_eqi, st_nei, st_eqs, st_nes, st_idxL, st_idxS, st_idxT, st_idxs, at_n, at_0, at_1, at_2, at_m1, st_slcL, st_slcT, st_slcs, cut_nn, cut_n, cut_from, cut_1, cut_to1, st_lens, st_lenL, st_lenS, st_lenT, st_inti, st_intb, st_min2, st_max2, st_sumL, st_allL, st_anyL, st_tupL, st_tupT, st_joinL, st_rcvj, st_sh, st_idxr, st_lenr, st_tupr, st_appr, st_rcvr, st_joinr, st_setr, mulOk_fm, mulOk_r, mulOk_l, st_eq, st_ne, W.eq, W.eqs, W.pl, W.pls, W.dep, W.deps]
    · simp [ev, evs, evT, evO, evC, evI, asgT, asgTs, evH, pickH, ex, exB, runD, look, seqOf, isKds, isKd, szOk, bnd_ok, bnd_exc, noX_ok, wipe, st_mkt, st_mkf, st_addi, st_adds, st_addt, st_auI, st_auS, st_sub, st_mul, st_fdiv, st_mod, st_pow, st_cat, st_repl, st_reps, st_lt, st_le, st_gt, st_ge, st_eqi, st_nei, st_eqs, st_nes, st_idxL, st_idxS, st_idxT, st_idxs, at_n, at_0, at_1, at_2, at_m1, st_slcL, st_slcT, st_slcs, cut_nn, cut_n, cut_from, cut_1, cut_to1, st_lens, st_lenL, st_lenS, st_lenT, st_inti, st_intb, st_min2, st_max2, st_sumL, st_allL, st_anyL, st_tupL, st_tupT, st_joinL, st_rcvj, st_sh, st_idxr, st_lenr, st_tupr, st_appr, st_rcvr, st_joinr, st_setr, mulOk_fm, mulOk_r, mulOk_l, st_eq, st_ne, W.eq, W.eqs, W.pl, W.pls, W.dep, W.deps, e2_1, t1 n e (hr e he)])
  obtain ⟨x', y', ef⟩ := l2 (n + 1) ⟨prs es, none⟩ rfl (.tup (es.map enc)) es none none ha hz.2
  have hb : bls? (es.map ((fun x => W.bl true) ∘ enc)) = some (es.map fun _ => true) := bls_all es
  simp [ev, evs, evT, evO, evC, evI, asgT, asgTs, evH, pickH, ex, exB, runD, look, seqOf, isKds, isKd, szOk, bnd_ok, bnd_exc, noX_ok, wipe, st_mkt, st_mkf, st_addi, st_adds, st_addt, st_auI, st_auS, st_sub, st_mul, st_fdiv, st_mod, st_pow, st_cat, st_repl, st_reps, st_lt, st_le, st_gt, st_ge, st_eqi, st_nei, st_eqs, st_nes, st_idxL, st_idxS, st_idxT, st_idxs, at_n, at_0, at_1, at_2, at_m1, st_slcL, st_slcT, st_slcs, cut_nn, cut_n, cut_from, cut_1, cut_to1, st_lens, st_lenL, st_lenS, st_lenT, st_inti, st_intb, st_min2, st_max2, st_sumL, st_allL, st_anyL, st_tupL, st_tupT, st_joinL, st_rcvj, st_sh, st_idxr, st_lenr, st_tupr, st_appr, st_rcvr, st_joinr, st_setr, mulOk_fm, mulOk_r, mulOk_l, st_eq, st_ne, W.eq, W.eqs, W.pl, W.pls, W.dep, W.deps, encE] at hlc
  delta a2 f2 at ef
  simp [ev, evs, evT, evO, evC, evI, asgT, asgTs, evH, pickH, ex, exB, runD, look, seqOf, isKds, isKd, szOk, bnd_ok, bnd_exc, noX_ok, wipe, st_mkt, st_mkf, st_addi, st_adds, st_addt, st_auI, st_auS, st_sub, st_mul, st_fdiv, st_mod, st_pow, st_cat, st_repl, st_reps, st_lt, st_le, st_gt, st_ge, st_eqi, st_nei, st_eqs, st_nes, st_idxL, st_idxS, st_idxT, st_idxs, at_n, at_0, at_1, at_2, at_m1, st_slcL, st_slcT, st_slcs, cut_nn, cut_n, cut_from, cut_1, cut_to1, st_lens, st_lenL, st_lenS, st_lenT, st_inti, st_intb, st_min2, st_max2, st_sumL, st_allL, st_anyL, st_tupL, st_tupT, st_joinL, st_rcvj, st_sh, st_idxr, st_lenr, st_tupr, st_appr, st_rcvr, st_joinr, st_setr, mulOk_fm, mulOk_r, mulOk_l, st_eq, st_ne, W.eq, W.eqs, W.pl, W.pls, W.dep, W.deps, prs] at ef
  simp [ev, evs, evT, evO, evC, evI, asgT, asgTs, evH, pickH, ex, exB, runD, look, seqOf, isKds, isKd, szOk, bnd_ok, bnd_exc, noX_ok, wipe, st_mkt, st_mkf, st_addi, st_adds, st_addt, st_auI, st_auS, st_sub, st_mul, st_fdiv, st_mod, st_pow, st_cat, st_repl, st_reps, st_lt, st_le, st_gt, st_ge, st_eqi, st_nei, st_eqs, st_nes, st_idxL, st_idxS, st_idxT, st_idxs, at_n, at_0, at_1, at_2, at_m1, st_slcL, st_slcT, st_slcs, cut_nn, cut_n, cut_from, cut_1, cut_to1, st_lens, st_lenL, st_lenS, st_lenT, st_inti, st_intb, st_min2, st_max2, st_sumL, st_allL, st_anyL, st_tupL, st_tupT, st_joinL, st_rcvj, st_sh, st_idxr, st_lenr, st_tupr, st_appr, st_rcvr, st_joinr, st_setr, mulOk_fm, mulOk_r, mulOk_l, st_eq, st_ne, W.eq, W.eqs, W.pl, W.pls, W.dep, W.deps, d2, b2, encE, hlc, hz1, hb, ef]
theorem enc_nr (es : List Ed) : W.nrs (es.map enc) = true := by
  rw [W.nrs_all]
  simp [List.all_map, Function.comp_def, enc, W.nr, W.nrs]
theorem encE_nr (es : List Ed) : W.nr (encE es) = true := by simp [W.nr, encE, enc_nr es]
theorem enc_pl (es : List Ed) : W.pls (es.map enc) = true := by
  rw [W.pls_all]
  simp [List.all_map, Function.comp_def, enc, W.pl, W.pls]
theorem encE_pl (es : List Ed) : W.pl (encE es) = true := by simp [W.pl, encE, enc_pl es]
/-! changed -/
def pcs (t : List Nat) : Nat → List Ed → List (List Nat)
  | _, [] => []
  | o, e :: r => (t.drop o).take (e.1 - o) :: e.2.2 :: pcs t (e.1 + e.2.1.length) r
def endp : Nat → List Ed → Nat
  | o, [] => o
  | _, e :: r => endp (e.1 + e.2.1.length) r
theorem pcs_app (t : List Nat) : ∀ (es : List Ed) (o : Nat), (pcs t o es).flatten ++ t.drop (endp o es) = app t o es
  | [], o => by simp [pcs, endp, app]
  | e :: r, o => by
    simp only [pcs, endp, app, List.flatten_cons, List.append_assoc]
    rw [pcs_app t r]
theorem pcs_len (t : List Nat) : ∀ (es : List Ed) (o : Nat), (pcs t o es).length = 2 * es.length
  | [], o => rfl
  | e :: r, o => by simp only [pcs, List.length_cons, pcs_len t r]; omega
theorem strs_map : ∀ ps : List (List Nat), strs? (ps.map W.str) = some ps
  | [] => rfl
  | p :: ps => by simp [strs?, strs_map ps]
theorem joinS_nil : ∀ ps : List (List Nat), joinS [] ps = ps.flatten
  | [] => rfl
  | [p] => by simp [joinS]
  | p :: q :: r => by
    have := joinS_nil (q :: r)
    simp only [joinS, List.append_nil, this, List.flatten_cons]
theorem sum_len (ps : List (List Nat)) : (ps.map List.length).sum = ps.flatten.length := by rw [List.length_flatten]
abbrev a3 (n : Nat) : W → Sl → List O → Res Sl := fun w sw G => asgT (cl n) gk (.tp (.cons (.nm 4) (.cons (.nm 5) (.cons (.nm 6) .nil)))) w sw G
abbrev f3 (n : Nat) : Sl → List O → Res Fl := fun sw G => exB (cl n) gk wf b3_0 sw G
theorem l3 (n : Nat) (s : Seq) (hs : ∀ G, s.ok G = true) (E : W) (t : List Nat) (ht : t.length ≤ 1000) : ∀ (es : List Ed) (o : Nat) (ps : List (List Nat)) (x y z : Option W), ps.length + 2 * es.length ≤ 10000 → (∀ e ∈ es, e.2.1.length ≤ 1000 ∧ e.2.2.length ≤ 1000) →
    ∃ x' y' z', forL (a3 n) (f3 n) s (es.map enc) [some (.str t), some E, some (.ref 0), some (.int o), x, y, z] [.lst (ps.map .str)] = .ok (.nx [some (.str t), some E, some (.ref 0), some (.int (endp o es)), x', y', z']) [.lst ((ps ++ pcs t o es).map .str)]
  | [], o, ps, x, y, z, _, _ => ⟨x, y, z, by rw [List.map_nil, forL_nil (hs _)]; simp [endp, pcs]⟩
  | e :: r, o, ps, x, y, z, hl, hz => by
    obtain ⟨x', y', z', ih⟩ := l3 n s hs E t ht r (e.1 + e.2.1.length) (ps ++ [(t.drop o).take (e.1 - o), e.2.2]) (some (.int e.1)) (some (.str e.2.1)) (some (.str e.2.2)) (by simp only [List.length_append, List.length_cons, List.length_nil] at hl ⊢; omega) fun a ha => hz a (List.mem_cons_of_mem _ ha)
    refine ⟨x', y', z', ?_⟩
    have h1 : t.length ≤ 16777216 := by omega
    have h2 : e.2.1.length ≤ 16777216 := by have := (hz e List.mem_cons_self).1; omega
    have h3 : ps.length < 16777216 := by simp only [List.length_cons] at hl; omega
    have h4 : ps.length + 1 < 16777216 := by simp only [List.length_cons] at hl; omega
    rw [List.map_cons, forL_ok (sw1 := [some (.str t), some E, some (.ref 0), some (.int o), some (.int e.1), some (.str e.2.1), some (.str e.2.2)]) (G1 := [.lst (ps.map .str)]) (sw2 := [some (.str t), some E, some (.ref 0), some (.int ((e.1 + e.2.1.length : Nat) : Int)), some (.int e.1), some (.str e.2.1), some (.str e.2.2)])
      (G2 := [.lst ((ps ++ [(t.drop o).take (e.1 - o), e.2.2]).map .str)]) (hs _) (by simp [ev, evs, evT, evO, evC, evI, asgT, asgTs, evH, pickH, ex, exB, runD, look, seqOf, isKds, isKd, szOk, bnd_ok, bnd_exc, noX_ok, wipe, st_mkt, st_mkf, st_addi, st_adds, st_addt, st_auI, st_auS, st_sub, st_mul, st_fdiv, st_mod, st_pow, st_cat, st_repl, st_reps, st_lt, st_le, st_gt, st_ge, st_eqi, st_nei, st_eqs, st_nes, st_idxL, st_idxS, st_idxT, st_idxs, at_n, at_0, at_1, at_2, at_m1, st_slcL, st_slcT, st_slcs, cut_nn, cut_n, cut_from, cut_1, cut_to1, st_lens, st_lenL, st_lenS, st_lenT, st_inti, st_intb, st_min2, st_max2, st_sumL, st_allL, st_anyL, st_tupL, st_tupT, st_joinL, st_rcvj, st_sh, st_idxr, st_lenr, st_tupr, st_appr, st_rcvr, st_joinr, st_setr, mulOk_fm, mulOk_r, mulOk_l, st_eq, st_ne, W.eq, W.eqs, W.pl, W.pls, W.dep, W.deps, a3, enc]) (by simp [ev, evs, evT, evO, evC, evI, asgT, asgTs, evH, pickH, ex, exB, runD, look, seqOf, isKds, isKd, szOk, bnd_ok, bnd_exc, noX_ok, wipe, st_mkt, st_mkf, st_addi, st_adds, st_addt, st_auI, st_auS, st_sub, st_mul, st_fdiv, st_mod, st_pow, st_cat, st_repl, st_reps, st_lt, st_le, st_gt, st_ge, st_eqi, st_nei, st_eqs, st_nes, st_idxL, st_idxS, st_idxT, st_idxs, at_n, at_0, at_1, at_2, at_m1, st_slcL, st_slcT, st_slcs, cut_nn, cut_n, cut_from, cut_1, cut_to1, st_lens, st_lenL, st_lenS, st_lenT, st_inti, st_intb, st_min2, st_max2, st_sumL, st_allL, st_anyL, st_tupL, st_tupT, st_joinL, st_rcvj, st_sh, st_idxr, st_lenr, st_tupr, st_appr, st_rcvr, st_joinr, st_setr, mulOk_fm, mulOk_r, mulOk_l, st_eq, st_ne, W.eq, W.eqs, W.pl, W.pls, W.dep, W.deps, f3, b3_0, h1, h2, h3, h4])]
    rw [ih]
    simp [endp, pcs]
theorem t3 (n : Nat) (t : List Nat) (es : List Ed) (ht : t.length ≤ 1000) (hz : sz es) (ha : (app t 0 es).length ≤ 100000) (G : List O) : callW (cl (n + 1)) .iso 3 [.str t, encE es] G = .ok (.str (app t 0 es)) G := by
  have nr : W.nrs [.str t, encE es] = true := by simp [W.nrs, W.nr, encE_nr]
  obtain ⟨x', y', z', e⟩ := l3 n ⟨es.map enc, none⟩ (fun _ => rfl) (.tup (es.map enc)) t ht es 0 [] none none none (by have := hz.1; simp; omega) hz.2
  have hp := pcs_len t es 0
  have h1 : t.length ≤ 16777216 := by omega
  have h2 : (pcs t 0 es).length < 16777216 := by have := hz.1; omega
  have hj : strs? ((pcs t 0 es).map W.str ++ [W.str (t.drop (endp 0 es))]) = some (pcs t 0 es ++ [t.drop (endp 0 es)]) := by
    have := strs_map (pcs t 0 es ++ [t.drop (endp 0 es)])
    simpa using this
  have hs : ((pcs t 0 es).map List.length).sum + (t.length - endp 0 es) ≤ 16777216 := by
    have e1 := congrArg List.length (pcs_app t es 0)
    rw [List.length_append, List.length_drop] at e1
    rw [sum_len]
    omega
  delta a3 f3 at e
  simp [ev, evs, evT, evO, evC, evI, asgT, asgTs, evH, pickH, ex, exB, runD, look, seqOf, isKds, isKd, szOk, bnd_ok, bnd_exc, noX_ok, wipe, st_mkt, st_mkf, st_addi, st_adds, st_addt, st_auI, st_auS, st_sub, st_mul, st_fdiv, st_mod, st_pow, st_cat, st_repl, st_reps, st_lt, st_le, st_gt, st_ge, st_eqi, st_nei, st_eqs, st_nes, st_idxL, st_idxS, st_idxT, st_idxs, at_n, at_0, at_1, at_2, at_m1, st_slcL, st_slcT, st_slcs, cut_nn, cut_n, cut_from, cut_1, cut_to1, st_lens, st_lenL, st_lenS, st_lenT, st_inti, st_intb, st_min2, st_max2, st_sumL, st_allL, st_anyL, st_tupL, st_tupT, st_joinL, st_rcvj, st_sh, st_idxr, st_lenr, st_tupr, st_appr, st_rcvr, st_joinr, st_setr, mulOk_fm, mulOk_r, mulOk_l, st_eq, st_ne, W.eq, W.eqs, W.pl, W.pls, W.dep, W.deps] at e
  refine iso_pl nr (G1 := [.lst ((pcs t 0 es ++ [t.drop (endp 0 es)]).map .str)]) ?_ rfl
  rw [c3]
  simp [ev, evs, evT, evO, evC, evI, asgT, asgTs, evH, pickH, ex, exB, runD, look, seqOf, isKds, isKd, szOk, bnd_ok, bnd_exc, noX_ok, wipe, st_mkt, st_mkf, st_addi, st_adds, st_addt, st_auI, st_auS, st_sub, st_mul, st_fdiv, st_mod, st_pow, st_cat, st_repl, st_reps, st_lt, st_le, st_gt, st_ge, st_eqi, st_nei, st_eqs, st_nes, st_idxL, st_idxS, st_idxT, st_idxs, at_n, at_0, at_1, at_2, at_m1, st_slcL, st_slcT, st_slcs, cut_nn, cut_n, cut_from, cut_1, cut_to1, st_lens, st_lenL, st_lenS, st_lenT, st_inti, st_intb, st_min2, st_max2, st_sumL, st_allL, st_anyL, st_tupL, st_tupT, st_joinL, st_rcvj, st_sh, st_idxr, st_lenr, st_tupr, st_appr, st_rcvr, st_joinr, st_setr, mulOk_fm, mulOk_r, mulOk_l, st_eq, st_ne, W.eq, W.eqs, W.pl, W.pls, W.dep, W.deps, d3, b3, encE, e, h1, h2, hj, hs, joinS_nil, pcs_app]
/-! apply_edit -/
abbrev a4 (n : Nat) : W → Sl → List O → Res Sl := fun w sw G => asgT (cl n) gk (.tp (.cons (.nm 2) (.cons (.nm 3) (.cons (.nm 4) .nil)))) w sw G
abbrev f4 (n : Nat) : Sl → List O → Res Fl := fun sw G => exB (cl n) gk wf b4_0 sw G
theorem cut_add (t : List Nat) (p k : Nat) : cutW t (some (p : Int)) (some ((p : Int) + (k : Int))) = (t.drop p).take k := by
  have := cut_nn t p (p + k)
  rw [Nat.add_sub_cancel_left] at this
  rw [← this]
  congr 2
theorem s4 (n : Nat) (E : W) (t : List Nat) (ht : t.length ≤ 1000) (e : Ed) (hz : e.2.1.length ≤ 1000) (hf : fits t e) (x y z : Option W) : f4 n [some (.str t), some E, some (.int e.1), some (.str e.2.1), some (.str e.2.2)] [] = .ok (.nx [some (.str t), some E, some (.int e.1), some (.str e.2.1), some (.str e.2.2)]) [] := by
  have h1 : t.length ≤ 16777216 := by omega
  have h2 : e.2.1.length ≤ 16777216 := by omega
  have h3 : ¬ (t.length : Int) < e.1 := by have := hf.1; omega
  have h4 := hf.2
  simp [ev, evs, evT, evO, evC, evI, asgT, asgTs, evH, pickH, ex, exB, runD, look, seqOf, isKds, isKd, szOk, bnd_ok, bnd_exc, noX_ok, wipe, st_mkt, st_mkf, st_addi, st_adds, st_addt, st_auI, st_auS, st_sub, st_mul, st_fdiv, st_mod, st_pow, st_cat, st_repl, st_reps, st_lt, st_le, st_gt, st_ge, st_eqi, st_nei, st_eqs, st_nes, st_idxL, st_idxS, st_idxT, st_idxs, at_n, at_0, at_1, at_2, at_m1, st_slcL, st_slcT, st_slcs, cut_nn, cut_n, cut_from, cut_1, cut_to1, st_lens, st_lenL, st_lenS, st_lenT, st_inti, st_intb, st_min2, st_max2, st_sumL, st_allL, st_anyL, st_tupL, st_tupT, st_joinL, st_rcvj, st_sh, st_idxr, st_lenr, st_tupr, st_appr, st_rcvr, st_joinr, st_setr, mulOk_fm, mulOk_r, mulOk_l, st_eq, st_ne, W.eq, W.eqs, W.pl, W.pls, W.dep, W.deps, f4, b4_0, h1, h2, h3, cut_add, h4]
theorem l4 (n : Nat) (s : Seq) (hs : ∀ G, s.ok G = true) (E : W) (t : List Nat) (ht : t.length ≤ 1000) : ∀ (es : List Ed) (x y z : Option W), (∀ e ∈ es, e.2.1.length ≤ 1000 ∧ e.2.2.length ≤ 1000) → (∀ e ∈ es, fits t e) →
    ∃ x' y' z', forL (a4 n) (f4 n) s (es.map enc) [some (.str t), some E, x, y, z] [] = .ok (.nx [some (.str t), some E, x', y', z']) []
  | [], x, y, z, _, _ => ⟨x, y, z, by rw [List.map_nil, forL_nil (hs _)]⟩
  | e :: r, x, y, z, hz, hf => by
    obtain ⟨x', y', z', ih⟩ := l4 n s hs E t ht r (some (.int e.1)) (some (.str e.2.1)) (some (.str e.2.2)) (fun a ha => hz a (List.mem_cons_of_mem _ ha)) fun a ha => hf a (List.mem_cons_of_mem _ ha)
    refine ⟨x', y', z', ?_⟩
    rw [List.map_cons, forL_ok (sw1 := [some (.str t), some E, some (.int e.1), some (.str e.2.1), some (.str e.2.2)]) (G1 := []) (hs _) (by simp [ev, evs, evT, evO, evC, evI, asgT, asgTs, evH, pickH, ex, exB, runD, look, seqOf, isKds, isKd, szOk, bnd_ok, bnd_exc, noX_ok, wipe, st_mkt, st_mkf, st_addi, st_adds, st_addt, st_auI, st_auS, st_sub, st_mul, st_fdiv, st_mod, st_pow, st_cat, st_repl, st_reps, st_lt, st_le, st_gt, st_ge, st_eqi, st_nei, st_eqs, st_nes, st_idxL, st_idxS, st_idxT, st_idxs, at_n, at_0, at_1, at_2, at_m1, st_slcL, st_slcT, st_slcs, cut_nn, cut_n, cut_from, cut_1, cut_to1, st_lens, st_lenL, st_lenS, st_lenT, st_inti, st_intb, st_min2, st_max2, st_sumL, st_allL, st_anyL, st_tupL, st_tupT, st_joinL, st_rcvj, st_sh, st_idxr, st_lenr, st_tupr, st_appr, st_rcvr, st_joinr, st_setr, mulOk_fm, mulOk_r, mulOk_l, st_eq, st_ne, W.eq, W.eqs, W.pl, W.pls, W.dep, W.deps, a4, enc]) (s4 n E t ht e (hz e List.mem_cons_self).1 (hf e List.mem_cons_self) x y z)]
    exact ih
theorem t4 (n : Nat) (t : List Nat) (es : List Ed) (ht : t.length ≤ 400) (hr : ∀ e ∈ es, real e) (ha : asc es) (hz : sz es) (hf : ∀ e ∈ es, fits t e) (hl : (app t 0 es).length ≤ 100000) (G : List O) : callW (cl (n + 4)) .iso 4 [.str t, encE es] G = .ok (.str (app t 0 es)) G := by
  have nr : W.nrs [.str t, encE es] = true := by simp [W.nrs, W.nr, encE_nr]
  refine iso_pl nr (G1 := []) ?_ rfl
  obtain ⟨x', y', z', e⟩ := l4 (n + 3) ⟨es.map enc, none⟩ (fun _ => rfl) (encE es) t (by omega) es none none none hz.2 hf
  delta a4 f4 at e
  have h0 := i0 (n + 2) t ht []
  have h2 := t2 (n + 1) es hr ha hz []
  have h3 := t3 (n + 2) t es (by omega) hz hl []
  rw [c4]
  simp [ev, evs, evT, evO, evC, evI, asgT, asgTs, evH, pickH, ex, exB, runD, look, seqOf, isKds, isKd, szOk, bnd_ok, bnd_exc, noX_ok, wipe, st_mkt, st_mkf, st_addi, st_adds, st_addt, st_auI, st_auS, st_sub, st_mul, st_fdiv, st_mod, st_pow, st_cat, st_repl, st_reps, st_lt, st_le, st_gt, st_ge, st_eqi, st_nei, st_eqs, st_nes, st_idxL, st_idxS, st_idxT, st_idxs, at_n, at_0, at_1, at_2, at_m1, st_slcL, st_slcT, st_slcs, cut_nn, cut_n, cut_from, cut_1, cut_to1, st_lens, st_lenL, st_lenS, st_lenT, st_inti, st_intb, st_min2, st_max2, st_sumL, st_allL, st_anyL, st_tupL, st_tupT, st_joinL, st_rcvj, st_sh, st_idxr, st_lenr, st_tupr, st_appr, st_rcvr, st_joinr, st_setr, mulOk_fm, mulOk_r, mulOk_l, st_eq, st_ne, W.eq, W.eqs, W.pl, W.pls, W.dep, W.deps, encE] at e h2 h3
  simp [ev, evs, evT, evO, evC, evI, asgT, asgTs, evH, pickH, ex, exB, runD, look, seqOf, isKds, isKd, szOk, bnd_ok, bnd_exc, noX_ok, wipe, st_mkt, st_mkf, st_addi, st_adds, st_addt, st_auI, st_auS, st_sub, st_mul, st_fdiv, st_mod, st_pow, st_cat, st_repl, st_reps, st_lt, st_le, st_gt, st_ge, st_eqi, st_nei, st_eqs, st_nes, st_idxL, st_idxS, st_idxT, st_idxs, at_n, at_0, at_1, at_2, at_m1, st_slcL, st_slcT, st_slcs, cut_nn, cut_n, cut_from, cut_1, cut_to1, st_lens, st_lenL, st_lenS, st_lenT, st_inti, st_intb, st_min2, st_max2, st_sumL, st_allL, st_anyL, st_tupL, st_tupT, st_joinL, st_rcvj, st_sh, st_idxr, st_lenr, st_tupr, st_appr, st_rcvr, st_joinr, st_setr, mulOk_fm, mulOk_r, mulOk_l, st_eq, st_ne, W.eq, W.eqs, W.pl, W.pls, W.dep, W.deps, d4, b4, encE, e, h0, h2, h3]
/-- where the first does not fit -/
theorem x4 (n : Nat) (t : List Nat) (e : Ed) (es : List Ed) (ht : t.length ≤ 400) (hr : ∀ a ∈ e :: es, real a) (ha : asc (e :: es)) (hz : sz (e :: es)) (hf : e.1 ≤ t.length) (hg : (t.drop e.1).take e.2.1.length ≠ e.2.1) (G : List O) : callW (cl (n + 4)) .iso 4 [.str t, encE (e :: es)] G = .exc 0 GONE G := by
  have nr : W.nrs [.str t, encE (e :: es)] = true := by simp [W.nrs, W.nr, encE_nr]
  refine iso_exc nr (G1 := []) ?_ rfl
  have h1 : t.length ≤ 16777216 := by omega
  have h2' : e.2.1.length ≤ 16777216 := by have := (hz.2 e List.mem_cons_self).1; omega
  have h3' : ¬ (t.length : Int) < e.1 := by omega
  have e0 : forL (a4 (n + 3)) (f4 (n + 3)) ⟨(e :: es).map enc, none⟩ ((e :: es).map enc) [some (.str t), some (encE (e :: es)), none, none, none] [] = .exc 0 GONE [] := by
    rw [List.map_cons]
    refine forL_exc (sw1 := [some (.str t), some (encE (e :: es)), some (.int e.1), some (.str e.2.1), some (.str e.2.2)]) (G1 := []) rfl (by simp [ev, evs, evT, evO, evC, evI, asgT, asgTs, evH, pickH, ex, exB, runD, look, seqOf, isKds, isKd, szOk, bnd_ok, bnd_exc, noX_ok, wipe, st_mkt, st_mkf, st_addi, st_adds, st_addt, st_auI, st_auS, st_sub, st_mul, st_fdiv, st_mod, st_pow, st_cat, st_repl, st_reps, st_lt, st_le, st_gt, st_ge, st_eqi, st_nei, st_eqs, st_nes, st_idxL, st_idxS, st_idxT, st_idxs, at_n, at_0, at_1, at_2, at_m1, st_slcL, st_slcT, st_slcs, cut_nn, cut_n, cut_from, cut_1, cut_to1, st_lens, st_lenL, st_lenS, st_lenT, st_inti, st_intb, st_min2, st_max2, st_sumL, st_allL, st_anyL, st_tupL, st_tupT, st_joinL, st_rcvj, st_sh, st_idxr, st_lenr, st_tupr, st_appr, st_rcvr, st_joinr, st_setr, mulOk_fm, mulOk_r, mulOk_l, st_eq, st_ne, W.eq, W.eqs, W.pl, W.pls, W.dep, W.deps, a4, enc]) ?_
    simp [ev, evs, evT, evO, evC, evI, asgT, asgTs, evH, pickH, ex, exB, runD, look, seqOf, isKds, isKd, szOk, bnd_ok, bnd_exc, noX_ok, wipe, st_mkt, st_mkf, st_addi, st_adds, st_addt, st_auI, st_auS, st_sub, st_mul, st_fdiv, st_mod, st_pow, st_cat, st_repl, st_reps, st_lt, st_le, st_gt, st_ge, st_eqi, st_nei, st_eqs, st_nes, st_idxL, st_idxS, st_idxT, st_idxs, at_n, at_0, at_1, at_2, at_m1, st_slcL, st_slcT, st_slcs, cut_nn, cut_n, cut_from, cut_1, cut_to1, st_lens, st_lenL, st_lenS, st_lenT, st_inti, st_intb, st_min2, st_max2, st_sumL, st_allL, st_anyL, st_tupL, st_tupT, st_joinL, st_rcvj, st_sh, st_idxr, st_lenr, st_tupr, st_appr, st_rcvr, st_joinr, st_setr, mulOk_fm, mulOk_r, mulOk_l, st_eq, st_ne, W.eq, W.eqs, W.pl, W.pls, W.dep, W.deps, f4, b4_0, h1, h2', h3', cut_add, hg, GONE]
  delta a4 f4 at e0
  have h0 := i0 (n + 2) t ht []
  have h2 := t2 (n + 1) (e :: es) hr ha hz []
  rw [c4]
  simp [ev, evs, evT, evO, evC, evI, asgT, asgTs, evH, pickH, ex, exB, runD, look, seqOf, isKds, isKd, szOk, bnd_ok, bnd_exc, noX_ok, wipe, st_mkt, st_mkf, st_addi, st_adds, st_addt, st_auI, st_auS, st_sub, st_mul, st_fdiv, st_mod, st_pow, st_cat, st_repl, st_reps, st_lt, st_le, st_gt, st_ge, st_eqi, st_nei, st_eqs, st_nes, st_idxL, st_idxS, st_idxT, st_idxs, at_n, at_0, at_1, at_2, at_m1, st_slcL, st_slcT, st_slcs, cut_nn, cut_n, cut_from, cut_1, cut_to1, st_lens, st_lenL, st_lenS, st_lenT, st_inti, st_intb, st_min2, st_max2, st_sumL, st_allL, st_anyL, st_tupL, st_tupT, st_joinL, st_rcvj, st_sh, st_idxr, st_lenr, st_tupr, st_appr, st_rcvr, st_joinr, st_setr, mulOk_fm, mulOk_r, mulOk_l, st_eq, st_ne, W.eq, W.eqs, W.pl, W.pls, W.dep, W.deps, encE] at e0 h2
  simp [ev, evs, evT, evO, evC, evI, asgT, asgTs, evH, pickH, ex, exB, runD, look, seqOf, isKds, isKd, szOk, bnd_ok, bnd_exc, noX_ok, wipe, st_mkt, st_mkf, st_addi, st_adds, st_addt, st_auI, st_auS, st_sub, st_mul, st_fdiv, st_mod, st_pow, st_cat, st_repl, st_reps, st_lt, st_le, st_gt, st_ge, st_eqi, st_nei, st_eqs, st_nes, st_idxL, st_idxS, st_idxT, st_idxs, at_n, at_0, at_1, at_2, at_m1, st_slcL, st_slcT, st_slcs, cut_nn, cut_n, cut_from, cut_1, cut_to1, st_lens, st_lenL, st_lenS, st_lenT, st_inti, st_intb, st_min2, st_max2, st_sumL, st_allL, st_anyL, st_tupL, st_tupT, st_joinL, st_rcvj, st_sh, st_idxr, st_lenr, st_tupr, st_appr, st_rcvr, st_joinr, st_setr, mulOk_fm, mulOk_r, mulOk_l, st_eq, st_ne, W.eq, W.eqs, W.pl, W.pls, W.dep, W.deps, d4, b4, encE, e0, h0, h2]
/-- where the second begins too early -/
theorem x2 (n : Nat) (e f : Ed) (es : List Ed) (hr : ∀ a ∈ e :: f :: es, real a) (hz : sz (e :: f :: es)) (hb : f.1 ≤ e.1 + e.2.1.length) (G : List O) : callW (cl (n + 2)) .iso 2 [encE (e :: f :: es)] G = .exc 0 FORM G := by
  have nr : W.nrs [encE (e :: f :: es)] = true := by simp [W.nrs, encE_nr]
  refine iso_exc nr (G1 := []) ?_ rfl
  rw [c2]
  have hz1 : (e :: f :: es).length ≤ 16777216 := by have := hz.1; omega
  have hlc := lcL_map (asg := fun x G => asgT (cl (n + 1)) gk (.nm 1) x [some (encE (e :: f :: es)), none, none] G) (cd := fun sw1 G => evC (cl (n + 1)) gk .no sw1 G) (e := fun sw1 G => ev (cl (n + 1)) gk e2_1 sw1 G) (s := ⟨(e :: f :: es).map enc, none⟩) (G := []) rfl (fun _ => .bl true) ((e :: f :: es).map enc) [] (by simpa using hz1) (fun x hx => by
    obtain ⟨a, he, rfl⟩ := List.mem_map.mp hx
    refine ⟨[some (encE (e :: f :: es)), some (enc a), none], ?_, ?_, ?_⟩
    · simp [ev, evs, evT, evO, evC, evI, asgT, asgTs, evH, pickH, ex, exB, runD, look, seqOf, isKds, isKd, szOk, bnd_ok, bnd_exc, noX_ok, wipe, st_mkt, st_mkf, st_addi, st_adds, st_addt, st_auI, st_auS, st_sub, st_mul, st_fdiv, st_mod, st_pow, st_cat, st_repl, st_reps, st_lt, st_le, st_gt, st_ge, st_eqi, st_nei, st_eqs, st_nes, st_idxL, st_idxS, st_idxT, st_idxs, at_n, at_0, at_1, at_2, at_m1, st_slcL, st_slcT, st_slcs, cut_nn, cut_n, cut_from, cut_1, cut_to1, st_lens, st_lenL, st_lenS, st_lenT, st_inti, st_intb, st_min2, st_max2, st_sumL, st_allL, st_anyL, st_tupL, st_tupT, st_joinL, st_rcvj, st_sh, st_idxr, st_lenr, st_tupr, st_appr, st_rcvr, st_joinr, st_setr, mulOk_fm, mulOk_r, mulOk_l, st_eq, st_ne, W.eq, W.eqs, W.pl, W.pls, W.dep, W.deps]
    · simp [ev, evs, evT, evO, evC, evI, asgT, asgTs, evH, pickH, ex, exB, runD, look, seqOf, isKds, isKd, szOk, bnd_ok, bnd_exc, noX_ok, wipe, st_mkt, st_mkf, st_addi, st_adds, st_addt, st_auI, st_auS, st_sub, st_mul, st_fdiv, st_mod, st_pow, st_cat, st_repl, st_reps, st_lt, st_le, st_gt, st_ge, st_eqi, st_nei, st_eqs, st_nes, st_idxL, st_idxS, st_idxT, st_idxs, at_n, at_0, at_1, at_2, at_m1, st_slcL, st_slcT, st_slcs, cut_nn, cut_n, cut_from, cut_1, cut_to1, st_lens, st_lenL, st_lenS, st_lenT, st_inti, st_intb, st_min2, st_max2, st_sumL, st_allL, st_anyL, st_tupL, st_tupT, st_joinL, st_rcvj, st_sh, st_idxr, st_lenr, st_tupr, st_appr, st_rcvr, st_joinr, st_setr, mulOk_fm, mulOk_r, mulOk_l, st_eq, st_ne, W.eq, W.eqs, W.pl, W.pls, W.dep, W.deps]
    · simp [ev, evs, evT, evO, evC, evI, asgT, asgTs, evH, pickH, ex, exB, runD, look, seqOf, isKds, isKd, szOk, bnd_ok, bnd_exc, noX_ok, wipe, st_mkt, st_mkf, st_addi, st_adds, st_addt, st_auI, st_auS, st_sub, st_mul, st_fdiv, st_mod, st_pow, st_cat, st_repl, st_reps, st_lt, st_le, st_gt, st_ge, st_eqi, st_nei, st_eqs, st_nes, st_idxL, st_idxS, st_idxT, st_idxs, at_n, at_0, at_1, at_2, at_m1, st_slcL, st_slcT, st_slcs, cut_nn, cut_n, cut_from, cut_1, cut_to1, st_lens, st_lenL, st_lenS, st_lenT, st_inti, st_intb, st_min2, st_max2, st_sumL, st_allL, st_anyL, st_tupL, st_tupT, st_joinL, st_rcvj, st_sh, st_idxr, st_lenr, st_tupr, st_appr, st_rcvr, st_joinr, st_setr, mulOk_fm, mulOk_r, mulOk_l, st_eq, st_ne, W.eq, W.eqs, W.pl, W.pls, W.dep, W.deps, e2_1, t1 n a (hr a he)])
  have hg : e.2.1.length ≤ 16777216 := by have := (hz.2 e List.mem_cons_self).1; omega
  have h3 : (f.1 : Int) ≤ e.1 + e.2.1.length := by omega
  have ef : forL (a2 (n + 1)) (f2 (n + 1)) ⟨prs (e :: f :: es), none⟩ (prs (e :: f :: es)) [some (encE (e :: f :: es)), none, none] [] = .exc 0 FORM [] := by
    rw [prs_cons]
    refine forL_exc (sw1 := [some (encE (e :: f :: es)), some (enc e), some (enc f)]) (G1 := []) rfl (by simp [ev, evs, evT, evO, evC, evI, asgT, asgTs, evH, pickH, ex, exB, runD, look, seqOf, isKds, isKd, szOk, bnd_ok, bnd_exc, noX_ok, wipe, st_mkt, st_mkf, st_addi, st_adds, st_addt, st_auI, st_auS, st_sub, st_mul, st_fdiv, st_mod, st_pow, st_cat, st_repl, st_reps, st_lt, st_le, st_gt, st_ge, st_eqi, st_nei, st_eqs, st_nes, st_idxL, st_idxS, st_idxT, st_idxs, at_n, at_0, at_1, at_2, at_m1, st_slcL, st_slcT, st_slcs, cut_nn, cut_n, cut_from, cut_1, cut_to1, st_lens, st_lenL, st_lenS, st_lenT, st_inti, st_intb, st_min2, st_max2, st_sumL, st_allL, st_anyL, st_tupL, st_tupT, st_joinL, st_rcvj, st_sh, st_idxr, st_lenr, st_tupr, st_appr, st_rcvr, st_joinr, st_setr, mulOk_fm, mulOk_r, mulOk_l, st_eq, st_ne, W.eq, W.eqs, W.pl, W.pls, W.dep, W.deps, a2]) ?_
    simp [ev, evs, evT, evO, evC, evI, asgT, asgTs, evH, pickH, ex, exB, runD, look, seqOf, isKds, isKd, szOk, bnd_ok, bnd_exc, noX_ok, wipe, st_mkt, st_mkf, st_addi, st_adds, st_addt, st_auI, st_auS, st_sub, st_mul, st_fdiv, st_mod, st_pow, st_cat, st_repl, st_reps, st_lt, st_le, st_gt, st_ge, st_eqi, st_nei, st_eqs, st_nes, st_idxL, st_idxS, st_idxT, st_idxs, at_n, at_0, at_1, at_2, at_m1, st_slcL, st_slcT, st_slcs, cut_nn, cut_n, cut_from, cut_1, cut_to1, st_lens, st_lenL, st_lenS, st_lenT, st_inti, st_intb, st_min2, st_max2, st_sumL, st_allL, st_anyL, st_tupL, st_tupT, st_joinL, st_rcvj, st_sh, st_idxr, st_lenr, st_tupr, st_appr, st_rcvr, st_joinr, st_setr, mulOk_fm, mulOk_r, mulOk_l, st_eq, st_ne, W.eq, W.eqs, W.pl, W.pls, W.dep, W.deps, f2, b2_0, enc, hg, h3, FORM]
  have hb : bls? ((e :: f :: es).map ((fun x => W.bl true) ∘ enc)) = some ((e :: f :: es).map fun _ => true) := bls_all (e :: f :: es)
  delta a2 f2 at ef
  generalize hes : (e :: f :: es) = L at *
  simp [ev, evs, evT, evO, evC, evI, asgT, asgTs, evH, pickH, ex, exB, runD, look, seqOf, isKds, isKd, szOk, bnd_ok, bnd_exc, noX_ok, wipe, st_mkt, st_mkf, st_addi, st_adds, st_addt, st_auI, st_auS, st_sub, st_mul, st_fdiv, st_mod, st_pow, st_cat, st_repl, st_reps, st_lt, st_le, st_gt, st_ge, st_eqi, st_nei, st_eqs, st_nes, st_idxL, st_idxS, st_idxT, st_idxs, at_n, at_0, at_1, at_2, at_m1, st_slcL, st_slcT, st_slcs, cut_nn, cut_n, cut_from, cut_1, cut_to1, st_lens, st_lenL, st_lenS, st_lenT, st_inti, st_intb, st_min2, st_max2, st_sumL, st_allL, st_anyL, st_tupL, st_tupT, st_joinL, st_rcvj, st_sh, st_idxr, st_lenr, st_tupr, st_appr, st_rcvr, st_joinr, st_setr, mulOk_fm, mulOk_r, mulOk_l, st_eq, st_ne, W.eq, W.eqs, W.pl, W.pls, W.dep, W.deps, encE] at hlc
  simp [ev, evs, evT, evO, evC, evI, asgT, asgTs, evH, pickH, ex, exB, runD, look, seqOf, isKds, isKd, szOk, bnd_ok, bnd_exc, noX_ok, wipe, st_mkt, st_mkf, st_addi, st_adds, st_addt, st_auI, st_auS, st_sub, st_mul, st_fdiv, st_mod, st_pow, st_cat, st_repl, st_reps, st_lt, st_le, st_gt, st_ge, st_eqi, st_nei, st_eqs, st_nes, st_idxL, st_idxS, st_idxT, st_idxs, at_n, at_0, at_1, at_2, at_m1, st_slcL, st_slcT, st_slcs, cut_nn, cut_n, cut_from, cut_1, cut_to1, st_lens, st_lenL, st_lenS, st_lenT, st_inti, st_intb, st_min2, st_max2, st_sumL, st_allL, st_anyL, st_tupL, st_tupT, st_joinL, st_rcvj, st_sh, st_idxr, st_lenr, st_tupr, st_appr, st_rcvr, st_joinr, st_setr, mulOk_fm, mulOk_r, mulOk_l, st_eq, st_ne, W.eq, W.eqs, W.pl, W.pls, W.dep, W.deps, prs, encE] at ef
  simp [ev, evs, evT, evO, evC, evI, asgT, asgTs, evH, pickH, ex, exB, runD, look, seqOf, isKds, isKd, szOk, bnd_ok, bnd_exc, noX_ok, wipe, st_mkt, st_mkf, st_addi, st_adds, st_addt, st_auI, st_auS, st_sub, st_mul, st_fdiv, st_mod, st_pow, st_cat, st_repl, st_reps, st_lt, st_le, st_gt, st_ge, st_eqi, st_nei, st_eqs, st_nes, st_idxL, st_idxS, st_idxT, st_idxs, at_n, at_0, at_1, at_2, at_m1, st_slcL, st_slcT, st_slcs, cut_nn, cut_n, cut_from, cut_1, cut_to1, st_lens, st_lenL, st_lenS, st_lenT, st_inti, st_intb, st_min2, st_max2, st_sumL, st_allL, st_anyL, st_tupL, st_tupT, st_joinL, st_rcvj, st_sh, st_idxr, st_lenr, st_tupr, st_appr, st_rcvr, st_joinr, st_setr, mulOk_fm, mulOk_r, mulOk_l, st_eq, st_ne, W.eq, W.eqs, W.pl, W.pls, W.dep, W.deps, d2, b2, encE, hlc, hz1, hb, ef]
theorem x4b (n : Nat) (t : List Nat) (e f : Ed) (es : List Ed) (ht : t.length ≤ 400) (hr : ∀ a ∈ e :: f :: es, real a) (hz : sz (e :: f :: es)) (hb : f.1 ≤ e.1 + e.2.1.length) (G : List O) : callW (cl (n + 4)) .iso 4 [.str t, encE (e :: f :: es)] G = .exc 0 FORM G := by
  have nr : W.nrs [.str t, encE (e :: f :: es)] = true := by simp [W.nrs, W.nr, encE_nr]
  refine iso_exc nr (G1 := []) ?_ rfl
  have h0 := i0 (n + 2) t ht []
  have h2 := x2 (n + 1) e f es hr hz hb []
  rw [c4]
  simp [ev, evs, evT, evO, evC, evI, asgT, asgTs, evH, pickH, ex, exB, runD, look, seqOf, isKds, isKd, szOk, bnd_ok, bnd_exc, noX_ok, wipe, st_mkt, st_mkf, st_addi, st_adds, st_addt, st_auI, st_auS, st_sub, st_mul, st_fdiv, st_mod, st_pow, st_cat, st_repl, st_reps, st_lt, st_le, st_gt, st_ge, st_eqi, st_nei, st_eqs, st_nes, st_idxL, st_idxS, st_idxT, st_idxs, at_n, at_0, at_1, at_2, at_m1, st_slcL, st_slcT, st_slcs, cut_nn, cut_n, cut_from, cut_1, cut_to1, st_lens, st_lenL, st_lenS, st_lenT, st_inti, st_intb, st_min2, st_max2, st_sumL, st_allL, st_anyL, st_tupL, st_tupT, st_joinL, st_rcvj, st_sh, st_idxr, st_lenr, st_tupr, st_appr, st_rcvr, st_joinr, st_setr, mulOk_fm, mulOk_r, mulOk_l, st_eq, st_ne, W.eq, W.eqs, W.pl, W.pls, W.dep, W.deps, d4, b4, h0, h2]
/-! undone -/
abbrev a5 (n : Nat) : W → Sl → List O → Res Sl := fun w sw G => asgT (cl n) gk (.tp (.cons (.nm 3) (.cons (.nm 4) (.cons (.nm 5) .nil)))) w sw G
abbrev f5 (n : Nat) : Sl → List O → Res Fl := fun sw G => exB (cl n) gk wf b5_0 sw G
theorem l5 (n : Nat) (s : Seq) (hs : ∀ G, s.ok G = true) (E : W) : ∀ (B : List Bl) (o o' : Nat) (fs : List W) (x y z : Option W), fs.length + B.length ≤ 10000 → (∀ e ∈ B, e.2.1.length ≤ 1000 ∧ e.2.2.length ≤ 1000) →
    ∃ v x' y' z', forL (a5 n) (f5 n) s ((eds o B).map enc) [some E, some (.ref 0), some (.int ((o' : Int) - o)), x, y, z] [.lst fs] = .ok (.nx [some E, some (.ref 0), some (.int v), x', y', z']) [.lst (fs ++ (eds o' (bak B)).map enc)]
  | [], o, o', fs, x, y, z, _, _ => ⟨(o' : Int) - o, x, y, z, by simp only [eds, bak, List.map_nil]; rw [forL_nil (hs _)]; simp⟩
  | b :: r, o, o', fs, x, y, z, hl, hz => by
    obtain ⟨v, x', y', z', ih⟩ := l5 n s hs E r (o + b.1.length + b.2.1.length) (o' + b.1.length + b.2.2.length) (fs ++ [enc (o' + b.1.length, b.2.2, b.2.1)]) (some (.int ((o + b.1.length : Nat) : Int))) (some (.str b.2.1)) (some (.str b.2.2)) (by simp only [List.length_append, List.length_cons, List.length_nil] at hl ⊢; omega) fun a ha => hz a (List.mem_cons_of_mem _ ha)
    refine ⟨v, x', y', z', ?_⟩
    have h1 : b.2.2.length ≤ 16777216 := by have := (hz b List.mem_cons_self).2; omega
    have h2 : b.2.1.length ≤ 16777216 := by have := (hz b List.mem_cons_self).1; omega
    have h3 : fs.length < 16777216 := by simp only [List.length_cons] at hl; omega
    show forL _ _ _ (enc (o + b.1.length, b.2.1, b.2.2) :: _) _ _ = _
    rw [forL_ok (sw1 := [some E, some (.ref 0), some (.int ((o' : Int) - o)), some (.int ((o + b.1.length : Nat) : Int)), some (.str b.2.1), some (.str b.2.2)]) (G1 := [.lst fs]) (sw2 := [some E, some (.ref 0), some (.int (((o' + b.1.length + b.2.2.length : Nat) : Int) - ((o + b.1.length + b.2.1.length : Nat) : Int))), some (.int ((o + b.1.length : Nat) : Int)), some (.str b.2.1), some (.str b.2.2)])
      (G2 := [.lst (fs ++ [enc (o' + b.1.length, b.2.2, b.2.1)])]) (hs _) (by simp [ev, evs, evT, evO, evC, evI, asgT, asgTs, evH, pickH, ex, exB, runD, look, seqOf, isKds, isKd, szOk, bnd_ok, bnd_exc, noX_ok, wipe, st_mkt, st_mkf, st_addi, st_adds, st_addt, st_auI, st_auS, st_sub, st_mul, st_fdiv, st_mod, st_pow, st_cat, st_repl, st_reps, st_lt, st_le, st_gt, st_ge, st_eqi, st_nei, st_eqs, st_nes, st_idxL, st_idxS, st_idxT, st_idxs, at_n, at_0, at_1, at_2, at_m1, st_slcL, st_slcT, st_slcs, cut_nn, cut_n, cut_from, cut_1, cut_to1, st_lens, st_lenL, st_lenS, st_lenT, st_inti, st_intb, st_min2, st_max2, st_sumL, st_allL, st_anyL, st_tupL, st_tupT, st_joinL, st_rcvj, st_sh, st_idxr, st_lenr, st_tupr, st_appr, st_rcvr, st_joinr, st_setr, mulOk_fm, mulOk_r, mulOk_l, st_eq, st_ne, W.eq, W.eqs, W.pl, W.pls, W.dep, W.deps, a5, enc]) (by simp [ev, evs, evT, evO, evC, evI, asgT, asgTs, evH, pickH, ex, exB, runD, look, seqOf, isKds, isKd, szOk, bnd_ok, bnd_exc, noX_ok, wipe, st_mkt, st_mkf, st_addi, st_adds, st_addt, st_auI, st_auS, st_sub, st_mul, st_fdiv, st_mod, st_pow, st_cat, st_repl, st_reps, st_lt, st_le, st_gt, st_ge, st_eqi, st_nei, st_eqs, st_nes, st_idxL, st_idxS, st_idxT, st_idxs, at_n, at_0, at_1, at_2, at_m1, st_slcL, st_slcT, st_slcs, cut_nn, cut_n, cut_from, cut_1, cut_to1, st_lens, st_lenL, st_lenS, st_lenT, st_inti, st_intb, st_min2, st_max2, st_sumL, st_allL, st_anyL, st_tupL, st_tupT, st_joinL, st_rcvj, st_sh, st_idxr, st_lenr, st_tupr, st_appr, st_rcvr, st_joinr, st_setr, mulOk_fm, mulOk_r, mulOk_l, st_eq, st_ne, W.eq, W.eqs, W.pl, W.pls, W.dep, W.deps, f5, b5_0, h1, h2, h3, enc]; omega)]
    rw [ih]
    simp [bak, eds]
theorem t5 (n : Nat) (B : List Bl) (hB : fine B) (hl : B.length ≤ 1000) (hz : ∀ e ∈ B, e.2.1.length ≤ 1000 ∧ e.2.2.length ≤ 1000) (hs : sz (eds 0 B)) (G : List O) : callW (cl (n + 3)) .iso 5 [encE (eds 0 B)] G = .ok (encE (eds 0 (bak B))) G := by
  have nr : W.nrs [encE (eds 0 B)] = true := by simp [W.nrs, encE_nr]
  obtain ⟨v, x', y', z', e⟩ := l5 (n + 2) ⟨(eds 0 B).map enc, none⟩ (fun _ => rfl) (encE (eds 0 B)) B 0 0 [] none none none (by simp; omega) hz
  refine iso_pl nr (G1 := [.lst ((eds 0 (bak B)).map enc)]) ?_ (encE_pl _)
  have h2 := t2 n (eds 0 B) (eds_real hB 0) (eds_asc B 0 hB.2) hs []
  delta a5 f5 at e
  rw [c5]
  simp [ev, evs, evT, evO, evC, evI, asgT, asgTs, evH, pickH, ex, exB, runD, look, seqOf, isKds, isKd, szOk, bnd_ok, bnd_exc, noX_ok, wipe, st_mkt, st_mkf, st_addi, st_adds, st_addt, st_auI, st_auS, st_sub, st_mul, st_fdiv, st_mod, st_pow, st_cat, st_repl, st_reps, st_lt, st_le, st_gt, st_ge, st_eqi, st_nei, st_eqs, st_nes, st_idxL, st_idxS, st_idxT, st_idxs, at_n, at_0, at_1, at_2, at_m1, st_slcL, st_slcT, st_slcs, cut_nn, cut_n, cut_from, cut_1, cut_to1, st_lens, st_lenL, st_lenS, st_lenT, st_inti, st_intb, st_min2, st_max2, st_sumL, st_allL, st_anyL, st_tupL, st_tupT, st_joinL, st_rcvj, st_sh, st_idxr, st_lenr, st_tupr, st_appr, st_rcvr, st_joinr, st_setr, mulOk_fm, mulOk_r, mulOk_l, st_eq, st_ne, W.eq, W.eqs, W.pl, W.pls, W.dep, W.deps, encE] at e h2
  simp [ev, evs, evT, evO, evC, evI, asgT, asgTs, evH, pickH, ex, exB, runD, look, seqOf, isKds, isKd, szOk, bnd_ok, bnd_exc, noX_ok, wipe, st_mkt, st_mkf, st_addi, st_adds, st_addt, st_auI, st_auS, st_sub, st_mul, st_fdiv, st_mod, st_pow, st_cat, st_repl, st_reps, st_lt, st_le, st_gt, st_ge, st_eqi, st_nei, st_eqs, st_nes, st_idxL, st_idxS, st_idxT, st_idxs, at_n, at_0, at_1, at_2, at_m1, st_slcL, st_slcT, st_slcs, cut_nn, cut_n, cut_from, cut_1, cut_to1, st_lens, st_lenL, st_lenS, st_lenT, st_inti, st_intb, st_min2, st_max2, st_sumL, st_allL, st_anyL, st_tupL, st_tupT, st_joinL, st_rcvj, st_sh, st_idxr, st_lenr, st_tupr, st_appr, st_rcvr, st_joinr, st_setr, mulOk_fm, mulOk_r, mulOk_l, st_eq, st_ne, W.eq, W.eqs, W.pl, W.pls, W.dep, W.deps, d5, b5, encE, e, h2]
/-! cost_of -/
theorem ints_map (es : List Ed) : ints? (es.map fun e => W.int ((e.2.1.length + e.2.2.length : Nat) : Int)) = some (es.map fun e => ((e.2.1.length + e.2.2.length : Nat) : Int)) := by
  induction es with
  | nil => rfl
  | cons e r ih => simp only [List.map_cons, ints?, ih, Option.map_some]
theorem sum_cost (es : List Ed) : (es.map fun e => ((e.2.1.length + e.2.2.length : Nat) : Int)).sum = (cost es : Int) := by
  induction es with
  | nil => rfl
  | cons e r ih =>
    have h : cost (e :: r) = (e.2.1.length + e.2.2.length) + cost r := rfl
    rw [List.map_cons, List.sum_cons, ih, h]
    omega
theorem t6 (n : Nat) (es : List Ed) (hr : ∀ e ∈ es, real e) (ha : asc es) (hz : sz es) (G : List O) : callW (cl (n + 3)) .iso 6 [encE es] G = .ok (.int (cost es)) G := by
  have nr : W.nrs [encE es] = true := by simp [W.nrs, encE_nr]
  refine iso_pl nr (G1 := []) ?_ rfl
  have hz1 : es.length ≤ 16777216 := by have := hz.1; omega
  have hlc := lcL_map (asg := fun x G => asgT (cl (n + 2)) gk (.tp (.cons (.nm 1) (.cons (.nm 2) (.cons (.nm 3) .nil)))) x [some (encE es), none, none, none] G) (cd := fun sw1 G => evC (cl (n + 2)) gk .no sw1 G) (e := fun sw1 G => ev (cl (n + 2)) gk e6_0 sw1 G) (s := ⟨es.map enc, none⟩) (G := []) rfl
    (fun x => match x with
      | .tup [_, .str g, .str c] => .int ((g.length + c.length : Nat) : Int)
      | _ => .non) (es.map enc) [] (by simpa using hz1) (fun x hx => by
    obtain ⟨e, he, rfl⟩ := List.mem_map.mp hx
    have h1 : e.2.1.length ≤ 16777216 := by have := (hz.2 e he).1; omega
    have h2 : e.2.2.length ≤ 16777216 := by have := (hz.2 e he).2; omega
    refine ⟨[some (encE es), some (.int e.1), some (.str e.2.1), some (.str e.2.2)], ?_, ?_, ?_⟩
    · simp [ev, evs, evT, evO, evC, evI, asgT, asgTs, evH, pickH, ex, exB, runD, look, seqOf, isKds, isKd, szOk, bnd_ok, bnd_exc, noX_ok, wipe, st_mkt, st_mkf, st_addi, st_adds, st_addt, st_auI, st_auS, st_sub, st_mul, st_fdiv, st_mod, st_pow, st_cat, st_repl, st_reps, st_lt, st_le, st_gt, st_ge, st_eqi, st_nei, st_eqs, st_nes, st_idxL, st_idxS, st_idxT, st_idxs, at_n, at_0, at_1, at_2, at_m1, st_slcL, st_slcT, st_slcs, cut_nn, cut_n, cut_from, cut_1, cut_to1, st_lens, st_lenL, st_lenS, st_lenT, st_inti, st_intb, st_min2, st_max2, st_sumL, st_allL, st_anyL, st_tupL, st_tupT, st_joinL, st_rcvj, st_sh, st_idxr, st_lenr, st_tupr, st_appr, st_rcvr, st_joinr, st_setr, mulOk_fm, mulOk_r, mulOk_l, st_eq, st_ne, W.eq, W.eqs, W.pl, W.pls, W.dep, W.deps, enc]
    · simp [ev, evs, evT, evO, evC, evI, asgT, asgTs, evH, pickH, ex, exB, runD, look, seqOf, isKds, isKd, szOk, bnd_ok, bnd_exc, noX_ok, wipe, st_mkt, st_mkf, st_addi, st_adds, st_addt, st_auI, st_auS, st_sub, st_mul, st_fdiv, st_mod, st_pow, st_cat, st_repl, st_reps, st_lt, st_le, st_gt, st_ge, st_eqi, st_nei, st_eqs, st_nes, st_idxL, st_idxS, st_idxT, st_idxs, at_n, at_0, at_1, at_2, at_m1, st_slcL, st_slcT, st_slcs, cut_nn, cut_n, cut_from, cut_1, cut_to1, st_lens, st_lenL, st_lenS, st_lenT, st_inti, st_intb, st_min2, st_max2, st_sumL, st_allL, st_anyL, st_tupL, st_tupT, st_joinL, st_rcvj, st_sh, st_idxr, st_lenr, st_tupr, st_appr, st_rcvr, st_joinr, st_setr, mulOk_fm, mulOk_r, mulOk_l, st_eq, st_ne, W.eq, W.eqs, W.pl, W.pls, W.dep, W.deps]
    · simp [ev, evs, evT, evO, evC, evI, asgT, asgTs, evH, pickH, ex, exB, runD, look, seqOf, isKds, isKd, szOk, bnd_ok, bnd_exc, noX_ok, wipe, st_mkt, st_mkf, st_addi, st_adds, st_addt, st_auI, st_auS, st_sub, st_mul, st_fdiv, st_mod, st_pow, st_cat, st_repl, st_reps, st_lt, st_le, st_gt, st_ge, st_eqi, st_nei, st_eqs, st_nes, st_idxL, st_idxS, st_idxT, st_idxs, at_n, at_0, at_1, at_2, at_m1, st_slcL, st_slcT, st_slcs, cut_nn, cut_n, cut_from, cut_1, cut_to1, st_lens, st_lenL, st_lenS, st_lenT, st_inti, st_intb, st_min2, st_max2, st_sumL, st_allL, st_anyL, st_tupL, st_tupT, st_joinL, st_rcvj, st_sh, st_idxr, st_lenr, st_tupr, st_appr, st_rcvr, st_joinr, st_setr, mulOk_fm, mulOk_r, mulOk_l, st_eq, st_ne, W.eq, W.eqs, W.pl, W.pls, W.dep, W.deps, e6_0, enc, h1, h2])
  have hm : [] ++ (es.map enc).map (fun x => match x with
      | .tup [_, .str g, .str c] => W.int ((g.length + c.length : Nat) : Int)
      | _ => .non) = es.map fun e => W.int ((e.2.1.length + e.2.2.length : Nat) : Int) := by
    rw [List.nil_append, List.map_map]
    rfl
  rw [hm] at hlc
  have h2 := t2 (n) es hr ha hz []
  have hi := ints_map es
  have hsum := sum_cost es
  rw [c6]
  simp [ev, evs, evT, evO, evC, evI, asgT, asgTs, evH, pickH, ex, exB, runD, look, seqOf, isKds, isKd, szOk, bnd_ok, bnd_exc, noX_ok, wipe, st_mkt, st_mkf, st_addi, st_adds, st_addt, st_auI, st_auS, st_sub, st_mul, st_fdiv, st_mod, st_pow, st_cat, st_repl, st_reps, st_lt, st_le, st_gt, st_ge, st_eqi, st_nei, st_eqs, st_nes, st_idxL, st_idxS, st_idxT, st_idxs, at_n, at_0, at_1, at_2, at_m1, st_slcL, st_slcT, st_slcs, cut_nn, cut_n, cut_from, cut_1, cut_to1, st_lens, st_lenL, st_lenS, st_lenT, st_inti, st_intb, st_min2, st_max2, st_sumL, st_allL, st_anyL, st_tupL, st_tupT, st_joinL, st_rcvj, st_sh, st_idxr, st_lenr, st_tupr, st_appr, st_rcvr, st_joinr, st_setr, mulOk_fm, mulOk_r, mulOk_l, st_eq, st_ne, W.eq, W.eqs, W.pl, W.pls, W.dep, W.deps, encE] at hlc h2
  simp at hi hsum
  simp [ev, evs, evT, evO, evC, evI, asgT, asgTs, evH, pickH, ex, exB, runD, look, seqOf, isKds, isKd, szOk, bnd_ok, bnd_exc, noX_ok, wipe, st_mkt, st_mkf, st_addi, st_adds, st_addt, st_auI, st_auS, st_sub, st_mul, st_fdiv, st_mod, st_pow, st_cat, st_repl, st_reps, st_lt, st_le, st_gt, st_ge, st_eqi, st_nei, st_eqs, st_nes, st_idxL, st_idxS, st_idxT, st_idxs, at_n, at_0, at_1, at_2, at_m1, st_slcL, st_slcT, st_slcs, cut_nn, cut_n, cut_from, cut_1, cut_to1, st_lens, st_lenL, st_lenS, st_lenT, st_inti, st_intb, st_min2, st_max2, st_sumL, st_allL, st_anyL, st_tupL, st_tupT, st_joinL, st_rcvj, st_sh, st_idxr, st_lenr, st_tupr, st_appr, st_rcvr, st_joinr, st_setr, mulOk_fm, mulOk_r, mulOk_l, st_eq, st_ne, W.eq, W.eqs, W.pl, W.pls, W.dep, W.deps, d6, b6, encE, hlc, hz1, h2, hi, hsum]
end K61
end

section
set_option linter.all false
set_option maxRecDepth 100000
set_option maxHeartbeats 4000000
/-! k61: the table of costs. -/
namespace K61
open T2
/-- a, a - 1, .., 0 -/
theorem dn (m : Nat) : rng3L (m : Int) (-1) (-1) = (List.range (m + 1)).map fun (k : Nat) => W.int ((m : Int) - (k : Int)) := by
  unfold rng3L
  rw [if_neg (by decide)]
  have e : ((m : Int) - -1 + (- -1) - 1) / (- -1) = (m + 1 : Nat) := by simp
  rw [e, Int.toNat_natCast]
  apply List.map_congr_left
  intro k _
  congr 1
  omega
theorem dn_get {m k : Nat} {w : W} (h : ((List.range (m + 1)).map fun (k : Nat) => W.int ((m : Int) - (k : Int)))[k]? = some w) : k ≤ m ∧ w = .int ((m - k : Nat) : Int) := by
  rw [List.getElem?_map] at h
  by_cases hk : k < m + 1
  · rw [List.getElem?_range hk] at h
    have e : ((m - k : Nat) : Int) = (m : Int) - k := by omega
    rw [e]
    exact ⟨by omega, (Option.some.inj h).symm⟩
  · rw [List.getElem?_eq_none (by simpa using Nat.le_of_not_lt hk)] at h
    cases h
/-- v stands in row i at place j -/
def cell (G : List O) (i j : Nat) (v : Nat) : Prop := ∃ row, G[i]? = some (.lst row) ∧ row[j]? = some (.int v)
/-- the rows behind i are done, and in row i the places from c on -/
structure Tab (a b : List Nat) (i c : Nat) (G : List O) : Prop where
  len : G.length = a.length + 1
  row : ∀ i', i' ≤ a.length → ∃ row, G[i']? = some (.lst row) ∧ row.length = b.length + 1
  old : ∀ i' j', i < i' → i' ≤ a.length → j' ≤ b.length → cell G i' j' (dist (a.drop i') (b.drop j'))
  new : ∀ j', c ≤ j' → j' ≤ b.length → cell G i j' (dist (a.drop i) (b.drop j'))
theorem Tab.put {a b : List Nat} {i j : Nat} {G : List O} {row : List W} (t : Tab a b i (j + 1) G) (hi : i ≤ a.length) (hj : j ≤ b.length) (h : G[i]? = some (.lst row)) (hr : row.length = b.length + 1) : Tab a b i j (G.set i (.lst (row.set j (.int (dist (a.drop i) (b.drop j) : Nat))))) := by
  have hl : i < G.length := by rw [t.len]; omega
  refine ⟨by rw [List.length_set]; exact t.len, fun i' h' => ?_, fun i' j' h1 h2 h3 => ?_, fun j' h1 h2 => ?_⟩
  · by_cases e : i = i'
    · subst e
      exact ⟨_, List.getElem?_set_self hl, by rw [List.length_set]; exact hr⟩
    · rw [List.getElem?_set_ne e]
      exact t.row i' h'
  · obtain ⟨r, e1, e2⟩ := t.old i' j' h1 h2 h3
    exact ⟨r, by rw [List.getElem?_set_ne (by omega)]; exact e1, e2⟩
  · refine ⟨_, List.getElem?_set_self hl, ?_⟩
    by_cases e : j = j'
    · subst e
      rw [List.getElem?_set_self (by omega)]
    · rw [List.getElem?_set_ne e]
      obtain ⟨r, e1, e2⟩ := t.new j' (by omega) h2
      rw [h] at e1
      cases e1
      exact e2
theorem drop_cons {a : List Nat} {i : Nat} (h : i < a.length) : a.drop i = a[i] :: a.drop (i + 1) := List.drop_eq_getElem_cons h
theorem at_s {α : Type} (xs : List α) (n : Nat) : atW xs ((n : Int) + 1) = xs[n + 1]? := at_n xs (n + 1)
theorem s7 (n : Nat) (a b : List Nat) (ha : a.length ≤ 1000) (hb : b.length ≤ 1000) (refs : List W) (hC : ∀ i, i ≤ a.length → refs[i]? = some (.ref i)) (i j : Nat) (hi : i ≤ a.length) (hj : j ≤ b.length) (G : List O) (t : Tab a b i (j + 1) G) :
    ∃ G', exB (cl n) gk wf b7_0 [some (.str a), some (.str b), some (.lst refs), some (.int i), some (.int j)] G = .ok (.nx [some (.str a), some (.str b), some (.lst refs), some (.int i), some (.int j)]) G' ∧ Tab a b i j G' := by
  obtain ⟨row, hrow, hlen⟩ := t.row i hi
  refine ⟨_, ?_, t.put hi hj hrow hlen⟩
  have h1 : a.length ≤ 16777216 := by omega
  have h2 : b.length ≤ 16777216 := by omega
  have hjl : j < row.length := by omega
  have c1 := hC i hi
  by_cases e1 : i = a.length
  · have hv : dist (a.drop i) (b.drop j) = b.length - j := by rw [e1, List.drop_length, dist_nil, List.length_drop]
    have hv2 : ((b.length - j : Nat) : Int) = (b.length : Int) - j := by omega
    have e1' : (i : Int) = a.length := by omega
    rw [hv, hv2]
    simp [ev, evs, evT, evO, evC, evI, asgT, asgTs, evH, pickH, ex, exB, runD, look, seqOf, isKds, isKd, szOk, bnd_ok, bnd_exc, noX_ok, wipe, st_mkt, st_mkf, st_addi, st_adds, st_addt, st_auI, st_auS, st_sub, st_mul, st_fdiv, st_mod, st_pow, st_cat, st_repl, st_reps, st_lt, st_le, st_gt, st_ge, st_eqi, st_nei, st_eqs, st_nes, st_idxL, st_idxS, st_idxT, st_idxs, at_n, at_0, at_1, at_2, at_m1, st_slcL, st_slcT, st_slcs, cut_nn, cut_n, cut_from, cut_1, cut_to1, st_lens, st_lenL, st_lenS, st_lenT, st_inti, st_intb, st_min2, st_max2, st_sumL, st_allL, st_anyL, st_tupL, st_tupT, st_joinL, st_rcvj, st_sh, st_idxr, st_lenr, st_tupr, st_appr, st_rcvr, st_joinr, st_setr, mulOk_fm, mulOk_r, mulOk_l, st_eq, st_ne, W.eq, W.eqs, W.pl, W.pls, W.dep, W.deps, b7_0, h1, h2, e1', c1, hrow, hjl]
    simp [ev, evs, evT, evO, evC, evI, asgT, asgTs, evH, pickH, ex, exB, runD, look, seqOf, isKds, isKd, szOk, bnd_ok, bnd_exc, noX_ok, wipe, st_mkt, st_mkf, st_addi, st_adds, st_addt, st_auI, st_auS, st_sub, st_mul, st_fdiv, st_mod, st_pow, st_cat, st_repl, st_reps, st_lt, st_le, st_gt, st_ge, st_eqi, st_nei, st_eqs, st_nes, st_idxL, st_idxS, st_idxT, st_idxs, at_n, at_0, at_1, at_2, at_m1, st_slcL, st_slcT, st_slcs, cut_nn, cut_n, cut_from, cut_1, cut_to1, st_lens, st_lenL, st_lenS, st_lenT, st_inti, st_intb, st_min2, st_max2, st_sumL, st_allL, st_anyL, st_tupL, st_tupT, st_joinL, st_rcvj, st_sh, st_idxr, st_lenr, st_tupr, st_appr, st_rcvr, st_joinr, st_setr, mulOk_fm, mulOk_r, mulOk_l, st_eq, st_ne, W.eq, W.eqs, W.pl, W.pls, W.dep, W.deps, ← e1, c1, hrow, hjl]
  · have e1' : ¬ (i : Int) = a.length := by omega
    by_cases e2 : j = b.length
    · have hv : dist (a.drop i) (b.drop j) = a.length - i := by rw [e2, List.drop_length, dist_nil', List.length_drop]
      have hv2 : ((a.length - i : Nat) : Int) = (a.length : Int) - i := by omega
      have e2' : (j : Int) = b.length := by omega
      rw [hv, hv2]
      simp [ev, evs, evT, evO, evC, evI, asgT, asgTs, evH, pickH, ex, exB, runD, look, seqOf, isKds, isKd, szOk, bnd_ok, bnd_exc, noX_ok, wipe, st_mkt, st_mkf, st_addi, st_adds, st_addt, st_auI, st_auS, st_sub, st_mul, st_fdiv, st_mod, st_pow, st_cat, st_repl, st_reps, st_lt, st_le, st_gt, st_ge, st_eqi, st_nei, st_eqs, st_nes, st_idxL, st_idxS, st_idxT, st_idxs, at_n, at_0, at_1, at_2, at_m1, st_slcL, st_slcT, st_slcs, cut_nn, cut_n, cut_from, cut_1, cut_to1, st_lens, st_lenL, st_lenS, st_lenT, st_inti, st_intb, st_min2, st_max2, st_sumL, st_allL, st_anyL, st_tupL, st_tupT, st_joinL, st_rcvj, st_sh, st_idxr, st_lenr, st_tupr, st_appr, st_rcvr, st_joinr, st_setr, mulOk_fm, mulOk_r, mulOk_l, st_eq, st_ne, W.eq, W.eqs, W.pl, W.pls, W.dep, W.deps, b7_0, h1, h2, e1', e2', c1, hrow, hjl]
      simp [ev, evs, evT, evO, evC, evI, asgT, asgTs, evH, pickH, ex, exB, runD, look, seqOf, isKds, isKd, szOk, bnd_ok, bnd_exc, noX_ok, wipe, st_mkt, st_mkf, st_addi, st_adds, st_addt, st_auI, st_auS, st_sub, st_mul, st_fdiv, st_mod, st_pow, st_cat, st_repl, st_reps, st_lt, st_le, st_gt, st_ge, st_eqi, st_nei, st_eqs, st_nes, st_idxL, st_idxS, st_idxT, st_idxs, at_n, at_0, at_1, at_2, at_m1, st_slcL, st_slcT, st_slcs, cut_nn, cut_n, cut_from, cut_1, cut_to1, st_lens, st_lenL, st_lenS, st_lenT, st_inti, st_intb, st_min2, st_max2, st_sumL, st_allL, st_anyL, st_tupL, st_tupT, st_joinL, st_rcvj, st_sh, st_idxr, st_lenr, st_tupr, st_appr, st_rcvr, st_joinr, st_setr, mulOk_fm, mulOk_r, mulOk_l, st_eq, st_ne, W.eq, W.eqs, W.pl, W.pls, W.dep, W.deps, ← e2, c1, hrow, hjl]
    · have e2' : ¬ (j : Int) = b.length := by omega
      have il : i < a.length := by omega
      have jl : j < b.length := by omega
      have s1 : a[i]? = some a[i] := List.getElem?_eq_getElem il
      have s2 : b[j]? = some b[j] := List.getElem?_eq_getElem jl
      have c2 := hC (i + 1) (by omega)
      obtain ⟨r1, g1, v1⟩ := t.old (i + 1) (j + 1) (by omega) (by omega) (by omega)
      obtain ⟨r1', g1', v2⟩ := t.old (i + 1) j (by omega) (by omega) (by omega)
      rw [g1] at g1'
      cases g1'
      obtain ⟨r3, g3, v3⟩ := t.new (j + 1) (by omega) (by omega)
      rw [hrow] at g3
      cases g3
      rw [drop_cons il, drop_cons jl]
      by_cases e : a[i] = b[j]
      · rw [e, dist_eq]
        simp [ev, evs, evT, evO, evC, evI, asgT, asgTs, evH, pickH, ex, exB, runD, look, seqOf, isKds, isKd, szOk, bnd_ok, bnd_exc, noX_ok, wipe, st_mkt, st_mkf, st_addi, st_adds, st_addt, st_auI, st_auS, st_sub, st_mul, st_fdiv, st_mod, st_pow, st_cat, st_repl, st_reps, st_lt, st_le, st_gt, st_ge, st_eqi, st_nei, st_eqs, st_nes, st_idxL, st_idxS, st_idxT, st_idxs, at_n, at_0, at_1, at_2, at_m1, st_slcL, st_slcT, st_slcs, cut_nn, cut_n, cut_from, cut_1, cut_to1, st_lens, st_lenL, st_lenS, st_lenT, st_inti, st_intb, st_min2, st_max2, st_sumL, st_allL, st_anyL, st_tupL, st_tupT, st_joinL, st_rcvj, st_sh, st_idxr, st_lenr, st_tupr, st_appr, st_rcvr, st_joinr, st_setr, mulOk_fm, mulOk_r, mulOk_l, st_eq, st_ne, W.eq, W.eqs, W.pl, W.pls, W.dep, W.deps, b7_0, h1, h2, e1', e2', c1, hrow, hjl, s1, s2, e, at_s, c2, g1, v1]
      · rw [dist_ne e, ← drop_cons il, ← drop_cons jl]
        simp [ev, evs, evT, evO, evC, evI, asgT, asgTs, evH, pickH, ex, exB, runD, look, seqOf, isKds, isKd, szOk, bnd_ok, bnd_exc, noX_ok, wipe, st_mkt, st_mkf, st_addi, st_adds, st_addt, st_auI, st_auS, st_sub, st_mul, st_fdiv, st_mod, st_pow, st_cat, st_repl, st_reps, st_lt, st_le, st_gt, st_ge, st_eqi, st_nei, st_eqs, st_nes, st_idxL, st_idxS, st_idxT, st_idxs, at_n, at_0, at_1, at_2, at_m1, st_slcL, st_slcT, st_slcs, cut_nn, cut_n, cut_from, cut_1, cut_to1, st_lens, st_lenL, st_lenS, st_lenT, st_inti, st_intb, st_min2, st_max2, st_sumL, st_allL, st_anyL, st_tupL, st_tupT, st_joinL, st_rcvj, st_sh, st_idxr, st_lenr, st_tupr, st_appr, st_rcvr, st_joinr, st_setr, mulOk_fm, mulOk_r, mulOk_l, st_eq, st_ne, W.eq, W.eqs, W.pl, W.pls, W.dep, W.deps, b7_0, h1, h2, e1', e2', c1, hrow, hjl, s1, s2, e, at_s, c2, g1, v2, v3]
        congr 3
        generalize dist (List.drop (i + 1) a) (List.drop j b) = x
        generalize dist (List.drop i a) (List.drop (j + 1) b) = y
        split
        · congr 1
          omega
        · congr 1
          omega
/-! the loops -/
abbrev aj (n : Nat) : W → Sl → List O → Res Sl := fun w sw G => asgT (cl n) gk (.nm 4) w sw G
abbrev ai (n : Nat) : W → Sl → List O → Res Sl := fun w sw G => asgT (cl n) gk (.nm 3) w sw G
theorem row7 (n : Nat) (a b : List Nat) (ha : a.length ≤ 1000) (hb : b.length ≤ 1000) (refs : List W) (hC : ∀ i, i ≤ a.length → refs[i]? = some (.ref i)) (i : Nat) (hi : i ≤ a.length) (y : Option W) (G : List O) (t : Tab a b i (b.length + 1) G) :
    ∃ G' y', exB (cl n) gk wf b7_1 [some (.str a), some (.str b), some (.lst refs), some (.int i), y] G = .ok (.nx [some (.str a), some (.str b), some (.lst refs), some (.int i), y']) G' ∧ Tab a b i 0 G' := by
  have h2 : b.length ≤ 16777216 := by omega
  have hsm : small (b.length : Int) = true := small_nat _ (by omega)
  obtain ⟨sw', G', e, hst⟩ := forL_at (asg := aj n) (body := fun sw G => exB (cl n) gk wf b7_0 sw G) (s := ⟨rng3L (b.length : Int) (-1) (-1), none⟩) ((List.range (b.length + 1)).map fun (k : Nat) => W.int ((b.length : Int) - (k : Int)))
    (fun k sw G => (∃ y, sw = [some (.str a), some (.str b), some (.lst refs), some (.int i), y]) ∧ Tab a b i (b.length + 1 - k) G) [some (.str a), some (.str b), some (.lst refs), some (.int i), y] G ⟨⟨_, rfl⟩, t⟩ (fun _ _ _ _ _ => rfl) (fun k x sw G hx ⟨⟨y, hsw⟩, ht⟩ => by
      subst hsw
      obtain ⟨hk, rfl⟩ := dn_get hx
      have e : b.length + 1 - k = (b.length - k) + 1 := by omega
      rw [e] at ht
      obtain ⟨G', e1, t1⟩ := s7 n a b ha hb refs hC i (b.length - k) hi (by omega) G ht
      exact ⟨[some (.str a), some (.str b), some (.lst refs), some (.int i), some (.int ((b.length - k : Nat) : Int))], G, _, G', by simp [ev, evs, evT, evO, evC, evI, asgT, asgTs, evH, pickH, ex, exB, runD, look, seqOf, isKds, isKd, szOk, bnd_ok, bnd_exc, noX_ok, wipe, st_mkt, st_mkf, st_addi, st_adds, st_addt, st_auI, st_auS, st_sub, st_mul, st_fdiv, st_mod, st_pow, st_cat, st_repl, st_reps, st_lt, st_le, st_gt, st_ge, st_eqi, st_nei, st_eqs, st_nes, st_idxL, st_idxS, st_idxT, st_idxs, at_n, at_0, at_1, at_2, at_m1, st_slcL, st_slcT, st_slcs, cut_nn, cut_n, cut_from, cut_1, cut_to1, st_lens, st_lenL, st_lenS, st_lenT, st_inti, st_intb, st_min2, st_max2, st_sumL, st_allL, st_anyL, st_tupL, st_tupT, st_joinL, st_rcvj, st_sh, st_idxr, st_lenr, st_tupr, st_appr, st_rcvr, st_joinr, st_setr, mulOk_fm, mulOk_r, mulOk_l, st_eq, st_ne, W.eq, W.eqs, W.pl, W.pls, W.dep, W.deps, aj], .inl e1, ⟨_, rfl⟩, by
        have e : b.length + 1 - (k + 1) = b.length - k := by omega
        rw [e]
        exact t1⟩)
  obtain ⟨⟨y', rfl⟩, ht⟩ := hst
  refine ⟨G', y', ?_, by simpa using ht⟩
  delta aj at e
  rw [← dn] at e
  simp [ev, evs, evT, evO, evC, evI, asgT, asgTs, evH, pickH, ex, exB, runD, look, seqOf, isKds, isKd, szOk, bnd_ok, bnd_exc, noX_ok, wipe, st_mkt, st_mkf, st_addi, st_adds, st_addt, st_auI, st_auS, st_sub, st_mul, st_fdiv, st_mod, st_pow, st_cat, st_repl, st_reps, st_lt, st_le, st_gt, st_ge, st_eqi, st_nei, st_eqs, st_nes, st_idxL, st_idxS, st_idxT, st_idxs, at_n, at_0, at_1, at_2, at_m1, st_slcL, st_slcT, st_slcs, cut_nn, cut_n, cut_from, cut_1, cut_to1, st_lens, st_lenL, st_lenS, st_lenT, st_inti, st_intb, st_min2, st_max2, st_sumL, st_allL, st_anyL, st_tupL, st_tupT, st_joinL, st_rcvj, st_sh, st_idxr, st_lenr, st_tupr, st_appr, st_rcvr, st_joinr, st_setr, mulOk_fm, mulOk_r, mulOk_l, st_eq, st_ne, W.eq, W.eqs, W.pl, W.pls, W.dep, W.deps] at e
  simp [ev, evs, evT, evO, evC, evI, asgT, asgTs, evH, pickH, ex, exB, runD, look, seqOf, isKds, isKd, szOk, bnd_ok, bnd_exc, noX_ok, wipe, st_mkt, st_mkf, st_addi, st_adds, st_addt, st_auI, st_auS, st_sub, st_mul, st_fdiv, st_mod, st_pow, st_cat, st_repl, st_reps, st_lt, st_le, st_gt, st_ge, st_eqi, st_nei, st_eqs, st_nes, st_idxL, st_idxS, st_idxT, st_idxs, at_n, at_0, at_1, at_2, at_m1, st_slcL, st_slcT, st_slcs, cut_nn, cut_n, cut_from, cut_1, cut_to1, st_lens, st_lenL, st_lenS, st_lenT, st_inti, st_intb, st_min2, st_max2, st_sumL, st_allL, st_anyL, st_tupL, st_tupT, st_joinL, st_rcvj, st_sh, st_idxr, st_lenr, st_tupr, st_appr, st_rcvr, st_joinr, st_setr, mulOk_fm, mulOk_r, mulOk_l, st_eq, st_ne, W.eq, W.eqs, W.pl, W.pls, W.dep, W.deps, b7_1, h2, hsm, e, small_m1]
theorem all7 (n : Nat) (a b : List Nat) (ha : a.length ≤ 1000) (hb : b.length ≤ 1000) (refs : List W) (hC : ∀ i, i ≤ a.length → refs[i]? = some (.ref i)) (x y : Option W) (G : List O) (hG : G.length = a.length + 1) (hr : ∀ i', i' ≤ a.length → ∃ row, G[i']? = some (.lst row) ∧ row.length = b.length + 1) :
    ∃ G' sw', forL (ai n) (fun sw G => exB (cl n) gk wf b7_1 sw G) ⟨rng3L (a.length : Int) (-1) (-1), none⟩ (rng3L (a.length : Int) (-1) (-1)) [some (.str a), some (.str b), some (.lst refs), x, y] G = .ok (.nx sw') G' ∧ sw'[2]? = some (some (.lst refs)) ∧ Tab a b 0 0 G' := by
  obtain ⟨sw', G', e, hst⟩ := forL_at (asg := ai n) (body := fun sw G => exB (cl n) gk wf b7_1 sw G) (s := ⟨rng3L (a.length : Int) (-1) (-1), none⟩) ((List.range (a.length + 1)).map fun (k : Nat) => W.int ((a.length : Int) - (k : Int)))
    (fun k sw G => (∃ x y, sw = [some (.str a), some (.str b), some (.lst refs), x, y]) ∧ (k = 0 → G.length = a.length + 1 ∧ ∀ i', i' ≤ a.length → ∃ row, G[i']? = some (.lst row) ∧ row.length = b.length + 1) ∧ (0 < k → Tab a b (a.length + 1 - k) 0 G)) [some (.str a), some (.str b), some (.lst refs), x, y] G ⟨⟨_, _, rfl⟩, fun _ => ⟨hG, hr⟩, fun z => absurd z (Nat.lt_irrefl 0)⟩ (fun _ _ _ _ _ => rfl) (fun k w sw G hx ⟨⟨x, y, hsw⟩, h0, h1⟩ => by
      subst hsw
      obtain ⟨hk, rfl⟩ := dn_get hx
      have t : Tab a b (a.length - k) (b.length + 1) G := by
        rcases Nat.eq_zero_or_pos k with z | z
        · obtain ⟨q1, q2⟩ := h0 z
          subst z
          exact ⟨q1, q2, fun i' j' p1 p2 _ => by omega, fun j' p1 p2 => by omega⟩
        · have q := h1 z
          have e : a.length + 1 - k = (a.length - k) + 1 := by omega
          rw [e] at q
          refine ⟨q.len, q.row, fun i' j' p1 p2 p3 => ?_, fun j' p1 p2 => by omega⟩
          by_cases z2 : i' = a.length - k + 1
          · rw [z2]
            exact q.new j' (Nat.zero_le _) p3
          · exact q.old i' j' (by omega) p2 p3
      obtain ⟨G', y', e1, t1⟩ := row7 n a b ha hb refs hC (a.length - k) (by omega) y G t
      exact ⟨[some (.str a), some (.str b), some (.lst refs), some (.int ((a.length - k : Nat) : Int)), y], G, _, G', by simp [ev, evs, evT, evO, evC, evI, asgT, asgTs, evH, pickH, ex, exB, runD, look, seqOf, isKds, isKd, szOk, bnd_ok, bnd_exc, noX_ok, wipe, st_mkt, st_mkf, st_addi, st_adds, st_addt, st_auI, st_auS, st_sub, st_mul, st_fdiv, st_mod, st_pow, st_cat, st_repl, st_reps, st_lt, st_le, st_gt, st_ge, st_eqi, st_nei, st_eqs, st_nes, st_idxL, st_idxS, st_idxT, st_idxs, at_n, at_0, at_1, at_2, at_m1, st_slcL, st_slcT, st_slcs, cut_nn, cut_n, cut_from, cut_1, cut_to1, st_lens, st_lenL, st_lenS, st_lenT, st_inti, st_intb, st_min2, st_max2, st_sumL, st_allL, st_anyL, st_tupL, st_tupT, st_joinL, st_rcvj, st_sh, st_idxr, st_lenr, st_tupr, st_appr, st_rcvr, st_joinr, st_setr, mulOk_fm, mulOk_r, mulOk_l, st_eq, st_ne, W.eq, W.eqs, W.pl, W.pls, W.dep, W.deps, ai], .inl e1, ⟨_, _, rfl⟩, fun z => by omega, fun _ => by
        have e : a.length + 1 - (k + 1) = a.length - k := by omega
        rw [e]
        exact t1⟩)
  obtain ⟨⟨x', y', rfl⟩, _, ht⟩ := hst
  rw [← dn] at e
  refine ⟨G', _, e, rfl, ?_⟩
  have := ht (by simp)
  simpa using this
/-- the table, read off -/
def rowd (a b : List Nat) (i : Nat) : List W := (List.range (b.length + 1)).map fun j => .int (dist (a.drop i) (b.drop j) : Nat)
def tbl (a b : List Nat) : List W := (List.range (a.length + 1)).map fun i => .lst (rowd a b i)
theorem Tab.at_ {a b : List Nat} {G : List O} (t : Tab a b 0 0 G) (i : Nat) (hi : i ≤ a.length) : G[i]? = some (.lst (rowd a b i)) := by
  obtain ⟨row, h, hl⟩ := t.row i hi
  rw [h]
  congr 2
  apply List.ext_getElem?
  intro j
  by_cases hj : j ≤ b.length
  · have hc : cell G i j (dist (a.drop i) (b.drop j)) := by
      rcases Nat.eq_zero_or_pos i with z | z
      · rw [z]
        exact t.new j (Nat.zero_le _) hj
      · exact t.old i j z hi hj
    obtain ⟨row2, h2, e⟩ := hc
    rw [h] at h2
    cases h2
    rw [e]
    simp [rowd, List.getElem?_range (show j < b.length + 1 by omega)]
  · rw [List.getElem?_eq_none (by omega), List.getElem?_eq_none (by simp [rowd]; omega)]
theorem rowd_nr (a b : List Nat) (i : Nat) : W.nrs (rowd a b i) = true := by
  rw [W.nrs_all]
  simp [rowd, List.all_map, Function.comp_def, W.nr]
theorem frz_refs {G : List O} {r : Nat → List W} : ∀ is : List Nat, (∀ i ∈ is, G[i]? = some (.lst (r i)) ∧ W.nrs (r i) = true) → frzs G (is.map W.ref) = some (is.map fun i => .lst (r i))
  | [], _ => rfl
  | i :: is, h => by
    obtain ⟨h1, h2⟩ := h i List.mem_cons_self
    have ih := frz_refs is fun j hj => h j (List.mem_cons_of_mem _ hj)
    simp only [List.map_cons, frzs, frz, h1, h2, if_true, ih]
theorem t7 (n : Nat) (a b : List Nat) (ha : a.length ≤ 1000) (hb : b.length ≤ 1000) (G : List O) : callW (cl (n + 1)) .iso 7 [.str a, .str b] G = .ok (.lst (tbl a b)) G := by
  have h1 : a.length ≤ 16777216 := by omega
  have h2 : b.length ≤ 16777216 := by omega
  have h3 : ((b.length : Int) + 1).toNat = b.length + 1 := by omega
  have h4 : (0 : Int) ≤ (b.length : Int) + 1 := by omega
  have h5 : b.length + 1 ≤ 16777216 := by omega
  have hfl : (List.replicate (b.length + 1) [W.int 0]).flatten = List.replicate (b.length + 1) (.int 0) := by simp
  have hr : rngL 0 ((a.length : Int) + 1) = (List.range (a.length + 1)).map fun (k : Nat) => W.int (0 + (k : Int)) := by
    unfold rngL
    have : ((a.length : Int) + 1 - 0).toNat = a.length + 1 := by omega
    rw [this]
  obtain ⟨ys, G1, el, hst, hlen⟩ := lcL_rel (asg := fun x G => asgT (cl n) gk (.nm 3) x [some (.str a), some (.str b), none, none, none] G) (cd := fun sw1 G => evC (cl n) gk .no sw1 G) (e := fun sw1 G => ev (cl n) gk e7_2 sw1 G) (s := ⟨rngL 0 ((a.length : Int) + 1), none⟩)
    (fun acc G => acc = (List.range G.length).map W.ref ∧ (∀ i, i < G.length → G[i]? = some (.lst (List.replicate (b.length + 1) (.int 0)))) ∧ acc.length = G.length) (fun _ _ _ => rfl) (rngL 0 ((a.length : Int) + 1)) [] [] (by rw [hr]; simp; omega) ⟨rfl, fun i hi => by simp at hi, rfl⟩ (fun x acc G hx ⟨e1, e2, e3⟩ => by
      refine ⟨[some (.str a), some (.str b), none, some x, none], G, G, .ref G.length, G ++ [.lst (List.replicate (b.length + 1) (.int 0))], by simp [ev, evs, evT, evO, evC, evI, asgT, asgTs, evH, pickH, ex, exB, runD, look, seqOf, isKds, isKd, szOk, bnd_ok, bnd_exc, noX_ok, wipe, st_mkt, st_mkf, st_addi, st_adds, st_addt, st_auI, st_auS, st_sub, st_mul, st_fdiv, st_mod, st_pow, st_cat, st_repl, st_reps, st_lt, st_le, st_gt, st_ge, st_eqi, st_nei, st_eqs, st_nes, st_idxL, st_idxS, st_idxT, st_idxs, at_n, at_0, at_1, at_2, at_m1, st_slcL, st_slcT, st_slcs, cut_nn, cut_n, cut_from, cut_1, cut_to1, st_lens, st_lenL, st_lenS, st_lenT, st_inti, st_intb, st_min2, st_max2, st_sumL, st_allL, st_anyL, st_tupL, st_tupT, st_joinL, st_rcvj, st_sh, st_idxr, st_lenr, st_tupr, st_appr, st_rcvr, st_joinr, st_setr, mulOk_fm, mulOk_r, mulOk_l, st_eq, st_ne, W.eq, W.eqs, W.pl, W.pls, W.dep, W.deps], by simp [ev, evs, evT, evO, evC, evI, asgT, asgTs, evH, pickH, ex, exB, runD, look, seqOf, isKds, isKd, szOk, bnd_ok, bnd_exc, noX_ok, wipe, st_mkt, st_mkf, st_addi, st_adds, st_addt, st_auI, st_auS, st_sub, st_mul, st_fdiv, st_mod, st_pow, st_cat, st_repl, st_reps, st_lt, st_le, st_gt, st_ge, st_eqi, st_nei, st_eqs, st_nes, st_idxL, st_idxS, st_idxT, st_idxs, at_n, at_0, at_1, at_2, at_m1, st_slcL, st_slcT, st_slcs, cut_nn, cut_n, cut_from, cut_1, cut_to1, st_lens, st_lenL, st_lenS, st_lenT, st_inti, st_intb, st_min2, st_max2, st_sumL, st_allL, st_anyL, st_tupL, st_tupT, st_joinL, st_rcvj, st_sh, st_idxr, st_lenr, st_tupr, st_appr, st_rcvr, st_joinr, st_setr, mulOk_fm, mulOk_r, mulOk_l, st_eq, st_ne, W.eq, W.eqs, W.pl, W.pls, W.dep, W.deps], by simp [ev, evs, evT, evO, evC, evI, asgT, asgTs, evH, pickH, ex, exB, runD, look, seqOf, isKds, isKd, szOk, bnd_ok, bnd_exc, noX_ok, wipe, st_mkt, st_mkf, st_addi, st_adds, st_addt, st_auI, st_auS, st_sub, st_mul, st_fdiv, st_mod, st_pow, st_cat, st_repl, st_reps, st_lt, st_le, st_gt, st_ge, st_eqi, st_nei, st_eqs, st_nes, st_idxL, st_idxS, st_idxT, st_idxs, at_n, at_0, at_1, at_2, at_m1, st_slcL, st_slcT, st_slcs, cut_nn, cut_n, cut_from, cut_1, cut_to1, st_lens, st_lenL, st_lenS, st_lenT, st_inti, st_intb, st_min2, st_max2, st_sumL, st_allL, st_anyL, st_tupL, st_tupT, st_joinL, st_rcvj, st_sh, st_idxr, st_lenr, st_tupr, st_appr, st_rcvr, st_joinr, st_setr, mulOk_fm, mulOk_r, mulOk_l, st_eq, st_ne, W.eq, W.eqs, W.pl, W.pls, W.dep, W.deps, e7_2, h2, h3, h4, h5, hfl], ?_, fun i hi => ?_, by simp [e3]⟩
      · rw [e1, List.length_append, List.length_singleton, List.range_succ, List.map_append]
        rfl
      · by_cases z : i < G.length
        · rw [List.getElem?_append_left z]
          exact e2 i z
        · have : i = G.length := by
            rw [List.length_append, List.length_singleton] at hi
            omega
          subst this
          simp)
  have hG1 : G1.length = a.length + 1 := by
    rw [← hst.2.2, hlen, hr]
    simp
  have hys : ys = (List.range (a.length + 1)).map W.ref := by rw [hst.1, hG1]
  obtain ⟨G2, sw', ef, hsw, t⟩ := all7 n a b ha hb ys (fun i hi => by rw [hys]; simp [List.getElem?_range (show i < a.length + 1 by omega)]) none none G1 hG1 fun i' hi' => ⟨_, hst.2.1 i' (by omega), by simp⟩
  refine iso_ok rfl (G1 := G2) (w := .lst ys) ?_ ?_
  · have hsm : small ((a.length : Int) + 1) = true := by
      have := small_nat (a.length + 1) (by omega)
      simpa using this
    have hsm2 : small (a.length : Int) = true := small_nat _ (by omega)
    have hyl : ys.length ≤ 16777216 := by rw [hys]; simp; omega
    delta ai at ef
    rw [c7]
    simp [ev, evs, evT, evO, evC, evI, asgT, asgTs, evH, pickH, ex, exB, runD, look, seqOf, isKds, isKd, szOk, bnd_ok, bnd_exc, noX_ok, wipe, st_mkt, st_mkf, st_addi, st_adds, st_addt, st_auI, st_auS, st_sub, st_mul, st_fdiv, st_mod, st_pow, st_cat, st_repl, st_reps, st_lt, st_le, st_gt, st_ge, st_eqi, st_nei, st_eqs, st_nes, st_idxL, st_idxS, st_idxT, st_idxs, at_n, at_0, at_1, at_2, at_m1, st_slcL, st_slcT, st_slcs, cut_nn, cut_n, cut_from, cut_1, cut_to1, st_lens, st_lenL, st_lenS, st_lenT, st_inti, st_intb, st_min2, st_max2, st_sumL, st_allL, st_anyL, st_tupL, st_tupT, st_joinL, st_rcvj, st_sh, st_idxr, st_lenr, st_tupr, st_appr, st_rcvr, st_joinr, st_setr, mulOk_fm, mulOk_r, mulOk_l, st_eq, st_ne, W.eq, W.eqs, W.pl, W.pls, W.dep, W.deps] at el ef
    simp [ev, evs, evT, evO, evC, evI, asgT, asgTs, evH, pickH, ex, exB, runD, look, seqOf, isKds, isKd, szOk, bnd_ok, bnd_exc, noX_ok, wipe, st_mkt, st_mkf, st_addi, st_adds, st_addt, st_auI, st_auS, st_sub, st_mul, st_fdiv, st_mod, st_pow, st_cat, st_repl, st_reps, st_lt, st_le, st_gt, st_ge, st_eqi, st_nei, st_eqs, st_nes, st_idxL, st_idxS, st_idxT, st_idxs, at_n, at_0, at_1, at_2, at_m1, st_slcL, st_slcT, st_slcs, cut_nn, cut_n, cut_from, cut_1, cut_to1, st_lens, st_lenL, st_lenS, st_lenT, st_inti, st_intb, st_min2, st_max2, st_sumL, st_allL, st_anyL, st_tupL, st_tupT, st_joinL, st_rcvj, st_sh, st_idxr, st_lenr, st_tupr, st_appr, st_rcvr, st_joinr, st_setr, mulOk_fm, mulOk_r, mulOk_l, st_eq, st_ne, W.eq, W.eqs, W.pl, W.pls, W.dep, W.deps, d7, b7, h1, hsm, hsm2, small_m1, el, hyl, ef, hsw]
  · rw [hys]
    simp only [frz, frz_refs (r := rowd a b) (List.range (a.length + 1)) fun i hi => ⟨t.at_ i (by have := List.mem_range.mp hi; omega), rowd_nr a b i⟩]
    rfl
end K61
end

section
set_option linter.all false
set_option maxRecDepth 100000
set_option maxHeartbeats 4000000
/-! k61: the least edit. -/
namespace K61
open T2
theorem tbl_at (a b : List Nat) (i : Nat) (h : i ≤ a.length) : (tbl a b)[i]? = some (.lst (rowd a b i)) := by simp [tbl, List.getElem?_range (show i < a.length + 1 by omega)]
theorem rowd_at (a b : List Nat) (i j : Nat) (h : j ≤ b.length) : (rowd a b i)[j]? = some (.int (dist (a.drop i) (b.drop j) : Nat)) := by simp [rowd, List.getElem?_range (show j < b.length + 1 by omega)]
/-- the slots, the heap -/
def bp1 (B : List Bl) (k : List Nat) : Nat := (K61.one B ++ k).length
def bp2 (B : List Bl) (k : List Nat) : Nat := (K61.oth B ++ k).length
def beg : Sta → W
  | (_, _, none) => .non
  | (B, k, some _) => .tup [.int (bp1 B k), .int (bp2 B k)]
def sl8 (a b : List Nat) (s : Sta) : Sl := [some (.str a), some (.str b), some (.lst (tbl a b)), some (.ref 0), some (beg s), some (.int (s.one.length : Nat)), some (.int (s.oth.length : Nat))]
def g8 (s : Sta) : List O := [.lst ((eds 0 s.1).map enc)]
abbrev t8 (n : Nat) : Sl → List O → Res Bool := fun sw G => evT (cl n) gk b8_0t sw G
abbrev f8 (n : Nat) : Sl → List O → Res Fl := fun sw G => exB (cl n) gk wf b8_0 sw G
theorem eds_len2 (B : List Bl) : ((eds 0 B).map enc).length = B.length := by rw [List.length_map, eds_len]
theorem cut_mid (p g r : List Nat) : cutW (p ++ g ++ r) (some ((p.length : Nat) : Int)) (some (((p ++ g).length : Nat) : Int)) = g := by
  rw [cut_nn, List.append_assoc, List.drop_left, List.length_append, Nat.add_sub_cancel_left, List.take_left]
theorem cut_mid' {p g r t : List Nat} {i j : Nat} (h : t = p ++ g ++ r) (hi : i = p.length) (hj : j = (p ++ g).length) : cutW t (some (i : Int)) (some (j : Int)) = g := by
  rw [h, hi, hj]
  exact cut_mid p g r
theorem one_some (B : List Bl) (k g c : List Nat) : Sta.one (B, k, some (g, c)) = (K61.one B ++ k) ++ g := by simp [Sta.one, Sta.bl, Sta.tl, one_app, K61.one]
theorem oth_some (B : List Bl) (k g c : List Nat) : Sta.oth (B, k, some (g, c)) = (K61.oth B ++ k) ++ c := by simp [Sta.oth, Sta.bl, Sta.tl, oth_app, K61.oth]
theorem k8 (n : Nat) (a b : List Nat) (ha : a.length ≤ 400) (hb : b.length ≤ 400) (x : Nat) (as bs : List Nat) (s : Sta) (hB : s.1.length ≤ 1000) (e1 : a = s.one ++ x :: as) (e2 : b = s.oth ++ x :: bs) : f8 n (sl8 a b s) (g8 s) = .ok (.nx (sl8 a b (stp 0 x x s))) (g8 (stp 0 x x s)) := by
  have h1 : a.length ≤ 16777216 := by omega
  have h2 : b.length ≤ 16777216 := by omega
  have L1 : ((stp 0 x x s).one.length : Int) = s.one.length + 1 := by rw [stp_one]; simp
  have L2 : ((stp 0 x x s).oth.length : Int) = s.oth.length + 1 := by rw [stp_oth]; simp
  have il : s.one.length < a.length := by rw [e1]; simp
  have jl : s.oth.length < b.length := by rw [e2]; simp
  have s1 : a[s.one.length]? = some x := by rw [e1]; simp
  have s2 : b[s.oth.length]? = some x := by rw [e2]; simp
  have s1' : a[s.one.length] = x := by rw [List.getElem?_eq_getElem il] at s1; exact Option.some.inj s1
  have s2' : b[s.oth.length] = x := by rw [List.getElem?_eq_getElem jl] at s2; exact Option.some.inj s2
  simp only [sl8, L1, L2]
  generalize hi : s.one.length = i at *
  generalize hj : s.oth.length = j at *
  clear L1 L2
  obtain ⟨B, k, o⟩ := s
  cases o with
  | none => simp [ev, evs, evT, evO, evC, evI, asgT, asgTs, evH, pickH, ex, exB, runD, look, seqOf, isKds, isKd, szOk, bnd_ok, bnd_exc, noX_ok, wipe, st_mkt, st_mkf, st_addi, st_adds, st_addt, st_auI, st_auS, st_sub, st_mul, st_fdiv, st_mod, st_pow, st_cat, st_repl, st_reps, st_lt, st_le, st_gt, st_ge, st_eqi, st_nei, st_eqs, st_nes, st_idxL, st_idxS, st_idxT, st_idxs, at_n, at_0, at_1, at_2, at_m1, st_slcL, st_slcT, st_slcs, cut_nn, cut_n, cut_from, cut_1, cut_to1, st_lens, st_lenL, st_lenS, st_lenT, st_inti, st_intb, st_min2, st_max2, st_sumL, st_allL, st_anyL, st_tupL, st_tupT, st_joinL, st_rcvj, st_sh, st_idxr, st_lenr, st_tupr, st_appr, st_rcvr, st_joinr, st_setr, mulOk_fm, mulOk_r, mulOk_l, st_eq, st_ne, W.eq, W.eqs, W.pl, W.pls, W.dep, W.deps, f8, b8_0, h1, h2, il, jl, s1', s2', g8, stp, beg]
  | some p =>
    obtain ⟨g, c⟩ := p
    have hB' : B.length < 16777216 := by have : B.length ≤ 1000 := hB; omega
    have q1 : cutW a (some ((bp1 B k : Nat) : Int)) (some (i : Int)) = g := cut_mid' (e1.trans (by rw [one_some])) rfl (by rw [← hi, one_some])
    have q2 : cutW b (some ((bp2 B k : Nat) : Int)) (some (j : Int)) = c := cut_mid' (e2.trans (by rw [oth_some])) rfl (by rw [← hj, oth_some])
    have q3 : eds 0 (B ++ [(k, g, c)]) = eds 0 B ++ [(bp1 B k, g, c)] := by
      rw [eds_app]
      simp [eds, bp1]
    simp only [beg, g8, stp]
    generalize bp1 B k = p at *
    generalize bp2 B k = r at *
    have hE : (eds 0 B).length = B.length := eds_len B 0
    simp only [cut_nn] at q1 q2
    simp [ev, evs, evT, evO, evC, evI, asgT, asgTs, evH, pickH, ex, exB, runD, look, seqOf, isKds, isKd, szOk, bnd_ok, bnd_exc, noX_ok, wipe, st_mkt, st_mkf, st_addi, st_adds, st_addt, st_auI, st_auS, st_sub, st_mul, st_fdiv, st_mod, st_pow, st_cat, st_repl, st_reps, st_lt, st_le, st_gt, st_ge, st_eqi, st_nei, st_eqs, st_nes, st_idxL, st_idxS, st_idxT, st_idxs, at_n, at_0, at_1, at_2, at_m1, st_slcL, st_slcT, st_slcs, cut_nn, cut_n, cut_from, cut_1, cut_to1, st_lens, st_lenL, st_lenS, st_lenT, st_inti, st_intb, st_min2, st_max2, st_sumL, st_allL, st_anyL, st_tupL, st_tupT, st_joinL, st_rcvj, st_sh, st_idxr, st_lenr, st_tupr, st_appr, st_rcvr, st_joinr, st_setr, mulOk_fm, mulOk_r, mulOk_l, st_eq, st_ne, W.eq, W.eqs, W.pl, W.pls, W.dep, W.deps, f8, b8_0, h1, h2, il, jl, s1', s2', g8, stp, beg, q3, enc, hB', hE, q1, q2]
theorem dl8 (n : Nat) (a b : List Nat) (ha : a.length ≤ 400) (hb : b.length ≤ 400) (x z : Nat) (as bs : List Nat) (s : Sta) (e1 : a = s.one ++ x :: as) (e2 : b = s.oth ++ bs) (hne : ∀ y r, bs = y :: r → x ≠ y) (hd : dist (x :: as) bs = 1 + dist as bs) : f8 n (sl8 a b s) (g8 s) = .ok (.nx (sl8 a b (stp 1 x z s))) (g8 (stp 1 x z s)) := by
  have h1 : a.length ≤ 16777216 := by omega
  have h2 : b.length ≤ 16777216 := by omega
  have L1 : ((stp 1 x z s).one.length : Int) = s.one.length + 1 := by rw [stp_one]; simp
  have L2 : ((stp 1 x z s).oth.length : Int) = s.oth.length := by rw [stp_oth]; simp
  have il : s.one.length < a.length := by rw [e1]; simp
  have jl : s.oth.length ≤ b.length := by rw [e2]; simp
  have s1 : a[s.one.length]? = some x := by rw [e1]; simp
  have s1' : a[s.one.length] = x := by rw [List.getElem?_eq_getElem il] at s1; exact Option.some.inj s1
  have da : a.drop s.one.length = x :: as := by rw [e1, List.drop_left]
  have da' : a.drop (s.one.length + 1) = as := by rw [← List.drop_drop, da]; rfl
  have db : b.drop s.oth.length = bs := by rw [e2, List.drop_left]
  have k1 := tbl_at a b s.one.length (by omega)
  have k2 := tbl_at a b (s.one.length + 1) (by omega)
  have r1 := rowd_at a b s.one.length s.oth.length jl
  have r2 := rowd_at a b (s.one.length + 1) s.oth.length jl
  rw [da, db, hd] at r1
  rw [da', db] at r2
  have hdd : ((1 + dist as bs : Nat) : Int) = 1 + (dist as bs : Int) := by omega
  rw [hdd] at r1
  have hc : ∀ G, evT (cl n) gk (.and (.cmp .lt (.v 5) (.blt .len (.cons (.v 0) .nil))) (.and (.cmp .lt (.v 6) (.blt .len (.cons (.v 1) .nil))) (.cmp .eq (.idx (.v 0) (.v 5)) (.idx (.v 1) (.v 6))))) (sl8 a b s) G = .ok false G := fun G => by
    cases bs with
    | nil =>
      have : ¬ s.oth.length < b.length := by rw [e2]; simp
      simp [ev, evs, evT, evO, evC, evI, asgT, asgTs, evH, pickH, ex, exB, runD, look, seqOf, isKds, isKd, szOk, bnd_ok, bnd_exc, noX_ok, wipe, st_mkt, st_mkf, st_addi, st_adds, st_addt, st_auI, st_auS, st_sub, st_mul, st_fdiv, st_mod, st_pow, st_cat, st_repl, st_reps, st_lt, st_le, st_gt, st_ge, st_eqi, st_nei, st_eqs, st_nes, st_idxL, st_idxS, st_idxT, st_idxs, at_n, at_0, at_1, at_2, at_m1, st_slcL, st_slcT, st_slcs, cut_nn, cut_n, cut_from, cut_1, cut_to1, st_lens, st_lenL, st_lenS, st_lenT, st_inti, st_intb, st_min2, st_max2, st_sumL, st_allL, st_anyL, st_tupL, st_tupT, st_joinL, st_rcvj, st_sh, st_idxr, st_lenr, st_tupr, st_appr, st_rcvr, st_joinr, st_setr, mulOk_fm, mulOk_r, mulOk_l, st_eq, st_ne, W.eq, W.eqs, W.pl, W.pls, W.dep, W.deps, sl8, h1, h2, il, this]
    | cons y r =>
      have jl' : s.oth.length < b.length := by rw [e2]; simp
      have s2 : b[s.oth.length]? = some y := by rw [e2]; simp
      have s2' : b[s.oth.length] = y := by rw [List.getElem?_eq_getElem jl'] at s2; exact Option.some.inj s2
      have := hne y r rfl
      simp [ev, evs, evT, evO, evC, evI, asgT, asgTs, evH, pickH, ex, exB, runD, look, seqOf, isKds, isKd, szOk, bnd_ok, bnd_exc, noX_ok, wipe, st_mkt, st_mkf, st_addi, st_adds, st_addt, st_auI, st_auS, st_sub, st_mul, st_fdiv, st_mod, st_pow, st_cat, st_repl, st_reps, st_lt, st_le, st_gt, st_ge, st_eqi, st_nei, st_eqs, st_nes, st_idxL, st_idxS, st_idxT, st_idxs, at_n, at_0, at_1, at_2, at_m1, st_slcL, st_slcT, st_slcs, cut_nn, cut_n, cut_from, cut_1, cut_to1, st_lens, st_lenL, st_lenS, st_lenT, st_inti, st_intb, st_min2, st_max2, st_sumL, st_allL, st_anyL, st_tupL, st_tupT, st_joinL, st_rcvj, st_sh, st_idxr, st_lenr, st_tupr, st_appr, st_rcvr, st_joinr, st_setr, mulOk_fm, mulOk_r, mulOk_l, st_eq, st_ne, W.eq, W.eqs, W.pl, W.pls, W.dep, W.deps, sl8, h1, h2, il, jl', s1', s2', this]
  have hc := hc (g8 s)
  simp only [f8, b8_0, exB, ex]
  rw [hc]
  simp only [sl8, L1, L2]
  generalize hi : s.one.length = i at *
  generalize hj : s.oth.length = j at *
  clear L1 L2 hc
  obtain ⟨B, k, o⟩ := s
  cases o with
  | none =>
    have e3 : bp1 B k = i := by rw [← hi]; simp [bp1, Sta.one, Sta.bl, Sta.tl]
    have e4 : bp2 B k = j := by rw [← hj]; simp [bp2, Sta.oth, Sta.bl, Sta.tl]
    simp [ev, evs, evT, evO, evC, evI, asgT, asgTs, evH, pickH, ex, exB, runD, look, seqOf, isKds, isKd, szOk, bnd_ok, bnd_exc, noX_ok, wipe, st_mkt, st_mkf, st_addi, st_adds, st_addt, st_auI, st_auS, st_sub, st_mul, st_fdiv, st_mod, st_pow, st_cat, st_repl, st_reps, st_lt, st_le, st_gt, st_ge, st_eqi, st_nei, st_eqs, st_nes, st_idxL, st_idxS, st_idxT, st_idxs, at_n, at_0, at_1, at_2, at_m1, st_slcL, st_slcT, st_slcs, cut_nn, cut_n, cut_from, cut_1, cut_to1, st_lens, st_lenL, st_lenS, st_lenT, st_inti, st_intb, st_min2, st_max2, st_sumL, st_allL, st_anyL, st_tupL, st_tupT, st_joinL, st_rcvj, st_sh, st_idxr, st_lenr, st_tupr, st_appr, st_rcvr, st_joinr, st_setr, mulOk_fm, mulOk_r, mulOk_l, st_eq, st_ne, W.eq, W.eqs, W.pl, W.pls, W.dep, W.deps, h1, h2, il, g8, stp, beg, e3, e4, k1, at_s, k2, r1, r2]
  | some p =>
    obtain ⟨g, c⟩ := p
    simp [ev, evs, evT, evO, evC, evI, asgT, asgTs, evH, pickH, ex, exB, runD, look, seqOf, isKds, isKd, szOk, bnd_ok, bnd_exc, noX_ok, wipe, st_mkt, st_mkf, st_addi, st_adds, st_addt, st_auI, st_auS, st_sub, st_mul, st_fdiv, st_mod, st_pow, st_cat, st_repl, st_reps, st_lt, st_le, st_gt, st_ge, st_eqi, st_nei, st_eqs, st_nes, st_idxL, st_idxS, st_idxT, st_idxs, at_n, at_0, at_1, at_2, at_m1, st_slcL, st_slcT, st_slcs, cut_nn, cut_n, cut_from, cut_1, cut_to1, st_lens, st_lenL, st_lenS, st_lenT, st_inti, st_intb, st_min2, st_max2, st_sumL, st_allL, st_anyL, st_tupL, st_tupT, st_joinL, st_rcvj, st_sh, st_idxr, st_lenr, st_tupr, st_appr, st_rcvr, st_joinr, st_setr, mulOk_fm, mulOk_r, mulOk_l, st_eq, st_ne, W.eq, W.eqs, W.pl, W.pls, W.dep, W.deps, h1, h2, il, g8, stp, beg, k1, at_s, k2, r1, r2]
theorem in8 (n : Nat) (a b : List Nat) (ha : a.length ≤ 400) (hb : b.length ≤ 400) (y z : Nat) (as bs : List Nat) (s : Sta) (e1 : a = s.one ++ as) (e2 : b = s.oth ++ y :: bs) (hd : ∀ x r, as = x :: r → x ≠ y ∧ dist (x :: r) (y :: bs) ≠ 1 + dist r (y :: bs)) : f8 n (sl8 a b s) (g8 s) = .ok (.nx (sl8 a b (stp 2 z y s))) (g8 (stp 2 z y s)) := by
  have h1 : a.length ≤ 16777216 := by omega
  have h2 : b.length ≤ 16777216 := by omega
  have L1 : ((stp 2 z y s).one.length : Int) = s.one.length := by rw [stp_one]; simp
  have L2 : ((stp 2 z y s).oth.length : Int) = s.oth.length + 1 := by rw [stp_oth]; simp
  have jl : s.oth.length < b.length := by rw [e2]; simp
  have s2 : b[s.oth.length]? = some y := by rw [e2]; simp
  have s2' : b[s.oth.length] = y := by rw [List.getElem?_eq_getElem jl] at s2; exact Option.some.inj s2
  have db : b.drop s.oth.length = y :: bs := by rw [e2, List.drop_left]
  simp only [sl8, L1, L2]
  clear L1 L2
  cases as with
  | nil =>
    have il : ¬ s.one.length < a.length := by rw [e1]; simp
    generalize hi : s.one.length = i at *
    generalize hj : s.oth.length = j at *
    obtain ⟨B, k, o⟩ := s
    cases o with
    | none =>
      have e3 : bp1 B k = i := by rw [← hi]; simp [bp1, Sta.one, Sta.bl, Sta.tl]
      have e4 : bp2 B k = j := by rw [← hj]; simp [bp2, Sta.oth, Sta.bl, Sta.tl]
      simp [ev, evs, evT, evO, evC, evI, asgT, asgTs, evH, pickH, ex, exB, runD, look, seqOf, isKds, isKd, szOk, bnd_ok, bnd_exc, noX_ok, wipe, st_mkt, st_mkf, st_addi, st_adds, st_addt, st_auI, st_auS, st_sub, st_mul, st_fdiv, st_mod, st_pow, st_cat, st_repl, st_reps, st_lt, st_le, st_gt, st_ge, st_eqi, st_nei, st_eqs, st_nes, st_idxL, st_idxS, st_idxT, st_idxs, at_n, at_0, at_1, at_2, at_m1, st_slcL, st_slcT, st_slcs, cut_nn, cut_n, cut_from, cut_1, cut_to1, st_lens, st_lenL, st_lenS, st_lenT, st_inti, st_intb, st_min2, st_max2, st_sumL, st_allL, st_anyL, st_tupL, st_tupT, st_joinL, st_rcvj, st_sh, st_idxr, st_lenr, st_tupr, st_appr, st_rcvr, st_joinr, st_setr, mulOk_fm, mulOk_r, mulOk_l, st_eq, st_ne, W.eq, W.eqs, W.pl, W.pls, W.dep, W.deps, f8, b8_0, h1, h2, il, g8, stp, beg, e3, e4]
    | some p =>
      obtain ⟨g, c⟩ := p
      simp [ev, evs, evT, evO, evC, evI, asgT, asgTs, evH, pickH, ex, exB, runD, look, seqOf, isKds, isKd, szOk, bnd_ok, bnd_exc, noX_ok, wipe, st_mkt, st_mkf, st_addi, st_adds, st_addt, st_auI, st_auS, st_sub, st_mul, st_fdiv, st_mod, st_pow, st_cat, st_repl, st_reps, st_lt, st_le, st_gt, st_ge, st_eqi, st_nei, st_eqs, st_nes, st_idxL, st_idxS, st_idxT, st_idxs, at_n, at_0, at_1, at_2, at_m1, st_slcL, st_slcT, st_slcs, cut_nn, cut_n, cut_from, cut_1, cut_to1, st_lens, st_lenL, st_lenS, st_lenT, st_inti, st_intb, st_min2, st_max2, st_sumL, st_allL, st_anyL, st_tupL, st_tupT, st_joinL, st_rcvj, st_sh, st_idxr, st_lenr, st_tupr, st_appr, st_rcvr, st_joinr, st_setr, mulOk_fm, mulOk_r, mulOk_l, st_eq, st_ne, W.eq, W.eqs, W.pl, W.pls, W.dep, W.deps, f8, b8_0, h1, h2, il, g8, stp, beg]
  | cons x r =>
    have il : s.one.length < a.length := by rw [e1]; simp
    have s1 : a[s.one.length]? = some x := by rw [e1]; simp
    have s1' : a[s.one.length] = x := by rw [List.getElem?_eq_getElem il] at s1; exact Option.some.inj s1
    have da : a.drop s.one.length = x :: r := by rw [e1, List.drop_left]
    have da' : a.drop (s.one.length + 1) = r := by rw [← List.drop_drop, da]; rfl
    have k1 := tbl_at a b s.one.length (by omega)
    have k2 := tbl_at a b (s.one.length + 1) (by omega)
    have r1 := rowd_at a b s.one.length s.oth.length (by omega)
    have r2 := rowd_at a b (s.one.length + 1) s.oth.length (by omega)
    rw [da, db] at r1
    rw [da', db] at r2
    have hxy := (hd x r rfl).1
    have hq : ¬ (dist (x :: r) (y :: bs) : Int) = 1 + (dist r (y :: bs) : Int) := by have := (hd x r rfl).2; omega
    generalize hi : s.one.length = i at *
    generalize hj : s.oth.length = j at *
    obtain ⟨B, k, o⟩ := s
    cases o with
    | none =>
      have e3 : bp1 B k = i := by rw [← hi]; simp [bp1, Sta.one, Sta.bl, Sta.tl]
      have e4 : bp2 B k = j := by rw [← hj]; simp [bp2, Sta.oth, Sta.bl, Sta.tl]
      simp [ev, evs, evT, evO, evC, evI, asgT, asgTs, evH, pickH, ex, exB, runD, look, seqOf, isKds, isKd, szOk, bnd_ok, bnd_exc, noX_ok, wipe, st_mkt, st_mkf, st_addi, st_adds, st_addt, st_auI, st_auS, st_sub, st_mul, st_fdiv, st_mod, st_pow, st_cat, st_repl, st_reps, st_lt, st_le, st_gt, st_ge, st_eqi, st_nei, st_eqs, st_nes, st_idxL, st_idxS, st_idxT, st_idxs, at_n, at_0, at_1, at_2, at_m1, st_slcL, st_slcT, st_slcs, cut_nn, cut_n, cut_from, cut_1, cut_to1, st_lens, st_lenL, st_lenS, st_lenT, st_inti, st_intb, st_min2, st_max2, st_sumL, st_allL, st_anyL, st_tupL, st_tupT, st_joinL, st_rcvj, st_sh, st_idxr, st_lenr, st_tupr, st_appr, st_rcvr, st_joinr, st_setr, mulOk_fm, mulOk_r, mulOk_l, st_eq, st_ne, W.eq, W.eqs, W.pl, W.pls, W.dep, W.deps, f8, b8_0, h1, h2, il, jl, s1', s2', hxy, g8, stp, beg, e3, e4, k1, at_s, k2, r1, r2, hq]
    | some p =>
      obtain ⟨g, c⟩ := p
      simp [ev, evs, evT, evO, evC, evI, asgT, asgTs, evH, pickH, ex, exB, runD, look, seqOf, isKds, isKd, szOk, bnd_ok, bnd_exc, noX_ok, wipe, st_mkt, st_mkf, st_addi, st_adds, st_addt, st_auI, st_auS, st_sub, st_mul, st_fdiv, st_mod, st_pow, st_cat, st_repl, st_reps, st_lt, st_le, st_gt, st_ge, st_eqi, st_nei, st_eqs, st_nes, st_idxL, st_idxS, st_idxT, st_idxs, at_n, at_0, at_1, at_2, at_m1, st_slcL, st_slcT, st_slcs, cut_nn, cut_n, cut_from, cut_1, cut_to1, st_lens, st_lenL, st_lenS, st_lenT, st_inti, st_intb, st_min2, st_max2, st_sumL, st_allL, st_anyL, st_tupL, st_tupT, st_joinL, st_rcvj, st_sh, st_idxr, st_lenr, st_tupr, st_appr, st_rcvr, st_joinr, st_setr, mulOk_fm, mulOk_r, mulOk_l, st_eq, st_ne, W.eq, W.eqs, W.pl, W.pls, W.dep, W.deps, f8, b8_0, h1, h2, il, jl, s1', s2', hxy, g8, stp, beg, k1, at_s, k2, r1, r2, hq]
/-! the loop -/
theorem stp_len (d x y : Nat) (s : Sta) : (stp d x y s).1.length ≤ s.1.length + 1 := by
  obtain ⟨B, k, o⟩ := s
  cases o with
  | none => by_cases h0 : d = 0 <;> by_cases h1 : d = 1 <;> simp [stp, h0, h1]
  | some p => by_cases h0 : d = 0 <;> by_cases h1 : d = 1 <;> simp [stp, h0, h1]
theorem te8 (n : Nat) (a b : List Nat) (ha : a.length ≤ 400) (hb : b.length ≤ 400) (s : Sta) (as bs : List Nat) (e1 : a = s.one ++ as) (e2 : b = s.oth ++ bs) (G : List O) : t8 n (sl8 a b s) G = .ok (decide (¬ (as = [] ∧ bs = []))) G := by
  have h1 : a.length ≤ 16777216 := by omega
  have h2 : b.length ≤ 16777216 := by omega
  have l1 : s.one.length < a.length ↔ as ≠ [] := by
    rw [e1, List.length_append]
    cases as <;> simp
  have l2 : s.oth.length < b.length ↔ bs ≠ [] := by
    rw [e2, List.length_append]
    cases bs <;> simp
  by_cases p : as = []
  · have il : ¬ s.one.length < a.length := fun z => l1.mp z p
    by_cases q : bs = []
    · have jl : ¬ s.oth.length < b.length := fun z => l2.mp z q
      simp [ev, evs, evT, evO, evC, evI, asgT, asgTs, evH, pickH, ex, exB, runD, look, seqOf, isKds, isKd, szOk, bnd_ok, bnd_exc, noX_ok, wipe, st_mkt, st_mkf, st_addi, st_adds, st_addt, st_auI, st_auS, st_sub, st_mul, st_fdiv, st_mod, st_pow, st_cat, st_repl, st_reps, st_lt, st_le, st_gt, st_ge, st_eqi, st_nei, st_eqs, st_nes, st_idxL, st_idxS, st_idxT, st_idxs, at_n, at_0, at_1, at_2, at_m1, st_slcL, st_slcT, st_slcs, cut_nn, cut_n, cut_from, cut_1, cut_to1, st_lens, st_lenL, st_lenS, st_lenT, st_inti, st_intb, st_min2, st_max2, st_sumL, st_allL, st_anyL, st_tupL, st_tupT, st_joinL, st_rcvj, st_sh, st_idxr, st_lenr, st_tupr, st_appr, st_rcvr, st_joinr, st_setr, mulOk_fm, mulOk_r, mulOk_l, st_eq, st_ne, W.eq, W.eqs, W.pl, W.pls, W.dep, W.deps, t8, b8_0t, sl8, h1, h2, il, jl, p, q]
    · have jl : s.oth.length < b.length := l2.mpr q
      simp [ev, evs, evT, evO, evC, evI, asgT, asgTs, evH, pickH, ex, exB, runD, look, seqOf, isKds, isKd, szOk, bnd_ok, bnd_exc, noX_ok, wipe, st_mkt, st_mkf, st_addi, st_adds, st_addt, st_auI, st_auS, st_sub, st_mul, st_fdiv, st_mod, st_pow, st_cat, st_repl, st_reps, st_lt, st_le, st_gt, st_ge, st_eqi, st_nei, st_eqs, st_nes, st_idxL, st_idxS, st_idxT, st_idxs, at_n, at_0, at_1, at_2, at_m1, st_slcL, st_slcT, st_slcs, cut_nn, cut_n, cut_from, cut_1, cut_to1, st_lens, st_lenL, st_lenS, st_lenT, st_inti, st_intb, st_min2, st_max2, st_sumL, st_allL, st_anyL, st_tupL, st_tupT, st_joinL, st_rcvj, st_sh, st_idxr, st_lenr, st_tupr, st_appr, st_rcvr, st_joinr, st_setr, mulOk_fm, mulOk_r, mulOk_l, st_eq, st_ne, W.eq, W.eqs, W.pl, W.pls, W.dep, W.deps, t8, b8_0t, sl8, h1, h2, il, jl, p, q]
  · have il : s.one.length < a.length := l1.mpr p
    simp [ev, evs, evT, evO, evC, evI, asgT, asgTs, evH, pickH, ex, exB, runD, look, seqOf, isKds, isKd, szOk, bnd_ok, bnd_exc, noX_ok, wipe, st_mkt, st_mkf, st_addi, st_adds, st_addt, st_auI, st_auS, st_sub, st_mul, st_fdiv, st_mod, st_pow, st_cat, st_repl, st_reps, st_lt, st_le, st_gt, st_ge, st_eqi, st_nei, st_eqs, st_nes, st_idxL, st_idxS, st_idxT, st_idxs, at_n, at_0, at_1, at_2, at_m1, st_slcL, st_slcT, st_slcs, cut_nn, cut_n, cut_from, cut_1, cut_to1, st_lens, st_lenL, st_lenS, st_lenT, st_inti, st_intb, st_min2, st_max2, st_sumL, st_allL, st_anyL, st_tupL, st_tupT, st_joinL, st_rcvj, st_sh, st_idxr, st_lenr, st_tupr, st_appr, st_rcvr, st_joinr, st_setr, mulOk_fm, mulOk_r, mulOk_l, st_eq, st_ne, W.eq, W.eqs, W.pl, W.pls, W.dep, W.deps, t8, b8_0t, sl8, h1, h2, il, p]
theorem w8 (n : Nat) (a b : List Nat) (ha : a.length ≤ 400) (hb : b.length ≤ 400) : ∀ (m fuel : Nat) (as bs : List Nat) (s : Sta), as.length + bs.length ≤ m → m < fuel → s.1.length + m ≤ 1000 → a = s.one ++ as → b = s.oth ++ bs → whlL (t8 n) (f8 n) fuel (sl8 a b s) (g8 s) = .ok (.nx (sl8 a b (go as bs s))) (g8 (go as bs s))
  | m, 0, as, bs, s, _, h, _, _, _ => absurd h (Nat.not_lt_zero _)
  | 0, fuel + 1, as, bs, s, h, _, _, e1, e2 => by
    have p1 : as = [] := List.length_eq_zero_iff.mp (by omega)
    have p2 : bs = [] := List.length_eq_zero_iff.mp (by omega)
    subst p1 p2
    rw [go]
    exact whlL_no (te8 n a b ha hb s [] [] e1 e2 _)
  | m + 1, fuel + 1, as, bs, s, h, hf, hm, e1, e2 => by
    have ht := te8 n a b ha hb s as bs e1 e2 (g8 s)
    cases as with
    | nil =>
      cases bs with
      | nil =>
        rw [go]
        exact whlL_no ht
      | cons y bs =>
        rw [go, whlL_ok (by simpa using ht) (in8 n a b ha hb y 0 [] bs s e1 e2 fun x r z => by cases z)]
        have := stp_len 2 0 y s
        exact w8 n a b ha hb m fuel [] bs _ (by simp only [List.length_cons] at h; omega) (by omega) (by omega) (by rw [stp_one]; simpa using e1) (by rw [stp_oth]; simpa using e2)
    | cons x as =>
      cases bs with
      | nil =>
        rw [go, whlL_ok (by simpa using ht) (dl8 n a b ha hb x 0 as [] s e1 e2 (fun y r z => by cases z) (by rw [dist_nil', dist_nil', List.length_cons]; omega))]
        have := stp_len 1 x 0 s
        exact w8 n a b ha hb m fuel as [] _ (by simp only [List.length_cons] at h; omega) (by omega) (by omega) (by rw [stp_one]; simpa using e1) (by rw [stp_oth]; simpa using e2)
      | cons y bs =>
        by_cases exy : x = y
        · subst exy
          rw [go, if_pos rfl, whlL_ok (by simpa using ht) (k8 n a b ha hb x as bs s (by omega) e1 e2)]
          have := stp_len 0 x x s
          exact w8 n a b ha hb m fuel as bs _ (by simp only [List.length_cons] at h; omega) (by omega) (by omega) (by rw [stp_one]; simpa using e1) (by rw [stp_oth]; simpa using e2)
        · rw [go, if_neg exy]
          split
          · rename_i hd
            rw [whlL_ok (by simpa using ht) (dl8 n a b ha hb x y as (y :: bs) s e1 e2 (fun y' r z => by injection z with z1 z2; subst z1; exact exy) hd)]
            have := stp_len 1 x y s
            exact w8 n a b ha hb m fuel as (y :: bs) _ (by simp only [List.length_cons] at h ⊢; omega) (by omega) (by omega) (by rw [stp_one]; simpa using e1) (by rw [stp_oth]; simpa using e2)
          · rename_i hd
            rw [whlL_ok (by simpa using ht) (in8 n a b ha hb y x (x :: as) bs s e1 e2 fun x' r z => by injection z with z1 z2; subst z1 z2; exact ⟨exy, hd⟩)]
            have := stp_len 2 x y s
            exact w8 n a b ha hb m fuel (x :: as) bs _ (by simp only [List.length_cons] at h ⊢; omega) (by omega) (by omega) (by rw [stp_one]; simpa using e1) (by rw [stp_oth]; simpa using e2)
end K61
end

section
set_option linter.all false
set_option maxRecDepth 100000
set_option maxHeartbeats 4000000
/-! k61: least_edit, edit_between. -/
namespace K61
open T2
theorem go_len : ∀ (m : Nat) (as bs : List Nat) (s : Sta), as.length + bs.length ≤ m → (go as bs s).1.length ≤ s.1.length + m
  | 0, as, bs, s, h => by
    have p1 : as = [] := List.length_eq_zero_iff.mp (by omega)
    have p2 : bs = [] := List.length_eq_zero_iff.mp (by omega)
    subst p1 p2
    rw [go]
    omega
  | m + 1, as, bs, s, h => by
    cases as with
    | nil =>
      cases bs with
      | nil => rw [go]; omega
      | cons y bs =>
        rw [go]
        have q := stp_len 2 0 y s
        have := go_len m [] bs (stp 2 0 y s) (by simp only [List.length_cons] at h; omega)
        omega
    | cons x as =>
      cases bs with
      | nil =>
        rw [go]
        have q := stp_len 1 x 0 s
        have := go_len m as [] (stp 1 x 0 s) (by simp only [List.length_cons] at h; omega)
        omega
      | cons y bs =>
        rw [go]
        split
        · have q := stp_len 0 x y s
          have := go_len m as bs (stp 0 x y s) (by simp only [List.length_cons] at h; omega)
          omega
        · split
          · have q := stp_len 1 x y s
            have := go_len m as (y :: bs) (stp 1 x y s) (by simp only [List.length_cons] at h ⊢; omega)
            omega
          · have q := stp_len 2 x y s
            have := go_len m (x :: as) bs (stp 2 x y s) (by simp only [List.length_cons] at h ⊢; omega)
            omega
theorem t8' (n : Nat) (a b : List Nat) (ha : a.length ≤ 400) (hb : b.length ≤ 400) (G : List O) : callW (cl (n + 2)) .iso 8 [.str a, .str b] G = .ok (encE (edit a b)) G := by
  have h7 := t7 n a b (by omega) (by omega) []
  have hw := w8 (n + 1) a b ha hb (a.length + b.length) wf a b ([], [], none) (Nat.le_refl _) (by unfold wf; omega) (by simp; omega) (by simp [Sta.one, Sta.bl, Sta.tl, one]) (by simp [Sta.oth, Sta.bl, Sta.tl, oth])
  have hsl : sl8 a b ([], [], none) = [some (.str a), some (.str b), some (.lst (tbl a b)), some (.ref 0), some .non, some (.int 0), some (.int 0)] := rfl
  have hg : g8 ([], [], none) = [.lst []] := rfl
  have hlen := go_len (a.length + b.length) a b ([], [], none) (Nat.le_refl _)
  obtain ⟨ft1, ft2⟩ := fin_txt a b
  rw [hsl, hg] at hw
  have hfin : go a b ([], [], none) = fin a b := rfl
  rw [hfin] at hw hlen
  unfold edit
  have h1 : a.length ≤ 16777216 := by omega
  have h2 : b.length ≤ 16777216 := by omega
  generalize hs : fin a b = s at *
  delta t8 f8 at hw
  obtain ⟨B, k, o⟩ := s
  have hBl : B.length < 16777216 := by have : B.length ≤ 0 + (a.length + b.length) := hlen; omega
  have hE : (eds 0 B).length = B.length := eds_len B 0
  cases o with
  | none =>
    refine iso_pl rfl (G1 := g8 (B, k, none)) ?_ (encE_pl _)
    rw [c8]
    simp [ev, evs, evT, evO, evC, evI, asgT, asgTs, evH, pickH, ex, exB, runD, look, seqOf, isKds, isKd, szOk, bnd_ok, bnd_exc, noX_ok, wipe, st_mkt, st_mkf, st_addi, st_adds, st_addt, st_auI, st_auS, st_sub, st_mul, st_fdiv, st_mod, st_pow, st_cat, st_repl, st_reps, st_lt, st_le, st_gt, st_ge, st_eqi, st_nei, st_eqs, st_nes, st_idxL, st_idxS, st_idxT, st_idxs, at_n, at_0, at_1, at_2, at_m1, st_slcL, st_slcT, st_slcs, cut_nn, cut_n, cut_from, cut_1, cut_to1, st_lens, st_lenL, st_lenS, st_lenT, st_inti, st_intb, st_min2, st_max2, st_sumL, st_allL, st_anyL, st_tupL, st_tupT, st_joinL, st_rcvj, st_sh, st_idxr, st_lenr, st_tupr, st_appr, st_rcvr, st_joinr, st_setr, mulOk_fm, mulOk_r, mulOk_l, st_eq, st_ne, W.eq, W.eqs, W.pl, W.pls, W.dep, W.deps, sl8, beg, g8] at hw
    simp [ev, evs, evT, evO, evC, evI, asgT, asgTs, evH, pickH, ex, exB, runD, look, seqOf, isKds, isKd, szOk, bnd_ok, bnd_exc, noX_ok, wipe, st_mkt, st_mkf, st_addi, st_adds, st_addt, st_auI, st_auS, st_sub, st_mul, st_fdiv, st_mod, st_pow, st_cat, st_repl, st_reps, st_lt, st_le, st_gt, st_ge, st_eqi, st_nei, st_eqs, st_nes, st_idxL, st_idxS, st_idxT, st_idxs, at_n, at_0, at_1, at_2, at_m1, st_slcL, st_slcT, st_slcs, cut_nn, cut_n, cut_from, cut_1, cut_to1, st_lens, st_lenL, st_lenS, st_lenT, st_inti, st_intb, st_min2, st_max2, st_sumL, st_allL, st_anyL, st_tupL, st_tupT, st_joinL, st_rcvj, st_sh, st_idxr, st_lenr, st_tupr, st_appr, st_rcvr, st_joinr, st_setr, mulOk_fm, mulOk_r, mulOk_l, st_eq, st_ne, W.eq, W.eqs, W.pl, W.pls, W.dep, W.deps, d8, b8, h7, hw, g8, Sta.bl, encE]
  | some p =>
    obtain ⟨g, c⟩ := p
    have q1 : a.drop (bp1 B k) = g := by
      rw [one_some] at ft1
      rw [← ft1]
      exact List.drop_left
    have q2 : b.drop (bp2 B k) = c := by
      rw [oth_some] at ft2
      rw [← ft2]
      exact List.drop_left
    have q3 : eds 0 (B ++ [(k, g, c)]) = eds 0 B ++ [(bp1 B k, g, c)] := by
      rw [eds_app]
      simp [eds, bp1]
    refine iso_pl rfl (G1 := [.lst ((eds 0 (B ++ [(k, g, c)])).map enc)]) ?_ (encE_pl _)
    rw [c8]
    simp [ev, evs, evT, evO, evC, evI, asgT, asgTs, evH, pickH, ex, exB, runD, look, seqOf, isKds, isKd, szOk, bnd_ok, bnd_exc, noX_ok, wipe, st_mkt, st_mkf, st_addi, st_adds, st_addt, st_auI, st_auS, st_sub, st_mul, st_fdiv, st_mod, st_pow, st_cat, st_repl, st_reps, st_lt, st_le, st_gt, st_ge, st_eqi, st_nei, st_eqs, st_nes, st_idxL, st_idxS, st_idxT, st_idxs, at_n, at_0, at_1, at_2, at_m1, st_slcL, st_slcT, st_slcs, cut_nn, cut_n, cut_from, cut_1, cut_to1, st_lens, st_lenL, st_lenS, st_lenT, st_inti, st_intb, st_min2, st_max2, st_sumL, st_allL, st_anyL, st_tupL, st_tupT, st_joinL, st_rcvj, st_sh, st_idxr, st_lenr, st_tupr, st_appr, st_rcvr, st_joinr, st_setr, mulOk_fm, mulOk_r, mulOk_l, st_eq, st_ne, W.eq, W.eqs, W.pl, W.pls, W.dep, W.deps, sl8, beg, g8] at hw
    simp [ev, evs, evT, evO, evC, evI, asgT, asgTs, evH, pickH, ex, exB, runD, look, seqOf, isKds, isKd, szOk, bnd_ok, bnd_exc, noX_ok, wipe, st_mkt, st_mkf, st_addi, st_adds, st_addt, st_auI, st_auS, st_sub, st_mul, st_fdiv, st_mod, st_pow, st_cat, st_repl, st_reps, st_lt, st_le, st_gt, st_ge, st_eqi, st_nei, st_eqs, st_nes, st_idxL, st_idxS, st_idxT, st_idxs, at_n, at_0, at_1, at_2, at_m1, st_slcL, st_slcT, st_slcs, cut_nn, cut_n, cut_from, cut_1, cut_to1, st_lens, st_lenL, st_lenS, st_lenT, st_inti, st_intb, st_min2, st_max2, st_sumL, st_allL, st_anyL, st_tupL, st_tupT, st_joinL, st_rcvj, st_sh, st_idxr, st_lenr, st_tupr, st_appr, st_rcvr, st_joinr, st_setr, mulOk_fm, mulOk_r, mulOk_l, st_eq, st_ne, W.eq, W.eqs, W.pl, W.pls, W.dep, W.deps, d8, b8, h7, hw, g8, Sta.bl, encE, h1, h2, q1, q2, q3, hBl, hE, enc]
theorem t9 (n : Nat) (a b : List Nat) (ha : a.length ≤ 400) (hb : b.length ≤ 400) (G : List O) : callW (cl (n + 3)) .iso 9 [.str a, .str b] G = .ok (encE (edit a b)) G := by
  refine iso_pl rfl (G1 := []) ?_ (encE_pl _)
  rw [c9]
  simp [ev, evs, evT, evO, evC, evI, asgT, asgTs, evH, pickH, ex, exB, runD, look, seqOf, isKds, isKd, szOk, bnd_ok, bnd_exc, noX_ok, wipe, st_mkt, st_mkf, st_addi, st_adds, st_addt, st_auI, st_auS, st_sub, st_mul, st_fdiv, st_mod, st_pow, st_cat, st_repl, st_reps, st_lt, st_le, st_gt, st_ge, st_eqi, st_nei, st_eqs, st_nes, st_idxL, st_idxS, st_idxT, st_idxs, at_n, at_0, at_1, at_2, at_m1, st_slcL, st_slcT, st_slcs, cut_nn, cut_n, cut_from, cut_1, cut_to1, st_lens, st_lenL, st_lenS, st_lenT, st_inti, st_intb, st_min2, st_max2, st_sumL, st_allL, st_anyL, st_tupL, st_tupT, st_joinL, st_rcvj, st_sh, st_idxr, st_lenr, st_tupr, st_appr, st_rcvr, st_joinr, st_setr, mulOk_fm, mulOk_r, mulOk_l, st_eq, st_ne, W.eq, W.eqs, W.pl, W.pls, W.dep, W.deps, d9, b9, i0 (n + 1) a ha, i0 (n + 1) b hb, t8' n a b ha hb]
end K61
end

section
set_option linter.all false
set_option maxRecDepth 100000
set_option maxHeartbeats 4000000
/-! k61: the law's own deeds. -/
namespace K61
open T2
/-! dicts -/
def dput (kvs : List (W × W)) (k w : W) : List (W × W) := if kvs.any (fun p => decide (p.1 = k)) then kvs.map (fun p => if p.1 = k then (p.1, w) else p) else kvs ++ [(k, w)]
theorem dget_cons (p : W × W) (r : List (W × W)) (k : W) : dget (p :: r) k = if p.1 = k then some p.2 else dget r k := by
  unfold dget
  rw [List.find?_cons]
  by_cases h : p.1 = k <;> simp [h]
theorem dget_map (k w k' : W) : ∀ kvs : List (W × W), dget (kvs.map fun p => if p.1 = k then (p.1, w) else p) k' = if k' = k then (if kvs.any (fun p => decide (p.1 = k)) then some w else none) else dget kvs k'
  | [] => by simp [dget]
  | p :: r => by
    have ih := dget_map k w k' r
    rw [List.map_cons, dget_cons, dget_cons, ih, List.any_cons]
    by_cases h : p.1 = k
    · by_cases h2 : k' = k
      · subst h2
        simp [h]
      · have h4 : ¬ k = k' := fun z => h2 z.symm
        simp [h, h2, h4]
    · by_cases h2 : k' = k
      · subst h2
        have e1 : ∀ (x y : Option W), (if p.1 = k' then x else y) = y := fun _ _ => if_neg h
        have e2 : (decide (p.1 = k') || r.any fun p => decide (p.1 = k')) = r.any fun p => decide (p.1 = k') := by rw [decide_eq_false h, Bool.false_or]
        rw [e2]
        simp [h]
      · simp [h, h2]
theorem dget_put (kvs : List (W × W)) (k w k' : W) : dget (dput kvs k w) k' = if k' = k then some w else dget kvs k' := by
  unfold dput
  by_cases h : kvs.any (fun p => decide (p.1 = k)) = true
  · rw [if_pos h, dget_map, h]
    simp
  · rw [if_neg h]
    by_cases h2 : k' = k
    · subst h2
      have : kvs.find? (fun p => decide (p.1 = k')) = none := by
        rw [List.find?_eq_none]
        intro p hp
        simp only [List.any_eq_true, not_exists, not_and] at h
        exact h p hp
      simp [dget, List.find?_append, this]
    · have h3 : ¬ k = k' := fun z => h2 z.symm
      simp [dget, List.find?_append, h2, h3]
theorem dput_len (kvs : List (W × W)) (k w : W) : (dput kvs k w).length ≤ kvs.length + 1 := by
  unfold dput
  split <;> simp
section
variable {r : Nat} {ks xs : List W} {w : W} {G : List O}
theorem st_setD : setW (.ref r) (.tup ks) w G = match G[r]? with
    | some (.dct kvs) => if keyOk (.tup ks) && decide (kvs.length < 16777216) then .ok () (G.set r (.dct (dput kvs (.tup ks) w))) else .stuck
    | _ => .stuck := by
  cases h : G[r]? with
  | none => simp only [setW, h]
  | some o => cases o <;> simp only [setW, h] <;> rfl
theorem st_idxD' : idxW (.ref r) (.tup ks) G = match G[r]? with
    | some (.dct kvs) => if keyOk (.tup ks) then (match dget kvs (.tup ks) with
      | some w => .ok w G
      | none => .stuck) else .stuck
    | _ => .stuck := by
  cases h : G[r]? with
  | none => simp [idxW, look, h]
  | some o =>
    cases o with
    | lst ws => simp [idxW, look, h]
    | dct kvs =>
      simp only [idxW, look, h]
      try (cases dget kvs (.tup ks) <;> rfl)
theorem st_min1 : bltW .min1 [.ref r] G = match G[r]? with
    | some (.lst (x :: xs)) => if W.pls (x :: xs) && decide (W.deps (x :: xs) ≤ 100) && allAlike (x :: xs) && decide (x ≠ .non) then .ok (leastW x xs) G else .stuck
    | _ => .stuck := by
  cases h : G[r]? with
  | none => simp [bltW, getL, h]
  | some o =>
    cases o with
    | lst ws => cases ws <;> simp [bltW, getL, h]
    | dct kvs => simp [bltW, getL, h]
end
/-! what the table holds -/
def vl (c : Nat) (p : List Nat) : W := .tup [.int c, .tup (p.map fun x => .int (x : Nat))]
theorem ints_pl (p : List Nat) : W.pls (p.map fun x => W.int (x : Nat)) = true := by
  rw [W.pls_all]
  simp [List.all_map, Function.comp_def, W.pl]
theorem ints_dep : ∀ p : List Nat, W.deps (p.map fun x => W.int (x : Nat)) = 0
  | [] => rfl
  | x :: p => by simp [W.deps, W.dep, ints_dep p]
theorem vl_pl (c : Nat) (p : List Nat) : (vl c p).pl = true := by simp [vl, W.pl, W.pls, ints_pl p]
theorem vl_dep (c : Nat) (p : List Nat) : (vl c p).dep = 2 := by simp [vl, W.dep, W.deps, ints_dep p]
theorem al_ints : ∀ (p q : List Nat), PySem.W.alikeAll (W.ds (p.map fun x => W.int (x : Nat))) (W.ds (q.map fun x => W.int (x : Nat))) = true
  | [], _ => by simp [W.ds, PySem.W.alikeAll]
  | _ :: _, [] => by simp [W.ds, PySem.W.alikeAll]
  | x :: p, y :: q => by simp only [List.map_cons, W.ds, W.d, PySem.W.alikeAll, PySem.W.alike, al_ints p q, Bool.and_self]
theorem vl_al (c d : Nat) (p q : List Nat) : W.alike (vl c p) (vl d q) = true := by
  show PySem.W.alike (vl c p).d (vl d q).d = true
  simp only [vl, W.d, W.ds, PySem.W.alike, PySem.W.alikeAll, al_ints, Bool.and_self]
theorem vl_lt (c d x y : Nat) (p q : List Nat) (h : x ≠ y) : W.lt (vl c (x :: p)) (vl d (y :: q)) = (decide (c < d) || (decide (c = d) && decide (x < y))) := by
  show PySem.W.dataLt (vl c (x :: p)).d (vl d (y :: q)).d = _
  have lc : ∀ (i j : Int) (r t : List (Int ⊕ List Nat)), PyProof.Rows.lexLt PyProof.Rows.itemOrd (.inl i :: r) (.inl j :: t) = (decide (i < j) || (!decide (j < i) && PyProof.Rows.lexLt PyProof.Rows.itemOrd r t)) := fun i j r t => PyProof.Rows.lex_cons (O := PyProof.Rows.itemOrd) (.inl i) (.inl j) r t
  simp only [vl, W.d, W.ds, List.map_cons, PySem.W.dataLt, PySem.W.keyToks, PySem.W.keyToksAll, List.cons_append, List.nil_append, lc]
  by_cases h1 : c < d
  · simp [h1]
  · by_cases h2 : c = d
    · subst h2
      by_cases h3 : x < y
      · simp [h3]
      · have : y < x := by omega
        simp [h3, this]
    · have : d < c := by omega
      simp [h1, h2, this]
def key (i j : Nat) : W := .tup [.int i, .int j]
def cand (ws : List W) : Bool := W.pls ws && decide (W.deps ws ≤ 100) && allAlike ws
theorem cand3 (c d e : Nat) (p q r : List Nat) : cand [vl c p, vl d q, vl e r] = true := by
  simp [cand, W.pls, vl_pl, W.deps, vl_dep, allAlike, vl_al]
theorem cand2 (c d : Nat) (p q : List Nat) : cand [vl c p, vl d q] = true := by
  simp [cand, W.pls, vl_pl, W.deps, vl_dep, allAlike, vl_al]
theorem cand1 (c : Nat) (p : List Nat) : cand [vl c p] = true := by
  simp [cand, W.pls, vl_pl, W.deps, vl_dep, allAlike, vl_al]
/-- the least of a list that stands -/
theorem min_at {r : Nat} {G : List O} {c : Nat} {p : List Nat} {ws : List W} (h : G[r]? = some (.lst (vl c p :: ws))) (hc : cand (vl c p :: ws) = true) : bltW .min1 [.ref r] G = .ok (leastW (vl c p) ws) G := by
  rw [st_min1, h]
  simp only [cand] at hc
  have e : decide (vl c p ≠ W.non) = true := by simp [vl]
  simp only [hc, e, Bool.and_self, if_true]
theorem ne_at {r : Nat} {G : List O} {c : Nat} {p : List Nat} {ws : List W} (h : G[r]? = some (.lst (vl c p :: ws))) (hc : cand (vl c p :: ws) = true) : cmpW .ne (.ref r) (.lst []) G = .ok (.bl true) G := by
  simp only [cand, Bool.and_eq_true, decide_eq_true_eq] at hc
  rw [st_neR h hc.1.1 rfl (by simp [W.dep, W.deps])]
  simp [W.eq, W.eqs]
theorem path_len : ∀ (m : Nat) (as bs : List Nat), as.length + bs.length ≤ m → (path as bs).length ≤ as.length + bs.length
  | 0, as, bs, h => by
    have p1 : as = [] := List.length_eq_zero_iff.mp (by omega)
    have p2 : bs = [] := List.length_eq_zero_iff.mp (by omega)
    subst p1 p2
    rw [path]
    simp
  | m + 1, as, bs, h => by
    cases as with
    | nil =>
      cases bs with
      | nil => rw [path]; simp
      | cons y bs =>
        rw [path]
        have := path_len m [] bs (by simp only [List.length_cons] at h; omega)
        simp only [List.length_cons, List.length_nil] at this ⊢
        omega
    | cons x as =>
      cases bs with
      | nil =>
        rw [path]
        have := path_len m as [] (by simp only [List.length_cons] at h; omega)
        simp only [List.length_cons, List.length_nil] at this ⊢
        omega
      | cons y bs =>
        have q1 := path_len m as bs (by simp only [List.length_cons] at h; omega)
        have q2 := path_len m as (y :: bs) (by simp only [List.length_cons] at h ⊢; omega)
        have q3 := path_len m (x :: as) bs (by simp only [List.length_cons] at h ⊢; omega)
        rw [path]
        simp only [List.length_cons] at q1 q2 q3 ⊢
        split
        · simp only [List.length_cons]; omega
        · split <;> (simp only [List.length_cons]; omega)
/-- the table holds what is behind -/
structure Dtab (a b : List Nat) (i c : Nat) (kvs : List (W × W)) : Prop where
  old : ∀ i' j', i < i' → i' ≤ a.length → j' ≤ b.length → dget kvs (key i' j') = some (vl (dist (a.drop i') (b.drop j')) (path (a.drop i') (b.drop j')))
  new : ∀ j', c ≤ j' → j' ≤ b.length → dget kvs (key i j') = some (vl (dist (a.drop i) (b.drop j')) (path (a.drop i) (b.drop j')))
theorem Dtab.put {a b : List Nat} {i j : Nat} {kvs : List (W × W)} (t : Dtab a b i (j + 1) kvs) (hj : j ≤ b.length) : Dtab a b i j (dput kvs (key i j) (vl (dist (a.drop i) (b.drop j)) (path (a.drop i) (b.drop j)))) := by
  have kk : ∀ i' j', key i' j' = key i j ↔ i' = i ∧ j' = j := fun i' j' => by simp [key]; omega
  refine ⟨fun i' j' h1 h2 h3 => ?_, fun j' h1 h2 => ?_⟩
  · rw [dget_put, if_neg (fun z => by have := (kk i' j').mp z; omega)]
    exact t.old i' j' h1 h2 h3
  · rw [dget_put]
    by_cases e : j' = j
    · subst e
      rw [if_pos rfl]
    · rw [if_neg (fun z => e ((kk i j').mp z).2)]
      exact t.new j' (by omega) h2
theorem s14 (n : Nat) (a b : List Nat) (ha : a.length ≤ 400) (hb : b.length ≤ 400) (i j : Nat) (hi : i ≤ a.length) (hj : j ≤ b.length) (kvs : List (W × W)) (rest : List O) (f : Option W) (hk : kvs.length < 1000000) (t : Dtab a b i (j + 1) kvs) :
    ∃ f' o, exB (cl n) gk wf b14_0 [some (.str a), some (.str b), some (.ref 0), some (.int i), some (.int j), f] (.dct kvs :: rest) = .ok (.nx [some (.str a), some (.str b), some (.ref 0), some (.int i), some (.int j), f']) (.dct (dput kvs (key i j) (vl (dist (a.drop i) (b.drop j)) (path (a.drop i) (b.drop j)))) :: (rest ++ [o])) := by
  have h1 : a.length ≤ 16777216 := by omega
  have h2 : b.length ≤ 16777216 := by omega
  have h3 : kvs.length < 16777216 := by omega
  have hs : ∀ y z : O, (rest ++ [y]).set rest.length z = rest ++ [z] := fun y z => by simp
  have hg : ∀ y : O, (rest ++ [y])[rest.length]? = some y := fun y => by simp
  have kd : ∀ w, dput kvs (.tup [.int i, .int j]) w = dput kvs (key i j) w := fun _ => rfl
  by_cases e1 : i = a.length
  · have il : ¬ i < a.length := by omega
    have da : a.drop i = [] := by rw [e1, List.drop_length]
    by_cases e2 : j = b.length
    · have jl : ¬ j < b.length := by omega
      have db : b.drop j = [] := by rw [e2, List.drop_length]
      rw [da, db]
      refine ⟨some (.ref (rest.length + 1)), .lst [], ?_⟩
      have hne : cmpW .ne (.ref (rest.length + 1)) (.lst []) (.dct kvs :: (rest ++ [.lst []])) = .ok (.bl false) (.dct kvs :: (rest ++ [.lst []])) := by
        rw [st_neR (xs := []) (by simp) rfl rfl (by simp [W.dep, W.deps])]
        simp [W.eq, W.eqs]
      simp [ev, evs, evT, evO, evC, evI, asgT, asgTs, evH, pickH, ex, exB, runD, look, seqOf, isKds, isKd, szOk, bnd_ok, bnd_exc, noX_ok, wipe, st_mkt, st_mkf, st_addi, st_adds, st_addt, st_auI, st_auS, st_sub, st_mul, st_fdiv, st_mod, st_pow, st_cat, st_repl, st_reps, st_lt, st_le, st_gt, st_ge, st_eqi, st_nei, st_eqs, st_nes, st_idxL, st_idxS, st_idxT, st_idxs, at_n, at_0, at_1, at_2, at_m1, st_slcL, st_slcT, st_slcs, cut_nn, cut_n, cut_from, cut_1, cut_to1, st_lens, st_lenL, st_lenS, st_lenT, st_inti, st_intb, st_min2, st_max2, st_sumL, st_allL, st_anyL, st_tupL, st_tupT, st_joinL, st_rcvj, st_sh, st_idxr, st_lenr, st_tupr, st_appr, st_rcvr, st_joinr, st_setr, mulOk_fm, mulOk_r, mulOk_l, st_eq, st_ne, W.eq, W.eqs, W.pl, W.pls, W.dep, W.deps, b14_0, h1, h2, il, jl, hne, st_setD, keyOk, keyA, h3, kd, vl, dist, path]
    · have jl : j < b.length := by omega
      have db := drop_cons jl
      have k01 := t.new (j + 1) (by omega) (by omega)
      rw [da] at k01
      rw [da, db]
      have hd : dist [] (b[j] :: b.drop (j + 1)) = dist [] (b.drop (j + 1)) + 1 := by rw [dist_nil, dist_nil, List.length_cons]
      have hp : path [] (b[j] :: b.drop (j + 1)) = 2 :: path [] (b.drop (j + 1)) := by rw [path]
      rw [hd, hp]
      have hpl := path_len _ [] (b.drop (j + 1)) (Nat.le_refl _)
      rw [List.length_nil, List.length_drop] at hpl
      generalize dist [] (b.drop (j + 1)) = d01 at *
      generalize path [] (b.drop (j + 1)) = p01 at *
      refine ⟨some (.ref (rest.length + 1)), .lst [vl (d01 + 1) (2 :: p01)], ?_⟩
      have hG : (.dct kvs :: (rest ++ [.lst [vl (d01 + 1) (2 :: p01)]]))[rest.length + 1]? = some (.lst [vl (d01 + 1) (2 :: p01)]) := by simp
      have m1 := min_at hG (cand1 _ _)
      have n1 := ne_at hG (cand1 _ _)
      have hz : 1 + p01.length ≤ 16777216 := by omega
      simp [vl, key] at k01 m1 n1
      simp [ev, evs, evT, evO, evC, evI, asgT, asgTs, evH, pickH, ex, exB, runD, look, seqOf, isKds, isKd, szOk, bnd_ok, bnd_exc, noX_ok, wipe, st_mkt, st_mkf, st_addi, st_adds, st_addt, st_auI, st_auS, st_sub, st_mul, st_fdiv, st_mod, st_pow, st_cat, st_repl, st_reps, st_lt, st_le, st_gt, st_ge, st_eqi, st_nei, st_eqs, st_nes, st_idxL, st_idxS, st_idxT, st_idxs, at_n, at_0, at_1, at_2, at_m1, st_slcL, st_slcT, st_slcs, cut_nn, cut_n, cut_from, cut_1, cut_to1, st_lens, st_lenL, st_lenS, st_lenT, st_inti, st_intb, st_min2, st_max2, st_sumL, st_allL, st_anyL, st_tupL, st_tupT, st_joinL, st_rcvj, st_sh, st_idxr, st_lenr, st_tupr, st_appr, st_rcvr, st_joinr, st_setr, mulOk_fm, mulOk_r, mulOk_l, st_eq, st_ne, W.eq, W.eqs, W.pl, W.pls, W.dep, W.deps, b14_0, h1, h2, il, jl, st_idxD', st_setD, keyOk, keyA, h3, kd, vl, hs, hg, k01, m1, n1, leastW, hz]
  · have il : i < a.length := by omega
    have da := drop_cons il
    by_cases e2 : j = b.length
    · have jl : ¬ j < b.length := by omega
      have db : b.drop j = [] := by rw [e2, List.drop_length]
      have k10 := t.old (i + 1) j (by omega) (by omega) (by omega)
      rw [db] at k10
      rw [da, db]
      have hd : dist (a[i] :: a.drop (i + 1)) [] = dist (a.drop (i + 1)) [] + 1 := by rw [dist_nil', dist_nil', List.length_cons]
      have hp : path (a[i] :: a.drop (i + 1)) [] = 1 :: path (a.drop (i + 1)) [] := by rw [path]
      rw [hd, hp]
      have hpl := path_len _ (a.drop (i + 1)) [] (Nat.le_refl _)
      rw [List.length_nil, List.length_drop] at hpl
      generalize dist (a.drop (i + 1)) [] = d10 at *
      generalize path (a.drop (i + 1)) [] = p10 at *
      refine ⟨some (.ref (rest.length + 1)), .lst [vl (d10 + 1) (1 :: p10)], ?_⟩
      have hG : (.dct kvs :: (rest ++ [.lst [vl (d10 + 1) (1 :: p10)]]))[rest.length + 1]? = some (.lst [vl (d10 + 1) (1 :: p10)]) := by simp
      have m1 := min_at hG (cand1 _ _)
      have n1 := ne_at hG (cand1 _ _)
      have hz : 1 + p10.length ≤ 16777216 := by omega
      simp [vl, key] at k10 m1 n1
      simp [ev, evs, evT, evO, evC, evI, asgT, asgTs, evH, pickH, ex, exB, runD, look, seqOf, isKds, isKd, szOk, bnd_ok, bnd_exc, noX_ok, wipe, st_mkt, st_mkf, st_addi, st_adds, st_addt, st_auI, st_auS, st_sub, st_mul, st_fdiv, st_mod, st_pow, st_cat, st_repl, st_reps, st_lt, st_le, st_gt, st_ge, st_eqi, st_nei, st_eqs, st_nes, st_idxL, st_idxS, st_idxT, st_idxs, at_n, at_0, at_1, at_2, at_m1, st_slcL, st_slcT, st_slcs, cut_nn, cut_n, cut_from, cut_1, cut_to1, st_lens, st_lenL, st_lenS, st_lenT, st_inti, st_intb, st_min2, st_max2, st_sumL, st_allL, st_anyL, st_tupL, st_tupT, st_joinL, st_rcvj, st_sh, st_idxr, st_lenr, st_tupr, st_appr, st_rcvr, st_joinr, st_setr, mulOk_fm, mulOk_r, mulOk_l, st_eq, st_ne, W.eq, W.eqs, W.pl, W.pls, W.dep, W.deps, b14_0, h1, h2, il, jl, st_idxD', st_setD, keyOk, keyA, h3, kd, vl, hs, hg, k10, m1, n1, leastW, hz]
    · have jl : j < b.length := by omega
      have db := drop_cons jl
      have k10 := t.old (i + 1) j (by omega) (by omega) (by omega)
      have k01 := t.new (j + 1) (by omega) (by omega)
      have k11 := t.old (i + 1) (j + 1) (by omega) (by omega) (by omega)
      rw [db] at k10
      rw [da] at k01
      rw [da, db]
      have near := dist_near _ (a.drop (i + 1)) (b.drop (j + 1)) (Nat.le_refl _)
      have n1 := (near.1 a[i]).1
      have n2 := (near.2 b[j]).1
      have pl10 := path_len _ (a.drop (i + 1)) (b[j] :: b.drop (j + 1)) (Nat.le_refl _)
      have pl01 := path_len _ (a[i] :: a.drop (i + 1)) (b.drop (j + 1)) (Nat.le_refl _)
      have pl11 := path_len _ (a.drop (i + 1)) (b.drop (j + 1)) (Nat.le_refl _)
      simp only [List.length_cons, List.length_drop] at pl10 pl01 pl11
      by_cases e : a[i] = b[j]
      · have hd : dist (a[i] :: a.drop (i + 1)) (b[j] :: b.drop (j + 1)) = dist (a.drop (i + 1)) (b.drop (j + 1)) := by rw [e, dist_eq]
        have hp : path (a[i] :: a.drop (i + 1)) (b[j] :: b.drop (j + 1)) = 0 :: path (a.drop (i + 1)) (b.drop (j + 1)) := by rw [path, if_pos e]
        rw [hd, hp]
        generalize dist (a.drop (i + 1)) (b.drop (j + 1)) = d11 at *
        generalize path (a.drop (i + 1)) (b.drop (j + 1)) = p11 at *
        generalize dist (a.drop (i + 1)) (b[j] :: b.drop (j + 1)) = d10 at *
        generalize path (a.drop (i + 1)) (b[j] :: b.drop (j + 1)) = p10 at *
        generalize dist (a[i] :: a.drop (i + 1)) (b.drop (j + 1)) = d01 at *
        generalize path (a[i] :: a.drop (i + 1)) (b.drop (j + 1)) = p01 at *
        refine ⟨some (.ref (rest.length + 1)), .lst [vl d11 (0 :: p11), vl (d10 + 1) (1 :: p10), vl (d01 + 1) (2 :: p01)], ?_⟩
        have hG : (.dct kvs :: (rest ++ [.lst [vl d11 (0 :: p11), vl (d10 + 1) (1 :: p10), vl (d01 + 1) (2 :: p01)]]))[rest.length + 1]? = some (.lst [vl d11 (0 :: p11), vl (d10 + 1) (1 :: p10), vl (d01 + 1) (2 :: p01)]) := by simp
        have m1 := min_at hG (cand3 _ _ _ _ _ _)
        have nn := ne_at hG (cand3 _ _ _ _ _ _)
        have hz1 : 1 + p10.length ≤ 16777216 := by omega
        have hz2 : 1 + p01.length ≤ 16777216 := by omega
        have hz3 : 1 + p11.length ≤ 16777216 := by omega
        have lw : leastW (vl d11 (0 :: p11)) [vl (d10 + 1) (1 :: p10), vl (d01 + 1) (2 :: p01)] = vl d11 (0 :: p11) := by
          have q1 : W.lt (vl (d10 + 1) (1 :: p10)) (vl d11 (0 :: p11)) = false := by rw [vl_lt _ _ _ _ _ _ (by decide)]; simp; omega
          have q2 : W.lt (vl (d01 + 1) (2 :: p01)) (vl d11 (0 :: p11)) = false := by rw [vl_lt _ _ _ _ _ _ (by decide)]; simp; omega
          simp [leastW, q1, q2]
        rw [lw] at m1
        simp [vl, key] at k10 k01 k11 m1 nn
        simp [ev, evs, evT, evO, evC, evI, asgT, asgTs, evH, pickH, ex, exB, runD, look, seqOf, isKds, isKd, szOk, bnd_ok, bnd_exc, noX_ok, wipe, st_mkt, st_mkf, st_addi, st_adds, st_addt, st_auI, st_auS, st_sub, st_mul, st_fdiv, st_mod, st_pow, st_cat, st_repl, st_reps, st_lt, st_le, st_gt, st_ge, st_eqi, st_nei, st_eqs, st_nes, st_idxL, st_idxS, st_idxT, st_idxs, at_n, at_0, at_1, at_2, at_m1, st_slcL, st_slcT, st_slcs, cut_nn, cut_n, cut_from, cut_1, cut_to1, st_lens, st_lenL, st_lenS, st_lenT, st_inti, st_intb, st_min2, st_max2, st_sumL, st_allL, st_anyL, st_tupL, st_tupT, st_joinL, st_rcvj, st_sh, st_idxr, st_lenr, st_tupr, st_appr, st_rcvr, st_joinr, st_setr, mulOk_fm, mulOk_r, mulOk_l, st_eq, st_ne, W.eq, W.eqs, W.pl, W.pls, W.dep, W.deps, b14_0, h1, h2, il, jl, e, st_idxD', st_setD, keyOk, keyA, h3, kd, vl, hs, hg, k10, k01, k11, m1, nn, hz1, hz2, hz3]
      · have hd := dist_ne e (a.drop (i + 1)) (b.drop (j + 1))
        have hp : path (a[i] :: a.drop (i + 1)) (b[j] :: b.drop (j + 1)) = if dist (a[i] :: a.drop (i + 1)) (b[j] :: b.drop (j + 1)) = 1 + dist (a.drop (i + 1)) (b[j] :: b.drop (j + 1)) then 1 :: path (a.drop (i + 1)) (b[j] :: b.drop (j + 1)) else 2 :: path (a[i] :: a.drop (i + 1)) (b.drop (j + 1)) := by rw [path, if_neg e]
        rw [hp, hd]
        generalize dist (a.drop (i + 1)) (b.drop (j + 1)) = d11 at *
        generalize path (a.drop (i + 1)) (b.drop (j + 1)) = p11 at *
        generalize dist (a.drop (i + 1)) (b[j] :: b.drop (j + 1)) = d10 at *
        generalize path (a.drop (i + 1)) (b[j] :: b.drop (j + 1)) = p10 at *
        generalize dist (a[i] :: a.drop (i + 1)) (b.drop (j + 1)) = d01 at *
        generalize path (a[i] :: a.drop (i + 1)) (b.drop (j + 1)) = p01 at *
        refine ⟨some (.ref (rest.length + 1)), .lst [vl (d10 + 1) (1 :: p10), vl (d01 + 1) (2 :: p01)], ?_⟩
        have hG : (.dct kvs :: (rest ++ [.lst [vl (d10 + 1) (1 :: p10), vl (d01 + 1) (2 :: p01)]]))[rest.length + 1]? = some (.lst [vl (d10 + 1) (1 :: p10), vl (d01 + 1) (2 :: p01)]) := by simp
        have m1 := min_at hG (cand2 _ _ _ _)
        have nn := ne_at hG (cand2 _ _ _ _)
        have hz1 : 1 + p10.length ≤ 16777216 := by omega
        have hz2 : 1 + p01.length ≤ 16777216 := by omega
        have lw : leastW (vl (d10 + 1) (1 :: p10)) [vl (d01 + 1) (2 :: p01)] = vl (1 + min d10 d01) (if 1 + min d10 d01 = 1 + d10 then 1 :: p10 else 2 :: p01) := by
          have q1 : W.lt (vl (d01 + 1) (2 :: p01)) (vl (d10 + 1) (1 :: p10)) = decide (d01 < d10) := by
            rw [vl_lt _ _ _ _ _ _ (by decide)]
            simp
          simp only [leastW, List.foldl_cons, List.foldl_nil, q1]
          by_cases hlt : d01 < d10
          · have w1 : ¬ (1 + min d10 d01 = 1 + d10) := by omega
            have w2 : d01 + 1 = 1 + min d10 d01 := by omega
            rw [if_neg w1, ← w2]
            simp [hlt]
          · have w1 : 1 + min d10 d01 = 1 + d10 := by omega
            have w2 : d10 + 1 = 1 + min d10 d01 := by omega
            rw [if_pos w1, ← w2]
            simp [hlt]
        rw [lw] at m1
        generalize (if 1 + min d10 d01 = 1 + d10 then 1 :: p10 else 2 :: p01) = pp at *
        generalize 1 + min d10 d01 = dd at *
        simp [vl, key] at k10 k01 m1 nn
        simp [ev, evs, evT, evO, evC, evI, asgT, asgTs, evH, pickH, ex, exB, runD, look, seqOf, isKds, isKd, szOk, bnd_ok, bnd_exc, noX_ok, wipe, st_mkt, st_mkf, st_addi, st_adds, st_addt, st_auI, st_auS, st_sub, st_mul, st_fdiv, st_mod, st_pow, st_cat, st_repl, st_reps, st_lt, st_le, st_gt, st_ge, st_eqi, st_nei, st_eqs, st_nes, st_idxL, st_idxS, st_idxT, st_idxs, at_n, at_0, at_1, at_2, at_m1, st_slcL, st_slcT, st_slcs, cut_nn, cut_n, cut_from, cut_1, cut_to1, st_lens, st_lenL, st_lenS, st_lenT, st_inti, st_intb, st_min2, st_max2, st_sumL, st_allL, st_anyL, st_tupL, st_tupT, st_joinL, st_rcvj, st_sh, st_idxr, st_lenr, st_tupr, st_appr, st_rcvr, st_joinr, st_setr, mulOk_fm, mulOk_r, mulOk_l, st_eq, st_ne, W.eq, W.eqs, W.pl, W.pls, W.dep, W.deps, b14_0, h1, h2, il, jl, e, st_idxD', st_setD, keyOk, keyA, h3, kd, vl, hs, hg, k10, k01, m1, nn, hz1, hz2]
end K61
end

section
set_option linter.all false
set_option maxRecDepth 100000
set_option maxHeartbeats 4000000
/-! k61: the law's own deeds, the loops. -/
namespace K61
open T2
abbrev aj14 (n : Nat) : W → Sl → List O → Res Sl := fun w sw G => asgT (cl n) gk (.nm 4) w sw G
abbrev ai14 (n : Nat) : W → Sl → List O → Res Sl := fun w sw G => asgT (cl n) gk (.nm 3) w sw G
theorem row14 (n : Nat) (a b : List Nat) (ha : a.length ≤ 400) (hb : b.length ≤ 400) (i : Nat) (hi : i ≤ a.length) (y f : Option W) (kvs : List (W × W)) (rest : List O) (c : Nat) (hc : c ≤ 300000) (hk : kvs.length ≤ c) (t : Dtab a b i (b.length + 1) kvs) :
    ∃ kvs' rest' y' f', exB (cl n) gk wf b14_1 [some (.str a), some (.str b), some (.ref 0), some (.int i), y, f] (.dct kvs :: rest) = .ok (.nx [some (.str a), some (.str b), some (.ref 0), some (.int i), y', f']) (.dct kvs' :: rest') ∧ Dtab a b i 0 kvs' ∧ kvs'.length ≤ c + 500 := by
  have h2 : b.length ≤ 16777216 := by omega
  have hsm : small (b.length : Int) = true := small_nat _ (by omega)
  obtain ⟨sw', G', e, hst⟩ := forL_at (asg := aj14 n) (body := fun sw G => exB (cl n) gk wf b14_0 sw G) (s := ⟨rng3L (b.length : Int) (-1) (-1), none⟩) ((List.range (b.length + 1)).map fun (k : Nat) => W.int ((b.length : Int) - (k : Int)))
    (fun k sw G => (∃ y f, sw = [some (.str a), some (.str b), some (.ref 0), some (.int i), y, f]) ∧ ∃ kvs rest, G = .dct kvs :: rest ∧ Dtab a b i (b.length + 1 - k) kvs ∧ kvs.length ≤ c + k) [some (.str a), some (.str b), some (.ref 0), some (.int i), y, f] (.dct kvs :: rest) ⟨⟨_, _, rfl⟩, kvs, rest, rfl, t, hk⟩ (fun _ _ _ _ _ => rfl) (fun k x sw G hx ⟨⟨y, f, hsw⟩, kvs, rest, hG, ht, hl⟩ => by
      subst hsw hG
      obtain ⟨hk, rfl⟩ := dn_get hx
      have e : b.length + 1 - k = (b.length - k) + 1 := by omega
      rw [e] at ht
      obtain ⟨f', o, e1⟩ := s14 n a b ha hb i (b.length - k) hi (by omega) kvs rest f (by omega) ht
      have t1 := ht.put (by omega)
      have := dput_len kvs (key i (b.length - k)) (vl (dist (a.drop i) (b.drop (b.length - k))) (path (a.drop i) (b.drop (b.length - k))))
      exact ⟨[some (.str a), some (.str b), some (.ref 0), some (.int i), some (.int ((b.length - k : Nat) : Int)), f], _, _, _, by simp [ev, evs, evT, evO, evC, evI, asgT, asgTs, evH, pickH, ex, exB, runD, look, seqOf, isKds, isKd, szOk, bnd_ok, bnd_exc, noX_ok, wipe, st_mkt, st_mkf, st_addi, st_adds, st_addt, st_auI, st_auS, st_sub, st_mul, st_fdiv, st_mod, st_pow, st_cat, st_repl, st_reps, st_lt, st_le, st_gt, st_ge, st_eqi, st_nei, st_eqs, st_nes, st_idxL, st_idxS, st_idxT, st_idxs, at_n, at_0, at_1, at_2, at_m1, st_slcL, st_slcT, st_slcs, cut_nn, cut_n, cut_from, cut_1, cut_to1, st_lens, st_lenL, st_lenS, st_lenT, st_inti, st_intb, st_min2, st_max2, st_sumL, st_allL, st_anyL, st_tupL, st_tupT, st_joinL, st_rcvj, st_sh, st_idxr, st_lenr, st_tupr, st_appr, st_rcvr, st_joinr, st_setr, mulOk_fm, mulOk_r, mulOk_l, st_eq, st_ne, W.eq, W.eqs, W.pl, W.pls, W.dep, W.deps, aj14], .inl e1, ⟨_, _, rfl⟩, _, _, rfl, by
        have e : b.length + 1 - (k + 1) = b.length - k := by omega
        rw [e]
        exact t1, by omega⟩)
  obtain ⟨⟨y', f', rfl⟩, kvs', rest', rfl, ht, hl⟩ := hst
  refine ⟨kvs', rest', y', f', ?_, by simpa using ht, by simp at hl; omega⟩
  delta aj14 at e
  rw [← dn] at e
  simp [ev, evs, evT, evO, evC, evI, asgT, asgTs, evH, pickH, ex, exB, runD, look, seqOf, isKds, isKd, szOk, bnd_ok, bnd_exc, noX_ok, wipe, st_mkt, st_mkf, st_addi, st_adds, st_addt, st_auI, st_auS, st_sub, st_mul, st_fdiv, st_mod, st_pow, st_cat, st_repl, st_reps, st_lt, st_le, st_gt, st_ge, st_eqi, st_nei, st_eqs, st_nes, st_idxL, st_idxS, st_idxT, st_idxs, at_n, at_0, at_1, at_2, at_m1, st_slcL, st_slcT, st_slcs, cut_nn, cut_n, cut_from, cut_1, cut_to1, st_lens, st_lenL, st_lenS, st_lenT, st_inti, st_intb, st_min2, st_max2, st_sumL, st_allL, st_anyL, st_tupL, st_tupT, st_joinL, st_rcvj, st_sh, st_idxr, st_lenr, st_tupr, st_appr, st_rcvr, st_joinr, st_setr, mulOk_fm, mulOk_r, mulOk_l, st_eq, st_ne, W.eq, W.eqs, W.pl, W.pls, W.dep, W.deps] at e
  simp [ev, evs, evT, evO, evC, evI, asgT, asgTs, evH, pickH, ex, exB, runD, look, seqOf, isKds, isKd, szOk, bnd_ok, bnd_exc, noX_ok, wipe, st_mkt, st_mkf, st_addi, st_adds, st_addt, st_auI, st_auS, st_sub, st_mul, st_fdiv, st_mod, st_pow, st_cat, st_repl, st_reps, st_lt, st_le, st_gt, st_ge, st_eqi, st_nei, st_eqs, st_nes, st_idxL, st_idxS, st_idxT, st_idxs, at_n, at_0, at_1, at_2, at_m1, st_slcL, st_slcT, st_slcs, cut_nn, cut_n, cut_from, cut_1, cut_to1, st_lens, st_lenL, st_lenS, st_lenT, st_inti, st_intb, st_min2, st_max2, st_sumL, st_allL, st_anyL, st_tupL, st_tupT, st_joinL, st_rcvj, st_sh, st_idxr, st_lenr, st_tupr, st_appr, st_rcvr, st_joinr, st_setr, mulOk_fm, mulOk_r, mulOk_l, st_eq, st_ne, W.eq, W.eqs, W.pl, W.pls, W.dep, W.deps, b14_1, h2, hsm, e, small_m1]
theorem all14 (n : Nat) (a b : List Nat) (ha : a.length ≤ 400) (hb : b.length ≤ 400) :
    ∃ kvs' rest' sw', forL (ai14 n) (fun sw G => exB (cl n) gk wf b14_1 sw G) ⟨rng3L (a.length : Int) (-1) (-1), none⟩ (rng3L (a.length : Int) (-1) (-1)) [some (.str a), some (.str b), some (.ref 0), none, none, none] [.dct []] = .ok (.nx sw') (.dct kvs' :: rest') ∧ sw'[2]? = some (some (.ref 0)) ∧ Dtab a b 0 0 kvs' := by
  obtain ⟨sw', G', e, hst⟩ := forL_at (asg := ai14 n) (body := fun sw G => exB (cl n) gk wf b14_1 sw G) (s := ⟨rng3L (a.length : Int) (-1) (-1), none⟩) ((List.range (a.length + 1)).map fun (k : Nat) => W.int ((a.length : Int) - (k : Int)))
    (fun k sw G => (∃ x y f, sw = [some (.str a), some (.str b), some (.ref 0), x, y, f]) ∧ ∃ kvs rest, G = .dct kvs :: rest ∧ kvs.length ≤ 500 * k ∧ (0 < k → Dtab a b (a.length + 1 - k) 0 kvs)) [some (.str a), some (.str b), some (.ref 0), none, none, none] [.dct []] ⟨⟨_, _, _, rfl⟩, [], [], rfl, by simp, fun z => absurd z (Nat.lt_irrefl 0)⟩ (fun _ _ _ _ _ => rfl) (fun k w sw G hx ⟨⟨x, y, f, hsw⟩, kvs, rest, hG, hl, h1⟩ => by
      subst hsw hG
      obtain ⟨hk, rfl⟩ := dn_get hx
      have t : Dtab a b (a.length - k) (b.length + 1) kvs := by
        rcases Nat.eq_zero_or_pos k with z | z
        · subst z
          exact ⟨fun i' j' p1 p2 _ => by omega, fun j' p1 p2 => by omega⟩
        · have q := h1 z
          have e : a.length + 1 - k = (a.length - k) + 1 := by omega
          rw [e] at q
          refine ⟨fun i' j' p1 p2 p3 => ?_, fun j' p1 p2 => by omega⟩
          by_cases z2 : i' = a.length - k + 1
          · rw [z2]
            exact q.new j' (Nat.zero_le _) p3
          · exact q.old i' j' (by omega) p2 p3
      obtain ⟨kvs', rest', y', f', e1, t1, hl'⟩ := row14 n a b ha hb (a.length - k) (by omega) y f kvs rest (500 * k) (by omega) hl t
      exact ⟨[some (.str a), some (.str b), some (.ref 0), some (.int ((a.length - k : Nat) : Int)), y, f], _, _, _, by simp [ev, evs, evT, evO, evC, evI, asgT, asgTs, evH, pickH, ex, exB, runD, look, seqOf, isKds, isKd, szOk, bnd_ok, bnd_exc, noX_ok, wipe, st_mkt, st_mkf, st_addi, st_adds, st_addt, st_auI, st_auS, st_sub, st_mul, st_fdiv, st_mod, st_pow, st_cat, st_repl, st_reps, st_lt, st_le, st_gt, st_ge, st_eqi, st_nei, st_eqs, st_nes, st_idxL, st_idxS, st_idxT, st_idxs, at_n, at_0, at_1, at_2, at_m1, st_slcL, st_slcT, st_slcs, cut_nn, cut_n, cut_from, cut_1, cut_to1, st_lens, st_lenL, st_lenS, st_lenT, st_inti, st_intb, st_min2, st_max2, st_sumL, st_allL, st_anyL, st_tupL, st_tupT, st_joinL, st_rcvj, st_sh, st_idxr, st_lenr, st_tupr, st_appr, st_rcvr, st_joinr, st_setr, mulOk_fm, mulOk_r, mulOk_l, st_eq, st_ne, W.eq, W.eqs, W.pl, W.pls, W.dep, W.deps, ai14], .inl e1, ⟨_, _, _, rfl⟩, kvs', rest', rfl, by omega, fun _ => by
        have e : a.length + 1 - (k + 1) = a.length - k := by omega
        rw [e]
        exact t1⟩)
  obtain ⟨⟨x', y', f', rfl⟩, kvs', rest', rfl, _, ht⟩ := hst
  rw [← dn] at e
  refine ⟨kvs', rest', _, e, rfl, ?_⟩
  have := ht (by simp)
  simpa using this
theorem t14 (n : Nat) (a b : List Nat) (ha : a.length ≤ 400) (hb : b.length ≤ 400) (G : List O) : callW (cl (n + 1)) .iso 14 [.str a, .str b] G = .ok (vl (dist a b) (path a b)) G := by
  obtain ⟨kvs, rest, sw', e, hsw, t⟩ := all14 n a b ha hb
  have h0 := t.new 0 (Nat.le_refl _) (Nat.zero_le _)
  simp only [List.drop_zero, key] at h0
  refine iso_pl rfl (G1 := .dct kvs :: rest) ?_ (vl_pl _ _)
  have h1 : a.length ≤ 16777216 := by omega
  have hsm : small (a.length : Int) = true := small_nat _ (by omega)
  delta ai14 at e
  rw [c14]
  simp [ev, evs, evT, evO, evC, evI, asgT, asgTs, evH, pickH, ex, exB, runD, look, seqOf, isKds, isKd, szOk, bnd_ok, bnd_exc, noX_ok, wipe, st_mkt, st_mkf, st_addi, st_adds, st_addt, st_auI, st_auS, st_sub, st_mul, st_fdiv, st_mod, st_pow, st_cat, st_repl, st_reps, st_lt, st_le, st_gt, st_ge, st_eqi, st_nei, st_eqs, st_nes, st_idxL, st_idxS, st_idxT, st_idxs, at_n, at_0, at_1, at_2, at_m1, st_slcL, st_slcT, st_slcs, cut_nn, cut_n, cut_from, cut_1, cut_to1, st_lens, st_lenL, st_lenS, st_lenT, st_inti, st_intb, st_min2, st_max2, st_sumL, st_allL, st_anyL, st_tupL, st_tupT, st_joinL, st_rcvj, st_sh, st_idxr, st_lenr, st_tupr, st_appr, st_rcvr, st_joinr, st_setr, mulOk_fm, mulOk_r, mulOk_l, st_eq, st_ne, W.eq, W.eqs, W.pl, W.pls, W.dep, W.deps] at e h0
  simp [ev, evs, evT, evO, evC, evI, asgT, asgTs, evH, pickH, ex, exB, runD, look, seqOf, isKds, isKd, szOk, bnd_ok, bnd_exc, noX_ok, wipe, st_mkt, st_mkf, st_addi, st_adds, st_addt, st_auI, st_auS, st_sub, st_mul, st_fdiv, st_mod, st_pow, st_cat, st_repl, st_reps, st_lt, st_le, st_gt, st_ge, st_eqi, st_nei, st_eqs, st_nes, st_idxL, st_idxS, st_idxT, st_idxs, at_n, at_0, at_1, at_2, at_m1, st_slcL, st_slcT, st_slcs, cut_nn, cut_n, cut_from, cut_1, cut_to1, st_lens, st_lenL, st_lenS, st_lenT, st_inti, st_intb, st_min2, st_max2, st_sumL, st_allL, st_anyL, st_tupL, st_tupT, st_joinL, st_rcvj, st_sh, st_idxr, st_lenr, st_tupr, st_appr, st_rcvr, st_joinr, st_setr, mulOk_fm, mulOk_r, mulOk_l, st_eq, st_ne, W.eq, W.eqs, W.pl, W.pls, W.dep, W.deps, d14, b14, h1, hsm, small_m1, e, hsw, st_idxD', keyOk, keyA, h0]
end K61
end

section
set_option linter.all false
set_option maxRecDepth 100000
set_option maxHeartbeats 4000000
/-! k61: the law's own edit. -/
namespace K61
open T2
def opn : Sta → Bool
  | (_, _, none) => false
  | (_, _, some _) => true
def sl15 (a b : List Nat) (u v : Option W) (s : Sta) (x : Option W) : Sl := [some (.str a), some (.str b), u, v, some (.ref 0), some (.int (s.one.length : Nat)), some (.int (s.oth.length : Nat)), some (.bl (opn s)), x]
def g15 (s : Sta) : List O := [.lst ((eds 0 s.bl).map enc)]
abbrev a15 (n : Nat) : W → Sl → List O → Res Sl := fun w sw G => asgT (cl n) gk (.nm 8) w sw G
abbrev f15 (n : Nat) : Sl → List O → Res Fl := fun sw G => exB (cl n) gk wf b15_0 sw G
theorem bl_len (s : Sta) : s.bl.length ≤ s.1.length + 1 := by
  obtain ⟨B, k, o⟩ := s
  cases o with
  | none => simp [Sta.bl]
  | some p => simp [Sta.bl]
theorem k15 (n : Nat) (a b : List Nat) (u v : Option W) (x y : Nat) (s : Sta) : f15 n (sl15 a b u v s (some (.int 0))) (g15 s) = .ok (.nx (sl15 a b u v (stp 0 x y s) (some (.int 0)))) (g15 (stp 0 x y s)) := by
  have L1 : ((stp 0 x y s).one.length : Int) = s.one.length + 1 := by rw [stp_one]; simp
  have L2 : ((stp 0 x y s).oth.length : Int) = s.oth.length + 1 := by rw [stp_oth]; simp
  simp only [sl15, L1, L2]
  generalize s.one.length = i at *
  generalize s.oth.length = j at *
  obtain ⟨B, k, o⟩ := s
  cases o with
  | none => simp [ev, evs, evT, evO, evC, evI, asgT, asgTs, evH, pickH, ex, exB, runD, look, seqOf, isKds, isKd, szOk, bnd_ok, bnd_exc, noX_ok, wipe, st_mkt, st_mkf, st_addi, st_adds, st_addt, st_auI, st_auS, st_sub, st_mul, st_fdiv, st_mod, st_pow, st_cat, st_repl, st_reps, st_lt, st_le, st_gt, st_ge, st_eqi, st_nei, st_eqs, st_nes, st_idxL, st_idxS, st_idxT, st_idxs, at_n, at_0, at_1, at_2, at_m1, st_slcL, st_slcT, st_slcs, cut_nn, cut_n, cut_from, cut_1, cut_to1, st_lens, st_lenL, st_lenS, st_lenT, st_inti, st_intb, st_min2, st_max2, st_sumL, st_allL, st_anyL, st_tupL, st_tupT, st_joinL, st_rcvj, st_sh, st_idxr, st_lenr, st_tupr, st_appr, st_rcvr, st_joinr, st_setr, mulOk_fm, mulOk_r, mulOk_l, st_eq, st_ne, W.eq, W.eqs, W.pl, W.pls, W.dep, W.deps, f15, b15_0, opn, g15, stp, Sta.bl]
  | some p =>
    obtain ⟨g, c⟩ := p
    simp [ev, evs, evT, evO, evC, evI, asgT, asgTs, evH, pickH, ex, exB, runD, look, seqOf, isKds, isKd, szOk, bnd_ok, bnd_exc, noX_ok, wipe, st_mkt, st_mkf, st_addi, st_adds, st_addt, st_auI, st_auS, st_sub, st_mul, st_fdiv, st_mod, st_pow, st_cat, st_repl, st_reps, st_lt, st_le, st_gt, st_ge, st_eqi, st_nei, st_eqs, st_nes, st_idxL, st_idxS, st_idxT, st_idxs, at_n, at_0, at_1, at_2, at_m1, st_slcL, st_slcT, st_slcs, cut_nn, cut_n, cut_from, cut_1, cut_to1, st_lens, st_lenL, st_lenS, st_lenT, st_inti, st_intb, st_min2, st_max2, st_sumL, st_allL, st_anyL, st_tupL, st_tupT, st_joinL, st_rcvj, st_sh, st_idxr, st_lenr, st_tupr, st_appr, st_rcvr, st_joinr, st_setr, mulOk_fm, mulOk_r, mulOk_l, st_eq, st_ne, W.eq, W.eqs, W.pl, W.pls, W.dep, W.deps, f15, b15_0, opn, g15, stp, Sta.bl]
theorem eds_last (B : List Bl) (k g c : List Nat) : (eds 0 (B ++ [(k, g, c)])).map enc = (eds 0 B).map enc ++ [.tup [.int (bp1 B k), .str g, .str c]] := by
  rw [eds_app]
  simp [eds, bp1, enc]
theorem set_last (l : List W) (x y : W) (m : Nat) (h : l.length = m) : (l ++ [x]).set m y = l ++ [y] := by
  subst h
  simp
theorem dl15 (n : Nat) (a b : List Nat) (ha : a.length ≤ 400) (u v : Option W) (x z : Nat) (s : Sta) (as : List Nat) (hB : s.1.length ≤ 1000) (e1 : a = s.one ++ x :: as) : f15 n (sl15 a b u v s (some (.int 1))) (g15 s) = .ok (.nx (sl15 a b u v (stp 1 x z s) (some (.int 1)))) (g15 (stp 1 x z s)) := by
  have h1 : a.length ≤ 16777216 := by omega
  have L1 : ((stp 1 x z s).one.length : Int) = s.one.length + 1 := by rw [stp_one]; simp
  have L2 : ((stp 1 x z s).oth.length : Int) = s.oth.length := by rw [stp_oth]; simp
  have s1 : a[s.one.length]? = some x := by rw [e1]; simp
  simp only [sl15, L1, L2]
  generalize hi : s.one.length = i at *
  generalize hj : s.oth.length = j at *
  obtain ⟨B, k, o⟩ := s
  have hB' : B.length < 16777216 := by have : B.length ≤ 1000 := hB; omega
  have hl : ((eds 0 B).map enc).length = B.length := eds_len2 B
  have hl2 : (eds 0 B).length = B.length := eds_len B 0
  have st := fun p q => set_last ((eds 0 B).map enc) p q B.length hl
  have hm : ((-1 : Int) + ((B.length : Int) + 1)).toNat = B.length := by omega
  have hm2 : (-1 : Int) ≤ 0 := by omega
  have hm3 : -((B.length : Int) + 1) ≤ -1 := by omega
  have hm4 : (1 : Int) ≤ (B.length : Int) + 1 := by omega
  cases o with
  | none =>
    have e3 : bp1 B k = i := by rw [← hi]; simp [bp1, Sta.one, Sta.bl, Sta.tl]
    simp [ev, evs, evT, evO, evC, evI, asgT, asgTs, evH, pickH, ex, exB, runD, look, seqOf, isKds, isKd, szOk, bnd_ok, bnd_exc, noX_ok, wipe, st_mkt, st_mkf, st_addi, st_adds, st_addt, st_auI, st_auS, st_sub, st_mul, st_fdiv, st_mod, st_pow, st_cat, st_repl, st_reps, st_lt, st_le, st_gt, st_ge, st_eqi, st_nei, st_eqs, st_nes, st_idxL, st_idxS, st_idxT, st_idxs, at_n, at_0, at_1, at_2, at_m1, st_slcL, st_slcT, st_slcs, cut_nn, cut_n, cut_from, cut_1, cut_to1, st_lens, st_lenL, st_lenS, st_lenT, st_inti, st_intb, st_min2, st_max2, st_sumL, st_allL, st_anyL, st_tupL, st_tupT, st_joinL, st_rcvj, st_sh, st_idxr, st_lenr, st_tupr, st_appr, st_rcvr, st_joinr, st_setr, mulOk_fm, mulOk_r, mulOk_l, st_eq, st_ne, W.eq, W.eqs, W.pl, W.pls, W.dep, W.deps, f15, b15_0, opn, g15, stp, Sta.bl, eds_last, h1, s1, hB', hl2, st, hm, hm3, hm4, e3]
  | some p =>
    obtain ⟨g, c⟩ := p
    have hg : g.length + 1 ≤ 16777216 := by
      have := congrArg List.length e1
      rw [one_some] at this
      simp only [List.length_append, List.length_cons] at this
      omega
    simp [ev, evs, evT, evO, evC, evI, asgT, asgTs, evH, pickH, ex, exB, runD, look, seqOf, isKds, isKd, szOk, bnd_ok, bnd_exc, noX_ok, wipe, st_mkt, st_mkf, st_addi, st_adds, st_addt, st_auI, st_auS, st_sub, st_mul, st_fdiv, st_mod, st_pow, st_cat, st_repl, st_reps, st_lt, st_le, st_gt, st_ge, st_eqi, st_nei, st_eqs, st_nes, st_idxL, st_idxS, st_idxT, st_idxs, at_n, at_0, at_1, at_2, at_m1, st_slcL, st_slcT, st_slcs, cut_nn, cut_n, cut_from, cut_1, cut_to1, st_lens, st_lenL, st_lenS, st_lenT, st_inti, st_intb, st_min2, st_max2, st_sumL, st_allL, st_anyL, st_tupL, st_tupT, st_joinL, st_rcvj, st_sh, st_idxr, st_lenr, st_tupr, st_appr, st_rcvr, st_joinr, st_setr, mulOk_fm, mulOk_r, mulOk_l, st_eq, st_ne, W.eq, W.eqs, W.pl, W.pls, W.dep, W.deps, f15, b15_0, opn, g15, stp, Sta.bl, eds_last, h1, s1, hB', hl2, st, hm, hm3, hm4, hg]
theorem in15 (n : Nat) (a b : List Nat) (hb : b.length ≤ 400) (u v : Option W) (y z : Nat) (s : Sta) (bs : List Nat) (hB : s.1.length ≤ 1000) (e2 : b = s.oth ++ y :: bs) : f15 n (sl15 a b u v s (some (.int 2))) (g15 s) = .ok (.nx (sl15 a b u v (stp 2 z y s) (some (.int 2)))) (g15 (stp 2 z y s)) := by
  have h1 : b.length ≤ 16777216 := by omega
  have L1 : ((stp 2 z y s).one.length : Int) = s.one.length := by rw [stp_one]; simp
  have L2 : ((stp 2 z y s).oth.length : Int) = s.oth.length + 1 := by rw [stp_oth]; simp
  have s1 : b[s.oth.length]? = some y := by rw [e2]; simp
  simp only [sl15, L1, L2]
  generalize hi : s.one.length = i at *
  generalize hj : s.oth.length = j at *
  obtain ⟨B, k, o⟩ := s
  have hB' : B.length < 16777216 := by have : B.length ≤ 1000 := hB; omega
  have hl : ((eds 0 B).map enc).length = B.length := eds_len2 B
  have hl2 : (eds 0 B).length = B.length := eds_len B 0
  have st := fun p q => set_last ((eds 0 B).map enc) p q B.length hl
  have hm : ((-1 : Int) + ((B.length : Int) + 1)).toNat = B.length := by omega
  have hm3 : -((B.length : Int) + 1) ≤ -1 := by omega
  have hm4 : (1 : Int) ≤ (B.length : Int) + 1 := by omega
  cases o with
  | none =>
    have e3 : bp1 B k = i := by rw [← hi]; simp [bp1, Sta.one, Sta.bl, Sta.tl]
    simp [ev, evs, evT, evO, evC, evI, asgT, asgTs, evH, pickH, ex, exB, runD, look, seqOf, isKds, isKd, szOk, bnd_ok, bnd_exc, noX_ok, wipe, st_mkt, st_mkf, st_addi, st_adds, st_addt, st_auI, st_auS, st_sub, st_mul, st_fdiv, st_mod, st_pow, st_cat, st_repl, st_reps, st_lt, st_le, st_gt, st_ge, st_eqi, st_nei, st_eqs, st_nes, st_idxL, st_idxS, st_idxT, st_idxs, at_n, at_0, at_1, at_2, at_m1, st_slcL, st_slcT, st_slcs, cut_nn, cut_n, cut_from, cut_1, cut_to1, st_lens, st_lenL, st_lenS, st_lenT, st_inti, st_intb, st_min2, st_max2, st_sumL, st_allL, st_anyL, st_tupL, st_tupT, st_joinL, st_rcvj, st_sh, st_idxr, st_lenr, st_tupr, st_appr, st_rcvr, st_joinr, st_setr, mulOk_fm, mulOk_r, mulOk_l, st_eq, st_ne, W.eq, W.eqs, W.pl, W.pls, W.dep, W.deps, f15, b15_0, opn, g15, stp, Sta.bl, eds_last, h1, s1, hB', hl2, st, hm, hm3, hm4, e3]
  | some p =>
    obtain ⟨g, c⟩ := p
    have hg : c.length + 1 ≤ 16777216 := by
      have := congrArg List.length e2
      rw [oth_some] at this
      simp only [List.length_append, List.length_cons] at this
      omega
    simp [ev, evs, evT, evO, evC, evI, asgT, asgTs, evH, pickH, ex, exB, runD, look, seqOf, isKds, isKd, szOk, bnd_ok, bnd_exc, noX_ok, wipe, st_mkt, st_mkf, st_addi, st_adds, st_addt, st_auI, st_auS, st_sub, st_mul, st_fdiv, st_mod, st_pow, st_cat, st_repl, st_reps, st_lt, st_le, st_gt, st_ge, st_eqi, st_nei, st_eqs, st_nes, st_idxL, st_idxS, st_idxT, st_idxs, at_n, at_0, at_1, at_2, at_m1, st_slcL, st_slcT, st_slcs, cut_nn, cut_n, cut_from, cut_1, cut_to1, st_lens, st_lenL, st_lenS, st_lenT, st_inti, st_intb, st_min2, st_max2, st_sumL, st_allL, st_anyL, st_tupL, st_tupT, st_joinL, st_rcvj, st_sh, st_idxr, st_lenr, st_tupr, st_appr, st_rcvr, st_joinr, st_setr, mulOk_fm, mulOk_r, mulOk_l, st_eq, st_ne, W.eq, W.eqs, W.pl, W.pls, W.dep, W.deps, f15, b15_0, opn, g15, stp, Sta.bl, eds_last, h1, s1, hB', hl2, st, hm, hm3, hm4, hg]
theorem w15 (n : Nat) (a b : List Nat) (ha : a.length ≤ 400) (hb : b.length ≤ 400) (u v : Option W) (sq : Seq) (hq : ∀ G, sq.ok G = true) : ∀ (m : Nat) (as bs : List Nat) (s : Sta) (x0 : Option W), as.length + bs.length ≤ m → s.1.length + m ≤ 1000 → a = s.one ++ as → b = s.oth ++ bs →
    ∃ x', forL (a15 n) (f15 n) sq ((path as bs).map fun x => .int (x : Nat)) (sl15 a b u v s x0) (g15 s) = .ok (.nx (sl15 a b u v (go as bs s) x')) (g15 (go as bs s))
  | 0, as, bs, s, x0, h, _, e1, e2 => by
    have p1 : as = [] := List.length_eq_zero_iff.mp (by omega)
    have p2 : bs = [] := List.length_eq_zero_iff.mp (by omega)
    subst p1 p2
    rw [go, path]
    exact ⟨x0, forL_nil (hq _)⟩
  | m + 1, as, bs, s, x0, h, hm, e1, e2 => by
    cases as with
    | nil =>
      cases bs with
      | nil =>
        rw [go, path]
        exact ⟨x0, forL_nil (hq _)⟩
      | cons y bs =>
        have q := stp_len 2 0 y s
        obtain ⟨x', ih⟩ := w15 n a b ha hb u v sq hq m [] bs (stp 2 0 y s) (some (.int 2)) (by simp only [List.length_cons] at h; omega) (by omega) (by rw [stp_one]; simpa using e1) (by rw [stp_oth]; simpa using e2)
        refine ⟨x', ?_⟩
        rw [go, path, List.map_cons, forL_ok (hq _) (sw1 := sl15 a b u v s (some (.int 2))) (G1 := g15 s) (by simp [ev, evs, evT, evO, evC, evI, asgT, asgTs, evH, pickH, ex, exB, runD, look, seqOf, isKds, isKd, szOk, bnd_ok, bnd_exc, noX_ok, wipe, st_mkt, st_mkf, st_addi, st_adds, st_addt, st_auI, st_auS, st_sub, st_mul, st_fdiv, st_mod, st_pow, st_cat, st_repl, st_reps, st_lt, st_le, st_gt, st_ge, st_eqi, st_nei, st_eqs, st_nes, st_idxL, st_idxS, st_idxT, st_idxs, at_n, at_0, at_1, at_2, at_m1, st_slcL, st_slcT, st_slcs, cut_nn, cut_n, cut_from, cut_1, cut_to1, st_lens, st_lenL, st_lenS, st_lenT, st_inti, st_intb, st_min2, st_max2, st_sumL, st_allL, st_anyL, st_tupL, st_tupT, st_joinL, st_rcvj, st_sh, st_idxr, st_lenr, st_tupr, st_appr, st_rcvr, st_joinr, st_setr, mulOk_fm, mulOk_r, mulOk_l, st_eq, st_ne, W.eq, W.eqs, W.pl, W.pls, W.dep, W.deps, a15, sl15]) (in15 n a b hb u v y 0 s bs (by omega) e2)]
        exact ih
    | cons x as =>
      cases bs with
      | nil =>
        have q := stp_len 1 x 0 s
        obtain ⟨x', ih⟩ := w15 n a b ha hb u v sq hq m as [] (stp 1 x 0 s) (some (.int 1)) (by simp only [List.length_cons] at h; omega) (by omega) (by rw [stp_one]; simpa using e1) (by rw [stp_oth]; simpa using e2)
        refine ⟨x', ?_⟩
        rw [go, path, List.map_cons, forL_ok (hq _) (sw1 := sl15 a b u v s (some (.int 1))) (G1 := g15 s) (by simp [ev, evs, evT, evO, evC, evI, asgT, asgTs, evH, pickH, ex, exB, runD, look, seqOf, isKds, isKd, szOk, bnd_ok, bnd_exc, noX_ok, wipe, st_mkt, st_mkf, st_addi, st_adds, st_addt, st_auI, st_auS, st_sub, st_mul, st_fdiv, st_mod, st_pow, st_cat, st_repl, st_reps, st_lt, st_le, st_gt, st_ge, st_eqi, st_nei, st_eqs, st_nes, st_idxL, st_idxS, st_idxT, st_idxs, at_n, at_0, at_1, at_2, at_m1, st_slcL, st_slcT, st_slcs, cut_nn, cut_n, cut_from, cut_1, cut_to1, st_lens, st_lenL, st_lenS, st_lenT, st_inti, st_intb, st_min2, st_max2, st_sumL, st_allL, st_anyL, st_tupL, st_tupT, st_joinL, st_rcvj, st_sh, st_idxr, st_lenr, st_tupr, st_appr, st_rcvr, st_joinr, st_setr, mulOk_fm, mulOk_r, mulOk_l, st_eq, st_ne, W.eq, W.eqs, W.pl, W.pls, W.dep, W.deps, a15, sl15]) (dl15 n a b ha u v x 0 s as (by omega) e1)]
        exact ih
      | cons y bs =>
        by_cases exy : x = y
        · subst exy
          have q := stp_len 0 x x s
          obtain ⟨x', ih⟩ := w15 n a b ha hb u v sq hq m as bs (stp 0 x x s) (some (.int 0)) (by simp only [List.length_cons] at h; omega) (by omega) (by rw [stp_one]; simpa using e1) (by rw [stp_oth]; simpa using e2)
          refine ⟨x', ?_⟩
          rw [go, if_pos rfl, path, if_pos rfl, List.map_cons, forL_ok (hq _) (sw1 := sl15 a b u v s (some (.int 0))) (G1 := g15 s) (by simp [ev, evs, evT, evO, evC, evI, asgT, asgTs, evH, pickH, ex, exB, runD, look, seqOf, isKds, isKd, szOk, bnd_ok, bnd_exc, noX_ok, wipe, st_mkt, st_mkf, st_addi, st_adds, st_addt, st_auI, st_auS, st_sub, st_mul, st_fdiv, st_mod, st_pow, st_cat, st_repl, st_reps, st_lt, st_le, st_gt, st_ge, st_eqi, st_nei, st_eqs, st_nes, st_idxL, st_idxS, st_idxT, st_idxs, at_n, at_0, at_1, at_2, at_m1, st_slcL, st_slcT, st_slcs, cut_nn, cut_n, cut_from, cut_1, cut_to1, st_lens, st_lenL, st_lenS, st_lenT, st_inti, st_intb, st_min2, st_max2, st_sumL, st_allL, st_anyL, st_tupL, st_tupT, st_joinL, st_rcvj, st_sh, st_idxr, st_lenr, st_tupr, st_appr, st_rcvr, st_joinr, st_setr, mulOk_fm, mulOk_r, mulOk_l, st_eq, st_ne, W.eq, W.eqs, W.pl, W.pls, W.dep, W.deps, a15, sl15]) (k15 n a b u v x x s)]
          exact ih
        · by_cases hd : dist (x :: as) (y :: bs) = 1 + dist as (y :: bs)
          · have q := stp_len 1 x y s
            obtain ⟨x', ih⟩ := w15 n a b ha hb u v sq hq m as (y :: bs) (stp 1 x y s) (some (.int 1)) (by simp only [List.length_cons] at h ⊢; omega) (by omega) (by rw [stp_one]; simpa using e1) (by rw [stp_oth]; simpa using e2)
            refine ⟨x', ?_⟩
            rw [go, if_neg exy, if_pos hd, path, if_neg exy, if_pos hd, List.map_cons, forL_ok (hq _) (sw1 := sl15 a b u v s (some (.int 1))) (G1 := g15 s) (by simp [ev, evs, evT, evO, evC, evI, asgT, asgTs, evH, pickH, ex, exB, runD, look, seqOf, isKds, isKd, szOk, bnd_ok, bnd_exc, noX_ok, wipe, st_mkt, st_mkf, st_addi, st_adds, st_addt, st_auI, st_auS, st_sub, st_mul, st_fdiv, st_mod, st_pow, st_cat, st_repl, st_reps, st_lt, st_le, st_gt, st_ge, st_eqi, st_nei, st_eqs, st_nes, st_idxL, st_idxS, st_idxT, st_idxs, at_n, at_0, at_1, at_2, at_m1, st_slcL, st_slcT, st_slcs, cut_nn, cut_n, cut_from, cut_1, cut_to1, st_lens, st_lenL, st_lenS, st_lenT, st_inti, st_intb, st_min2, st_max2, st_sumL, st_allL, st_anyL, st_tupL, st_tupT, st_joinL, st_rcvj, st_sh, st_idxr, st_lenr, st_tupr, st_appr, st_rcvr, st_joinr, st_setr, mulOk_fm, mulOk_r, mulOk_l, st_eq, st_ne, W.eq, W.eqs, W.pl, W.pls, W.dep, W.deps, a15, sl15]) (dl15 n a b ha u v x y s as (by omega) e1)]
            exact ih
          · have q := stp_len 2 x y s
            obtain ⟨x', ih⟩ := w15 n a b ha hb u v sq hq m (x :: as) bs (stp 2 x y s) (some (.int 2)) (by simp only [List.length_cons] at h ⊢; omega) (by omega) (by rw [stp_one]; simpa using e1) (by rw [stp_oth]; simpa using e2)
            refine ⟨x', ?_⟩
            rw [go, if_neg exy, if_neg hd, path, if_neg exy, if_neg hd, List.map_cons, forL_ok (hq _) (sw1 := sl15 a b u v s (some (.int 2))) (G1 := g15 s) (by simp [ev, evs, evT, evO, evC, evI, asgT, asgTs, evH, pickH, ex, exB, runD, look, seqOf, isKds, isKd, szOk, bnd_ok, bnd_exc, noX_ok, wipe, st_mkt, st_mkf, st_addi, st_adds, st_addt, st_auI, st_auS, st_sub, st_mul, st_fdiv, st_mod, st_pow, st_cat, st_repl, st_reps, st_lt, st_le, st_gt, st_ge, st_eqi, st_nei, st_eqs, st_nes, st_idxL, st_idxS, st_idxT, st_idxs, at_n, at_0, at_1, at_2, at_m1, st_slcL, st_slcT, st_slcs, cut_nn, cut_n, cut_from, cut_1, cut_to1, st_lens, st_lenL, st_lenS, st_lenT, st_inti, st_intb, st_min2, st_max2, st_sumL, st_allL, st_anyL, st_tupL, st_tupT, st_joinL, st_rcvj, st_sh, st_idxr, st_lenr, st_tupr, st_appr, st_rcvr, st_joinr, st_setr, mulOk_fm, mulOk_r, mulOk_l, st_eq, st_ne, W.eq, W.eqs, W.pl, W.pls, W.dep, W.deps, a15, sl15]) (in15 n a b hb u v y x s bs (by omega) e2)]
            exact ih
theorem t15 (n : Nat) (a b : List Nat) (ha : a.length ≤ 400) (hb : b.length ≤ 400) (G : List O) : callW (cl (n + 2)) .iso 15 [.str a, .str b] G = .ok (encE (edit a b)) G := by
  have h14 := t14 n a b ha hb []
  obtain ⟨x', e⟩ := w15 (n + 1) a b ha hb (some (.int (dist a b : Nat))) (some (.tup ((path a b).map fun x => .int (x : Nat)))) ⟨(path a b).map fun x => .int (x : Nat), none⟩ (fun _ => rfl) _ a b ([], [], none) none (Nat.le_refl _) (by simp; omega) (by simp [Sta.one, Sta.bl, Sta.tl, one]) (by simp [Sta.oth, Sta.bl, Sta.tl, oth])
  have hfin : go a b ([], [], none) = fin a b := rfl
  have hsl : sl15 a b (some (.int (dist a b : Nat))) (some (.tup ((path a b).map fun x => .int (x : Nat)))) ([], [], none) none = [some (.str a), some (.str b), some (.int (dist a b : Nat)), some (.tup ((path a b).map fun x => .int (x : Nat))), some (.ref 0), some (.int 0), some (.int 0), some (.bl false), none] := rfl
  have hg : g15 ([], [], none) = [.lst []] := rfl
  rw [hfin, hsl, hg] at e
  refine iso_pl rfl (G1 := g15 (fin a b)) ?_ (encE_pl _)
  unfold edit
  generalize fin a b = s at *
  delta a15 f15 at e
  rw [c15]
  simp [ev, evs, evT, evO, evC, evI, asgT, asgTs, evH, pickH, ex, exB, runD, look, seqOf, isKds, isKd, szOk, bnd_ok, bnd_exc, noX_ok, wipe, st_mkt, st_mkf, st_addi, st_adds, st_addt, st_auI, st_auS, st_sub, st_mul, st_fdiv, st_mod, st_pow, st_cat, st_repl, st_reps, st_lt, st_le, st_gt, st_ge, st_eqi, st_nei, st_eqs, st_nes, st_idxL, st_idxS, st_idxT, st_idxs, at_n, at_0, at_1, at_2, at_m1, st_slcL, st_slcT, st_slcs, cut_nn, cut_n, cut_from, cut_1, cut_to1, st_lens, st_lenL, st_lenS, st_lenT, st_inti, st_intb, st_min2, st_max2, st_sumL, st_allL, st_anyL, st_tupL, st_tupT, st_joinL, st_rcvj, st_sh, st_idxr, st_lenr, st_tupr, st_appr, st_rcvr, st_joinr, st_setr, mulOk_fm, mulOk_r, mulOk_l, st_eq, st_ne, W.eq, W.eqs, W.pl, W.pls, W.dep, W.deps, vl, sl15, g15] at e h14
  simp [ev, evs, evT, evO, evC, evI, asgT, asgTs, evH, pickH, ex, exB, runD, look, seqOf, isKds, isKd, szOk, bnd_ok, bnd_exc, noX_ok, wipe, st_mkt, st_mkf, st_addi, st_adds, st_addt, st_auI, st_auS, st_sub, st_mul, st_fdiv, st_mod, st_pow, st_cat, st_repl, st_reps, st_lt, st_le, st_gt, st_ge, st_eqi, st_nei, st_eqs, st_nes, st_idxL, st_idxS, st_idxT, st_idxs, at_n, at_0, at_1, at_2, at_m1, st_slcL, st_slcT, st_slcs, cut_nn, cut_n, cut_from, cut_1, cut_to1, st_lens, st_lenL, st_lenS, st_lenT, st_inti, st_intb, st_min2, st_max2, st_sumL, st_allL, st_anyL, st_tupL, st_tupT, st_joinL, st_rcvj, st_sh, st_idxr, st_lenr, st_tupr, st_appr, st_rcvr, st_joinr, st_setr, mulOk_fm, mulOk_r, mulOk_l, st_eq, st_ne, W.eq, W.eqs, W.pl, W.pls, W.dep, W.deps, d15, b15, h14, e, g15, encE]
end K61
end

section
set_option linter.all false
set_option maxRecDepth 100000
set_option maxHeartbeats 4000000
/-! k61: the law's draws. -/
namespace K61
open T2
def isBag (G : List O) (i : Nat) : Prop := ∃ a b c : Int, G[i]? = some (.lst [.int a, .int b, .int c])
theorem isBag_set {G : List O} {i : Nat} (h : isBag G i) (a b c : Int) : isBag (G.set i (.lst [.int a, .int b, .int c])) i := by
  obtain ⟨_, _, _, h⟩ := h
  obtain ⟨hl, _⟩ := List.getElem?_eq_some_iff.mp h
  exact ⟨a, b, c, by simp [hl]⟩
theorem draw (n : Nat) (G : List O) (i : Nat) (m : Int) (h : isBag G i) (hm : 0 < m) (hm2 : m < 1000) : ∃ r G', cl (n + 1) 11 [.ref i, .int m] G = .ok (.int r) G' ∧ 0 ≤ r ∧ r < m ∧ isBag G' i := by
  obtain ⟨a, b, c, hG⟩ := h
  obtain ⟨hl, _⟩ := List.getElem?_eq_some_iff.mp hG
  have hs : ∀ o : O, (G.set i o)[i]? = some o := fun o => by simp [hl]
  have d0' : m ≠ 0 := by omega
  have hd : divOk m = true := divOk_lit d0' (by omega)
  have r0 := fun x : Int => fm_lt (x := x) hm
  rw [c11]
  by_cases ha : a = 0
  · subst ha
    refine ⟨_, _, by
      simp only [d11, b11]
      simp [ev, evs, evT, evO, evC, evI, asgT, asgTs, evH, pickH, ex, exB, runD, look, seqOf, isKds, isKd, szOk, bnd_ok, bnd_exc, noX_ok, wipe, st_mkt, st_mkf, st_addi, st_adds, st_addt, st_auI, st_auS, st_sub, st_mul, st_fdiv, st_mod, st_pow, st_cat, st_repl, st_reps, st_lt, st_le, st_gt, st_ge, st_eqi, st_nei, st_eqs, st_nes, st_idxL, st_idxS, st_idxT, st_idxs, at_n, at_0, at_1, at_2, at_m1, st_slcL, st_slcT, st_slcs, cut_nn, cut_n, cut_from, cut_1, cut_to1, st_lens, st_lenL, st_lenS, st_lenT, st_inti, st_intb, st_min2, st_max2, st_sumL, st_allL, st_anyL, st_tupL, st_tupT, st_joinL, st_rcvj, st_sh, st_idxr, st_lenr, st_tupr, st_appr, st_rcvr, st_joinr, st_setr, mulOk_fm, mulOk_r, mulOk_l, st_eq, st_ne, W.eq, W.eqs, W.pl, W.pls, W.dep, W.deps, hG, hs, hd, d0']
      first | exact ⟨rfl, rfl⟩ | rfl, (r0 _).1, (r0 _).2, ?_⟩
    exact ⟨_, _, _, hs _⟩
  · refine ⟨_, _, by
      simp only [d11, b11]
      simp [ev, evs, evT, evO, evC, evI, asgT, asgTs, evH, pickH, ex, exB, runD, look, seqOf, isKds, isKd, szOk, bnd_ok, bnd_exc, noX_ok, wipe, st_mkt, st_mkf, st_addi, st_adds, st_addt, st_auI, st_auS, st_sub, st_mul, st_fdiv, st_mod, st_pow, st_cat, st_repl, st_reps, st_lt, st_le, st_gt, st_ge, st_eqi, st_nei, st_eqs, st_nes, st_idxL, st_idxS, st_idxT, st_idxs, at_n, at_0, at_1, at_2, at_m1, st_slcL, st_slcT, st_slcs, cut_nn, cut_n, cut_from, cut_1, cut_to1, st_lens, st_lenL, st_lenS, st_lenT, st_inti, st_intb, st_min2, st_max2, st_sumL, st_allL, st_anyL, st_tupL, st_tupT, st_joinL, st_rcvj, st_sh, st_idxr, st_lenr, st_tupr, st_appr, st_rcvr, st_joinr, st_setr, mulOk_fm, mulOk_r, mulOk_l, st_eq, st_ne, W.eq, W.eqs, W.pl, W.pls, W.dep, W.deps, hG, hs, hd, d0', ha]
      first | exact ⟨rfl, rfl⟩ | rfl, (r0 _).1, (r0 _).2, ?_⟩
    exact ⟨_, _, _, hs _⟩
theorem one_ (n : Nat) (G : List O) (i : Nat) (h : isBag G i) : ∃ x G', cl (n + 2) 12 [.ref i, .str [97, 98, 99]] G = .ok (.str [x]) G' ∧ (x = 97 ∨ x = 98 ∨ x = 99) ∧ isBag G' i := by
  obtain ⟨r, G', e, h0, h1, h2⟩ := draw n G i 3 h (by decide) (by decide)
  rw [c12]
  have : r = 0 ∨ r = 1 ∨ r = 2 := by omega
  rcases this with rfl | rfl | rfl
  · exact ⟨97, G', by simp [ev, evs, evT, evO, evC, evI, asgT, asgTs, evH, pickH, ex, exB, runD, look, seqOf, isKds, isKd, szOk, bnd_ok, bnd_exc, noX_ok, wipe, st_mkt, st_mkf, st_addi, st_adds, st_addt, st_auI, st_auS, st_sub, st_mul, st_fdiv, st_mod, st_pow, st_cat, st_repl, st_reps, st_lt, st_le, st_gt, st_ge, st_eqi, st_nei, st_eqs, st_nes, st_idxL, st_idxS, st_idxT, st_idxs, at_n, at_0, at_1, at_2, at_m1, st_slcL, st_slcT, st_slcs, cut_nn, cut_n, cut_from, cut_1, cut_to1, st_lens, st_lenL, st_lenS, st_lenT, st_inti, st_intb, st_min2, st_max2, st_sumL, st_allL, st_anyL, st_tupL, st_tupT, st_joinL, st_rcvj, st_sh, st_idxr, st_lenr, st_tupr, st_appr, st_rcvr, st_joinr, st_setr, mulOk_fm, mulOk_r, mulOk_l, st_eq, st_ne, W.eq, W.eqs, W.pl, W.pls, W.dep, W.deps, d12, b12, e], by simp, h2⟩
  · exact ⟨98, G', by simp [ev, evs, evT, evO, evC, evI, asgT, asgTs, evH, pickH, ex, exB, runD, look, seqOf, isKds, isKd, szOk, bnd_ok, bnd_exc, noX_ok, wipe, st_mkt, st_mkf, st_addi, st_adds, st_addt, st_auI, st_auS, st_sub, st_mul, st_fdiv, st_mod, st_pow, st_cat, st_repl, st_reps, st_lt, st_le, st_gt, st_ge, st_eqi, st_nei, st_eqs, st_nes, st_idxL, st_idxS, st_idxT, st_idxs, at_n, at_0, at_1, at_2, at_m1, st_slcL, st_slcT, st_slcs, cut_nn, cut_n, cut_from, cut_1, cut_to1, st_lens, st_lenL, st_lenS, st_lenT, st_inti, st_intb, st_min2, st_max2, st_sumL, st_allL, st_anyL, st_tupL, st_tupT, st_joinL, st_rcvj, st_sh, st_idxr, st_lenr, st_tupr, st_appr, st_rcvr, st_joinr, st_setr, mulOk_fm, mulOk_r, mulOk_l, st_eq, st_ne, W.eq, W.eqs, W.pl, W.pls, W.dep, W.deps, d12, b12, e], by simp, h2⟩
  · exact ⟨99, G', by simp [ev, evs, evT, evO, evC, evI, asgT, asgTs, evH, pickH, ex, exB, runD, look, seqOf, isKds, isKd, szOk, bnd_ok, bnd_exc, noX_ok, wipe, st_mkt, st_mkf, st_addi, st_adds, st_addt, st_auI, st_auS, st_sub, st_mul, st_fdiv, st_mod, st_pow, st_cat, st_repl, st_reps, st_lt, st_le, st_gt, st_ge, st_eqi, st_nei, st_eqs, st_nes, st_idxL, st_idxS, st_idxT, st_idxs, at_n, at_0, at_1, at_2, at_m1, st_slcL, st_slcT, st_slcs, cut_nn, cut_n, cut_from, cut_1, cut_to1, st_lens, st_lenL, st_lenS, st_lenT, st_inti, st_intb, st_min2, st_max2, st_sumL, st_allL, st_anyL, st_tupL, st_tupT, st_joinL, st_rcvj, st_sh, st_idxr, st_lenr, st_tupr, st_appr, st_rcvr, st_joinr, st_setr, mulOk_fm, mulOk_r, mulOk_l, st_eq, st_ne, W.eq, W.eqs, W.pl, W.pls, W.dep, W.deps, d12, b12, e], by simp, h2⟩
def abc (x : Nat) : Prop := x = 97 ∨ x = 98 ∨ x = 99
end K61
end

section
set_option linter.all false
set_option maxRecDepth 100000
set_option maxHeartbeats 4000000
/-! k61: the law's words and bags. -/
namespace K61
open T2
theorem strs_1 : ∀ xs : List Nat, strs? (xs.map fun x => W.str [x]) = some (xs.map fun x => [x])
  | [] => rfl
  | x :: xs => by simp [strs?, strs_1 xs]
theorem len_1 : ∀ xs : List Nat, ((xs.map fun x => [x]).map List.length).sum = xs.length
  | [] => rfl
  | x :: xs => by
    have := len_1 xs
    simp only [List.map_cons, List.sum_cons, List.length_cons, List.length_nil, this]
    omega
theorem flat_1 : ∀ xs : List Nat, (xs.map fun x => [x]).flatten = xs
  | [] => rfl
  | x :: xs => by rw [List.map_cons, List.flatten_cons, flat_1 xs]; rfl
theorem sum_1 : ∀ xs : List Nat, (xs.map fun _ => 1).sum = xs.length
  | [] => rfl
  | x :: xs => by
    have := sum_1 xs
    simp only [List.map_cons, List.sum_cons, List.length_cons, this]
    omega
theorem word (n : Nat) (G : List O) (i : Nat) (m : Int) (h : isBag G i) (hm : 0 < m) (hm2 : m < 1000) : ∃ w G', cl (n + 3) 16 [.ref i, .int m] G = .ok (.str w) G' ∧ (w.length : Int) < m ∧ (∀ x ∈ w, abc x) ∧ isBag G' i := by
  obtain ⟨r, G1, e, h0, h1, h2⟩ := draw (n + 1) G i m h hm hm2
  obtain ⟨ys, G2, el, ⟨w, hw, habc, hbag⟩, hlen⟩ := lcL_rel (asg := fun x G => asgT (cl (n + 2)) gk (.nm 2) x [some (.ref i), some (.int m), none] G) (cd := fun sw1 G => evC (cl (n + 2)) gk .no sw1 G) (e := fun sw1 G => ev (cl (n + 2)) gk e16_0 sw1 G) (s := ⟨rngL 0 r, none⟩)
    (fun acc G => ∃ w : List Nat, acc = w.map (fun x => W.str [x]) ∧ (∀ x ∈ w, abc x) ∧ isBag G i) (fun _ _ _ => rfl) (rngL 0 r) [] G1 (by simp [rngL]; omega) ⟨[], rfl, by simp, h2⟩ (fun x acc G hx ⟨w, e1, e2, e3⟩ => by
      obtain ⟨c, G', ec, hc, hb⟩ := one_ n G i e3
      exact ⟨[some (.ref i), some (.int m), some x], G, G, .str [c], G', by simp [ev, evs, evT, evO, evC, evI, asgT, asgTs, evH, pickH, ex, exB, runD, look, seqOf, isKds, isKd, szOk, bnd_ok, bnd_exc, noX_ok, wipe, st_mkt, st_mkf, st_addi, st_adds, st_addt, st_auI, st_auS, st_sub, st_mul, st_fdiv, st_mod, st_pow, st_cat, st_repl, st_reps, st_lt, st_le, st_gt, st_ge, st_eqi, st_nei, st_eqs, st_nes, st_idxL, st_idxS, st_idxT, st_idxs, at_n, at_0, at_1, at_2, at_m1, st_slcL, st_slcT, st_slcs, cut_nn, cut_n, cut_from, cut_1, cut_to1, st_lens, st_lenL, st_lenS, st_lenT, st_inti, st_intb, st_min2, st_max2, st_sumL, st_allL, st_anyL, st_tupL, st_tupT, st_joinL, st_rcvj, st_sh, st_idxr, st_lenr, st_tupr, st_appr, st_rcvr, st_joinr, st_setr, mulOk_fm, mulOk_r, mulOk_l, st_eq, st_ne, W.eq, W.eqs, W.pl, W.pls, W.dep, W.deps], by simp [ev, evs, evT, evO, evC, evI, asgT, asgTs, evH, pickH, ex, exB, runD, look, seqOf, isKds, isKd, szOk, bnd_ok, bnd_exc, noX_ok, wipe, st_mkt, st_mkf, st_addi, st_adds, st_addt, st_auI, st_auS, st_sub, st_mul, st_fdiv, st_mod, st_pow, st_cat, st_repl, st_reps, st_lt, st_le, st_gt, st_ge, st_eqi, st_nei, st_eqs, st_nes, st_idxL, st_idxS, st_idxT, st_idxs, at_n, at_0, at_1, at_2, at_m1, st_slcL, st_slcT, st_slcs, cut_nn, cut_n, cut_from, cut_1, cut_to1, st_lens, st_lenL, st_lenS, st_lenT, st_inti, st_intb, st_min2, st_max2, st_sumL, st_allL, st_anyL, st_tupL, st_tupT, st_joinL, st_rcvj, st_sh, st_idxr, st_lenr, st_tupr, st_appr, st_rcvr, st_joinr, st_setr, mulOk_fm, mulOk_r, mulOk_l, st_eq, st_ne, W.eq, W.eqs, W.pl, W.pls, W.dep, W.deps], by simp [ev, evs, evT, evO, evC, evI, asgT, asgTs, evH, pickH, ex, exB, runD, look, seqOf, isKds, isKd, szOk, bnd_ok, bnd_exc, noX_ok, wipe, st_mkt, st_mkf, st_addi, st_adds, st_addt, st_auI, st_auS, st_sub, st_mul, st_fdiv, st_mod, st_pow, st_cat, st_repl, st_reps, st_lt, st_le, st_gt, st_ge, st_eqi, st_nei, st_eqs, st_nes, st_idxL, st_idxS, st_idxT, st_idxs, at_n, at_0, at_1, at_2, at_m1, st_slcL, st_slcT, st_slcs, cut_nn, cut_n, cut_from, cut_1, cut_to1, st_lens, st_lenL, st_lenS, st_lenT, st_inti, st_intb, st_min2, st_max2, st_sumL, st_allL, st_anyL, st_tupL, st_tupT, st_joinL, st_rcvj, st_sh, st_idxr, st_lenr, st_tupr, st_appr, st_rcvr, st_joinr, st_setr, mulOk_fm, mulOk_r, mulOk_l, st_eq, st_ne, W.eq, W.eqs, W.pl, W.pls, W.dep, W.deps, e16_0, ec], w ++ [c], by simp [e1], by
        intro x hx
        rcases List.mem_append.mp hx with h | h
        · exact e2 x h
        · rw [List.mem_singleton.mp h]
          exact hc, hb⟩)
  have hl : w.length = r.toNat := by
    have := hlen
    rw [hw] at this
    simpa [rngL] using this
  have hsm : small r = true := by
    have : r.natAbs < 4611686018427387904 := by omega
    simp only [small, decide_eq_true this]
  have hz : w.length ≤ 16777216 := by omega
  refine ⟨w, G2, ?_, by omega, habc, hbag⟩
  rw [c16]
  rw [hw] at el
  have hb : strs? (List.map ((fun x => W.str [x])) w) = some (w.map fun x => [x]) := strs_1 w
  simp [ev, evs, evT, evO, evC, evI, asgT, asgTs, evH, pickH, ex, exB, runD, look, seqOf, isKds, isKd, szOk, bnd_ok, bnd_exc, noX_ok, wipe, st_mkt, st_mkf, st_addi, st_adds, st_addt, st_auI, st_auS, st_sub, st_mul, st_fdiv, st_mod, st_pow, st_cat, st_repl, st_reps, st_lt, st_le, st_gt, st_ge, st_eqi, st_nei, st_eqs, st_nes, st_idxL, st_idxS, st_idxT, st_idxs, at_n, at_0, at_1, at_2, at_m1, st_slcL, st_slcT, st_slcs, cut_nn, cut_n, cut_from, cut_1, cut_to1, st_lens, st_lenL, st_lenS, st_lenT, st_inti, st_intb, st_min2, st_max2, st_sumL, st_allL, st_anyL, st_tupL, st_tupT, st_joinL, st_rcvj, st_sh, st_idxr, st_lenr, st_tupr, st_appr, st_rcvr, st_joinr, st_setr, mulOk_fm, mulOk_r, mulOk_l, st_eq, st_ne, W.eq, W.eqs, W.pl, W.pls, W.dep, W.deps] at el
  simp [ev, evs, evT, evO, evC, evI, asgT, asgTs, evH, pickH, ex, exB, runD, look, seqOf, isKds, isKd, szOk, bnd_ok, bnd_exc, noX_ok, wipe, st_mkt, st_mkf, st_addi, st_adds, st_addt, st_auI, st_auS, st_sub, st_mul, st_fdiv, st_mod, st_pow, st_cat, st_repl, st_reps, st_lt, st_le, st_gt, st_ge, st_eqi, st_nei, st_eqs, st_nes, st_idxL, st_idxS, st_idxT, st_idxs, at_n, at_0, at_1, at_2, at_m1, st_slcL, st_slcT, st_slcs, cut_nn, cut_n, cut_from, cut_1, cut_to1, st_lens, st_lenL, st_lenS, st_lenT, st_inti, st_intb, st_min2, st_max2, st_sumL, st_allL, st_anyL, st_tupL, st_tupT, st_joinL, st_rcvj, st_sh, st_idxr, st_lenr, st_tupr, st_appr, st_rcvr, st_joinr, st_setr, mulOk_fm, mulOk_r, mulOk_l, st_eq, st_ne, W.eq, W.eqs, W.pl, W.pls, W.dep, W.deps, d16, b16, e, hsm, el, hz, sum_1, strs_1, joinS_nil, flat_1, Function.comp_def]
theorem bag_new (G : List O) (a b c : Int) : isBag (G ++ [.lst [.int a, .int b, .int c]]) G.length := ⟨a, b, c, by simp⟩
theorem bag (n : Nat) (G : List O) (ns : List Int) (k : Nat) : ∃ G', cl (n + 1) 10 [.scr (ns.map .int), .int k] G = .ok (.ref G.length) G' ∧ isBag G' G.length := by
  have hp : powOk 10 18 = true := by decide
  by_cases hk : k < ns.length
  · have hk2 : (k : Int) < (ns.length : Int) := by omega
    have hat : (ns.map W.int)[k]? = some (.int ns[k]) := by simp [hk]
    generalize ns[k] = c at hat
    by_cases hc : (1000000000000000000 : Int) ≤ c
    · exact ⟨G ++ [.lst [.int c, .int c, .int k]], by
        rw [c10]
        simp [ev, evs, evT, evO, evC, evI, asgT, asgTs, evH, pickH, ex, exB, runD, look, seqOf, isKds, isKd, szOk, bnd_ok, bnd_exc, noX_ok, wipe, st_mkt, st_mkf, st_addi, st_adds, st_addt, st_auI, st_auS, st_sub, st_mul, st_fdiv, st_mod, st_pow, st_cat, st_repl, st_reps, st_lt, st_le, st_gt, st_ge, st_eqi, st_nei, st_eqs, st_nes, st_idxL, st_idxS, st_idxT, st_idxs, at_n, at_0, at_1, at_2, at_m1, st_slcL, st_slcT, st_slcs, cut_nn, cut_n, cut_from, cut_1, cut_to1, st_lens, st_lenL, st_lenS, st_lenT, st_inti, st_intb, st_min2, st_max2, st_sumL, st_allL, st_anyL, st_tupL, st_tupT, st_joinL, st_rcvj, st_sh, st_idxr, st_lenr, st_tupr, st_appr, st_rcvr, st_joinr, st_setr, mulOk_fm, mulOk_r, mulOk_l, st_eq, st_ne, W.eq, W.eqs, W.pl, W.pls, W.dep, W.deps, d10, b10, hk2, hat, hp, hc], bag_new _ _ _ _⟩
    · exact ⟨G ++ [.lst [.int 0, .int c, .int k]], by
        rw [c10]
        simp [ev, evs, evT, evO, evC, evI, asgT, asgTs, evH, pickH, ex, exB, runD, look, seqOf, isKds, isKd, szOk, bnd_ok, bnd_exc, noX_ok, wipe, st_mkt, st_mkf, st_addi, st_adds, st_addt, st_auI, st_auS, st_sub, st_mul, st_fdiv, st_mod, st_pow, st_cat, st_repl, st_reps, st_lt, st_le, st_gt, st_ge, st_eqi, st_nei, st_eqs, st_nes, st_idxL, st_idxS, st_idxT, st_idxs, at_n, at_0, at_1, at_2, at_m1, st_slcL, st_slcT, st_slcs, cut_nn, cut_n, cut_from, cut_1, cut_to1, st_lens, st_lenL, st_lenS, st_lenT, st_inti, st_intb, st_min2, st_max2, st_sumL, st_allL, st_anyL, st_tupL, st_tupT, st_joinL, st_rcvj, st_sh, st_idxr, st_lenr, st_tupr, st_appr, st_rcvr, st_joinr, st_setr, mulOk_fm, mulOk_r, mulOk_l, st_eq, st_ne, W.eq, W.eqs, W.pl, W.pls, W.dep, W.deps, d10, b10, hk2, hat, hp, hc], bag_new _ _ _ _⟩
  · have hk2 : ¬ (k : Int) < (ns.length : Int) := by omega
    exact ⟨G ++ [.lst [.int 0, .int 0, .int k]], by
      rw [c10]
      simp [ev, evs, evT, evO, evC, evI, asgT, asgTs, evH, pickH, ex, exB, runD, look, seqOf, isKds, isKd, szOk, bnd_ok, bnd_exc, noX_ok, wipe, st_mkt, st_mkf, st_addi, st_adds, st_addt, st_auI, st_auS, st_sub, st_mul, st_fdiv, st_mod, st_pow, st_cat, st_repl, st_reps, st_lt, st_le, st_gt, st_ge, st_eqi, st_nei, st_eqs, st_nes, st_idxL, st_idxS, st_idxT, st_idxs, at_n, at_0, at_1, at_2, at_m1, st_slcL, st_slcT, st_slcs, cut_nn, cut_n, cut_from, cut_1, cut_to1, st_lens, st_lenL, st_lenS, st_lenT, st_inti, st_intb, st_min2, st_max2, st_sumL, st_allL, st_anyL, st_tupL, st_tupT, st_joinL, st_rcvj, st_sh, st_idxr, st_lenr, st_tupr, st_appr, st_rcvr, st_joinr, st_setr, mulOk_fm, mulOk_r, mulOk_l, st_eq, st_ne, W.eq, W.eqs, W.pl, W.pls, W.dep, W.deps, d10, b10, hk2, hp], bag_new _ _ _ _⟩
end K61
end

section
set_option linter.all false
set_option maxRecDepth 100000
set_option maxHeartbeats 4000000
/-! k61: an edit and the way back, for short texts. -/
namespace K61
open T2
theorem bl_short : ∀ B : List Bl, (∀ b ∈ B, ¬ (b.2.1 = [] ∧ b.2.2 = [])) → B.length ≤ (one B).length + (oth B).length ∧ ∀ b ∈ B, b.2.1.length ≤ (one B).length ∧ b.2.2.length ≤ (oth B).length
  | [], _ => ⟨by simp, by simp⟩
  | b :: r, h => by
    have ih := bl_short r fun x hx => h x (List.mem_cons_of_mem _ hx)
    have hb := h b List.mem_cons_self
    have : 1 ≤ b.2.1.length + b.2.2.length := by
      rcases Nat.eq_zero_or_pos (b.2.1.length + b.2.2.length) with z | z
      · exact absurd ⟨List.length_eq_zero_iff.mp (by omega), List.length_eq_zero_iff.mp (by omega)⟩ hb
      · exact z
    refine ⟨?_, fun x hx => ?_⟩
    · have := ih.1
      simp only [one, oth, List.length_cons, List.length_append]
      omega
    · simp only [one, oth, List.length_append]
      rcases List.mem_cons.mp hx with rfl | hx
      · omega
      · have := ih.2 x hx
        omega
theorem eds_mem : ∀ (B : List Bl) (o : Nat) (e : Ed), e ∈ eds o B → ∃ b ∈ B, e.2 = b.2
  | [], _, _, h => by simp [eds] at h
  | b :: r, o, e, h => by
    rcases List.mem_cons.mp h with rfl | h
    · exact ⟨b, List.mem_cons_self, rfl⟩
    · obtain ⟨x, hx, ex⟩ := eds_mem r _ e h
      exact ⟨x, List.mem_cons_of_mem _ hx, ex⟩
/-- the blocks of an edit, and what is left -/
structure Gdd (a b : List Nat) (B : List Bl) (t : List Nat) : Prop where
  fn : fine B
  oa : one B ++ t = a
  ob : oth B ++ t = b
theorem Gdd.bak {a b : List Nat} {B : List Bl} {t : List Nat} (g : Gdd a b B t) : Gdd b a (bak B) t := ⟨fine_bak g.fn, by rw [one_bak]; exact g.ob, by rw [oth_bak]; exact g.oa⟩
theorem fin_good (a b : List Nat) : Gdd a b (fin a b).bl (fin a b).tl := ⟨(fin_ok a b).fn, (fin_txt a b).1, (fin_txt a b).2⟩
section
variable {a b t : List Nat} {B : List Bl} (g : Gdd a b B t) (ha : a.length ≤ 100) (hb : b.length ≤ 100)
include g ha hb
theorem Gdd.lens : B.length ≤ 200 ∧ ∀ x ∈ B, x.2.1.length ≤ 100 ∧ x.2.2.length ≤ 100 := by
  have h := bl_short B g.fn.1
  have h1 := congrArg List.length g.oa
  have h2 := congrArg List.length g.ob
  simp only [List.length_append] at h1 h2
  exact ⟨by have := h.1; omega, fun x hx => by have := h.2 x hx; omega⟩
theorem Gdd.szs : sz (eds 0 B) := by
  have h := g.lens ha hb
  refine ⟨by rw [eds_len]; omega, fun e he => ?_⟩
  obtain ⟨x, hx, ex⟩ := eds_mem B 0 e he
  have := h.2 x hx
  rw [ex]
  omega
theorem Gdd.app : app a 0 (eds 0 B) = b := by
  have h := app_eds t B []
  simp only [List.nil_append, List.length_nil] at h
  rw [g.oa, g.ob] at h
  exact h
theorem Gdd.c4 (n : Nat) (G : List O) : callW (cl (n + 4)) .iso 4 [.str a, encE (eds 0 B)] G = .ok (.str b) G := by
  have h := eds_fits t B []
  simp only [List.nil_append, List.length_nil, g.oa] at h
  have e := g.app ha hb
  have := t4 n a (eds 0 B) (by omega) (eds_real g.fn 0) (eds_asc B 0 g.fn.2) (g.szs ha hb) h (by rw [e]; omega) G
  rwa [e] at this
theorem Gdd.c5 (n : Nat) (G : List O) : callW (cl (n + 3)) .iso 5 [encE (eds 0 B)] G = .ok (encE (eds 0 (K61.bak B))) G := by
  have h := g.lens ha hb
  exact t5 n B g.fn (by omega) (fun e he => by have := h.2 e he; omega) (g.szs ha hb) G
theorem Gdd.c6 (n : Nat) (G : List O) : callW (cl (n + 3)) .iso 6 [encE (eds 0 B)] G = .ok (.int (cost (eds 0 B))) G := t6 n _ (eds_real g.fn 0) (eds_asc B 0 g.fn.2) (g.szs ha hb) G
end
/-- nothing between a text and itself -/
theorem go_self : ∀ (as : List Nat) (B : List Bl) (k : List Nat), go as as (B, k, none) = (B, k ++ as, none)
  | [], B, k => by rw [go]; simp
  | a :: as, B, k => by
    rw [go, if_pos rfl]
    show go as as (B, k ++ [a], none) = _
    rw [go_self as]
    simp
theorem edit_self (a : List Nat) : edit a a = [] := by
  unfold edit fin
  rw [go_self]
  rfl
end K61
end

section
set_option linter.all false
set_option maxRecDepth 100000
set_option maxHeartbeats 4000000
/-! k61: what is told. -/
namespace K61
open T2
theorem told1 (n k : Nat) (x w : W) (h : k < 19) (hx : W.nrs [x] = true) (hp : w.pl = true) (e : callW (cl n) .iso k [x] [] = .ok w []) (G : List O) : callW (cl (n + 1)) .iso 13 [.fn k, .tup [x]] G = .ok w G := by
  refine iso_pl (G1 := []) (by simpa [W.nrs, W.nr] using hx) ?_ hp
  rw [c13]
  simp [ev, evs, evT, evO, evC, evI, asgT, asgTs, evH, pickH, ex, exB, runD, look, seqOf, isKds, isKd, szOk, bnd_ok, bnd_exc, noX_ok, wipe, st_mkt, st_mkf, st_addi, st_adds, st_addt, st_auI, st_auS, st_sub, st_mul, st_fdiv, st_mod, st_pow, st_cat, st_repl, st_reps, st_lt, st_le, st_gt, st_ge, st_eqi, st_nei, st_eqs, st_nes, st_idxL, st_idxS, st_idxT, st_idxs, at_n, at_0, at_1, at_2, at_m1, st_slcL, st_slcT, st_slcs, cut_nn, cut_n, cut_from, cut_1, cut_to1, st_lens, st_lenL, st_lenS, st_lenT, st_inti, st_intb, st_min2, st_max2, st_sumL, st_allL, st_anyL, st_tupL, st_tupT, st_joinL, st_rcvj, st_sh, st_idxr, st_lenr, st_tupr, st_appr, st_rcvr, st_joinr, st_setr, mulOk_fm, mulOk_r, mulOk_l, st_eq, st_ne, W.eq, W.eqs, W.pl, W.pls, W.dep, W.deps, d13, b13, h, e]
theorem told1x (n k : Nat) (x w : W) (h : k < 19) (hx : W.nrs [x] = true) (hp : w.pl = true) (e : callW (cl n) .iso k [x] [] = .exc 0 [w] []) (G : List O) : callW (cl (n + 1)) .iso 13 [.fn k, .tup [x]] G = .ok w G := by
  refine iso_pl (G1 := []) (by simpa [W.nrs, W.nr] using hx) ?_ hp
  rw [c13]
  simp [ev, evs, evT, evO, evC, evI, asgT, asgTs, evH, pickH, ex, exB, runD, look, seqOf, isKds, isKd, szOk, bnd_ok, bnd_exc, noX_ok, wipe, st_mkt, st_mkf, st_addi, st_adds, st_addt, st_auI, st_auS, st_sub, st_mul, st_fdiv, st_mod, st_pow, st_cat, st_repl, st_reps, st_lt, st_le, st_gt, st_ge, st_eqi, st_nei, st_eqs, st_nes, st_idxL, st_idxS, st_idxT, st_idxs, at_n, at_0, at_1, at_2, at_m1, st_slcL, st_slcT, st_slcs, cut_nn, cut_n, cut_from, cut_1, cut_to1, st_lens, st_lenL, st_lenS, st_lenT, st_inti, st_intb, st_min2, st_max2, st_sumL, st_allL, st_anyL, st_tupL, st_tupT, st_joinL, st_rcvj, st_sh, st_idxr, st_lenr, st_tupr, st_appr, st_rcvr, st_joinr, st_setr, mulOk_fm, mulOk_r, mulOk_l, st_eq, st_ne, W.eq, W.eqs, W.pl, W.pls, W.dep, W.deps, d13, b13, h, e]
theorem told2x (n k : Nat) (x y w : W) (h : k < 19) (hx : W.nrs [x, y] = true) (hp : w.pl = true) (e : callW (cl n) .iso k [x, y] [] = .exc 0 [w] []) (G : List O) : callW (cl (n + 1)) .iso 13 [.fn k, .tup [x, y]] G = .ok w G := by
  refine iso_pl (G1 := []) (by simpa [W.nrs, W.nr] using hx) ?_ hp
  rw [c13]
  simp [ev, evs, evT, evO, evC, evI, asgT, asgTs, evH, pickH, ex, exB, runD, look, seqOf, isKds, isKd, szOk, bnd_ok, bnd_exc, noX_ok, wipe, st_mkt, st_mkf, st_addi, st_adds, st_addt, st_auI, st_auS, st_sub, st_mul, st_fdiv, st_mod, st_pow, st_cat, st_repl, st_reps, st_lt, st_le, st_gt, st_ge, st_eqi, st_nei, st_eqs, st_nes, st_idxL, st_idxS, st_idxT, st_idxs, at_n, at_0, at_1, at_2, at_m1, st_slcL, st_slcT, st_slcs, cut_nn, cut_n, cut_from, cut_1, cut_to1, st_lens, st_lenL, st_lenS, st_lenT, st_inti, st_intb, st_min2, st_max2, st_sumL, st_allL, st_anyL, st_tupL, st_tupT, st_joinL, st_rcvj, st_sh, st_idxr, st_lenr, st_tupr, st_appr, st_rcvr, st_joinr, st_setr, mulOk_fm, mulOk_r, mulOk_l, st_eq, st_ne, W.eq, W.eqs, W.pl, W.pls, W.dep, W.deps, d13, b13, h, e]
theorem told2i (n k : Nat) (x y : W) (fs : List W) (h : k < 19) (hx : W.nrs [x, y] = true) (e : callW (cl n) .iso k [x, y] [] = .exc 1 fs []) (G : List O) : callW (cl (n + 1)) .iso 13 [.fn k, .tup [x, y]] G = .ok (.str [105, 110]) G := by
  refine iso_pl (G1 := []) (by simpa [W.nrs, W.nr] using hx) ?_ rfl
  rw [c13]
  simp [ev, evs, evT, evO, evC, evI, asgT, asgTs, evH, pickH, ex, exB, runD, look, seqOf, isKds, isKd, szOk, bnd_ok, bnd_exc, noX_ok, wipe, st_mkt, st_mkf, st_addi, st_adds, st_addt, st_auI, st_auS, st_sub, st_mul, st_fdiv, st_mod, st_pow, st_cat, st_repl, st_reps, st_lt, st_le, st_gt, st_ge, st_eqi, st_nei, st_eqs, st_nes, st_idxL, st_idxS, st_idxT, st_idxs, at_n, at_0, at_1, at_2, at_m1, st_slcL, st_slcT, st_slcs, cut_nn, cut_n, cut_from, cut_1, cut_to1, st_lens, st_lenL, st_lenS, st_lenT, st_inti, st_intb, st_min2, st_max2, st_sumL, st_allL, st_anyL, st_tupL, st_tupT, st_joinL, st_rcvj, st_sh, st_idxr, st_lenr, st_tupr, st_appr, st_rcvr, st_joinr, st_setr, mulOk_fm, mulOk_r, mulOk_l, st_eq, st_ne, W.eq, W.eqs, W.pl, W.pls, W.dep, W.deps, d13, b13, h, e]
def odd : List W := [.non, .lst [], .tup [.non], .tup [.tup [.int 0, .str [97]]], .tup [.tup [.int 0, .str [], .str []]], .tup [.tup [.int (-1), .str [97], .str []]], .tup [.tup [.bl true, .str [97], .str []]], .tup [.tup [.int 0, .str [97], .non]], .tup [.tup [.int 0, .str [97, 98], .str []], .tup [.int 2, .str [], .str [99]]], .tup [.tup [.int 1, .str [], .str [97]], .tup [.int 0, .str [], .str [98]]]]
theorem odd2 (n : Nat) (w : W) (h : w ∈ odd) : callW (cl (n + 2)) .iso 2 [w] [] = .exc 0 FORM [] := by
  simp only [odd, List.mem_cons, List.not_mem_nil, or_false] at h
  rcases h with rfl | rfl | rfl | rfl | rfl | rfl | rfl | rfl | rfl | rfl
  all_goals
    refine iso_exc (G1 := []) rfl ?_ rfl
    rw [c2]
    simp [ev, evs, evT, evO, evC, evI, asgT, asgTs, evH, pickH, ex, exB, runD, look, seqOf, isKds, isKd, szOk, bnd_ok, bnd_exc, noX_ok, wipe, st_mkt, st_mkf, st_addi, st_adds, st_addt, st_auI, st_auS, st_sub, st_mul, st_fdiv, st_mod, st_pow, st_cat, st_repl, st_reps, st_lt, st_le, st_gt, st_ge, st_eqi, st_nei, st_eqs, st_nes, st_idxL, st_idxS, st_idxT, st_idxs, at_n, at_0, at_1, at_2, at_m1, st_slcL, st_slcT, st_slcs, cut_nn, cut_n, cut_from, cut_1, cut_to1, st_lens, st_lenL, st_lenS, st_lenT, st_inti, st_intb, st_min2, st_max2, st_sumL, st_allL, st_anyL, st_tupL, st_tupT, st_joinL, st_rcvj, st_sh, st_idxr, st_lenr, st_tupr, st_appr, st_rcvr, st_joinr, st_setr, mulOk_fm, mulOk_r, mulOk_l, st_eq, st_ne, W.eq, W.eqs, W.pl, W.pls, W.dep, W.deps, d2, b2, b2_0, e2_1, Seq.ok, W.nrs, W.nr, lcL, callW, c1, d1, b1, frz, bls?, forL, FORM]
end K61
end

section
set_option linter.all false
set_option maxRecDepth 100000
set_option maxHeartbeats 4000000
/-! k61: the odd values, and the edit beside. -/
namespace K61
open T2
theorem odd_nr (w : W) (h : w ∈ odd) : W.nr w = true := by
  simp only [odd, List.mem_cons, List.not_mem_nil, or_false] at h
  rcases h with rfl | rfl | rfl | rfl | rfl | rfl | rfl | rfl | rfl | rfl <;> rfl
theorem odd4 (n : Nat) (w : W) (h : w ∈ odd) (G : List O) : callW (cl (n + 5)) .iso 13 [.fn 4, .tup [.str [97, 98, 97, 98], w]] G = .ok (.str [102, 111, 114, 109]) G := by
  have nr : W.nrs [.str [97, 98, 97, 98], w] = true := by simp [W.nrs, W.nr, odd_nr w h]
  refine told2x (n + 4) 4 _ w _ (by decide) nr rfl ?_ G
  refine iso_exc (G1 := []) nr ?_ rfl
  rw [c4]
  simp [ev, evs, evT, evO, evC, evI, asgT, asgTs, evH, pickH, ex, exB, runD, look, seqOf, isKds, isKd, szOk, bnd_ok, bnd_exc, noX_ok, wipe, st_mkt, st_mkf, st_addi, st_adds, st_addt, st_auI, st_auS, st_sub, st_mul, st_fdiv, st_mod, st_pow, st_cat, st_repl, st_reps, st_lt, st_le, st_gt, st_ge, st_eqi, st_nei, st_eqs, st_nes, st_idxL, st_idxS, st_idxT, st_idxs, at_n, at_0, at_1, at_2, at_m1, st_slcL, st_slcT, st_slcs, cut_nn, cut_n, cut_from, cut_1, cut_to1, st_lens, st_lenL, st_lenS, st_lenT, st_inti, st_intb, st_min2, st_max2, st_sumL, st_allL, st_anyL, st_tupL, st_tupT, st_joinL, st_rcvj, st_sh, st_idxr, st_lenr, st_tupr, st_appr, st_rcvr, st_joinr, st_setr, mulOk_fm, mulOk_r, mulOk_l, st_eq, st_ne, W.eq, W.eqs, W.pl, W.pls, W.dep, W.deps, d4, b4, i0 (n + 2) [97, 98, 97, 98] (by simp) [], odd2 (n + 1) w h, FORM]
theorem odd5 (n : Nat) (w : W) (h : w ∈ odd) (G : List O) : callW (cl (n + 5)) .iso 13 [.fn 5, .tup [w]] G = .ok (.str [102, 111, 114, 109]) G := by
  have nr : W.nrs [w] = true := by simp [W.nrs, odd_nr w h]
  refine told1x (n + 4) 5 w _ (by decide) nr rfl ?_ G
  refine iso_exc (G1 := []) nr ?_ rfl
  rw [c5]
  simp [ev, evs, evT, evO, evC, evI, asgT, asgTs, evH, pickH, ex, exB, runD, look, seqOf, isKds, isKd, szOk, bnd_ok, bnd_exc, noX_ok, wipe, st_mkt, st_mkf, st_addi, st_adds, st_addt, st_auI, st_auS, st_sub, st_mul, st_fdiv, st_mod, st_pow, st_cat, st_repl, st_reps, st_lt, st_le, st_gt, st_ge, st_eqi, st_nei, st_eqs, st_nes, st_idxL, st_idxS, st_idxT, st_idxs, at_n, at_0, at_1, at_2, at_m1, st_slcL, st_slcT, st_slcs, cut_nn, cut_n, cut_from, cut_1, cut_to1, st_lens, st_lenL, st_lenS, st_lenT, st_inti, st_intb, st_min2, st_max2, st_sumL, st_allL, st_anyL, st_tupL, st_tupT, st_joinL, st_rcvj, st_sh, st_idxr, st_lenr, st_tupr, st_appr, st_rcvr, st_joinr, st_setr, mulOk_fm, mulOk_r, mulOk_l, st_eq, st_ne, W.eq, W.eqs, W.pl, W.pls, W.dep, W.deps, d5, b5, odd2 (n + 1) w h, FORM]
theorem odd6 (n : Nat) (w : W) (h : w ∈ odd) (G : List O) : callW (cl (n + 5)) .iso 13 [.fn 6, .tup [w]] G = .ok (.str [102, 111, 114, 109]) G := by
  have nr : W.nrs [w] = true := by simp [W.nrs, odd_nr w h]
  refine told1x (n + 4) 6 w _ (by decide) nr rfl ?_ G
  refine iso_exc (G1 := []) nr ?_ rfl
  rw [c6]
  simp [ev, evs, evT, evO, evC, evI, asgT, asgTs, evH, pickH, ex, exB, runD, look, seqOf, isKds, isKd, szOk, bnd_ok, bnd_exc, noX_ok, wipe, st_mkt, st_mkf, st_addi, st_adds, st_addt, st_auI, st_auS, st_sub, st_mul, st_fdiv, st_mod, st_pow, st_cat, st_repl, st_reps, st_lt, st_le, st_gt, st_ge, st_eqi, st_nei, st_eqs, st_nes, st_idxL, st_idxS, st_idxT, st_idxs, at_n, at_0, at_1, at_2, at_m1, st_slcL, st_slcT, st_slcs, cut_nn, cut_n, cut_from, cut_1, cut_to1, st_lens, st_lenL, st_lenS, st_lenT, st_inti, st_intb, st_min2, st_max2, st_sumL, st_allL, st_anyL, st_tupL, st_tupT, st_joinL, st_rcvj, st_sh, st_idxr, st_lenr, st_tupr, st_appr, st_rcvr, st_joinr, st_setr, mulOk_fm, mulOk_r, mulOk_l, st_eq, st_ne, W.eq, W.eqs, W.pl, W.pls, W.dep, W.deps, d6, b6, odd2 (n + 1) w h, FORM]
theorem near (n : Nat) (a : List Nat) (e : Ed) (es : List Ed) (ha : a.length ≤ 100) (hab : ∀ x ∈ a, abc x) (hr : ∀ x ∈ e :: es, real x) (hs : asc (e :: es)) (hz : ∀ x ∈ e :: es, x.2.1.length ≤ 100 ∧ x.2.2.length ≤ 100) (hl : (e :: es).length ≤ 200) (hf : e.1 ≤ a.length) (G : List O) :
    ∃ w, callW (cl (n + 5)) .iso 13 [.fn 4, .tup [.str a, encE ((e.1, e.2.1 ++ [122], e.2.2) :: es)]] G = .ok (.str w) G ∧ (w = [103, 111, 110, 101] ∨ w = [102, 111, 114, 109]) := by
  have nr : W.nrs [.str a, encE ((e.1, e.2.1 ++ [122], e.2.2) :: es)] = true := by simp [W.nrs, W.nr, encE_nr]
  have hr' : ∀ x ∈ (e.1, e.2.1 ++ [122], e.2.2) :: es, real x := fun x hx => by
    rcases List.mem_cons.mp hx with rfl | hx
    · simp [real]
    · exact hr x (List.mem_cons_of_mem _ hx)
  have hz' : sz ((e.1, e.2.1 ++ [122], e.2.2) :: es) := by
    refine ⟨by simp only [List.length_cons] at hl ⊢; omega, fun x hx => ?_⟩
    rcases List.mem_cons.mp hx with rfl | hx
    · have := hz e List.mem_cons_self
      simp only [List.length_append, List.length_singleton]
      omega
    · have := hz x (List.mem_cons_of_mem _ hx)
      omega
  have go : asc ((e.1, e.2.1 ++ [122], e.2.2) :: es) → ∃ w, callW (cl (n + 5)) .iso 13 [.fn 4, .tup [.str a, encE ((e.1, e.2.1 ++ [122], e.2.2) :: es)]] G = .ok (.str w) G ∧ (w = [103, 111, 110, 101] ∨ w = [102, 111, 114, 109]) := fun h => by
    refine ⟨_, told2x (n + 4) 4 _ _ _ (by decide) nr rfl (x4 n a _ es (by omega) hr' h hz' hf ?_ []) G, .inl rfl⟩
    intro z
    have : (122 : Nat) ∈ (a.drop e.1).take (e.2.1 ++ [122]).length := by rw [z]; simp
    have := hab _ (List.mem_of_mem_drop (List.mem_of_mem_take this))
    simp [abc] at this
  cases es with
  | nil => exact go trivial
  | cons f r =>
    by_cases h : f.1 ≤ e.1 + (e.2.1 ++ [122]).length
    · exact ⟨_, told2x (n + 4) 4 _ _ _ (by decide) nr rfl (x4b n a _ f r (by omega) hr' hz' h []) G, .inr rfl⟩
    · exact go ⟨by show e.1 + (e.2.1 ++ [122]).length < f.1; omega, hs.2⟩
end K61
end

section
set_option linter.all false
set_option maxRecDepth 100000
set_option maxHeartbeats 4000000
/-! k61: a case. -/
namespace K61
open T2
def rest : B → B
  | .cons _ b => b
  | .nil => .nil
def t17 : B := rest (rest (rest b17))
theorem told_none (n : Nat) (a : List Nat) (G : List O) : callW (cl (n + 5)) .iso 13 [.fn 9, .tup [.non, .str a]] G = .ok (.str [105, 110]) G := by
  refine told2i (n + 4) 9 _ _ SIGNS (by decide) rfl ?_ G
  refine iso_exc (G1 := []) rfl ?_ rfl
  rw [c9]
  simp [ev, evs, evT, evO, evC, evI, asgT, asgTs, evH, pickH, ex, exB, runD, look, seqOf, isKds, isKd, szOk, bnd_ok, bnd_exc, noX_ok, wipe, st_mkt, st_mkf, st_addi, st_adds, st_addt, st_auI, st_auS, st_sub, st_mul, st_fdiv, st_mod, st_pow, st_cat, st_repl, st_reps, st_lt, st_le, st_gt, st_ge, st_eqi, st_nei, st_eqs, st_nes, st_idxL, st_idxS, st_idxT, st_idxs, at_n, at_0, at_1, at_2, at_m1, st_slcL, st_slcT, st_slcs, cut_nn, cut_n, cut_from, cut_1, cut_to1, st_lens, st_lenL, st_lenS, st_lenT, st_inti, st_intb, st_min2, st_max2, st_sumL, st_allL, st_anyL, st_tupL, st_tupT, st_joinL, st_rcvj, st_sh, st_idxr, st_lenr, st_tupr, st_appr, st_rcvr, st_joinr, st_setr, mulOk_fm, mulOk_r, mulOk_l, st_eq, st_ne, W.eq, W.eqs, W.pl, W.pls, W.dep, W.deps, d9, b9, x0a (n + 2) []]
theorem told_five (n : Nat) (a : List Nat) (ha : a.length ≤ 100) (G : List O) : callW (cl (n + 5)) .iso 13 [.fn 9, .tup [.str a, .int 5]] G = .ok (.str [105, 110]) G := by
  refine told2i (n + 4) 9 _ _ SIGNS (by decide) rfl ?_ G
  refine iso_exc (G1 := []) rfl ?_ rfl
  rw [c9]
  simp [ev, evs, evT, evO, evC, evI, asgT, asgTs, evH, pickH, ex, exB, runD, look, seqOf, isKds, isKd, szOk, bnd_ok, bnd_exc, noX_ok, wipe, st_mkt, st_mkf, st_addi, st_adds, st_addt, st_auI, st_auS, st_sub, st_mul, st_fdiv, st_mod, st_pow, st_cat, st_repl, st_reps, st_lt, st_le, st_gt, st_ge, st_eqi, st_nei, st_eqs, st_nes, st_idxL, st_idxS, st_idxT, st_idxs, at_n, at_0, at_1, at_2, at_m1, st_slcL, st_slcT, st_slcs, cut_nn, cut_n, cut_from, cut_1, cut_to1, st_lens, st_lenL, st_lenS, st_lenT, st_inti, st_intb, st_min2, st_max2, st_sumL, st_allL, st_anyL, st_tupL, st_tupT, st_joinL, st_rcvj, st_sh, st_idxr, st_lenr, st_tupr, st_appr, st_rcvr, st_joinr, st_setr, mulOk_fm, mulOk_r, mulOk_l, st_eq, st_ne, W.eq, W.eqs, W.pl, W.pls, W.dep, W.deps, d9, b9, x0b (n + 2) [], i0 (n + 2) a (by omega)]
theorem told_long (n : Nat) (a : List Nat) (G : List O) : callW (cl (n + 5)) .iso 13 [.fn 9, .tup [.str (List.replicate 401 97), .str a]] G = .ok (.str [105, 110]) G := by
  refine told2i (n + 4) 9 _ _ SIGNS (by decide) rfl ?_ G
  refine iso_exc (G1 := []) rfl ?_ rfl
  have h := x0c (n + 2) (List.replicate 401 97) (by rw [List.length_replicate]; decide) (by rw [List.length_replicate]; decide) []
  generalize List.replicate 401 97 = q at h
  rw [c9]
  simp [ev, evs, evT, evO, evC, evI, asgT, asgTs, evH, pickH, ex, exB, runD, look, seqOf, isKds, isKd, szOk, bnd_ok, bnd_exc, noX_ok, wipe, st_mkt, st_mkf, st_addi, st_adds, st_addt, st_auI, st_auS, st_sub, st_mul, st_fdiv, st_mod, st_pow, st_cat, st_repl, st_reps, st_lt, st_le, st_gt, st_ge, st_eqi, st_nei, st_eqs, st_nes, st_idxL, st_idxS, st_idxT, st_idxs, at_n, at_0, at_1, at_2, at_m1, st_slcL, st_slcT, st_slcs, cut_nn, cut_n, cut_from, cut_1, cut_to1, st_lens, st_lenL, st_lenS, st_lenT, st_inti, st_intb, st_min2, st_max2, st_sumL, st_allL, st_anyL, st_tupL, st_tupT, st_joinL, st_rcvj, st_sh, st_idxr, st_lenr, st_tupr, st_appr, st_rcvr, st_joinr, st_setr, mulOk_fm, mulOk_r, mulOk_l, st_eq, st_ne, W.eq, W.eqs, W.pl, W.pls, W.dep, W.deps, d9, b9, h]
theorem told_app (n : Nat) (G : List O) : callW (cl (n + 5)) .iso 13 [.fn 4, .tup [.non, .tup []]] G = .ok (.str [105, 110]) G := by
  refine told2i (n + 4) 4 _ _ SIGNS (by decide) rfl ?_ G
  refine iso_exc (G1 := []) rfl ?_ rfl
  rw [c4]
  simp [ev, evs, evT, evO, evC, evI, asgT, asgTs, evH, pickH, ex, exB, runD, look, seqOf, isKds, isKd, szOk, bnd_ok, bnd_exc, noX_ok, wipe, st_mkt, st_mkf, st_addi, st_adds, st_addt, st_auI, st_auS, st_sub, st_mul, st_fdiv, st_mod, st_pow, st_cat, st_repl, st_reps, st_lt, st_le, st_gt, st_ge, st_eqi, st_nei, st_eqs, st_nes, st_idxL, st_idxS, st_idxT, st_idxs, at_n, at_0, at_1, at_2, at_m1, st_slcL, st_slcT, st_slcs, cut_nn, cut_n, cut_from, cut_1, cut_to1, st_lens, st_lenL, st_lenS, st_lenT, st_inti, st_intb, st_min2, st_max2, st_sumL, st_allL, st_anyL, st_tupL, st_tupT, st_joinL, st_rcvj, st_sh, st_idxr, st_lenr, st_tupr, st_appr, st_rcvr, st_joinr, st_setr, mulOk_fm, mulOk_r, mulOk_l, st_eq, st_ne, W.eq, W.eqs, W.pl, W.pls, W.dep, W.deps, d4, b4, x0a (n + 2) []]
end K61
end

section
set_option linter.all false
set_option maxRecDepth 100000
set_option maxHeartbeats 4000000
/-! k61: the tail of a case. -/
namespace K61
open T2
theorem encs_eq : ∀ es : List Ed, W.eqs (es.map enc) (es.map enc) = true
  | [] => by simp [W.eqs]
  | e :: r => by simp [W.eqs, encs_eq r, enc, W.eq]
theorem encs_dep : ∀ es : List Ed, W.deps (es.map enc) ≤ 50
  | [] => by simp [W.deps]
  | e :: r => by
    have := encs_dep r
    simp only [List.map_cons, W.deps, enc, W.dep]
    omega
theorem ne_same (es : List Ed) (G : List O) : cmpW .ne (encE es) (encE es) G = .ok (.bl false) G := by
  rw [st_ne (encE_pl es) (encE_pl es) (by have := encs_dep es; simp only [encE, W.dep]; omega)]
  simp [encE, W.eq, encs_eq]
theorem ne_nil (G : List O) : cmpW .ne (encE []) (.tup []) G = .ok (.bl false) G := ne_same [] G
theorem ni_gone (G : List O) : cmpW .notin (.str [103, 111, 110, 101]) (.lst [.str [103, 111, 110, 101], .str [102, 111, 114, 109]]) G = .ok (.bl false) G := by rfl
theorem ni_form (G : List O) : cmpW .notin (.str [102, 111, 114, 109]) (.lst [.str [103, 111, 110, 101], .str [102, 111, 114, 109]]) G = .ok (.bl false) G := by rfl
theorem lc_odd (n k : Nat) (e : E) (sw : Sl) (G : List O) (hs : sw.length = 14) (he : ∀ w ∈ odd, ev (cl (n + 5)) gk e (sw.set 12 (some w)) G = .ok (.str [102, 111, 114, 109]) G) :
    lcL (fun x G => asgT (cl (n + 5)) gk (.nm 12) x sw G) (fun sw1 G => evC (cl (n + 5)) gk .no sw1 G) (fun sw1 G => ev (cl (n + 5)) gk e sw1 G) ⟨odd, none⟩ odd [] G = .ok (List.replicate 10 (.str [102, 111, 114, 109])) G := by
  have := lcL_map (asg := fun x G => asgT (cl (n + 5)) gk (.nm 12) x sw G) (cd := fun sw1 G => evC (cl (n + 5)) gk .no sw1 G) (e := fun sw1 G => ev (cl (n + 5)) gk e sw1 G) (s := ⟨odd, none⟩) (G := G) rfl (fun _ => .str [102, 111, 114, 109]) odd [] (by simp [odd]) fun x hx => ⟨sw.set 12 (some x), by simp [asgT, hs], by simp [ev, evs, evT, evO, evC, evI, asgT, asgTs, evH, pickH, ex, exB, runD, look, seqOf, isKds, isKd, szOk, bnd_ok, bnd_exc, noX_ok, wipe, st_mkt, st_mkf, st_addi, st_adds, st_addt, st_auI, st_auS, st_sub, st_mul, st_fdiv, st_mod, st_pow, st_cat, st_repl, st_reps, st_lt, st_le, st_gt, st_ge, st_eqi, st_nei, st_eqs, st_nes, st_idxL, st_idxS, st_idxT, st_idxs, at_n, at_0, at_1, at_2, at_m1, st_slcL, st_slcT, st_slcs, cut_nn, cut_n, cut_from, cut_1, cut_to1, st_lens, st_lenL, st_lenS, st_lenT, st_inti, st_intb, st_min2, st_max2, st_sumL, st_allL, st_anyL, st_tupL, st_tupT, st_joinL, st_rcvj, st_sh, st_idxr, st_lenr, st_tupr, st_appr, st_rcvr, st_joinr, st_setr, mulOk_fm, mulOk_r, mulOk_l, st_eq, st_ne, W.eq, W.eqs, W.pl, W.pls, W.dep, W.deps], he x hx⟩
  rw [this]
  rfl
theorem loop17 (n : Nat) (i : Nat) (a b : List Nat) (x u v : Option W) (ha : a.length ≤ 100) (hb : b.length ≤ 100) (hab : ∀ x ∈ a, abc x) (s : Seq) (hq : ∀ G, s.ok G = true) (G : List O) :
    ∃ p q r z, forL (fun w sw G => asgT (cl (n + 5)) gk (.tp (.cons (.nm 7) (.cons (.nm 8) (.cons (.nm 9) .nil)))) w sw G) (fun sw G => exB (cl (n + 5)) gk wf b17_4 sw G) s (((edit a b).map enc).take 1) [some (.ref i), some (.str a), some (.str b), x, u, some (encE (edit a b)), v, none, none, none, none, none, none, none] G = .ok (.nx [some (.ref i), some (.str a), some (.str b), x, u, some (encE (edit a b)), v, p, q, r, z, none, none, none]) G := by
  have g := fin_good a b
  have hz := g.lens ha hb
  have he : edit a b = eds 0 (fin a b).bl := rfl
  have hr := eds_real g.fn 0
  have hs := eds_asc (fin a b).bl 0 g.fn.2
  have hf := eds_fits (fin a b).tl (fin a b).bl []
  have hl := eds_len (fin a b).bl 0
  have hm := eds_mem (fin a b).bl 0
  simp only [List.nil_append, List.length_nil, g.oa] at hf
  rw [← he] at hr hs hf hl hm
  generalize edit a b = E at *
  cases E with
  | nil => exact ⟨none, none, none, none, forL_nil (hq _)⟩
  | cons e es =>
    obtain ⟨w, hw, hc⟩ := near n a e es ha hab hr hs (fun y hy => by
      obtain ⟨z, hz1, hz2⟩ := hm y hy
      rw [hz2]
      exact hz.2 z hz1) (by omega) (hf e List.mem_cons_self).1 G
    have hz3 : e.2.1.length ≤ 100 := by
      obtain ⟨z, hz1, hz2⟩ := hm e List.mem_cons_self
      rw [hz2]
      exact (hz.2 z hz1).1
    have hz4 : e.2.1.length + 1 ≤ 16777216 := by omega
    have hz5 : 1 + es.length ≤ 16777216 := by simp only [List.length_cons] at hl; omega
    refine ⟨some (.int e.1), some (.str e.2.1), some (.str e.2.2), some (encE ((e.1, e.2.1 ++ [122], e.2.2) :: es)), ?_⟩
    rw [List.map_cons, List.take_succ_cons, List.take_zero, forL_ok (hq _) (sw1 := [some (.ref i), some (.str a), some (.str b), x, u, some (encE (e :: es)), v, some (.int e.1), some (.str e.2.1), some (.str e.2.2), none, none, none, none]) (G1 := G) (by simp [ev, evs, evT, evO, evC, evI, asgT, asgTs, evH, pickH, ex, exB, runD, look, seqOf, isKds, isKd, szOk, bnd_ok, bnd_exc, noX_ok, wipe, st_mkt, st_mkf, st_addi, st_adds, st_addt, st_auI, st_auS, st_sub, st_mul, st_fdiv, st_mod, st_pow, st_cat, st_repl, st_reps, st_lt, st_le, st_gt, st_ge, st_eqi, st_nei, st_eqs, st_nes, st_idxL, st_idxS, st_idxT, st_idxs, at_n, at_0, at_1, at_2, at_m1, st_slcL, st_slcT, st_slcs, cut_nn, cut_n, cut_from, cut_1, cut_to1, st_lens, st_lenL, st_lenS, st_lenT, st_inti, st_intb, st_min2, st_max2, st_sumL, st_allL, st_anyL, st_tupL, st_tupT, st_joinL, st_rcvj, st_sh, st_idxr, st_lenr, st_tupr, st_appr, st_rcvr, st_joinr, st_setr, mulOk_fm, mulOk_r, mulOk_l, st_eq, st_ne, W.eq, W.eqs, W.pl, W.pls, W.dep, W.deps, enc]) (G2 := G) (sw2 := [some (.ref i), some (.str a), some (.str b), x, u, some (encE (e :: es)), v, some (.int e.1), some (.str e.2.1), some (.str e.2.2), some (encE ((e.1, e.2.1 ++ [122], e.2.2) :: es)), none, none, none]) ?_]
    · exact forL_nil (hq _)
    · simp only [encE, List.map_cons, enc] at hw
      rcases hc with rfl | rfl <;> simp [ev, evs, evT, evO, evC, evI, asgT, asgTs, evH, pickH, ex, exB, runD, look, seqOf, isKds, isKd, szOk, bnd_ok, bnd_exc, noX_ok, wipe, st_mkt, st_mkf, st_addi, st_adds, st_addt, st_auI, st_auS, st_sub, st_mul, st_fdiv, st_mod, st_pow, st_cat, st_repl, st_reps, st_lt, st_le, st_gt, st_ge, st_eqi, st_nei, st_eqs, st_nes, st_idxL, st_idxS, st_idxT, st_idxs, at_n, at_0, at_1, at_2, at_m1, st_slcL, st_slcT, st_slcs, cut_nn, cut_n, cut_from, cut_1, cut_to1, st_lens, st_lenL, st_lenS, st_lenT, st_inti, st_intb, st_min2, st_max2, st_sumL, st_allL, st_anyL, st_tupL, st_tupT, st_joinL, st_rcvj, st_sh, st_idxr, st_lenr, st_tupr, st_appr, st_rcvr, st_joinr, st_setr, mulOk_fm, mulOk_r, mulOk_l, st_eq, st_ne, W.eq, W.eqs, W.pl, W.pls, W.dep, W.deps, b17_4, encE, enc, hz4, hz5, hw, ni_gone, ni_form]
end K61
end

section
set_option linter.all false
set_option maxRecDepth 100000
set_option maxHeartbeats 4000000
/-! k61: the tail of a case. -/
namespace K61
open T2
theorem tail17 (n : Nat) (i : Nat) (a b : List Nat) (x : Option W) (ha : a.length ≤ 100) (hb : b.length ≤ 100) (hab : ∀ x ∈ a, abc x) (G : List O) :
    exB (cl (n + 5)) gk wf t17 [some (.ref i), some (.str a), some (.str b), x, none, none, none, none, none, none, none, none, none, none] G = .ok (.rt (.bl true)) G := by
  have g := fin_good a b
  have he : edit a b = eds 0 (fin a b).bl := rfl
  have h15 := t15 (n + 3) a b (by omega) (by omega) G
  have h9 := t9 (n + 2) a b (by omega) (by omega) G
  have h9s := t9 (n + 2) a a (by omega) (by omega) G
  rw [edit_self] at h9s
  have h6 := g.c6 ha hb (n + 2) G
  have h14 := t14 (n + 4) a b (by omega) (by omega) G
  have h4 := g.c4 ha hb (n + 1) G
  have h5 := g.c5 ha hb (n + 2) G
  have h4b := g.bak.c4 hb ha (n + 1) G
  have h5b := g.bak.c5 hb ha (n + 2) G
  have h6b := g.bak.c6 hb ha (n + 2) G
  rw [bak_bak] at h5b
  rw [cost_bak _ 0 0] at h6b
  rw [← he] at h6 h4 h5 h5b h6b
  rw [edit_cost] at h6 h6b
  generalize hbk : eds 0 (bak (fin a b).bl) = K at *
  have eE : (encE (edit a b)) = .tup ((edit a b).map enc) := rfl
  obtain ⟨p, q, r, z, hloop⟩ := loop17 n i a b x (some (encE (edit a b))) (some (encE K)) ha hb hab ⟨((edit a b).map enc).take 1, none⟩ (fun _ => rfl) G
  have e1 := lc_odd n 1 e17_1 [some (.ref i), some (.str a), some (.str b), x, some (encE (edit a b)), some (encE (edit a b)), some (encE K), p, q, r, z, some (.lst odd), none, none] G rfl fun w hw => by simp [ev, evs, evT, evO, evC, evI, asgT, asgTs, evH, pickH, ex, exB, runD, look, seqOf, isKds, isKd, szOk, bnd_ok, bnd_exc, noX_ok, wipe, st_mkt, st_mkf, st_addi, st_adds, st_addt, st_auI, st_auS, st_sub, st_mul, st_fdiv, st_mod, st_pow, st_cat, st_repl, st_reps, st_lt, st_le, st_gt, st_ge, st_eqi, st_nei, st_eqs, st_nes, st_idxL, st_idxS, st_idxT, st_idxs, at_n, at_0, at_1, at_2, at_m1, st_slcL, st_slcT, st_slcs, cut_nn, cut_n, cut_from, cut_1, cut_to1, st_lens, st_lenL, st_lenS, st_lenT, st_inti, st_intb, st_min2, st_max2, st_sumL, st_allL, st_anyL, st_tupL, st_tupT, st_joinL, st_rcvj, st_sh, st_idxr, st_lenr, st_tupr, st_appr, st_rcvr, st_joinr, st_setr, mulOk_fm, mulOk_r, mulOk_l, st_eq, st_ne, W.eq, W.eqs, W.pl, W.pls, W.dep, W.deps, e17_1, odd4 n w hw]
  have e2 := lc_odd n 1 e17_2 [some (.ref i), some (.str a), some (.str b), x, some (encE (edit a b)), some (encE (edit a b)), some (encE K), p, q, r, z, some (.lst odd), none, none] G rfl fun w hw => by simp [ev, evs, evT, evO, evC, evI, asgT, asgTs, evH, pickH, ex, exB, runD, look, seqOf, isKds, isKd, szOk, bnd_ok, bnd_exc, noX_ok, wipe, st_mkt, st_mkf, st_addi, st_adds, st_addt, st_auI, st_auS, st_sub, st_mul, st_fdiv, st_mod, st_pow, st_cat, st_repl, st_reps, st_lt, st_le, st_gt, st_ge, st_eqi, st_nei, st_eqs, st_nes, st_idxL, st_idxS, st_idxT, st_idxs, at_n, at_0, at_1, at_2, at_m1, st_slcL, st_slcT, st_slcs, cut_nn, cut_n, cut_from, cut_1, cut_to1, st_lens, st_lenL, st_lenS, st_lenT, st_inti, st_intb, st_min2, st_max2, st_sumL, st_allL, st_anyL, st_tupL, st_tupT, st_joinL, st_rcvj, st_sh, st_idxr, st_lenr, st_tupr, st_appr, st_rcvr, st_joinr, st_setr, mulOk_fm, mulOk_r, mulOk_l, st_eq, st_ne, W.eq, W.eqs, W.pl, W.pls, W.dep, W.deps, e17_2, odd5 n w hw]
  have e3 := lc_odd n 1 e17_3 [some (.ref i), some (.str a), some (.str b), x, some (encE (edit a b)), some (encE (edit a b)), some (encE K), p, q, r, z, some (.lst odd), none, none] G rfl fun w hw => by simp [ev, evs, evT, evO, evC, evI, asgT, asgTs, evH, pickH, ex, exB, runD, look, seqOf, isKds, isKd, szOk, bnd_ok, bnd_exc, noX_ok, wipe, st_mkt, st_mkf, st_addi, st_adds, st_addt, st_auI, st_auS, st_sub, st_mul, st_fdiv, st_mod, st_pow, st_cat, st_repl, st_reps, st_lt, st_le, st_gt, st_ge, st_eqi, st_nei, st_eqs, st_nes, st_idxL, st_idxS, st_idxT, st_idxs, at_n, at_0, at_1, at_2, at_m1, st_slcL, st_slcT, st_slcs, cut_nn, cut_n, cut_from, cut_1, cut_to1, st_lens, st_lenL, st_lenS, st_lenT, st_inti, st_intb, st_min2, st_max2, st_sumL, st_allL, st_anyL, st_tupL, st_tupT, st_joinL, st_rcvj, st_sh, st_idxr, st_lenr, st_tupr, st_appr, st_rcvr, st_joinr, st_setr, mulOk_fm, mulOk_r, mulOk_l, st_eq, st_ne, W.eq, W.eqs, W.pl, W.pls, W.dep, W.deps, e17_3, odd6 n w hw]
  generalize edit a b = E at *
  have hslc : slcW false (encE E) none (some 1) G = .ok (.tup ((E.map enc).take 1)) G := by simp [encE, st_slcT, cut_to1]
  generalize (E.map enc).take 1 = T at hslc hloop
  delta odd at e1 e2 e3
  simp [ev, evs, evT, evO, evC, evI, asgT, asgTs, evH, pickH, ex, exB, runD, look, seqOf, isKds, isKd, szOk, bnd_ok, bnd_exc, noX_ok, wipe, st_mkt, st_mkf, st_addi, st_adds, st_addt, st_auI, st_auS, st_sub, st_mul, st_fdiv, st_mod, st_pow, st_cat, st_repl, st_reps, st_lt, st_le, st_gt, st_ge, st_eqi, st_nei, st_eqs, st_nes, st_idxL, st_idxS, st_idxT, st_idxs, at_n, at_0, at_1, at_2, at_m1, st_slcL, st_slcT, st_slcs, cut_nn, cut_n, cut_from, cut_1, cut_to1, st_lens, st_lenL, st_lenS, st_lenT, st_inti, st_intb, st_min2, st_max2, st_sumL, st_allL, st_anyL, st_tupL, st_tupT, st_joinL, st_rcvj, st_sh, st_idxr, st_lenr, st_tupr, st_appr, st_rcvr, st_joinr, st_setr, mulOk_fm, mulOk_r, mulOk_l, st_eq, st_ne, W.eq, W.eqs, W.pl, W.pls, W.dep, W.deps, -List.reduceReplicate] at e1 e2 e3 hloop
  have hs := ne_same E G
  have hsK := ne_same K G
  have hnn := ne_nil G
  have e4 := lcL_map (asg := fun y G => asgT (cl (n + 5)) gk (.nm 13) y [some (.ref i), some (.str a), some (.str b), x, some (encE E), some (encE E), some (encE K), p, q, r, z, some (.lst odd), none, none] G) (cd := fun sw1 G => evC (cl (n + 5)) gk .no sw1 G) (e := fun sw1 G => ev (cl (n + 5)) gk e17_0 sw1 G) (s := ⟨[.tup [.non, .str a], .tup [.str a, .int 5], .tup [.str (List.replicate 401 97), .str a]], none⟩) (G := G) rfl (fun _ => .str [105, 110]) [.tup [.non, .str a], .tup [.str a, .int 5], .tup [.str (List.replicate 401 97), .str a]] [] (by simp) fun w hw => ⟨[some (.ref i), some (.str a), some (.str b), x, some (encE E), some (encE E), some (encE K), p, q, r, z, some (.lst odd), none, some w], by simp [ev, evs, evT, evO, evC, evI, asgT, asgTs, evH, pickH, ex, exB, runD, look, seqOf, isKds, isKd, szOk, bnd_ok, bnd_exc, noX_ok, wipe, st_mkt, st_mkf, st_addi, st_adds, st_addt, st_auI, st_auS, st_sub, st_mul, st_fdiv, st_mod, st_pow, st_cat, st_repl, st_reps, st_lt, st_le, st_gt, st_ge, st_eqi, st_nei, st_eqs, st_nes, st_idxL, st_idxS, st_idxT, st_idxs, at_n, at_0, at_1, at_2, at_m1, st_slcL, st_slcT, st_slcs, cut_nn, cut_n, cut_from, cut_1, cut_to1, st_lens, st_lenL, st_lenS, st_lenT, st_inti, st_intb, st_min2, st_max2, st_sumL, st_allL, st_anyL, st_tupL, st_tupT, st_joinL, st_rcvj, st_sh, st_idxr, st_lenr, st_tupr, st_appr, st_rcvr, st_joinr, st_setr, mulOk_fm, mulOk_r, mulOk_l, st_eq, st_ne, W.eq, W.eqs, W.pl, W.pls, W.dep, W.deps], by simp [ev, evs, evT, evO, evC, evI, asgT, asgTs, evH, pickH, ex, exB, runD, look, seqOf, isKds, isKd, szOk, bnd_ok, bnd_exc, noX_ok, wipe, st_mkt, st_mkf, st_addi, st_adds, st_addt, st_auI, st_auS, st_sub, st_mul, st_fdiv, st_mod, st_pow, st_cat, st_repl, st_reps, st_lt, st_le, st_gt, st_ge, st_eqi, st_nei, st_eqs, st_nes, st_idxL, st_idxS, st_idxT, st_idxs, at_n, at_0, at_1, at_2, at_m1, st_slcL, st_slcT, st_slcs, cut_nn, cut_n, cut_from, cut_1, cut_to1, st_lens, st_lenL, st_lenS, st_lenT, st_inti, st_intb, st_min2, st_max2, st_sumL, st_allL, st_anyL, st_tupL, st_tupT, st_joinL, st_rcvj, st_sh, st_idxr, st_lenr, st_tupr, st_appr, st_rcvr, st_joinr, st_setr, mulOk_fm, mulOk_r, mulOk_l, st_eq, st_ne, W.eq, W.eqs, W.pl, W.pls, W.dep, W.deps], by
    simp only [List.mem_cons, List.not_mem_nil, or_false] at hw
    rcases hw with rfl | rfl | rfl
    · simp [ev, evs, evT, evO, evC, evI, asgT, asgTs, evH, pickH, ex, exB, runD, look, seqOf, isKds, isKd, szOk, bnd_ok, bnd_exc, noX_ok, wipe, st_mkt, st_mkf, st_addi, st_adds, st_addt, st_auI, st_auS, st_sub, st_mul, st_fdiv, st_mod, st_pow, st_cat, st_repl, st_reps, st_lt, st_le, st_gt, st_ge, st_eqi, st_nei, st_eqs, st_nes, st_idxL, st_idxS, st_idxT, st_idxs, at_n, at_0, at_1, at_2, at_m1, st_slcL, st_slcT, st_slcs, cut_nn, cut_n, cut_from, cut_1, cut_to1, st_lens, st_lenL, st_lenS, st_lenT, st_inti, st_intb, st_min2, st_max2, st_sumL, st_allL, st_anyL, st_tupL, st_tupT, st_joinL, st_rcvj, st_sh, st_idxr, st_lenr, st_tupr, st_appr, st_rcvr, st_joinr, st_setr, mulOk_fm, mulOk_r, mulOk_l, st_eq, st_ne, W.eq, W.eqs, W.pl, W.pls, W.dep, W.deps, e17_0, told_none n a G]
    · simp [ev, evs, evT, evO, evC, evI, asgT, asgTs, evH, pickH, ex, exB, runD, look, seqOf, isKds, isKd, szOk, bnd_ok, bnd_exc, noX_ok, wipe, st_mkt, st_mkf, st_addi, st_adds, st_addt, st_auI, st_auS, st_sub, st_mul, st_fdiv, st_mod, st_pow, st_cat, st_repl, st_reps, st_lt, st_le, st_gt, st_ge, st_eqi, st_nei, st_eqs, st_nes, st_idxL, st_idxS, st_idxT, st_idxs, at_n, at_0, at_1, at_2, at_m1, st_slcL, st_slcT, st_slcs, cut_nn, cut_n, cut_from, cut_1, cut_to1, st_lens, st_lenL, st_lenS, st_lenT, st_inti, st_intb, st_min2, st_max2, st_sumL, st_allL, st_anyL, st_tupL, st_tupT, st_joinL, st_rcvj, st_sh, st_idxr, st_lenr, st_tupr, st_appr, st_rcvr, st_joinr, st_setr, mulOk_fm, mulOk_r, mulOk_l, st_eq, st_ne, W.eq, W.eqs, W.pl, W.pls, W.dep, W.deps, e17_0, told_five n a ha G]
    · simp [ev, evs, evT, evO, evC, evI, asgT, asgTs, evH, pickH, ex, exB, runD, look, seqOf, isKds, isKd, szOk, bnd_ok, bnd_exc, noX_ok, wipe, st_mkt, st_mkf, st_addi, st_adds, st_addt, st_auI, st_auS, st_sub, st_mul, st_fdiv, st_mod, st_pow, st_cat, st_repl, st_reps, st_lt, st_le, st_gt, st_ge, st_eqi, st_nei, st_eqs, st_nes, st_idxL, st_idxS, st_idxT, st_idxs, at_n, at_0, at_1, at_2, at_m1, st_slcL, st_slcT, st_slcs, cut_nn, cut_n, cut_from, cut_1, cut_to1, st_lens, st_lenL, st_lenS, st_lenT, st_inti, st_intb, st_min2, st_max2, st_sumL, st_allL, st_anyL, st_tupL, st_tupT, st_joinL, st_rcvj, st_sh, st_idxr, st_lenr, st_tupr, st_appr, st_rcvr, st_joinr, st_setr, mulOk_fm, mulOk_r, mulOk_l, st_eq, st_ne, W.eq, W.eqs, W.pl, W.pls, W.dep, W.deps, e17_0, told_long n a G, -List.reduceReplicate]⟩
  simp [ev, evs, evT, evO, evC, evI, asgT, asgTs, evH, pickH, ex, exB, runD, look, seqOf, isKds, isKd, szOk, bnd_ok, bnd_exc, noX_ok, wipe, st_mkt, st_mkf, st_addi, st_adds, st_addt, st_auI, st_auS, st_sub, st_mul, st_fdiv, st_mod, st_pow, st_cat, st_repl, st_reps, st_lt, st_le, st_gt, st_ge, st_eqi, st_nei, st_eqs, st_nes, st_idxL, st_idxS, st_idxT, st_idxs, at_n, at_0, at_1, at_2, at_m1, st_slcL, st_slcT, st_slcs, cut_nn, cut_n, cut_from, cut_1, cut_to1, st_lens, st_lenL, st_lenS, st_lenT, st_inti, st_intb, st_min2, st_max2, st_sumL, st_allL, st_anyL, st_tupL, st_tupT, st_joinL, st_rcvj, st_sh, st_idxr, st_lenr, st_tupr, st_appr, st_rcvr, st_joinr, st_setr, mulOk_fm, mulOk_r, mulOk_l, st_eq, st_ne, W.eq, W.eqs, W.pl, W.pls, W.dep, W.deps, odd, -List.reduceReplicate] at e4
  have hR : cmpW .ne (.lst (List.replicate 10 (.str [102, 111, 114, 109]))) (.lst (List.replicate 10 (.str [102, 111, 114, 109]))) G = .ok (.bl false) G := by rfl
  have hR3 : cmpW .eq (.lst [.str [105, 110], .str [105, 110], .str [105, 110]]) (.lst (List.replicate 3 (.str [105, 110]))) G = .ok (.bl true) G := by rfl
  simp [ev, evs, evT, evO, evC, evI, asgT, asgTs, evH, pickH, ex, exB, runD, look, seqOf, isKds, isKd, szOk, bnd_ok, bnd_exc, noX_ok, wipe, st_mkt, st_mkf, st_addi, st_adds, st_addt, st_auI, st_auS, st_sub, st_mul, st_fdiv, st_mod, st_pow, st_cat, st_repl, st_reps, st_lt, st_le, st_gt, st_ge, st_eqi, st_nei, st_eqs, st_nes, st_idxL, st_idxS, st_idxT, st_idxs, at_n, at_0, at_1, at_2, at_m1, st_slcL, st_slcT, st_slcs, cut_nn, cut_n, cut_from, cut_1, cut_to1, st_lens, st_lenL, st_lenS, st_lenT, st_inti, st_intb, st_min2, st_max2, st_sumL, st_allL, st_anyL, st_tupL, st_tupT, st_joinL, st_rcvj, st_sh, st_idxr, st_lenr, st_tupr, st_appr, st_rcvr, st_joinr, st_setr, mulOk_fm, mulOk_r, mulOk_l, st_eq, st_ne, W.eq, W.eqs, W.pl, W.pls, W.dep, W.deps, -List.reduceReplicate, t17, b17, rest, h15, h9, h9s, h6, h14, h4, h5, h4b, h5b, h6b, vl, hs, hsK, hnn, hslc, hloop, e1, e2, e3, e4, hR, hR3, told_app n G]
end K61
end

section
set_option linter.all false
set_option maxRecDepth 100000
set_option maxHeartbeats 4000000
/-! k61: the law. -/
namespace K61
open T2
def hd : B → S
  | .cons s _ => s
  | .nil => .pass
theorem case17 (n : Nat) (G : List O) (i : Nat) (h : isBag G i) : ∃ G', cl (n + 6) 17 [.ref i] G = .ok (.bl true) G' := by
  obtain ⟨a, G1, e1, l1, c1', h1⟩ := word (n + 2) G i 10 h (by decide) (by decide)
  obtain ⟨b, G2, e2, l2, c2', h2⟩ := word (n + 2) G1 i 10 h1 (by decide) (by decide)
  obtain ⟨r, G3, e3, r0, r1, h3⟩ := draw (n + 4) G2 i 2 h2 (by decide) (by decide)
  have hb : b17 = .cons (hd b17) (.cons (hd (rest b17)) (.cons (hd (rest (rest b17))) t17)) := rfl
  have ha : a.length ≤ 100 := by omega
  have hsz : a.length ≤ 16777216 := by omega
  have hd17 : d17 = ⟨14, 1, .cons (hd b17) (.cons (hd (rest b17)) (.cons (hd (rest (rest b17))) t17))⟩ := rfl
  rw [c17, hd17]
  by_cases hr : r = 0
  · subst hr
    obtain ⟨p, G4, e4, p0, p1, h4⟩ := draw (n + 4) G3 i (a.length + 1) h3 (by omega) (by omega)
    obtain ⟨w, G5, e5, l5, c5', h5⟩ := word (n + 2) G4 i 3 h4 (by decide) (by decide)
    obtain ⟨q, G6, e6, q0, q1, h6⟩ := draw (n + 4) G5 i 3 h5 (by decide) (by decide)
    obtain ⟨p, rfl⟩ := Int.eq_ofNat_of_zero_le p0
    obtain ⟨q, rfl⟩ := Int.eq_ofNat_of_zero_le q0
    have hl : (a.take p ++ w ++ a.drop (p + q)).length ≤ 100 := by simp only [List.length_append, List.length_take, List.length_drop]; omega
    have ht := tail17 n i a (a.take p ++ w ++ a.drop (p + q)) (some (.int (p : Nat))) ha hl c1' G6
    have hc : cutW a (some ((p : Int) + (q : Int))) none = a.drop (p + q) := by
      have := cut_from a (p + q)
      rwa [Int.natCast_add] at this
    have s1 : (a.take p).length + w.length ≤ 16777216 := by rw [List.length_take]; omega
    have s2 : (a.take p ++ w).length + (a.drop (p + q)).length ≤ 16777216 := by rw [← List.length_append]; omega
    refine ⟨G6, ?_⟩
    rw [List.length_take] at s1
    simp only [List.length_append, List.length_take, List.length_drop] at s2
    simp only [List.append_assoc] at ht
    simp [ev, evs, evT, evO, evC, evI, asgT, asgTs, evH, pickH, ex, exB, runD, look, seqOf, isKds, isKd, szOk, bnd_ok, bnd_exc, noX_ok, wipe, st_mkt, st_mkf, st_addi, st_adds, st_addt, st_auI, st_auS, st_sub, st_mul, st_fdiv, st_mod, st_pow, st_cat, st_repl, st_reps, st_lt, st_le, st_gt, st_ge, st_eqi, st_nei, st_eqs, st_nes, st_idxL, st_idxS, st_idxT, st_idxs, at_n, at_0, at_1, at_2, at_m1, st_slcL, st_slcT, st_slcs, cut_nn, cut_n, cut_from, cut_1, cut_to1, st_lens, st_lenL, st_lenS, st_lenT, st_inti, st_intb, st_min2, st_max2, st_sumL, st_allL, st_anyL, st_tupL, st_tupT, st_joinL, st_rcvj, st_sh, st_idxr, st_lenr, st_tupr, st_appr, st_rcvr, st_joinr, st_setr, mulOk_fm, mulOk_r, mulOk_l, st_eq, st_ne, W.eq, W.eqs, W.pl, W.pls, W.dep, W.deps, hd, rest, b17, e1, e2, e3, e4, e5, e6, ht, hc, hsz, s1, s2]
  · have ht := tail17 n i a b none ha (by omega) c1' G3
    exact ⟨G3, by simp [ev, evs, evT, evO, evC, evI, asgT, asgTs, evH, pickH, ex, exB, runD, look, seqOf, isKds, isKd, szOk, bnd_ok, bnd_exc, noX_ok, wipe, st_mkt, st_mkf, st_addi, st_adds, st_addt, st_auI, st_auS, st_sub, st_mul, st_fdiv, st_mod, st_pow, st_cat, st_repl, st_reps, st_lt, st_le, st_gt, st_ge, st_eqi, st_nei, st_eqs, st_nes, st_idxL, st_idxS, st_idxT, st_idxs, at_n, at_0, at_1, at_2, at_m1, st_slcL, st_slcT, st_slcs, cut_nn, cut_n, cut_from, cut_1, cut_to1, st_lens, st_lenL, st_lenS, st_lenT, st_inti, st_intb, st_min2, st_max2, st_sumL, st_allL, st_anyL, st_tupL, st_tupT, st_joinL, st_rcvj, st_sh, st_idxr, st_lenr, st_tupr, st_appr, st_rcvr, st_joinr, st_setr, mulOk_fm, mulOk_r, mulOk_l, st_eq, st_ne, W.eq, W.eqs, W.pl, W.pls, W.dep, W.deps, hd, rest, b17, e1, e2, e3, hr, ht]⟩
theorem fix1 (n : Nat) (G : List O) : callW (cl (n + 3)) .iso 9 [.str [97, 98, 99], .str [120, 98, 99, 121]] G = .ok (.tup [.tup [.int 0, .str [97], .str [120]], .tup [.int 3, .str [], .str [121]]]) G := by
  rw [t9 n _ _ (by decide) (by decide) G]
  have : edit [97, 98, 99] [120, 98, 99, 121] = [(0, [97], [120]), (3, [], [121])] := by simp [edit, fin, go, dist, stp, Sta.bl, eds]
  rw [this]
  rfl
theorem fix2 (n : Nat) (G : List O) : callW (cl (n + 3)) .iso 9 [.str [97, 97, 98], .str [97, 98]] G = .ok (.tup [.tup [.int 1, .str [97], .str []]]) G := by
  rw [t9 n _ _ (by decide) (by decide) G]
  have : edit [97, 97, 98] [97, 98] = [(1, [97], [])] := by simp [edit, fin, go, dist, stp, Sta.bl, eds]
  rw [this]
  rfl
theorem fix3 (n : Nat) (G : List O) : callW (cl (n + 5)) .iso 13 [.fn 4, .tup [.str [97, 98], .tup [.tup [.int 3, .str [], .str [99]]]]] G = .ok (.str [103, 111, 110, 101]) G := by
  refine told2x (n + 4) 4 _ _ _ (by decide) rfl rfl ?_ G
  refine iso_exc (G1 := []) rfl ?_ rfl
  have h2 := t2 (n + 1) [(3, [], [99])] (by simp [real]) trivial ⟨by decide, by simp⟩ []
  simp [encE, enc] at h2
  rw [c4]
  simp [ev, evs, evT, evO, evC, evI, asgT, asgTs, evH, pickH, ex, exB, runD, look, seqOf, isKds, isKd, szOk, bnd_ok, bnd_exc, noX_ok, wipe, st_mkt, st_mkf, st_addi, st_adds, st_addt, st_auI, st_auS, st_sub, st_mul, st_fdiv, st_mod, st_pow, st_cat, st_repl, st_reps, st_lt, st_le, st_gt, st_ge, st_eqi, st_nei, st_eqs, st_nes, st_idxL, st_idxS, st_idxT, st_idxs, at_n, at_0, at_1, at_2, at_m1, st_slcL, st_slcT, st_slcs, cut_nn, cut_n, cut_from, cut_1, cut_to1, st_lens, st_lenL, st_lenS, st_lenT, st_inti, st_intb, st_min2, st_max2, st_sumL, st_allL, st_anyL, st_tupL, st_tupT, st_joinL, st_rcvj, st_sh, st_idxr, st_lenr, st_tupr, st_appr, st_rcvr, st_joinr, st_setr, mulOk_fm, mulOk_r, mulOk_l, st_eq, st_ne, W.eq, W.eqs, W.pl, W.pls, W.dep, W.deps, d4, b4, b4_0, i0 (n + 2) [97, 98] (by decide) [], h2, forL, Seq.ok]
theorem law_true (ns : List Int) (hn : ns.length ≤ 63) : ∃ G', cl 40 18 [.scr (ns.map .int)] [] = .ok (.bl true) G' := by
  obtain ⟨m, hm⟩ : ∃ m : Nat, (if 8 < (if (ns.length : Int) < 1 then (1 : Int) else ns.length) then 8 else (if (ns.length : Int) < 1 then (1 : Int) else ns.length)) = (m : Int) ∧ m ≤ 8 := by
    refine ⟨min (max ns.length 1) 8, ?_, by omega⟩
    by_cases h1 : (ns.length : Int) < 1
    · simp only [if_pos h1]; rw [if_neg (by decide)]; omega
    · simp only [if_neg h1]
      by_cases h8 : (8 : Int) < ns.length
      · rw [if_pos h8]; omega
      · rw [if_neg h8]; omega
  obtain ⟨hm, hm8⟩ := hm
  obtain ⟨sw', G', ef, _⟩ := forL_rel (asg := fun w sw G => asgT (cl 39) gk (.nm 1) w sw G) (body := fun sw G => exB (cl 39) gk wf b18_0 sw G) (s := ⟨rngL 0 (m : Int), none⟩) (α := Unit) (fun _ sw G => ∃ x, sw = [some (.scr (ns.map .int)), x]) (fun a _ => a) (fun _ _ _ _ => rfl) (rngL 0 (m : Int)) () [some (.scr (ns.map .int)), none] [] ⟨_, rfl⟩ (fun u x sw G hx ⟨y, hsw⟩ => by
      subst hsw
      obtain ⟨k, hk, rfl⟩ := List.mem_map.mp hx
      have hk0 : (0 : Int) + (k : Nat) = ((k : Nat) : Int) := by omega
      rw [hk0]
      obtain ⟨G1, e1, h1⟩ := bag 38 G ns k
      obtain ⟨G2, e2⟩ := case17 33 G1 G.length h1
      exact ⟨[some (.scr (ns.map .int)), some (.int (k : Nat))], G, [some (.scr (ns.map .int)), some (.int (k : Nat))], G2, by simp [ev, evs, evT, evO, evC, evI, asgT, asgTs, evH, pickH, ex, exB, runD, look, seqOf, isKds, isKd, szOk, bnd_ok, bnd_exc, noX_ok, wipe, st_mkt, st_mkf, st_addi, st_adds, st_addt, st_auI, st_auS, st_sub, st_mul, st_fdiv, st_mod, st_pow, st_cat, st_repl, st_reps, st_lt, st_le, st_gt, st_ge, st_eqi, st_nei, st_eqs, st_nes, st_idxL, st_idxS, st_idxT, st_idxs, at_n, at_0, at_1, at_2, at_m1, st_slcL, st_slcT, st_slcs, cut_nn, cut_n, cut_from, cut_1, cut_to1, st_lens, st_lenL, st_lenS, st_lenT, st_inti, st_intb, st_min2, st_max2, st_sumL, st_allL, st_anyL, st_tupL, st_tupT, st_joinL, st_rcvj, st_sh, st_idxr, st_lenr, st_tupr, st_appr, st_rcvr, st_joinr, st_setr, mulOk_fm, mulOk_r, mulOk_l, st_eq, st_ne, W.eq, W.eqs, W.pl, W.pls, W.dep, W.deps], .inl (by simp [ev, evs, evT, evO, evC, evI, asgT, asgTs, evH, pickH, ex, exB, runD, look, seqOf, isKds, isKd, szOk, bnd_ok, bnd_exc, noX_ok, wipe, st_mkt, st_mkf, st_addi, st_adds, st_addt, st_auI, st_auS, st_sub, st_mul, st_fdiv, st_mod, st_pow, st_cat, st_repl, st_reps, st_lt, st_le, st_gt, st_ge, st_eqi, st_nei, st_eqs, st_nes, st_idxL, st_idxS, st_idxT, st_idxs, at_n, at_0, at_1, at_2, at_m1, st_slcL, st_slcT, st_slcs, cut_nn, cut_n, cut_from, cut_1, cut_to1, st_lens, st_lenL, st_lenS, st_lenT, st_inti, st_intb, st_min2, st_max2, st_sumL, st_allL, st_anyL, st_tupL, st_tupT, st_joinL, st_rcvj, st_sh, st_idxr, st_lenr, st_tupr, st_appr, st_rcvr, st_joinr, st_setr, mulOk_fm, mulOk_r, mulOk_l, st_eq, st_ne, W.eq, W.eqs, W.pl, W.pls, W.dep, W.deps, b18_0, e1, e2]), _, rfl⟩)
  refine ⟨G', ?_⟩
  have hsm : small (m : Int) = true := small_nat m (by omega)
  have f1 := fix1 36 []
  have f2 := fix2 36 []
  have f3 := fix3 34 []
  rw [c18]
  simp [ev, evs, evT, evO, evC, evI, asgT, asgTs, evH, pickH, ex, exB, runD, look, seqOf, isKds, isKd, szOk, bnd_ok, bnd_exc, noX_ok, wipe, st_mkt, st_mkf, st_addi, st_adds, st_addt, st_auI, st_auS, st_sub, st_mul, st_fdiv, st_mod, st_pow, st_cat, st_repl, st_reps, st_lt, st_le, st_gt, st_ge, st_eqi, st_nei, st_eqs, st_nes, st_idxL, st_idxS, st_idxT, st_idxs, at_n, at_0, at_1, at_2, at_m1, st_slcL, st_slcT, st_slcs, cut_nn, cut_n, cut_from, cut_1, cut_to1, st_lens, st_lenL, st_lenS, st_lenT, st_inti, st_intb, st_min2, st_max2, st_sumL, st_allL, st_anyL, st_tupL, st_tupT, st_joinL, st_rcvj, st_sh, st_idxr, st_lenr, st_tupr, st_appr, st_rcvr, st_joinr, st_setr, mulOk_fm, mulOk_r, mulOk_l, st_eq, st_ne, W.eq, W.eqs, W.pl, W.pls, W.dep, W.deps] at ef
  simp [ev, evs, evT, evO, evC, evI, asgT, asgTs, evH, pickH, ex, exB, runD, look, seqOf, isKds, isKd, szOk, bnd_ok, bnd_exc, noX_ok, wipe, st_mkt, st_mkf, st_addi, st_adds, st_addt, st_auI, st_auS, st_sub, st_mul, st_fdiv, st_mod, st_pow, st_cat, st_repl, st_reps, st_lt, st_le, st_gt, st_ge, st_eqi, st_nei, st_eqs, st_nes, st_idxL, st_idxS, st_idxT, st_idxs, at_n, at_0, at_1, at_2, at_m1, st_slcL, st_slcT, st_slcs, cut_nn, cut_n, cut_from, cut_1, cut_to1, st_lens, st_lenL, st_lenS, st_lenT, st_inti, st_intb, st_min2, st_max2, st_sumL, st_allL, st_anyL, st_tupL, st_tupT, st_joinL, st_rcvj, st_sh, st_idxr, st_lenr, st_tupr, st_appr, st_rcvr, st_joinr, st_setr, mulOk_fm, mulOk_r, mulOk_l, st_eq, st_ne, W.eq, W.eqs, W.pl, W.pls, W.dep, W.deps, d18, b18, f1, f2, f3, hm, hsm, ef]
end K61
end

section
set_option Elab.async false
set_option linter.all false
set_option autoImplicit false
set_option maxRecDepth 100000
set_option maxHeartbeats 0
/-! The law's text is the code of PK61: printed by gen.py. -/
namespace K61
open PySem PySem.Spec L2 T2
def top (i : Nat) : Stmt := PySem.Challenge.pw_twowaytexts_k61_edits_of_texts.main.body.getD i (.Pass ⟨0, 0, 0, 0⟩)
def FN : List Str := ["check_string", "is_change", "check_edit", "changed", "apply_edit", "undone", "cost_of", "costs_from", "least_edit", "edit_between", "_law_bag", "_law_draw", "_law_one", "_law_told", "_law_deeds", "_law_edit", "_law_word", "_law_case", "law"]
def CN : List Str := ["MOST_TEXT"]
def XN : List Str := ["BadPaper", "NotIn"]
def NB : List Str := ["abs", "all", "any", "bool", "enumerate", "int", "isinstance", "len", "list", "max", "min", "range", "sorted", "str", "sum", "tuple", "zip"]
def XF : List (List Str) := [["word"], ["which"]]
theorem fn_0 : FN[0]? = some ("check_string" : Str) := rfl
theorem fn_1 : FN[1]? = some ("is_change" : Str) := rfl
theorem fn_2 : FN[2]? = some ("check_edit" : Str) := rfl
theorem fn_3 : FN[3]? = some ("changed" : Str) := rfl
theorem fn_4 : FN[4]? = some ("apply_edit" : Str) := rfl
theorem fn_5 : FN[5]? = some ("undone" : Str) := rfl
theorem fn_6 : FN[6]? = some ("cost_of" : Str) := rfl
theorem fn_7 : FN[7]? = some ("costs_from" : Str) := rfl
theorem fn_8 : FN[8]? = some ("least_edit" : Str) := rfl
theorem fn_9 : FN[9]? = some ("edit_between" : Str) := rfl
theorem fn_10 : FN[10]? = some ("_law_bag" : Str) := rfl
theorem fn_11 : FN[11]? = some ("_law_draw" : Str) := rfl
theorem fn_12 : FN[12]? = some ("_law_one" : Str) := rfl
theorem fn_13 : FN[13]? = some ("_law_told" : Str) := rfl
theorem fn_14 : FN[14]? = some ("_law_deeds" : Str) := rfl
theorem fn_15 : FN[15]? = some ("_law_edit" : Str) := rfl
theorem fn_16 : FN[16]? = some ("_law_word" : Str) := rfl
theorem fn_17 : FN[17]? = some ("_law_case" : Str) := rfl
theorem fn_18 : FN[18]? = some ("law" : Str) := rfl
theorem cn_0 : CN[0]? = some ("MOST_TEXT" : Str) := rfl
theorem xn_0 : XN[0]? = some ("BadPaper" : Str) := rfl
theorem xn_1 : XN[1]? = some ("NotIn" : Str) := rfl
theorem lt_0 : 0 < 2 := by decide
theorem lt_1 : 1 < 2 := by decide
theorem nb_abs : ("abs" : Str) ∈ NB := by decide +kernel
theorem nb_all : ("all" : Str) ∈ NB := by decide +kernel
theorem nb_any : ("any" : Str) ∈ NB := by decide +kernel
theorem nb_bool : ("bool" : Str) ∈ NB := by decide +kernel
theorem nb_enumerate : ("enumerate" : Str) ∈ NB := by decide +kernel
theorem nb_int : ("int" : Str) ∈ NB := by decide +kernel
theorem nb_isinstance : ("isinstance" : Str) ∈ NB := by decide +kernel
theorem nb_len : ("len" : Str) ∈ NB := by decide +kernel
theorem nb_list : ("list" : Str) ∈ NB := by decide +kernel
theorem nb_max : ("max" : Str) ∈ NB := by decide +kernel
theorem nb_min : ("min" : Str) ∈ NB := by decide +kernel
theorem nb_range : ("range" : Str) ∈ NB := by decide +kernel
theorem nb_sorted : ("sorted" : Str) ∈ NB := by decide +kernel
theorem nb_str : ("str" : Str) ∈ NB := by decide +kernel
theorem nb_sum : ("sum" : Str) ∈ NB := by decide +kernel
theorem nb_tuple : ("tuple" : Str) ∈ NB := by decide +kernel
theorem nb_zip : ("zip" : Str) ∈ NB := by decide +kernel
theorem bo_int : bootBuiltins "int" = some (.type "int") := by decide +kernel
theorem bo_bool : bootBuiltins "bool" = some (.type "bool") := by decide +kernel
theorem bo_str : bootBuiltins "str" = some (.type "str") := by decide +kernel
theorem bo_tuple : bootBuiltins "tuple" = some (.type "tuple") := by decide +kernel
theorem bo_list : bootBuiltins "list" = some (.type "list") := by decide +kernel
/-- the module's names -/
def ZZ (P : Program) (w : World) (K : PySem.W.Frag) (fa xa : Nat → Addr) (mg : Str → Option Value) (base : Heap) : Ev2 := { P := P, w := w, K := K, fa := fa, xa := xa, xf := fun c => XF.getD c [], xn := 2, mg := mg, base := base, tb := tb, gk := gk, wf := wf, fnm := FN, cnm := CN, xnm := XN, nb := NB }
section
variable {P : Program} {w : World} {K : PySem.W.Frag} {fa xa : Nat → Addr} {mg : Str → Option Value} {base : Heap}
theorem tb_all : ∀ k, k < 19 → ((ZZ P w K fa xa mg base).tb k).isSome = true := fun k h => by
  have e : ∀ j : Nat, j < 19 → (tb j).isSome = true := by intro j hj; unfold tb; rw [List.getElem?_eq_getElem (by simpa [TB] using hj)]; rfl
  exact e k h
/-! check_string -/
def N0 : List Str := ["text"]
def ps0 : List Str := ["text"]
abbrev st0 : Stmt := top 6
abbrev sc0 : Scope := defScope st0
theorem v0_0 {Z : Ev2} {pos : Pos} : HE Z N0 sc0 F1 (.Name "text" pos) (.v 0) := .v rfl (by decide +kernel) (by decide +kernel)
theorem g0_MOST_TEXT : glB sc0 "MOST_TEXT" = true := by decide +kernel
theorem g0_NotIn : glB sc0 "NotIn" = true := by decide +kernel
theorem g0_isinstance : glB sc0 "isinstance" = true := by decide +kernel
theorem g0_len : glB sc0 "len" = true := by decide +kernel
theorem g0_str : glB sc0 "str" = true := by decide +kernel
theorem hb0 (gz : Good (ZZ P w K fa xa mg base)) (em : Exm (ZZ P w K fa xa mg base)) (xc : ∀ c, c < 2 → XcOk (ZZ P w K fa xa mg base) c) : HB (ZZ P w K fa xa mg base) N0 sc0 (defBody st0) b0 :=
  (.cons (.ife (HW.t (HW.or (.not (HT.val (.isi (k := .str) gz nb_isinstance g0_isinstance nb_str g0_str bo_str v0_0) rfl (fun _ _ => rfl))) (HW.or1 (.cmp ho_gt (.len gz nb_len g0_len (.cons v0_0 .nil)) (.gk gz cn_0 g0_MOST_TEXT (by decide +kernel)))))) (.cons (.raise1 gz (xc 1 lt_1) lt_1 xn_1 g0_NotIn (by decide +kernel) (.str (by decide +kernel))) .nil) .nil) .nil)
theorem fs0 : FnScope N0 ps0 sc0 := ⟨by decide +kernel, by decide +kernel, by decide +kernel, by decide +kernel, by decide +kernel, by decide +kernel, by decide +kernel⟩
/-! is_change -/
def N1 : List Str := ["value"]
def ps1 : List Str := ["value"]
abbrev st1 : Stmt := top 7
abbrev sc1 : Scope := defScope st1
theorem v1_0 {Z : Ev2} {pos : Pos} : HE Z N1 sc1 F1 (.Name "value" pos) (.v 0) := .v rfl (by decide +kernel) (by decide +kernel)
theorem g1_bool : glB sc1 "bool" = true := by decide +kernel
theorem g1_int : glB sc1 "int" = true := by decide +kernel
theorem g1_isinstance : glB sc1 "isinstance" = true := by decide +kernel
theorem g1_len : glB sc1 "len" = true := by decide +kernel
theorem g1_str : glB sc1 "str" = true := by decide +kernel
theorem g1_tuple : glB sc1 "tuple" = true := by decide +kernel
theorem hb1 (gz : Good (ZZ P w K fa xa mg base)) (em : Exm (ZZ P w K fa xa mg base)) (xc : ∀ c, c < 2 → XcOk (ZZ P w K fa xa mg base) c) : HB (ZZ P w K fa xa mg base) N1 sc1 (defBody st1) b1 :=
  (.cons (.ife (HW.t (HW.or (.not (HT.val (.isi (k := .tuple) gz nb_isinstance g1_isinstance nb_tuple g1_tuple bo_tuple v1_0) rfl (fun _ _ => rfl))) (HW.or (.cmp ho_ne (.len gz nb_len g1_len (.cons v1_0 .nil)) .int) (HW.or1 (.not (HT.val (.isi (k := .str) gz nb_isinstance g1_isinstance nb_str g1_str bo_str (.idx v1_0 .int)) rfl (fun _ _ => rfl))))))) (.cons (.ret .bl) .nil) .nil) (.cons (.ife (HW.t (HW.or (.not (HT.val (.isi (k := .str) gz nb_isinstance g1_isinstance nb_str g1_str bo_str (.idx v1_0 .int)) rfl (fun _ _ => rfl))) (HW.or1 (.cmp ho_eq (.slc v1_0 (.yes .int) .no) (.tup (.cons (.str (by decide +kernel)) (.cons (.str (by decide +kernel)) .nil))))))) (.cons (.ret .bl) .nil) .nil) (.cons (.ret (.and (.isi (k := .int) gz nb_isinstance g1_isinstance nb_int g1_int bo_int (.idx v1_0 .int)) (.and (.not (.isi (k := .bool) gz nb_isinstance g1_isinstance nb_bool g1_bool bo_bool (.idx v1_0 .int))) (.one (.cmp ho_ge (.idx v1_0 .int) .int))))) .nil)))
theorem fs1 : FnScope N1 ps1 sc1 := ⟨by decide +kernel, by decide +kernel, by decide +kernel, by decide +kernel, by decide +kernel, by decide +kernel, by decide +kernel⟩
/-! check_edit -/
def N2 : List Str := ["edit", "one", "after"]
def ps2 : List Str := ["edit"]
abbrev st2 : Stmt := top 8
abbrev sc2 : Scope := defScope st2
theorem v2_0 {Z : Ev2} {pos : Pos} : HE Z N2 sc2 F1 (.Name "edit" pos) (.v 0) := .v rfl (by decide +kernel) (by decide +kernel)
theorem v2_1 {Z : Ev2} {pos : Pos} : HE Z N2 sc2 F1 (.Name "one" pos) (.v 1) := .v rfl (by decide +kernel) (by decide +kernel)
theorem v2_2 {Z : Ev2} {pos : Pos} : HE Z N2 sc2 F1 (.Name "after" pos) (.v 2) := .v rfl (by decide +kernel) (by decide +kernel)
theorem g2_BadPaper : glB sc2 "BadPaper" = true := by decide +kernel
theorem g2_all : glB sc2 "all" = true := by decide +kernel
theorem g2_isinstance : glB sc2 "isinstance" = true := by decide +kernel
theorem g2_len : glB sc2 "len" = true := by decide +kernel
theorem g2_tuple : glB sc2 "tuple" = true := by decide +kernel
theorem g2_zip : glB sc2 "zip" = true := by decide +kernel
theorem hb2 (gz : Good (ZZ P w K fa xa mg base)) (em : Exm (ZZ P w K fa xa mg base)) (xc : ∀ c, c < 2 → XcOk (ZZ P w K fa xa mg base) c) : HB (ZZ P w K fa xa mg base) N2 sc2 (defBody st2) b2 :=
  (.cons (.ife (HW.t (HW.or (.not (HT.val (.isi (k := .tuple) gz nb_isinstance g2_isinstance nb_tuple g2_tuple bo_tuple v2_0) rfl (fun _ _ => rfl))) (HW.or1 (.not (HT.val (.all gz nb_all g2_all (.cons (.lc (own := [("one", 1)]) (.seq v2_0) (by decide +kernel) (.nm rfl (by decide +kernel) (by decide +kernel)) rfl .no (.call gz fn_1 rfl (by decide +kernel) (by decide +kernel) (.cons (.v rfl (by decide +kernel) (by decide +kernel)) .nil))) .nil)) rfl (fun _ _ => rfl)))))) (.cons (.raise1 gz (xc 0 lt_0) lt_0 xn_0 g2_BadPaper (by decide +kernel) (.str (by decide +kernel))) .nil) .nil) (.cons (.frr (.zip gz nb_zip g2_zip v2_0 (.slc v2_0 (.yes .int) .no)) (.tp (.cons (.nm rfl (by decide +kernel) (by decide +kernel)) (.cons (.nm rfl (by decide +kernel) (by decide +kernel)) .nil))) (.cons (.ife (.cmp ho_le (.idx v2_2 .int) (.add (.idx v2_1 .int) (.len gz nb_len g2_len (.cons (.idx v2_1 .int) .nil)))) (.cons (.raise1 gz (xc 0 lt_0) lt_0 xn_0 g2_BadPaper (by decide +kernel) (.str (by decide +kernel))) .nil) .nil) .nil)) .nil))
theorem fs2 : FnScope N2 ps2 sc2 := ⟨by decide +kernel, by decide +kernel, by decide +kernel, by decide +kernel, by decide +kernel, by decide +kernel, by decide +kernel⟩
/-! changed -/
def N3 : List Str := ["text", "edit", "parts", "at", "place", "gone", "come"]
def ps3 : List Str := ["text", "edit"]
abbrev st3 : Stmt := top 9
abbrev sc3 : Scope := defScope st3
theorem v3_0 {Z : Ev2} {pos : Pos} : HE Z N3 sc3 F1 (.Name "text" pos) (.v 0) := .v rfl (by decide +kernel) (by decide +kernel)
theorem v3_1 {Z : Ev2} {pos : Pos} : HE Z N3 sc3 F1 (.Name "edit" pos) (.v 1) := .v rfl (by decide +kernel) (by decide +kernel)
theorem v3_2 {Z : Ev2} {pos : Pos} : HE Z N3 sc3 F1 (.Name "parts" pos) (.v 2) := .v rfl (by decide +kernel) (by decide +kernel)
theorem v3_3 {Z : Ev2} {pos : Pos} : HE Z N3 sc3 F1 (.Name "at" pos) (.v 3) := .v rfl (by decide +kernel) (by decide +kernel)
theorem v3_4 {Z : Ev2} {pos : Pos} : HE Z N3 sc3 F1 (.Name "place" pos) (.v 4) := .v rfl (by decide +kernel) (by decide +kernel)
theorem v3_5 {Z : Ev2} {pos : Pos} : HE Z N3 sc3 F1 (.Name "gone" pos) (.v 5) := .v rfl (by decide +kernel) (by decide +kernel)
theorem v3_6 {Z : Ev2} {pos : Pos} : HE Z N3 sc3 F1 (.Name "come" pos) (.v 6) := .v rfl (by decide +kernel) (by decide +kernel)
theorem g3_len : glB sc3 "len" = true := by decide +kernel
theorem hb3 (gz : Good (ZZ P w K fa xa mg base)) (em : Exm (ZZ P w K fa xa mg base)) (xc : ∀ c, c < 2 → XcOk (ZZ P w K fa xa mg base) c) : HB (ZZ P w K fa xa mg base) N3 sc3 (defBody st3) b3 :=
  (.cons (.asg (.lst .nil) (.nm rfl (by decide +kernel) (by decide +kernel)) (fun _ _ _ => rfl) (fun _ _ => rfl)) (.cons (.asg .int (.nm rfl (by decide +kernel) (by decide +kernel)) (fun _ _ _ => rfl) (fun _ _ => rfl)) (.cons (.frr (.seq v3_1) (.tp (.cons (.nm rfl (by decide +kernel) (by decide +kernel)) (.cons (.nm rfl (by decide +kernel) (by decide +kernel)) (.cons (.nm rfl (by decide +kernel) (by decide +kernel)) .nil)))) (.cons (.exp (.append (fun _ _ => rfl) rfl v3_2 (.cons (.slc v3_0 (.yes v3_3) (.yes v3_4)) .nil)) (fun _ _ => rfl)) (.cons (.exp (.append (fun _ _ => rfl) rfl v3_2 (.cons v3_6 .nil)) (fun _ _ => rfl)) (.cons (.asg (.add v3_4 (.len gz nb_len g3_len (.cons v3_5 .nil))) (.nm rfl (by decide +kernel) (by decide +kernel)) (fun _ _ _ => rfl) (fun _ _ => rfl)) .nil)))) (.cons (.exp (.append (fun _ _ => rfl) rfl v3_2 (.cons (.slc v3_0 (.yes v3_3) .no) .nil)) (fun _ _ => rfl)) (.cons (.ret (.join (fun _ _ => rfl) rfl (.str (by decide +kernel)) (.cons v3_2 .nil))) .nil)))))
theorem fs3 : FnScope N3 ps3 sc3 := ⟨by decide +kernel, by decide +kernel, by decide +kernel, by decide +kernel, by decide +kernel, by decide +kernel, by decide +kernel⟩
/-! apply_edit -/
def N4 : List Str := ["text", "edit", "place", "gone", "_"]
def ps4 : List Str := ["text", "edit"]
abbrev st4 : Stmt := top 10
abbrev sc4 : Scope := defScope st4
theorem v4_0 {Z : Ev2} {pos : Pos} : HE Z N4 sc4 F1 (.Name "text" pos) (.v 0) := .v rfl (by decide +kernel) (by decide +kernel)
theorem v4_1 {Z : Ev2} {pos : Pos} : HE Z N4 sc4 F1 (.Name "edit" pos) (.v 1) := .v rfl (by decide +kernel) (by decide +kernel)
theorem v4_2 {Z : Ev2} {pos : Pos} : HE Z N4 sc4 F1 (.Name "place" pos) (.v 2) := .v rfl (by decide +kernel) (by decide +kernel)
theorem v4_3 {Z : Ev2} {pos : Pos} : HE Z N4 sc4 F1 (.Name "gone" pos) (.v 3) := .v rfl (by decide +kernel) (by decide +kernel)
theorem g4_BadPaper : glB sc4 "BadPaper" = true := by decide +kernel
theorem g4_changed : glB sc4 "changed" = true := by decide +kernel
theorem g4_check_edit : glB sc4 "check_edit" = true := by decide +kernel
theorem g4_check_string : glB sc4 "check_string" = true := by decide +kernel
theorem g4_len : glB sc4 "len" = true := by decide +kernel
theorem hb4 (gz : Good (ZZ P w K fa xa mg base)) (em : Exm (ZZ P w K fa xa mg base)) (xc : ∀ c, c < 2 → XcOk (ZZ P w K fa xa mg base) c) : HB (ZZ P w K fa xa mg base) N4 sc4 (defBody st4) b4 :=
  (.cons (.exp (.call gz fn_0 rfl g4_check_string (by decide +kernel) (.cons v4_0 .nil)) (fun _ _ => rfl)) (.cons (.exp (.call gz fn_2 rfl g4_check_edit (by decide +kernel) (.cons v4_1 .nil)) (fun _ _ => rfl)) (.cons (.frr (.seq v4_1) (.tp (.cons (.nm rfl (by decide +kernel) (by decide +kernel)) (.cons (.nm rfl (by decide +kernel) (by decide +kernel)) (.cons (.nm rfl (by decide +kernel) (by decide +kernel)) .nil)))) (.cons (.ife (HW.t (HW.or (.cmp ho_gt v4_2 (.len gz nb_len g4_len (.cons v4_0 .nil))) (HW.or1 (.cmp ho_ne (.slc v4_0 (.yes v4_2) (.yes (.add v4_2 (.len gz nb_len g4_len (.cons v4_3 .nil))))) v4_3)))) (.cons (.raise1 gz (xc 0 lt_0) lt_0 xn_0 g4_BadPaper (by decide +kernel) (.str (by decide +kernel))) .nil) .nil) .nil)) (.cons (.ret (.call gz fn_3 rfl g4_changed (by decide +kernel) (.cons v4_0 (.cons v4_1 .nil)))) .nil))))
theorem fs4 : FnScope N4 ps4 sc4 := ⟨by decide +kernel, by decide +kernel, by decide +kernel, by decide +kernel, by decide +kernel, by decide +kernel, by decide +kernel⟩
/-! undone -/
def N5 : List Str := ["edit", "found", "shift", "place", "gone", "come"]
def ps5 : List Str := ["edit"]
abbrev st5 : Stmt := top 11
abbrev sc5 : Scope := defScope st5
theorem v5_0 {Z : Ev2} {pos : Pos} : HE Z N5 sc5 F1 (.Name "edit" pos) (.v 0) := .v rfl (by decide +kernel) (by decide +kernel)
theorem v5_1 {Z : Ev2} {pos : Pos} : HE Z N5 sc5 F1 (.Name "found" pos) (.v 1) := .v rfl (by decide +kernel) (by decide +kernel)
theorem v5_2 {Z : Ev2} {pos : Pos} : HE Z N5 sc5 F1 (.Name "shift" pos) (.v 2) := .v rfl (by decide +kernel) (by decide +kernel)
theorem v5_3 {Z : Ev2} {pos : Pos} : HE Z N5 sc5 F1 (.Name "place" pos) (.v 3) := .v rfl (by decide +kernel) (by decide +kernel)
theorem v5_4 {Z : Ev2} {pos : Pos} : HE Z N5 sc5 F1 (.Name "gone" pos) (.v 4) := .v rfl (by decide +kernel) (by decide +kernel)
theorem v5_5 {Z : Ev2} {pos : Pos} : HE Z N5 sc5 F1 (.Name "come" pos) (.v 5) := .v rfl (by decide +kernel) (by decide +kernel)
theorem g5_check_edit : glB sc5 "check_edit" = true := by decide +kernel
theorem g5_len : glB sc5 "len" = true := by decide +kernel
theorem g5_tuple : glB sc5 "tuple" = true := by decide +kernel
theorem hb5 (gz : Good (ZZ P w K fa xa mg base)) (em : Exm (ZZ P w K fa xa mg base)) (xc : ∀ c, c < 2 → XcOk (ZZ P w K fa xa mg base) c) : HB (ZZ P w K fa xa mg base) N5 sc5 (defBody st5) b5 :=
  (.cons (.exp (.call gz fn_2 rfl g5_check_edit (by decide +kernel) (.cons v5_0 .nil)) (fun _ _ => rfl)) (.cons (.asg (.lst .nil) (.nm rfl (by decide +kernel) (by decide +kernel)) (fun _ _ _ => rfl) (fun _ _ => rfl)) (.cons (.asg .int (.nm rfl (by decide +kernel) (by decide +kernel)) (fun _ _ _ => rfl) (fun _ _ => rfl)) (.cons (.frr (.seq v5_0) (.tp (.cons (.nm rfl (by decide +kernel) (by decide +kernel)) (.cons (.nm rfl (by decide +kernel) (by decide +kernel)) (.cons (.nm rfl (by decide +kernel) (by decide +kernel)) .nil)))) (.cons (.exp (.append (fun _ _ => rfl) rfl v5_1 (.cons (.tup (.cons (.add v5_3 v5_2) (.cons v5_5 (.cons v5_4 .nil)))) .nil)) (fun _ _ => rfl)) (.cons (.aug si_add rfl (by decide +kernel) (.sub (.len gz nb_len g5_len (.cons v5_5 .nil)) (.len gz nb_len g5_len (.cons v5_4 .nil)))) .nil))) (.cons (.ret (.tuple gz nb_tuple g5_tuple (.cons v5_1 .nil))) .nil)))))
theorem fs5 : FnScope N5 ps5 sc5 := ⟨by decide +kernel, by decide +kernel, by decide +kernel, by decide +kernel, by decide +kernel, by decide +kernel, by decide +kernel⟩
/-! cost_of -/
def N6 : List Str := ["edit", "_", "gone", "come"]
def ps6 : List Str := ["edit"]
abbrev st6 : Stmt := top 12
abbrev sc6 : Scope := defScope st6
theorem v6_0 {Z : Ev2} {pos : Pos} : HE Z N6 sc6 F1 (.Name "edit" pos) (.v 0) := .v rfl (by decide +kernel) (by decide +kernel)
theorem g6_check_edit : glB sc6 "check_edit" = true := by decide +kernel
theorem g6_sum : glB sc6 "sum" = true := by decide +kernel
theorem hb6 (gz : Good (ZZ P w K fa xa mg base)) (em : Exm (ZZ P w K fa xa mg base)) (xc : ∀ c, c < 2 → XcOk (ZZ P w K fa xa mg base) c) : HB (ZZ P w K fa xa mg base) N6 sc6 (defBody st6) b6 :=
  (.cons (.exp (.call gz fn_2 rfl g6_check_edit (by decide +kernel) (.cons v6_0 .nil)) (fun _ _ => rfl)) (.cons (.ret (.sum gz nb_sum g6_sum (.cons (.lc (own := [("_", 1), ("gone", 2), ("come", 3)]) (.seq v6_0) (by decide +kernel) (.tp (.cons (.nm rfl (by decide +kernel) (by decide +kernel)) (.cons (.nm rfl (by decide +kernel) (by decide +kernel)) (.cons (.nm rfl (by decide +kernel) (by decide +kernel)) .nil)))) rfl .no (.add (.len gz nb_len (by decide +kernel) (.cons (.v rfl (by decide +kernel) (by decide +kernel)) .nil)) (.len gz nb_len (by decide +kernel) (.cons (.v rfl (by decide +kernel) (by decide +kernel)) .nil)))) .nil))) .nil))
theorem fs6 : FnScope N6 ps6 sc6 := ⟨by decide +kernel, by decide +kernel, by decide +kernel, by decide +kernel, by decide +kernel, by decide +kernel, by decide +kernel⟩
/-! costs_from -/
def N7 : List Str := ["one", "other", "costs", "i", "j"]
def ps7 : List Str := ["one", "other"]
abbrev st7 : Stmt := top 13
abbrev sc7 : Scope := defScope st7
theorem v7_0 {Z : Ev2} {pos : Pos} : HE Z N7 sc7 F1 (.Name "one" pos) (.v 0) := .v rfl (by decide +kernel) (by decide +kernel)
theorem v7_1 {Z : Ev2} {pos : Pos} : HE Z N7 sc7 F1 (.Name "other" pos) (.v 1) := .v rfl (by decide +kernel) (by decide +kernel)
theorem v7_2 {Z : Ev2} {pos : Pos} : HE Z N7 sc7 F1 (.Name "costs" pos) (.v 2) := .v rfl (by decide +kernel) (by decide +kernel)
theorem v7_3 {Z : Ev2} {pos : Pos} : HE Z N7 sc7 F1 (.Name "i" pos) (.v 3) := .v rfl (by decide +kernel) (by decide +kernel)
theorem v7_4 {Z : Ev2} {pos : Pos} : HE Z N7 sc7 F1 (.Name "j" pos) (.v 4) := .v rfl (by decide +kernel) (by decide +kernel)
theorem g7_len : glB sc7 "len" = true := by decide +kernel
theorem g7_min : glB sc7 "min" = true := by decide +kernel
theorem g7_range : glB sc7 "range" = true := by decide +kernel
theorem hb7 (gz : Good (ZZ P w K fa xa mg base)) (em : Exm (ZZ P w K fa xa mg base)) (xc : ∀ c, c < 2 → XcOk (ZZ P w K fa xa mg base) c) : HB (ZZ P w K fa xa mg base) N7 sc7 (defBody st7) b7 :=
  (.cons (.setLc (own := [("i", 3)]) rfl (by decide +kernel) (by rintro ⟨⟩ _ rfl; rfl) (.rng1 gz nb_range g7_range (.add (.len gz nb_len g7_len (.cons v7_0 .nil)) .int)) (by decide +kernel) (.nm rfl (by decide +kernel) (by decide +kernel)) rfl .no (.rep (.lst (.cons .int .nil)) (.add (.len gz nb_len (by decide +kernel) (.cons (.v rfl (by decide +kernel) (by decide +kernel)) .nil)) .int))) (.cons (.frr (.rng3 gz nb_range g7_range (.len gz nb_len g7_len (.cons v7_0 .nil)) (.neg .int) (.neg .int)) (.nm rfl (by decide +kernel) (by decide +kernel)) (.cons (.frr (.rng3 gz nb_range g7_range (.len gz nb_len g7_len (.cons v7_1 .nil)) (.neg .int) (.neg .int)) (.nm rfl (by decide +kernel) (by decide +kernel)) (.cons (.ife (.cmp ho_eq v7_3 (.len gz nb_len g7_len (.cons v7_0 .nil))) (.cons (.asg (.sub (.len gz nb_len g7_len (.cons v7_1 .nil)) v7_4) (.sub (.idx v7_2 v7_3) v7_4) (fun _ _ _ => rfl) (fun _ _ => rfl)) .nil) (.cons (.ife (.cmp ho_eq v7_4 (.len gz nb_len g7_len (.cons v7_1 .nil))) (.cons (.asg (.sub (.len gz nb_len g7_len (.cons v7_0 .nil)) v7_3) (.sub (.idx v7_2 v7_3) v7_4) (fun _ _ _ => rfl) (fun _ _ => rfl)) .nil) (.cons (.ife (.cmp ho_eq (.idx v7_0 v7_3) (.idx v7_1 v7_4)) (.cons (.asg (.idx (.idx v7_2 (.add v7_3 .int)) (.add v7_4 .int)) (.sub (.idx v7_2 v7_3) v7_4) (fun _ _ _ => rfl) (fun _ _ => rfl)) .nil) (.cons (.asg (.add .int (.min2 gz nb_min g7_min (.cons (.idx (.idx v7_2 (.add v7_3 .int)) v7_4) (.cons (.idx (.idx v7_2 v7_3) (.add v7_4 .int)) .nil)))) (.sub (.idx v7_2 v7_3) v7_4) (fun _ _ _ => rfl) (fun _ _ => rfl)) .nil)) .nil)) .nil)) .nil)) .nil)) (.cons (.ret v7_2) .nil)))
theorem fs7 : FnScope N7 ps7 sc7 := ⟨by decide +kernel, by decide +kernel, by decide +kernel, by decide +kernel, by decide +kernel, by decide +kernel, by decide +kernel⟩
/-! least_edit -/
def N8 : List Str := ["one", "other", "costs", "found", "begin", "i", "j"]
def ps8 : List Str := ["one", "other"]
abbrev st8 : Stmt := top 14
abbrev sc8 : Scope := defScope st8
theorem v8_0 {Z : Ev2} {pos : Pos} : HE Z N8 sc8 F1 (.Name "one" pos) (.v 0) := .v rfl (by decide +kernel) (by decide +kernel)
theorem v8_1 {Z : Ev2} {pos : Pos} : HE Z N8 sc8 F1 (.Name "other" pos) (.v 1) := .v rfl (by decide +kernel) (by decide +kernel)
theorem v8_2 {Z : Ev2} {pos : Pos} : HE Z N8 sc8 F1 (.Name "costs" pos) (.v 2) := .v rfl (by decide +kernel) (by decide +kernel)
theorem v8_3 {Z : Ev2} {pos : Pos} : HE Z N8 sc8 F1 (.Name "found" pos) (.v 3) := .v rfl (by decide +kernel) (by decide +kernel)
theorem v8_4 {Z : Ev2} {pos : Pos} : HE Z N8 sc8 F1 (.Name "begin" pos) (.v 4) := .v rfl (by decide +kernel) (by decide +kernel)
theorem v8_5 {Z : Ev2} {pos : Pos} : HE Z N8 sc8 F1 (.Name "i" pos) (.v 5) := .v rfl (by decide +kernel) (by decide +kernel)
theorem v8_6 {Z : Ev2} {pos : Pos} : HE Z N8 sc8 F1 (.Name "j" pos) (.v 6) := .v rfl (by decide +kernel) (by decide +kernel)
theorem g8_costs_from : glB sc8 "costs_from" = true := by decide +kernel
theorem g8_len : glB sc8 "len" = true := by decide +kernel
theorem g8_tuple : glB sc8 "tuple" = true := by decide +kernel
theorem hb8 (gz : Good (ZZ P w K fa xa mg base)) (em : Exm (ZZ P w K fa xa mg base)) (xc : ∀ c, c < 2 → XcOk (ZZ P w K fa xa mg base) c) : HB (ZZ P w K fa xa mg base) N8 sc8 (defBody st8) b8 :=
  (.cons (.asg (.call gz fn_7 rfl g8_costs_from (by decide +kernel) (.cons v8_0 (.cons v8_1 .nil))) (.nm rfl (by decide +kernel) (by decide +kernel)) (fun _ _ _ => rfl) (fun _ _ => rfl)) (.cons (.asg (.lst .nil) (.nm rfl (by decide +kernel) (by decide +kernel)) (fun _ _ _ => rfl) (fun _ _ => rfl)) (.cons (.asg .non (.nm rfl (by decide +kernel) (by decide +kernel)) (fun _ _ _ => rfl) (fun _ _ => rfl)) (.cons (.asg (.tup (.cons .int (.cons .int .nil))) (.tp (.cons (.nm rfl (by decide +kernel) (by decide +kernel)) (.cons (.nm rfl (by decide +kernel) (by decide +kernel)) .nil))) (fun _ _ _ => rfl) (by rintro ⟨⟩ rfl; rfl)) (.cons (.whl (HW.t (HW.or (.cmp ho_lt v8_5 (.len gz nb_len g8_len (.cons v8_0 .nil))) (HW.or1 (.cmp ho_lt v8_6 (.len gz nb_len g8_len (.cons v8_1 .nil)))))) (.cons (.ife (HW.t (HW.and (.cmp ho_lt v8_5 (.len gz nb_len g8_len (.cons v8_0 .nil))) (HW.and (.cmp ho_lt v8_6 (.len gz nb_len g8_len (.cons v8_1 .nil))) (HW.and1 (.cmp ho_eq (.idx v8_0 v8_5) (.idx v8_1 v8_6)))))) (.cons (.ife (.isnN v8_4) (.cons (.exp (.append (fun _ _ => rfl) rfl v8_3 (.cons (.tup (.cons (.idx v8_4 .int) (.cons (.slc v8_0 (.yes (.idx v8_4 .int)) (.yes v8_5)) (.cons (.slc v8_1 (.yes (.idx v8_4 .int)) (.yes v8_6)) .nil)))) .nil)) (fun _ _ => rfl)) (.cons (.asg .non (.nm rfl (by decide +kernel) (by decide +kernel)) (fun _ _ _ => rfl) (fun _ _ => rfl)) .nil)) .nil) (.cons (.aug si_add rfl (by decide +kernel) .int) (.cons (.aug si_add rfl (by decide +kernel) .int) .nil))) (.cons (.ife (.isN v8_4) (.cons (.asg (.tup (.cons v8_5 (.cons v8_6 .nil))) (.nm rfl (by decide +kernel) (by decide +kernel)) (fun _ _ _ => rfl) (fun _ _ => rfl)) .nil) .nil) (.cons (.ife (HW.t (HW.and (.cmp ho_lt v8_5 (.len gz nb_len g8_len (.cons v8_0 .nil))) (HW.and1 (.cmp ho_eq (.idx (.idx v8_2 v8_5) v8_6) (.add .int (.idx (.idx v8_2 (.add v8_5 .int)) v8_6)))))) (.cons (.aug si_add rfl (by decide +kernel) .int) .nil) (.cons (.aug si_add rfl (by decide +kernel) .int) .nil)) .nil))) .nil)) (.cons (.ife (.isnN v8_4) (.cons (.exp (.append (fun _ _ => rfl) rfl v8_3 (.cons (.tup (.cons (.idx v8_4 .int) (.cons (.slc v8_0 (.yes (.idx v8_4 .int)) .no) (.cons (.slc v8_1 (.yes (.idx v8_4 .int)) .no) .nil)))) .nil)) (fun _ _ => rfl)) .nil) .nil) (.cons (.ret (.tuple gz nb_tuple g8_tuple (.cons v8_3 .nil))) .nil)))))))
theorem fs8 : FnScope N8 ps8 sc8 := ⟨by decide +kernel, by decide +kernel, by decide +kernel, by decide +kernel, by decide +kernel, by decide +kernel, by decide +kernel⟩
/-! edit_between -/
def N9 : List Str := ["one", "other"]
def ps9 : List Str := ["one", "other"]
abbrev st9 : Stmt := top 15
abbrev sc9 : Scope := defScope st9
theorem v9_0 {Z : Ev2} {pos : Pos} : HE Z N9 sc9 F1 (.Name "one" pos) (.v 0) := .v rfl (by decide +kernel) (by decide +kernel)
theorem v9_1 {Z : Ev2} {pos : Pos} : HE Z N9 sc9 F1 (.Name "other" pos) (.v 1) := .v rfl (by decide +kernel) (by decide +kernel)
theorem g9_check_string : glB sc9 "check_string" = true := by decide +kernel
theorem g9_least_edit : glB sc9 "least_edit" = true := by decide +kernel
theorem hb9 (gz : Good (ZZ P w K fa xa mg base)) (em : Exm (ZZ P w K fa xa mg base)) (xc : ∀ c, c < 2 → XcOk (ZZ P w K fa xa mg base) c) : HB (ZZ P w K fa xa mg base) N9 sc9 (defBody st9) b9 :=
  (.cons (.exp (.call gz fn_0 rfl g9_check_string (by decide +kernel) (.cons v9_0 .nil)) (fun _ _ => rfl)) (.cons (.exp (.call gz fn_0 rfl g9_check_string (by decide +kernel) (.cons v9_1 .nil)) (fun _ _ => rfl)) (.cons (.ret (.call gz fn_8 rfl g9_least_edit (by decide +kernel) (.cons v9_0 (.cons v9_1 .nil)))) .nil)))
theorem fs9 : FnScope N9 ps9 sc9 := ⟨by decide +kernel, by decide +kernel, by decide +kernel, by decide +kernel, by decide +kernel, by decide +kernel, by decide +kernel⟩
/-! _law_bag -/
def N10 : List Str := ["script", "k", "cell"]
def ps10 : List Str := ["script", "k"]
abbrev st10 : Stmt := top 17
abbrev sc10 : Scope := defScope st10
theorem v10_0 {Z : Ev2} {pos : Pos} : HE Z N10 sc10 F1 (.Name "script" pos) (.v 0) := .v rfl (by decide +kernel) (by decide +kernel)
theorem v10_1 {Z : Ev2} {pos : Pos} : HE Z N10 sc10 F1 (.Name "k" pos) (.v 1) := .v rfl (by decide +kernel) (by decide +kernel)
theorem v10_2 {Z : Ev2} {pos : Pos} : HE Z N10 sc10 F1 (.Name "cell" pos) (.v 2) := .v rfl (by decide +kernel) (by decide +kernel)
theorem g10_int : glB sc10 "int" = true := by decide +kernel
theorem g10_len : glB sc10 "len" = true := by decide +kernel
theorem hb10 (gz : Good (ZZ P w K fa xa mg base)) (em : Exm (ZZ P w K fa xa mg base)) (xc : ∀ c, c < 2 → XcOk (ZZ P w K fa xa mg base) c) : HB (ZZ P w K fa xa mg base) N10 sc10 (defBody st10) b10 :=
  (.cons (.asg .int (.nm rfl (by decide +kernel) (by decide +kernel)) (fun _ _ _ => rfl) (fun _ _ => rfl)) (.cons (.ife (.cmp ho_lt v10_1 (.len gz nb_len g10_len (.cons v10_0 .nil))) (.cons (.asg (.int_ gz nb_int g10_int (.cons (.idx v10_0 v10_1) .nil)) (.nm rfl (by decide +kernel) (by decide +kernel)) (fun _ _ _ => rfl) (fun _ _ => rfl)) .nil) .nil) (.cons (.ife (.cmp ho_ge v10_2 (.pow .int .int)) (.cons (.ret (.lst (.cons v10_2 (.cons v10_2 (.cons v10_1 .nil))))) .nil) .nil) (.cons (.ret (.lst (.cons .int (.cons v10_2 (.cons v10_1 .nil))))) .nil))))
theorem fs10 : FnScope N10 ps10 sc10 := ⟨by decide +kernel, by decide +kernel, by decide +kernel, by decide +kernel, by decide +kernel, by decide +kernel, by decide +kernel⟩
/-! _law_draw -/
def N11 : List Str := ["bag", "many", "seed", "rest"]
def ps11 : List Str := ["bag", "many"]
abbrev st11 : Stmt := top 18
abbrev sc11 : Scope := defScope st11
theorem v11_0 {Z : Ev2} {pos : Pos} : HE Z N11 sc11 F1 (.Name "bag" pos) (.v 0) := .v rfl (by decide +kernel) (by decide +kernel)
theorem v11_1 {Z : Ev2} {pos : Pos} : HE Z N11 sc11 F1 (.Name "many" pos) (.v 1) := .v rfl (by decide +kernel) (by decide +kernel)
theorem v11_2 {Z : Ev2} {pos : Pos} : HE Z N11 sc11 F1 (.Name "seed" pos) (.v 2) := .v rfl (by decide +kernel) (by decide +kernel)
theorem v11_3 {Z : Ev2} {pos : Pos} : HE Z N11 sc11 F1 (.Name "rest" pos) (.v 3) := .v rfl (by decide +kernel) (by decide +kernel)
theorem g11_int : glB sc11 "int" = true := by decide +kernel
theorem hb11 (gz : Good (ZZ P w K fa xa mg base)) (em : Exm (ZZ P w K fa xa mg base)) (xc : ∀ c, c < 2 → XcOk (ZZ P w K fa xa mg base) c) : HB (ZZ P w K fa xa mg base) N11 sc11 (defBody st11) b11 :=
  (.cons (.ife (.cmp ho_eq (.idx v11_0 .int) .int) (.cons (.asg (.mod (.int_ gz nb_int g11_int (.cons (.add (.add (.mul (.idx v11_0 .int) .int) (.mul (.idx v11_0 .int) .int)) .int) .nil)) .int) (.nm rfl (by decide +kernel) (by decide +kernel)) (fun _ _ _ => rfl) (fun _ _ => rfl)) (.cons (.asg (.add (.mul v11_2 .int) (.mod (.int_ gz nb_int g11_int (.cons (.add (.mul v11_2 v11_2) (.mul (.idx v11_0 .int) .int)) .nil)) .int)) (.sub v11_0 .int) (fun _ _ _ => rfl) (fun _ _ => rfl)) (.cons (.asg v11_2 (.sub v11_0 .int) (fun _ _ _ => rfl) (fun _ _ => rfl)) .nil))) .nil) (.cons (.asg (.idx v11_0 .int) (.nm rfl (by decide +kernel) (by decide +kernel)) (fun _ _ _ => rfl) (fun _ _ => rfl)) (.cons (.asg (.fdiv v11_3 v11_1) (.sub v11_0 .int) (fun _ _ _ => rfl) (fun _ _ => rfl)) (.cons (.ret (.mod (.int_ gz nb_int g11_int (.cons v11_3 .nil)) v11_1)) .nil))))
theorem fs11 : FnScope N11 ps11 sc11 := ⟨by decide +kernel, by decide +kernel, by decide +kernel, by decide +kernel, by decide +kernel, by decide +kernel, by decide +kernel⟩
/-! _law_one -/
def N12 : List Str := ["bag", "some"]
def ps12 : List Str := ["bag", "some"]
abbrev st12 : Stmt := top 19
abbrev sc12 : Scope := defScope st12
theorem v12_0 {Z : Ev2} {pos : Pos} : HE Z N12 sc12 F1 (.Name "bag" pos) (.v 0) := .v rfl (by decide +kernel) (by decide +kernel)
theorem v12_1 {Z : Ev2} {pos : Pos} : HE Z N12 sc12 F1 (.Name "some" pos) (.v 1) := .v rfl (by decide +kernel) (by decide +kernel)
theorem g12__law_draw : glB sc12 "_law_draw" = true := by decide +kernel
theorem g12_len : glB sc12 "len" = true := by decide +kernel
theorem hb12 (gz : Good (ZZ P w K fa xa mg base)) (em : Exm (ZZ P w K fa xa mg base)) (xc : ∀ c, c < 2 → XcOk (ZZ P w K fa xa mg base) c) : HB (ZZ P w K fa xa mg base) N12 sc12 (defBody st12) b12 :=
  (.cons (.ret (.idx v12_1 (.call gz fn_11 rfl g12__law_draw (by decide +kernel) (.cons v12_0 (.cons (.len gz nb_len g12_len (.cons v12_1 .nil)) .nil))))) .nil)
theorem fs12 : FnScope N12 ps12 sc12 := ⟨by decide +kernel, by decide +kernel, by decide +kernel, by decide +kernel, by decide +kernel, by decide +kernel, by decide +kernel⟩
/-! _law_told -/
def N13 : List Str := ["call", "given", "e"]
def ps13 : List Str := ["call", "given"]
abbrev st13 : Stmt := top 20
abbrev sc13 : Scope := defScope st13
theorem v13_1 {Z : Ev2} {pos : Pos} : HE Z N13 sc13 F1 (.Name "given" pos) (.v 1) := .v rfl (by decide +kernel) (by decide +kernel)
theorem g13_BadPaper : glB sc13 "BadPaper" = true := by decide +kernel
theorem g13_NotIn : glB sc13 "NotIn" = true := by decide +kernel
theorem g13_len : glB sc13 "len" = true := by decide +kernel
theorem hb13 (gz : Good (ZZ P w K fa xa mg base)) (em : Exm (ZZ P w K fa xa mg base)) (xc : ∀ c, c < 2 → XcOk (ZZ P w K fa xa mg base) c) : HB (ZZ P w K fa xa mg base) N13 sc13 (defBody st13) b13 :=
  (.cons (.tri (.cons (.ret (.ife (.cmp ho_eq (.len gz nb_len g13_len (.cons v13_1 .nil)) .int) (.cv tb_all rfl (by decide +kernel) (by decide +kernel) (.cons (.idx v13_1 .int) .nil)) (.cv tb_all rfl (by decide +kernel) (by decide +kernel) (.cons (.idx v13_1 .int) (.cons (.idx v13_1 .int) .nil))))) .nil) (.retk (oi := none) gz em lt_1 xn_1 g13_NotIn (by decide +kernel) (by decide +kernel) (fun _ => pe_str) (fun _ _ => .str _) (.retf (i := 2) gz em (xc 0 lt_0) lt_0 xn_0 g13_BadPaper (by decide +kernel) rfl (by decide +kernel) (by decide +kernel) rfl .nil))) .nil)
theorem fs13 : FnScope N13 ps13 sc13 := ⟨by decide +kernel, by decide +kernel, by decide +kernel, by decide +kernel, by decide +kernel, by decide +kernel, by decide +kernel⟩
/-! _law_deeds -/
def N14 : List Str := ["one", "other", "table", "i", "j", "found"]
def ps14 : List Str := ["one", "other"]
abbrev st14 : Stmt := top 21
abbrev sc14 : Scope := defScope st14
theorem v14_0 {Z : Ev2} {pos : Pos} : HE Z N14 sc14 F1 (.Name "one" pos) (.v 0) := .v rfl (by decide +kernel) (by decide +kernel)
theorem v14_1 {Z : Ev2} {pos : Pos} : HE Z N14 sc14 F1 (.Name "other" pos) (.v 1) := .v rfl (by decide +kernel) (by decide +kernel)
theorem v14_2 {Z : Ev2} {pos : Pos} : HE Z N14 sc14 F1 (.Name "table" pos) (.v 2) := .v rfl (by decide +kernel) (by decide +kernel)
theorem v14_3 {Z : Ev2} {pos : Pos} : HE Z N14 sc14 F1 (.Name "i" pos) (.v 3) := .v rfl (by decide +kernel) (by decide +kernel)
theorem v14_4 {Z : Ev2} {pos : Pos} : HE Z N14 sc14 F1 (.Name "j" pos) (.v 4) := .v rfl (by decide +kernel) (by decide +kernel)
theorem v14_5 {Z : Ev2} {pos : Pos} : HE Z N14 sc14 F1 (.Name "found" pos) (.v 5) := .v rfl (by decide +kernel) (by decide +kernel)
theorem g14_len : glB sc14 "len" = true := by decide +kernel
theorem g14_min : glB sc14 "min" = true := by decide +kernel
theorem g14_range : glB sc14 "range" = true := by decide +kernel
theorem hb14 (gz : Good (ZZ P w K fa xa mg base)) (em : Exm (ZZ P w K fa xa mg base)) (xc : ∀ c, c < 2 → XcOk (ZZ P w K fa xa mg base) c) : HB (ZZ P w K fa xa mg base) N14 sc14 (defBody st14) b14 :=
  (.cons (.asg .dct0 (.nm rfl (by decide +kernel) (by decide +kernel)) (fun _ _ _ => rfl) (fun _ _ => rfl)) (.cons (.frr (.rng3 gz nb_range g14_range (.len gz nb_len g14_len (.cons v14_0 .nil)) (.neg .int) (.neg .int)) (.nm rfl (by decide +kernel) (by decide +kernel)) (.cons (.frr (.rng3 gz nb_range g14_range (.len gz nb_len g14_len (.cons v14_1 .nil)) (.neg .int) (.neg .int)) (.nm rfl (by decide +kernel) (by decide +kernel)) (.cons (.asg (.lst .nil) (.nm rfl (by decide +kernel) (by decide +kernel)) (fun _ _ _ => rfl) (fun _ _ => rfl)) (.cons (.ife (HW.t (HW.and (.cmp ho_lt v14_3 (.len gz nb_len g14_len (.cons v14_0 .nil))) (HW.and (.cmp ho_lt v14_4 (.len gz nb_len g14_len (.cons v14_1 .nil))) (HW.and1 (.cmp ho_eq (.idx v14_0 v14_3) (.idx v14_1 v14_4)))))) (.cons (.exp (.append (fun _ _ => rfl) rfl v14_5 (.cons (.tup (.cons (.idx (.idx v14_2 (.tup (.cons (.add v14_3 .int) (.cons (.add v14_4 .int) .nil)))) .int) (.cons (.add (.tup (.cons .int .nil)) (.idx (.idx v14_2 (.tup (.cons (.add v14_3 .int) (.cons (.add v14_4 .int) .nil)))) .int)) .nil))) .nil)) (fun _ _ => rfl)) .nil) .nil) (.cons (.ife (.cmp ho_lt v14_3 (.len gz nb_len g14_len (.cons v14_0 .nil))) (.cons (.exp (.append (fun _ _ => rfl) rfl v14_5 (.cons (.tup (.cons (.add (.idx (.idx v14_2 (.tup (.cons (.add v14_3 .int) (.cons v14_4 .nil)))) .int) .int) (.cons (.add (.tup (.cons .int .nil)) (.idx (.idx v14_2 (.tup (.cons (.add v14_3 .int) (.cons v14_4 .nil)))) .int)) .nil))) .nil)) (fun _ _ => rfl)) .nil) .nil) (.cons (.ife (.cmp ho_lt v14_4 (.len gz nb_len g14_len (.cons v14_1 .nil))) (.cons (.exp (.append (fun _ _ => rfl) rfl v14_5 (.cons (.tup (.cons (.add (.idx (.idx v14_2 (.tup (.cons v14_3 (.cons (.add v14_4 .int) .nil)))) .int) .int) (.cons (.add (.tup (.cons .int .nil)) (.idx (.idx v14_2 (.tup (.cons v14_3 (.cons (.add v14_4 .int) .nil)))) .int)) .nil))) .nil)) (fun _ _ => rfl)) .nil) .nil) (.cons (.asg (.ife (.cmp ho_ne v14_5 (.lst .nil)) (.min1 gz nb_min g14_min (.cons v14_5 .nil)) (.tup (.cons .int (.cons (.tup .nil) .nil)))) (.sub v14_2 (.tup (.cons v14_3 (.cons v14_4 .nil)))) (fun _ _ _ => rfl) (fun _ _ => rfl)) .nil)))))) .nil)) (.cons (.ret (.idx v14_2 (.tup (.cons .int (.cons .int .nil))))) .nil)))
theorem fs14 : FnScope N14 ps14 sc14 := ⟨by decide +kernel, by decide +kernel, by decide +kernel, by decide +kernel, by decide +kernel, by decide +kernel, by decide +kernel⟩
/-! _law_edit -/
def N15 : List Str := ["one", "other", "cost", "deeds", "found", "i", "j", "is_open", "deed"]
def ps15 : List Str := ["one", "other"]
abbrev st15 : Stmt := top 22
abbrev sc15 : Scope := defScope st15
theorem v15_0 {Z : Ev2} {pos : Pos} : HE Z N15 sc15 F1 (.Name "one" pos) (.v 0) := .v rfl (by decide +kernel) (by decide +kernel)
theorem v15_1 {Z : Ev2} {pos : Pos} : HE Z N15 sc15 F1 (.Name "other" pos) (.v 1) := .v rfl (by decide +kernel) (by decide +kernel)
theorem v15_3 {Z : Ev2} {pos : Pos} : HE Z N15 sc15 F1 (.Name "deeds" pos) (.v 3) := .v rfl (by decide +kernel) (by decide +kernel)
theorem v15_4 {Z : Ev2} {pos : Pos} : HE Z N15 sc15 F1 (.Name "found" pos) (.v 4) := .v rfl (by decide +kernel) (by decide +kernel)
theorem v15_5 {Z : Ev2} {pos : Pos} : HE Z N15 sc15 F1 (.Name "i" pos) (.v 5) := .v rfl (by decide +kernel) (by decide +kernel)
theorem v15_6 {Z : Ev2} {pos : Pos} : HE Z N15 sc15 F1 (.Name "j" pos) (.v 6) := .v rfl (by decide +kernel) (by decide +kernel)
theorem v15_7 {Z : Ev2} {pos : Pos} : HE Z N15 sc15 F1 (.Name "is_open" pos) (.v 7) := .v rfl (by decide +kernel) (by decide +kernel)
theorem v15_8 {Z : Ev2} {pos : Pos} : HE Z N15 sc15 F1 (.Name "deed" pos) (.v 8) := .v rfl (by decide +kernel) (by decide +kernel)
theorem g15__law_deeds : glB sc15 "_law_deeds" = true := by decide +kernel
theorem g15_int : glB sc15 "int" = true := by decide +kernel
theorem g15_tuple : glB sc15 "tuple" = true := by decide +kernel
theorem hb15 (gz : Good (ZZ P w K fa xa mg base)) (em : Exm (ZZ P w K fa xa mg base)) (xc : ∀ c, c < 2 → XcOk (ZZ P w K fa xa mg base) c) : HB (ZZ P w K fa xa mg base) N15 sc15 (defBody st15) b15 :=
  (.cons (.asg (.call gz fn_14 rfl g15__law_deeds (by decide +kernel) (.cons v15_0 (.cons v15_1 .nil))) (.tp (.cons (.nm rfl (by decide +kernel) (by decide +kernel)) (.cons (.nm rfl (by decide +kernel) (by decide +kernel)) .nil))) (fun _ _ _ => rfl) (fun _ _ => rfl)) (.cons (.asg (.lst .nil) (.nm rfl (by decide +kernel) (by decide +kernel)) (fun _ _ _ => rfl) (fun _ _ => rfl)) (.cons (.asg (.tup (.cons .int (.cons .int .nil))) (.tp (.cons (.nm rfl (by decide +kernel) (by decide +kernel)) (.cons (.nm rfl (by decide +kernel) (by decide +kernel)) .nil))) (fun _ _ _ => rfl) (by rintro ⟨⟩ rfl; rfl)) (.cons (.asg .bl (.nm rfl (by decide +kernel) (by decide +kernel)) (fun _ _ _ => rfl) (fun _ _ => rfl)) (.cons (.frr (.seq v15_3) (.nm rfl (by decide +kernel) (by decide +kernel)) (.cons (.ife (HW.t (HW.and (.cmp ho_ne v15_8 .int) (HW.and1 (.not (HT.val v15_7 rfl (fun _ _ => rfl)))))) (.cons (.exp (.append (fun _ _ => rfl) rfl v15_4 (.cons (.tup (.cons v15_5 (.cons (.str (by decide +kernel)) (.cons (.str (by decide +kernel)) .nil)))) .nil)) (fun _ _ => rfl)) .nil) .nil) (.cons (.asg (.cmp ho_ne v15_8 .int) (.nm rfl (by decide +kernel) (by decide +kernel)) (fun _ _ _ => rfl) (fun _ _ => rfl)) (.cons (.ife (.cmp ho_eq v15_8 .int) (.cons (.asg (.tup (.cons (.idx (.idx v15_4 (.neg .int)) .int) (.cons (.add (.idx (.idx v15_4 (.neg .int)) .int) (.idx v15_0 v15_5)) (.cons (.idx (.idx v15_4 (.neg .int)) .int) .nil)))) (.sub v15_4 (.neg .int)) (fun _ _ _ => rfl) (fun _ _ => rfl)) .nil) .nil) (.cons (.ife (.cmp ho_eq v15_8 .int) (.cons (.asg (.tup (.cons (.idx (.idx v15_4 (.neg .int)) .int) (.cons (.idx (.idx v15_4 (.neg .int)) .int) (.cons (.add (.idx (.idx v15_4 (.neg .int)) .int) (.idx v15_1 v15_6)) .nil)))) (.sub v15_4 (.neg .int)) (fun _ _ _ => rfl) (fun _ _ => rfl)) .nil) .nil) (.cons (.asg (.add v15_5 (.int_ gz nb_int g15_int (.cons (.cmp ho_ne v15_8 .int) .nil))) (.nm rfl (by decide +kernel) (by decide +kernel)) (fun _ _ _ => rfl) (fun _ _ => rfl)) (.cons (.asg (.add v15_6 (.int_ gz nb_int g15_int (.cons (.cmp ho_ne v15_8 .int) .nil))) (.nm rfl (by decide +kernel) (by decide +kernel)) (fun _ _ _ => rfl) (fun _ _ => rfl)) .nil))))))) (.cons (.ret (.tuple gz nb_tuple g15_tuple (.cons v15_4 .nil))) .nil))))))
theorem fs15 : FnScope N15 ps15 sc15 := ⟨by decide +kernel, by decide +kernel, by decide +kernel, by decide +kernel, by decide +kernel, by decide +kernel, by decide +kernel⟩
/-! _law_word -/
def N16 : List Str := ["bag", "most", "k"]
def ps16 : List Str := ["bag", "most"]
abbrev st16 : Stmt := top 23
abbrev sc16 : Scope := defScope st16
theorem v16_0 {Z : Ev2} {pos : Pos} : HE Z N16 sc16 F1 (.Name "bag" pos) (.v 0) := .v rfl (by decide +kernel) (by decide +kernel)
theorem v16_1 {Z : Ev2} {pos : Pos} : HE Z N16 sc16 F1 (.Name "most" pos) (.v 1) := .v rfl (by decide +kernel) (by decide +kernel)
theorem g16__law_draw : glB sc16 "_law_draw" = true := by decide +kernel
theorem g16_range : glB sc16 "range" = true := by decide +kernel
theorem hb16 (gz : Good (ZZ P w K fa xa mg base)) (em : Exm (ZZ P w K fa xa mg base)) (xc : ∀ c, c < 2 → XcOk (ZZ P w K fa xa mg base) c) : HB (ZZ P w K fa xa mg base) N16 sc16 (defBody st16) b16 :=
  (.cons (.ret (.join (fun _ _ => rfl) rfl (.str (by decide +kernel)) (.cons (.lc (own := [("k", 2)]) (.rng1 gz nb_range g16_range (.call gz fn_11 rfl g16__law_draw (by decide +kernel) (.cons v16_0 (.cons v16_1 .nil)))) (by decide +kernel) (.nm rfl (by decide +kernel) (by decide +kernel)) rfl .no (.call gz fn_12 rfl (by decide +kernel) (by decide +kernel) (.cons (.v rfl (by decide +kernel) (by decide +kernel)) (.cons (.str (by decide +kernel)) .nil)))) .nil))) .nil)
theorem fs16 : FnScope N16 ps16 sc16 := ⟨by decide +kernel, by decide +kernel, by decide +kernel, by decide +kernel, by decide +kernel, by decide +kernel, by decide +kernel⟩
/-! _law_case -/
def N17 : List Str := ["bag", "one", "other", "at", "due", "edit", "back", "place", "gone", "come", "near", "odd", "value", "given"]
def ps17 : List Str := ["bag"]
abbrev st17 : Stmt := top 24
abbrev sc17 : Scope := defScope st17
theorem v17_0 {Z : Ev2} {pos : Pos} : HE Z N17 sc17 F1 (.Name "bag" pos) (.v 0) := .v rfl (by decide +kernel) (by decide +kernel)
theorem v17_1 {Z : Ev2} {pos : Pos} : HE Z N17 sc17 F1 (.Name "one" pos) (.v 1) := .v rfl (by decide +kernel) (by decide +kernel)
theorem v17_2 {Z : Ev2} {pos : Pos} : HE Z N17 sc17 F1 (.Name "other" pos) (.v 2) := .v rfl (by decide +kernel) (by decide +kernel)
theorem v17_3 {Z : Ev2} {pos : Pos} : HE Z N17 sc17 F1 (.Name "at" pos) (.v 3) := .v rfl (by decide +kernel) (by decide +kernel)
theorem v17_4 {Z : Ev2} {pos : Pos} : HE Z N17 sc17 F1 (.Name "due" pos) (.v 4) := .v rfl (by decide +kernel) (by decide +kernel)
theorem v17_5 {Z : Ev2} {pos : Pos} : HE Z N17 sc17 F1 (.Name "edit" pos) (.v 5) := .v rfl (by decide +kernel) (by decide +kernel)
theorem v17_6 {Z : Ev2} {pos : Pos} : HE Z N17 sc17 F1 (.Name "back" pos) (.v 6) := .v rfl (by decide +kernel) (by decide +kernel)
theorem v17_7 {Z : Ev2} {pos : Pos} : HE Z N17 sc17 F1 (.Name "place" pos) (.v 7) := .v rfl (by decide +kernel) (by decide +kernel)
theorem v17_8 {Z : Ev2} {pos : Pos} : HE Z N17 sc17 F1 (.Name "gone" pos) (.v 8) := .v rfl (by decide +kernel) (by decide +kernel)
theorem v17_9 {Z : Ev2} {pos : Pos} : HE Z N17 sc17 F1 (.Name "come" pos) (.v 9) := .v rfl (by decide +kernel) (by decide +kernel)
theorem v17_10 {Z : Ev2} {pos : Pos} : HE Z N17 sc17 F1 (.Name "near" pos) (.v 10) := .v rfl (by decide +kernel) (by decide +kernel)
theorem v17_11 {Z : Ev2} {pos : Pos} : HE Z N17 sc17 F1 (.Name "odd" pos) (.v 11) := .v rfl (by decide +kernel) (by decide +kernel)
theorem g17__law_deeds : glB sc17 "_law_deeds" = true := by decide +kernel
theorem g17__law_draw : glB sc17 "_law_draw" = true := by decide +kernel
theorem g17__law_edit : glB sc17 "_law_edit" = true := by decide +kernel
theorem g17__law_told : glB sc17 "_law_told" = true := by decide +kernel
theorem g17__law_word : glB sc17 "_law_word" = true := by decide +kernel
theorem g17_apply_edit : glB sc17 "apply_edit" = true := by decide +kernel
theorem g17_cost_of : glB sc17 "cost_of" = true := by decide +kernel
theorem g17_edit_between : glB sc17 "edit_between" = true := by decide +kernel
theorem g17_len : glB sc17 "len" = true := by decide +kernel
theorem g17_undone : glB sc17 "undone" = true := by decide +kernel
theorem hb17 (gz : Good (ZZ P w K fa xa mg base)) (em : Exm (ZZ P w K fa xa mg base)) (xc : ∀ c, c < 2 → XcOk (ZZ P w K fa xa mg base) c) : HB (ZZ P w K fa xa mg base) N17 sc17 (defBody st17) b17 :=
  (.cons (.asg (.call gz fn_16 rfl g17__law_word (by decide +kernel) (.cons v17_0 (.cons .int .nil))) (.nm rfl (by decide +kernel) (by decide +kernel)) (fun _ _ _ => rfl) (fun _ _ => rfl)) (.cons (.asg (.call gz fn_16 rfl g17__law_word (by decide +kernel) (.cons v17_0 (.cons .int .nil))) (.nm rfl (by decide +kernel) (by decide +kernel)) (fun _ _ _ => rfl) (fun _ _ => rfl)) (.cons (.ife (.cmp ho_eq (.call gz fn_11 rfl g17__law_draw (by decide +kernel) (.cons v17_0 (.cons .int .nil))) .int) (.cons (.asg (.call gz fn_11 rfl g17__law_draw (by decide +kernel) (.cons v17_0 (.cons (.add (.len gz nb_len g17_len (.cons v17_1 .nil)) .int) .nil))) (.nm rfl (by decide +kernel) (by decide +kernel)) (fun _ _ _ => rfl) (fun _ _ => rfl)) (.cons (.asg (.add (.add (.slc v17_1 .no (.yes v17_3)) (.call gz fn_16 rfl g17__law_word (by decide +kernel) (.cons v17_0 (.cons .int .nil)))) (.slc v17_1 (.yes (.add v17_3 (.call gz fn_11 rfl g17__law_draw (by decide +kernel) (.cons v17_0 (.cons .int .nil))))) .no)) (.nm rfl (by decide +kernel) (by decide +kernel)) (fun _ _ _ => rfl) (fun _ _ => rfl)) .nil)) .nil) (.cons (.asg (.call gz fn_15 rfl g17__law_edit (by decide +kernel) (.cons v17_1 (.cons v17_2 .nil))) (.nm rfl (by decide +kernel) (by decide +kernel)) (fun _ _ _ => rfl) (fun _ _ => rfl)) (.cons (.asg (.call gz fn_9 rfl g17_edit_between (by decide +kernel) (.cons v17_1 (.cons v17_2 .nil))) (.nm rfl (by decide +kernel) (by decide +kernel)) (fun _ _ _ => rfl) (fun _ _ => rfl)) (.cons (.ife (HW.t (HW.or (.cmp ho_ne v17_5 v17_4) (HW.or (.cmp ho_ne (.call gz fn_6 rfl g17_cost_of (by decide +kernel) (.cons v17_5 .nil)) (.idx (.call gz fn_14 rfl g17__law_deeds (by decide +kernel) (.cons v17_1 (.cons v17_2 .nil))) .int)) (HW.or1 (.cmp ho_ne (.call gz fn_4 rfl g17_apply_edit (by decide +kernel) (.cons v17_1 (.cons v17_5 .nil))) v17_2))))) (.cons (.ret .bl) .nil) .nil) (.cons (.asg (.call gz fn_5 rfl g17_undone (by decide +kernel) (.cons v17_5 .nil)) (.nm rfl (by decide +kernel) (by decide +kernel)) (fun _ _ _ => rfl) (fun _ _ => rfl)) (.cons (.ife (HW.t (HW.or (.cmp ho_ne (.call gz fn_4 rfl g17_apply_edit (by decide +kernel) (.cons v17_2 (.cons v17_6 .nil))) v17_1) (HW.or (.cmp ho_ne (.call gz fn_5 rfl g17_undone (by decide +kernel) (.cons v17_6 .nil)) v17_5) (HW.or (.cmp ho_ne (.call gz fn_6 rfl g17_cost_of (by decide +kernel) (.cons v17_6 .nil)) (.call gz fn_6 rfl g17_cost_of (by decide +kernel) (.cons v17_5 .nil))) (HW.or1 (.cmp ho_ne (.call gz fn_9 rfl g17_edit_between (by decide +kernel) (.cons v17_1 (.cons v17_1 .nil))) (.tup .nil))))))) (.cons (.ret .bl) .nil) .nil) (.cons (.frr (.seq (.slc v17_5 .no (.yes .int))) (.tp (.cons (.nm rfl (by decide +kernel) (by decide +kernel)) (.cons (.nm rfl (by decide +kernel) (by decide +kernel)) (.cons (.nm rfl (by decide +kernel) (by decide +kernel)) .nil)))) (.cons (.asg (.add (.tup (.cons (.tup (.cons v17_7 (.cons (.add v17_8 (.str (by decide +kernel))) (.cons v17_9 .nil)))) .nil)) (.slc v17_5 (.yes .int) .no)) (.nm rfl (by decide +kernel) (by decide +kernel)) (fun _ _ _ => rfl) (fun _ _ => rfl)) (.cons (.ife (.cmp ho_notin (.call gz fn_13 rfl g17__law_told (by decide +kernel) (.cons (.gf gz fn_4 g17_apply_edit (by decide +kernel)) (.cons (.tup (.cons v17_1 (.cons v17_10 .nil))) .nil))) (.lst (.cons (.str (by decide +kernel)) (.cons (.str (by decide +kernel)) .nil)))) (.cons (.ret .bl) .nil) .nil) .nil))) (.cons (.asg (.lst (.cons .non (.cons (.lst .nil) (.cons (.tup (.cons .non .nil)) (.cons (.tup (.cons (.tup (.cons .int (.cons (.str (by decide +kernel)) .nil))) .nil)) (.cons (.tup (.cons (.tup (.cons .int (.cons (.str (by decide +kernel)) (.cons (.str (by decide +kernel)) .nil)))) .nil)) (.cons (.tup (.cons (.tup (.cons (.neg .int) (.cons (.str (by decide +kernel)) (.cons (.str (by decide +kernel)) .nil)))) .nil)) (.cons (.tup (.cons (.tup (.cons .bl (.cons (.str (by decide +kernel)) (.cons (.str (by decide +kernel)) .nil)))) .nil)) (.cons (.tup (.cons (.tup (.cons .int (.cons (.str (by decide +kernel)) (.cons .non .nil)))) .nil)) (.cons (.tup (.cons (.tup (.cons .int (.cons (.str (by decide +kernel)) (.cons (.str (by decide +kernel)) .nil)))) (.cons (.tup (.cons .int (.cons (.str (by decide +kernel)) (.cons (.str (by decide +kernel)) .nil)))) .nil))) (.cons (.tup (.cons (.tup (.cons .int (.cons (.str (by decide +kernel)) (.cons (.str (by decide +kernel)) .nil)))) (.cons (.tup (.cons .int (.cons (.str (by decide +kernel)) (.cons (.str (by decide +kernel)) .nil)))) .nil))) .nil))))))))))) (.nm rfl (by decide +kernel) (by decide +kernel)) (fun _ _ _ => rfl) (fun _ _ => rfl)) (.cons (.ife (HW.t (HW.or (.cmp ho_ne (.lc (own := [("value", 12)]) (.seq v17_11) (by decide +kernel) (.nm rfl (by decide +kernel) (by decide +kernel)) rfl .no (.call gz fn_13 rfl (by decide +kernel) (by decide +kernel) (.cons (.gf gz fn_4 (by decide +kernel) (by decide +kernel)) (.cons (.tup (.cons (.str (by decide +kernel)) (.cons (.v rfl (by decide +kernel) (by decide +kernel)) .nil))) .nil)))) (.rep (.lst (.cons (.str (by decide +kernel)) .nil)) .int)) (HW.or (.cmp ho_ne (.lc (own := [("value", 12)]) (.seq v17_11) (by decide +kernel) (.nm rfl (by decide +kernel) (by decide +kernel)) rfl .no (.call gz fn_13 rfl (by decide +kernel) (by decide +kernel) (.cons (.gf gz fn_5 (by decide +kernel) (by decide +kernel)) (.cons (.tup (.cons (.v rfl (by decide +kernel) (by decide +kernel)) .nil)) .nil)))) (.rep (.lst (.cons (.str (by decide +kernel)) .nil)) .int)) (HW.or1 (.cmp ho_ne (.lc (own := [("value", 12)]) (.seq v17_11) (by decide +kernel) (.nm rfl (by decide +kernel) (by decide +kernel)) rfl .no (.call gz fn_13 rfl (by decide +kernel) (by decide +kernel) (.cons (.gf gz fn_6 (by decide +kernel) (by decide +kernel)) (.cons (.tup (.cons (.v rfl (by decide +kernel) (by decide +kernel)) .nil)) .nil)))) (.rep (.lst (.cons (.str (by decide +kernel)) .nil)) .int)))))) (.cons (.ret .bl) .nil) .nil) (.cons (.ret (.and (.cmp ho_eq (.lc (own := [("given", 13)]) (.seq (.lst (.cons (.tup (.cons .non (.cons v17_1 .nil))) (.cons (.tup (.cons v17_1 (.cons .int .nil))) (.cons (.tup (.cons (.rep (.str (by decide +kernel)) .int) (.cons v17_1 .nil))) .nil))))) (by decide +kernel) (.nm rfl (by decide +kernel) (by decide +kernel)) rfl .no (.call gz fn_13 rfl (by decide +kernel) (by decide +kernel) (.cons (.gf gz fn_9 (by decide +kernel) (by decide +kernel)) (.cons (.v rfl (by decide +kernel) (by decide +kernel)) .nil)))) (.rep (.lst (.cons (.str (by decide +kernel)) .nil)) .int)) (.one (.cmp ho_eq (.call gz fn_13 rfl g17__law_told (by decide +kernel) (.cons (.gf gz fn_4 g17_apply_edit (by decide +kernel)) (.cons (.tup (.cons .non (.cons (.tup .nil) .nil))) .nil))) (.str (by decide +kernel)))))) .nil))))))))))))
theorem fs17 : FnScope N17 ps17 sc17 := ⟨by decide +kernel, by decide +kernel, by decide +kernel, by decide +kernel, by decide +kernel, by decide +kernel, by decide +kernel⟩
/-! law -/
def N18 : List Str := ["script", "k"]
def ps18 : List Str := ["script"]
abbrev st18 : Stmt := top 25
abbrev sc18 : Scope := defScope st18
theorem v18_0 {Z : Ev2} {pos : Pos} : HE Z N18 sc18 F1 (.Name "script" pos) (.v 0) := .v rfl (by decide +kernel) (by decide +kernel)
theorem v18_1 {Z : Ev2} {pos : Pos} : HE Z N18 sc18 F1 (.Name "k" pos) (.v 1) := .v rfl (by decide +kernel) (by decide +kernel)
theorem g18__law_bag : glB sc18 "_law_bag" = true := by decide +kernel
theorem g18__law_case : glB sc18 "_law_case" = true := by decide +kernel
theorem g18__law_told : glB sc18 "_law_told" = true := by decide +kernel
theorem g18_apply_edit : glB sc18 "apply_edit" = true := by decide +kernel
theorem g18_edit_between : glB sc18 "edit_between" = true := by decide +kernel
theorem g18_len : glB sc18 "len" = true := by decide +kernel
theorem g18_max : glB sc18 "max" = true := by decide +kernel
theorem g18_min : glB sc18 "min" = true := by decide +kernel
theorem g18_range : glB sc18 "range" = true := by decide +kernel
theorem hb18 (gz : Good (ZZ P w K fa xa mg base)) (em : Exm (ZZ P w K fa xa mg base)) (xc : ∀ c, c < 2 → XcOk (ZZ P w K fa xa mg base) c) : HB (ZZ P w K fa xa mg base) N18 sc18 (defBody st18) b18 :=
  (.cons (.ife (HW.t (HW.or (.cmp ho_ne (.call gz fn_9 rfl g18_edit_between (by decide +kernel) (.cons (.str (by decide +kernel)) (.cons (.str (by decide +kernel)) .nil))) (.tup (.cons (.tup (.cons .int (.cons (.str (by decide +kernel)) (.cons (.str (by decide +kernel)) .nil)))) (.cons (.tup (.cons .int (.cons (.str (by decide +kernel)) (.cons (.str (by decide +kernel)) .nil)))) .nil)))) (HW.or (.cmp ho_ne (.call gz fn_9 rfl g18_edit_between (by decide +kernel) (.cons (.str (by decide +kernel)) (.cons (.str (by decide +kernel)) .nil))) (.tup (.cons (.tup (.cons .int (.cons (.str (by decide +kernel)) (.cons (.str (by decide +kernel)) .nil)))) .nil))) (HW.or1 (.cmp ho_ne (.call gz fn_13 rfl g18__law_told (by decide +kernel) (.cons (.gf gz fn_4 g18_apply_edit (by decide +kernel)) (.cons (.tup (.cons (.str (by decide +kernel)) (.cons (.tup (.cons (.tup (.cons .int (.cons (.str (by decide +kernel)) (.cons (.str (by decide +kernel)) .nil)))) .nil)) .nil))) .nil))) (.str (by decide +kernel))))))) (.cons (.ret .bl) .nil) .nil) (.cons (.frr (.rng1 gz nb_range g18_range (.min2 gz nb_min g18_min (.cons (.max2 gz nb_max g18_max (.cons (.len gz nb_len g18_len (.cons v18_0 .nil)) (.cons .int .nil))) (.cons .int .nil)))) (.nm rfl (by decide +kernel) (by decide +kernel)) (.cons (.ife (.not (HT.val (.call gz fn_17 rfl g18__law_case (by decide +kernel) (.cons (.call gz fn_10 rfl g18__law_bag (by decide +kernel) (.cons v18_0 (.cons v18_1 .nil))) .nil)) rfl (fun _ _ => rfl))) (.cons (.ret .bl) .nil) .nil) .nil)) (.cons (.ret .bl) .nil)))
theorem fs18 : FnScope N18 ps18 sc18 := ⟨by decide +kernel, by decide +kernel, by decide +kernel, by decide +kernel, by decide +kernel, by decide +kernel, by decide +kernel⟩
end
end K61
end

section
set_option Elab.async false
set_option linter.all false
set_option autoImplicit false
set_option maxRecDepth 100000
set_option maxHeartbeats 0
/-! The law: the head's facts, the plain law; printed by head.py. -/
namespace K61
open PySem PySem.Spec PyProof.Rows L2 T2
abbrev R : PySem.W.OpenRow := PySem.W.OpenLaw.row PySem.Challenge.rw_twowaytexts_k61_edits_of_texts
def dd0 : He.DefD := ⟨("check_string", none), "check_string", "check_string", defArgs st0, defBody st0, sc0, [], []⟩
def dd1 : He.DefD := ⟨("is_change", none), "is_change", "is_change", defArgs st1, defBody st1, sc1, [], []⟩
def dd2 : He.DefD := ⟨("check_edit", none), "check_edit", "check_edit", defArgs st2, defBody st2, sc2, [], []⟩
def dd3 : He.DefD := ⟨("changed", none), "changed", "changed", defArgs st3, defBody st3, sc3, [], []⟩
def dd4 : He.DefD := ⟨("apply_edit", none), "apply_edit", "apply_edit", defArgs st4, defBody st4, sc4, [], []⟩
def dd5 : He.DefD := ⟨("undone", none), "undone", "undone", defArgs st5, defBody st5, sc5, [], []⟩
def dd6 : He.DefD := ⟨("cost_of", none), "cost_of", "cost_of", defArgs st6, defBody st6, sc6, [], []⟩
def dd7 : He.DefD := ⟨("costs_from", none), "costs_from", "costs_from", defArgs st7, defBody st7, sc7, [], []⟩
def dd8 : He.DefD := ⟨("least_edit", none), "least_edit", "least_edit", defArgs st8, defBody st8, sc8, [], []⟩
def dd9 : He.DefD := ⟨("edit_between", none), "edit_between", "edit_between", defArgs st9, defBody st9, sc9, [], []⟩
def dd10 : He.DefD := ⟨("_law_bag", none), "_law_bag", "_law_bag", defArgs st10, defBody st10, sc10, [], []⟩
def dd11 : He.DefD := ⟨("_law_draw", none), "_law_draw", "_law_draw", defArgs st11, defBody st11, sc11, [], []⟩
def dd12 : He.DefD := ⟨("_law_one", none), "_law_one", "_law_one", defArgs st12, defBody st12, sc12, [], []⟩
def dd13 : He.DefD := ⟨("_law_told", none), "_law_told", "_law_told", defArgs st13, defBody st13, sc13, [], []⟩
def dd14 : He.DefD := ⟨("_law_deeds", none), "_law_deeds", "_law_deeds", defArgs st14, defBody st14, sc14, [], []⟩
def dd15 : He.DefD := ⟨("_law_edit", none), "_law_edit", "_law_edit", defArgs st15, defBody st15, sc15, [], []⟩
def dd16 : He.DefD := ⟨("_law_word", none), "_law_word", "_law_word", defArgs st16, defBody st16, sc16, [], []⟩
def dd17 : He.DefD := ⟨("_law_case", none), "_law_case", "_law_case", defArgs st17, defBody st17, sc17, [], []⟩
def dd18 : He.DefD := ⟨("law", none), "law", "law", defArgs st18, defBody st18, sc18, [], []⟩
abbrev xi0 : Stmt := inCls (top 2)
def xd0 : He.DefD := ⟨("BadPaper", some "__init__"), "__init__", "BadPaper.__init__", defArgs xi0, defBody xi0, defScope xi0, [], []⟩
abbrev xi1 : Stmt := inCls (top 3)
def xd1 : He.DefD := ⟨("NotIn", some "__init__"), "__init__", "NotIn.__init__", defArgs xi1, defBody xi1, defScope xi1, [], []⟩
def fnD_0 : List He.DefD := [dd0, dd1, dd2, dd3, dd4, dd5, dd6, dd7, dd8, dd9, dd10, dd11, dd12, dd13, dd14, dd15, dd16, dd17, dd18, xd0, xd1]
def fnD : List He.DefD := fnD_0
def faC : List He.Fa := [.int "MOST_TEXT" 400]
def faX : List He.Fa := [.exm "BadPaper" "BadPaper" true, .exm "BadPaper" "NotIn" false, .exm "NotIn" "BadPaper" false, .exm "NotIn" "NotIn" true]
def faD : List He.Fa := FN.map .glo ++ (XN.map .glo ++ (NB.map .free ++ (faC ++ faX)))
def exF (K : PySem.W.Frag) : Bool := (xcB K "BadPaper" "word" && (xcB K "NotIn" "which" && true))
abbrev hk : PySem.W.Hook := He.hookX 4 faD fnD [] [] exF
def ob (s : PySem.W.SharedT) : He.AlX := He.obsX 4 faD fnD [] [] exF (HandSHeadRun.getT s)
theorem ob_eq (s : PySem.W.SharedT) : ob s = hk.obs s.abs := He.obsX_eq (HandSHeadRun.getT_eq s)
def names_0 : List PySem.Str := ["__name__", "WayError", "BadPaper", "NotIn", "MOST_TEXT", "check_string", "is_change", "check_edit", "changed", "apply_edit", "undone", "cost_of", "costs_from", "least_edit", "edit_between", "_law_bag", "_law_draw", "_law_one", "_law_told", "_law_deeds", "_law_edit", "_law_word", "_law_case"]
def names : List PySem.Str := names_0
theorem run (w : World) : HandSHeadRun.RunEq R (PySem.W.view R.prog [25]) hk ob 20000 names w := by
  intro os
  kernel_rfl
section
variable {P : Program} {w : World} {K : PySem.W.Frag} {mg : Str → Option Value} {base h : Heap}
abbrev faF (K : PySem.W.Frag) (k : Nat) : Addr := He.ga K (FN.getD k "")
abbrev xaF (K : PySem.W.Frag) (k : Nat) : Addr := He.ga K (XN.getD k "")
theorem getD_of {l : List Str} {k : Nat} {x : Str} (h : l[k]? = some x) : l.getD k "" = x := by rw [List.getD_eq_getElem?_getD, h]; rfl
theorem good (KX : K.In h) (G : h.Ns mainGlobals mg) (c : He.SaysD faD fnD K) : Good (ZZ P w K (faF K) (xaF K) mg base) where
  fn := fun k x hk => by
    show mg x = some (.ref (He.ga K (FN.getD k "")))
    rw [getD_of (l := FN) hk]
    exact He.glo_ok KX G (c.facts (List.mem_append_left _ (List.mem_map_of_mem (List.mem_of_getElem? hk))))
  cn := fun k x hk => by
    match k, hk with
    | 0, hk =>
      cases hk
      obtain ⟨t, e⟩ := He.int_ok KX G (x := "MOST_TEXT") (i := 400) (c.facts (List.mem_append_right _ (List.mem_append_right _ (List.mem_append_right _ (List.mem_append_left _ (List.mem_of_getElem? (i := 0) rfl))))))
      exact ⟨.int 400 t, .int 400, e, ⟨t, rfl⟩, fun φ H => .int _⟩
    | k + 1, hk => exact absurd hk (by show CN[k + 1]? ≠ some x; simp [CN])
  nb := fun x hx => He.free_ok KX G (c.facts (List.mem_append_right _ (List.mem_append_right _ (List.mem_append_left _ (List.mem_map_of_mem hx)))))
  xc := fun k x hk => by
    show mg x = some (.ref (He.ga K (XN.getD k "")))
    rw [getD_of (l := XN) hk]
    exact He.glo_ok KX G (c.facts (List.mem_append_right _ (List.mem_append_left _ (List.mem_map_of_mem (List.mem_of_getElem? hk)))))
theorem em (c : He.SaysD faD fnD K) : Exm (ZZ P w K (faF K) (xaF K) mg base) := by
  intro i j hi hj
  have hi : i < 2 := hi
  have hj : j < 2 := hj
  match i, j, hi, hj with
  | 0, 0, _, _ => exact He.exm_ok (x := "BadPaper") (y := "BadPaper") (b := true) (c.facts (List.mem_append_right _ (List.mem_append_right _ (List.mem_append_right _ (List.mem_append_right _ (List.mem_of_getElem? (i := 0) rfl))))))
  | 0, 1, _, _ => exact He.exm_ok (x := "BadPaper") (y := "NotIn") (b := false) (c.facts (List.mem_append_right _ (List.mem_append_right _ (List.mem_append_right _ (List.mem_append_right _ (List.mem_of_getElem? (i := 1) rfl))))))
  | 1, 0, _, _ => exact He.exm_ok (x := "NotIn") (y := "BadPaper") (b := false) (c.facts (List.mem_append_right _ (List.mem_append_right _ (List.mem_append_right _ (List.mem_append_right _ (List.mem_of_getElem? (i := 2) rfl))))))
  | 1, 1, _, _ => exact He.exm_ok (x := "NotIn") (y := "NotIn") (b := true) (c.facts (List.mem_append_right _ (List.mem_append_right _ (List.mem_append_right _ (List.mem_append_right _ (List.mem_of_getElem? (i := 3) rfl))))))
  | 0, j + 2, _, hj => omega
  | 1, j + 2, _, hj => omega
  | i + 2, _, hi, _ => omega
theorem xs0 : FnScope ["self", "word"] ["self", "word"] (defScope xi0) := ⟨by decide +kernel, by decide +kernel, by decide +kernel, by decide +kernel, by decide +kernel, by decide +kernel, by decide +kernel⟩
theorem xc0 (c : He.SaysD faD fnD K) (x : XcF K "BadPaper" "word") : XcOk (ZZ P w K (faF K) (xaF K) mg base) 0 := by
  obtain ⟨fd, F⟩ := c.def_ 19 (d := xd0) rfl
  have F : FunD K "__init__" "BadPaper.__init__" (defArgs xi0) (defBody xi0) (defScope xi0) [] [] (He.ma K (He.ga K "BadPaper") "__init__") fd := F
  exact ⟨x.oex, ⟨_, fd, "word", rfl, x.ini, x.fn, ini_ok F xs0 ⟨_, _, _, _, rfl⟩ (by decide +kernel) (by decide +kernel) (by decide +kernel) x.oex x.no, FunD.bindsN F fun _ _ _ _ _ _ us hl => match us, hl with | [_, _], _ => rfl⟩, x.xfc, fun g hg => by
    have hg : g = "word" := by simpa [ZZ, XF] using hg
    rw [hg]
    exact x.no⟩
theorem xs1 : FnScope ["self", "which"] ["self", "which"] (defScope xi1) := ⟨by decide +kernel, by decide +kernel, by decide +kernel, by decide +kernel, by decide +kernel, by decide +kernel, by decide +kernel⟩
theorem xc1 (c : He.SaysD faD fnD K) (x : XcF K "NotIn" "which") : XcOk (ZZ P w K (faF K) (xaF K) mg base) 1 := by
  obtain ⟨fd, F⟩ := c.def_ 20 (d := xd1) rfl
  have F : FunD K "__init__" "NotIn.__init__" (defArgs xi1) (defBody xi1) (defScope xi1) [] [] (He.ma K (He.ga K "NotIn") "__init__") fd := F
  exact ⟨x.oex, ⟨_, fd, "which", rfl, x.ini, x.fn, ini_ok F xs1 ⟨_, _, _, _, rfl⟩ (by decide +kernel) (by decide +kernel) (by decide +kernel) x.oex x.no, FunD.bindsN F fun _ _ _ _ _ _ us hl => match us, hl with | [_, _], _ => rfl⟩, x.xfc, fun g hg => by
    have hg : g = "which" := by simpa [ZZ, XF] using hg
    rw [hg]
    exact x.no⟩
theorem xcs (c : He.SaysD faD fnD K) (x : exF K = true) : ∀ i, i < 2 → XcOk (ZZ P w K (faF K) (xaF K) mg base) i := by
  intro i hi
  simp only [exF, Bool.and_eq_true] at x
  obtain ⟨x0, x1, _⟩ := x
  match i, hi with
  | 0, _ => exact xc0 c (xcB_ok x0)
  | 1, _ => exact xc1 c (xcB_ok x1)
  | i + 2, hi => omega
theorem fd0 (gz : Good (ZZ P w K (faF K) (xaF K) mg base)) (em : Exm (ZZ P w K (faF K) (xaF K) mg base)) (xc : ∀ c, c < 2 → XcOk (ZZ P w K (faF K) (xaF K) mg base) c) (c : He.SaysD faD fnD K) : FnD (ZZ P w K (faF K) (xaF K) mg base) 0 d0 := by
  obtain ⟨fd, F⟩ := c.def_ 0 (d := dd0) rfl
  have F : FunD K "check_string" "check_string" (defArgs st0) (defBody st0) sc0 [] [] (He.ga K "check_string") fd := F
  exact ⟨_, _, _, _, _, fd, N0, ps0, F, fs0, rfl, rfl, hb0 gz em xc, FunD.bindsN F fun _ _ _ _ _ _ us hl => match us, hl with | [_], _ => rfl⟩
theorem fd1 (gz : Good (ZZ P w K (faF K) (xaF K) mg base)) (em : Exm (ZZ P w K (faF K) (xaF K) mg base)) (xc : ∀ c, c < 2 → XcOk (ZZ P w K (faF K) (xaF K) mg base) c) (c : He.SaysD faD fnD K) : FnD (ZZ P w K (faF K) (xaF K) mg base) 1 d1 := by
  obtain ⟨fd, F⟩ := c.def_ 1 (d := dd1) rfl
  have F : FunD K "is_change" "is_change" (defArgs st1) (defBody st1) sc1 [] [] (He.ga K "is_change") fd := F
  exact ⟨_, _, _, _, _, fd, N1, ps1, F, fs1, rfl, rfl, hb1 gz em xc, FunD.bindsN F fun _ _ _ _ _ _ us hl => match us, hl with | [_], _ => rfl⟩
theorem fd2 (gz : Good (ZZ P w K (faF K) (xaF K) mg base)) (em : Exm (ZZ P w K (faF K) (xaF K) mg base)) (xc : ∀ c, c < 2 → XcOk (ZZ P w K (faF K) (xaF K) mg base) c) (c : He.SaysD faD fnD K) : FnD (ZZ P w K (faF K) (xaF K) mg base) 2 d2 := by
  obtain ⟨fd, F⟩ := c.def_ 2 (d := dd2) rfl
  have F : FunD K "check_edit" "check_edit" (defArgs st2) (defBody st2) sc2 [] [] (He.ga K "check_edit") fd := F
  exact ⟨_, _, _, _, _, fd, N2, ps2, F, fs2, rfl, rfl, hb2 gz em xc, FunD.bindsN F fun _ _ _ _ _ _ us hl => match us, hl with | [_], _ => rfl⟩
theorem fd3 (gz : Good (ZZ P w K (faF K) (xaF K) mg base)) (em : Exm (ZZ P w K (faF K) (xaF K) mg base)) (xc : ∀ c, c < 2 → XcOk (ZZ P w K (faF K) (xaF K) mg base) c) (c : He.SaysD faD fnD K) : FnD (ZZ P w K (faF K) (xaF K) mg base) 3 d3 := by
  obtain ⟨fd, F⟩ := c.def_ 3 (d := dd3) rfl
  have F : FunD K "changed" "changed" (defArgs st3) (defBody st3) sc3 [] [] (He.ga K "changed") fd := F
  exact ⟨_, _, _, _, _, fd, N3, ps3, F, fs3, rfl, rfl, hb3 gz em xc, FunD.bindsN F fun _ _ _ _ _ _ us hl => match us, hl with | [_, _], _ => rfl⟩
theorem fd4 (gz : Good (ZZ P w K (faF K) (xaF K) mg base)) (em : Exm (ZZ P w K (faF K) (xaF K) mg base)) (xc : ∀ c, c < 2 → XcOk (ZZ P w K (faF K) (xaF K) mg base) c) (c : He.SaysD faD fnD K) : FnD (ZZ P w K (faF K) (xaF K) mg base) 4 d4 := by
  obtain ⟨fd, F⟩ := c.def_ 4 (d := dd4) rfl
  have F : FunD K "apply_edit" "apply_edit" (defArgs st4) (defBody st4) sc4 [] [] (He.ga K "apply_edit") fd := F
  exact ⟨_, _, _, _, _, fd, N4, ps4, F, fs4, rfl, rfl, hb4 gz em xc, FunD.bindsN F fun _ _ _ _ _ _ us hl => match us, hl with | [_, _], _ => rfl⟩
theorem fd5 (gz : Good (ZZ P w K (faF K) (xaF K) mg base)) (em : Exm (ZZ P w K (faF K) (xaF K) mg base)) (xc : ∀ c, c < 2 → XcOk (ZZ P w K (faF K) (xaF K) mg base) c) (c : He.SaysD faD fnD K) : FnD (ZZ P w K (faF K) (xaF K) mg base) 5 d5 := by
  obtain ⟨fd, F⟩ := c.def_ 5 (d := dd5) rfl
  have F : FunD K "undone" "undone" (defArgs st5) (defBody st5) sc5 [] [] (He.ga K "undone") fd := F
  exact ⟨_, _, _, _, _, fd, N5, ps5, F, fs5, rfl, rfl, hb5 gz em xc, FunD.bindsN F fun _ _ _ _ _ _ us hl => match us, hl with | [_], _ => rfl⟩
theorem fd6 (gz : Good (ZZ P w K (faF K) (xaF K) mg base)) (em : Exm (ZZ P w K (faF K) (xaF K) mg base)) (xc : ∀ c, c < 2 → XcOk (ZZ P w K (faF K) (xaF K) mg base) c) (c : He.SaysD faD fnD K) : FnD (ZZ P w K (faF K) (xaF K) mg base) 6 d6 := by
  obtain ⟨fd, F⟩ := c.def_ 6 (d := dd6) rfl
  have F : FunD K "cost_of" "cost_of" (defArgs st6) (defBody st6) sc6 [] [] (He.ga K "cost_of") fd := F
  exact ⟨_, _, _, _, _, fd, N6, ps6, F, fs6, rfl, rfl, hb6 gz em xc, FunD.bindsN F fun _ _ _ _ _ _ us hl => match us, hl with | [_], _ => rfl⟩
theorem fd7 (gz : Good (ZZ P w K (faF K) (xaF K) mg base)) (em : Exm (ZZ P w K (faF K) (xaF K) mg base)) (xc : ∀ c, c < 2 → XcOk (ZZ P w K (faF K) (xaF K) mg base) c) (c : He.SaysD faD fnD K) : FnD (ZZ P w K (faF K) (xaF K) mg base) 7 d7 := by
  obtain ⟨fd, F⟩ := c.def_ 7 (d := dd7) rfl
  have F : FunD K "costs_from" "costs_from" (defArgs st7) (defBody st7) sc7 [] [] (He.ga K "costs_from") fd := F
  exact ⟨_, _, _, _, _, fd, N7, ps7, F, fs7, rfl, rfl, hb7 gz em xc, FunD.bindsN F fun _ _ _ _ _ _ us hl => match us, hl with | [_, _], _ => rfl⟩
theorem fd8 (gz : Good (ZZ P w K (faF K) (xaF K) mg base)) (em : Exm (ZZ P w K (faF K) (xaF K) mg base)) (xc : ∀ c, c < 2 → XcOk (ZZ P w K (faF K) (xaF K) mg base) c) (c : He.SaysD faD fnD K) : FnD (ZZ P w K (faF K) (xaF K) mg base) 8 d8 := by
  obtain ⟨fd, F⟩ := c.def_ 8 (d := dd8) rfl
  have F : FunD K "least_edit" "least_edit" (defArgs st8) (defBody st8) sc8 [] [] (He.ga K "least_edit") fd := F
  exact ⟨_, _, _, _, _, fd, N8, ps8, F, fs8, rfl, rfl, hb8 gz em xc, FunD.bindsN F fun _ _ _ _ _ _ us hl => match us, hl with | [_, _], _ => rfl⟩
theorem fd9 (gz : Good (ZZ P w K (faF K) (xaF K) mg base)) (em : Exm (ZZ P w K (faF K) (xaF K) mg base)) (xc : ∀ c, c < 2 → XcOk (ZZ P w K (faF K) (xaF K) mg base) c) (c : He.SaysD faD fnD K) : FnD (ZZ P w K (faF K) (xaF K) mg base) 9 d9 := by
  obtain ⟨fd, F⟩ := c.def_ 9 (d := dd9) rfl
  have F : FunD K "edit_between" "edit_between" (defArgs st9) (defBody st9) sc9 [] [] (He.ga K "edit_between") fd := F
  exact ⟨_, _, _, _, _, fd, N9, ps9, F, fs9, rfl, rfl, hb9 gz em xc, FunD.bindsN F fun _ _ _ _ _ _ us hl => match us, hl with | [_, _], _ => rfl⟩
theorem fd10 (gz : Good (ZZ P w K (faF K) (xaF K) mg base)) (em : Exm (ZZ P w K (faF K) (xaF K) mg base)) (xc : ∀ c, c < 2 → XcOk (ZZ P w K (faF K) (xaF K) mg base) c) (c : He.SaysD faD fnD K) : FnD (ZZ P w K (faF K) (xaF K) mg base) 10 d10 := by
  obtain ⟨fd, F⟩ := c.def_ 10 (d := dd10) rfl
  have F : FunD K "_law_bag" "_law_bag" (defArgs st10) (defBody st10) sc10 [] [] (He.ga K "_law_bag") fd := F
  exact ⟨_, _, _, _, _, fd, N10, ps10, F, fs10, rfl, rfl, hb10 gz em xc, FunD.bindsN F fun _ _ _ _ _ _ us hl => match us, hl with | [_, _], _ => rfl⟩
theorem fd11 (gz : Good (ZZ P w K (faF K) (xaF K) mg base)) (em : Exm (ZZ P w K (faF K) (xaF K) mg base)) (xc : ∀ c, c < 2 → XcOk (ZZ P w K (faF K) (xaF K) mg base) c) (c : He.SaysD faD fnD K) : FnD (ZZ P w K (faF K) (xaF K) mg base) 11 d11 := by
  obtain ⟨fd, F⟩ := c.def_ 11 (d := dd11) rfl
  have F : FunD K "_law_draw" "_law_draw" (defArgs st11) (defBody st11) sc11 [] [] (He.ga K "_law_draw") fd := F
  exact ⟨_, _, _, _, _, fd, N11, ps11, F, fs11, rfl, rfl, hb11 gz em xc, FunD.bindsN F fun _ _ _ _ _ _ us hl => match us, hl with | [_, _], _ => rfl⟩
theorem fd12 (gz : Good (ZZ P w K (faF K) (xaF K) mg base)) (em : Exm (ZZ P w K (faF K) (xaF K) mg base)) (xc : ∀ c, c < 2 → XcOk (ZZ P w K (faF K) (xaF K) mg base) c) (c : He.SaysD faD fnD K) : FnD (ZZ P w K (faF K) (xaF K) mg base) 12 d12 := by
  obtain ⟨fd, F⟩ := c.def_ 12 (d := dd12) rfl
  have F : FunD K "_law_one" "_law_one" (defArgs st12) (defBody st12) sc12 [] [] (He.ga K "_law_one") fd := F
  exact ⟨_, _, _, _, _, fd, N12, ps12, F, fs12, rfl, rfl, hb12 gz em xc, FunD.bindsN F fun _ _ _ _ _ _ us hl => match us, hl with | [_, _], _ => rfl⟩
theorem fd13 (gz : Good (ZZ P w K (faF K) (xaF K) mg base)) (em : Exm (ZZ P w K (faF K) (xaF K) mg base)) (xc : ∀ c, c < 2 → XcOk (ZZ P w K (faF K) (xaF K) mg base) c) (c : He.SaysD faD fnD K) : FnD (ZZ P w K (faF K) (xaF K) mg base) 13 d13 := by
  obtain ⟨fd, F⟩ := c.def_ 13 (d := dd13) rfl
  have F : FunD K "_law_told" "_law_told" (defArgs st13) (defBody st13) sc13 [] [] (He.ga K "_law_told") fd := F
  exact ⟨_, _, _, _, _, fd, N13, ps13, F, fs13, rfl, rfl, hb13 gz em xc, FunD.bindsN F fun _ _ _ _ _ _ us hl => match us, hl with | [_, _], _ => rfl⟩
theorem fd14 (gz : Good (ZZ P w K (faF K) (xaF K) mg base)) (em : Exm (ZZ P w K (faF K) (xaF K) mg base)) (xc : ∀ c, c < 2 → XcOk (ZZ P w K (faF K) (xaF K) mg base) c) (c : He.SaysD faD fnD K) : FnD (ZZ P w K (faF K) (xaF K) mg base) 14 d14 := by
  obtain ⟨fd, F⟩ := c.def_ 14 (d := dd14) rfl
  have F : FunD K "_law_deeds" "_law_deeds" (defArgs st14) (defBody st14) sc14 [] [] (He.ga K "_law_deeds") fd := F
  exact ⟨_, _, _, _, _, fd, N14, ps14, F, fs14, rfl, rfl, hb14 gz em xc, FunD.bindsN F fun _ _ _ _ _ _ us hl => match us, hl with | [_, _], _ => rfl⟩
theorem fd15 (gz : Good (ZZ P w K (faF K) (xaF K) mg base)) (em : Exm (ZZ P w K (faF K) (xaF K) mg base)) (xc : ∀ c, c < 2 → XcOk (ZZ P w K (faF K) (xaF K) mg base) c) (c : He.SaysD faD fnD K) : FnD (ZZ P w K (faF K) (xaF K) mg base) 15 d15 := by
  obtain ⟨fd, F⟩ := c.def_ 15 (d := dd15) rfl
  have F : FunD K "_law_edit" "_law_edit" (defArgs st15) (defBody st15) sc15 [] [] (He.ga K "_law_edit") fd := F
  exact ⟨_, _, _, _, _, fd, N15, ps15, F, fs15, rfl, rfl, hb15 gz em xc, FunD.bindsN F fun _ _ _ _ _ _ us hl => match us, hl with | [_, _], _ => rfl⟩
theorem fd16 (gz : Good (ZZ P w K (faF K) (xaF K) mg base)) (em : Exm (ZZ P w K (faF K) (xaF K) mg base)) (xc : ∀ c, c < 2 → XcOk (ZZ P w K (faF K) (xaF K) mg base) c) (c : He.SaysD faD fnD K) : FnD (ZZ P w K (faF K) (xaF K) mg base) 16 d16 := by
  obtain ⟨fd, F⟩ := c.def_ 16 (d := dd16) rfl
  have F : FunD K "_law_word" "_law_word" (defArgs st16) (defBody st16) sc16 [] [] (He.ga K "_law_word") fd := F
  exact ⟨_, _, _, _, _, fd, N16, ps16, F, fs16, rfl, rfl, hb16 gz em xc, FunD.bindsN F fun _ _ _ _ _ _ us hl => match us, hl with | [_, _], _ => rfl⟩
theorem fd17 (gz : Good (ZZ P w K (faF K) (xaF K) mg base)) (em : Exm (ZZ P w K (faF K) (xaF K) mg base)) (xc : ∀ c, c < 2 → XcOk (ZZ P w K (faF K) (xaF K) mg base) c) (c : He.SaysD faD fnD K) : FnD (ZZ P w K (faF K) (xaF K) mg base) 17 d17 := by
  obtain ⟨fd, F⟩ := c.def_ 17 (d := dd17) rfl
  have F : FunD K "_law_case" "_law_case" (defArgs st17) (defBody st17) sc17 [] [] (He.ga K "_law_case") fd := F
  exact ⟨_, _, _, _, _, fd, N17, ps17, F, fs17, rfl, rfl, hb17 gz em xc, FunD.bindsN F fun _ _ _ _ _ _ us hl => match us, hl with | [_], _ => rfl⟩
theorem fd18 (gz : Good (ZZ P w K (faF K) (xaF K) mg base)) (em : Exm (ZZ P w K (faF K) (xaF K) mg base)) (xc : ∀ c, c < 2 → XcOk (ZZ P w K (faF K) (xaF K) mg base) c) (c : He.SaysD faD fnD K) : FnD (ZZ P w K (faF K) (xaF K) mg base) 18 d18 := by
  obtain ⟨fd, F⟩ := c.def_ 18 (d := dd18) rfl
  have F : FunD K "law" "law" (defArgs st18) (defBody st18) sc18 [] [] (He.ga K "law") fd := F
  exact ⟨_, _, _, _, _, fd, N18, ps18, F, fs18, rfl, rfl, hb18 gz em xc, FunD.bindsN F fun _ _ _ _ _ _ us hl => match us, hl with | [_], _ => rfl⟩
theorem all (gz : Good (ZZ P w K (faF K) (xaF K) mg base)) (em : Exm (ZZ P w K (faF K) (xaF K) mg base)) (xc : ∀ c, c < 2 → XcOk (ZZ P w K (faF K) (xaF K) mg base) c) (c : He.SaysD faD fnD K) : ∀ k d, (ZZ P w K (faF K) (xaF K) mg base).tb k = some d → FnD (ZZ P w K (faF K) (xaF K) mg base) k d := by
  intro k d h
  match k, h with
  | 0, h => exact (Option.some.inj h : d0 = d) ▸ fd0 gz em xc c
  | 1, h => exact (Option.some.inj h : d1 = d) ▸ fd1 gz em xc c
  | 2, h => exact (Option.some.inj h : d2 = d) ▸ fd2 gz em xc c
  | 3, h => exact (Option.some.inj h : d3 = d) ▸ fd3 gz em xc c
  | 4, h => exact (Option.some.inj h : d4 = d) ▸ fd4 gz em xc c
  | 5, h => exact (Option.some.inj h : d5 = d) ▸ fd5 gz em xc c
  | 6, h => exact (Option.some.inj h : d6 = d) ▸ fd6 gz em xc c
  | 7, h => exact (Option.some.inj h : d7 = d) ▸ fd7 gz em xc c
  | 8, h => exact (Option.some.inj h : d8 = d) ▸ fd8 gz em xc c
  | 9, h => exact (Option.some.inj h : d9 = d) ▸ fd9 gz em xc c
  | 10, h => exact (Option.some.inj h : d10 = d) ▸ fd10 gz em xc c
  | 11, h => exact (Option.some.inj h : d11 = d) ▸ fd11 gz em xc c
  | 12, h => exact (Option.some.inj h : d12 = d) ▸ fd12 gz em xc c
  | 13, h => exact (Option.some.inj h : d13 = d) ▸ fd13 gz em xc c
  | 14, h => exact (Option.some.inj h : d14 = d) ▸ fd14 gz em xc c
  | 15, h => exact (Option.some.inj h : d15 = d) ▸ fd15 gz em xc c
  | 16, h => exact (Option.some.inj h : d16 = d) ▸ fd16 gz em xc c
  | 17, h => exact (Option.some.inj h : d17 = d) ▸ fd17 gz em xc c
  | 18, h => exact (Option.some.inj h : d18 = d) ▸ fd18 gz em xc c
  | k + 19, h => exact absurd (show tb (k + 19) = some d from h) (by unfold tb; rw [List.getElem?_eq_none (by simp [TB])]; simp)
theorem facts {f : Addr} (KX : K.In h) (G : h.Ns mainGlobals mg) (hfa : mg ("law" : Str) = some (.ref f)) (c : He.SaysD faD fnD K) (x : exF K = true) :
    ∃ fd : FuncData, (∀ (s : Shared) (v : Value), BindsTo s fd ⟨[v], []⟩ [("script", v)]) ∧ ∀ base : Heap, FnOk P w K mg base (CXe P) 42 f fd ["script"] (spF (ZZ P w K (faF K) (xaF K) mg base) 40 18) := by
  obtain ⟨fd, F⟩ := c.def_ 18 (d := dd18) rfl
  have F : FunD K "law" "law" (defArgs st18) (defBody st18) sc18 [] [] (He.ga K "law") fd := F
  have e := hfa.symm.trans (He.glo_ok KX G (x := "law") (c.facts (List.mem_append_left _ (List.mem_map_of_mem (List.mem_of_getElem? fn_18)))))
  cases e
  have b := FunD.bindsA (ps := ["script"]) F fun _ _ _ _ _ _ us hl => match us, hl with | [_], _ => rfl
  refine ⟨fd, fun s v => b s [v] rfl, fun base => ?_⟩
  have gz := good (P := P) (w := w) (base := base) KX G c
  have xc := xcs (P := P) (w := w) (mg := mg) (base := base) c x
  exact fn_cx (fn_run (n := 39) (k := 18) (d := d18) (Z := ZZ P w K (faF K) (xaF K) mg base) rfl (fnD_all (all gz (em c) xc c) 39) F fs18 rfl rfl (hb18 gz (em c) xc)) fun _ _ _ _ _ _ z => ⟨w, z⟩
end
end K61
open PySem PySem.W PySem.Calls PyProof.Rows
theorem PySem.Challenge.cw_twowaytexts_k61_edits_of_texts_holds : PySem.Challenge.rw_twowaytexts_k61_edits_of_texts.Holds := by
  w_on; o_law
  refine HandSHeadRun.head_any (r := OpenLaw.row PySem.Challenge.rw_twowaytexts_k61_edits_of_texts) (q := view (OpenLaw.row PySem.Challenge.rw_twowaytexts_k61_edits_of_texts).prog [25]) (H := K61.hk) (ob := K61.ob) (M := 20000) (loose := K61.names) (d := HandSHeadRun.topDef (OpenLaw.row PySem.Challenge.rw_twowaytexts_k61_edits_of_texts).prog 25) (kwd := []) K61.ob_eq
    (by kernel_rfl) (fun s => by kernel_rfl) K61.run (by kernel_rfl) (by kernel_rfl) (by kernel_rfl) (by rfl) (by first | assumption | decide +kernel) (by decide +kernel) ⟨rfl, rfl, rfl, rfl, rfl, by decide +kernel⟩ ?hw ?hc
  case hw => w_witness2
  case hc =>
    refine L2.walk_ofE (l := PySem.Challenge.rw_twowaytexts_k61_edits_of_texts) (n := 63) (k := 42) (x := "script") (CX := T2.CXe (PySem.Challenge.rw_twowaytexts_k61_edits_of_texts).prog) rfl (by decide) (by kernel_rfl) ⟨rfl, by decide, by decide⟩ ?F T2.cxe_no
    intro w mg fa h Y G hmg0
    obtain ⟨K, KX, c⟩ := Y
    have hmg : mg ("law" : PySem.Str) = some (.ref fa) := by
      have e : (HandSHeadRun.topDef (OpenLaw.row PySem.Challenge.rw_twowaytexts_k61_edits_of_texts).prog 25).name = ("law" : PySem.Str) := by kernel_rfl
      rw [← e]
      exact hmg0
    obtain ⟨fd, hb, hF⟩ := K61.facts (P := (PySem.Challenge.rw_twowaytexts_k61_edits_of_texts).prog) (w := w) KX G hmg c.t.d c.more
    refine ⟨K, fd, T2.spF (K61.ZZ (PySem.Challenge.rw_twowaytexts_k61_edits_of_texts).prog w K (K61.faF K) (K61.xaF K) mg h) 40 18, KX, hb, fun H a ns hl _ hS => ?_, fun base _ _ => ?_⟩
    · obtain ⟨G', e⟩ := K61.law_true ns hl
      exact T2.law_sp hS e
    · exact hF base
end
