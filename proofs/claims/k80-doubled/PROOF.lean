import PyProof.Rows.All
import Wide.All
import OpenK.AllK
import Wide.FinOn
import HandS.ForMost
import HandS.Deep
import HandS.Flow
import HandS.Style
import HandS.Walk
import HandS.TupAny
import HandS.TupLe
import HandS.IsInst
import HandS.Conv
import HandS.Defaults
import HandS.Zip
import HandS.ForExc
import HandS.SortInts
import HandS.SortRule
import HandS.SetFor
import KE.GoesMore
import HandS.Ends
import PySem.Challenge.RW_samehowever_k80_whole_doubled_for_the_le
set_option Elab.async false
set_option linter.all false
set_option maxRecDepth 100000
set_option linter.all false
/-! Dl: values D, stores, and the weakest preconditions (wX) of the constructs of a Python program. Light: no model in sight. -/
namespace Dl

def szl : Nat := 16777216

/-- values: tuples, and lists that nobody changes any more, are values; ref a: a list or a dict that may be changed -/
inductive D where
  | non | bl (b : Bool) | int (i : Int) | str (s : String)
  | tup (xs : List D) | lst (xs : List D) | ed
  /-- a list that is locked (the script) -/
  | scr (xs : List D)
  | ref (a : Nat) | ty (n : String) | gl (x : String) | xc (c : String) (p : List D)

mutual
/-- == of data -/
def D.eqv : D → D → Bool
  | .non, .non => true
  | .bl a, .bl b => a == b
  | .bl a, .int j => (if a then 1 else 0) == j
  | .int i, .bl b => i == (if b then 1 else 0)
  | .int i, .int j => i == j
  | .str x, .str y => x == y
  | .tup xs, .tup ys => D.eqvs xs ys
  | .lst xs, .lst ys => D.eqvs xs ys
  | _, _ => false
def D.eqvs : List D → List D → Bool
  | [], [] => true
  | x :: xs, y :: ys => D.eqv x y && D.eqvs xs ys
  | _, _ => false
end

/-- plain data, at most so deep -/
def D.fits : Nat → D → Bool
  | _, .non => true
  | _, .bl _ => true
  | _, .int _ => true
  | _, .str _ => true
  | n + 1, .tup xs => xs.all (D.fits n)
  | n + 1, .lst xs => xs.all (D.fits n)
  | _, _ => false

/-- what a tracked object holds -/
inductive SO where
  | lst (xs : List D)
  | dK (kvs : List (D × D))
  | dT (kvs : List (D × D))

abbrev Store := Nat → Option SO
def set (S : Store) (a : Nat) (o : SO) : Store := fun b => if b = a then some o else S b
theorem set_same {S : Store} {a : Nat} {o : SO} : set S a o a = some o := by simp [set]
theorem set_ne {S : Store} {a b : Nat} {o : SO} (h : b ≠ a) : set S a o b = S b := by simp [set, h]
theorem set_set {S : Store} {a : Nat} {o u : SO} : set (set S a o) a u = set S a u := by
  funext b; unfold set; split <;> rfl
theorem set_comm {S : Store} {a b : Nat} {o u : SO} (h : a ≠ b) : set (set S a o) b u = set (set S b u) a o := by
  funext c; unfold set
  by_cases h1 : c = b
  · subst h1; simp [Ne.symm h]
  · simp [h1]
theorem set_eq {S : Store} {a : Nat} {o : SO} (h : S a = some o) : set S a o = S := by
  funext b; unfold set; split
  · next e => rw [e, h]
  · rfl

/-- the error that was raised: its class, its own values -/
structure XD where
  c : String
  p : List D

abbrev Sg := List (Option D)
abbrev Q1 := D → Store → Prop
abbrev XQ := XD → Store → Prop
abbrev WE := XQ → Sg → Store → Q1 → Prop
abbrev WT := XQ → Sg → Store → (Bool → Store → Prop) → Prop
abbrev WA := XQ → Sg → Store → (List D → Store → Prop) → Prop
structure WD where
  nx : Sg → Store → Prop
  rt : Q1
  ex : XQ
  bk : Sg → Store → Prop := fun _ _ => False
  ct : Sg → Store → Prop := fun _ _ => False
abbrev WS := WD → Sg → Store → Prop
abbrev WG := D → XQ → Sg → Store → (Sg → Store → Prop) → Prop
abbrev WI := XQ → Sg → Store → (List D → (Store → Prop) → Store → Prop) → Prop
/-- the promise of a def -/
abbrev DSp := List D → Store → Q1 → XQ → Prop

/-! ### reading values -/
def seqOf (S : Store) : D → Option (List D)
  | .tup xs => some xs
  | .lst xs => some xs
  | .scr xs => some xs
  | .ref a => match S a with
    | some (.lst xs) => some xs
    | _ => none
  | _ => none
def lstOf (S : Store) : D → Option (List D)
  | .lst xs => some xs
  | .ref a => match S a with
    | some (.lst xs) => some xs
    | _ => none
  | _ => none
/-- a list that is tracked, as what it holds -/
def drf (S : Store) : D → D
  | .ref a => match S a with
    | some (.lst xs) => .lst xs
    | _ => .ref a
  | d => d
def ixD (xs : List D) (i : Int) : Option D :=
  if 0 ≤ i then xs[i.toNat]? else if -(xs.length : Int) ≤ i then xs[(i + xs.length).toNat]? else none
def dget (kvs : List (D × D)) (k : D) : Option D := (kvs.find? fun p => D.eqv p.1 k).map (·.2)
def dput (kvs : List (D × D)) (k v : D) : List (D × D) :=
  if kvs.any (fun p => D.eqv p.1 k) then kvs.map fun p => if D.eqv p.1 k then (p.1, v) else p else kvs ++ [(k, v)]
def ddel (kvs : List (D × D)) (k : D) : List (D × D) := kvs.filter fun p => !D.eqv p.1 k
/-- an int or a text -/
def isKey : D → Bool
  | .int _ => true
  | .str _ => true
  | _ => false
/-- a tuple of ints and texts -/
def isKeyT : D → Bool
  | .tup xs => xs.all isKey
  | _ => false
/-- the pairs of a dict for keys of this kind -/
def dictOf (S : Store) (d k : D) : Option (List (D × D)) :=
  match d with
  | .ref a => match S a with
    | some (.dK kvs) => if isKey k then some kvs else none
    | some (.dT kvs) => if isKeyT k then some kvs else none
    | _ => none
  | _ => none
def intsOf : List D → Option (List Int)
  | [] => some []
  | .int i :: r => (intsOf r).map (i :: ·)
  | _ :: _ => none
def boolsOf : List D → Option (List Bool)
  | [] => some []
  | .bl i :: r => (boolsOf r).map (i :: ·)
  | _ :: _ => none
def lexLt : List Int → List Int → Bool
  | [], [] => false
  | [], _ :: _ => true
  | _ :: _, [] => false
  | x :: xs, y :: ys => if x = y then lexLt xs ys else decide (x < y)

/-! ### operators -/
abbrev F1 := Store → D → Option D
abbrev F2 := Store → D → D → Option D
def oAdd : F2 := fun S x y => match x, y with
  | .int i, .int j => some (.int (i + j))
  | .tup a, .tup b => if a.length + b.length ≤ szl then some (.tup (a ++ b)) else none
  | _, _ => none
def oSub : F2 := fun _ x y => match x, y with
  | .int i, .int j => some (.int (i - j))
  | _, _ => none
def small (i : Int) : Prop := -18446744073709551616 < i ∧ i < 18446744073709551616
instance (i : Int) : Decidable (small i) := by unfold small; exact inferInstance
def oMul : F2 := fun _ x y => match x, y with
  | .int i, .int j => if small i ∨ small j then some (.int (i * j)) else none
  | _, _ => none
def oFdiv : F2 := fun _ x y => match x, y with
  | .int i, .int j => if 0 < j ∧ j < 1073741824 then some (.int (i / j)) else none
  | _, _ => none
def oMod : F2 := fun _ x y => match x, y with
  | .int i, .int j => if 0 < j then some (.int (i % j)) else none
  | _, _ => none
def oPow : F2 := fun _ x y => match x, y with
  | .int i, .int j => if 0 ≤ j ∧ j ≤ 1000000 ∧ i.natAbs < 18446744073709551616 then some (.int (i ^ j.toNat)) else none
  | _, _ => none
def oNeg : F1 := fun _ x => match x with
  | .int i => some (.int (-i))
  | _ => none
def oEq : F2 := fun S x y => if D.fits 60 (drf S x) && D.fits 60 (drf S y) then some (.bl (D.eqv (drf S x) (drf S y))) else none
def oNe : F2 := fun S x y => if D.fits 60 (drf S x) && D.fits 60 (drf S y) then some (.bl (!D.eqv (drf S x) (drf S y))) else none
def ltD (x y : D) : Option Bool := match x, y with
  | .int i, .int j => some (decide (i < j))
  | .tup a, .tup b => match intsOf a, intsOf b with
    | some ns, some ms => some (lexLt ns ms)
    | _, _ => none
  | _, _ => none
def oLt : F2 := fun _ x y => (ltD x y).map .bl
def oLe : F2 := fun _ x y => match x, y with
  | .int i, .int j => some (.bl (decide (i ≤ j)))
  | _, _ => none
def oGt : F2 := fun _ x y => match x, y with
  | .int i, .int j => some (.bl (decide (j < i)))
  | _, _ => none
def oGe : F2 := fun _ x y => match x, y with
  | .int i, .int j => some (.bl (decide (j ≤ i)))
  | _, _ => none
def inD (S : Store) (x y : D) : Option Bool :=
  match seqOf S y with
  | some ys => if D.fits 59 x && ys.all (D.fits 59) then some (ys.any fun z => D.eqv z x) else none
  | none => (dictOf S y x).map fun kvs => (dget kvs x).isSome
def oIn : F2 := fun S x y => (inD S x y).map .bl
def oNotIn : F2 := fun S x y => (inD S x y).map fun b => .bl (!b)
def isSc : D → Bool
  | .non => true
  | .bl _ => true
  | _ => false
def isD : D → D → Bool
  | .non, .non => true
  | .bl a, .bl b => a == b
  | _, _ => false
/-- is: the right side None, True or False -/
def oIs : F2 := fun _ x y => if isSc y then some (.bl (isD x y)) else none
def oIsNot : F2 := fun _ x y => if isSc y then some (.bl (!isD x y)) else none
def oIx : F2 := fun S x y => match seqOf S x with
  | some xs => match y with
    | .int i => ixD xs i
    | _ => none
  | none => (dictOf S x y).bind fun kvs => dget kvs y
def clip (n d : Nat) : D → Option Nat
  | .non => some d
  | .int i => some (if i < 0 then (max (i + n) 0).toNat else min i.toNat n)
  | _ => none
def cut (xs : List D) (lo hi : Nat) : List D := (xs.drop lo).take (hi - lo)
/-- a slice of a tuple or of a list -/
def oSl (S : Store) (x lo hi : D) : Option D :=
  (seqOf S x).bind fun xs => match clip xs.length 0 lo, clip xs.length xs.length hi with
    | some l, some h => some (match x with
      | .tup _ => .tup (cut xs l h)
      | _ => .lst (cut xs l h))
    | _, _ => none
/-- a slice of a list: what the new list holds -/
def oSlL (S : Store) (x lo hi : D) : Option (List D) := match lstOf S x with
  | some xs => match clip xs.length 0 lo, clip xs.length xs.length hi with
    | some l, some h => some (cut xs l h)
    | _, _ => none
  | none => none
def tru (S : Store) : D → Option Bool
  | .non => some false
  | .bl b => some b
  | .int i => some (decide (i ≠ 0))
  | .tup xs => some (!xs.isEmpty)
  | .lst xs => some (!xs.isEmpty)
  | .ref a => match S a with
    | some (.lst xs) => some (!xs.isEmpty)
    | some (.dK kvs) => some (!kvs.isEmpty)
    | _ => none
  | _ => none
def oNot : F1 := fun S x => (tru S x).map fun b => .bl (!b)
def oLen : F1 := fun S x => match seqOf S x with
  | some xs => some (.int xs.length)
  | none => match x with
    | .ref a => match S a with
      | some (.dK kvs) => some (.int kvs.length)
      | _ => none
    | _ => none
def oAbs : F1 := fun _ x => match x with
  | .int i => some (.int (if i < 0 then -i else i))
  | _ => none
def oInt : F1 := fun _ x => match x with
  | .int i => some (.int i)
  | .bl b => some (.int (if b then 1 else 0))
  | _ => none
def oAll : F1 := fun S x => (lstOf S x).bind fun xs => (boolsOf xs).map fun bs => .bl (bs.all id)
def oAny : F1 := fun S x => (lstOf S x).bind fun xs => (boolsOf xs).map fun bs => .bl (bs.any id)
def oSum : F1 := fun S x => (lstOf S x).bind fun xs => (intsOf xs).map fun bs => .int bs.sum
def oTuple : F1 := fun S x => (seqOf S x).map .tup
def oMin2 : F2 := fun _ x y => match x, y with
  | .int i, .int j => some (.int (if j < i then j else i))
  | _, _ => none
def oMax2 : F2 := fun _ x y => match x, y with
  | .int i, .int j => some (.int (if j > i then j else i))
  | _, _ => none
/-- isinstance(x, T), T of int, bool, tuple -/
def isT (T : String) : D → Bool
  | .int _ => T == "int"
  | .bl _ => T == "int" || T == "bool"
  | .tup _ => T == "tuple"
  | .str _ => T == "str"
  | .lst _ => T == "list"
  | .ed => T == "dict"
  | _ => false
def oIsi (T : String) : F1 := fun S x => match x with
  | .non => some (.bl false)
  | .bl b => some (.bl (isT T x))
  | .int _ => some (.bl (isT T x))
  | .str _ => some (.bl (isT T x))
  | .tup _ => some (.bl (isT T x))
  | .lst _ => some (.bl (isT T x))
  | .ed => some (.bl (isT T x))
  | .ref a => match S a with
    | some (.lst _) => some (.bl (T == "list"))
    | _ => none
  | _ => none

/-! ### expressions -/
def wVar (i : Nat) : WE := fun _ s S Q => ∃ d, s[i]? = some (some d) ∧ Q d S
def wC (d : D) : WE := fun _ _ S Q => Q d S
def w1 (f : F1) (a : WE) : WE := fun E s S Q => a E s S fun x S1 => ∃ z, f S1 x = some z ∧ Q z S1
def w2 (f : F2) (a b : WE) : WE := fun E s S Q => a E s S fun x S1 => b E s S1 fun y S2 => ∃ z, f S2 x y = some z ∧ Q z S2
def wAnd (a b : WE) : WE := fun E s S Q => a E s S fun x S1 => ∃ c, tru S1 x = some c ∧ if c = true then b E s S1 Q else Q x S1
def wOr (a b : WE) : WE := fun E s S Q => a E s S fun x S1 => ∃ c, tru S1 x = some c ∧ if c = true then Q x S1 else b E s S1 Q
def wChain (f g : F2) (a b c : WE) : WE := fun E s S Q => a E s S fun x S1 => b E s S1 fun y S2 => ∃ k, f S2 x y = some (.bl k) ∧
  if k = true then c E s S2 fun z S3 => ∃ u, g S3 y z = some u ∧ Q u S3 else Q (.bl false) S2
def wIf (t : WT) (a b : WE) : WE := fun E s S Q => t E s S fun k S1 => if k = true then a E s S1 Q else b E s S1 Q
def wNil : WA := fun _ _ S Q => Q [] S
def wCons (a : WE) (r : WA) : WA := fun E s S Q => a E s S fun x S1 => r E s S1 fun xs S2 => Q (x :: xs) S2
def wTup (r : WA) : WE := fun E s S Q => r E s S fun xs S1 => xs.length ≤ szl ∧ Q (.tup xs) S1
/-- a new list: what it holds -/
abbrev WL := WA
def frz (l : WL) : WE := fun E s S Q => l E s S fun xs S1 => Q (.lst xs) S1
def thw (l : WL) : WE := fun E s S Q => l E s S fun xs S1 => ∀ a, S1 a = none → Q (.ref a) (set S1 a (.lst xs))
def wlDisp (r : WA) : WL := fun E s S Q => r E s S fun xs S1 => xs.length ≤ szl ∧ Q xs S1
def wlCat (a b : WE) : WL := fun E s S Q => a E s S fun x S1 => b E s S1 fun y S2 => ∃ xs ys, lstOf S2 x = some xs ∧ lstOf S2 y = some ys ∧ xs.length + ys.length ≤ szl ∧ Q (xs ++ ys) S2
def wlList (a : WE) : WL := fun E s S Q => a E s S fun x S1 => ∃ xs, seqOf S1 x = some xs ∧ Q xs S1
def wSl (a lo hi : WE) : WE := fun E s S Q => a E s S fun x S1 => lo E s S1 fun l S2 => hi E s S2 fun h S3 => ∃ z, oSl S3 x l h = some z ∧ Q z S3
/-- an int -/
def wI (w : WE) : WE := fun E s S Q => w E s S fun d S1 => ∃ i, d = .int i ∧ Q d S1
def wlSl (a lo hi : WE) : WL := fun E s S Q => a E s S fun x S1 => lo E s S1 fun l S2 => hi E s S2 fun h S3 => ∃ z, oSlL S3 x l h = some z ∧ Q z S3
/-- list(range(n)) -/
def wlRange (a : WE) : WL := fun E s S Q => a E s S fun x S1 => ∃ n : Int, x = .int n ∧ -16777216 ≤ n ∧ n ≤ 16777216 ∧ Q ((List.range n.toNat).map fun (i : Nat) => D.int i) S1
/-- sorted, of ints or of pairs of ints -/
def isort (ns : List Int) : List Int := ns.mergeSort (fun a b => decide (a ≤ b))
def prD (p : Int × Int) : D := .tup [.int p.1, .int p.2]
def plt (p q : Int × Int) : Bool := if p.1 = q.1 then decide (p.2 < q.2) else decide (p.1 < q.1)
def psort (ps : List (Int × Int)) : List (Int × Int) := ps.mergeSort (fun a b => !plt b a)
def wlSorted (a : WE) : WL := fun E s S Q => a E s S fun x S1 => ∃ xs, lstOf S1 x = some xs ∧ ((∃ ns : List Int, xs = ns.map D.int ∧ Q ((isort ns).map D.int) S1) ∨ ∃ ps : List (Int × Int), xs = ps.map prD ∧ Q ((psort ps).map prD) S1)
/-- each once -/
def ddp : List Int → List Int
  | [] => []
  | x :: r => if x ∈ r then ddp r else x :: ddp r
theorem mem_ddp {k : Int} : ∀ {l : List Int}, k ∈ ddp l ↔ k ∈ l
  | [] => by simp [ddp]
  | x :: r => by
    unfold ddp
    split
    · next h =>
      rw [mem_ddp, List.mem_cons]
      exact ⟨.inr, fun z => z.elim (fun e => e ▸ h) id⟩
    · rw [List.mem_cons, List.mem_cons, mem_ddp]
theorem ddp_nodup : ∀ l : List Int, (ddp l).Nodup
  | [] => .nil
  | x :: r => by
    unfold ddp
    split
    · exact ddp_nodup r
    · next h => exact List.nodup_cons.mpr ⟨fun z => h (mem_ddp.mp z), ddp_nodup r⟩
theorem ddp_len : ∀ l : List Int, (ddp l).length ≤ l.length
  | [] => Nat.le_refl _
  | x :: r => by
    unfold ddp
    split
    · exact Nat.le_succ_of_le (ddp_len r)
    · exact Nat.succ_le_succ (ddp_len r)
/-- sorted(set(e)) of ints -/
def wlSortedSet (a : WE) : WL := fun E s S Q => a E s S fun x S1 => ∃ ns : List Int, lstOf S1 x = some (ns.map D.int) ∧ ns.length ≤ 4000 ∧ (ddp ns).length < 64 ∧ Q ((isort (ddp ns)).map D.int) S1
/-- len(set(e)) of ints -/
def wLenSet (a : WE) : WE := fun E s S Q => a E s S fun x S1 => ∃ ns : List Int, lstOf S1 x = some (ns.map D.int) ∧ ns.length ≤ 4000 ∧ Q (.int (ddp ns).length) S1
def wDictK : WE := fun _ _ S Q => ∀ a, S a = none → Q (.ref a) (set S a (.dK []))
def wDictT : WE := fun _ _ S Q => ∀ a, S a = none → Q (.ref a) (set S a (.dT []))
def wPairs : List (WE × WE) → XQ → Sg → Store → (List (D × D) → Store → Prop) → Prop
  | [], _, _, S, Q => Q [] S
  | (k, v) :: r, E, s, S, Q => k E s S fun x S1 => v E s S1 fun y S2 => wPairs r E s S2 fun ps S3 => Q ((x, y) :: ps) S3
def dputs (kvs : List (D × D)) : List (D × D) := kvs.foldl (fun acc p => dput acc p.1 p.2) []
def wDictD (ps : List (WE × WE)) : WE := fun E s S Q => wPairs ps E s S fun kvs S1 => kvs.length ≤ 15 ∧ kvs.all (fun p => isKey p.1) = true ∧ ∀ a, S1 a = none → Q (.ref a) (set S1 a (.dK (dputs kvs)))
def wCall (sp : DSp) (args : WA) : WE := fun E s S Q => args E s S fun ds S1 => sp ds S1 Q E
/-- arguments by name: ix tells the parameters' places among the arguments as they stand -/
def pm {α : Type} (ix : List Nat) (l : List α) : List α := ix.filterMap fun i => l[i]?
/-- n places, j names -/
def wCallK (sp : DSp) (n j : Nat) (ix : List Nat) (args kws : WA) : WE := fun E s S Q => args E s S fun ds S1 => kws E s S1 fun es S2 => ds.length = n ∧ es.length = j ∧ sp (pm ix (ds ++ es)) S2 Q E

/-! methods -/
def isLst (S : Store) (x : D) (l : Nat) : Prop := x = .ref l ∧ ∃ xs, S l = some (.lst xs)
def isDct (S : Store) (x : D) (l : Nat) : Prop := x = .ref l ∧ ((∃ kvs, S l = some (.dK kvs)) ∨ ∃ kvs, S l = some (.dT kvs))
def wAppend (o a : WE) : WE := fun E s S Q => o E s S fun x S1 => ∃ l, isLst S1 x l ∧ a E s S1 fun y S2 => ∃ xs, S2 l = some (.lst xs) ∧ xs.length < szl ∧ Q .non (set S2 l (.lst (xs ++ [y])))
def wPop (o : WE) : WE := fun E s S Q => o E s S fun x S1 => ∃ l xs y, x = .ref l ∧ S1 l = some (.lst xs) ∧ xs.getLast? = some y ∧ Q y (set S1 l (.lst xs.dropLast))
def wPopAt (o a : WE) : WE := fun E s S Q => o E s S fun x S1 => ∃ l, isLst S1 x l ∧ a E s S1 fun y S2 => ∃ xs i z, y = .int i ∧ S2 l = some (.lst xs) ∧ 0 ≤ i ∧ i ≤ 16777216 ∧ xs[i.toNat]? = some z ∧ Q z (set S2 l (.lst (xs.eraseIdx i.toNat)))
def wGet1 (o a : WE) : WE := fun E s S Q => o E s S fun x S1 => ∃ l, isDct S1 x l ∧ a E s S1 fun y S2 => ∃ kvs, dictOf S2 x y = some kvs ∧ Q ((dget kvs y).getD .non) S2
def wGet2 (o a b : WE) : WE := fun E s S Q => o E s S fun x S1 => ∃ l, isDct S1 x l ∧ a E s S1 fun y S2 => b E s S2 fun z S3 => ∃ kvs, dictOf S3 x y = some kvs ∧ Q ((dget kvs y).getD z) S3

/-! ### tests -/
def tE (a : WE) : WT := fun E s S Q => a E s S fun x S1 => ∃ c, tru S1 x = some c ∧ Q c S1
def tAnd (a b : WT) : WT := fun E s S Q => a E s S fun c S1 => if c = true then b E s S1 Q else Q false S1
def tOr (a b : WT) : WT := fun E s S Q => a E s S fun c S1 => if c = true then Q true S1 else b E s S1 Q
def tNot (a : WT) : WT := fun E s S Q => a E s S fun c S1 => Q (!c) S1
def tYes : WT := fun _ _ S Q => Q true S

/-! ### targets -/
def gName (i : Nat) : WG := fun d _ s S Q => Q (s.set i (some d)) S
def gNames : List Nat → List D → Sg → Sg
  | i :: is, d :: ds, s => gNames is ds (s.set i (some d))
  | _, _, s => s
/-- a, b, .. = a tuple or a list (names) -/
def gTup (is : List Nat) : WG := fun d _ s S Q => ∃ xs, d = .tup xs ∧ xs.length = is.length ∧ Q (gNames is xs s) S

/-- o[i] = v of a list or a dict -/
def putIx (S : Store) (o i v : D) (Q : Store → Prop) : Prop :=
  ∃ a, o = .ref a ∧ match S a with
    | some (.lst xs) => ∃ (j : Nat), i = .int j ∧ j < xs.length ∧ Q (set S a (.lst (xs.set j v)))
    | some (.dK kvs) => isKey i = true ∧ kvs.length < szl ∧ Q (set S a (.dK (dput kvs i v)))
    | some (.dT kvs) => isKeyT i = true ∧ kvs.length < szl ∧ Q (set S a (.dT (dput kvs i v)))
    | none => False
def gIx (o i : WE) : WG := fun v E s S Q => o E s S fun x S1 => i E s S1 fun y S2 => putIx S2 x y v fun S3 => Q s S3

/-! ### what is walked: the items, and what must stay so while it is walked -/
def wiSeq (a : WE) : WI := fun E s S Q => a E s S fun x S1 => ∃ xs, seqOf S1 x = some xs ∧ Q xs (fun S' => seqOf S' x = some xs) S1
def wiRange (a : WE) : WI := fun E s S Q => a E s S fun x S1 => ∃ n : Int, x = .int n ∧ -16777216 ≤ n ∧ n ≤ 16777216 ∧ Q ((List.range n.toNat).map fun (i : Nat) => D.int i) (fun _ => True) S1
def rng (a b : Int) : List D := (List.range (b - a).toNat).map fun (i : Nat) => D.int (a + i)
def wiRange2 (a b : WE) : WI := fun E s S Q => a E s S fun x S1 => b E s S1 fun y S2 => ∃ m n : Int, x = .int m ∧ y = .int n ∧ -16777216 ≤ m ∧ m ≤ 16777216 ∧ -16777216 ≤ n ∧ n ≤ 16777216 ∧ n - m ≤ 16777216 ∧ Q (rng m n) (fun _ => True) S2
/-- both lists, or both tuples -/
def both (S : Store) (x y : D) (xs ys : List D) : Prop := (lstOf S x = some xs ∧ lstOf S y = some ys) ∨ (x = .tup xs ∧ y = .tup ys)
def zipD (xs ys : List D) : List D := xs.zipWith (fun u v => .tup [u, v]) ys
def wiZip (a b : WE) : WI := fun E s S Q => a E s S fun x S1 => b E s S1 fun y S2 => ∃ xs ys, both S2 x y xs ys ∧ Q (zipD xs ys) (fun S' => both S' x y xs ys) S2
def enumFrom (n : Nat) : List D → List D
  | [] => []
  | x :: r => .tup [.int n, x] :: enumFrom (n + 1) r
/-- a list or a tuple -/
def ltOf (S : Store) (x : D) (xs : List D) : Prop := lstOf S x = some xs ∨ x = .tup xs
def wiEnum (a : WE) : WI := fun E s S Q => a E s S fun x S1 => ∃ xs, ltOf S1 x xs ∧ Q (enumFrom 0 xs) (fun S' => ltOf S' x xs) S1
/-- for k in a dict -/
def wiKeys (a : WE) : WI := fun E s S Q => a E s S fun x S1 => ∃ l kvs, x = .ref l ∧ (S1 l = some (.dK kvs) ∨ S1 l = some (.dT kvs)) ∧ Q (kvs.map (·.1)) (fun S' => S' l = S1 l) S1

/-! ### comprehensions -/
def wipe (s : Sg) : List Nat → Sg
  | [] => s
  | v :: vs => (wipe s vs).set v none
def comp (chk : Store → Prop) (g : WG) (t : WT) (e : WE) (s : Sg) : List D → List D → Store → (List D → Store → Prop) → Prop
  | [], acc, S, Q => chk S ∧ Q acc S
  | x :: r, acc, S, Q => chk S ∧ g x (fun _ _ => False) s S fun s1 S1 => t (fun _ _ => False) s1 S1 fun b S2 =>
      if b = true then e (fun _ _ => False) s1 S2 fun y S3 => comp chk g t e s r (acc ++ [y]) S3 Q else comp chk g t e s r acc S2 Q
def wlComp (wi : WI) (g : WG) (t : WT) (e : WE) (vs : List Nat) : WL := fun E s S Q => wi E s S fun its chk S1 => comp chk g t e (wipe s vs) its [] S1 Q
/-- two for clauses -/
def comp2 (chk : Store → Prop) (g : WG) (t : WT) (wi1 : WI) (g1 : WG) (t1 : WT) (e : WE) (s : Sg) (vs1 : List Nat) : List D → List D → Store → (List D → Store → Prop) → Prop
  | [], acc, S, Q => chk S ∧ Q acc S
  | x :: r, acc, S, Q => chk S ∧ g x (fun _ _ => False) s S fun s1 S1 => t (fun _ _ => False) s1 S1 fun b S2 =>
      if b = true then wi1 (fun _ _ => False) s1 S2 fun its chk1 S3 => acc.length + its.length ≤ szl ∧ comp chk1 g1 t1 e (wipe s1 vs1) its acc S3 fun acc' S4 => comp2 chk g t wi1 g1 t1 e s vs1 r acc' S4 Q
      else comp2 chk g t wi1 g1 t1 e s vs1 r acc S2 Q
def wlComp2 (wi : WI) (g : WG) (t : WT) (vs : List Nat) (wi1 : WI) (g1 : WG) (t1 : WT) (e : WE) (vs1 : List Nat) : WL :=
  fun E s S Q => wi E s S fun its chk S1 => comp2 chk g t wi1 g1 t1 e (wipe s vs) vs1 its [] S1 Q
/-- {k: v for ..} with keys of ints and texts -/
def dcomp (chk : Store → Prop) (g : WG) (t : WT) (k v : WE) (s : Sg) : List D → List (D × D) → Store → (List (D × D) → Store → Prop) → Prop
  | [], acc, S, Q => chk S ∧ Q acc S
  | x :: r, acc, S, Q => chk S ∧ g x (fun _ _ => False) s S fun s1 S1 => t (fun _ _ => False) s1 S1 fun b S2 =>
      if b = true then k (fun _ _ => False) s1 S2 fun y S3 => v (fun _ _ => False) s1 S3 fun z S4 => isKey y = true ∧ dcomp chk g t k v s r (dput acc y z) S4 Q else dcomp chk g t k v s r acc S2 Q
def wDComp (wi : WI) (g : WG) (t : WT) (k v : WE) (vs : List Nat) : WE := fun E s S Q => wi E s S fun its chk S1 => dcomp chk g t k v (wipe s vs) its [] S1 fun kvs S2 => ∀ a, S2 a = none → Q (.ref a) (set S2 a (.dK kvs))

/-! ### statements -/
mutual
/-- a value whose tracked lists (those that S' has dropped) are values now -/
inductive FzV (S S' : Store) : D → D → Prop
  | rfl (d : D) : FzV S S' d d
  | frz {a : Nat} {ds ds' : List D} : S a = some (.lst ds) → S' a = none → FzVs S S' ds ds' → FzV S S' (.ref a) (.lst ds')
  | tup {ds ds' : List D} : FzVs S S' ds ds' → FzV S S' (.tup ds) (.tup ds')
  | lst {ds ds' : List D} : FzVs S S' ds ds' → FzV S S' (.lst ds) (.lst ds')
inductive FzVs (S S' : Store) : List D → List D → Prop
  | nil : FzVs S S' [] []
  | cons {d d' : D} {ds ds' : List D} : FzV S S' d d' → FzVs S S' ds ds' → FzVs S S' (d :: ds) (d' :: ds')
end
def Sub (S' S : Store) : Prop := ∀ a, S' a = S a ∨ S' a = none
/-- objects may be forgotten, lists become values -/
def Fz (Q : Q1) : Q1 := fun d S => ∃ d' S', Sub S' S ∧ FzV S S' d d' ∧ Q d' S'
theorem Fz.refl {Q : Q1} {d : D} {S : Store} (h : Q d S) : Fz Q d S := ⟨d, S, fun _ => .inl rfl, .rfl d, h⟩
theorem Fz.drop {Q : Q1} {d : D} {S S' : Store} (s : Sub S' S) (h : Q d S') : Fz Q d S := ⟨d, S', s, .rfl d, h⟩

def sNext : WS := fun D s S => D.nx s S
def sSeq (a b : WS) : WS := fun D s S => a { D with nx := b D } s S
def sExpr (e : WE) : WS := fun D s S => e D.ex s S fun _ S1 => D.nx s S1
def sRet (e : WE) : WS := fun D s S => e D.ex s S (Fz D.rt)
def sRetN : WS := fun D s S => Fz D.rt .non S
def sIf (t : WT) (a b : WS) : WS := fun D s S => t D.ex s S fun k S1 => if k = true then a D s S1 else b D s S1
def sAsg (e : WE) (g : WG) : WS := fun D s S => e D.ex s S fun d S1 => g d D.ex s S1 D.nx
/-- a, b, .. = e1, e2, .. (two or three names) -/
def sPar (is : List Nat) (r : WA) : WS := fun D s S => r D.ex s S fun ds S1 => ds.length = is.length ∧ D.nx (gNames is ds s) S1
def sAug (f : F2) (i : Nat) (e : WE) : WS := fun D s S => ∃ x, s[i]? = some (some x) ∧ e D.ex s S fun y S1 => ∃ z, f S1 x y = some z ∧ D.nx (s.set i (some z)) S1
def sRaise (c : String) (r : WA) : WS := fun D s S => r D.ex s S fun ds S1 => D.ex ⟨c, ds⟩ S1
def loop (chk : Store → Prop) (g : WG) (body : WS) (W : WD) : List D → Sg → Store → Prop
  | [], s, S => chk S ∧ W.nx s S
  | x :: r, s, S => chk S ∧ g x W.ex s S fun s1 S1 => body { W with nx := loop chk g body W r, ct := loop chk g body W r, bk := W.nx } s1 S1
def sFor (wi : WI) (g : WG) (body : WS) : WS := fun D s S => wi D.ex s S fun its chk S1 => loop chk g body D its s S1
def whileN (t : WT) (body : WS) (D : WD) : Nat → Sg → Store → Prop
  | 0, _, _ => False
  | n + 1, s, S => t D.ex s S fun k S1 => if k = true then body { D with nx := whileN t body D n, ct := whileN t body D n, bk := D.nx } s S1 else D.nx s S1
def sWhile (t : WT) (body : WS) : WS := fun D s S => ∃ n, whileN t body D n s S
def sBreak : WS := fun D s S => D.bk s S
def sCont : WS := fun D s S => D.ct s S

/-- a def's body, with its number of names -/
def wBody (n : Nat) (b : WS) : DSp := fun ds S Q E => b { nx := fun _ S' => Fz Q .non S', rt := Q, ex := E } (ds.map some ++ List.replicate (n - ds.length) none) S
/-- the body keeps the promise -/
def Meets (sp : DSp) (n : Nat) (b : WS) : Prop := ∀ ds S Q E, sp ds S Q E → wBody n b ds S Q E
def Arity (sp : DSp) (n : Nat) : Prop := ∀ ds S Q E, sp ds S Q E → ds.length = n
end Dl
set_option linter.all false
/-! Dm: how combinators are read (for simp); loops and comprehensions by invariants. Light. -/
namespace Dl

/-! ### unfolding -/
section
variable {E : XQ} {s : Sg} {S : Store} {Q : Q1} {QA : List D → Store → Prop} {QB : Bool → Store → Prop} {W : WD}
@[simp] theorem wVar_ {i : Nat} : wVar i E s S Q = (∃ d, s[i]? = some (some d) ∧ Q d S) := rfl
@[simp] theorem wC_ {d : D} : wC d E s S Q = Q d S := rfl
@[simp] theorem w1_ {f : F1} {a : WE} : w1 f a E s S Q = a E s S fun x S1 => ∃ z, f S1 x = some z ∧ Q z S1 := rfl
@[simp] theorem w2_ {f : F2} {a b : WE} : w2 f a b E s S Q = a E s S fun x S1 => b E s S1 fun y S2 => ∃ z, f S2 x y = some z ∧ Q z S2 := rfl
@[simp] theorem wAnd_ {a b : WE} : wAnd a b E s S Q = a E s S fun x S1 => ∃ c, tru S1 x = some c ∧ if c = true then b E s S1 Q else Q x S1 := rfl
@[simp] theorem wOr_ {a b : WE} : wOr a b E s S Q = a E s S fun x S1 => ∃ c, tru S1 x = some c ∧ if c = true then Q x S1 else b E s S1 Q := rfl
@[simp] theorem wChain_ {f g : F2} {a b c : WE} : wChain f g a b c E s S Q = a E s S fun x S1 => b E s S1 fun y S2 => ∃ k, f S2 x y = some (.bl k) ∧
  if k = true then c E s S2 fun z S3 => ∃ u, g S3 y z = some u ∧ Q u S3 else Q (.bl false) S2 := rfl
@[simp] theorem wIf_ {t : WT} {a b : WE} : wIf t a b E s S Q = t E s S fun k S1 => if k = true then a E s S1 Q else b E s S1 Q := rfl
@[simp] theorem wNil_ : wNil E s S QA = QA [] S := rfl
@[simp] theorem wCons_ {a : WE} {r : WA} : wCons a r E s S QA = a E s S fun x S1 => r E s S1 fun xs S2 => QA (x :: xs) S2 := rfl
@[simp] theorem wTup_ {r : WA} : wTup r E s S Q = r E s S fun xs S1 => xs.length ≤ szl ∧ Q (.tup xs) S1 := rfl
@[simp] theorem frz_ {l : WL} : frz l E s S Q = l E s S fun xs S1 => Q (.lst xs) S1 := rfl
@[simp] theorem thw_ {l : WL} : thw l E s S Q = l E s S fun xs S1 => ∀ a, S1 a = none → Q (.ref a) (set S1 a (.lst xs)) := rfl
@[simp] theorem wlDisp_ {r : WA} : wlDisp r E s S QA = r E s S fun xs S1 => xs.length ≤ szl ∧ QA xs S1 := rfl
@[simp] theorem wlCat_ {a b : WE} : wlCat a b E s S QA = a E s S fun x S1 => b E s S1 fun y S2 => ∃ xs ys, lstOf S2 x = some xs ∧ lstOf S2 y = some ys ∧ xs.length + ys.length ≤ szl ∧ QA (xs ++ ys) S2 := rfl
@[simp] theorem wlList_ {a : WE} : wlList a E s S QA = a E s S fun x S1 => ∃ xs, seqOf S1 x = some xs ∧ QA xs S1 := rfl
@[simp] theorem wlRange_ {a : WE} : wlRange a E s S QA = a E s S fun x S1 => ∃ n : Int, x = .int n ∧ -16777216 ≤ n ∧ n ≤ 16777216 ∧ QA ((List.range n.toNat).map fun (i : Nat) => D.int i) S1 := rfl
@[simp] theorem wSl_ {a lo hi : WE} : wSl a lo hi E s S Q = a E s S fun x S1 => lo E s S1 fun l S2 => hi E s S2 fun h S3 => ∃ z, oSl S3 x l h = some z ∧ Q z S3 := rfl
@[simp] theorem wI_ {w : WE} : wI w E s S Q = w E s S fun d S1 => ∃ i, d = .int i ∧ Q d S1 := rfl
@[simp] theorem wCall_ {sp : DSp} {r : WA} : wCall sp r E s S Q = r E s S fun ds S1 => sp ds S1 Q E := rfl
@[simp] theorem wCallK_ {sp : DSp} {n j : Nat} {ix : List Nat} {r k : WA} : wCallK sp n j ix r k E s S Q = r E s S fun ds S1 => k E s S1 fun es S2 => ds.length = n ∧ es.length = j ∧ sp (pm ix (ds ++ es)) S2 Q E := rfl
@[simp] theorem wAppend_ {o a : WE} : wAppend o a E s S Q = o E s S fun x S1 => ∃ l, isLst S1 x l ∧ a E s S1 fun y S2 => ∃ xs, S2 l = some (.lst xs) ∧ xs.length < szl ∧ Q .non (set S2 l (.lst (xs ++ [y]))) := rfl
@[simp] theorem wPop_ {o : WE} : wPop o E s S Q = o E s S fun x S1 => ∃ l xs y, x = .ref l ∧ S1 l = some (.lst xs) ∧ xs.getLast? = some y ∧ Q y (set S1 l (.lst xs.dropLast)) := rfl
@[simp] theorem wPopAt_ {o a : WE} : wPopAt o a E s S Q = o E s S fun x S1 => ∃ l, isLst S1 x l ∧ a E s S1 fun y S2 => ∃ xs i z, y = .int i ∧ S2 l = some (.lst xs) ∧ 0 ≤ i ∧ i ≤ 16777216 ∧ xs[i.toNat]? = some z ∧ Q z (set S2 l (.lst (xs.eraseIdx i.toNat))) := rfl
@[simp] theorem wGet1_ {o a : WE} : wGet1 o a E s S Q = o E s S fun x S1 => ∃ l, isDct S1 x l ∧ a E s S1 fun y S2 => ∃ kvs, dictOf S2 x y = some kvs ∧ Q ((dget kvs y).getD .non) S2 := rfl
@[simp] theorem tE_ {a : WE} : tE a E s S QB = a E s S fun x S1 => ∃ c, tru S1 x = some c ∧ QB c S1 := rfl
@[simp] theorem tAnd_ {a b : WT} : tAnd a b E s S QB = a E s S fun c S1 => if c = true then b E s S1 QB else QB false S1 := rfl
@[simp] theorem tOr_ {a b : WT} : tOr a b E s S QB = a E s S fun c S1 => if c = true then QB true S1 else b E s S1 QB := rfl
@[simp] theorem tNot_ {a : WT} : tNot a E s S QB = a E s S fun c S1 => QB (!c) S1 := rfl
@[simp] theorem tYes_ : tYes E s S QB = QB true S := rfl
@[simp] theorem wDictK_ : wDictK E s S Q = ∀ a, S a = none → Q (.ref a) (set S a (.dK [])) := rfl
@[simp] theorem wDictT_ : wDictT E s S Q = ∀ a, S a = none → Q (.ref a) (set S a (.dT [])) := rfl
@[simp] theorem wPairs_nil {QP : List (D × D) → Store → Prop} : wPairs [] E s S QP = QP [] S := rfl
@[simp] theorem wPairs_cons {k v : WE} {r : List (WE × WE)} {QP : List (D × D) → Store → Prop} : wPairs ((k, v) :: r) E s S QP = k E s S fun x S1 => v E s S1 fun y S2 => wPairs r E s S2 fun ps S3 => QP ((x, y) :: ps) S3 := rfl
@[simp] theorem wDictD_ {ps : List (WE × WE)} : wDictD ps E s S Q = wPairs ps E s S fun kvs S1 => kvs.length ≤ 15 ∧ kvs.all (fun p => isKey p.1) = true ∧ ∀ a, S1 a = none → Q (.ref a) (set S1 a (.dK (dputs kvs))) := rfl
@[simp] theorem gName_ {i : Nat} {d : D} {K : Sg → Store → Prop} : gName i d E s S K = K (s.set i (some d)) S := rfl
@[simp] theorem gTup_ {is : List Nat} {d : D} {K : Sg → Store → Prop} : gTup is d E s S K = ∃ xs, d = .tup xs ∧ xs.length = is.length ∧ K (gNames is xs s) S := rfl
@[simp] theorem gNames_nil {ds : List D} {s : Sg} : gNames [] ds s = s := by unfold gNames; rfl
@[simp] theorem gNames_cons {i : Nat} {is : List Nat} {d : D} {ds : List D} {s : Sg} : gNames (i :: is) (d :: ds) s = gNames is ds (s.set i (some d)) := rfl
@[simp] theorem gIx_ {o i : WE} {v : D} {K : Sg → Store → Prop} : gIx o i v E s S K = o E s S fun x S1 => i E s S1 fun y S2 => putIx S2 x y v fun S3 => K s S3 := rfl
@[simp] theorem wiSeq_ {a : WE} {QI : List D → (Store → Prop) → Store → Prop} : wiSeq a E s S QI = a E s S fun x S1 => ∃ xs, seqOf S1 x = some xs ∧ QI xs (fun S' => seqOf S' x = some xs) S1 := rfl
@[simp] theorem wiRange_ {a : WE} {QI : List D → (Store → Prop) → Store → Prop} : wiRange a E s S QI = a E s S fun x S1 => ∃ n : Int, x = .int n ∧ -16777216 ≤ n ∧ n ≤ 16777216 ∧ QI ((List.range n.toNat).map fun (i : Nat) => D.int i) (fun _ => True) S1 := rfl
@[simp] theorem wiRange2_ {a b : WE} {QI : List D → (Store → Prop) → Store → Prop} : wiRange2 a b E s S QI = a E s S fun x S1 => b E s S1 fun y S2 => ∃ m n : Int, x = .int m ∧ y = .int n ∧ -16777216 ≤ m ∧ m ≤ 16777216 ∧ -16777216 ≤ n ∧ n ≤ 16777216 ∧ n - m ≤ 16777216 ∧ QI (rng m n) (fun _ => True) S2 := rfl
@[simp] theorem wiZip_ {a b : WE} {QI : List D → (Store → Prop) → Store → Prop} : wiZip a b E s S QI = a E s S fun x S1 => b E s S1 fun y S2 => ∃ xs ys, both S2 x y xs ys ∧ QI (zipD xs ys) (fun S' => both S' x y xs ys) S2 := rfl
@[simp] theorem wiEnum_ {a : WE} {QI : List D → (Store → Prop) → Store → Prop} : wiEnum a E s S QI = a E s S fun x S1 => ∃ xs, ltOf S1 x xs ∧ QI (enumFrom 0 xs) (fun S' => ltOf S' x xs) S1 := rfl
@[simp] theorem wlComp_ {wi : WI} {g : WG} {t : WT} {e : WE} {vs : List Nat} : wlComp wi g t e vs E s S QA = wi E s S fun its chk S1 => comp chk g t e (wipe s vs) its [] S1 QA := rfl
@[simp] theorem wlSorted_ {a : WE} : wlSorted a E s S QA = a E s S fun x S1 => ∃ xs, lstOf S1 x = some xs ∧ ((∃ ns : List Int, xs = ns.map D.int ∧ QA ((isort ns).map D.int) S1) ∨ ∃ ps : List (Int × Int), xs = ps.map prD ∧ QA ((psort ps).map prD) S1) := rfl
@[simp] theorem wlSortedSet_ {a : WE} : wlSortedSet a E s S QA = a E s S fun x S1 => ∃ ns : List Int, lstOf S1 x = some (ns.map D.int) ∧ ns.length ≤ 4000 ∧ (ddp ns).length < 64 ∧ QA ((isort (ddp ns)).map D.int) S1 := rfl
@[simp] theorem wLenSet_ {a : WE} : wLenSet a E s S Q = a E s S fun x S1 => ∃ ns : List Int, lstOf S1 x = some (ns.map D.int) ∧ ns.length ≤ 4000 ∧ Q (.int (ddp ns).length) S1 := rfl
@[simp] theorem szl_ : szl = 16777216 := rfl
@[simp] theorem sNext_ : sNext W s S = W.nx s S := rfl
@[simp] theorem sSeq_ {a b : WS} : sSeq a b W s S = a { W with nx := b W } s S := rfl
@[simp] theorem sExpr_ {e : WE} : sExpr e W s S = e W.ex s S fun _ S1 => W.nx s S1 := rfl
@[simp] theorem sRet_ {e : WE} : sRet e W s S = e W.ex s S (Fz W.rt) := rfl
@[simp] theorem sRetN_ : sRetN W s S = Fz W.rt .non S := rfl
@[simp] theorem sIf_ {t : WT} {a b : WS} : sIf t a b W s S = t W.ex s S fun k S1 => if k = true then a W s S1 else b W s S1 := rfl
@[simp] theorem sAsg_ {e : WE} {g : WG} : sAsg e g W s S = e W.ex s S fun d S1 => g d W.ex s S1 W.nx := rfl
@[simp] theorem sPar_ {is : List Nat} {r : WA} : sPar is r W s S = r W.ex s S fun ds S1 => ds.length = is.length ∧ W.nx (gNames is ds s) S1 := rfl
@[simp] theorem sFor_ {wi : WI} {g : WG} {b : WS} : sFor wi g b W s S = wi W.ex s S fun its chk S1 => loop chk g b W its s S1 := rfl
@[simp] theorem sWhile_ {t : WT} {b : WS} : sWhile t b W s S = ∃ n, whileN t b W n s S := rfl
@[simp] theorem sBreak_ : sBreak W s S = W.bk s S := rfl
@[simp] theorem sRaise_ {c : String} {r : WA} : sRaise c r W s S = r W.ex s S fun ds S1 => W.ex ⟨c, ds⟩ S1 := rfl
end

/-! ### operators -/
section
variable {S : Store}
@[simp] theorem oAdd_int {i j : Int} : oAdd S (.int i) (.int j) = some (.int (i + j)) := rfl
@[simp] theorem oSub_int {i j : Int} : oSub S (.int i) (.int j) = some (.int (i - j)) := rfl
@[simp] theorem oNeg_int {i : Int} : oNeg S (.int i) = some (.int (-i)) := rfl
theorem oMul_int {i j : Int} (h : small i ∨ small j) : oMul S (.int i) (.int j) = some (.int (i * j)) := if_pos h
theorem oFdiv_int {i j : Int} (h : 0 < j ∧ j < 1073741824) : oFdiv S (.int i) (.int j) = some (.int (i / j)) := if_pos h
theorem oMod_int {i j : Int} (h : 0 < j) : oMod S (.int i) (.int j) = some (.int (i % j)) := if_pos h
theorem oPow_int {i j : Int} (h : 0 ≤ j ∧ j ≤ 1000000 ∧ i.natAbs < 18446744073709551616) : oPow S (.int i) (.int j) = some (.int (i ^ j.toNat)) := if_pos h
@[simp] theorem oLt_int {i j : Int} : oLt S (.int i) (.int j) = some (.bl (decide (i < j))) := rfl
@[simp] theorem oLe_int {i j : Int} : oLe S (.int i) (.int j) = some (.bl (decide (i ≤ j))) := rfl
@[simp] theorem oGt_int {i j : Int} : oGt S (.int i) (.int j) = some (.bl (decide (j < i))) := rfl
@[simp] theorem oGe_int {i j : Int} : oGe S (.int i) (.int j) = some (.bl (decide (j ≤ i))) := rfl
@[simp] theorem oEq_int {i j : Int} : oEq S (.int i) (.int j) = some (.bl (decide (i = j))) := by simp [oEq, drf, D.fits, D.eqv, Bool.beq_eq_decide_eq]
@[simp] theorem oNe_int {i j : Int} : oNe S (.int i) (.int j) = some (.bl (!decide (i = j))) := by simp [oNe, drf, D.fits, D.eqv, Bool.beq_eq_decide_eq]
@[simp] theorem oEq_str {a b : String} : oEq S (.str a) (.str b) = some (.bl (decide (a = b))) := by simp [oEq, drf, D.fits, D.eqv, Bool.beq_eq_decide_eq]
@[simp] theorem oNe_str {a b : String} : oNe S (.str a) (.str b) = some (.bl (!decide (a = b))) := by simp [oNe, drf, D.fits, D.eqv, Bool.beq_eq_decide_eq]
@[simp] theorem oIs_non {x : D} : oIs S x .non = some (.bl (isD x .non)) := rfl
@[simp] theorem oIsNot_non {x : D} : oIsNot S x .non = some (.bl (!isD x .non)) := rfl
@[simp] theorem isD_int {i : Int} : isD (.int i) .non = false := rfl
@[simp] theorem isD_non : isD .non .non = true := rfl
@[simp] theorem isD_ref {a : Nat} : isD (.ref a) .non = false := rfl
@[simp] theorem isD_tup {a : List D} : isD (.tup a) .non = false := rfl
@[simp] theorem tru_bl {b : Bool} : tru S (.bl b) = some b := rfl
@[simp] theorem tru_int {i : Int} : tru S (.int i) = some (decide (i ≠ 0)) := rfl
@[simp] theorem oNot_bl {b : Bool} : oNot S (.bl b) = some (.bl (!b)) := rfl
@[simp] theorem seqOf_tup {xs : List D} : seqOf S (.tup xs) = some xs := rfl
@[simp] theorem seqOf_lst {xs : List D} : seqOf S (.lst xs) = some xs := rfl
@[simp] theorem seqOf_scr {xs : List D} : seqOf S (.scr xs) = some xs := rfl
@[simp] theorem lstOf_lst {xs : List D} : lstOf S (.lst xs) = some xs := rfl
theorem seqOf_ref {a : Nat} {xs : List D} (h : S a = some (.lst xs)) : seqOf S (.ref a) = some xs := by simp [seqOf, h]
theorem lstOf_ref {a : Nat} {xs : List D} (h : S a = some (.lst xs)) : lstOf S (.ref a) = some xs := by simp [lstOf, h]
theorem drf_ref {a : Nat} {xs : List D} (h : S a = some (.lst xs)) : drf S (.ref a) = .lst xs := by simp [drf, h]
@[simp] theorem drf_lst {xs : List D} : drf S (.lst xs) = .lst xs := rfl
@[simp] theorem drf_tup {xs : List D} : drf S (.tup xs) = .tup xs := rfl
@[simp] theorem oLen_tup {xs : List D} : oLen S (.tup xs) = some (.int xs.length) := rfl
@[simp] theorem oLen_lst {xs : List D} : oLen S (.lst xs) = some (.int xs.length) := rfl
theorem oLen_ref {a : Nat} {xs : List D} (h : S a = some (.lst xs)) : oLen S (.ref a) = some (.int xs.length) := by simp [oLen, seqOf, h]
theorem oLen_dK {a : Nat} {xs : List (D × D)} (h : S a = some (.dK xs)) : oLen S (.ref a) = some (.int xs.length) := by simp [oLen, seqOf, h]
@[simp] theorem oAbs_int {i : Int} : oAbs S (.int i) = some (.int (if i < 0 then -i else i)) := rfl
@[simp] theorem oInt_int {i : Int} : oInt S (.int i) = some (.int i) := rfl
@[simp] theorem oTuple_lst {xs : List D} : oTuple S (.lst xs) = some (.tup xs) := rfl
@[simp] theorem oTuple_tup {xs : List D} : oTuple S (.tup xs) = some (.tup xs) := rfl
theorem oTuple_ref {a : Nat} {xs : List D} (h : S a = some (.lst xs)) : oTuple S (.ref a) = some (.tup xs) := by simp [oTuple, seqOf, h]
@[simp] theorem oMin2_int {i j : Int} : oMin2 S (.int i) (.int j) = some (.int (if j < i then j else i)) := rfl
@[simp] theorem oMax2_int {i j : Int} : oMax2 S (.int i) (.int j) = some (.int (if j > i then j else i)) := rfl
theorem oIx_tup {xs : List D} {i : Int} : oIx S (.tup xs) (.int i) = ixD xs i := rfl
theorem oIx_lst {xs : List D} {i : Int} : oIx S (.lst xs) (.int i) = ixD xs i := rfl
theorem ixD_nat {xs : List D} {i : Nat} : ixD xs (i : Int) = xs[i]? := by simp [ixD]
@[simp] theorem ixD_lit {xs : List D} {i : Nat} : ixD xs (OfNat.ofNat i) = xs[i]? := ixD_nat
@[simp] theorem ixD_0 {xs : List D} : ixD xs 0 = xs[0]? := by simp [ixD]
@[simp] theorem ixD_1 {xs : List D} : ixD xs 1 = xs[1]? := by simp [ixD]
@[simp] theorem ixD_2 {xs : List D} : ixD xs 2 = xs[2]? := by simp [ixD]
@[simp] theorem ixD_3 {xs : List D} : ixD xs 3 = xs[3]? := by simp [ixD]
@[simp] theorem ixD_4 {xs : List D} : ixD xs 4 = xs[4]? := by simp [ixD]
@[simp] theorem ixD_5 {xs : List D} : ixD xs 5 = xs[5]? := by simp [ixD]
@[simp] theorem ixD_6 {xs : List D} : ixD xs 6 = xs[6]? := by simp [ixD]
@[simp] theorem ixD_7 {xs : List D} : ixD xs 7 = xs[7]? := by simp [ixD]
@[simp] theorem ixD_8 {xs : List D} : ixD xs 8 = xs[8]? := by simp [ixD]
@[simp] theorem oIx_tup0 {xs : List D} {i : Int} : oIx S (.tup xs) (.int i) = ixD xs i := rfl
@[simp] theorem oIx_lst0 {xs : List D} {i : Int} : oIx S (.lst xs) (.int i) = ixD xs i := rfl
@[simp] theorem oAdd_tup {a b : List D} : oAdd S (.tup a) (.tup b) = if a.length + b.length ≤ szl then some (.tup (a ++ b)) else none := rfl
theorem isLst_ref {a : Nat} {xs : List D} (h : S a = some (.lst xs)) : isLst S (.ref a) a := ⟨rfl, xs, h⟩
theorem all_bl {l : List Bool} : oAll S (.lst (l.map D.bl)) = some (.bl (l.all id)) := by
  have h : ∀ l : List Bool, boolsOf (l.map D.bl) = some l := by
    intro l; induction l with
    | nil => rfl
    | cons x r ih => simp [boolsOf, ih]
  simp [oAll, h]
theorem any_bl {l : List Bool} : oAny S (.lst (l.map D.bl)) = some (.bl (l.any id)) := by
  have h : ∀ l : List Bool, boolsOf (l.map D.bl) = some l := by
    intro l; induction l with
    | nil => rfl
    | cons x r ih => simp [boolsOf, ih]
  simp [oAny, h]
end

/-! ### loops -/
theorem loop_ind {chk : Store → Prop} {g : WG} {b : WS} {W : WD} {P : List D → Sg → Store → Prop} (h0 : ∀ s S, P [] s S → chk S ∧ W.nx s S)
    (hs : ∀ x r s S (N : Sg → Store → Prop), P (x :: r) s S → (∀ s' S', P r s' S' → N s' S') → chk S ∧ g x W.ex s S fun s1 S1 => b { W with nx := N, ct := N, bk := W.nx } s1 S1) :
    ∀ (its : List D) s S, P its s S → loop chk g b W its s S
  | [], s, S, h => h0 s S h
  | x :: r, s, S, h => hs x r s S _ h fun s' S' h' => loop_ind h0 hs r s' S' h'
theorem while_ind {t : WT} {b : WS} {W : WD} {P : Nat → Sg → Store → Prop}
    (hs : ∀ n s S (N : Sg → Store → Prop), P n s S → (∀ m s' S', m < n → P m s' S' → N s' S') → t W.ex s S fun k S1 => if k = true then b { W with nx := N, ct := N, bk := W.nx } s S1 else W.nx s S1) :
    ∀ (k n : Nat) s S, n < k → P n s S → whileN t b W k s S
  | 0, n, s, S, h, _ => absurd h (Nat.not_lt_zero _)
  | k + 1, n, s, S, h, p => hs n s S _ p fun m s' S' hm p' => while_ind hs k m s' S' (by omega) p'
theorem while_ok {t : WT} {b : WS} {W : WD} {P : Nat → Sg → Store → Prop} (n : Nat)
    (hs : ∀ n s S (N : Sg → Store → Prop), P n s S → (∀ m s' S', m < n → P m s' S' → N s' S') → t W.ex s S fun k S1 => if k = true then b { W with nx := N, ct := N, bk := W.nx } s S1 else W.nx s S1)
    {s : Sg} {S : Store} (h : P n s S) : ∃ k, whileN t b W k s S := ⟨n + 1, while_ind hs (n + 1) n s S (Nat.lt_succ_self n) h⟩
/-- a comprehension that changes nothing -/
theorem comp_pure {chk : Store → Prop} {g : WG} {t : WT} {e : WE} {s : Sg} {S : Store} {p : D → Bool} {f : D → D} (hc : chk S) {Q : List D → Store → Prop} :
    ∀ (its : List D) (acc : List D), (∀ x ∈ its, ∀ (K1 : D → Store → Prop) (K2 : Store → Prop), (p x = true → K1 (f x) S) → (p x = false → K2 S) →
        g x (fun _ _ => False) s S fun s1 S1 => t (fun _ _ => False) s1 S1 fun b S2 => if b = true then e (fun _ _ => False) s1 S2 K1 else K2 S2) →
      Q (acc ++ (its.filter p).map f) S → comp chk g t e s its acc S Q
  | [], acc, _, q => ⟨hc, by simpa using q⟩
  | x :: r, acc, h, q => by
    refine ⟨hc, h x (by simp) _ _ (fun hp => ?_) fun hp => ?_⟩
    · exact comp_pure hc r (acc ++ [f x]) (fun y hy => h y (by simp [hy])) (by simpa [List.filter_cons, hp] using q)
    · exact comp_pure hc r acc (fun y hy => h y (by simp [hy])) (by simpa [List.filter_cons, hp] using q)
theorem comp_ind {chk : Store → Prop} {g : WG} {t : WT} {e : WE} {s : Sg} {Q : List D → Store → Prop} {P : List D → List D → Store → Prop} (h0 : ∀ acc S, P [] acc S → chk S ∧ Q acc S)
    (hs : ∀ x r acc S (K1 : D → Store → Prop) (K2 : Store → Prop), P (x :: r) acc S → (∀ y S', P r (acc ++ [y]) S' → K1 y S') → (∀ S', P r acc S' → K2 S') →
      chk S ∧ g x (fun _ _ => False) s S fun s1 S1 => t (fun _ _ => False) s1 S1 fun b S2 => if b = true then e (fun _ _ => False) s1 S2 K1 else K2 S2) :
    ∀ (its acc : List D) (S : Store), P its acc S → comp chk g t e s its acc S Q
  | [], acc, S, h => h0 acc S h
  | x :: r, acc, S, h => hs x r acc S _ _ h (fun y S' h' => comp_ind h0 hs r (acc ++ [y]) S' h') (fun S' h' => comp_ind h0 hs r acc S' h')

theorem comp_map {α : Type} {F : α → D} {chk : Store → Prop} {g : WG} {t : WT} {e : WE} {s : Sg} {S : Store} {p : α → Bool} {f : α → D} (hc : chk S) {Q : List D → Store → Prop} :
    ∀ (xs : List α) (acc : List D), (∀ x ∈ xs, ∀ (K1 : D → Store → Prop) (K2 : Store → Prop), (p x = true → K1 (f x) S) → (p x = false → K2 S) →
        g (F x) (fun _ _ => False) s S fun s1 S1 => t (fun _ _ => False) s1 S1 fun b S2 => if b = true then e (fun _ _ => False) s1 S2 K1 else K2 S2) →
      Q (acc ++ (xs.filter p).map f) S → comp chk g t e s (xs.map F) acc S Q
  | [], acc, _, q => ⟨hc, by simpa using q⟩
  | x :: r, acc, h, q => by
    refine ⟨hc, h x (by simp) _ _ (fun hp => ?_) fun hp => ?_⟩
    · exact comp_map hc r (acc ++ [f x]) (fun y hy => h y (by simp [hy])) (by simpa [List.filter_cons, hp] using q)
    · exact comp_map hc r acc (fun y hy => h y (by simp [hy])) (by simpa [List.filter_cons, hp] using q)
theorem loop_map {α : Type} {F : α → D} {chk : Store → Prop} {g : WG} {b : WS} {W : WD} {P : List α → Sg → Store → Prop} (h0 : ∀ s S, P [] s S → chk S ∧ W.nx s S)
    (hs : ∀ x r s S (N : Sg → Store → Prop), P (x :: r) s S → (∀ s' S', P r s' S' → N s' S') → chk S ∧ g (F x) W.ex s S fun s1 S1 => b { W with nx := N, ct := N, bk := W.nx } s1 S1) :
    ∀ (xs : List α) s S, P xs s S → loop chk g b W (xs.map F) s S
  | [], s, S, h => h0 s S h
  | x :: r, s, S, h => hs x r s S _ h fun s' S' h' => loop_map h0 hs r s' S' h'

/-- what holds between two statements -/
theorem seq_mid {a b : WS} {W : WD} {s : Sg} {S : Store} (P : Sg → Store → Prop) (h1 : ∀ N : Sg → Store → Prop, (∀ s' S', P s' S' → N s' S') → a { W with nx := N } s S) (h2 : ∀ s' S', P s' S' → b W s' S') : sSeq a b W s S := h1 _ h2

/-! ### stores -/
/-- only what stood in S0 -/
def rst (S0 S : Store) : Store := fun a => if S0 a = none then none else S a
theorem rst_sub {S0 S : Store} : Sub (rst S0 S) S := fun a => by
  unfold rst; split
  · exact .inr rfl
  · exact .inl rfl
theorem fz_rst {Q : Q1} {d : D} {S S0 : Store} (h : Q d (rst S0 S)) : Fz Q d S := .drop rst_sub h
theorem rst_at {S0 S : Store} {a : Nat} {o : SO} (h : S0 a = some o) : rst S0 S a = S a := by unfold rst; rw [if_neg (by rw [h]; exact Option.some_ne_none _)]
/-- all that stood stands, and no more -/
theorem rst_eq {S0 S : Store} (h : ∀ a o, S0 a = some o → S a = some o) : rst S0 S = S0 := by
  funext a; unfold rst; split
  · next e => rw [e]
  · next e =>
    cases q : S0 a with
    | none => exact absurd q e
    | some o => exact h a o q
theorem fz_same {Q : Q1} {d : D} {S S0 : Store} (h : ∀ a o, S0 a = some o → S a = some o) (q : Q d S0) : Fz Q d S := fz_rst (S0 := S0) (by rw [rst_eq h]; exact q)
theorem fz_eq {Q : Q1} {d : D} {S : Store} (q : Q d S) : Fz Q d S := .refl q
theorem fzs_rfl {S S' : Store} : ∀ ds : List D, FzVs S S' ds ds
  | [] => .nil
  | d :: r => .cons (.rfl d) (fzs_rfl r)
/-- a list is a value from now on, what is new is forgotten -/
theorem fz_lst {Q : Q1} {a : Nat} {ds : List D} {S0 S : Store} (h : S a = some (.lst ds)) (h0 : S0 a = none) (q : Q (.lst ds) (rst S0 S)) : Fz Q (.ref a) S :=
  ⟨.lst ds, rst S0 S, rst_sub, .frz h (by unfold rst; rw [if_pos h0]) (fzs_rfl ds), q⟩
theorem rst_none {S0 S : Store} {a : Nat} (h : S0 a = none) : rst S0 S a = none := by unfold rst; rw [if_pos h]
theorem fzs_of {S S' : Store} : ∀ {ds ds' : List D}, ds.length = ds'.length → (∀ (i : Nat) (h1 : i < ds.length) (h2 : i < ds'.length), FzV S S' ds[i] ds'[i]) → FzVs S S' ds ds'
  | [], [], _, _ => .nil
  | [], _ :: _, h, _ => by simp at h
  | _ :: _, [], h, _ => by simp at h
  | x :: r, y :: r', h, hf => .cons (hf 0 (by simp) (by simp)) (fzs_of (by simpa using h) fun i h1 h2 => hf (i + 1) (Nat.succ_lt_succ h1) (Nat.succ_lt_succ h2))
end Dl
set_option linter.all false
/-! Mm: matchings and their certificates. Plain. -/
namespace Dl
namespace Mt

theorem sub_of_len {α : Type} [DecidableEq α] {A N : List α} (hA : A.Nodup) (hs : ∀ x ∈ A, x ∈ N) (hl : N.length ≤ A.length) : ∀ x ∈ N, x ∈ A := by
  intro x hx
  refine Classical.byContradiction fun hn => ?_
  have h1 : (x :: A).Nodup := List.nodup_cons.mpr ⟨hn, hA⟩
  have h2 := h1.length_le_of_subset (l₂ := N) (fun y hy => by
    rcases List.mem_cons.mp hy with rfl | hy
    · exact hx
    · exact hs y hy)
  simp at h2; omega
theorem nd_map {α β : Type} (f : α → β) {l : List α} (h : l.Nodup) (hi : ∀ x ∈ l, ∀ y ∈ l, f x = f y → x = y) : (l.map f).Nodup := by
  refine List.pairwise_map.mpr ?_
  exact h.imp_of_mem fun ha hb hne e => hne (hi _ ha _ hb e)
theorem nd_of_map {α β : Type} (f : α → β) {l : List α} (h : (l.map f).Nodup) : l.Nodup := (List.pairwise_map.mp h).imp fun hne e => hne (congrArg f e)
theorem inj_of {α β : Type} {f : α → β} : ∀ {l : List α}, (l.map f).Nodup → ∀ x ∈ l, ∀ y ∈ l, f x = f y → x = y
  | [], _, _, hx, _, _, _ => absurd hx (by simp)
  | z :: r, h, x, hx, y, hy, e => by
    rw [List.map_cons, List.nodup_cons] at h
    rcases List.mem_cons.mp hx with e1 | h1 <;> rcases List.mem_cons.mp hy with e2 | h2
    · rw [e1, e2]
    · exact absurd (by rw [← e1, e]; exact List.mem_map_of_mem h2) h.1
    · exact absurd (by rw [← e2, ← e]; exact List.mem_map_of_mem h1) h.1
    · exact inj_of h.2 x h1 y h2 e
theorem fl_len {α : Type} (p : α → Bool) (l : List α) : l.length = (l.filter p).length + (l.filter fun x => !p x).length := by
  induction l with
  | nil => rfl
  | cons x r ih =>
    cases h : p x <;> simp [List.filter_cons, h] <;> omega
theorem compl_len {m : Nat} {A : List Nat} (hA : A.Nodup) (hl : ∀ r ∈ A, r < m) : ((List.range m).filter fun r => decide (r ∉ A)).length + A.length = m := by
  have h1 : ((List.range m).filter (fun r => decide (r ∉ A)) ++ A).Perm (List.range m) := by
    refine (List.perm_ext_iff_of_nodup ?_ List.nodup_range).mpr fun a => ?_
    · refine List.nodup_append.mpr ⟨List.nodup_range.sublist List.filter_sublist, hA, fun a ha b hb e => ?_⟩
      have := (List.mem_filter.mp ha).2
      simp at this; exact this (e ▸ hb)
    · simp only [List.mem_append, List.mem_filter, List.mem_range, decide_eq_true_eq]
      constructor
      · rintro (⟨h, _⟩ | h)
        · exact h
        · exact hl a h
      · intro h
        by_cases ha : a ∈ A
        · exact .inr ha
        · exact .inl ⟨h, ha⟩
  simpa using h1.length_eq

abbrev Prs := List (Nat × Nat)
/-- a matching of the pairs -/
structure Mat (ps M : Prs) : Prop where
  sub : ∀ p ∈ M, p ∈ ps
  r1 : (M.map (·.1)).Nodup
  l1 : (M.map (·.2)).Nodup
/-- C: receipts; N: all their lines -/
structure Cov (m : Nat) (ps : Prs) (C N : List Nat) : Prop where
  nd : C.Nodup
  lt : ∀ r ∈ C, r < m
  cov : ∀ p ∈ ps, p.1 ∈ C → p.2 ∈ N
section
variable {m : Nat} {ps M : Prs} {C N : List Nat}
theorem mat_cov (hM : Mat ps M) (hlt : ∀ p ∈ ps, p.1 < m) (hC : Cov m ps C N) :
    (((M.filter fun p => decide (p.1 ∈ C)).map (·.2)).Nodup ∧ (∀ l ∈ (M.filter fun p => decide (p.1 ∈ C)).map (·.2), l ∈ N)) ∧
    ((((M.filter fun p => !decide (p.1 ∈ C)).map (·.1)) ++ C).Nodup ∧ ∀ r ∈ ((M.filter fun p => !decide (p.1 ∈ C)).map (·.1)) ++ C, r ∈ List.range m) := by
  refine ⟨⟨hM.l1.sublist (List.filter_sublist.map _), ?_⟩, ?_, ?_⟩
  · intro l hl
    obtain ⟨p, hp, rfl⟩ := List.mem_map.mp hl
    have := List.mem_filter.mp hp
    exact hC.cov p (hM.sub p this.1) (by simpa using this.2)
  · refine List.nodup_append.mpr ⟨hM.r1.sublist (List.filter_sublist.map _), hC.nd, fun a ha b hb e => ?_⟩
    obtain ⟨p, hp, rfl⟩ := List.mem_map.mp ha
    have := (List.mem_filter.mp hp).2
    simp at this
    exact this (e ▸ hb)
  · intro r hr
    rw [List.mem_range]
    rcases List.mem_append.mp hr with hr | hr
    · obtain ⟨p, hp, rfl⟩ := List.mem_map.mp hr
      exact hlt p (hM.sub p (List.mem_filter.mp hp).1)
    · exact hC.lt r hr
theorem le_cov (hM : Mat ps M) (hlt : ∀ p ∈ ps, p.1 < m) (hC : Cov m ps C N) : M.length + C.length ≤ m + N.length := by
  obtain ⟨⟨h1, h2⟩, h3, h4⟩ := mat_cov hM hlt hC
  have a := h1.length_le_of_subset h2
  have b := h3.length_le_of_subset h4
  have c := fl_len (fun p : Nat × Nat => decide (p.1 ∈ C)) M
  simp at a b
  omega
theorem tight (hM : Mat ps M) (hlt : ∀ p ∈ ps, p.1 < m) (hC : Cov m ps C N) (he : M.length + C.length = m + N.length) :
    (∀ r, r < m → r ∉ M.map (·.1) → r ∈ C) ∧ ∀ r ∈ C, ∀ l, (r, l) ∈ ps → ∀ r', (r', l) ∈ M → r' ∈ C := by
  obtain ⟨⟨h1, h2⟩, h3, h4⟩ := mat_cov hM hlt hC
  have a := h1.length_le_of_subset h2
  have b := h3.length_le_of_subset h4
  have c := fl_len (fun p : Nat × Nat => decide (p.1 ∈ C)) M
  constructor
  · intro r hr hn
    have := sub_of_len h3 h4 (by simp at a b ⊢; omega) r (List.mem_range.mpr hr)
    rcases List.mem_append.mp this with h | h
    · obtain ⟨p, hp, rfl⟩ := List.mem_map.mp h
      exact absurd (List.mem_map_of_mem (List.mem_filter.mp hp).1) hn
    · exact h
  · intro r hr l hl r' hr'
    have hl' := hC.cov _ hl hr
    have := sub_of_len h1 h2 (by simp at a b ⊢; omega) l hl'
    obtain ⟨p, hp, e⟩ := List.mem_map.mp this
    have hp' := List.mem_filter.mp hp
    have := inj_of hM.l1 p hp'.1 (r', l) hr' e
    subst this
    simpa using hp'.2
end
/-- the greatest matchings have k pairs -/
structure Nu (m : Nat) (ps : Prs) (k : Nat) : Prop where
  ex : ∃ M, Mat ps M ∧ M.length = k
  ce : ∃ C N, Cov m ps C N ∧ k + C.length = m + N.length
theorem Nu.le {m k k' : Nat} {ps : Prs} (hlt : ∀ p ∈ ps, p.1 < m) (h : Nu m ps k) (h' : Nu m ps k') : k ≤ k' := by
  obtain ⟨M, hM, rfl⟩ := h.ex
  obtain ⟨C, N, hC, e⟩ := h'.ce
  have := le_cov hM hlt hC
  omega
theorem Nu.uniq {m k k' : Nat} {ps : Prs} (hlt : ∀ p ∈ ps, p.1 < m) (h : Nu m ps k) (h' : Nu m ps k') : k = k' :=
  Nat.le_antisymm (h.le hlt h') (h'.le hlt h)
theorem Nu_of {m : Nat} {ps M : Prs} (hM : Mat ps M) (hlt : ∀ p ∈ ps, p.1 < m) (V : Nat → Prop) (hx : ∀ p ∈ ps, p.1 ∉ M.map (·.1) → V p.2)
    (hv : ∀ l, V l → ∃ r, (r, l) ∈ M) (hc : ∀ q ∈ M, V q.2 → ∀ p ∈ ps, p.1 = q.1 → V p.2) : Nu m ps M.length := by
  classical
  refine ⟨⟨M, hM, rfl⟩, (List.range m).filter (fun r => decide (r ∉ M.map (·.1))) ++ (M.filter fun p => decide (V p.2)).map (·.1), (M.filter fun p => decide (V p.2)).map (·.2), ⟨?_, ?_, ?_⟩, ?_⟩
  · refine List.nodup_append.mpr ⟨List.nodup_range.sublist List.filter_sublist, hM.r1.sublist (List.filter_sublist.map _), fun a ha b hb e => ?_⟩
    have h1 := (List.mem_filter.mp ha).2
    obtain ⟨p, hp, rfl⟩ := List.mem_map.mp hb
    simp only [decide_eq_true_eq] at h1
    exact h1 (e ▸ List.mem_map_of_mem (List.mem_filter.mp hp).1)
  · intro r hr
    rcases List.mem_append.mp hr with h | h
    · exact List.mem_range.mp (List.mem_filter.mp h).1
    · obtain ⟨p, hp, rfl⟩ := List.mem_map.mp h
      exact hlt p (hM.sub p (List.mem_filter.mp hp).1)
  · intro p hp hr
    have hV : V p.2 := by
      rcases List.mem_append.mp hr with h | h
      · exact hx p hp (by simpa using (List.mem_filter.mp h).2)
      · obtain ⟨q, hq, e⟩ := List.mem_map.mp h
        exact hc q (List.mem_filter.mp hq).1 (by simpa using (List.mem_filter.mp hq).2) p hp e.symm
    obtain ⟨r, hr⟩ := hv _ hV
    exact List.mem_map.mpr ⟨(r, p.2), List.mem_filter.mpr ⟨hr, by simpa using hV⟩, rfl⟩
  · have := compl_len (m := m) hM.r1 (fun r hr => by
      obtain ⟨p, hp, rfl⟩ := List.mem_map.mp hr
      exact hlt p (hM.sub p hp))
    simp only [List.length_append, List.length_map] at this ⊢
    omega
/-- what is doubled for the least reason -/
structure Dbl (m : Nat) (ps : Prs) (R L : List Nat) : Prop where
  rs : R.Pairwise (· < ·)
  ls : L.Pairwise (· < ·)
  cov : Cov m ps R L
  nb : ∀ l ∈ L, ∃ r ∈ R, (r, l) ∈ ps
  k : ∃ k, Nu m ps k ∧ k + R.length = m + L.length
  least : ∀ k C N, Nu m ps k → Cov m ps C N → k + C.length = m + N.length → ∀ r ∈ R, r ∈ C
theorem srt_eq {A B : List Nat} (hA : A.Pairwise (· < ·)) (hB : B.Pairwise (· < ·)) (h : ∀ x, x ∈ A ↔ x ∈ B) : A = B := by
  have n : ∀ {l : List Nat}, l.Pairwise (· < ·) → l.Nodup := fun h => h.imp fun hab e => Nat.ne_of_lt hab e
  exact List.Perm.eq_of_pairwise (le := (· < ·)) (fun a b _ _ h1 h2 => absurd h1 (Nat.lt_asymm h2)) hA hB ((List.perm_ext_iff_of_nodup (n hA) (n hB)).mpr h)
theorem Dbl.uniq {m : Nat} {ps : Prs} {R L R' L' : List Nat} (hlt : ∀ p ∈ ps, p.1 < m) (h : Dbl m ps R L) (h' : Dbl m ps R' L') : R = R' ∧ L = L' := by
  obtain ⟨k, hk, e⟩ := h.k
  obtain ⟨k', hk', e'⟩ := h'.k
  have hR : R = R' := srt_eq h.rs h'.rs fun x => ⟨h.least k' R' L' hk' h'.cov e' x, h'.least k R L hk h.cov e x⟩
  subst hR
  refine ⟨rfl, srt_eq h.ls h'.ls fun l => ⟨fun hl => ?_, fun hl => ?_⟩⟩
  · obtain ⟨r, hr, hp⟩ := h.nb l hl
    exact h'.cov.cov _ hp hr
  · obtain ⟨r, hr, hp⟩ := h'.nb l hl
    exact h.cov.cov _ hp hr
/-- a receipt is in it if and only if one can do without it -/
theorem Dbl.iff {m k : Nat} {ps : Prs} {R L : List Nat} (hlt : ∀ p ∈ ps, p.1 < m) (h : Dbl m ps R L) (hk : Nu m ps k) {r : Nat} (hr : r < m) {k' : Nat} (hk' : Nu m (ps.filter fun p => decide (p.1 ≠ r)) k') : r ∈ R ↔ k' = k := by
  obtain ⟨k0, hk0, e⟩ := h.k
  have := hk0.uniq hlt hk
  subst this
  have hlt' : ∀ p ∈ ps.filter (fun p => decide (p.1 ≠ r)), p.1 < m := fun p hp => hlt p (List.mem_filter.mp hp).1
  have nin : r ∉ R → k' < k0 := by
    intro hn
    obtain ⟨M, hM, rfl⟩ := hk'.ex
    have hC : Cov m (ps.filter fun p => decide (p.1 ≠ r)) (r :: R) L := by
      refine ⟨List.nodup_cons.mpr ⟨hn, h.cov.nd⟩, ?_, ?_⟩
      · intro x hx
        rcases List.mem_cons.mp hx with rfl | hx
        · exact hr
        · exact h.cov.lt x hx
      · intro p hp hx
        have h1 := List.mem_filter.mp hp
        rcases List.mem_cons.mp hx with e | hx
        · exact absurd e (by simpa using h1.2)
        · exact h.cov.cov p h1.1 hx
    have := le_cov hM hlt' hC
    simp at this
    omega
  refine ⟨fun hR => ?_, fun e' => Classical.byContradiction fun hn => by have := nin hn; omega⟩
  obtain ⟨C, N, hC, e'⟩ := hk'.ce
  obtain ⟨M', hM', e2⟩ := hk'.ex
  -- the receipt that stands alone is in each certificate
  have hrC : r ∈ C := by
    refine Classical.byContradiction fun hn => ?_
    have hC1 : Cov m (ps.filter fun p => decide (p.1 ≠ r)) (r :: C) N := by
      refine ⟨List.nodup_cons.mpr ⟨hn, hC.nd⟩, ?_, ?_⟩
      · intro x hx
        rcases List.mem_cons.mp hx with rfl | hx
        · exact hr
        · exact hC.lt x hx
      · intro p hp hx
        have h1 := List.mem_filter.mp hp
        rcases List.mem_cons.mp hx with e | hx
        · exact absurd e (by simpa using h1.2)
        · exact hC.cov p hp hx
    have := le_cov hM' hlt' hC1
    simp at this
    omega
  have hT : Cov m ps (C.erase r) N := by
    refine ⟨hC.nd.erase r, fun x hx => hC.lt x (List.mem_of_mem_erase hx), fun p hp hx => ?_⟩
    have h1 := (List.Nodup.mem_erase_iff hC.nd).mp hx
    exact hC.cov p (List.mem_filter.mpr ⟨hp, by simpa using h1.1⟩) h1.2
  have hlen := List.length_erase_of_mem hrC
  have hpos := List.length_pos_of_mem hrC
  obtain ⟨M, hM, e3⟩ := hk0.ex
  have hb := le_cov hM hlt hT
  -- and never more than with it
  have hle : k' ≤ k0 := by
    have hM2 : Mat ps M' := ⟨fun p hp => (List.mem_filter.mp (hM'.sub p hp)).1, hM'.r1, hM'.l1⟩
    obtain ⟨C0, N0, hC0, e0⟩ := hk0.ce
    have := le_cov hM2 hlt hC0
    omega
  refine Classical.byContradiction fun hne => ?_
  have := h.least k0 (C.erase r) N hk0 hT (by omega) r hR
  exact ((List.Nodup.mem_erase_iff hC.nd).mp this).1 rfl

/-! ### dicts of numbers -/
def np (T : Prs) (k v : Nat) : Prs := if T.any (fun p => p.1 == k) then T.map fun p => if p.1 == k then (p.1, v) else p else T ++ [(k, v)]
theorem any_key {T : Prs} {k : Nat} : T.any (fun p => p.1 == k) = true ↔ k ∈ T.map (·.1) := by
  simp only [List.any_eq_true, List.mem_map, beq_iff_eq]
theorem np_in {T : Prs} {k v : Nat} (h : k ∈ T.map (·.1)) : np T k v = T.map fun p => if p.1 == k then (p.1, v) else p := if_pos (any_key.mpr h)
theorem np_out {T : Prs} {k v : Nat} (h : k ∉ T.map (·.1)) : np T k v = T ++ [(k, v)] := if_neg fun e => h (any_key.mp e)
theorem np_keys {T : Prs} {k v : Nat} (h : k ∈ T.map (·.1)) : (np T k v).map (·.1) = T.map (·.1) := by
  rw [np_in h, List.map_map]
  refine List.map_congr_left fun p _ => ?_
  simp only [Function.comp]
  split <;> rfl
theorem np_nd {T : Prs} {k v : Nat} (h : (T.map (·.1)).Nodup) : ((np T k v).map (·.1)).Nodup := by
  by_cases hk : k ∈ T.map (·.1)
  · rw [np_keys hk]; exact h
  · rw [np_out hk, List.map_append]
    refine List.nodup_append.mpr ⟨h, by simp, fun a ha b hb e => ?_⟩
    simp at hb; subst hb; exact hk (e ▸ ha)
theorem mem_np {T : Prs} {k v : Nat} (h : (T.map (·.1)).Nodup) {j w : Nat} : (j, w) ∈ np T k v ↔ (j = k ∧ w = v) ∨ (j ≠ k ∧ (j, w) ∈ T) := by
  by_cases hk : k ∈ T.map (·.1)
  · rw [np_in hk]
    constructor
    · intro hm
      obtain ⟨p, hp, e⟩ := List.mem_map.mp hm
      split at e
      · next hpk =>
        have hpk : p.1 = k := by simpa using hpk
        simp at e; exact .inl ⟨by omega, e.2.symm⟩
      · next hpk =>
        subst e; exact .inr ⟨by simpa using hpk, hp⟩
    · rintro (⟨rfl, rfl⟩ | ⟨hn, hm⟩)
      · obtain ⟨p, hp, rfl⟩ := List.mem_map.mp hk
        exact List.mem_map.mpr ⟨p, hp, by simp⟩
      · exact List.mem_map.mpr ⟨_, hm, by simp [hn]⟩
  · rw [np_out hk, List.mem_append, List.mem_singleton]
    constructor
    · rintro (hm | e)
      · exact .inr ⟨fun e => hk (e ▸ List.mem_map_of_mem (f := (·.1)) hm), hm⟩
      · simp at e; exact .inl e
    · rintro (⟨rfl, rfl⟩ | ⟨hn, hm⟩)
      · exact .inr rfl
      · exact .inl hm
theorem np_len_in {T : Prs} {k v : Nat} (h : k ∈ T.map (·.1)) : (np T k v).length = T.length := by rw [np_in h, List.length_map]
theorem np_len_out {T : Prs} {k v : Nat} (h : k ∉ T.map (·.1)) : (np T k v).length = T.length + 1 := by rw [np_out h]; simp
theorem key_np {T : Prs} {k v j : Nat} : j ∈ (np T k v).map (·.1) ↔ j = k ∨ j ∈ T.map (·.1) := by
  by_cases hk : k ∈ T.map (·.1)
  · rw [np_keys hk]
    constructor
    · exact .inr
    · rintro (rfl | h)
      · exact hk
      · exact h
  · rw [np_out hk]; simp [or_comm]
theorem key_mem {T : Prs} {k : Nat} : k ∈ T.map (·.1) ↔ ∃ v, (k, v) ∈ T := by
  simp only [List.mem_map]
  constructor
  · rintro ⟨p, hp, rfl⟩; exact ⟨p.2, hp⟩
  · rintro ⟨v, hv⟩; exact ⟨_, hv, rfl⟩
theorem key_fun {T : Prs} (h : (T.map (·.1)).Nodup) {k v w : Nat} (h1 : (k, v) ∈ T) (h2 : (k, w) ∈ T) : v = w := by
  have := inj_of h _ h1 _ h2 rfl
  exact congrArg (·.2) this

/-! ### pairs that face each other -/
/-- H: receipt to line, T: line to receipt -/
structure Inv (ps H T : Prs) : Prop where
  hn : (H.map (·.1)).Nodup
  tn : (T.map (·.1)).Nodup
  iff : ∀ r l, (r, l) ∈ H ↔ (l, r) ∈ T
  sub : ∀ p ∈ H, p ∈ ps
theorem Inv.mat {ps H T : Prs} (h : Inv ps H T) : Mat ps H := by
  refine ⟨h.sub, h.hn, nd_map _ (nd_of_map _ h.hn) ?_⟩
  rintro ⟨r, l⟩ hx ⟨r', l'⟩ hy (e : l = l')
  subst e
  have := key_fun h.tn ((h.iff _ _).mp hx) ((h.iff _ _).mp hy)
  rw [this]
/-- the way on which each was found; the newest first -/
def Way (H : Prs) : Prs → Prop
  | [] => True
  | p :: c => (∀ l', (p.2, l') ∈ H → l' ∈ c.map (·.1)) ∧ Way H c
/-- facing each other but at l, which no receipt holds -/
structure Off (ps H T : Prs) (l : Nat) : Prop where
  hn : (H.map (·.1)).Nodup
  tn : (T.map (·.1)).Nodup
  iff : ∀ r l1, l1 ≠ l → ((r, l1) ∈ H ↔ (l1, r) ∈ T)
  free : ∀ r, (r, l) ∉ H
  sub : ∀ p ∈ H, p ∈ ps
theorem Off.last {ps H T : Prs} {l r : Nat} (h : Off ps H T l) (hr : r ∉ H.map (·.1)) (hp : (r, l) ∈ ps) : Inv ps (np H r l) (np T l r) := by
  refine ⟨np_nd h.hn, np_nd h.tn, ?_, ?_⟩
  · intro r1 l1
    rw [mem_np h.hn, mem_np h.tn]
    constructor
    · rintro (⟨rfl, rfl⟩ | ⟨hn, hm⟩)
      · exact .inl ⟨rfl, rfl⟩
      · have hl : l1 ≠ l := fun e => h.free r1 (e ▸ hm)
        exact .inr ⟨hl, (h.iff _ _ hl).mp hm⟩
    · rintro (⟨rfl, rfl⟩ | ⟨hl, hm⟩)
      · exact .inl ⟨rfl, rfl⟩
      · have := (h.iff _ _ hl).mpr hm
        exact .inr ⟨fun e => hr (e ▸ List.mem_map_of_mem (f := (·.1)) this), this⟩
  · rintro ⟨r1, l1⟩ hm
    rcases (mem_np h.hn).mp hm with ⟨rfl, rfl⟩ | ⟨_, hm⟩
    · exact hp
    · exact h.sub _ hm
theorem Off.step {ps H T : Prs} {l r l' : Nat} (h : Off ps H T l) (hr : (r, l') ∈ H) (hp : (r, l) ∈ ps) : Off ps (np H r l) (np T l r) l' := by
  have hll : l' ≠ l := fun e => h.free r (e ▸ hr)
  refine ⟨np_nd h.hn, np_nd h.tn, ?_, ?_, ?_⟩
  · intro r1 l1 hl1
    rw [mem_np h.hn, mem_np h.tn]
    constructor
    · rintro (⟨rfl, rfl⟩ | ⟨hn, hm⟩)
      · exact .inl ⟨rfl, rfl⟩
      · have hl : l1 ≠ l := fun e => h.free r1 (e ▸ hm)
        exact .inr ⟨hl, (h.iff _ _ hl).mp hm⟩
    · rintro (⟨rfl, rfl⟩ | ⟨hl, hm⟩)
      · exact .inl ⟨rfl, rfl⟩
      · have := (h.iff _ _ hl).mpr hm
        refine .inr ⟨fun e => hl1 ?_, this⟩
        subst e
        exact key_fun h.hn this hr
  · intro r1 hm
    rcases (mem_np h.hn).mp hm with ⟨rfl, rfl⟩ | ⟨hn, hm⟩
    · exact hll rfl
    · exact hn (key_fun h.tn ((h.iff _ _ hll).mp hm) ((h.iff _ _ hll).mp hr))
  · rintro ⟨r1, l1⟩ hm
    rcases (mem_np h.hn).mp hm with ⟨rfl, rfl⟩ | ⟨_, hm⟩
    · exact hp
    · exact h.sub _ hm
/-- the way behind l' when r, found after it, holds another line -/
theorem Way.cut {H : Prs} {c : Prs} (h : Way H c) (hn : (c.map (·.1)).Nodup) {l' : Nat} (hl : l' ∈ c.map (·.1)) : ∃ r' c1, ∃ c0, c = c0 ++ (l', r') :: c1 ∧ Way H ((l', r') :: c1) := by
  induction c with
  | nil => simp at hl
  | cons p c ih =>
    by_cases e : p.1 = l'
    · subst e; exact ⟨p.2, c, [], rfl, h⟩
    · have : l' ∈ c.map (·.1) := by
        rcases List.mem_map.mp hl with ⟨q, hq, e'⟩
        rcases List.mem_cons.mp hq with rfl | hq
        · exact absurd e' e
        · exact e' ▸ List.mem_map_of_mem hq
      obtain ⟨r', c1, c0, rfl, hw⟩ := ih h.2 (List.nodup_cons.mp hn).2 this
      exact ⟨r', c1, p :: c0, rfl, hw⟩
theorem Way.put {H : Prs} {r l l' : Nat} (hH : (H.map (·.1)).Nodup) (hr : (r, l') ∈ H) : ∀ {c : Prs}, Way H c → l' ∉ c.map (·.1) → Way (np H r l) c
  | [], _, _ => trivial
  | p :: c, h, hn => by
    have hn' : l' ∉ c.map (·.1) := fun e => hn (by simp at e ⊢; exact .inr e)
    refine ⟨fun y hy => ?_, Way.put hH hr h.2 hn'⟩
    rcases (mem_np hH).mp hy with ⟨e, _⟩ | ⟨_, hm⟩
    · exact absurd (h.1 l' (e ▸ hr)) hn'
    · exact h.1 y hm
end Mt
end Dl
set_option linter.all false
/-! Nm: numbers, lists and dicts of numbers, as D. Light. -/
namespace Dl
open Mt
def nl (ns : List Nat) : List D := ns.map fun (n : Nat) => D.int n
def nd (T : Prs) : List (D × D) := T.map fun p => (.int p.1, .int p.2)
def pD (p : Nat × Nat) : D := .tup [.int p.1, .int p.2]
theorem nl_len {ns : List Nat} : (nl ns).length = ns.length := by simp [nl]
theorem fits_nl {n : Nat} {ns : List Nat} : (nl ns).all (D.fits n) = true := by
  simp only [List.all_eq_true, nl, List.mem_map]
  rintro x ⟨k, _, rfl⟩
  cases n <;> rfl
theorem fits_lnl {n : Nat} {ns : List Nat} : D.fits (n + 1) (.lst (nl ns)) = true := fits_nl
theorem any_nl {ns : List Nat} {k : Nat} : ((nl ns).any fun z => D.eqv z (.int k)) = decide (k ∈ ns) := by
  induction ns with
  | nil => rfl
  | cons x r ih =>
    rw [nl, List.map_cons, List.any_cons, ← nl, ih]
    simp only [D.eqv]
    by_cases h : x = k
    · simp [h]
    · have : ((x : Int) == (k : Int)) = false := by simp; omega
      simp [this, Ne.symm h]
theorem in_seq {S : Store} {d : D} {ns : List Nat} {k : Nat} (h : seqOf S d = some (nl ns)) : inD S (.int k) d = some (decide (k ∈ ns)) := by
  unfold inD; rw [h]; dsimp only
  rw [fits_nl, any_nl]; rfl
theorem oIn_seq {S : Store} {d : D} {ns : List Nat} {k : Nat} (h : seqOf S d = some (nl ns)) : oIn S (.int k) d = some (.bl (decide (k ∈ ns))) := by
  unfold oIn; rw [in_seq h]; rfl
theorem oNotIn_seq {S : Store} {d : D} {ns : List Nat} {k : Nat} (h : seqOf S d = some (nl ns)) : oNotIn S (.int k) d = some (.bl (decide (k ∉ ns))) := by
  unfold oNotIn; rw [in_seq h]; simp
theorem dget_nd_none {T : Prs} {k : Nat} (h : k ∉ T.map (·.1)) : dget (nd T) (.int k) = none := by
  unfold dget nd
  rw [Option.map_eq_none_iff, List.find?_eq_none]
  intro p hp
  obtain ⟨q, hq, rfl⟩ := List.mem_map.mp hp
  simp only [D.eqv, beq_iff_eq]
  exact fun e => h (by
    have : q.1 = k := by omega
    exact this ▸ List.mem_map_of_mem hq)
theorem dget_nd {T : Prs} (hn : (T.map (·.1)).Nodup) {k v : Nat} (h : (k, v) ∈ T) : dget (nd T) (.int k) = some (.int v) := by
  unfold dget nd
  induction T with
  | nil => cases h
  | cons p r ih =>
    rw [List.map_cons, List.find?_cons]
    by_cases e : p.1 = k
    · have : p.2 = v := key_fun hn (k := k) (e ▸ List.mem_cons_self) h
      simp [D.eqv, e, this]
    · have : (k, v) ∈ r := by
        rcases List.mem_cons.mp h with e' | h
        · exact absurd (by rw [← e']) e
        · exact h
      have h1 : (D.eqv (.int p.1) (.int k)) = false := by simp [D.eqv]; omega
      simp only [h1]
      exact ih (List.nodup_cons.mp hn).2 this
theorem dput_nd {T : Prs} {k v : Nat} : dput (nd T) (.int k) (.int v) = nd (np T k v) := by
  unfold dput np
  have h1 : ∀ p : Nat × Nat, D.eqv (.int p.1) (.int k) = (p.1 == k) := fun p => by
    by_cases h : p.1 = k
    · simp [D.eqv, h]
    · have : ((p.1 : Int) == (k : Int)) = false := by simp; omega
      simp [D.eqv, h, this]
  have h2 : ((nd T).any fun p => D.eqv p.1 (.int k)) = T.any fun p => p.1 == k := by
    unfold nd; rw [List.any_map]; congr 1; funext p; exact h1 p
  rw [h2]
  split
  · unfold nd
    rw [List.map_map, List.map_map]
    refine List.map_congr_left fun p _ => ?_
    simp only [Function.comp, h1]
    split <;> rfl
  · simp [nd]
theorem seqOf_dK {S : Store} {a : Nat} {kvs : List (D × D)} (h : S a = some (.dK kvs)) : seqOf S (.ref a) = none := by simp [seqOf, h]
theorem dictOf_dK {S : Store} {a : Nat} {kvs : List (D × D)} (h : S a = some (.dK kvs)) {k : Int} : dictOf S (.ref a) (.int k) = some kvs := by simp [dictOf, h, isKey]
theorem in_dK {S : Store} {a k : Nat} {T : Prs} (h : S a = some (.dK (nd T))) : inD S (.int k) (.ref a) = some (decide (k ∈ T.map (·.1))) := by
  unfold inD
  rw [seqOf_dK h, dictOf_dK h]
  by_cases hk : k ∈ T.map (·.1)
  · have : (dget (nd T) (.int k)).isSome = true := by
      obtain ⟨v, hv⟩ := key_mem.mp hk
      cases hd : dget (nd T) (.int k) with
      | some x => rfl
      | none =>
        unfold dget at hd
        rw [Option.map_eq_none_iff, List.find?_eq_none] at hd
        exact absurd (by simp [D.eqv]) (hd (.int k, .int v) (List.mem_map.mpr ⟨_, hv, rfl⟩))
    simp only [Option.map_some, this, hk, decide_true]
  · simp only [Option.map_some, dget_nd_none hk, hk, decide_false]; rfl
theorem oIn_dK {S : Store} {a k : Nat} {T : Prs} (h : S a = some (.dK (nd T))) : oIn S (.int k) (.ref a) = some (.bl (decide (k ∈ T.map (·.1)))) := by
  unfold oIn; rw [in_dK h]; rfl
theorem oNotIn_dK {S : Store} {a k : Nat} {T : Prs} (h : S a = some (.dK (nd T))) : oNotIn S (.int k) (.ref a) = some (.bl (decide (k ∉ T.map (·.1)))) := by
  unfold oNotIn; rw [in_dK h]; simp
theorem oIx_dK {S : Store} {a : Nat} {T : Prs} (h : S a = some (.dK (nd T))) (hn : (T.map (·.1)).Nodup) {k v : Nat} (hm : (k, v) ∈ T) : oIx S (.ref a) (.int k) = some (.int v) := by
  unfold oIx; rw [seqOf_dK h, dictOf_dK h]
  simp only [Option.bind_some]; exact dget_nd hn hm
theorem put_dK {S : Store} {a : Nat} {T : Prs} (h : S a = some (.dK (nd T))) (hl : T.length < 16777216) {k v : Nat} {Q : Store → Prop} (q : Q (set S a (.dK (nd (np T k v))))) : putIx S (.ref a) (.int k) (.int v) Q := by
  refine ⟨a, rfl, ?_⟩
  rw [h]; dsimp only
  refine ⟨rfl, by simpa [nd, szl] using hl, ?_⟩
  rw [dput_nd]; exact q
theorem isDct_dK {S : Store} {a : Nat} {kvs : List (D × D)} (h : S a = some (.dK kvs)) : isDct S (.ref a) a := ⟨rfl, .inl ⟨_, h⟩⟩
theorem ix_nl {ns : List Nat} {i : Nat} (h : i < ns.length) : ixD (nl ns) (i : Int) = some (.int ns[i]) := by
  rw [ixD_nat]; simp [nl, h]
theorem ix_map {α : Type} {f : α → D} {ns : List α} {i : Nat} (h : i < ns.length) : ixD (ns.map f) (i : Int) = some (f ns[i]) := by
  rw [ixD_nat]; simp [h]
theorem range_nl {n : Nat} : ((List.range (n : Int).toNat).map fun (i : Nat) => D.int i) = nl (List.range n) := by simp [nl]

/-! ### rows of lines -/
def row (ps : Prs) (r : Nat) : List Nat := (ps.filter fun p => p.1 == r).map (·.2)
def nearD (m : Nat) (ps : Prs) : D := .lst ((List.range m).map fun r => .lst (nl (row ps r)))
theorem mem_row {ps : Prs} {r l : Nat} : l ∈ row ps r ↔ (r, l) ∈ ps := by
  unfold row
  simp only [List.mem_map, List.mem_filter, beq_iff_eq]
  constructor
  · rintro ⟨p, ⟨hp, rfl⟩, rfl⟩; exact hp
  · intro h; exact ⟨_, ⟨h, rfl⟩, rfl⟩
theorem near_ix {S : Store} {m r : Nat} {ps : Prs} (h : r < m) : oIx S (nearD m ps) (.int r) = some (.lst (nl (row ps r))) := by
  unfold nearD; rw [oIx_lst0, ix_map (by simpa using h)]; simp
theorem near_len {S : Store} {m : Nat} {ps : Prs} : oLen S (nearD m ps) = some (.int m) := by simp [nearD]
theorem row_app {ps : Prs} {r l i : Nat} : row (ps ++ [(r, l)]) i = if i = r then row ps i ++ [l] else row ps i := by
  unfold row
  rw [List.filter_append, List.map_append]
  by_cases h : i = r
  · simp [h]
  · have : (r == i) = false := by simpa using Ne.symm h
    simp [h, this]
theorem nd_inj {l : List Nat} (h : l.Nodup) {i j : Nat} (hi : i < l.length) (hj : j < l.length) (e : l[i] = l[j]) : i = j := by
  have hp := List.pairwise_iff_getElem.mp h
  rcases Nat.lt_trichotomy i j with h1 | h1 | h1
  · exact absurd e (hp i j hi hj h1)
  · exact h1
  · exact absurd e.symm (hp j i hj hi h1)
/-- the rows while they are made -/
structure Bk (S : Store) (m a0 : Nat) (bs : List Nat) (done : Prs) (S3 : Store) : Prop where
  na : S a0 = none
  hb : ∀ b ∈ bs, S b = none
  hd : bs.Nodup
  hl : bs.length = m
  at0 : S3 a0 = some (.lst (bs.map D.ref))
  at1 : ∀ (i : Nat) (h : i < bs.length), S3 bs[i] = some (.lst (nl (row done i)))
  fr : ∀ c, c ≠ a0 → c ∉ bs → S3 c = S c
theorem Bk.ne {S S3 : Store} {m a0 : Nat} {bs : List Nat} {done : Prs} (h : Bk S m a0 bs done S3) : a0 ∉ bs := by
  intro hm
  obtain ⟨i, hi, e⟩ := List.mem_iff_getElem.mp hm
  have h1 := h.at1 i hi
  rw [e, h.at0] at h1
  have h2 : bs.map D.ref = nl (row done i) := by simpa using h1
  have : D.ref bs[i] ∈ nl (row done i) := h2 ▸ List.mem_map_of_mem (List.getElem_mem hi)
  obtain ⟨k, _, e⟩ := List.mem_map.mp this
  cases e
theorem Bk.ix {S S3 : Store} {m a0 : Nat} {bs : List Nat} {done : Prs} (h : Bk S m a0 bs done S3) {r : Nat} (hr : r < m) : oIx S3 (.ref a0) (.int r) = some (.ref (bs[r]'(h.hl ▸ hr))) := by
  unfold oIx; rw [seqOf_ref h.at0]; dsimp only
  rw [ix_map (by rw [h.hl]; exact hr)]
theorem Bk.app {S S3 : Store} {m a0 : Nat} {bs : List Nat} {done : Prs} (h : Bk S m a0 bs done S3) {r l : Nat} (hr : r < m) :
    Bk S m a0 bs (done ++ [(r, l)]) (set S3 (bs[r]'(h.hl ▸ hr)) (.lst (nl (row done r) ++ [.int l]))) := by
  have hr' : r < bs.length := h.hl ▸ hr
  refine ⟨h.na, h.hb, h.hd, h.hl, ?_, fun i hi => ?_, fun c h1 h2 => ?_⟩
  · have hne : a0 ≠ bs[r] := fun e => h.ne (by rw [e]; exact List.getElem_mem hr')
    rw [set_ne hne]; exact h.at0
  · rw [row_app]
    by_cases e : i = r
    · subst e; rw [set_same]; simp [nl]
    · have hne : bs[i] ≠ bs[r] := fun e' => e (nd_inj h.hd hi hr' e')
      rw [set_ne hne, if_neg e]; exact h.at1 i hi
  · have hne : c ≠ bs[r] := fun e => h2 (by rw [e]; exact List.getElem_mem hr')
    rw [set_ne hne]; exact h.fr c h1 h2
theorem Bk.fz {S S3 : Store} {m a0 : Nat} {bs : List Nat} {ps : Prs} (h : Bk S m a0 bs ps S3) {Q : Q1} (q : Q (nearD m ps) S) : Fz Q (.ref a0) S3 := by
  refine ⟨nearD m ps, S, fun c => ?_, .frz h.at0 h.na ?_, q⟩
  · by_cases h1 : c = a0
    · subst h1; exact .inr h.na
    · by_cases h2 : c ∈ bs
      · exact .inr (h.hb c h2)
      · exact .inl (h.fr c h1 h2).symm
  · refine fzs_of (by simp [h.hl]) fun i h1 h2 => ?_
    have hi : i < bs.length := by simpa using h1
    simp only [List.getElem_map, List.getElem_range]
    exact .frz (h.at1 i hi) (h.hb _ (List.getElem_mem hi)) (fzs_rfl _)
/-- the empty rows -/
theorem rows_comp {S : Store} {chk : Store → Prop} {s : Sg} {v m : Nat} {Q : List D → Store → Prop} (hc : ∀ S', chk S') 
    (q : ∀ bs S1, (∀ a0, S1 a0 = none → Bk S m a0 bs [] (set S1 a0 (.lst (bs.map D.ref)))) → Q (bs.map D.ref) S1) : comp chk (gName v) tYes (thw (wlDisp wNil)) s (nl (List.range m)) [] S Q := by
  refine comp_ind (P := fun its acc S1 => ∃ bs : List Nat, acc = bs.map D.ref ∧ bs.Nodup ∧ (∀ b ∈ bs, S b = none ∧ S1 b = some (.lst [])) ∧ (∀ c, c ∉ bs → S1 c = S c) ∧ bs.length + its.length = m) ?_ ?_ _ _ _ ⟨[], rfl, .nil, by simp, fun c _ => rfl, by simp [nl]⟩
  · rintro acc S1 ⟨bs, rfl, hd, hb, hf, hl⟩
    refine ⟨hc _, q bs S1 fun a0 ha0 => ?_⟩
    have hna : a0 ∉ bs := fun h => by rw [(hb a0 h).2] at ha0; cases ha0
    refine ⟨(hf a0 hna) ▸ ha0, fun b h => (hb b h).1, hd, by simpa using hl, set_same, fun i hi => ?_, fun c h1 h2 => ?_⟩
    · have hne : bs[i] ≠ a0 := fun e => hna (by rw [← e]; exact List.getElem_mem hi)
      rw [set_ne hne]; exact (hb _ (List.getElem_mem hi)).2
    · rw [set_ne h1]; exact hf c h2
  · rintro x r acc S1 K1 K2 ⟨bs, rfl, hd, hb, hf, hl⟩ h1 -
    refine ⟨hc _, ?_⟩
    simp
    intro a ha
    have hna : a ∉ bs := fun h => by rw [(hb a h).2] at ha; cases ha
    refine h1 _ _ ⟨bs ++ [a], by simp, List.nodup_append.mpr ⟨hd, by simp, fun x hx y hy e => ?_⟩, fun b h => ?_, fun c h => ?_, by simp at hl ⊢; omega⟩
    · simp at hy; subst hy; exact hna (e ▸ hx)
    · rcases List.mem_append.mp h with h | h
      · have : b ≠ a := fun e => hna (e ▸ h)
        rw [set_ne this]; exact hb b h
      · simp at h; subst h; exact ⟨(hf b hna) ▸ ha, set_same⟩
    · have h1 : c ≠ a := fun e => h (by simp [e])
      rw [set_ne h1]; exact hf c fun e => h (by simp [e])
end Dl
set_option linter.all false
/-! Lc: the draws of the laws, small judges. Light. -/
namespace Dl
namespace Cm

def TM : Nat := 1099511627776
/-- the source of draws -/
def stL (g : Nat) (cs : List Int) (l u : Int) : List (D × D) := [(.str "great", .ref g), (.str "cells", .lst (cs.map D.int)), (.str "left", .int l), (.str "turn", .int u)]
structure StD (S : Store) (a g t : Nat) : Prop where
  ex : ∃ (gs cs : List Int) (l : Int) (u : Nat), S a = some (.dK (stL g cs l u)) ∧ S g = some (.lst (gs.map D.int)) ∧ u ≤ t
theorem StD.ne {S : Store} {a g t : Nat} (h : StD S a g t) : a ≠ g := by
  obtain ⟨gs, cs, l, u, h1, h2, _⟩ := h.ex
  intro e; subst e; rw [h1] at h2; cases h2
theorem StD.mono {S : Store} {a g t t' : Nat} (h : StD S a g t) (ht : t ≤ t') : StD S a g t' := by
  obtain ⟨gs, cs, l, u, h1, h2, h3⟩ := h.ex
  exact ⟨gs, cs, l, u, h1, h2, by omega⟩
theorem StD.at {S S' : Store} {a g t : Nat} (h : StD S a g t) (h1 : S' a = S a) (h2 : S' g = S g) : StD S' a g t := by
  obtain ⟨gs, cs, l, u, e1, e2, h3⟩ := h.ex
  exact ⟨gs, cs, l, u, by rw [h1]; exact e1, by rw [h2]; exact e2, h3⟩
theorem StD.some_a {S : Store} {a g t : Nat} (h : StD S a g t) : S a ≠ none := by
  obtain ⟨gs, cs, l, u, e1, e2, h3⟩ := h.ex
  rw [e1]; exact Option.some_ne_none _
theorem StD.some_g {S : Store} {a g t : Nat} (h : StD S a g t) : S g ≠ none := by
  obtain ⟨gs, cs, l, u, e1, e2, h3⟩ := h.ex
  rw [e2]; exact Option.some_ne_none _
/-- nothing but the source is changed -/
def Drw (a g : Nat) (S S' : Store) : Prop := ∀ b, b ≠ a → b ≠ g → S' b = S b
theorem Drw.refl {a g : Nat} {S : Store} : Drw a g S S := fun _ _ _ => rfl
theorem Drw.trans {a g : Nat} {S S1 S2 : Store} (h1 : Drw a g S S1) (h2 : Drw a g S1 S2) : Drw a g S S2 := fun b ha hg => (h2 b ha hg).trans (h1 b ha hg)

theorem stL_turn {g : Nat} {cs : List Int} {l u v : Int} : dput (stL g cs l u) (.str "turn") (.int v) = stL g cs l v := by simp [dput, stL, D.eqv]
theorem stL_left {g : Nat} {cs : List Int} {l u v : Int} : dput (stL g cs l u) (.str "left") (.int v) = stL g cs v u := by simp [dput, stL, D.eqv]
theorem get_turn {S : Store} {a g : Nat} {cs : List Int} {l u : Int} (h : S a = some (.dK (stL g cs l u))) : oIx S (.ref a) (.str "turn") = some (.int u) := by simp [oIx, seqOf, h, dictOf, isKey, dget, stL, D.eqv]
theorem get_left {S : Store} {a g : Nat} {cs : List Int} {l u : Int} (h : S a = some (.dK (stL g cs l u))) : oIx S (.ref a) (.str "left") = some (.int l) := by simp [oIx, seqOf, h, dictOf, isKey, dget, stL, D.eqv]
theorem get_cells {S : Store} {a g : Nat} {cs : List Int} {l u : Int} (h : S a = some (.dK (stL g cs l u))) : oIx S (.ref a) (.str "cells") = some (.lst (cs.map D.int)) := by simp [oIx, seqOf, h, dictOf, isKey, dget, stL, D.eqv]
theorem get_great {S : Store} {a g : Nat} {cs : List Int} {l u : Int} (h : S a = some (.dK (stL g cs l u))) : oIx S (.ref a) (.str "great") = some (.ref g) := by simp [oIx, seqOf, h, dictOf, isKey, dget, stL, D.eqv]
theorem put_turn {S : Store} {a g : Nat} {cs : List Int} {l u v : Int} {Q : Store → Prop} (h : S a = some (.dK (stL g cs l u))) (q : Q (set S a (.dK (stL g cs l v)))) : putIx S (.ref a) (.str "turn") (.int v) Q := by
  refine ⟨a, rfl, ?_⟩
  rw [h]
  refine ⟨rfl, by simp [stL, szl], ?_⟩
  rw [stL_turn]; exact q
theorem put_left {S : Store} {a g : Nat} {cs : List Int} {l u v : Int} {Q : Store → Prop} (h : S a = some (.dK (stL g cs l u))) (q : Q (set S a (.dK (stL g cs v u)))) : putIx S (.ref a) (.str "left") (.int v) Q := by
  refine ⟨a, rfl, ?_⟩
  rw [h]
  refine ⟨rfl, by simp [stL, szl], ?_⟩
  rw [stL_left]; exact q

/-! ### _law_blended -/
def sp_L_blended : DSp := fun ds S Q _ => ∃ a g t, ds = [.ref a] ∧ StD S a g t ∧ t < TM ∧ ∀ k S', StD S' a g (t + 1) → (∀ b, b ≠ a → S' b = S b) → Q (.int k) S'
def w_L_blended : WS :=
  (sSeq (sPar [1, 2] (wCons (w2 oAdd (w2 oIx (wVar 0) (wC (.str "turn"))) (wC (.int 1))) (wCons (wC (.int 0)) wNil)))
  (sSeq (sAsg (wVar 1) (gIx (wVar 0) (wC (.str "turn"))))
  (sSeq (sFor (wiSeq (frz (wlDisp (wCons (wC (.int 2147482937)) (wCons (wC (.int 2147482921)) (wCons (wC (.int 2147482877)) wNil)))))) (gName 3) (sSeq (sAsg (w2 oAdd (w2 oMul (wC (.int 40014)) (wVar 1)) (w2 oFdiv (wVar 3) (wC (.int 79)))) (gName 4))
  (sSeq (sFor (wiSeq (w2 oIx (wVar 0) (wC (.str "cells")))) (gName 5) (sAsg (w2 oMod (w1 oInt (w2 oAdd (w2 oAdd (w2 oMul (wVar 4) (wC (.int 69621))) (wVar 5)) (wVar 1))) (wVar 3)) (gName 4)))
  (sAsg (w2 oAdd (w2 oMul (wVar 2) (wC (.int 2147483647))) (w2 oMod (w1 oInt (w2 oPow (wVar 4) (wC (.int 5)))) (wVar 3))) (gName 2)))))
  (sRet (wVar 2)))))
theorem small_lit {i : Int} (h : -18446744073709551616 < i ∧ i < 18446744073709551616) : small i := h
theorem m_L_blended : Meets sp_L_blended 6 w_L_blended := by
  rintro ds S Q E ⟨a, g, t, rfl, hst, ht, q⟩
  obtain ⟨gs, cs, l, u, h1, h2, hu⟩ := id hst.ex
  have hT : u < 1099511627776 := Nat.lt_of_le_of_lt hu ht
  have hS : (set S a (.dK (stL g cs l (u + 1 : Int)))) a = some (.dK (stL g cs l (u + 1 : Int))) := set_same
  have fin : ∀ k, Fz Q (.int k) (set S a (.dK (stL g cs l (u + 1 : Int)))) := fun k => by
    refine .refl (q k _ ⟨gs, cs, l, u + 1, set_same, ?_, by omega⟩ fun b hb => set_ne hb)
    rw [set_ne (Ne.symm hst.ne)]; exact h2
  have hp5 : ∀ b : Int, b.natAbs < 18446744073709551616 → oPow (set S a (.dK (stL g cs l (u + 1 : Int)))) (.int b) (.int 5) = some (.int (b ^ (5 : Int).toNat)) := fun b hb => oPow_int ⟨by decide, by decide, hb⟩
  simp [wBody, w_L_blended, get_turn h1]
  refine put_turn h1 ?_
  refine loop_ind (P := fun r s S' => S' = set S a (.dK (stL g cs l (u + 1 : Int))) ∧ (∃ fd x y z, s = [some (.ref a), some (.int (u + 1)), some (.int fd), x, y, z]) ∧ ∀ d ∈ r, ∃ i : Int, d = .int i ∧ 0 < i ∧ i < 2147483648) ?_ ?_ _ _ _ ?_
  · rintro s S' ⟨rfl, ⟨fd, x, y, z, rfl⟩, -⟩
    exact ⟨trivial, by simpa using fin fd⟩
  · rintro x r s S' N ⟨rfl, ⟨fd, x', y, z, rfl⟩, hd⟩ hN
    obtain ⟨pr, rfl, hpr, hpm⟩ := hd x (by simp)
    refine ⟨trivial, ?_⟩
    have hf : oFdiv (set S a (.dK (stL g cs l (u + 1 : Int)))) (.int pr) (.int 79) = some (.int (pr / 79)) := oFdiv_int (by decide)
    simp [oMul_int (show small 40014 ∨ small (u + 1 : Int) from .inl (by decide)), hf, get_cells hS]
    refine loop_ind (P := fun r' s S' => S' = set S a (.dK (stL g cs l (u + 1 : Int))) ∧ (∃ b z, s = [some (.ref a), some (.int (u + 1)), some (.int fd), some (.int pr), some (.int b), z] ∧ b.natAbs < 18446744073709551616) ∧ ∀ d ∈ r', ∃ i : Int, d = .int i) ?_ ?_ _ _ _ ?_
    · rintro s S' ⟨rfl, ⟨b, z', rfl, hb⟩, -⟩
      refine ⟨trivial, ?_⟩
      simp [oMul_int (show small fd ∨ small 2147483647 from .inr (by decide)), hp5 b hb, oMod_int hpr]
      exact hN _ _ ⟨rfl, ⟨_, _, _, _, rfl⟩, fun d h => hd d (by simp [h])⟩
    · rintro x1 r1 s S' N1 ⟨rfl, ⟨b, z', rfl, hb⟩, hd1⟩ hN1
      obtain ⟨c, rfl⟩ := hd1 x1 (by simp)
      refine ⟨trivial, ?_⟩
      simp [oMul_int (show small b ∨ small 69621 from .inr (by decide)), oMod_int hpr]
      refine hN1 _ _ ⟨rfl, ⟨_, _, rfl, ?_⟩, fun d h => hd1 d (by simp [h])⟩
      have h3 := Int.emod_nonneg (b * 69621 + c + (u + 1)) (Int.ne_of_gt hpr)
      have h4 := Int.emod_lt_of_pos (b * 69621 + c + (u + 1)) hpr
      omega
    · refine ⟨rfl, ⟨_, _, rfl, ?_⟩, ?_⟩
      · have : pr / 79 ≤ pr := Int.ediv_le_self _ (by omega)
        have : 0 ≤ pr / 79 := Int.ediv_nonneg (by omega) (by omega)
        omega
      · intro d h; obtain ⟨i, _, rfl⟩ := List.mem_map.mp h; exact ⟨i, rfl⟩
  · refine ⟨rfl, ⟨_, _, _, _, rfl⟩, ?_⟩
    intro d h; simp at h; rcases h with rfl | rfl | rfl <;> exact ⟨_, rfl, by decide, by decide⟩

/-! ### _law_draw -/
theorem fits_ints {n : Nat} (ns : List Int) : D.fits (n + 1) (.lst (ns.map D.int)) = true := by simp [D.fits]
theorem ne_nil {S : Store} {g : Nat} {xs : List D} (h : S g = some (.lst xs)) (hf : D.fits 60 (.lst xs) = true) : oNe S (.ref g) (.lst []) = some (.bl (!xs.isEmpty)) := by
  have h0 : D.fits 60 (.lst []) = true := by simp [D.fits]
  unfold oNe; rw [drf_ref h, drf_lst, hf, h0]
  cases xs <;> rfl
theorem ne_nil' {S : Store} {xs : List D} (hf : D.fits 60 (.lst xs) = true) : oNe S (.lst xs) (.lst []) = some (.bl (!xs.isEmpty)) := by
  have h0 : D.fits 60 (.lst []) = true := by simp [D.fits]
  unfold oNe; rw [drf_lst, drf_lst, hf, h0]
  cases xs <;> rfl
theorem eq_nil' {S : Store} {xs : List D} (hf : D.fits 60 (.lst xs) = true) : oEq S (.lst xs) (.lst []) = some (.bl xs.isEmpty) := by
  have h0 : D.fits 60 (.lst []) = true := by simp [D.fits]
  unfold oEq; rw [drf_lst, drf_lst, hf, h0]
  cases xs <;> rfl
def sp_L_draw : DSp := fun ds S Q _ => ∃ a g t n, ds = [.ref a, .int n] ∧ 0 < n ∧ n < 1073741824 ∧ StD S a g t ∧ t < TM ∧ ∀ k S', 0 ≤ k → k < n → StD S' a g (t + 1) → Drw a g S S' → Q (.int k) S'
def w_L_draw : WS :=
  (sSeq (sIf (tE (w2 oEq (w2 oIx (wVar 0) (wC (.str "left"))) (wC (.int 0)))) (sAsg (wIf (tE (w2 oNe (w2 oIx (wVar 0) (wC (.str "great"))) (frz (wlDisp wNil)))) (wPopAt (w2 oIx (wVar 0) (wC (.str "great"))) (wC (.int 0))) (wCall sp_L_blended (wCons (wVar 0) wNil))) (gIx (wVar 0) (wC (.str "left")))) sNext)
  (sSeq (sAsg (w2 oMod (w1 oInt (w2 oIx (wVar 0) (wC (.str "left")))) (wVar 1)) (gName 2))
  (sSeq (sAsg (w2 oFdiv (w2 oIx (wVar 0) (wC (.str "left"))) (wVar 1)) (gIx (wVar 0) (wC (.str "left"))))
  (sRet (wVar 2)))))
theorem m_L_draw : Meets sp_L_draw 3 w_L_draw := by
  rintro ds S Q E ⟨a, g, t, n, rfl, hn, hm, hst, ht, q⟩
  obtain ⟨gs, cs, l, u, h1, h2, hu⟩ := id hst.ex
  have hag := hst.ne
  simp only [wBody, w_L_draw, List.map_cons, List.map_nil, List.length_cons, List.length_nil]
  refine seq_mid (fun s' S1 => s' = [some (.ref a), some (.int n), none] ∧ ∃ (gs cs : List Int) (l : Int) (u : Nat), S1 a = some (.dK (stL g cs l u)) ∧ S1 g = some (.lst (gs.map D.int)) ∧ u ≤ t + 1 ∧ Drw a g S S1) ?_ ?_
  · intro N hN
    by_cases hl : l = 0
    · cases gs with
      | nil =>
        simp [get_left h1, hl, get_great h1, ne_nil h2 (fits_ints [])]
        refine ⟨a, g, t, rfl, hst, ht, fun k S' hs hd => ?_⟩
        obtain ⟨gs', cs', l', u', e1, e2, hu'⟩ := hs.ex
        refine put_left e1 (hN _ _ ⟨rfl, gs', cs', k, u', set_same, ?_, hu', ?_⟩)
        · rw [set_ne (Ne.symm hag)]; exact e2
        · exact fun b hb hg => by rw [set_ne hb]; exact hd b hb
      | cons x r =>
        simp [get_left h1, hl, get_great h1, ne_nil h2 (fits_ints (x :: r))]
        refine ⟨g, isLst_ref h2, _, h2, .int x, by simp, ?_⟩
        refine put_left (l := l) (u := u) (cs := cs) (by rw [set_ne hag]; exact h1) (hN _ _ ⟨rfl, r, cs, x, u, set_same, ?_, by omega, ?_⟩)
        · rw [set_ne (Ne.symm hag), set_same]; rfl
        · exact fun b hb hg => by rw [set_ne hb, set_ne hg]
    · simp [get_left h1, hl]
      exact hN _ _ ⟨rfl, gs, cs, l, u, h1, h2, by omega, .refl⟩
  · rintro s' S1 ⟨rfl, gs, cs, l, u, e1, e2, hu, hd⟩
    simp [get_left e1, oMod_int hn, oFdiv_int ⟨hn, hm⟩]
    refine put_left e1 (.refl (q _ _ (Int.emod_nonneg _ (Int.ne_of_gt hn)) (Int.emod_lt_of_pos _ hn) ⟨gs, cs, l / n, u, set_same, ?_, hu⟩ ?_))
    · rw [set_ne (Ne.symm hag)]; exact e2
    · exact fun b hb hg => by rw [set_ne hb]; exact hd b hb hg

/-! ### _law_pick -/
def sp_L_pick : DSp := fun ds S Q _ => ∃ a g t xs, ds = [.ref a, .lst xs] ∧ xs ≠ [] ∧ xs.length < 1073741824 ∧ StD S a g t ∧ t < TM ∧ ∀ x S', x ∈ xs → StD S' a g (t + 1) → Drw a g S S' → Q x S'
def w_L_pick : WS :=
  (sRet (w2 oIx (wVar 1) (wCall sp_L_draw (wCons (wVar 0) (wCons (w1 oLen (wVar 1)) wNil)))))
theorem m_L_pick : Meets sp_L_pick 2 w_L_pick := by
  rintro ds S Q E ⟨a, g, t, xs, rfl, hn, hm, hst, ht, q⟩
  have hp := List.length_pos_iff.mpr hn
  simp [wBody, w_L_pick]
  refine ⟨a, g, t, _, rfl, by omega, by omega, hst, ht, fun k S' h0 h1 hs hd => ?_⟩
  obtain ⟨i, rfl⟩ := Int.eq_ofNat_of_zero_le h0
  have hi : i < xs.length := by omega
  exact ⟨xs[i], by rw [oIx_lst0, ixD_nat, List.getElem?_eq_getElem hi], .refl (q _ _ (List.getElem_mem hi) hs hd)⟩

/-! ### _law_mixed -/
def Frm (a g : Nat) (S S' : Store) : Prop := ∀ b, b ≠ a → b ≠ g → S b ≠ none → S' b = S b
theorem Frm.drw {a g : Nat} {S S' : Store} (h : Frm a g S S') : Drw a g S (rst S S') := fun b ha hg => by
  unfold rst; split
  · next e => exact e.symm
  · next e => exact h b ha hg e
theorem StD.rst {S S' : Store} {a g t : Nat} (h : StD S' a g t) (ha : S a ≠ none) (hg : S g ≠ none) : StD (rst S S') a g t :=
  h.at (by unfold Dl.rst; rw [if_neg ha]) (by unfold Dl.rst; rw [if_neg hg])
def sp_L_mixed : DSp := fun ds S Q _ => ∃ a g t xs, ds = [.ref a, .lst xs] ∧ xs.length < 16777216 ∧ D.fits 60 (.lst xs) = true ∧ StD S a g t ∧ t + xs.length < TM ∧ ∀ ys S', ys.Perm xs → StD S' a g (t + xs.length) → Drw a g S S' → Q (.lst ys) S'
def w_L_mixed : WS :=
  (sSeq (sPar [2, 3] (wCons (thw (wlList (wVar 1))) (wCons (thw (wlDisp wNil)) wNil)))
  (sSeq (sWhile (tE (w2 oNe (wVar 2) (frz (wlDisp wNil)))) (sExpr (wAppend (wVar 3) (wPopAt (wVar 2) (wCall sp_L_draw (wCons (wVar 0) (wCons (w1 oLen (wVar 2)) wNil)))))))
  (sRet (wVar 3))))
theorem fits_perm {n : Nat} {xs ys : List D} (h : ys.Perm xs) (hf : D.fits (n + 1) (.lst xs) = true) : D.fits (n + 1) (.lst ys) = true := by
  simp only [D.fits, List.all_eq_true] at hf ⊢
  exact fun x hx => hf x (h.mem_iff.mp hx)
theorem perm_erase {α : Type} : ∀ (l : List α) (i : Nat) (h : i < l.length), (l[i] :: l.eraseIdx i).Perm l
  | x :: r, 0, _ => .refl _
  | x :: r, i + 1, h => by
    have := perm_erase r i (by simpa using h)
    exact (List.Perm.swap _ _ _).trans (.cons x (by simpa using this))
theorem m_L_mixed : Meets sp_L_mixed 4 w_L_mixed := by
  rintro ds S Q E ⟨a, g, t, xs, rfl, hm, hf, hst, ht, q⟩
  simp [wBody, w_L_mixed]
  intro b1 hb1 b2 hb2
  have h12 : b2 ≠ b1 := fun e => by rw [e, set_same] at hb2; cases hb2
  rw [set_ne h12] at hb2
  have ha1 : a ≠ b1 := fun e => hst.some_a (e ▸ hb1)
  have ha2 : a ≠ b2 := fun e => hst.some_a (e ▸ hb2)
  have hg1 : g ≠ b1 := fun e => hst.some_g (e ▸ hb1)
  have hg2 : g ≠ b2 := fun e => hst.some_g (e ▸ hb2)
  refine while_ok (P := fun n s S1 => s = [some (.ref a), some (.lst xs), some (.ref b1), some (.ref b2)] ∧ ∃ rest got, S1 b1 = some (.lst rest) ∧ S1 b2 = some (.lst got) ∧ n = rest.length ∧ (got ++ rest).Perm xs ∧ StD S1 a g (t + got.length) ∧ Frm a g S S1) xs.length ?_ ⟨rfl, xs, [], ?_, set_same, rfl, .refl _, ?_, ?_⟩
  · rintro n s S1 N ⟨rfl, rest, got, e1, e2, rfl, hp, hs, hfr⟩ hN
    have hl : got.length + rest.length = xs.length := by simpa using hp.length_eq
    have hfr' : D.fits 60 (.lst rest) = true := by
      have := fits_perm hp hf
      simp only [D.fits, List.all_eq_true] at this ⊢
      exact fun x hx => this x (by simp [hx])
    cases rest with
    | nil =>
      simp [ne_nil e1 hfr']
      refine fz_lst (S0 := S) e2 hb2 (q _ _ (by simpa using hp) ?_ hfr.drw)
      exact (hs.mono (by simp at hl; omega)).rst hst.some_a hst.some_g
    | cons x0 r0 =>
      simp [ne_nil e1 hfr', oLen_ref e1]
      have hpos : 0 < (x0 :: r0).length := by simp
      refine ⟨b2, isLst_ref e2, b1, isLst_ref e1, a, g, t + got.length, _, rfl, by omega, by simp at hl; omega, hs, by omega, fun k S2 hk0 hk1 hs2 hd2 => ?_⟩
      obtain ⟨i, rfl⟩ := Int.eq_ofNat_of_zero_le hk0
      have hi : i < (x0 :: r0).length := by simp; omega
      have d1 : S2 b1 = some (.lst (x0 :: r0)) := by rw [hd2 b1 (Ne.symm ha1) (Ne.symm hg1)]; exact e1
      have d2 : S2 b2 = some (.lst got) := by rw [hd2 b2 (Ne.symm ha2) (Ne.symm hg2)]; exact e2
      refine ⟨x0 :: r0, i, rfl, d1, by omega, by simp at hl; omega, (x0 :: r0)[i], List.getElem?_eq_getElem hi, got, ?_, by simp at hl; omega, ?_⟩
      · rw [set_ne h12]; exact d2
      refine hN ((x0 :: r0).eraseIdx i).length _ _ ?_ ⟨rfl, (x0 :: r0).eraseIdx i, got ++ [(x0 :: r0)[i]], ?_, set_same, rfl, ?_, ?_, ?_⟩
      · rw [List.length_eraseIdx_of_lt hi]; omega
      · rw [set_ne (Ne.symm h12), set_same]; rfl
      · refine .trans ?_ hp
        rw [List.append_assoc]
        exact List.Perm.append_left _ (perm_erase _ _ hi)
      · refine (hs2.mono (by simp; omega)).at ?_ ?_
        · rw [set_ne ha2, set_ne ha1]
        · rw [set_ne hg2, set_ne hg1]
      · intro c h1 h2 h3
        have c1 : c ≠ b1 := fun e => h3 (e ▸ hb1)
        have c2 : c ≠ b2 := fun e => h3 (e ▸ hb2)
        rw [set_ne c2, set_ne c1, hd2 c h1 h2]; exact hfr c h1 h2 h3
  · rw [set_ne (Ne.symm h12), set_same]
  · refine hst.at ?_ ?_
    · rw [set_ne ha2, set_ne ha1]
    · rw [set_ne hg2, set_ne hg1]
  · intro c h1 h2 h3
    have c1 : c ≠ b1 := fun e => h3 (e ▸ hb1)
    have c2 : c ≠ b2 := fun e => h3 (e ▸ hb2)
    rw [set_ne c2, set_ne c1]

/-! ### _law_begun -/
theorem pow18 {S : Store} : oPow S (.int 10) (.int 18) = some (.int 1000000000000000000) := (oPow_int ⟨by decide, by decide, by decide⟩).trans (by rfl)
def sp_L_begun : DSp := fun ds S Q _ => ∃ ns : List Int, ds = [.scr (ns.map D.int)] ∧ ∀ a g S', S a = none → S g = none → StD S' a g 0 → Drw a g S S' → Q (.ref a) S'
def w_L_begun : WS :=
  (sSeq (sAsg (thw (wlComp (wiSeq (wVar 0)) (gName 2) (tE (w2 oGe (w1 oAbs (wVar 2)) (w2 oPow (wC (.int 10)) (wC (.int 18))))) (w2 oSub (w1 oAbs (wVar 2)) (w2 oPow (wC (.int 10)) (wC (.int 18)))) [2])) (gName 1))
  (sRet (wDictD [((wC (.str "great")), (wVar 1)), ((wC (.str "cells")), (frz (wlComp (wiSeq (wVar 0)) (gName 2) tYes (w1 oAbs (wVar 2)) [2]))), ((wC (.str "left")), (wC (.int 0))), ((wC (.str "turn")), (wC (.int 0)))])))
/-- |n| -/
def dabs : D → D
  | .int i => .int (if i < 0 then -i else i)
  | d => d
def dgr : D → D
  | .int i => .int ((if i < 0 then -i else i) - 1000000000000000000)
  | d => d
def dbig : D → Bool
  | .int i => decide (1000000000000000000 ≤ if i < 0 then -i else i)
  | _ => false
theorem map_dabs (ns : List Int) : (ns.map D.int).map dabs = (ns.map fun i => if i < 0 then -i else i).map D.int := by simp [dabs]
theorem filter_dgr (ns : List Int) : ((ns.map D.int).filter dbig).map dgr = ((ns.filter fun i => decide (1000000000000000000 ≤ if i < 0 then -i else i)).map fun i => (if i < 0 then -i else i) - 1000000000000000000).map D.int := by
  induction ns with
  | nil => rfl
  | cons x r ih =>
    rw [List.map_cons, List.filter_cons, List.filter_cons]
    show _ = _
    by_cases h : 1000000000000000000 ≤ if x < 0 then -x else x
    · simp only [dbig, h, decide_true, if_true, List.map_cons, ih, dgr]
    · simp only [dbig, h, decide_false, Bool.false_eq_true, if_false, ih]
theorem m_L_begun : Meets sp_L_begun 3 w_L_begun := by
  rintro ds S Q E ⟨ns, rfl, q⟩
  simp [wBody, w_L_begun, wipe]
  refine comp_pure (p := dbig) (f := dgr) trivial _ _ ?_ ?_
  · intro x hx K1 K2 h1 h2
    obtain ⟨i, _, rfl⟩ := List.mem_map.mp hx
    by_cases hb : 1000000000000000000 ≤ if i < 0 then -i else i
    · simp [pow18, hb]
      exact h1 (by simp [dbig, hb])
    · simp [pow18, hb]
      exact h2 (by simp [dbig, hb])
  · intro g hg
    refine comp_pure (p := fun _ => true) (f := dabs) trivial _ _ ?_ ?_
    · intro x hx K1 K2 h1 h2
      obtain ⟨i, _, rfl⟩ := List.mem_map.mp hx
      simp; exact h1 rfl
    · have ft : (ns.map D.int).filter (fun _ => true) = ns.map D.int := by simp
      simp only [List.nil_append, ft, map_dabs, filter_dgr]
      refine ⟨by rintro a b (⟨rfl, _⟩ | ⟨rfl, _⟩ | ⟨rfl, _⟩ | ⟨rfl, _⟩) <;> rfl, fun a ha => .refl ?_⟩
      have hag : a ≠ g := fun e => by rw [e, set_same] at ha; cases ha
      rw [set_ne hag] at ha
      have : (dputs [(D.str "great", D.ref g), (D.str "cells", D.lst ((ns.map fun i => if i < 0 then -i else i).map D.int)), (D.str "left", D.int 0), (D.str "turn", D.int 0)]) = stL g (ns.map fun i => if i < 0 then -i else i) 0 0 := by
        simp [dputs, dput, stL, D.eqv]
      rw [this]
      refine q a g _ ha hg ⟨_, _, 0, 0, set_same, (set_ne (Ne.symm hag)).trans set_same, Nat.le_refl _⟩ ?_
      · exact fun b h1 h2 => by rw [set_ne h1, set_ne h2]
/-! ### small judges -/
def sp_L_is_whole : DSp := fun ds S Q _ => ∃ i, ds = [.int i] ∧ Q (.bl true) S
def w_L_is_whole : WS :=
  (sRet (wAnd (w1 (oIsi "int") (wVar 0)) (w1 oNot (w1 (oIsi "bool") (wVar 0)))))
theorem m_L_is_whole : Meets sp_L_is_whole 1 w_L_is_whole := by
  rintro ds S Q E ⟨i, rfl, q⟩
  simp [wBody, w_L_is_whole, oIsi, isT]
  exact .refl q
def sp_is_whole : DSp := fun ds S Q _ => ∃ i : Int, ds = [.int i] ∧ -1000000000000000000 < i ∧ i < 1000000000000000000 ∧ Q (.bl true) S
def w_is_whole : WS :=
  (sRet (wAnd (w1 (oIsi "int") (wVar 0)) (wAnd (w1 oNot (w1 (oIsi "bool") (wVar 0))) (wChain oLt oLt (w1 oNeg (w2 oPow (wC (.int 10)) (wC (.int 18)))) (wVar 0) (w2 oPow (wC (.int 10)) (wC (.int 18)))))))
theorem m_is_whole : Meets sp_is_whole 1 w_is_whole := by
  rintro ds S Q E ⟨i, rfl, h1, h2, q⟩
  simp [wBody, w_is_whole, oIsi, isT, pow18, h1, h2]
  exact .refl q
def sp_is_number : DSp := fun ds S Q _ => ∃ i l m : Int, ds = [.int i, .int l, .int m] ∧ -1000000000000000000 < i ∧ i < 1000000000000000000 ∧ Q (.bl (decide (l ≤ i ∧ i ≤ m))) S
def w_is_number : WS :=
  (sRet (wAnd (wCall sp_is_whole (wCons (wVar 0) wNil)) (wChain oLe oLe (wVar 1) (wVar 0) (wVar 2))))
theorem m_is_number : Meets sp_is_number 3 w_is_number := by
  rintro ds S Q E ⟨i, l, m, rfl, h1, h2, q⟩
  simp [wBody, w_is_number]
  refine ⟨i, rfl, h1, h2, ?_⟩
  by_cases h : l ≤ i
  · simp [h] at q ⊢; exact .inr (.refl q)
  · simp [h] at q ⊢; exact ⟨by omega, .refl q⟩
end Cm
end Dl
set_option linter.all false
namespace Dl
namespace K80
open Mt Cm
/-! ### what the defs promise -/
def lt2 (p q : Nat × Nat) : Prop := p.1 < q.1 ∨ (p.1 = q.1 ∧ p.2 < q.2)
def wD (m n : Nat) (ps : Prs) : D := .tup [.int m, .int n, .tup (ps.map pD)]
structure Bd (m n : Nat) (ps : Prs) : Prop where
  m24 : m ≤ 24
  n24 : n ≤ 24
  lt : ∀ p ∈ ps, p.1 < m ∧ p.2 < n
  len : ps.length ≤ 576
structure Web (m n : Nat) (ps : Prs) : Prop extends Bd m n ps where
  up : ps.Pairwise lt2
/-- no way out of V -/
structure Clo (ps H : Prs) (V : Nat → Prop) : Prop where
  x : ∀ p ∈ ps, p.1 ∉ H.map (·.1) → V p.2
  v : ∀ l, V l → ∃ r, (r, l) ∈ H
  c : ∀ q ∈ H, V q.2 → ∀ p ∈ ps, p.1 = q.1 → V p.2
def sp_is_whole : DSp := Cm.sp_is_whole
def sp_is_number : DSp := Cm.sp_is_number
def sp_is_rising : DSp := fun ds S Q _ => ∃ ps : Prs, ds = [.tup (ps.map pD)] ∧ ps.Pairwise lt2 ∧ Q (.bl true) S
def sp_is_pair_within : DSp := fun ds S Q _ => ∃ (p : Nat × Nat) (m n : Nat), ds = [pD p, .int m, .int n] ∧ p.1 < m ∧ p.2 < n ∧ m ≤ 24 ∧ n ≤ 24 ∧ Q (.bl true) S
def sp_are_pairs_within : DSp := fun ds S Q _ => ∃ (m n : Nat) (ps : Prs), ds = [.tup (ps.map pD), .int m, .int n] ∧ Web m n ps ∧ Q (.bl true) S
def sp_is_web : DSp := fun ds S Q _ => ∃ (m n : Nat) (ps : Prs), ds = [wD m n ps] ∧ Web m n ps ∧ Q (.bl true) S
def sp_need_web : DSp := fun ds S Q _ => ∃ (m n : Nat) (ps : Prs), ds = [wD m n ps] ∧ Web m n ps ∧ Q .non S
def sp_near_of : DSp := fun ds S Q _ => ∃ (m n : Nat) (ps : Prs), ds = [wD m n ps] ∧ Web m n ps ∧ Q (nearD m ps) S
def sp_exchange_along : DSp := fun ds S Q _ => ∃ (h t c l m n : Nat) (H T C ps : Prs), ds = [.ref h, .ref t, .ref c, .int l] ∧ h ≠ t ∧ h ≠ c ∧ t ≠ c ∧
  S h = some (.dK (nd H)) ∧ S t = some (.dK (nd T)) ∧ S c = some (.dK (nd C)) ∧ Off ps H T l ∧ (C.map (·.1)).Nodup ∧ Way H C.reverse ∧ l ∈ C.map (·.1) ∧ (∀ p ∈ C, (p.2, p.1) ∈ ps) ∧ Bd m n ps ∧
  ∀ H' T' S', Inv ps H' T' → H'.length = H.length + 1 → S' h = some (.dK (nd H')) → S' t = some (.dK (nd T')) → (∀ b, b ≠ h → b ≠ t → S' b = S b) → Q .non S'
def sp_augmented : DSp := fun ds S Q _ => ∃ (h t m n : Nat) (H T ps : Prs), ds = [nearD m ps, .ref h, .ref t] ∧ h ≠ t ∧
  S h = some (.dK (nd H)) ∧ S t = some (.dK (nd T)) ∧ Inv ps H T ∧ Bd m n ps ∧
  (∀ H' T' S', Inv ps H' T' → H'.length = H.length + 1 → S' h = some (.dK (nd H')) → S' t = some (.dK (nd T')) → (∀ b, b ≠ h → b ≠ t → S' b = S b) → Q (.bl true) S') ∧
  ∀ V, Clo ps H V → Q (.bl false) S
def sp_greatest : DSp := fun ds S Q _ => ∃ (m n : Nat) (ps : Prs), ds = [nearD m ps] ∧ Bd m n ps ∧
  ∀ (h t : Nat) (H T : Prs) V S', h ≠ t → S h = none → S t = none → Inv ps H T → Clo ps H V → S' h = some (.dK (nd H)) → S' t = some (.dK (nd T)) → (∀ b, b ≠ h → b ≠ t → S' b = S b) → Q (.tup [.ref h, .ref t]) S'
def sp_left_out : DSp := fun ds S Q _ => ∃ (h t m n : Nat) (H T ps : Prs) (V : Nat → Prop), ds = [nearD m ps, .ref h, .ref t] ∧ h ≠ t ∧
  S h = some (.dK (nd H)) ∧ S t = some (.dK (nd T)) ∧ Inv ps H T ∧ Clo ps H V ∧ Bd m n ps ∧ ∀ R L, Dbl m ps R L → Q (.tup [.tup (nl R), .tup (nl L)]) S
def sp_doubled : DSp := fun ds S Q _ => ∃ (m n : Nat) (ps : Prs), ds = [wD m n ps] ∧ Web m n ps ∧ ∀ R L, Dbl m ps R L → Q (.tup [.tup (nl R), .tup (nl L)]) S
def sp_spare : DSp := fun ds S Q _ => ∃ (m n : Nat) (ps : Prs), ds = [wD m n ps] ∧ Web m n ps ∧ ∀ R L, Dbl m ps R L → Q (.int (R.length - L.length)) S
def sp_lines_along : DSp := fun ds S Q _ => ∃ (h t m n r : Nat) (H T ps : Prs), ds = [nearD m ps, .ref h, .ref t, .int r] ∧ r < m ∧ h ≠ t ∧
  S h = some (.dK (nd H)) ∧ S t = some (.dK (nd T)) ∧ Inv ps H T ∧ Bd m n ps ∧ ∀ xs : List Nat, Q (.lst (nl xs)) S
def sp_kinds : DSp := fun ds S Q _ => ∃ (m n : Nat) (ps : Prs), ds = [wD m n ps] ∧ Web m n ps ∧
  ∀ ws : List String, ws.length = ps.length → (∀ p ∈ ps, ∃ (i : Nat) (h : i < ps.length) (h2 : i < ws.length), ps[i].1 = p.1 ∧ ws[i] ≠ "never") → Q (.tup (ws.map D.str)) S
def sp_L_begun : DSp := Cm.sp_L_begun
def sp_L_blended : DSp := Cm.sp_L_blended
def sp_L_draw : DSp := Cm.sp_L_draw
def sp_L_pick : DSp := Cm.sp_L_pick
def sp_L_mixed : DSp := Cm.sp_L_mixed
def sp_L_is_whole : DSp := Cm.sp_L_is_whole
def sp_L_rc_within : DSp := fun ds S Q _ => ∃ i m : Nat, ds = [.int i, .int m] ∧ i < m ∧ Q (.bl true) S
def sp_L_rc_is_lot : DSp := fun ds S Q _ => ∃ (ls : List Nat) (m : Nat), ds = [.tup (nl ls), .int m] ∧ (∀ x ∈ ls, x < m) ∧ ls.Pairwise (· < ·) ∧ Q (.bl true) S
def sp_L_rc_is_lots : DSp := fun ds S Q _ => ∃ (m n : Nat) (x : D) (R L : List Nat), ds = [.tup [.int m, .int n, x], .tup [.tup (nl R), .tup (nl L)]] ∧ (∀ x ∈ R, x < m) ∧ R.Pairwise (· < ·) ∧ (∀ x ∈ L, x < n) ∧ L.Pairwise (· < ·) ∧ Q (.bl true) S
def sp_L_rc_web : DSp := fun ds S Q _ => ∃ (a g t : Nat) (top most : Nat), ds = [.ref a, .int top, .int most] ∧ top ≤ 24 ∧ most ≤ 576 ∧ StD S a g t ∧ t ≤ 1000 ∧ ∀ m n ps S', Web m n ps → Q (wD m n ps) S'
def sp_L_rc_near : DSp := fun ds S Q _ => ∃ (m n : Nat) (ps : Prs) (d : D), ds = [.int m, d] ∧ (d = .tup (ps.map pD) ∨ d = .lst (ps.map pD)) ∧ Bd m n ps ∧ Q (nearD m ps) S
/-- lines met -/
def met (E : List Nat) : List (D × D) := E.map fun (l : Nat) => (.int l, .bl true)
/-- V: no way out, by the lines' side -/
def Cl2 (ps T : Prs) (V : Nat → Prop) : Prop := ∀ l, V l → ∃ r, (l, r) ∈ T ∧ ∀ l2 ∈ row ps r, V l2
structure Tk (m n : Nat) (ps T : Prs) : Prop where
  tn : (T.map (·.1)).Nodup
  sub : ∀ p ∈ T, (p.2, p.1) ∈ ps
def sp_L_rc_led_ (j : Nat) : DSp := fun ds S Q _ => ∃ (t e m n r : Nat) (T ps : Prs) (E : List Nat) (V : Nat → Prop), ds = [nearD m ps, .ref t, .int r, .ref e] ∧ t ≠ e ∧
  S t = some (.dK (nd T)) ∧ S e = some (.dK (met E)) ∧ Tk m n ps T ∧ E.Nodup ∧ (∀ l ∈ E, l < n) ∧ n < j + E.length ∧ r < m ∧ Bd m n ps ∧ Cl2 ps T V ∧
  (∀ E' S', (∀ l ∈ E, l ∈ E') → (∀ l ∈ row ps r, l ∈ E') → (∀ l ∈ E', l ∉ E → ∃ r', (l, r') ∈ T ∧ ∀ l2 ∈ row ps r', l2 ∈ E') → E'.Nodup → (∀ l ∈ E', l < n) → S' e = some (.dK (met E')) → (∀ b, b ≠ e → S' b = S b) → Q (.bl false) S') ∧
  (∀ T' E' S', (¬ ∀ l ∈ row ps r, V l) → Tk m n ps T' → (T'.map (·.2)).Perm (r :: T.map (·.2)) → (∀ l, (l ∈ E ∨ V l) → ∀ r', (l, r') ∈ T' ↔ (l, r') ∈ T) → (∀ l ∈ E, l ∈ E') → E'.Nodup → (∀ l ∈ E', l < n) →
    S' t = some (.dK (nd T')) → S' e = some (.dK (met E')) → (∀ b, b ≠ t → b ≠ e → S' b = S b) → Q (.bl true) S')
def sp_L_rc_led : DSp := sp_L_rc_led_ 25
def sp_L_rc_taken : DSp := fun ds S Q _ => ∃ (m n : Nat) (ps : Prs), ds = [nearD m ps, .lst (nl (List.range m))] ∧ Bd m n ps ∧ ∀ (t : Nat) (T : Prs) S', Nu m ps T.length → S t = none → S' t = some (.dK (nd T)) → (∀ b, b ≠ t → S' b = S b) → Q (.ref t) S'
def sp_L_rc_size : DSp := fun ds S Q _ => ∃ (m n : Nat) (ps : Prs) (d : D), ds = [.int m, d] ∧ (d = .tup (ps.map pD) ∨ d = .lst (ps.map pD)) ∧ Bd m n ps ∧ ∀ k, Nu m ps k → Q (.int k) S
def sp_L_rc_doubled : DSp := fun ds S Q _ => ∃ (m n : Nat) (ps : Prs), ds = [.int m, .tup (ps.map pD)] ∧ Web m n ps ∧ ∃ R L, Dbl m ps R L ∧ Q (.tup [.tup (nl R), .tup (nl L)]) S
def sp_L_au_lots : DSp := fun ds S Q _ => ∃ m : Nat, ds = [.int m, .int m] ∧ m ≤ 7 ∧ ∀ lots : List (List Nat), (∀ lot ∈ lots, lot.Pairwise (· < ·) ∧ ∀ x ∈ lot, x < m) → Q (.lst (lots.map fun lot => .tup (nl lot))) S
def sp_law : DSp := fun ds S Q _ => ∃ ns : List Int, ds = [.scr (ns.map D.int)] ∧ ∀ S', Q (.bl true) S'
end K80
end Dl
set_option linter.all false
namespace Dl
namespace K80
/-- is_whole(value): slots 0 value -/
def w_is_whole : WS :=
  (sRet (wAnd (w1 (oIsi "int") (wVar 0)) (wAnd (w1 oNot (w1 (oIsi "bool") (wVar 0))) (wChain oLt oLt (w1 oNeg (w2 oPow (wC (.int 10)) (wC (.int 18)))) (wVar 0) (w2 oPow (wC (.int 10)) (wC (.int 18)))))))

/-- is_number(value, least, most): slots 0 value, 1 least, 2 most -/
def w_is_number : WS :=
  (sRet (wAnd (wCall sp_is_whole (wCons (wVar 0) wNil)) (wChain oLe oLe (wVar 1) (wVar 0) (wVar 2))))

/-- is_rising(value): slots 0 value, 1 one, 2 other -/
def w_is_rising : WS :=
  (sRet (w1 oAll (frz (wlComp (wiZip (wVar 0) (wSl (wVar 0) (wI (wC (.int 1))) (wC .non))) (gTup [1, 2]) tYes (w2 oLt (wVar 1) (wVar 2)) [1, 2]))))

/-- is_pair_within(value, many, other): slots 0 value, 1 many, 2 other -/
def w_is_pair_within : WS :=
  (sSeq (sIf (tOr (tNot (tE (w1 (oIsi "tuple") (wVar 0)))) (tE (w2 oNe (w1 oLen (wVar 0)) (wC (.int 2))))) (sRet (wC (.bl false))) sNext)
  (sRet (wAnd (wCall sp_is_number (wCons (w2 oIx (wVar 0) (wC (.int 0))) (wCons (wC (.int 0)) (wCons (w2 oSub (wVar 1) (wC (.int 1))) wNil)))) (wCall sp_is_number (wCons (w2 oIx (wVar 0) (wC (.int 1))) (wCons (wC (.int 0)) (wCons (w2 oSub (wVar 2) (wC (.int 1))) wNil)))))))

/-- are_pairs_within(value, many, other): slots 0 value, 1 many, 2 other, 3 item -/
def w_are_pairs_within : WS :=
  (sSeq (sIf (tOr (tNot (tE (w1 (oIsi "tuple") (wVar 0)))) (tNot (tE (w1 oAll (frz (wlComp (wiSeq (wVar 0)) (gName 3) tYes (wCall sp_is_pair_within (wCons (wVar 3) (wCons (wVar 1) (wCons (wVar 2) wNil)))) [3])))))) (sRet (wC (.bl false))) sNext)
  (sRet (wCall sp_is_rising (wCons (wVar 0) wNil))))

/-- is_web(value): slots 0 value -/
def w_is_web : WS :=
  (sSeq (sIf (tOr (tNot (tE (w1 (oIsi "tuple") (wVar 0)))) (tE (w2 oNe (w1 oLen (wVar 0)) (wC (.int 3))))) (sRet (wC (.bl false))) sNext)
  (sSeq (sIf (tOr (tNot (tE (wCall sp_is_number (wCons (w2 oIx (wVar 0) (wC (.int 0))) (wCons (wC (.int 0)) (wCons (wC (.int (24))) wNil)))))) (tNot (tE (wCall sp_is_number (wCons (w2 oIx (wVar 0) (wC (.int 1))) (wCons (wC (.int 0)) (wCons (wC (.int (24))) wNil))))))) (sRet (wC (.bl false))) sNext)
  (sRet (wCall sp_are_pairs_within (wCons (w2 oIx (wVar 0) (wC (.int 2))) (wCons (w2 oIx (wVar 0) (wC (.int 0))) (wCons (w2 oIx (wVar 0) (wC (.int 1))) wNil)))))))

/-- need_web(web): slots 0 web -/
def w_need_web : WS :=
  (sIf (tNot (tE (wCall sp_is_web (wCons (wVar 0) wNil)))) (fun _ _ _ => False) sNext)

/-- near_of(web): slots 0 web, 1 near, 2 receipt, 3 line -/
def w_near_of : WS :=
  (sSeq (sAsg (thw (wlComp (wiRange (w2 oIx (wVar 0) (wC (.int 0)))) (gName 2) tYes (thw (wlDisp wNil)) [2])) (gName 1))
  (sSeq (sFor (wiSeq (w2 oIx (wVar 0) (wC (.int 2)))) (gTup [2, 3]) (sExpr (wAppend (w2 oIx (wVar 1) (wVar 2)) (wVar 3))))
  (sRet (wVar 1))))

/-- augmented(near, held, taken): slots 0 near, 1 held, 2 taken, 3 came, 4 queue, 5 receipt, 6 line -/
def w_augmented : WS :=
  (sSeq (sPar [3, 4] (wCons wDictK (wCons (thw (wlComp (wiRange (w1 oLen (wVar 0))) (gName 5) (tE (w2 oNotIn (wVar 5) (wVar 1))) (wVar 5) [5])) wNil)))
  (sSeq (sWhile (tE (w2 oNe (wVar 4) (frz (wlDisp wNil)))) (sSeq (sAsg (wPopAt (wVar 4) (wC (.int 0))) (gName 5))
  (sFor (wiSeq (w2 oIx (wVar 0) (wVar 5))) (gName 6) (sIf (tE (w2 oNotIn (wVar 6) (wVar 3))) (sSeq (sAsg (wVar 5) (gIx (wVar 3) (wVar 6)))
  (sSeq (sIf (tE (w2 oNotIn (wVar 6) (wVar 2))) (sSeq (sExpr (wCall sp_exchange_along (wCons (wVar 1) (wCons (wVar 2) (wCons (wVar 3) (wCons (wVar 6) wNil))))))
  (sRet (wC (.bl true)))) sNext)
  (sExpr (wAppend (wVar 4) (w2 oIx (wVar 2) (wVar 6)))))) sNext))))
  (sRet (wC (.bl false)))))

/-- exchange_along(held, taken, came, line): slots 0 held, 1 taken, 2 came, 3 line, 4 receipt, 5 later -/
def w_exchange_along : WS :=
  (sWhile (tE (w2 oIsNot (wVar 3) (wC .non))) (sSeq (sAsg (w2 oIx (wVar 2) (wVar 3)) (gName 4))
  (sSeq (sAsg (wGet1 (wVar 0) (wVar 4)) (gName 5))
  (sSeq (sAsg (wVar 3) (gIx (wVar 0) (wVar 4)))
  (sSeq (sAsg (wVar 4) (gIx (wVar 1) (wVar 3)))
  (sAsg (wVar 5) (gName 3)))))))

/-- greatest(near): slots 0 near, 1 held, 2 taken, 3 more -/
def w_greatest : WS :=
  (sSeq (sPar [1, 2] (wCons wDictK (wCons wDictK wNil)))
  (sSeq (sAsg (wC (.bl true)) (gName 3))
  (sSeq (sWhile (tE (wVar 3)) (sAsg (wCall sp_augmented (wCons (wVar 0) (wCons (wVar 1) (wCons (wVar 2) wNil)))) (gName 3)))
  (sRet (wTup (wCons (wVar 1) (wCons (wVar 2) wNil)))))))

/-- left_out(near, held, taken): slots 0 near, 1 held, 2 taken, 3 some, 4 lines, 5 queue, 6 line, 7 receipt -/
def w_left_out : WS :=
  (sSeq (sPar [3, 4] (wCons (thw (wlComp (wiRange (w1 oLen (wVar 0))) (gName 7) (tE (w2 oNotIn (wVar 7) (wVar 1))) (wVar 7) [7])) (wCons (thw (wlDisp wNil)) wNil)))
  (sSeq (sAsg (thw (wlList (wVar 3))) (gName 5))
  (sSeq (sWhile (tE (w2 oNe (wVar 5) (frz (wlDisp wNil)))) (sFor (wiSeq (w2 oIx (wVar 0) (wPopAt (wVar 5) (wC (.int 0))))) (gName 6) (sIf (tE (w2 oNotIn (wVar 6) (wVar 4))) (sSeq (sExpr (wAppend (wVar 4) (wVar 6)))
  (sSeq (sExpr (wAppend (wVar 3) (w2 oIx (wVar 2) (wVar 6))))
  (sExpr (wAppend (wVar 5) (w2 oIx (wVar 2) (wVar 6)))))) sNext)))
  (sRet (wTup (wCons (w1 oTuple (frz (wlSorted (wVar 3)))) (wCons (w1 oTuple (frz (wlSorted (wVar 4)))) wNil)))))))

/-- doubled(web): slots 0 web, 1 near, 2 held, 3 taken -/
def w_doubled : WS :=
  (sSeq (sExpr (wCall sp_need_web (wCons (wVar 0) wNil)))
  (sSeq (sAsg (wCall sp_near_of (wCons (wVar 0) wNil)) (gName 1))
  (sSeq (sAsg (wCall sp_greatest (wCons (wVar 1) wNil)) (gTup [2, 3]))
  (sRet (wCall sp_left_out (wCons (wVar 1) (wCons (wVar 2) (wCons (wVar 3) wNil))))))))

/-- spare(web): slots 0 web, 1 some, 2 lines -/
def w_spare : WS :=
  (sSeq (sAsg (wCall sp_doubled (wCons (wVar 0) wNil)) (gTup [1, 2]))
  (sRet (w2 oSub (w1 oLen (wVar 1)) (w1 oLen (wVar 2)))))

/-- lines_along(near, held, taken, start): slots 0 near, 1 held, 2 taken, 3 start, 4 found, 5 queue, 6 receipt, 7 line -/
def w_lines_along : WS :=
  (sSeq (sPar [4, 5] (wCons (thw (wlDisp wNil)) (wCons (thw (wlDisp (wCons (wVar 3) wNil))) wNil)))
  (sSeq (sWhile (tE (w2 oNe (wVar 5) (frz (wlDisp wNil)))) (sSeq (sAsg (wPopAt (wVar 5) (wC (.int 0))) (gName 6))
  (sFor (wiSeq (w2 oIx (wVar 0) (wVar 6))) (gName 7) (sIf (tAnd (tE (w2 oNotIn (wVar 7) (wVar 4))) (tE (w2 oNe (wGet1 (wVar 1) (wVar 6)) (wVar 7)))) (sSeq (sExpr (wAppend (wVar 4) (wVar 7)))
  (sIf (tE (w2 oIn (wVar 7) (wVar 2))) (sExpr (wAppend (wVar 5) (w2 oIx (wVar 2) (wVar 7)))) sNext)) sNext))))
  (sRet (wVar 4))))

/-- kinds(web): slots 0 web, 1 near, 2 held, 3 taken, 4 some, 5 along, 6 found, 7 receipt, 8 line, 9 loose, 10 other -/
def w_kinds : WS :=
  (sSeq (sExpr (wCall sp_need_web (wCons (wVar 0) wNil)))
  (sSeq (sAsg (wCall sp_near_of (wCons (wVar 0) wNil)) (gName 1))
  (sSeq (sAsg (wCall sp_greatest (wCons (wVar 1) wNil)) (gTup [2, 3]))
  (sSeq (sAsg (w2 oIx (wCall sp_left_out (wCons (wVar 1) (wCons (wVar 2) (wCons (wVar 3) wNil)))) (wC (.int 0))) (gName 4))
  (sSeq (sAsg (frz (wlComp (wiRange (w2 oIx (wVar 0) (wC (.int 0)))) (gName 7) tYes (wCall sp_lines_along (wCons (wVar 1) (wCons (wVar 2) (wCons (wVar 3) (wCons (wVar 7) wNil))))) [7])) (gName 5))
  (sSeq (sAsg (thw (wlDisp wNil)) (gName 6))
  (sSeq (sFor (wiSeq (w2 oIx (wVar 0) (wC (.int 2)))) (gTup [7, 8]) (sSeq (sAsg (wOr (w2 oNotIn (wVar 8) (wVar 3)) (w1 oAny (frz (wlComp (wiSeq (w2 oIx (wVar 5) (w2 oIx (wVar 3) (wVar 8)))) (gName 10) tYes (w2 oNotIn (wVar 10) (wVar 3)) [10])))) (gName 9))
  (sIf (tOr (tE (w2 oIn (wVar 7) (wVar 4))) (tE (wVar 9))) (sExpr (wAppend (wVar 6) (wC (.str "perhaps")))) (sIf (tE (w2 oEq (w2 oIx (wVar 2) (wVar 7)) (wVar 8))) (sExpr (wAppend (wVar 6) (wIf (tE (w2 oIn (wVar 8) (w2 oIx (wVar 5) (wVar 7)))) (wC (.str "perhaps")) (wC (.str "surely"))))) (sExpr (wAppend (wVar 6) (wIf (tE (w2 oIn (w2 oIx (wVar 2) (wVar 7)) (w2 oIx (wVar 5) (w2 oIx (wVar 3) (wVar 8))))) (wC (.str "perhaps")) (wC (.str "never")))))))))
  (sRet (w1 oTuple (wVar 6))))))))))

/-- _law_begun(script): slots 0 script, 1 great, 2 cell -/
def w_L_begun : WS :=
  (sSeq (sAsg (thw (wlComp (wiSeq (wVar 0)) (gName 2) (tE (w2 oGe (w1 oAbs (wVar 2)) (w2 oPow (wC (.int 10)) (wC (.int 18))))) (w2 oSub (w1 oAbs (wVar 2)) (w2 oPow (wC (.int 10)) (wC (.int 18)))) [2])) (gName 1))
  (sRet (wDictD [((wC (.str "great")), (wVar 1)), ((wC (.str "cells")), (frz (wlComp (wiSeq (wVar 0)) (gName 2) tYes (w1 oAbs (wVar 2)) [2]))), ((wC (.str "left")), (wC (.int 0))), ((wC (.str "turn")), (wC (.int 0)))])))

/-- _law_blended(state): slots 0 state, 1 turn, 2 found, 3 prime, 4 blend, 5 cell -/
def w_L_blended : WS :=
  (sSeq (sPar [1, 2] (wCons (w2 oAdd (w2 oIx (wVar 0) (wC (.str "turn"))) (wC (.int 1))) (wCons (wC (.int 0)) wNil)))
  (sSeq (sAsg (wVar 1) (gIx (wVar 0) (wC (.str "turn"))))
  (sSeq (sFor (wiSeq (frz (wlDisp (wCons (wC (.int 2147482937)) (wCons (wC (.int 2147482921)) (wCons (wC (.int 2147482877)) wNil)))))) (gName 3) (sSeq (sAsg (w2 oAdd (w2 oMul (wC (.int 40014)) (wVar 1)) (w2 oFdiv (wVar 3) (wC (.int 79)))) (gName 4))
  (sSeq (sFor (wiSeq (w2 oIx (wVar 0) (wC (.str "cells")))) (gName 5) (sAsg (w2 oMod (w1 oInt (w2 oAdd (w2 oAdd (w2 oMul (wVar 4) (wC (.int 69621))) (wVar 5)) (wVar 1))) (wVar 3)) (gName 4)))
  (sAsg (w2 oAdd (w2 oMul (wVar 2) (wC (.int 2147483647))) (w2 oMod (w1 oInt (w2 oPow (wVar 4) (wC (.int 5)))) (wVar 3))) (gName 2)))))
  (sRet (wVar 2)))))

/-- _law_draw(state, size_here): slots 0 state, 1 size_here, 2 found -/
def w_L_draw : WS :=
  (sSeq (sIf (tE (w2 oEq (w2 oIx (wVar 0) (wC (.str "left"))) (wC (.int 0)))) (sAsg (wIf (tE (w2 oNe (w2 oIx (wVar 0) (wC (.str "great"))) (frz (wlDisp wNil)))) (wPopAt (w2 oIx (wVar 0) (wC (.str "great"))) (wC (.int 0))) (wCall sp_L_blended (wCons (wVar 0) wNil))) (gIx (wVar 0) (wC (.str "left")))) sNext)
  (sSeq (sAsg (w2 oMod (w1 oInt (w2 oIx (wVar 0) (wC (.str "left")))) (wVar 1)) (gName 2))
  (sSeq (sAsg (w2 oFdiv (w2 oIx (wVar 0) (wC (.str "left"))) (wVar 1)) (gIx (wVar 0) (wC (.str "left"))))
  (sRet (wVar 2)))))

/-- _law_pick(state, several): slots 0 state, 1 several -/
def w_L_pick : WS :=
  (sRet (w2 oIx (wVar 1) (wCall sp_L_draw (wCons (wVar 0) (wCons (w1 oLen (wVar 1)) wNil)))))

/-- _law_mixed(state, several): slots 0 state, 1 several, 2 left, 3 found -/
def w_L_mixed : WS :=
  (sSeq (sPar [2, 3] (wCons (thw (wlList (wVar 1))) (wCons (thw (wlDisp wNil)) wNil)))
  (sSeq (sWhile (tE (w2 oNe (wVar 2) (frz (wlDisp wNil)))) (sExpr (wAppend (wVar 3) (wPopAt (wVar 2) (wCall sp_L_draw (wCons (wVar 0) (wCons (w1 oLen (wVar 2)) wNil)))))))
  (sRet (wVar 3))))

/-- _law_is_whole(item): slots 0 item -/
def w_L_is_whole : WS :=
  (sRet (wAnd (w1 (oIsi "int") (wVar 0)) (w1 oNot (w1 (oIsi "bool") (wVar 0)))))

/-- _law_rc_within(value, many): slots 0 value, 1 many -/
def w_L_rc_within : WS :=
  (sRet (wAnd (wCall sp_L_is_whole (wCons (wVar 0) wNil)) (wChain oLe oLt (wC (.int 0)) (wVar 0) (wVar 1))))

/-- _law_rc_is_lot(value, many): slots 0 value, 1 many, 2 item, 3 one, 4 other -/
def w_L_rc_is_lot : WS :=
  (sSeq (sIf (tOr (tNot (tE (w1 (oIsi "tuple") (wVar 0)))) (tE (w2 oNe (frz (wlComp (wiSeq (wVar 0)) (gName 2) (tNot (tE (wCall sp_L_rc_within (wCons (wVar 2) (wCons (wVar 1) wNil))))) (wC (.int 1)) [2])) (frz (wlDisp wNil))))) (sRet (wC (.bl false))) sNext)
  (sRet (w2 oEq (frz (wlComp (wiZip (wVar 0) (wSl (wVar 0) (wI (wC (.int 1))) (wC .non))) (gTup [3, 4]) (tNot (tE (w2 oLt (wVar 3) (wVar 4)))) (wC (.int 1)) [3, 4])) (frz (wlDisp wNil)))))

/-- _law_rc_is_lots(web, value): slots 0 web, 1 value -/
def w_L_rc_is_lots : WS :=
  (sSeq (sIf (tOr (tNot (tE (w1 (oIsi "tuple") (wVar 1)))) (tE (w2 oNe (w1 oLen (wVar 1)) (wC (.int 2))))) (sRet (wC (.bl false))) sNext)
  (sRet (wAnd (wCall sp_L_rc_is_lot (wCons (w2 oIx (wVar 1) (wC (.int 0))) (wCons (w2 oIx (wVar 0) (wC (.int 0))) wNil))) (wCall sp_L_rc_is_lot (wCons (w2 oIx (wVar 1) (wC (.int 1))) (wCons (w2 oIx (wVar 0) (wC (.int 1))) wNil))))))

/-- _law_rc_web(state, top, most): slots 0 state, 1 top, 2 most, 3 many, 4 other, 5 found, 6 thin, 7 unlike_here, 8 receipt, 9 line -/
def w_L_rc_web : WS :=
  (sSeq (sPar [3, 4, 5] (wCons (wCall sp_L_draw (wCons (wVar 0) (wCons (w2 oAdd (wVar 1) (wC (.int 1))) wNil))) (wCons (wCall sp_L_draw (wCons (wVar 0) (wCons (w2 oAdd (wVar 1) (wC (.int 1))) wNil))) (wCons (frz (wlDisp wNil)) wNil))))
  (sSeq (sAsg (wTup (wCons (wCall sp_L_pick (wCons (wVar 0) (wCons (frz (wlDisp (wCons (wC (.int 1)) (wCons (wC (.int 2)) (wCons (wC (.int 2)) (wCons (wC (.int 3)) (wCons (w2 oAdd (wC (.int 1)) (w2 oFdiv (wVar 4) (wC (.int 2)))) (wCons (w2 oAdd (wC (.int 1)) (w2 oFdiv (wVar 4) (wC (.int 2)))) (wCons (w2 oAdd (wC (.int 1)) (w2 oFdiv (wVar 4) (wC (.int 3)))) wNil))))))))) wNil))) (wCons (w2 oEq (wCall sp_L_draw (wCons (wVar 0) (wCons (wC (.int 3)) wNil))) (wC (.int 0))) wNil))) (gTup [6, 7]))
  (sSeq (sFor (wiRange (wVar 3)) (gName 8) (sSeq (sIf (tE (wVar 7)) (sAsg (wCall sp_L_pick (wCons (wVar 0) (wCons (frz (wlDisp (wCons (wC (.int 1)) (wCons (wC (.int 1)) (wCons (wC (.int 1)) (wCons (wC (.int 2)) (wCons (w2 oAdd (wC (.int 1)) (wVar 4)) (wCons (w2 oAdd (wC (.int 1)) (wVar 4)) wNil)))))))) wNil))) (gName 6)) sNext)
  (sAsg (frz (wlCat (wVar 5) (frz (wlComp (wiRange (wVar 4)) (gName 9) (tE (w2 oEq (wCall sp_L_draw (wCons (wVar 0) (wCons (wVar 6) wNil))) (wC (.int 0)))) (wTup (wCons (wVar 8) (wCons (wVar 9) wNil))) [9])))) (gName 5))))
  (sRet (wTup (wCons (wVar 3) (wCons (wVar 4) (wCons (w1 oTuple (frz (wlSorted (wSl (wCall sp_L_mixed (wCons (wVar 0) (wCons (wVar 5) wNil))) (wC .non) (wI (wVar 2)))))) wNil))))))))

/-- _law_rc_near(many, pairs): slots 0 many, 1 pairs, 2 rows, 3 receipt, 4 line -/
def w_L_rc_near : WS :=
  (sSeq (sAsg (thw (wlComp (wiRange (wVar 0)) (gName 3) tYes (thw (wlDisp wNil)) [3])) (gName 2))
  (sSeq (sFor (wiSeq (wVar 1)) (gTup [3, 4]) (sExpr (wAppend (w2 oIx (wVar 2) (wVar 3)) (wVar 4))))
  (sRet (wVar 2))))

/-- _law_rc_led(near, taken, receipt, met_here): slots 0 near, 1 taken, 2 receipt, 3 met_here, 4 line -/
def w_L_rc_led (sp_L_rc_led : DSp) : WS :=
  (sSeq (sFor (wiSeq (w2 oIx (wVar 0) (wVar 2))) (gName 4) (sIf (tE (w2 oNotIn (wVar 4) (wVar 3))) (sSeq (sAsg (wC (.bl true)) (gIx (wVar 3) (wVar 4)))
  (sIf (tOr (tE (w2 oNotIn (wVar 4) (wVar 1))) (tE (wCall sp_L_rc_led (wCons (wVar 0) (wCons (wVar 1) (wCons (w2 oIx (wVar 1) (wVar 4)) (wCons (wVar 3) wNil))))))) (sSeq (sAsg (wVar 2) (gIx (wVar 1) (wVar 4)))
  (sRet (wC (.bl true)))) sNext)) sNext))
  (sRet (wC (.bl false))))

/-- _law_rc_taken(near, order): slots 0 near, 1 order, 2 taken, 3 receipt -/
def w_L_rc_taken : WS :=
  (sSeq (sAsg wDictK (gName 2))
  (sSeq (sFor (wiSeq (wVar 1)) (gName 3) (sExpr (wCall sp_L_rc_led (wCons (wVar 0) (wCons (wVar 2) (wCons (wVar 3) (wCons wDictK wNil)))))))
  (sRet (wVar 2))))

/-- _law_rc_size(many, pairs): slots 0 many, 1 pairs -/
def w_L_rc_size : WS :=
  (sRet (w1 oLen (wCall sp_L_rc_taken (wCons (wCall sp_L_rc_near (wCons (wVar 0) (wCons (wVar 1) wNil))) (wCons (frz (wlRange (wVar 0))) wNil)))))

/-- _law_rc_doubled(many, pairs): slots 0 many, 1 pairs, 2 size_here, 3 some, 4 one, 5 pair, 6 receipt, 7 line -/
def w_L_rc_doubled : WS :=
  (sSeq (sAsg (wCall sp_L_rc_size (wCons (wVar 0) (wCons (wVar 1) wNil))) (gName 2))
  (sSeq (sAsg (frz (wlComp (wiRange (wVar 0)) (gName 4) (tE (w2 oEq (wCall sp_L_rc_size (wCons (wVar 0) (wCons (frz (wlComp (wiSeq (wVar 1)) (gName 5) (tE (w2 oNe (w2 oIx (wVar 5) (wC (.int 0))) (wVar 4))) (wVar 5) [5])) wNil))) (wVar 2))) (wVar 4) [4])) (gName 3))
  (sRet (wTup (wCons (w1 oTuple (wVar 3)) (wCons (w1 oTuple (frz (wlSortedSet (frz (wlComp (wiSeq (wVar 1)) (gTup [6, 7]) (tE (w2 oIn (wVar 6) (wVar 3))) (wVar 7) [6, 7]))))) wNil))))))

/-- _law_au_lots(claims, most): slots 0 claims, 1 most, 2 line, 3 found, 4 turn, 5 longer, 6 lot, 7 claim -/
def w_L_au_lots : WS :=
  (sSeq (sPar [2, 3] (wCons (frz (wlDisp (wCons (wTup wNil) wNil))) (wCons (frz (wlDisp (wCons (wTup wNil) wNil))) wNil)))
  (sSeq (sFor (wiRange (w2 oMin2 (wVar 1) (wVar 0))) (gName 4) (sSeq (sAsg (frz (wlDisp wNil)) (gName 5))
  (sSeq (sFor (wiSeq (wVar 2)) (gName 6) (sAsg (frz (wlCat (wVar 5) (frz (wlComp (wiRange2 (wIf (tE (w2 oNe (wVar 6) (wTup wNil))) (w2 oAdd (w2 oIx (wVar 6) (w1 oNeg (wC (.int 1)))) (wC (.int 1))) (wC (.int 0))) (wVar 0)) (gName 7) tYes (w2 oAdd (wVar 6) (wTup (wCons (wVar 7) wNil))) [7])))) (gName 5)))
  (sSeq (sAsg (wVar 5) (gName 2))
  (sAsg (frz (wlCat (wVar 3) (wVar 2))) (gName 3))))))
  (sRet (wVar 3))))

/-- law(script): slots 0 script, 1 state, 2 web, 3 found, 4 many, 5 due, 6 words, 7 receipt, 8 own, 9 lot, 10 lack, 11 at, 12 pair, 13 word, 14 line -/
def w_law : WS :=
  (sSeq (sAsg (wCall sp_L_begun (wCons (wVar 0) wNil)) (gName 1))
  (sSeq (sAsg (wCall sp_L_rc_web (wCons (wVar 1) (wCons (wCall sp_L_pick (wCons (wVar 1) (wCons (frz (wlDisp (wCons (wC (.int 3)) (wCons (wC (.int 5)) (wCons (wC (.int 7)) (wCons (wC (.int 24)) (wCons (wC (.int 24)) wNil))))))) wNil))) (wCons (wCall sp_L_pick (wCons (wVar 1) (wCons (frz (wlDisp (wCons (wC (.int 90)) (wCons (wC (.int 90)) (wCons (wC (.int 90)) (wCons (wC (.int 576)) wNil)))))) wNil))) wNil)))) (gName 2))
  (sSeq (sPar [3, 4] (wCons (wCallK sp_doubled 0 1 [0] wNil (wCons (wVar 2) wNil)) (wCons (wCallK sp_spare 0 1 [0] wNil (wCons (wVar 2) wNil)) wNil)))
  (sSeq (sAsg (wCall sp_L_rc_doubled (wCons (w2 oIx (wVar 2) (wC (.int 0))) (wCons (w2 oIx (wVar 2) (wC (.int 2))) wNil))) (gName 5))
  (sSeq (sIf (tOr (tNot (tE (wCall sp_L_rc_is_lots (wCons (wVar 2) (wCons (wVar 3) wNil))))) (tE (w2 oNe (wVar 3) (wVar 5)))) (sRet (wC (.bl false))) sNext)
  (sSeq (sIf (tOr (tNot (tE (wCall sp_L_is_whole (wCons (wVar 4) wNil)))) (tOr (tE (w2 oNe (wVar 4) (w2 oSub (w2 oIx (wVar 2) (wC (.int 0))) (wCall sp_L_rc_size (wCons (w2 oIx (wVar 2) (wC (.int 0))) (wCons (w2 oIx (wVar 2) (wC (.int 2))) wNil)))))) (tE (w2 oNe (wVar 4) (w2 oSub (w1 oLen (w2 oIx (wVar 5) (wC (.int 0)))) (w1 oLen (w2 oIx (wVar 5) (wC (.int 1))))))))) (sRet (wC (.bl false))) sNext)
  (sSeq (sAsg (wCall sp_kinds (wCons (wVar 2) wNil)) (gName 6))
  (sSeq (sFor (wiRange (w2 oIx (wVar 2) (wC (.int 0)))) (gName 7) (sSeq (sAsg (frz (wlComp (wiEnum (w2 oIx (wVar 2) (wC (.int 2)))) (gTup [11, 12]) (tE (w2 oEq (w2 oIx (wVar 12) (wC (.int 0))) (wVar 7))) (w2 oIx (wVar 6) (wVar 11)) [11, 12])) (gName 8))
  (sIf (tAnd (tE (w2 oNe (wVar 8) (frz (wlDisp wNil)))) (tE (w2 oEq (frz (wlComp (wiSeq (wVar 8)) (gName 13) (tE (w2 oNe (wVar 13) (wC (.str "never")))) (wVar 13) [13])) (frz (wlDisp wNil))))) (sRet (wC (.bl false))) sNext)))
  (sSeq (sIf (tE (w2 oGt (w2 oIx (wVar 2) (wC (.int 0))) (wC (.int 7)))) (sRet (wC (.bl true))) sNext)
  (sSeq (sFor (wiSeq (wCall sp_L_au_lots (wCons (w2 oIx (wVar 2) (wC (.int 0))) (wCons (w2 oIx (wVar 2) (wC (.int 0))) wNil)))) (gName 9) (sSeq (sAsg (w2 oSub (w1 oLen (wVar 9)) (wLenSet (frz (wlComp (wiSeq (w2 oIx (wVar 2) (wC (.int 2)))) (gTup [7, 14]) (tE (w2 oIn (wVar 7) (wVar 9))) (wVar 14) [7, 14])))) (gName 10))
  (sIf (tOr (tE (w2 oGt (wVar 10) (wVar 4))) (tAnd (tE (w2 oEq (wVar 10) (wVar 4))) (tE (w2 oNe (frz (wlComp (wiSeq (w2 oIx (wVar 3) (wC (.int 0)))) (gName 7) (tE (w2 oNotIn (wVar 7) (wVar 9))) (wC (.int 1)) [7])) (frz (wlDisp wNil)))))) (sRet (wC (.bl false))) sNext)))
  (sRet (wC (.bl true)))))))))))))

end K80
end Dl
set_option linter.all false
namespace Dl
namespace K80
open Mt Cm
/-! ### judges -/
theorem m_is_whole : Meets sp_is_whole 1 w_is_whole := Cm.m_is_whole
theorem m_is_number : Meets sp_is_number 3 w_is_number := by
  have := Cm.m_is_number
  exact this
theorem m_L_begun : Meets sp_L_begun 3 w_L_begun := Cm.m_L_begun
theorem m_L_blended : Meets sp_L_blended 6 w_L_blended := Cm.m_L_blended
theorem m_L_draw : Meets sp_L_draw 3 w_L_draw := Cm.m_L_draw
theorem m_L_pick : Meets sp_L_pick 2 w_L_pick := Cm.m_L_pick
theorem m_L_mixed : Meets sp_L_mixed 4 w_L_mixed := Cm.m_L_mixed
theorem m_L_is_whole : Meets sp_L_is_whole 1 w_L_is_whole := Cm.m_L_is_whole
theorem lt_pD {S : Store} {p q : Nat × Nat} (h : lt2 p q) : oLt S (pD p) (pD q) = some (.bl true) := by
  unfold oLt pD ltD
  simp only [intsOf, Option.map_some, lexLt]
  rcases h with h | ⟨h1, h2⟩
  · have : ((p.1 : Int) = q.1) = False := by simp; omega
    simp [this]; omega
  · have : ((p.2 : Int) = q.2) = False := by simp; omega
    simp [h1, this]; omega
theorem cut1 {xs : List D} {z : D} {S : Store} {a : D} (h : oSl S (.tup xs) (.int 1) .non = some z) : z = .tup (xs.drop 1) := by
  simp only [oSl, seqOf_tup, Option.bind_some, clip] at h
  simp only [cut] at h
  injection h with h
  rw [← h]
  congr 1
  cases xs with
  | nil => rfl
  | cons x r =>
    have : min (1 : Int).toNat (x :: r).length = 1 := by simp
    simp [this]
theorem sl1 {S : Store} {xs : List D} : oSl S (.tup xs) (.int 1) .non = some (.tup (xs.drop 1)) := by
  have : ∃ z, oSl S (.tup xs) (.int 1) .non = some z := ⟨_, rfl⟩
  obtain ⟨z, hz⟩ := this
  rw [hz, cut1 (a := .non) hz]
theorem zip_drop {α : Type} {F : α → D} : ∀ {ps : List α}, zipD (ps.map F) ((ps.map F).drop 1) = (ps.zip (ps.drop 1)).map fun q => .tup [F q.1, F q.2]
  | [] => rfl
  | [x] => rfl
  | x :: y :: r => by
    have := zip_drop (F := F) (ps := y :: r)
    simp only [zipD, List.map_cons, List.drop_succ_cons, List.drop_zero, List.zipWith_cons_cons, List.zip_cons_cons] at this ⊢
    rw [this]
theorem zip_rel {α : Type} {R : α → α → Prop} : ∀ {ps : List α}, ps.Pairwise R → ∀ q ∈ ps.zip (ps.drop 1), R q.1 q.2
  | [], _, q, hq => by simp at hq
  | [x], _, q, hq => by simp at hq
  | x :: y :: r, h, q, hq => by
    simp only [List.drop_succ_cons, List.drop_zero, List.zip_cons_cons] at hq
    rcases List.mem_cons.mp hq with rfl | hq
    · exact (List.pairwise_cons.mp h).1 y (by simp)
    · exact zip_rel (ps := y :: r) (List.pairwise_cons.mp h).2 q (by simpa using hq)
theorem both_tup {S : Store} {xs ys : List D} : both S (.tup xs) (.tup ys) xs ys := .inr ⟨rfl, rfl⟩
theorem m_is_rising : Meets sp_is_rising 3 w_is_rising := by
  rintro ds S Q E ⟨ps, rfl, hu, q⟩
  simp [wBody, w_is_rising, sl1, wipe]
  refine ⟨_, _, both_tup, ?_⟩
  have := zip_drop (F := pD) (ps := ps)
  simp only [List.drop_one] at this
  rw [this]
  refine comp_map (p := fun _ => true) (f := fun _ => .bl true) both_tup _ _ ?_ ?_
  · rintro ⟨x, y⟩ hx K1 K2 h1 -
    simp [gNames, lt_pD (zip_rel hu _ (by simpa using hx))]
    exact h1 rfl
  · have h : ∀ l : List ((Nat × Nat) × (Nat × Nat)), oAll S (.lst (l.map fun _ => D.bl true)) = some (.bl true) := fun l => by
      have := all_bl (S := S) (l := l.map fun _ => true)
      rw [List.map_map] at this
      refine Eq.trans this ?_
      rw [List.all_map]
      simp
    simp only [List.nil_append]
    exact ⟨_, h _, .refl q⟩
theorem m_is_pair_within : Meets sp_is_pair_within 3 w_is_pair_within := by
  rintro ds S Q E ⟨p, m, n, rfl, h1, h2, h3, h4, q⟩
  simp [wBody, w_is_pair_within, pD, oIsi, isT]
  refine ⟨_, _, _, rfl, by omega, by omega, ?_⟩
  have e1 : (0 : Int) ≤ p.1 ∧ (p.1 : Int) ≤ m - 1 := by omega
  have e2 : (0 : Int) ≤ p.2 ∧ (p.2 : Int) ≤ n - 1 := by omega
  simp [e1]
  refine ⟨_, _, _, rfl, by omega, by omega, ?_⟩
  simp [e2]
  exact .refl q
theorem all_tt {S : Store} {α : Type} {l : List α} : oAll S (.lst (l.map fun _ => D.bl true)) = some (.bl true) := by
  have := all_bl (S := S) (l := l.map fun _ => true)
  rw [List.map_map] at this
  refine Eq.trans this ?_
  rw [List.all_map]
  simp
theorem filter_tt {α : Type} {l : List α} : l.filter (fun _ => true) = l := by simp
theorem m_are_pairs_within : Meets sp_are_pairs_within 4 w_are_pairs_within := by
  rintro ds S Q E ⟨m, n, ps, rfl, hw, q⟩
  have hm := hw.m24; have hn := hw.n24
  have key : ∀ (QQ : List D → Store → Prop), QQ (ps.map fun _ => D.bl true) S → comp (fun S' => True) (gName 3) tYes (wCall sp_is_pair_within (wCons (wVar 3) (wCons (wVar 1) (wCons (wVar 2) wNil)))) [some (.tup (ps.map pD)), some (.int m), some (.int n), none] (ps.map pD) [] S QQ := by
    intro QQ hq
    refine comp_map (p := fun _ => true) (f := fun _ => .bl true) trivial _ _ ?_ ?_
    · rintro p hp K1 K2 h1 -
      simp
      exact ⟨p, m, n, rfl, (hw.lt p hp).1, (hw.lt p hp).2, hm, hn, h1 rfl⟩
    · rw [List.nil_append, filter_tt]; exact hq
  simp [wBody, w_are_pairs_within, oIsi, isT, wipe]
  refine key _ ?_
  simp only [all_tt]
  simp
  exact ⟨ps, rfl, hw.up, .refl q⟩
theorem m_is_web : Meets sp_is_web 1 w_is_web := by
  rintro ds S Q E ⟨m, n, ps, rfl, hw, q⟩
  have hm := hw.m24; have hn := hw.n24
  have e1 : (0 : Int) ≤ m ∧ (m : Int) ≤ 24 := by omega
  have e2 : (0 : Int) ≤ n ∧ (n : Int) ≤ 24 := by omega
  simp [wBody, w_is_web, wD, oIsi, isT]
  refine ⟨_, _, _, rfl, by omega, by omega, ?_⟩
  simp [e1]
  refine ⟨_, _, _, rfl, by omega, by omega, ?_⟩
  simp [e2]
  exact ⟨m, n, ps, rfl, hw, .refl q⟩
theorem m_need_web : Meets sp_need_web 1 w_need_web := by
  rintro ds S Q E ⟨m, n, ps, rfl, hw, q⟩
  simp [wBody, w_need_web]
  refine ⟨m, n, ps, rfl, hw, ?_⟩
  simp
  exact .refl q
theorem oEq_nil {S : Store} : oEq S (.lst []) (.lst []) = some (.bl true) := rfl
theorem oNe_nil {S : Store} : oNe S (.lst []) (.lst []) = some (.bl false) := rfl
theorem m_L_rc_within : Meets sp_L_rc_within 2 w_L_rc_within := by
  rintro ds S Q E ⟨i, m, rfl, h, q⟩
  simp [wBody, w_L_rc_within]
  refine ⟨_, rfl, ?_⟩
  simp [h]
  exact .refl q
theorem comp_none {α : Type} {F : α → D} {chk : Store → Prop} {g : WG} {t : WT} {e : WE} {s : Sg} {S : Store} (hc : chk S) {Q : List D → Store → Prop} (xs : List α)
    (h : ∀ x ∈ xs, ∀ (K1 : D → Store → Prop) (K2 : Store → Prop), K2 S → g (F x) (fun _ _ => False) s S fun s1 S1 => t (fun _ _ => False) s1 S1 fun b S2 => if b = true then e (fun _ _ => False) s1 S2 K1 else K2 S2)
    (q : Q [] S) : comp chk g t e s (xs.map F) [] S Q :=
  comp_map (p := fun _ => false) (f := fun _ => .non) hc xs [] (fun x hx K1 K2 _ h2 => h x hx K1 K2 (h2 rfl)) (by
    have : xs.filter (fun _ => false) = [] := by simp
    rw [this]; exact q)
theorem m_L_rc_is_lot : Meets sp_L_rc_is_lot 5 w_L_rc_is_lot := by
  rintro ds S Q E ⟨ls, m, rfl, h, hu, q⟩
  simp [wBody, w_L_rc_is_lot, oIsi, isT, wipe]
  refine comp_none (F := fun (n : Nat) => D.int n) trivial _ ?_ ?_
  · intro x hx K1 K2 h2
    simp
    refine ⟨x, m, rfl, h x hx, ?_⟩
    simp; exact h2
  · simp [oNe_nil, sl1]
    refine ⟨_, _, both_tup, ?_⟩
    have := zip_drop (F := fun (n : Nat) => D.int n) (ps := ls)
    simp only [List.drop_one] at this
    unfold nl
    rw [this]
    refine comp_none both_tup _ ?_ ?_
    · rintro ⟨x, y⟩ hx K1 K2 h2
      have := zip_rel hu _ (by simpa using hx)
      simp [gNames, this]
      exact h2
    · simp [oEq_nil]; exact .refl q
theorem m_L_rc_is_lots : Meets sp_L_rc_is_lots 2 w_L_rc_is_lots := by
  rintro ds S Q E ⟨m, n, x, R, L, rfl, h1, h2, h3, h4, q⟩
  simp [wBody, w_L_rc_is_lots, oIsi, isT]
  refine ⟨R, m, rfl, h1, h2, ?_⟩
  simp
  exact ⟨L, n, rfl, h3, h4, .refl q⟩
end K80
end Dl
set_option linter.all false
namespace Dl
namespace K80
open Mt Cm
theorem m_near_of : Meets sp_near_of 4 w_near_of := by
  rintro ds S Q E ⟨m, n, ps, rfl, hw, q⟩
  have hm := hw.m24
  simp [wBody, w_near_of, wD, wipe]
  refine ⟨by omega, ?_⟩
  have := rows_comp (S := S) (chk := fun _ => True) (s := [some (.tup [.int m, .int n, .tup (ps.map pD)]), none, none, none]) (v := 2) (m := m) (fun _ => trivial) (Q := fun xs S1 => ∀ a0, S1 a0 = none → loop (fun S' => True) (gTup [2, 3]) (sExpr (wAppend (w2 oIx (wVar 1) (wVar 2)) (wVar 3))) { nx := sRet (wVar 1) { nx := fun _ S' => Fz Q .non S', rt := Q, ex := E }, rt := Q, ex := E } (ps.map pD) [some (.tup [.int m, .int n, .tup (ps.map pD)]), some (.ref a0), none, none] (set S1 a0 (.lst xs)))
  refine this ?_
  intro bs S1 hb a0 ha0
  have h0 := hb a0 ha0
  refine loop_map (P := fun rest s S3 => ∃ done x y z, ps = done ++ rest ∧ s = [x, some (.ref a0), y, z] ∧ Bk S m a0 bs done S3) ?_ ?_ _ _ _ ⟨[], _, _, _, rfl, rfl, h0⟩
  · rintro s S3 ⟨done, x, y, z, rfl, rfl, hB⟩
    refine ⟨trivial, ?_⟩
    simp at q
    simp
    exact hB.fz q
  · rintro ⟨r, l⟩ rest s S3 N ⟨done, x, y, z, e, rfl, hB⟩ hN
    have hr : r < m := (hw.lt (r, l) (by rw [e]; simp)).1
    refine ⟨trivial, ?_⟩
    have hi : r < bs.length := hB.hl ▸ hr
    have hlen : (row done r).length ≤ ps.length := by
      rw [e]; unfold row; simp
      have := List.length_filter_le (fun p : Nat × Nat => p.1 == r) done
      omega
    have := hw.len
    simp [pD, gNames, hB.ix hr]
    refine ⟨_, isLst_ref (hB.at1 r hi), _, hB.at1 r hi, by rw [nl_len]; omega, hN _ _ ⟨done ++ [(r, l)], _, _, _, by rw [e]; simp, rfl, hB.app hr⟩⟩
theorem m_L_rc_near : Meets sp_L_rc_near 5 w_L_rc_near := by
  rintro ds S Q E ⟨m, n, ps, d, rfl, hd, hw, q⟩
  have hm := hw.m24
  have hs : ∀ S', seqOf S' d = some (ps.map pD) := by rcases hd with rfl | rfl <;> exact fun _ => rfl
  simp [wBody, w_L_rc_near, wipe, hs]
  refine ⟨by omega, ?_⟩
  refine rows_comp (m := m) (fun _ => trivial) ?_
  intro bs S1 hb a0 ha0
  have h0 := hb a0 ha0
  refine loop_map (P := fun rest s S3 => ∃ done x x' y z, ps = done ++ rest ∧ s = [x, x', some (.ref a0), y, z] ∧ Bk S m a0 bs done S3) ?_ ?_ _ _ _ ⟨[], _, _, _, _, rfl, rfl, h0⟩
  · rintro s S3 ⟨done, x, x', y, z, rfl, rfl, hB⟩
    refine ⟨trivial, ?_⟩
    simp at q
    simp
    exact hB.fz q
  · rintro ⟨r, l⟩ rest s S3 N ⟨done, x, x', y, z, e, rfl, hB⟩ hN
    have hr : r < m := (hw.lt (r, l) (by rw [e]; simp)).1
    refine ⟨trivial, ?_⟩
    have hi : r < bs.length := hB.hl ▸ hr
    have hlen : (row done r).length ≤ ps.length := by
      rw [e]; unfold row; simp
      have := List.length_filter_le (fun p : Nat × Nat => p.1 == r) done
      omega
    have := hw.len
    simp [pD, gNames, hB.ix hr]
    refine ⟨_, isLst_ref (hB.at1 r hi), _, hB.at1 r hi, by rw [nl_len]; omega, hN _ _ ⟨done ++ [(r, l)], _, _, _, _, by rw [e]; simp, rfl, hB.app hr⟩⟩
end K80
end Dl
set_option linter.all false
namespace Dl
namespace K80
open Mt Cm
theorem nd_rev {α : Type} {l : List α} (h : l.Nodup) : l.reverse.Nodup := List.pairwise_reverse.mpr (h.imp fun hab e => hab e.symm)
theorem off_hlen {m n l : Nat} {ps H T : Prs} (h : Off ps H T l) (hb : Bd m n ps) : H.length ≤ 24 := by
  have := h.hn.length_le_of_subset (l₂ := List.range m) (fun r hr => by
    obtain ⟨p, hp, rfl⟩ := List.mem_map.mp hr
    exact List.mem_range.mpr (hb.lt p (h.sub p hp)).1)
  have := hb.m24
  simp at *; omega
theorem off_tlen {m n l : Nat} {ps H T : Prs} (h : Off ps H T l) (hb : Bd m n ps) : T.length ≤ 25 := by
  have := h.tn.length_le_of_subset (l₂ := l :: List.range n) (fun k hk => by
    obtain ⟨⟨k, r⟩, hp, rfl⟩ := List.mem_map.mp hk
    by_cases e : k = l
    · simp [e]
    · have := hb.lt _ (h.sub _ ((h.iff r k e).mpr hp))
      simp [this.2])
  have := hb.n24
  simp at *; omega
theorem way_put {H : Prs} {r l l' r' : Nat} {c : Prs} (hH : (H.map (·.1)).Nodup) (hr : (r, l') ∈ H) (h : Way H ((l', r') :: c)) (hn : l' ∉ c.map (·.1)) : Way (np H r l) ((l', r') :: c) := by
  refine ⟨fun y hy => ?_, Way.put hH hr h.2 hn⟩
  rcases (mem_np hH).mp hy with ⟨e, _⟩ | ⟨_, hm⟩
  · exact absurd (h.1 l' (by rw [e]; exact hr)) hn
  · exact h.1 y hm
theorem m_exchange_along : Meets sp_exchange_along 6 w_exchange_along := by
  rintro ds S Q E ⟨h, t, c, l, m, n, H, T, C, ps, rfl, hht, hhc, htc, e1, e2, e3, hO, hC, hW, hl, hp, hb, q⟩
  simp [wBody, w_exchange_along]
  obtain ⟨r, c1, c0, hc, hW1⟩ := hW.cut (by rw [List.map_reverse]; exact nd_rev hC) (l' := l) (by simpa using hl)
  refine while_ok (P := fun k s S1 => ∃ lv x y H1 T1, s = [some (.ref h), some (.ref t), some (.ref c), some lv, x, y] ∧ S1 h = some (.dK (nd H1)) ∧ S1 t = some (.dK (nd T1)) ∧ S1 c = some (.dK (nd C)) ∧ (∀ b, b ≠ h → b ≠ t → S1 b = S b) ∧
      ((lv = .non ∧ Inv ps H1 T1 ∧ H1.length = H.length + 1 ∧ k = 0) ∨ ∃ (l r : Nat) (c1 c0 : Prs), lv = .int l ∧ C.reverse = c0 ++ (l, r) :: c1 ∧ Way H1 ((l, r) :: c1) ∧ Off ps H1 T1 l ∧ H1.length = H.length ∧ k = c1.length + 1)) (c1.length + 1) ?_
      ⟨_, _, _, H, T, rfl, e1, e2, e3, fun _ _ _ => rfl, .inr ⟨l, r, c1, c0, rfl, hc, hW1, hO, rfl, rfl⟩⟩
  clear hW1 hc hO hW e1 e2 e3 hl
  rintro k s S1 N ⟨lv, x, y, H1, T1, rfl, d1, d2, d3, hf, hs⟩ hN
  rcases hs with ⟨rfl, hI, hlen, rfl⟩ | ⟨l, r, c1, c0, rfl, hc, hW, hO, hlen, rfl⟩
  · simp
    exact .refl (q H1 T1 S1 hI hlen d1 d2 hf)
  · have hCr : (C.reverse.map (·.1)).Nodup := by rw [List.map_reverse]; exact nd_rev hC
    have hm : (l, r) ∈ C := by rw [← List.mem_reverse, hc]; simp
    have hlr : (r, l) ∈ ps := hp _ hm
    have h24 := off_hlen hO hb
    have t25 := off_tlen hO hb
    simp [oIx_dK d3 hC hm]
    refine ⟨⟨h, isDct_dK d1⟩, nd H1, dictOf_dK d1, ?_⟩
    refine put_dK d1 (by omega) ?_
    have hput : ∀ Q2 : Store → Prop, Q2 (set (set S1 h (.dK (nd (np H1 r l)))) t (.dK (nd (np T1 l r)))) → putIx (set S1 h (.dK (nd (np H1 r l)))) (.ref t) (.int l) (.int r) Q2 := fun Q2 q2 => by
      refine put_dK (T := T1) ?_ (by omega) q2
      rw [set_ne (Ne.symm hht)]; exact d2
    refine hput _ ?_
    have g1 : (set (set S1 h (.dK (nd (np H1 r l)))) t (.dK (nd (np T1 l r)))) h = some (.dK (nd (np H1 r l))) := by rw [set_ne hht, set_same]
    have g3 : (set (set S1 h (.dK (nd (np H1 r l)))) t (.dK (nd (np T1 l r)))) c = some (.dK (nd C)) := by rw [set_ne (Ne.symm htc), set_ne (Ne.symm hhc)]; exact d3
    have gf : ∀ b, b ≠ h → b ≠ t → (set (set S1 h (.dK (nd (np H1 r l)))) t (.dK (nd (np T1 l r)))) b = S b := fun b h1 h2 => by rw [set_ne h2, set_ne h1]; exact hf b h1 h2
    have hnd : (((l, r) :: c1).map (·.1)).Nodup := by
      rw [hc, List.map_append] at hCr
      exact (List.nodup_append.mp hCr).2.1
    by_cases hr : r ∈ H1.map (·.1)
    · obtain ⟨l', hl'⟩ := key_mem.mp hr
      have hl1 : l' ∈ c1.map (·.1) := hW.1 l' hl'
      obtain ⟨r', c3, c2, hc2, hW3⟩ := hW.2.cut (List.nodup_cons.mp hnd).2 hl1
      subst hc2
      have hnd3 : l' ∉ c3.map (·.1) := by
        have := (List.nodup_cons.mp hnd).2
        rw [List.map_append] at this
        exact (List.nodup_cons.mp (List.nodup_append.mp this).2.1).1
      rw [dget_nd hO.hn hl', Option.getD_some]
      refine hN (c3.length + 1) _ _ (by simp; omega) ⟨.int l', _, _, _, _, rfl, g1, set_same, g3, gf, .inr ⟨l', r', c3, c0 ++ (l, r) :: c2, rfl, by rw [hc]; simp, way_put hO.hn hl' hW3 hnd3, hO.step hl' hlr, by rw [np_len_in hr]; exact hlen, rfl⟩⟩
    · rw [dget_nd_none hr, Option.getD_none]
      refine hN 0 _ _ (by simp) ⟨.non, _, _, _, _, rfl, g1, set_same, g3, gf, .inl ⟨rfl, hO.last hr hlr, by rw [np_len_out hr, hlen], rfl⟩⟩
end K80
end Dl
set_option linter.all false
namespace Dl
namespace K80
open Mt Cm
/-- what a search has found so far; of r0 the lines in rest are still to be looked at -/
structure Bf (m : Nat) (ps H T C : Prs) (qu : List Nat) (r0 : Nat) (rest : List Nat) : Prop where
  cn : (C.map (·.1)).Nodup
  cp : ∀ p ∈ C, (p.2, p.1) ∈ ps
  ct : ∀ l ∈ C.map (·.1), ∃ r, (l, r) ∈ T
  way : Way H C.reverse
  qk : ∀ r ∈ qu, r < m ∧ (r ∉ H.map (·.1) ∨ ∃ l ∈ C.map (·.1), (l, r) ∈ T)
  cl : ∀ r, ((r < m ∧ r ∉ H.map (·.1)) ∨ ∃ l ∈ C.map (·.1), (l, r) ∈ T) → r ∈ qu ∨ ∀ l ∈ row ps r, l ∈ C.map (·.1) ∨ (r = r0 ∧ l ∈ rest)
theorem Bf.len {m n : Nat} {ps H T C : Prs} {qu : List Nat} {r0 : Nat} {rest : List Nat} (h : Bf m ps H T C qu r0 rest) (hb : Bd m n ps) : C.length ≤ n := by
  have := h.cn.length_le_of_subset (l₂ := List.range n) (fun l hl => by
    obtain ⟨p, hp, rfl⟩ := List.mem_map.mp hl
    exact List.mem_range.mpr (hb.lt _ (h.cp p hp)).2)
  simpa using this
theorem Bf.done {m n : Nat} {ps H T C : Prs} {r0 : Nat} (h : Bf m ps H T C [] r0 []) (hI : Mt.Inv ps H T) (hb : Bd m n ps) : Clo ps H (· ∈ C.map (·.1)) := by
  refine ⟨fun p hp hx => ?_, fun l hl => ?_, fun q hq hl p hp e => ?_⟩
  · rcases h.cl p.1 (.inl ⟨(hb.lt p hp).1, hx⟩) with h1 | h1
    · simp at h1
    · rcases h1 p.2 (mem_row.mpr hp) with h2 | h2
      · exact h2
      · simp at h2
  · obtain ⟨r, hr⟩ := h.ct l hl
    exact ⟨r, (hI.iff _ _).mpr hr⟩
  · rcases h.cl q.1 (.inr ⟨q.2, hl, (hI.iff _ _).mp hq⟩) with h1 | h1
    · simp at h1
    · rcases h1 p.2 (mem_row.mpr (e ▸ hp)) with h2 | h2
      · exact h2
      · simp at h2
theorem Bf.skip {m : Nat} {ps H T C : Prs} {qu : List Nat} {r0 l0 : Nat} {rest : List Nat} (h : Bf m ps H T C qu r0 (l0 :: rest)) (hl : l0 ∈ C.map (·.1)) : Bf m ps H T C qu r0 rest := by
  refine ⟨h.cn, h.cp, h.ct, h.way, h.qk, fun r hr => ?_⟩
  rcases h.cl r hr with h1 | h1
  · exact .inl h1
  · refine .inr fun l hl' => ?_
    rcases h1 l hl' with h2 | ⟨h2, h3⟩
    · exact .inl h2
    · rcases List.mem_cons.mp h3 with rfl | h3
      · exact .inl hl
      · exact .inr ⟨h2, h3⟩
theorem Bf.wy {m : Nat} {ps H T C : Prs} {qu : List Nat} {r0 l0 : Nat} {rest : List Nat} (h : Bf m ps H T C qu r0 (l0 :: rest)) (hI : Mt.Inv ps H T) (hr : r0 ∉ H.map (·.1) ∨ ∃ l ∈ C.map (·.1), (l, r0) ∈ T) :
    Way H (C ++ [(l0, r0)]).reverse := by
  rw [List.reverse_append]
  refine ⟨fun l' hl' => ?_, h.way⟩
  rcases hr with hr | ⟨l, hl, hr⟩
  · exact absurd (List.mem_map_of_mem (f := (·.1)) hl') hr
  · have := key_fun hI.hn ((hI.iff _ _).mpr hr) hl'
    subst this
    show l ∈ C.reverse.map (·.1)
    rw [List.map_reverse]
    simpa using hl
theorem Bf.step {m n : Nat} {ps H T C : Prs} {qu : List Nat} {r0 l0 r1 : Nat} {rest : List Nat} (h : Bf m ps H T C qu r0 (l0 :: rest)) (hI : Mt.Inv ps H T) (hb : Bd m n ps) (hr : r0 ∉ H.map (·.1) ∨ ∃ l ∈ C.map (·.1), (l, r0) ∈ T)
    (hn : l0 ∉ C.map (·.1)) (hp : (r0, l0) ∈ ps) (ht : (l0, r1) ∈ T) : Bf m ps H T (C ++ [(l0, r0)]) (qu ++ [r1]) r0 rest := by
  have mono : ∀ {l}, l ∈ C.map (·.1) → l ∈ (C ++ [(l0, r0)]).map (·.1) := fun h => by rw [List.map_append]; exact List.mem_append_left _ h
  have new : l0 ∈ (C ++ [(l0, r0)]).map (·.1) := by simp
  have h1m := (hb.lt _ (hI.sub _ ((hI.iff _ _).mpr ht))).1
  refine ⟨?_, ?_, ?_, h.wy hI hr, ?_, ?_⟩
  · rw [List.map_append]
    refine List.nodup_append.mpr ⟨h.cn, by simp, fun a ha b hb e => ?_⟩
    simp at hb; subst hb; exact hn (e ▸ ha)
  · intro p hp'
    rcases List.mem_append.mp hp' with h1 | h1
    · exact h.cp p h1
    · simp at h1; subst h1; exact hp
  · intro l hl
    rw [List.map_append] at hl
    rcases List.mem_append.mp hl with h1 | h1
    · exact h.ct l h1
    · simp at h1; subst h1; exact ⟨r1, ht⟩
  · intro r hr'
    rcases List.mem_append.mp hr' with h1 | h1
    · obtain ⟨a, b⟩ := h.qk r h1
      refine ⟨a, b.imp id fun ⟨l, h2, h3⟩ => ⟨l, mono h2, h3⟩⟩
    · simp at h1; subst h1
      exact ⟨h1m, .inr ⟨l0, new, ht⟩⟩
  · intro r hr'
    have hr2 : ((r < m ∧ r ∉ H.map (·.1)) ∨ ∃ l ∈ C.map (·.1), (l, r) ∈ T) ∨ r = r1 := by
      rcases hr' with h1 | ⟨l, h1, h2⟩
      · exact .inl (.inl h1)
      · rw [List.map_append] at h1
        rcases List.mem_append.mp h1 with h1 | h1
        · exact .inl (.inr ⟨l, h1, h2⟩)
        · simp at h1; subst h1; exact .inr (key_fun hI.tn h2 ht)
    rcases hr2 with h1 | rfl
    · rcases h.cl r h1 with h2 | h2
      · exact .inl (List.mem_append_left _ h2)
      · refine .inr fun l hl => ?_
        rcases h2 l hl with h3 | ⟨h3, h4⟩
        · exact .inl (mono h3)
        · rcases List.mem_cons.mp h4 with rfl | h4
          · exact .inl new
          · exact .inr ⟨h3, h4⟩
    · exact .inl (by simp)
theorem inv_off {ps H T : Prs} {l : Nat} (h : Mt.Inv ps H T) (hl : l ∉ T.map (·.1)) : Off ps H T l :=
  ⟨h.hn, h.tn, fun r l1 _ => h.iff r l1, fun r hr => hl (key_mem.mpr ⟨r, (h.iff _ _).mp hr⟩), h.sub⟩
theorem inv_hlen {m n : Nat} {ps H T : Prs} (h : Mt.Inv ps H T) (hb : Bd m n ps) : H.length ≤ m := by
  have := h.hn.length_le_of_subset (l₂ := List.range m) (fun r hr => by
    obtain ⟨p, hp, rfl⟩ := List.mem_map.mp hr
    exact List.mem_range.mpr (hb.lt p (h.sub p hp)).1)
  simpa using this
theorem ne_nl {S : Store} {a : Nat} {ns : List Nat} (h : S a = some (.lst (nl ns))) : oNe S (.ref a) (.lst []) = some (.bl (!ns.isEmpty)) := by
  rw [ne_nil h fits_lnl]; cases ns <;> rfl
theorem m_augmented : Meets sp_augmented 7 w_augmented := by
  rintro ds S Q E ⟨h, t, m, n, H, T, ps, rfl, hht, e1, e2, hI, hb, q1, q0⟩
  have hm := hb.m24
  have hn := hb.n24
  simp [wBody, w_augmented, near_len, wipe]
  intro c hc
  refine ⟨by omega, ?_⟩
  have hch : c ≠ h := fun e => by rw [e, e1] at hc; cases hc
  have hct : c ≠ t := fun e => by rw [e, e2] at hc; cases hc
  have i1 : (set S c (.dK [])) h = some (.dK (nd H)) := by rw [set_ne (Ne.symm hch)]; exact e1
  refine comp_map (F := fun (i : Nat) => D.int i) (p := fun r => decide (r ∉ H.map (·.1))) (f := fun (i : Nat) => D.int i) trivial _ _ ?_ ?_
  · intro r hr K1 K2 h1 h2
    by_cases hrH : r ∈ H.map (·.1)
    · simp [oNotIn_dK i1, hrH]
      exact h2 (by simpa using hrH)
    · simp [oNotIn_dK i1, hrH]
      exact h1 (by simpa using hrH)
  intro qr hq
  have hqc : qr ≠ c := fun e => by rw [e, set_same] at hq; cases hq
  rw [set_ne hqc] at hq
  have hqh : qr ≠ h := fun e => by rw [e, e1] at hq; cases hq
  have hqt : qr ≠ t := fun e => by rw [e, e2] at hq; cases hq
  refine while_ok (P := fun k s S1 => ∃ x y C qu r0, s = [some (nearD m ps), some (.ref h), some (.ref t), some (.ref c), some (.ref qr), x, y] ∧ S1 c = some (.dK (nd C)) ∧ S1 qr = some (.lst (nl qu)) ∧
      (∀ b, b ≠ c → b ≠ qr → S1 b = S b) ∧ Bf m ps H T C qu r0 [] ∧ k = qu.length + (n - C.length) ∧ k ≤ 48) (((List.range m).filter fun r => decide (r ∉ H.map (·.1))).length + n) ?_
      ⟨_, _, [], (List.range m).filter fun r => decide (r ∉ H.map (·.1)), 0, rfl, by rw [set_ne (Ne.symm hqc), set_same]; rfl, by rw [set_same]; rfl, fun b h1 h2 => by rw [set_ne h2, set_ne h1], ?_, by simp, by
        have := List.length_filter_le (fun r => decide (r ∉ H.map (·.1))) (List.range m)
        simp at this ⊢; omega⟩
  · rintro k s S1 N ⟨x, y, C, qu, r0, rfl, d1, d2, hf, hB, hk, hk48⟩ hN
    cases qu with
    | nil =>
      simp [ne_nl d2]
      refine fz_same (S0 := S) (fun a o ha => ?_) (q0 _ (hB.done hI hb))
      rw [hf a (fun e => by rw [e, hc] at ha; cases ha) (fun e => by rw [e, hq] at ha; cases ha)]; exact ha
    | cons r0' qu =>
      have hqk := hB.qk r0' (by simp)
      simp [ne_nl d2]
      refine ⟨qr, isLst_ref d2, _, d2, .int r0', by simp [nl], ?_⟩
      refine ⟨_, near_ix hqk.1, _, rfl, ?_⟩
      have hB0 : Bf m ps H T C qu r0' (row ps r0') := by
        refine ⟨hB.cn, hB.cp, hB.ct, hB.way, fun r hr => hB.qk r (by simp [hr]), fun r hr => ?_⟩
        rcases hB.cl r hr with h1 | h1
        · rcases List.mem_cons.mp h1 with rfl | h1
          · exact .inr fun l hl => .inr ⟨rfl, hl⟩
          · exact .inl h1
        · refine .inr fun l hl => ?_
          rcases h1 l hl with h2 | h2
          · exact .inl h2
          · simp at h2
      refine loop_map (F := fun (i : Nat) => D.int i) (P := fun rest s S2 => ∃ y C qu', s = [some (nearD m ps), some (.ref h), some (.ref t), some (.ref c), some (.ref qr), some (.int r0'), y] ∧ S2 c = some (.dK (nd C)) ∧ S2 qr = some (.lst (nl qu')) ∧
        (∀ b, b ≠ c → b ≠ qr → S2 b = S b) ∧ Bf m ps H T C qu' r0' rest ∧ (r0' ∉ H.map (·.1) ∨ ∃ l ∈ C.map (·.1), (l, r0') ∈ T) ∧ (∀ l ∈ rest, (r0', l) ∈ ps) ∧ qu'.length + (n - C.length) + 1 = k) ?_ ?_ _ _ _ ?_
      · rintro s S2 ⟨y, C, qu', rfl, d1, d2, hf, hB, -, -, hk⟩
        exact ⟨rfl, hN _ _ _ (by omega) ⟨_, _, C, qu', r0', rfl, d1, d2, hf, hB, rfl, by omega⟩⟩
      · rintro l rest s S2 N2 ⟨y, C, qu', rfl, d1, d2, hf, hB, hr0, hps, hk⟩ hN2
        refine ⟨rfl, ?_⟩
        have hpl := hps l (by simp)
        have f1 : S2 h = some (.dK (nd H)) := by rw [hf h (Ne.symm hch) (Ne.symm hqh)]; exact e1
        have f2 : S2 t = some (.dK (nd T)) := by rw [hf t (Ne.symm hct) (Ne.symm hqt)]; exact e2
        have hCl := hB.len hb
        by_cases hlC : l ∈ C.map (·.1)
        · simp [oNotIn_dK d1, hlC]
          exact hN2 _ _ ⟨_, C, qu', rfl, d1, d2, hf, hB.skip hlC, hr0, fun l hl => hps l (by simp [hl]), hk⟩
        · simp [oNotIn_dK d1, hlC]
          refine put_dK d1 (by omega) ?_
          rw [np_out hlC]
          have g1 : (set S2 c (.dK (nd (C ++ [(l, r0')])))) h = some (.dK (nd H)) := by rw [set_ne (Ne.symm hch)]; exact f1
          have g2 : (set S2 c (.dK (nd (C ++ [(l, r0')])))) t = some (.dK (nd T)) := by rw [set_ne (Ne.symm hct)]; exact f2
          have g4 : (set S2 c (.dK (nd (C ++ [(l, r0')])))) qr = some (.lst (nl qu')) := by rw [set_ne hqc]; exact d2
          by_cases hlT : l ∈ T.map (·.1)
          · simp [oNotIn_dK g2, hlT]
            obtain ⟨r1, hr1⟩ := key_mem.mp hlT
            have hst := hB.step hI hb hr0 hlC hpl hr1
            have hCl' := hst.len hb
            refine ⟨qr, isLst_ref g4, _, oIx_dK g2 hI.tn hr1, _, g4, by rw [nl_len]; omega, ?_⟩
            refine hN2 _ _ ⟨_, C ++ [(l, r0')], qu' ++ [r1], rfl, ?_, ?_, ?_, hst, ?_, fun l hl => hps l (by simp [hl]), ?_⟩
            · rw [set_ne (Ne.symm hqc), set_same]
            · rw [set_same]; simp [nl]
            · intro b h1 h2
              rw [set_ne h2, set_ne h1]; exact hf b h1 h2
            · exact hr0.imp id fun ⟨l', h2, h3⟩ => ⟨l', by rw [List.map_append]; exact List.mem_append_left _ h2, h3⟩
            · simp at hCl' ⊢; omega
          · simp [oNotIn_dK g2, hlT]
            refine ⟨h, t, c, l, m, n, H, T, C ++ [(l, r0')], ps, rfl, hht, Ne.symm hch, Ne.symm hct, g1, g2, set_same, inv_off hI hlT, ?_, hB.wy hI hr0, by simp, ?_, hb, ?_⟩
            · rw [List.map_append]
              refine List.nodup_append.mpr ⟨hB.cn, by simp, fun a ha b hb e => ?_⟩
              simp at hb; subst hb; exact hlC (e ▸ ha)
            · intro p hp
              rcases List.mem_append.mp hp with h1 | h1
              · exact hB.cp p h1
              · simp at h1; subst h1; exact hpl
            · intro H' T' S' hI' hlen k1 k2 k3
              refine fz_rst (S0 := S) (q1 H' T' _ hI' hlen ?_ ?_ ?_)
              · rw [rst_at e1]; exact k1
              · rw [rst_at e2]; exact k2
              · intro b h1 h2
                cases hSb : S b with
                | none => exact rst_none hSb
                | some o =>
                  rw [rst_at hSb, k3 b h1 h2]
                  have b1 : b ≠ c := fun e => by rw [e, hc] at hSb; cases hSb
                  have b2 : b ≠ qr := fun e => by rw [e, hq] at hSb; cases hSb
                  rw [set_ne b1, hf b b1 b2]; exact hSb
      · refine ⟨_, C, qu, rfl, by rw [set_ne (Ne.symm hqc)]; exact d1, ?_, ?_, hB0, hqk.2, fun l hl => mem_row.mp hl, by simp at hk; omega⟩
        · rw [set_same]; simp [nl]
        · intro b h1 h2
          rw [set_ne h2]; exact hf b h1 h2
  · refine ⟨.nil, by simp, by simp, trivial, ?_, ?_⟩
    · intro r hr
      have := List.mem_filter.mp hr
      exact ⟨List.mem_range.mp this.1, .inl (by simpa using this.2)⟩
    · rintro r (⟨h1, h2⟩ | ⟨l, h1, _⟩)
      · exact .inl (List.mem_filter.mpr ⟨List.mem_range.mpr h1, by simpa using h2⟩)
      · simp at h1
end K80
end Dl
set_option linter.all false
namespace Dl
namespace K80
open Mt Cm
theorem m_greatest : Meets sp_greatest 4 w_greatest := by
  rintro ds S Q E ⟨m, n, ps, rfl, hb, q⟩
  simp [wBody, w_greatest]
  intro h hh t ht
  have hth : t ≠ h := fun e => by rw [e, set_same] at ht; cases ht
  rw [set_ne hth] at ht
  refine while_ok (P := fun k s S1 => ∃ b H T, s = [some (nearD m ps), some (.ref h), some (.ref t), some (.bl b)] ∧ S1 h = some (.dK (nd H)) ∧ S1 t = some (.dK (nd T)) ∧ (∀ c, c ≠ h → c ≠ t → S1 c = S c) ∧ Mt.Inv ps H T ∧
    ((b = true ∧ k = m - H.length + 1) ∨ (b = false ∧ k = 0 ∧ ∃ V, Clo ps H V))) (m + 1) ?_
    ⟨true, [], [], rfl, by rw [set_ne (Ne.symm hth), set_same]; rfl, by rw [set_same]; rfl, fun c h1 h2 => by rw [set_ne h2, set_ne h1], ⟨.nil, .nil, by simp, by simp⟩, .inl ⟨rfl, by simp⟩⟩
  rintro k s S1 N ⟨b, H, T, rfl, d1, d2, hf, hI, hc⟩ hN
  rcases hc with ⟨rfl, rfl⟩ | ⟨rfl, rfl, V, hV⟩
  · simp
    refine ⟨h, t, m, n, H, T, ps, rfl, Ne.symm hth, d1, d2, hI, hb, ?_, ?_⟩
    · intro H' T' S' hI' hl k1 k2 k3
      have := inv_hlen hI' hb
      exact hN (m - H'.length + 1) _ _ (by omega) ⟨true, H', T', rfl, k1, k2, fun c h1 h2 => by rw [k3 c h1 h2]; exact hf c h1 h2, hI', .inl ⟨rfl, rfl⟩⟩
    · intro V hV
      exact hN 0 _ _ (by omega) ⟨false, H, T, rfl, d1, d2, hf, hI, .inr ⟨rfl, rfl, V, hV⟩⟩
  · simp
    exact .refl (q h t H T V S1 (Ne.symm hth) hh ht hI hV d1 d2 hf)
theorem isort_nl (R : List Nat) : ∃ R', (isort (R.map fun (n : Nat) => (n : Int))).map D.int = nl R' ∧ R'.Perm R ∧ R'.Pairwise (· ≤ ·) := by
  have hp : (isort (R.map fun (n : Nat) => (n : Int))).Perm (R.map fun (n : Nat) => (n : Int)) := List.mergeSort_perm _ _
  have hs : (isort (R.map fun (n : Nat) => (n : Int))).Pairwise (fun a b => decide (a ≤ b) = true) :=
    List.pairwise_mergeSort (fun a b c h1 h2 => by simp at *; omega) (fun a b => by simp; omega) _
  refine ⟨(isort (R.map fun (n : Nat) => (n : Int))).map Int.toNat, ?_, ?_, ?_⟩
  · unfold nl
    rw [List.map_map]
    refine List.map_congr_left fun x hx => ?_
    obtain ⟨k, _, rfl⟩ := List.mem_map.mp (hp.mem_iff.mp hx)
    rfl
  · have := hp.map Int.toNat
    rw [List.map_map] at this
    refine this.trans (.of_eq ?_)
    rw [show (Int.toNat ∘ fun (n : Nat) => (n : Int)) = id from rfl, List.map_id]
  · refine List.pairwise_map.mpr (hs.imp fun {a b} h => ?_)
    simp at h; omega
theorem srt_lt {R : List Nat} (h : R.Pairwise (· ≤ ·)) (hn : R.Nodup) : R.Pairwise (· < ·) := by
  have := List.Pairwise.and h hn
  exact this.imp fun ⟨a, b⟩ => Nat.lt_of_le_of_ne a b
/-- what is left out, so far -/
structure Lo (m : Nat) (ps H T : Prs) (V : Nat → Prop) (L R qu : List Nat) (r0 : Nat) (rest : List Nat) : Prop where
  ln : L.Nodup
  lv : ∀ l ∈ L, V l
  rn : R.Nodup
  rm : ∀ r ∈ R, r < m
  len : R.length + H.length = m + L.length
  rk : ∀ r ∈ R, r ∉ H.map (·.1) ∨ ∃ l ∈ L, (l, r) ∈ T
  rx : ∀ r, r < m → r ∉ H.map (·.1) → r ∈ R
  qk : ∀ r ∈ qu, r ∈ R
  cl : ∀ r ∈ R, r ∈ qu ∨ ∀ l ∈ row ps r, l ∈ L ∨ (r = r0 ∧ l ∈ rest)
  nb : ∀ l ∈ L, ∃ r ∈ R, (r, l) ∈ ps
  least : ∀ X : Nat → Prop, (∀ r, r < m → r ∉ H.map (·.1) → X r) → (∀ r l r', X r → (r, l) ∈ ps → (l, r') ∈ T → X r') → ∀ r ∈ R, X r
section
variable {m n : Nat} {ps H T : Prs} {V : Nat → Prop} {L R qu : List Nat} {r0 : Nat}
theorem Lo.llen {rest : List Nat} (h : Lo m ps H T V L R qu r0 rest) (hb : Bd m n ps) : L.length ≤ n := by
  have := h.ln.length_le_of_subset (l₂ := List.range n) (fun l hl => by
    obtain ⟨r, _, hr⟩ := h.nb l hl
    exact List.mem_range.mpr (hb.lt _ hr).2)
  simpa using this
theorem Lo.rlen {rest : List Nat} (h : Lo m ps H T V L R qu r0 rest) : R.length ≤ m := by
  have := h.rn.length_le_of_subset (l₂ := List.range m) (fun r hr => List.mem_range.mpr (h.rm r hr))
  simpa using this
theorem Lo.skip {l0 : Nat} {rest : List Nat} (h : Lo m ps H T V L R qu r0 (l0 :: rest)) (hl : l0 ∈ L) : Lo m ps H T V L R qu r0 rest := by
  refine ⟨h.ln, h.lv, h.rn, h.rm, h.len, h.rk, h.rx, h.qk, fun r hr => ?_, h.nb, h.least⟩
  rcases h.cl r hr with h1 | h1
  · exact .inl h1
  · refine .inr fun l hl' => ?_
    rcases h1 l hl' with h2 | ⟨h2, h3⟩
    · exact .inl h2
    · rcases List.mem_cons.mp h3 with rfl | h3
      · exact .inl hl
      · exact .inr ⟨h2, h3⟩
theorem Lo.inV {rest : List Nat} {l : Nat} (h : Lo m ps H T V L R qu r0 rest) (hI : Mt.Inv ps H T) (hV : Clo ps H V) (hr : r0 ∈ R) (hp : (r0, l) ∈ ps) : V l := by
  rcases h.rk r0 hr with h1 | ⟨l', h1, h2⟩
  · exact hV.x _ hp h1
  · exact hV.c (r0, l') ((hI.iff _ _).mpr h2) (h.lv l' h1) _ hp rfl
theorem Lo.step {l0 r1 : Nat} {rest : List Nat} (h : Lo m ps H T V L R qu r0 (l0 :: rest)) (hI : Mt.Inv ps H T) (hV : Clo ps H V) (hb : Bd m n ps) (hr : r0 ∈ R)
    (hn : l0 ∉ L) (hp : (r0, l0) ∈ ps) (ht : (l0, r1) ∈ T) : Lo m ps H T V (L ++ [l0]) (R ++ [r1]) (qu ++ [r1]) r0 rest := by
  have hH := (hI.iff _ _).mpr ht
  have h1m := (hb.lt _ (hI.sub _ hH)).1
  have hnR : r1 ∉ R := fun hR => by
    rcases h.rk r1 hR with h1 | ⟨l', h1, h2⟩
    · exact h1 (List.mem_map_of_mem (f := (·.1)) hH)
    · have := key_fun hI.hn ((hI.iff _ _).mpr h2) hH
      exact hn (this ▸ h1)
  refine ⟨?_, ?_, ?_, ?_, ?_, ?_, ?_, ?_, ?_, ?_, ?_⟩
  · refine List.nodup_append.mpr ⟨h.ln, by simp, fun a ha b hb e => ?_⟩
    simp at hb; subst hb; exact hn (e ▸ ha)
  · intro l hl
    rcases List.mem_append.mp hl with hl | hl
    · exact h.lv l hl
    · simp at hl; subst hl; exact h.inV hI hV hr hp
  · refine List.nodup_append.mpr ⟨h.rn, by simp, fun a ha b hb e => ?_⟩
    simp at hb; subst hb; exact hnR (e ▸ ha)
  · intro r hr
    rcases List.mem_append.mp hr with hr | hr
    · exact h.rm r hr
    · simp at hr; subst hr; exact h1m
  · have := h.len
    simp; omega
  · intro r hr
    rcases List.mem_append.mp hr with hr | hr
    · exact (h.rk r hr).imp id fun ⟨l, h1, h2⟩ => ⟨l, List.mem_append_left _ h1, h2⟩
    · simp at hr; subst hr; exact .inr ⟨l0, by simp, ht⟩
  · exact fun r h1 h2 => List.mem_append_left _ (h.rx r h1 h2)
  · intro r hr
    rcases List.mem_append.mp hr with hr | hr
    · exact List.mem_append_left _ (h.qk r hr)
    · exact List.mem_append_right _ hr
  · intro r hr
    rcases List.mem_append.mp hr with hr | hr
    · rcases h.cl r hr with h1 | h1
      · exact .inl (List.mem_append_left _ h1)
      · refine .inr fun l hl => ?_
        rcases h1 l hl with h2 | ⟨h2, h3⟩
        · exact .inl (List.mem_append_left _ h2)
        · rcases List.mem_cons.mp h3 with rfl | h3
          · exact .inl (by simp)
          · exact .inr ⟨h2, h3⟩
    · exact .inl (List.mem_append_right _ hr)
  · intro l hl
    rcases List.mem_append.mp hl with hl | hl
    · obtain ⟨r, h1, h2⟩ := h.nb l hl
      exact ⟨r, List.mem_append_left _ h1, h2⟩
    · simp at hl; subst hl; exact ⟨r0, List.mem_append_left _ hr, hp⟩
  · intro X hx hs r hr'
    rcases List.mem_append.mp hr' with h1 | h1
    · exact h.least X hx hs r h1
    · simp at h1; subst h1
      exact hs r0 l0 _ (h.least X hx hs r0 hr) hp ht
theorem Clo.nu (hV : Clo ps H V) (hI : Mt.Inv ps H T) (hb : Bd m n ps) : Nu m ps H.length :=
  Nu_of hI.mat (fun p hp => (hb.lt p hp).1) V hV.x hV.v hV.c
theorem Lo.dbl (h : Lo m ps H T V L R [] r0 []) (hI : Mt.Inv ps H T) (hV : Clo ps H V) (hb : Bd m n ps) {R' L' : List Nat} (hR : R'.Perm R) (hL : L'.Perm L) (sR : R'.Pairwise (· ≤ ·)) (sL : L'.Pairwise (· ≤ ·)) : Dbl m ps R' L' := by
  have hlt : ∀ p ∈ ps, p.1 < m := fun p hp => (hb.lt p hp).1
  have hnu := hV.nu hI hb
  refine ⟨srt_lt sR (hR.nodup_iff.mpr h.rn), srt_lt sL (hL.nodup_iff.mpr h.ln), ⟨hR.nodup_iff.mpr h.rn, fun r hr => h.rm r (hR.mem_iff.mp hr), fun p hp hr => ?_⟩, fun l hl => ?_, ⟨H.length, hnu, ?_⟩, ?_⟩
  · rcases h.cl p.1 (hR.mem_iff.mp hr) with h1 | h1
    · simp at h1
    · rcases h1 p.2 (mem_row.mpr hp) with h2 | h2
      · exact hL.mem_iff.mpr h2
      · simp at h2
  · obtain ⟨r, h1, h2⟩ := h.nb l (hL.mem_iff.mp hl)
    exact ⟨r, hR.mem_iff.mpr h1, h2⟩
  · have := h.len; rw [hR.length_eq, hL.length_eq]; omega
  · intro k C N hk hC he r hr
    have := hk.uniq hlt hnu
    subst this
    obtain ⟨t1, t2⟩ := tight hI.mat hlt hC he
    refine h.least (· ∈ C) t1 (fun r l r' h1 h2 h3 => t2 r h1 l h2 r' ((hI.iff _ _).mpr h3)) r (hR.mem_iff.mp hr)
end
theorem perm_srt {R : List Nat} : ∃ ns : List Int, nl R = ns.map D.int ∧ ∃ R', (isort ns).map D.int = nl R' ∧ R'.Perm R ∧ R'.Pairwise (· ≤ ·) := by
  refine ⟨R.map fun (n : Nat) => (n : Int), by simp [nl], isort_nl R⟩
theorem m_left_out : Meets sp_left_out 8 w_left_out := by
  rintro ds S Q E ⟨h, t, m, n, H, T, ps, V, rfl, hht, e1, e2, hI, hV, hb, q⟩
  have hm := hb.m24
  have hn := hb.n24
  simp [wBody, w_left_out, near_len, wipe]
  refine ⟨by omega, ?_⟩
  refine comp_map (F := fun (i : Nat) => D.int i) (p := fun r => decide (r ∉ H.map (·.1))) (f := fun (i : Nat) => D.int i) trivial _ _ ?_ ?_
  · intro r hr K1 K2 h1 h2
    by_cases hrH : r ∈ H.map (·.1)
    · simp [oNotIn_dK e1, hrH]
      exact h2 (by simpa using hrH)
    · simp [oNotIn_dK e1, hrH]
      exact h1 (by simpa using hrH)
  rw [List.nil_append]
  intro sr hs lr hl
  have hls : lr ≠ sr := fun e => by rw [e, set_same] at hl; cases hl
  rw [set_ne hls] at hl
  have i3 : (set (set S sr (.lst (nl ((List.range m).filter fun r => decide (r ∉ H.map (·.1)))))) lr (.lst [])) sr = some (.lst (nl ((List.range m).filter fun r => decide (r ∉ H.map (·.1))))) := by rw [set_ne (Ne.symm hls), set_same]
  refine ⟨_, seqOf_ref i3, fun qr hq => ?_⟩
  have hql : qr ≠ lr := fun e => by rw [e, set_same] at hq; cases hq
  rw [set_ne hql] at hq
  have hqs : qr ≠ sr := fun e => by rw [e, set_same] at hq; cases hq
  rw [set_ne hqs] at hq
  have nh : ∀ {b}, S b = none → b ≠ h := fun hb e => by rw [e, e1] at hb; cases hb
  have nt : ∀ {b}, S b = none → b ≠ t := fun hb e => by rw [e, e2] at hb; cases hb
  refine while_ok (P := fun k s S1 => ∃ x y L R qu r0, s = [some (nearD m ps), some (.ref h), some (.ref t), some (.ref sr), some (.ref lr), some (.ref qr), x, y] ∧ S1 sr = some (.lst (nl R)) ∧ S1 lr = some (.lst (nl L)) ∧ S1 qr = some (.lst (nl qu)) ∧
      (∀ b, b ≠ sr → b ≠ lr → b ≠ qr → S1 b = S b) ∧ Lo m ps H T V L R qu r0 [] ∧ k = qu.length + (n - L.length) ∧ k ≤ 48) (((List.range m).filter fun r => decide (r ∉ H.map (·.1))).length + n) ?_
      ⟨_, _, [], (List.range m).filter fun r => decide (r ∉ H.map (·.1)), (List.range m).filter fun r => decide (r ∉ H.map (·.1)), 0, rfl, by rw [set_ne (Ne.symm hqs)]; exact i3, by rw [set_ne (Ne.symm hql), set_same]; rfl, by rw [set_same], fun b h1 h2 h3 => by rw [set_ne h3, set_ne h2, set_ne h1], ?_, by simp, by
        have := List.length_filter_le (fun r => decide (r ∉ H.map (·.1))) (List.range m)
        simp at this ⊢; omega⟩
  · rintro k s S1 N ⟨x, y, L, R, qu, r0, rfl, d1, d2, d3, hf, hB, hk, hk48⟩ hN
    cases qu with
    | nil =>
      obtain ⟨ns, w1, R', w2, pR, sR⟩ := perm_srt (R := R)
      obtain ⟨ms, v1, L', v2, pL, sL⟩ := perm_srt (R := L)
      simp [ne_nl d3, lstOf_ref d1, lstOf_ref d2]
      refine .inl ⟨ns, w1, .inl ⟨ms, v1, ?_⟩⟩
      rw [w2, v2]
      refine fz_same (S0 := S) (fun a o ha => ?_) (q R' L' (hB.dbl hI hV hb pR pL sR sL))
      rw [hf a (fun e => by rw [e, hs] at ha; cases ha) (fun e => by rw [e, hl] at ha; cases ha) (fun e => by rw [e, hq] at ha; cases ha)]; exact ha
    | cons r0' qu =>
      have hqk := hB.qk r0' (by simp)
      simp [ne_nl d3]
      refine ⟨qr, isLst_ref d3, _, d3, .int r0', by simp [nl], ?_⟩
      refine ⟨_, near_ix (hB.rm _ hqk), _, rfl, ?_⟩
      have hB0 : Lo m ps H T V L R qu r0' (row ps r0') := by
        refine ⟨hB.ln, hB.lv, hB.rn, hB.rm, hB.len, hB.rk, hB.rx, fun r hr => hB.qk r (by simp [hr]), fun r hr => ?_, hB.nb, hB.least⟩
        rcases hB.cl r hr with h1 | h1
        · rcases List.mem_cons.mp h1 with rfl | h1
          · exact .inr fun l hl => .inr ⟨rfl, hl⟩
          · exact .inl h1
        · refine .inr fun l hl => ?_
          rcases h1 l hl with h2 | h2
          · exact .inl h2
          · simp at h2
      refine loop_map (F := fun (i : Nat) => D.int i) (P := fun rest s S2 => ∃ x y L R qu', s = [some (nearD m ps), some (.ref h), some (.ref t), some (.ref sr), some (.ref lr), some (.ref qr), x, y] ∧ S2 sr = some (.lst (nl R)) ∧ S2 lr = some (.lst (nl L)) ∧ S2 qr = some (.lst (nl qu')) ∧
        (∀ b, b ≠ sr → b ≠ lr → b ≠ qr → S2 b = S b) ∧ Lo m ps H T V L R qu' r0' rest ∧ r0' ∈ R ∧ (∀ l ∈ rest, (r0', l) ∈ ps) ∧ qu'.length + (n - L.length) + 1 = k) ?_ ?_ _ _ _ ?_
      · rintro s S2 ⟨x, y, L, R, qu', rfl, d1, d2, d3, hf, hB, -, -, hk⟩
        exact ⟨rfl, hN _ _ _ (by omega) ⟨_, _, L, R, qu', r0', rfl, d1, d2, d3, hf, hB, rfl, by omega⟩⟩
      · rintro l rest s S2 N2 ⟨x, y, L, R, qu', rfl, d1, d2, d3, hf, hB, hr0, hps, hk⟩ hN2
        refine ⟨rfl, ?_⟩
        have hpl := hps l (by simp)
        have f2 : S2 t = some (.dK (nd T)) := by rw [hf t (Ne.symm (nt hs)) (Ne.symm (nt hl)) (Ne.symm (nt hq))]; exact e2
        have hCl := hB.llen hb
        by_cases hlC : l ∈ L
        · simp [oNotIn_seq (seqOf_ref d2), hlC]
          exact hN2 _ _ ⟨_, _, L, R, qu', rfl, d1, d2, d3, hf, hB.skip hlC, hr0, fun l hl => hps l (by simp [hl]), hk⟩
        · obtain ⟨r1, hr1⟩ := hV.v l (hB.inV hI hV hr0 hpl)
          have hr1 := (hI.iff _ _).mp hr1
          have hst := hB.step hI hV hb hr0 hlC hpl hr1
          have hCl' := hst.llen hb
          have hRl := hB.rlen
          have g1 : (set S2 lr (.lst (nl L ++ [.int l]))) t = some (.dK (nd T)) := by rw [set_ne (Ne.symm (nt hl))]; exact f2
          have g2 : (set S2 lr (.lst (nl L ++ [.int l]))) sr = some (.lst (nl R)) := by rw [set_ne (Ne.symm hls)]; exact d1
          have g3 : (set (set S2 lr (.lst (nl L ++ [.int l]))) sr (.lst (nl R ++ [.int r1]))) t = some (.dK (nd T)) := by rw [set_ne (Ne.symm (nt hs))]; exact g1
          have g4 : (set (set S2 lr (.lst (nl L ++ [.int l]))) sr (.lst (nl R ++ [.int r1]))) qr = some (.lst (nl qu')) := by rw [set_ne hqs, set_ne hql]; exact d3
          simp [oNotIn_seq (seqOf_ref d2), hlC]
          refine ⟨lr, isLst_ref d2, _, d2, by rw [nl_len]; omega, sr, isLst_ref g2, _, oIx_dK g1 hI.tn hr1, _, g2, by rw [nl_len]; omega, qr, isLst_ref g4, _, oIx_dK g3 hI.tn hr1, _, g4, by rw [nl_len]; omega, ?_⟩
          refine hN2 _ _ ⟨_, _, L ++ [l], R ++ [r1], qu' ++ [r1], rfl, ?_, ?_, ?_, ?_, hst, List.mem_append_left _ hr0, fun l hl => hps l (by simp [hl]), ?_⟩
          · rw [set_ne (Ne.symm hqs), set_same]; simp [nl]
          · rw [set_ne (Ne.symm hql), set_ne hls, set_same]; simp [nl]
          · rw [set_same]; simp [nl]
          · intro b h1 h2 h3
            rw [set_ne h3, set_ne h1, set_ne h2]; exact hf b h1 h2 h3
          · simp at hCl' ⊢; omega
      · refine ⟨_, _, L, R, qu, rfl, ?_, ?_, ?_, ?_, hB0, hqk, fun l hl => mem_row.mp hl, by simp at hk; omega⟩
        · rw [set_ne (Ne.symm hqs)]; exact d1
        · rw [set_ne (Ne.symm hql)]; exact d2
        · rw [set_same]; simp [nl]
        · intro b h1 h2 h3
          rw [set_ne h3]; exact hf b h1 h2 h3
  · have hmem : ∀ {r}, r ∈ (List.range m).filter (fun r => decide (r ∉ H.map (·.1))) ↔ r < m ∧ r ∉ H.map (·.1) := fun {r} => by
      rw [List.mem_filter, List.mem_range]; simp
    refine ⟨.nil, by simp, List.nodup_range.sublist List.filter_sublist, fun r hr => (hmem.mp hr).1, ?_, fun r hr => .inl (hmem.mp hr).2, fun r h1 h2 => hmem.mpr ⟨h1, h2⟩, fun r hr => hr, fun r hr => .inl hr, by simp, fun X hx _ r hr => hx r (hmem.mp hr).1 (hmem.mp hr).2⟩
    have := compl_len (m := m) hI.hn (fun r hr => by
      obtain ⟨p, hp, rfl⟩ := List.mem_map.mp hr
      exact (hb.lt p (hI.sub p hp)).1)
    simpa using this
end K80
end Dl
set_option linter.all false
namespace Dl
namespace K80
open Mt Cm
theorem m_doubled : Meets sp_doubled 4 w_doubled := by
  rintro ds S Q E ⟨m, n, ps, rfl, hw, q⟩
  simp [wBody, w_doubled]
  refine ⟨m, n, ps, rfl, hw, m, n, ps, rfl, hw, m, n, ps, rfl, hw.toBd, ?_⟩
  intro h t H T V S' hht hh ht hI hV d1 d2 hf
  simp
  refine ⟨h, t, m, n, H, T, ps, V, rfl, hht, d1, d2, hI, hV, hw.toBd, fun R L hD => ?_⟩
  refine fz_same (S0 := S) (fun a o ha => ?_) (q R L hD)
  rw [hf a (fun e => by rw [e, hh] at ha; cases ha) (fun e => by rw [e, ht] at ha; cases ha)]; exact ha
theorem m_spare : Meets sp_spare 3 w_spare := by
  rintro ds S Q E ⟨m, n, ps, rfl, hw, q⟩
  simp [wBody, w_spare]
  refine ⟨m, n, ps, rfl, hw, fun R L hD => ?_⟩
  simp
  exact .refl (by simpa [nl_len] using q R L hD)
theorem ne_ns {S : Store} {v : D} {l : Nat} (h : v = .non ∨ ∃ k : Nat, v = .int k) : ∃ b, oNe S v (.int l) = some (.bl b) := by
  rcases h with rfl | ⟨k, rfl⟩
  · exact ⟨true, rfl⟩
  · exact ⟨_, oNe_int⟩
theorem get_nd {T : Prs} {k : Nat} : (dget (nd T) (.int k)).getD .non = .non ∨ ∃ v : Nat, (dget (nd T) (.int k)).getD .non = .int v := by
  unfold dget nd
  induction T with
  | nil => exact .inl rfl
  | cons p r ih =>
    rw [List.map_cons, List.find?_cons]
    split
    · exact .inr ⟨p.2, rfl⟩
    · exact ih
theorem m_lines_along : Meets sp_lines_along 8 w_lines_along := by
  rintro ds S Q E ⟨h, t, m, n, r, H, T, ps, rfl, hrm, hht, e1, e2, hI, hb, q⟩
  have hm := hb.m24
  have hn := hb.n24
  simp [wBody, w_lines_along]
  intro fr hf0 qr hq
  have hqf : qr ≠ fr := fun e => by rw [e, set_same] at hq; cases hq
  rw [set_ne hqf] at hq
  have nh : ∀ {b}, S b = none → b ≠ h := fun hb e => by rw [e, e1] at hb; cases hb
  have nt : ∀ {b}, S b = none → b ≠ t := fun hb e => by rw [e, e2] at hb; cases hb
  refine while_ok (P := fun k s S1 => ∃ x y F qu, s = [some (nearD m ps), some (.ref h), some (.ref t), some (.int r), some (.ref fr), some (.ref qr), x, y] ∧ S1 fr = some (.lst (nl F)) ∧ S1 qr = some (.lst (nl qu)) ∧
      (∀ b, b ≠ fr → b ≠ qr → S1 b = S b) ∧ F.Nodup ∧ (∀ l ∈ F, l < n) ∧ (∀ r ∈ qu, r < m) ∧ k = qu.length + (n - F.length) ∧ k ≤ 25) (1 + n) ?_
      ⟨_, _, [], [r], rfl, by rw [set_ne (Ne.symm hqf), set_same]; rfl, by rw [set_same]; rfl, fun b h1 h2 => by rw [set_ne h2, set_ne h1], .nil, by simp, by simpa using hrm, by simp, by omega⟩
  rintro k s S1 N ⟨x, y, F, qu, rfl, d1, d2, hf, hF, hFn, hqm, hk, hk25⟩ hN
  cases qu with
  | nil =>
    simp [ne_nl d2]
    refine fz_lst (S0 := S) d1 hf0 ?_
    rw [rst_eq fun a o ha => by rw [hf a (fun e => by rw [e, hf0] at ha; cases ha) (fun e => by rw [e, hq] at ha; cases ha)]; exact ha]
    exact q F
  | cons r0' qu =>
    have hqk := hqm r0' (by simp)
    simp [ne_nl d2]
    refine ⟨qr, isLst_ref d2, _, d2, .int r0', by simp [nl], ?_⟩
    refine ⟨_, near_ix hqk, _, rfl, ?_⟩
    refine loop_map (F := fun (i : Nat) => D.int i) (P := fun rest s S2 => ∃ y F qu', s = [some (nearD m ps), some (.ref h), some (.ref t), some (.int r), some (.ref fr), some (.ref qr), some (.int r0'), y] ∧ S2 fr = some (.lst (nl F)) ∧ S2 qr = some (.lst (nl qu')) ∧
      (∀ b, b ≠ fr → b ≠ qr → S2 b = S b) ∧ F.Nodup ∧ (∀ l ∈ F, l < n) ∧ (∀ r ∈ qu', r < m) ∧ (∀ l ∈ rest, l < n) ∧ qu'.length + (n - F.length) + 1 ≤ k) ?_ ?_ _ _ _ ?_
    · rintro s S2 ⟨y, F, qu', rfl, d1, d2, hf, hF, hFn, hqm, -, hk⟩
      exact ⟨rfl, hN _ _ _ (by omega) ⟨_, _, F, qu', rfl, d1, d2, hf, hF, hFn, hqm, rfl, by omega⟩⟩
    · rintro l rest s S2 N2 ⟨y, F, qu', rfl, d1, d2, hf, hF, hFn, hqm, hps, hk⟩ hN2
      refine ⟨rfl, ?_⟩
      have hln := hps l (by simp)
      have hps' : ∀ l ∈ rest, l < n := fun l hl => hps l (by simp [hl])
      have f1 : S2 h = some (.dK (nd H)) := by rw [hf h (Ne.symm (nh hf0)) (Ne.symm (nh hq))]; exact e1
      have f2 : S2 t = some (.dK (nd T)) := by rw [hf t (Ne.symm (nt hf0)) (Ne.symm (nt hq))]; exact e2
      by_cases hlC : l ∈ F
      · simp [oNotIn_seq (seqOf_ref d1), hlC]
        exact hN2 _ _ ⟨_, F, qu', rfl, d1, d2, hf, hF, hFn, hqm, hps', hk⟩
      · obtain ⟨b, hbn⟩ := ne_ns (S := S2) (l := l) (get_nd (T := H) (k := r0'))
        simp [oNotIn_seq (seqOf_ref d1), hlC]
        refine ⟨⟨h, isDct_dK f1⟩, nd H, dictOf_dK f1, _, hbn, ?_⟩
        cases b with
        | false =>
          simp
          exact hN2 _ _ ⟨_, F, qu', rfl, d1, d2, hf, hF, hFn, hqm, hps', hk⟩
        | true =>
          have hFl : (F ++ [l]).Nodup := List.nodup_append.mpr ⟨hF, by simp, fun a ha b hb e => by simp at hb; subst hb; exact hlC (e ▸ ha)⟩
          have hFn' : ∀ x ∈ F ++ [l], x < n := fun x hx => by
            rcases List.mem_append.mp hx with h1 | h1
            · exact hFn x h1
            · simp at h1; omega
          have hlen := hFl.length_le_of_subset (l₂ := List.range n) (fun x hx => List.mem_range.mpr (hFn' x hx))
          simp at hlen
          have g2 : (set S2 fr (.lst (nl F ++ [.int l]))) t = some (.dK (nd T)) := by rw [set_ne (Ne.symm (nt hf0))]; exact f2
          have g3 : (set S2 fr (.lst (nl F ++ [.int l]))) qr = some (.lst (nl qu')) := by rw [set_ne hqf]; exact d2
          have g1 : (set S2 fr (.lst (nl F ++ [.int l]))) fr = some (.lst (nl (F ++ [l]))) := by rw [set_same]; simp [nl]
          have gf : ∀ b, b ≠ fr → b ≠ qr → (set S2 fr (.lst (nl F ++ [.int l]))) b = S b := fun b h1 h2 => by rw [set_ne h1]; exact hf b h1 h2
          simp
          refine ⟨fr, isLst_ref d1, _, d1, by rw [nl_len]; omega, ?_⟩
          by_cases hlT : l ∈ T.map (·.1)
          · obtain ⟨r1, hr1⟩ := key_mem.mp hlT
            have h1m := (hb.lt _ (hI.sub _ ((hI.iff _ _).mpr hr1))).1
            simp [oIn_dK g2, hlT]
            refine ⟨qr, isLst_ref g3, _, oIx_dK g2 hI.tn hr1, _, g3, by rw [nl_len]; omega, ?_⟩
            refine hN2 _ _ ⟨_, F ++ [l], qu' ++ [r1], rfl, ?_, ?_, ?_, hFl, hFn', ?_, hps', ?_⟩
            · rw [set_ne (Ne.symm hqf)]; exact g1
            · rw [set_same]; simp [nl]
            · intro b h1 h2
              rw [set_ne h2]; exact gf b h1 h2
            · intro x hx
              rcases List.mem_append.mp hx with h1 | h1
              · exact hqm x h1
              · simp at h1; omega
            · simp; omega
          · simp [oIn_dK g2, hlT]
            exact hN2 _ _ ⟨_, F ++ [l], qu', rfl, g1, g3, gf, hFl, hFn', hqm, hps', by simp; omega⟩
    · refine ⟨_, F, qu, rfl, ?_, ?_, ?_, hF, hFn, fun r hr => hqm r (by simp [hr]), fun l hl => (hb.lt _ (mem_row.mp hl)).2, by simp at hk; omega⟩
      · rw [set_ne (Ne.symm hqf)]; exact d1
      · rw [set_same]; simp [nl]
      · intro b h1 h2
        rw [set_ne h2]; exact hf b h1 h2
end K80
end Dl
set_option linter.all false
namespace Dl
namespace K80
open Mt Cm
theorem any_map {S : Store} {ns : List Nat} {f : Nat → Bool} : oAny S (.lst (ns.map fun x => D.bl (f x))) = some (.bl (ns.any f)) := by
  have := any_bl (S := S) (l := ns.map f)
  rw [List.map_map] at this
  refine Eq.trans this ?_
  rw [List.any_map]
  rfl
theorem dbl_exposed {m n : Nat} {ps H T : Prs} {V : Nat → Prop} {R L : List Nat} (hD : Dbl m ps R L) (hI : Mt.Inv ps H T) (hV : Clo ps H V) (hb : Bd m n ps) {r : Nat} (hr : r < m) (hn : r ∉ H.map (·.1)) : r ∈ R := by
  have hlt : ∀ p ∈ ps, p.1 < m := fun p hp => (hb.lt p hp).1
  obtain ⟨k, hk, e⟩ := hD.k
  have := hk.uniq hlt (hV.nu hI hb)
  subst this
  exact (tight hI.mat hlt hD.cov e).1 r hr hn
def seqL (xs : List Nat) : D := .lst (nl xs)
theorem along_ix {S : Store} {xss : List (List Nat)} {r : Nat} (h : r < xss.length) : oIx S (.lst (xss.map seqL)) (.int r) = some (.lst (nl xss[r])) := by
  rw [oIx_lst0, ix_map h]; rfl
theorem m_kinds : Meets sp_kinds 11 w_kinds := by
  rintro ds S Q E ⟨m, n, ps, rfl, hw, q⟩
  have hm := hw.m24
  have hn := hw.n24
  simp [wBody, w_kinds, wipe]
  refine ⟨m, n, ps, rfl, hw, m, n, ps, rfl, hw, m, n, ps, rfl, hw.toBd, ?_⟩
  intro h t H T V S1 hht hh ht hI hV d1 d2 hf
  simp
  refine ⟨h, t, m, n, H, T, ps, V, rfl, hht, d1, d2, hI, hV, hw.toBd, fun R L hD => ?_⟩
  simp [wD]
  refine ⟨by omega, ?_⟩
  refine comp_ind (P := fun its acc S2 => S2 = S1 ∧ (∀ x ∈ its, ∃ r : Nat, r < m ∧ x = .int r) ∧ ∃ xss : List (List Nat), acc = xss.map seqL ∧ xss.length + its.length = m) ?_ ?_ _ _ _ ⟨rfl, ?_, [], rfl, by simp⟩
  rotate_left
  · rintro x its acc S2 K1 K2 ⟨rfl, hx, xss, rfl, hl⟩ h1 -
    obtain ⟨r, hr, rfl⟩ := hx x (by simp)
    refine ⟨trivial, ?_⟩
    simp
    refine ⟨h, t, m, n, r, H, T, ps, rfl, hr, hht, d1, d2, hI, hw.toBd, fun xs => ?_⟩
    exact h1 _ _ ⟨rfl, fun x hx' => hx x (by simp [hx']), xss ++ [xs], by simp [seqL], by simp at hl ⊢; omega⟩
  · intro x hx
    obtain ⟨i, hi, rfl⟩ := List.mem_map.mp hx
    exact ⟨i, List.mem_range.mp hi, rfl⟩
  rintro acc S2 ⟨rfl, -, xss, rfl, hl⟩
  simp at hl
  refine ⟨trivial, fun fr hf0 => ?_⟩
  have nh : fr ≠ h := fun e => by rw [e, d1] at hf0; cases hf0
  have nt : fr ≠ t := fun e => by rw [e, d2] at hf0; cases hf0
  refine loop_map (P := fun rest s S3 => ∃ a b c d, s = [some (.tup [.int m, .int n, .tup (ps.map pD)]), some (nearD m ps), some (.ref h), some (.ref t), some (.tup (nl R)), some (.lst (xss.map seqL)), some (.ref fr), a, b, c, d] ∧
    ∃ (done : Prs) (ws : List String), ps = done ++ rest ∧ ws.length = done.length ∧ S3 fr = some (.lst (ws.map D.str)) ∧ (∀ b, b ≠ fr → S3 b = S2 b) ∧
      ∀ (i : Nat) (h1 : i < done.length) (h2 : i < ws.length), (done[i].1 ∉ H.map (·.1) ∨ done[i] ∈ H) → ws[i] ≠ "never") ?_ ?_ _ _ _ ⟨_, _, _, _, rfl, [], [], rfl, rfl, set_same, fun b h1 => set_ne h1, by simp⟩
  · rintro s S3 ⟨a, b, c, d, rfl, done, ws, e, hlen, g1, gf, hws⟩
    simp at e
    subst e
    refine ⟨trivial, ?_⟩
    simp [oTuple_ref g1]
    refine fz_same (S0 := S) (fun x o hx => ?_) (q ws hlen ?_)
    · have x1 : x ≠ h := fun e => by rw [e, hh] at hx; cases hx
      have x2 : x ≠ t := fun e => by rw [e, ht] at hx; cases hx
      have x3 : x ≠ fr := fun e => by rw [← e, hf x x1 x2, hx] at hf0; cases hf0
      rw [gf x x3, hf x x1 x2]; exact hx
    · intro p hp
      by_cases hpH : p.1 ∈ H.map (·.1)
      · obtain ⟨l, hl'⟩ := key_mem.mp hpH
        obtain ⟨i, hi, e⟩ := List.mem_iff_getElem.mp (hI.sub _ hl')
        exact ⟨i, hi, by omega, by rw [e], hws i hi (by omega) (.inr (by rw [e]; exact hl'))⟩
      · obtain ⟨i, hi, e⟩ := List.mem_iff_getElem.mp hp
        exact ⟨i, hi, by omega, by rw [e], hws i hi (by omega) (.inl (by rw [e]; exact hpH))⟩
  · rintro ⟨r, l⟩ rest s S3 N ⟨a, b, c, d, rfl, done, ws, e, hlen, g1, gf, hws⟩ hN
    refine ⟨trivial, ?_⟩
    have hrl : (r, l) ∈ ps := by rw [e]; simp
    have hr : r < m := (hw.lt _ hrl).1
    have f1 : S3 h = some (.dK (nd H)) := by rw [gf h (Ne.symm nh)]; exact d1
    have f2 : S3 t = some (.dK (nd T)) := by rw [gf t (Ne.symm nt)]; exact d2
    have hwl : ws.length < 16777216 := by
      have := hw.len
      rw [e] at this
      simp at this
      omega
    -- one more word
    have app : ∀ (w : String) c' d', ((r ∉ H.map (·.1) ∨ (r, l) ∈ H) → w ≠ "never") → N [some (.tup [.int m, .int n, .tup (ps.map pD)]), some (nearD m ps), some (.ref h), some (.ref t), some (.tup (nl R)), some (.lst (xss.map seqL)), some (.ref fr), some (.int r), some (.int l), c', d'] (set S3 fr (.lst (ws.map D.str ++ [.str w]))) := by
      intro w c' d' hword
      refine hN _ _ ⟨_, _, _, _, rfl, done ++ [(r, l)], ws ++ [w], by rw [e]; simp, by simp [hlen], by rw [set_same]; simp, fun b h1 => by rw [set_ne h1]; exact gf b h1, ?_⟩
      intro i h1 h2 h3
      by_cases hi : i < done.length
      · rw [List.getElem_append_left hi] at h3
        rw [List.getElem_append_left (by omega)]
        exact hws i hi (by omega) h3
      · have hi' : i = done.length := by simp at h1; omega
        subst hi'
        rw [List.getElem_append_right (by omega)] at h3
        rw [List.getElem_append_right (by omega)]
        simp at h3
        simp
        exact hword (by simpa using h3)
    simp only [gTup_]
    refine ⟨_, rfl, rfl, ?_⟩
    simp only [gNames_cons, gNames_nil, List.set_cons_succ, List.set_cons_zero]
    refine seq_mid (fun s' S' => S' = S3 ∧ ∃ bb d', s' = [some (.tup [.int m, .int n, .tup (ps.map pD)]), some (nearD m ps), some (.ref h), some (.ref t), some (.tup (nl R)), some (.lst (xss.map seqL)), some (.ref fr), some (.int r), some (.int l), some (.bl bb), d'] ∧ (bb = false → ∃ r1, (l, r1) ∈ T)) ?_ ?_
    · intro N2 hN2
      by_cases hlT : l ∈ T.map (·.1)
      · obtain ⟨r1, hr1⟩ := key_mem.mp hlT
        have h1m := (hw.lt _ (hI.sub _ ((hI.iff _ _).mpr hr1))).1
        simp [oNotIn_dK f2, hlT, wipe]
        refine ⟨_, oIx_dK f2 hI.tn hr1, _, along_ix (by omega), _, rfl, ?_⟩
        refine comp_map (F := fun (i : Nat) => D.int i) (p := fun _ => true) (f := fun x => .bl (decide (x ∉ T.map (·.1)))) ?_ _ _ ?_ ?_
        · exact rfl
        · intro x hx K1 K2 h1 h2
          simp only [gName_, tYes_, w2_, wVar_, if_true]
          exact ⟨_, rfl, _, rfl, _, oNotIn_dK f2, h1 rfl⟩
        · rw [filter_tt, List.nil_append, any_map]
          exact ⟨_, rfl, hN2 _ _ ⟨rfl, _, _, rfl, fun _ => ⟨r1, hr1⟩⟩⟩
      · simp [oNotIn_dK f2, hlT]
        exact hN2 _ _ ⟨rfl, true, _, rfl, by simp⟩
    · rintro s' S' ⟨rfl, bb, d', rfl, hbb⟩
      have happ : ∀ (w : String) (c' d' : Option D), ((r ∉ H.map (·.1) ∨ (r, l) ∈ H) → w ≠ "never") → ∃ l_1, isLst S' (.ref fr) l_1 ∧ ∃ xs, S' l_1 = some (.lst xs) ∧ xs.length < 16777216 ∧ N [some (.tup [.int m, .int n, .tup (ps.map pD)]), some (nearD m ps), some (.ref h), some (.ref t), some (.tup (nl R)), some (.lst (xss.map seqL)), some (.ref fr), some (.int r), some (.int l), c', d'] (set S' l_1 (.lst (xs ++ [.str w]))) :=
        fun w c' d' hh => ⟨fr, isLst_ref g1, _, g1, by simpa using hwl, app w c' d' hh⟩
      by_cases hrR : r ∈ R
      · simp [oIn_seq (seqOf_tup (xs := nl R)), hrR]
        exact happ _ _ _ (fun _ => by decide)
      · cases bb with
        | true =>
          simp [oIn_seq (seqOf_tup (xs := nl R)), hrR]
          exact happ _ _ _ (fun _ => by decide)
        | false =>
          obtain ⟨r1, hr1⟩ := hbb rfl
          have h1m := (hw.lt _ (hI.sub _ ((hI.iff _ _).mpr hr1))).1
          have hrH : r ∈ H.map (·.1) := Classical.byContradiction fun hn => hrR (dbl_exposed hD hI hV hw.toBd hr hn)
          obtain ⟨l', hl'⟩ := key_mem.mp hrH
          by_cases hll : l' = l
          · subst hll
            simp [oIn_seq (seqOf_tup (xs := nl R)), hrR, oIx_dK f1 hI.hn hl', along_ix (xss := xss) (r := r) (by omega), oIn_seq (seqOf_lst (xs := nl xss[r]))]
            by_cases hx : l' ∈ xss[r]
            · simp [hx]
              exact happ _ _ _ (fun _ => by decide)
            · simp [hx]
              exact happ _ _ _ (fun _ => by decide)
          · have hll' : ((l' : Int) = l) = False := by simp; omega
            have hnH : (r, l) ∉ H := fun hc => hll (key_fun hI.hn hl' hc)
            simp [oIn_seq (seqOf_tup (xs := nl R)), hrR, oIx_dK f1 hI.hn hl', hll', oIx_dK f2 hI.tn hr1, along_ix (xss := xss) (r := r1) (by omega), oIn_seq (seqOf_lst (xs := nl xss[r1]))]
            by_cases hx : l' ∈ xss[r1]
            · simp [hx]
              exact happ _ _ _ (fun _ => by decide)
            · simp [hx]
              exact happ _ _ _ (fun hc => by rcases hc with hc | hc; exact absurd hrH hc; exact absurd hc hnH)
end K80
end Dl
set_option linter.all false
namespace Dl
namespace K80
open Mt Cm
theorem met_any {E : List Nat} {l : Nat} : ((met E).find? fun p => D.eqv p.1 (.int l)).isSome = decide (l ∈ E) := by
  induction E with
  | nil => rfl
  | cons x r ih =>
    unfold met at ih ⊢
    rw [List.map_cons, List.find?_cons]
    by_cases h : x = l
    · subst h; simp [D.eqv]
    · have : D.eqv (.int x) (.int l) = false := by simp [D.eqv]; omega
      simp only [this]
      rw [ih]; simp [Ne.symm h]
theorem met_any2 {E : List Nat} {l : Nat} : ((met E).any fun p => D.eqv p.1 (.int l)) = decide (l ∈ E) := by
  rw [← met_any]
  generalize met E = M
  induction M with
  | nil => rfl
  | cons x r ih => rw [List.any_cons, List.find?_cons]; cases D.eqv x.1 (.int l) <;> simp [ih]
theorem oNotIn_met {S : Store} {a l : Nat} {E : List Nat} (h : S a = some (.dK (met E))) : oNotIn S (.int l) (.ref a) = some (.bl (decide (l ∉ E))) := by
  unfold oNotIn inD
  rw [seqOf_dK h, dictOf_dK h]
  have : (dget (met E) (.int l)).isSome = decide (l ∈ E) := by
    unfold dget; rw [Option.isSome_map]; exact met_any
  simp [this]
theorem put_met {S : Store} {a l : Nat} {E : List Nat} (h : S a = some (.dK (met E))) (hl : E.length < 16777216) (hn : l ∉ E) {Q : Store → Prop} (q : Q (set S a (.dK (met (E ++ [l]))))) : putIx S (.ref a) (.int l) (.bl true) Q := by
  refine ⟨a, rfl, ?_⟩
  rw [h]; dsimp only
  refine ⟨rfl, by simpa [met, szl] using hl, ?_⟩
  have h1 : ((met E).any fun p => D.eqv p.1 (.int l)) = false := by rw [met_any2]; simp [hn]
  have : dput (met E) (.int l) (.bl true) = met (E ++ [l]) := by
    unfold dput; rw [h1]; simp [met]
  rw [this]; exact q
theorem np_perm {T : Prs} {k v w : Nat} (hn : (T.map (·.1)).Nodup) (h : (k, v) ∈ T) : ∃ rest, (T.map (·.2)).Perm (v :: rest) ∧ ((np T k w).map (·.2)).Perm (w :: rest) := by
  rw [np_in (List.mem_map_of_mem (f := (·.1)) h)]
  induction T with
  | nil => cases h
  | cons p T ih =>
    have hn' := List.nodup_cons.mp hn
    by_cases e : p.1 = k
    · have hv : p.2 = v := key_fun hn (k := k) (e ▸ List.mem_cons_self) h
      refine ⟨T.map (·.2), by rw [List.map_cons, hv], ?_⟩
      have : T.map (fun p => if p.1 == k then (p.1, w) else p) = T := by
        refine (List.map_congr_left fun q hq => ?_).trans (List.map_id _)
        have : q.1 ≠ k := fun e' => hn'.1 (by show p.1 ∈ _; rw [e, ← e']; exact List.mem_map_of_mem hq)
        simp [this]
      rw [List.map_cons, List.map_cons, this]
      simp [e]
    · have h' : (k, v) ∈ T := by
        rcases List.mem_cons.mp h with e' | h
        · exact absurd (by rw [← e']) e
        · exact h
      obtain ⟨rest, h1, h2⟩ := ih hn'.2 h'
      refine ⟨p.2 :: rest, ?_, ?_⟩
      · rw [List.map_cons]; exact (h1.cons p.2).trans (.swap _ _ _)
      · rw [List.map_cons, List.map_cons]
        have e' : (p.1 == k) = false := by simpa using e
        simp only [e', Bool.false_eq_true, if_false]
        exact (h2.cons p.2).trans (.swap _ _ _)
theorem tk_len {m n : Nat} {ps T : Prs} (h : Tk m n ps T) (hb : Bd m n ps) : T.length ≤ 24 := by
  have := h.tn.length_le_of_subset (l₂ := List.range n) (fun l hl => by
    obtain ⟨p, hp, rfl⟩ := List.mem_map.mp hl
    exact List.mem_range.mpr (hb.lt _ (h.sub p hp)).2)
  have := hb.n24
  simp at *; omega
theorem lt_len {n : Nat} {E : List Nat} (h : E.Nodup) (hl : ∀ l ∈ E, l < n) : E.length ≤ n := by
  have := h.length_le_of_subset (l₂ := List.range n) (fun l h => List.mem_range.mpr (hl l h))
  simpa using this
theorem m_L_rc_led (j : Nat) : Meets (sp_L_rc_led_ (j + 1)) 5 (w_L_rc_led (sp_L_rc_led_ j)) := by
  rintro ds S Q E ⟨t, e, m, n, r, T, ps, E0, V, rfl, hte, e1, e2, hT, hE, hEn, hj, hrm, hb, hV, q0, q1⟩
  have hn24 := hb.n24
  simp [wBody, w_L_rc_led, near_ix hrm]
  have hTl := tk_len hT hb
  refine loop_map (F := fun (i : Nat) => D.int i) (P := fun rest s S2 => ∃ y E2 done, s = [some (nearD m ps), some (.ref t), some (.int r), some (.ref e), y] ∧ S2 e = some (.dK (met E2)) ∧ (∀ b, b ≠ e → S2 b = S b) ∧
    (∀ l ∈ E0, l ∈ E2) ∧ E2.Nodup ∧ (∀ l ∈ E2, l < n) ∧ row ps r = done ++ rest ∧ (∀ l ∈ done, l ∈ E2) ∧ ∀ l ∈ E2, l ∉ E0 → ∃ r', (l, r') ∈ T ∧ ∀ l2 ∈ row ps r', l2 ∈ E2) ?_ ?_ _ _ _
    ⟨_, E0, [], rfl, e2, fun _ _ => rfl, fun _ h => h, hE, hEn, rfl, by simp, fun l h1 h2 => absurd h1 h2⟩
  · rintro s S2 ⟨y, E2, done, rfl, d2, hf, hs, hE2, hE2n, hrow, hdone, hcl⟩
    refine ⟨trivial, ?_⟩
    simp
    simp at hrow
    exact .refl (q0 E2 S2 hs (by rw [hrow]; exact hdone) hcl hE2 hE2n d2 hf)
  · rintro l rest s S2 N ⟨y, E2, done, rfl, d2, hf, hs, hE2, hE2n, hrow, hdone, hcl⟩ hN
    refine ⟨trivial, ?_⟩
    have hrl : (r, l) ∈ ps := mem_row.mp (by rw [hrow]; simp)
    have hln := (hb.lt _ hrl).2
    have hlen := lt_len hE2 hE2n
    by_cases hl : l ∈ E2
    · simp [oNotIn_met d2, hl]
      refine hN _ _ ⟨_, E2, done ++ [l], rfl, d2, hf, hs, hE2, hE2n, by rw [hrow]; simp, ?_, hcl⟩
      intro x hx
      rcases List.mem_append.mp hx with h1 | h1
      · exact hdone x h1
      · simp at h1; subst h1; exact hl
    · simp [oNotIn_met d2, hl]
      refine put_met d2 (by omega) hl ?_
      have hE3 : (E2 ++ [l]).Nodup := List.nodup_append.mpr ⟨hE2, by simp, fun a ha b hb e => by simp at hb; subst hb; exact hl (e ▸ ha)⟩
      have hE3n : ∀ x ∈ E2 ++ [l], x < n := fun x hx => by
        rcases List.mem_append.mp hx with h1 | h1
        · exact hE2n x h1
        · simp at h1; omega
      have g1 : (set S2 e (.dK (met (E2 ++ [l])))) t = some (.dK (nd T)) := by rw [set_ne hte, hf t hte]; exact e1
      have g2 : (set S2 e (.dK (met (E2 ++ [l])))) e = some (.dK (met (E2 ++ [l]))) := set_same
      have gf : ∀ b, b ≠ e → (set S2 e (.dK (met (E2 ++ [l])))) b = S b := fun b h1 => by rw [set_ne h1]; exact hf b h1
      have hl0 : l ∉ E0 := fun h => hl (hs l h)
      have hEl : E0.length ≤ E2.length := hE.length_le_of_subset hs
      by_cases hlT : l ∈ T.map (·.1)
      · obtain ⟨r1, hr1⟩ := key_mem.mp hlT
        have h1m := (hb.lt _ (hT.sub _ hr1)).1
        simp [oNotIn_dK g1, hlT]
        refine ⟨_, oIx_dK g1 hT.tn hr1, t, e, m, n, r1, T, ps, E2 ++ [l], V, rfl, hte, g1, g2, hT, hE3, hE3n, by simp; omega, h1m, hb, hV, ?_, ?_⟩
        · intro E4 S4 a1 a2 a3 a4 a5 a6 a7
          simp
          refine hN _ _ ⟨_, E4, done ++ [l], rfl, a6, fun b h1 => by rw [a7 b h1]; exact gf b h1, fun x hx => a1 x (by simp [hs x hx]), a4, a5, by rw [hrow]; simp, ?_, ?_⟩
          · intro x hx
            rcases List.mem_append.mp hx with h1 | h1
            · exact a1 x (by simp [hdone x h1])
            · simp at h1; subst h1; exact a1 _ (by simp)
          · intro x hx hx0
            by_cases hx3 : x ∈ E2 ++ [l]
            · rcases List.mem_append.mp hx3 with h1 | h1
              · obtain ⟨r', b1, b2⟩ := hcl x h1 hx0
                exact ⟨r', b1, fun l2 h2 => a1 l2 (by simp [b2 l2 h2])⟩
              · simp at h1; subst h1; exact ⟨r1, hr1, a2⟩
            · exact a3 x hx hx3
        · intro T1 E4 S4 a1 a2 a3 a4 a5 a6 a7 a8 a9 a10
          have hl1 : (l, r1) ∈ T1 := (a4 l (.inl (by simp)) r1).mpr hr1
          have hVl : ¬ V l := fun hv => by
            obtain ⟨r', b1, b2⟩ := hV l hv
            have := key_fun hT.tn b1 hr1
            subst this
            exact a1 b2
          have hT1l := tk_len a2 hb
          simp
          refine put_dK a8 (by omega) (.refl (q1 (np T1 l r) E4 _ (fun hall => hVl (hall l (by rw [hrow]; simp))) ⟨np_nd a2.tn, ?_⟩ ?_ ?_ (fun x hx => a5 x (by simp [hs x hx])) a6 a7 set_same ?_ ?_))
          · rintro ⟨l2, r2⟩ hx
            rcases (mem_np a2.tn).mp hx with ⟨rfl, rfl⟩ | ⟨_, hx⟩
            · exact hrl
            · exact a2.sub _ hx
          · obtain ⟨rst, b1, b2⟩ := np_perm (w := r) a2.tn hl1
            exact b2.trans (((b1.symm.trans a3).cons_inv).cons r)
          · intro l2 h2 r2
            have hne : l2 ≠ l := fun e => by subst e; exact h2.elim hl0 hVl
            rw [mem_np a2.tn]
            have := a4 l2 (h2.imp (fun h => by simp [hs l2 h]) id) r2
            constructor
            · rintro (⟨h, _⟩ | ⟨_, h⟩)
              · exact absurd h hne
              · exact this.mp h
            · exact fun h => .inr ⟨hne, this.mpr h⟩
          · rw [set_ne (Ne.symm hte)]; exact a9
          · intro b h1 h2
            rw [set_ne h1, a10 b h1 h2]; exact gf b h2
      · simp [oNotIn_dK g1, hlT]
        have hVl : ¬ V l := fun hv => by
          obtain ⟨r', b1, b2⟩ := hV l hv
          exact hlT (List.mem_map_of_mem (f := (·.1)) b1)
        refine put_dK g1 (by omega) (.refl (q1 (np T l r) (E2 ++ [l]) _ (fun hall => hVl (hall l (by rw [hrow]; simp))) ⟨np_nd hT.tn, ?_⟩ ?_ ?_ (fun x hx => by simp [hs x hx]) hE3 hE3n set_same ?_ ?_))
        · rintro ⟨l2, r2⟩ hx
          rcases (mem_np hT.tn).mp hx with ⟨rfl, rfl⟩ | ⟨_, hx⟩
          · exact hrl
          · exact hT.sub _ hx
        · rw [np_out hlT, List.map_append]
          exact (List.perm_append_comm).trans (.of_eq (by simp))
        · intro l2 h2 r2
          have hne : l2 ≠ l := fun e => by subst e; exact h2.elim hl0 hVl
          rw [mem_np hT.tn]
          constructor
          · rintro (⟨h, _⟩ | ⟨_, h⟩)
            · exact absurd h hne
            · exact h
          · exact fun h => .inr ⟨hne, h⟩
        · rw [set_ne (Ne.symm hte)]; exact g2
        · intro b h1 h2
          rw [set_ne h1]; exact gf b h2
end K80
end Dl
set_option linter.all false
namespace Dl
namespace K80
open Mt Cm
/-- so far the receipts done are held, or there is no way out for them -/
structure Kn (m n : Nat) (ps T : Prs) (V : Nat → Prop) (done rest : List Nat) : Prop where
  tk : Tk m n ps T
  sn : (T.map (·.2)).Nodup
  sr : ∀ r ∈ T.map (·.2), r ∉ rest
  cl : Cl2 ps T V
  dn : ∀ r ∈ done, r ∉ T.map (·.2) → ∀ l ∈ row ps r, V l
theorem swap_fst {T : Prs} : (T.map fun p => (p.2, p.1)).map (·.1) = T.map (·.2) := by rw [List.map_map]; rfl
theorem swap_snd {T : Prs} : (T.map fun p => (p.2, p.1)).map (·.2) = T.map (·.1) := by rw [List.map_map]; rfl
theorem swap_mem {T : Prs} {r l : Nat} : (r, l) ∈ T.map (fun p => (p.2, p.1)) ↔ (l, r) ∈ T := by
  simp only [List.mem_map, Prod.mk.injEq]
  constructor
  · rintro ⟨⟨a, b⟩, h, rfl, rfl⟩; exact h
  · intro h; exact ⟨_, h, rfl, rfl⟩
theorem Kn.nu {m n : Nat} {ps T : Prs} {V : Nat → Prop} (h : Kn m n ps T V (List.range m) []) (hb : Bd m n ps) : Nu m ps T.length := by
  have hm : Mat ps (T.map fun p => (p.2, p.1)) := ⟨fun ⟨r, l⟩ hp => h.tk.sub _ (swap_mem.mp hp), by rw [swap_fst]; exact h.sn, by rw [swap_snd]; exact h.tk.tn⟩
  have := Nu_of (m := m) hm (fun p hp => (hb.lt p hp).1) V ?_ ?_ ?_
  · simpa using this
  · intro p hp hx
    rw [swap_fst] at hx
    exact h.dn p.1 (List.mem_range.mpr (hb.lt p hp).1) hx p.2 (mem_row.mpr hp)
  · intro l hl
    obtain ⟨r, h1, _⟩ := h.cl l hl
    exact ⟨r, swap_mem.mpr h1⟩
  · rintro ⟨r, l⟩ hq hl p hp e
    obtain ⟨r', h1, h2⟩ := h.cl l hl
    have := key_fun h.tk.tn h1 (swap_mem.mp hq)
    subst this
    have e : p.1 = r' := e
    exact h2 p.2 (mem_row.mpr (e ▸ hp))
theorem m_L_rc_taken : Meets sp_L_rc_taken 4 w_L_rc_taken := by
  rintro ds S Q E ⟨m, n, ps, rfl, hb, q⟩
  have hn := hb.n24
  simp [wBody, w_L_rc_taken]
  intro t ht
  refine loop_map (F := fun (i : Nat) => D.int i) (P := fun rest s S2 => ∃ y T V done, s = [some (nearD m ps), some (.lst (nl (List.range m))), some (.ref t), y] ∧ S2 t = some (.dK (nd T)) ∧ (∀ b, b ≠ t → S b ≠ none → S2 b = S b) ∧ List.range m = done ++ rest ∧ Kn m n ps T V done rest) ?_ ?_ _ _ _
    ⟨_, [], fun _ => False, [], rfl, set_same, fun b h1 _ => set_ne h1, rfl, ⟨⟨.nil, by simp⟩, .nil, by simp, fun _ h => h.elim, by simp⟩⟩
  · rintro s S2 ⟨y, T, V, done, rfl, d1, hf, hr, hK⟩
    refine ⟨trivial, ?_⟩
    simp at hr
    subst hr
    simp
    refine fz_rst (S0 := set S t (.dK (nd T))) (q t T _ (hK.nu hb) ht ?_ ?_)
    · rw [rst_at set_same]; exact d1
    · intro b hbt
      cases hS : S b with
      | none => exact rst_none (by rw [set_ne hbt]; exact hS)
      | some o => rw [rst_at ((set_ne hbt).trans hS), hf b hbt (by rw [hS]; exact Option.some_ne_none _)]; exact hS
  · rintro r rest s S2 N ⟨y, T, V, done, rfl, d1, hf, hr, hK⟩ hN
    refine ⟨trivial, ?_⟩
    have hrm : r < m := List.mem_range.mp (by rw [hr]; simp)
    have hnd : (done ++ r :: rest).Nodup := hr ▸ List.nodup_range
    have hrr : r ∉ rest := (List.nodup_cons.mp (List.nodup_append.mp hnd).2.1).1
    simp
    intro e he
    have het : e ≠ t := fun h => by rw [h, d1] at he; cases he
    refine ⟨t, e, m, n, r, T, ps, [], V, rfl, Ne.symm het, by rw [set_ne (Ne.symm het)]; exact d1, by rw [set_same]; rfl, hK.tk, .nil, by simp, by simp; omega, hrm, hb, hK.cl, ?_, ?_⟩
    · intro E' S' a1 a2 a3 a4 a5 a6 a7
      refine hN _ _ ⟨_, T, fun l => V l ∨ l ∈ E', done ++ [r], rfl, ?_, ?_, by rw [hr]; simp, hK.tk, hK.sn, fun x hx hx2 => hK.sr x hx (by simp [hx2]), ?_, ?_⟩
      · rw [a7 t (Ne.symm het), set_ne (Ne.symm het)]; exact d1
      · intro b h1 h2
        by_cases hbe : b = e
        · subst hbe
          have := hf b h1 h2
          rw [he] at this
          exact absurd this.symm h2
        · rw [a7 b hbe, set_ne hbe]; exact hf b h1 h2
      · rintro l (hl | hl)
        · obtain ⟨r', h1, h2⟩ := hK.cl l hl
          exact ⟨r', h1, fun l2 h => .inl (h2 l2 h)⟩
        · obtain ⟨r', h1, h2⟩ := a3 l hl (by simp)
          exact ⟨r', h1, fun l2 h => .inr (h2 l2 h)⟩
      · intro x hx hxT l hl
        rcases List.mem_append.mp hx with h1 | h1
        · exact .inl (hK.dn x h1 hxT l hl)
        · simp at h1; subst h1; exact .inr (a2 l hl)
    · intro T' E' S' a1 a2 a3 a4 a5 a6 a7 a8 a9 a10
      have hmem : ∀ x, x ∈ T'.map (·.2) ↔ x = r ∨ x ∈ T.map (·.2) := fun x => by rw [a3.mem_iff, List.mem_cons]
      refine hN _ _ ⟨_, T', V, done ++ [r], rfl, a8, ?_, by rw [hr]; simp, a2, ?_, ?_, ?_, ?_⟩
      · intro b h1 h2
        by_cases hbe : b = e
        · subst hbe
          have := hf b h1 h2
          rw [he] at this
          exact absurd this.symm h2
        · rw [a10 b h1 hbe, set_ne hbe]; exact hf b h1 h2
      · refine a3.nodup_iff.mpr (List.nodup_cons.mpr ⟨fun h => hK.sr r h (by simp), hK.sn⟩)
      · intro x hx hx2
        rcases (hmem x).mp hx with rfl | h1
        · exact hrr hx2
        · exact hK.sr x h1 (by simp [hx2])
      · intro l hl
        obtain ⟨r', h1, h2⟩ := hK.cl l hl
        exact ⟨r', (a4 l (.inr hl) r').mpr h1, h2⟩
      · intro x hx hxT l hl
        rcases List.mem_append.mp hx with h1 | h1
        · exact hK.dn x h1 (fun h => hxT ((hmem x).mpr (.inr h))) l hl
        · simp at h1; subst h1
          exact absurd ((hmem x).mpr (.inl rfl)) hxT
theorem m_L_rc_size : Meets sp_L_rc_size 2 w_L_rc_size := by
  rintro ds S Q E ⟨m, n, ps, d, rfl, hd, hb, q⟩
  have hm := hb.m24
  simp [wBody, w_L_rc_size]
  refine ⟨m, n, ps, d, rfl, hd, hb, ?_⟩
  refine ⟨by omega, m, n, ps, by simp [nl], hb, ?_⟩
  intro t T S' hN ht d1 hf
  refine ⟨_, oLen_dK d1, ?_⟩
  refine fz_same (S0 := S) (fun a o ha => ?_) ?_
  · rw [hf a (fun e => by rw [e, ht] at ha; cases ha)]; exact ha
  · have := q _ hN
    simpa [nd] using this
theorem bd_filter {m n : Nat} {ps : Prs} (hb : Bd m n ps) (f : Nat × Nat → Bool) : Bd m n (ps.filter f) :=
  ⟨hb.m24, hb.n24, fun p hp => hb.lt p (List.mem_filter.mp hp).1, Nat.le_trans (List.length_filter_le _ _) hb.len⟩
theorem ddp_nat {Lx : List Nat} : ∃ Ly : List Nat, ddp (Lx.map fun (n : Nat) => (n : Int)) = Ly.map (fun (n : Nat) => (n : Int)) ∧ Ly.Nodup ∧ ∀ x, x ∈ Ly ↔ x ∈ Lx := by
  induction Lx with
  | nil => exact ⟨[], rfl, .nil, fun x => Iff.rfl⟩
  | cons x r ih =>
    obtain ⟨Ly, h1, h2, h3⟩ := ih
    rw [List.map_cons, ddp]
    have hx : ((x : Int) ∈ r.map fun (n : Nat) => (n : Int)) ↔ x ∈ r := by
      simp only [List.mem_map]
      constructor
      · rintro ⟨a, ha, e⟩; have : a = x := by omega
        exact this ▸ ha
      · exact fun h => ⟨x, h, rfl⟩
    by_cases h : x ∈ r
    · rw [if_pos (hx.mpr h)]
      refine ⟨Ly, h1, h2, fun y => ?_⟩
      rw [h3, List.mem_cons]
      exact ⟨.inr, fun h' => h'.elim (fun e => e ▸ h) id⟩
    · rw [if_neg (fun h' => h (hx.mp h')), h1]
      refine ⟨x :: Ly, rfl, List.nodup_cons.mpr ⟨fun h' => h ((h3 x).mp h'), h2⟩, fun y => ?_⟩
      rw [List.mem_cons, List.mem_cons, h3]
theorem m_L_rc_doubled : Meets sp_L_rc_doubled 8 w_L_rc_doubled := by
  rintro ds S Q E ⟨m, n, ps, rfl, hw, R, L, hD, q⟩
  have hb := hw.toBd
  have hm := hb.m24
  have hn := hb.n24
  have hlt : ∀ p ∈ ps, p.1 < m := fun p hp => (hb.lt p hp).1
  simp [wBody, w_L_rc_doubled, wipe]
  refine ⟨m, n, ps, _, rfl, .inl rfl, hb, fun k hk => ?_⟩
  refine ⟨by omega, ?_⟩
  refine comp_map (F := fun (i : Nat) => D.int i) (p := fun r => decide (r ∈ R)) (f := fun (i : Nat) => D.int i) trivial _ _ ?_ ?_
  · intro r hr K1 K2 h1 h2
    have hr := List.mem_range.mp hr
    simp [wipe]
    refine comp_map (p := fun p => decide (p.1 ≠ r)) (f := pD) trivial _ _ ?_ ?_
    · intro p hp L1 L2 g1 g2
      by_cases e : p.1 = r
      · simp [pD, e]
        exact g2 (by simp [e])
      · have e' : ((p.1 : Int) = r) = False := by simp; omega
        simp [pD, e']
        exact g1 (by simp [e])
    · rw [List.nil_append]
      refine ⟨m, n, ps.filter fun p => decide (p.1 ≠ r), _, rfl, .inr rfl, bd_filter hb _, fun k' hk' => ?_⟩
      have hiff := hD.iff hlt hk hr hk'
      by_cases e : k' = k
      · have hR := hiff.mpr e
        subst e
        simp
        exact h1 (by simpa using hR)
      · have hR : r ∉ R := fun h => e (hiff.mp h)
        have e' : ((k' : Int) = k) = False := by simp; omega
        simp [e']
        exact h2 (by simpa using hR)
  · have hRm : (List.range m).filter (fun r => decide (r ∈ R)) = R := by
      refine srt_eq (List.pairwise_lt_range.filter _) hD.rs fun x => ?_
      rw [List.mem_filter, List.mem_range]
      simp only [decide_eq_true_eq]
      exact ⟨fun h => h.2, fun h => ⟨hD.cov.lt x h, h⟩⟩
    rw [List.nil_append, hRm]
    refine comp_map (p := fun p => decide (p.1 ∈ R)) (f := fun p => .int p.2) trivial _ _ ?_ ?_
    · intro p hp K1 K2 h1 h2
      by_cases e : p.1 ∈ R
      · simp [pD, gNames, oIn_seq (seqOf_lst (xs := nl R)), e]
        refine ⟨_, oIn_seq (ns := R) rfl, ?_⟩
        simp [e]
        exact h1 (by simpa using e)
      · simp [pD, gNames]
        refine ⟨_, oIn_seq (ns := R) rfl, ?_⟩
        simp [e]
        exact h2 (by simpa using e)
    · obtain ⟨Ly, y1, y2, y3⟩ := ddp_nat (Lx := ((ps.filter fun p => decide (p.1 ∈ R)).map (·.2)))
      have e1 : ([] ++ (ps.filter fun p => decide (p.1 ∈ R)).map fun p => D.int p.2) = (((ps.filter fun p => decide (p.1 ∈ R)).map (·.2)).map fun (n : Nat) => (n : Int)).map D.int := by
        rw [List.nil_append, List.map_map, List.map_map]; rfl
      have hmem : ∀ x, x ∈ Ly ↔ x ∈ L := fun x => by
        rw [y3, List.mem_map]
        constructor
        · rintro ⟨p, hp, rfl⟩
          have := List.mem_filter.mp hp
          exact hD.cov.cov p this.1 (by simpa using this.2)
        · intro hx
          obtain ⟨r, h1, h2⟩ := hD.nb x hx
          exact ⟨_, List.mem_filter.mpr ⟨h2, by simpa using h1⟩, rfl⟩
      obtain ⟨R', z1, z2, z3⟩ := isort_nl Ly
      have hL : R' = L := srt_eq (srt_lt z3 (z2.nodup_iff.mpr y2)) hD.ls fun x => by rw [z2.mem_iff]; exact hmem x
      subst hL
      have hlen : Ly.length ≤ n := by
        refine lt_len y2 fun x hx => ?_
        obtain ⟨r, h1, h2⟩ := hD.nb x ((hmem x).mp hx)
        exact (hb.lt _ h2).2
      have h576 : (ps.filter fun p => decide (p.1 ∈ R)).length ≤ 576 := Nat.le_trans (List.length_filter_le _ _) hb.len
      rw [e1]
      refine ⟨_, rfl, by simpa using Nat.le_trans h576 (by decide), by rw [y1]; simp; omega, ?_⟩
      rw [y1, z1]
      exact .refl q
end K80
end Dl
set_option linter.all false
namespace Dl
namespace K80
open Mt Cm
theorem comp_indm {α : Type} {F : α → D} {chk : Store → Prop} {g : WG} {t : WT} {e : WE} {s : Sg} {Q : List D → Store → Prop} {P : List α → List D → Store → Prop} (h0 : ∀ acc S, P [] acc S → chk S ∧ Q acc S)
    (hs : ∀ x r acc S (K1 : D → Store → Prop) (K2 : Store → Prop), P (x :: r) acc S → (∀ y S', P r (acc ++ [y]) S' → K1 y S') → (∀ S', P r acc S' → K2 S') →
      chk S ∧ g (F x) (fun _ _ => False) s S fun s1 S1 => t (fun _ _ => False) s1 S1 fun b S2 => if b = true then e (fun _ _ => False) s1 S2 K1 else K2 S2) :
    ∀ (xs : List α) (acc : List D) (S : Store), P xs acc S → comp chk g t e s (xs.map F) acc S Q
  | [], acc, S, h => h0 acc S h
  | x :: r, acc, S, h => hs x r acc S _ _ h (fun y S' h' => comp_indm h0 hs r (acc ++ [y]) S' h') (fun S' h' => comp_indm h0 hs r acc S' h')
def tD (lot : List Nat) : D := .tup (nl lot)
def Good (m : Nat) (lot : List Nat) : Prop := lot.Pairwise (· < ·) ∧ ∀ x ∈ lot, x < m
theorem good_len {m : Nat} {lot : List Nat} (h : Good m lot) : lot.length ≤ m := lt_len (h.1.imp fun hab e => Nat.ne_of_lt hab e) h.2
theorem fits_tD {k : Nat} {lot : List Nat} : D.fits (k + 1) (tD lot) = true := fits_nl
theorem ne_tup {S : Store} {lot : List Nat} : oNe S (tD lot) (.tup []) = some (.bl (!lot.isEmpty)) := by
  have h0 : D.fits 60 (.tup []) = true := by simp [D.fits]
  unfold oNe
  rw [show drf S (tD lot) = tD lot from rfl, drf_tup, fits_tD, h0]
  cases lot <;> rfl
theorem last_ix {S : Store} {lot : List Nat} {x : Nat} : oIx S (tD (lot ++ [x])) (.int (-1)) = some (.int x) := by
  unfold tD
  rw [oIx_tup0]
  have h1 : ¬ (0 : Int) ≤ -1 := by decide
  have h2 : -((nl (lot ++ [x])).length : Int) ≤ -1 := by simp [nl]; omega
  unfold ixD
  rw [if_neg h1, if_pos h2]
  have : ((-1 : Int) + (nl (lot ++ [x])).length).toNat = lot.length := by simp [nl]; omega
  rw [this]
  simp [nl]
theorem m_L_au_lots : Meets sp_L_au_lots 8 w_L_au_lots := by
  rintro ds S Q E ⟨m, rfl, hm, q⟩
  simp [wBody, w_L_au_lots, show ¬ (m : Int) < m from by omega]
  refine ⟨by omega, ?_⟩
  refine loop_map (F := fun (i : Nat) => D.int i) (P := fun rest s S2 => S2 = S ∧ ∃ A B a b c d, s = [some (.int m), some (.int m), some (.lst (A.map tD)), some (.lst (B.map tD)), a, b, c, d] ∧ (∀ l ∈ A, Good m l) ∧ (∀ l ∈ B, Good m l) ∧ ∃ k, k + rest.length ≤ 7 ∧ A.length ≤ 7 ^ k ∧ B.length ≤ 8 ^ k) ?_ ?_ _ _ _
    ⟨rfl, [[]], [[]], _, _, _, _, rfl, by simp [Good], by simp [Good], 0, by simpa using hm, by simp, by simp⟩
  · rintro s S2 ⟨rfl, A, B, a, b, c, d, rfl, hA, hB, k, hk, hAl, hBl⟩
    refine ⟨trivial, ?_⟩
    simp
    exact .refl (q B hB)
  · rintro tn rest s S2 N ⟨rfl, A, B, a, b, c, d, rfl, hA, hB, k, hk, hAl, hBl⟩ hN
    refine ⟨trivial, ?_⟩
    simp at hk
    have hk7 : 7 ^ (k + 1) ≤ 7 ^ 7 := Nat.pow_le_pow_right (by decide) (by omega)
    have hk8 : 8 ^ (k + 1) ≤ 8 ^ 7 := Nat.pow_le_pow_right (by decide) (by omega)
    have hk78 : 7 ^ k ≤ 8 ^ k := Nat.pow_le_pow_left (by decide) k
    have e7 : 7 ^ (k + 1) = 7 * 7 ^ k := by rw [Nat.pow_succ, Nat.mul_comm]
    have e8 : 8 ^ (k + 1) = 8 * 8 ^ k := by rw [Nat.pow_succ, Nat.mul_comm]
    simp
    refine loop_map (P := fun rest2 s S3 => S3 = S2 ∧ ∃ A2 c d done, s = [some (.int m), some (.int m), some (.lst (A.map tD)), some (.lst (B.map tD)), some (.int tn), some (.lst (A2.map tD)), c, d] ∧ (∀ l ∈ A2, Good m l) ∧ A = done ++ rest2 ∧ A2.length ≤ 7 * done.length) ?_ ?_ _ _ _
      ⟨rfl, [], _, _, [], rfl, by simp, rfl, by simp⟩
    · rintro s S3 ⟨rfl, A2, c, d, done, rfl, hA2, e, hl⟩
      simp at e; subst e
      refine ⟨trivial, ?_⟩
      simp
      refine ⟨by omega, hN _ _ ⟨rfl, A2, B ++ A2, _, _, _, _, by rw [List.map_append], hA2, fun l hl => ?_, k + 1, by omega, by omega, by simp; omega⟩⟩
      rcases List.mem_append.mp hl with h | h
      · exact hB l h
      · exact hA2 l h
    · rintro lot rest2 s S3 N2 ⟨rfl, A2, c, d, done, rfl, hA2, e, hl⟩ hN2
      refine ⟨trivial, ?_⟩
      have hg : Good m lot := hA lot (by rw [e]; simp)
      have hgl := good_len hg
      have hdl : done.length + 1 ≤ A.length := by rw [e]; simp
      -- the claims behind the last
      have tail : ∀ st : Nat, (∀ x ∈ lot, x < st) → ∀ (N3 : List D → Store → Prop), (∀ Ls : List (List Nat), (∀ l ∈ Ls, Good m l) → Ls.length ≤ 7 → N3 (Ls.map tD) S3) →
          comp (fun S' => True) (gName 7) tYes (w2 oAdd (wVar 6) (wTup (wCons (wVar 7) wNil))) [some (.int m), some (.int m), some (.lst (A.map tD)), some (.lst (B.map tD)), some (.int tn), some (.lst (A2.map tD)), some (tD lot), none] (rng st m) [] S3 N3 := by
        intro st hst N3 hN3
        unfold rng
        refine comp_map (F := fun (i : Nat) => D.int ((st : Int) + i)) (p := fun _ => true) (f := fun i => tD (lot ++ [st + i])) trivial _ _ ?_ ?_
        · intro i hi K1 K2 h1 _
          simp [tD, nl_len]
          refine ⟨_, ⟨by omega, rfl⟩, ?_⟩
          have := h1 rfl
          simpa [tD, nl] using this
        · rw [filter_tt, List.nil_append]
          have := hN3 ((List.range ((m : Int) - st).toNat).map fun i => lot ++ [st + i]) ?_ ?_
          · rw [List.map_map] at this; exact this
          · intro l hl
            obtain ⟨i, hi, rfl⟩ := List.mem_map.mp hl
            have hi := List.mem_range.mp hi
            refine ⟨List.pairwise_append.mpr ⟨hg.1, by simp, fun a ha b hb => ?_⟩, fun x hx => ?_⟩
            · simp at hb; subst hb; have := hst a ha; omega
            · rcases List.mem_append.mp hx with h | h
              · exact hg.2 x h
              · simp at h; omega
          · simp; omega
      have fin : ∀ Ls : List (List Nat), (∀ l ∈ Ls, Good m l) → Ls.length ≤ 7 → A2.length + Ls.length ≤ 16777216 ∧ ∀ c d, N2 [some (.int m), some (.int m), some (.lst (A.map tD)), some (.lst (B.map tD)), some (.int tn), some (.lst (A2.map tD ++ Ls.map tD)), c, d] S3 := by
        intro Ls h1 h2
        refine ⟨by omega, fun c d => hN2 _ _ ⟨rfl, A2 ++ Ls, _, _, done ++ [lot], by rw [List.map_append], fun l hl' => ?_, by rw [e]; simp, by simp; omega⟩⟩
        rcases List.mem_append.mp hl' with h | h
        · exact hA2 l h
        · exact h1 l h
      rcases List.eq_nil_or_concat lot with rfl | ⟨init, x, hcc⟩
      · simp [ne_tup, wipe]
        refine ⟨by omega, ?_⟩
        refine tail 0 (by simp) _ fun Ls h1 h2 => ?_
        simp
        exact ⟨(fin Ls h1 h2).1, (fin Ls h1 h2).2 _ _⟩
      · rw [List.concat_eq_append] at hcc
        subst hcc
        have hx : x < m := hg.2 x (by simp)
        have hlt : ∀ y ∈ init ++ [x], y < x + 1 := fun y hy => by
          rcases List.mem_append.mp hy with h | h
          · have := (List.pairwise_append.mp hg.1).2.2 y h x (by simp); omega
          · simp at h; omega
        simp [ne_tup, last_ix, wipe]
        refine ⟨by omega, by omega, by omega, by omega, ?_⟩
        refine tail (x + 1) hlt _ fun Ls h1 h2 => ?_
        simp
        exact ⟨(fin Ls h1 h2).1, (fin Ls h1 h2).2 _ _⟩
end K80
end Dl
set_option linter.all false
namespace Dl
namespace K80
open Mt Cm
theorem perm_map_inv {α : Type} {f : α → D} {l k : List D} (h : l.Perm k) : ∀ m : List α, k = m.map f → ∃ m' : List α, m'.Perm m ∧ l = m'.map f := by
  induction h with
  | nil => intro m e; exact ⟨[], by simp at e; simp [e], rfl⟩
  | cons x _ ih =>
    intro m e
    cases m with
    | nil => cases e
    | cons y m =>
      simp at e
      obtain ⟨m', h1, h2⟩ := ih m e.2
      exact ⟨y :: m', h1.cons y, by rw [List.map_cons, ← h2, e.1]⟩
  | swap x y l =>
    intro m e
    cases m with
    | nil => cases e
    | cons a m =>
      cases m with
      | nil => simp at e
      | cons b m =>
        simp at e
        exact ⟨b :: a :: m, .swap _ _ _, by rw [List.map_cons, List.map_cons, ← e.1, ← e.2.1, ← e.2.2]⟩
  | trans _ _ ih1 ih2 =>
    intro m e
    obtain ⟨m1, h1, e1⟩ := ih2 m e
    obtain ⟨m2, h2, e2⟩ := ih1 m1 e1
    exact ⟨m2, h2.trans h1, e2⟩
theorem sl_take {S : Store} {ys : List D} {k : Nat} : oSl S (.lst ys) .non (.int k) = some (.lst (ys.take k)) := by
  simp only [oSl, seqOf_lst, Option.bind_some, clip, cut]
  have h1 : ¬ (k : Int) < 0 := by omega
  simp only [h1, if_false]
  congr 2
  rw [Nat.sub_zero, List.drop_zero, Int.toNat_natCast]
  by_cases h : k ≤ ys.length
  · rw [Nat.min_eq_left h]
  · rw [Nat.min_eq_right (by omega), List.take_length, List.take_of_length_le (by omega)]
def cst (p : Nat × Nat) : Int × Int := (p.1, p.2)
theorem prD_cst (p : Nat × Nat) : prD (cst p) = pD p := rfl
theorem plt_iff {a b : Int × Int} : (!plt b a) = true ↔ (a.1 < b.1 ∨ (a.1 = b.1 ∧ a.2 ≤ b.2)) := by
  unfold plt
  split <;> simp <;> omega
theorem psort_nat (F : Prs) (hn : F.Nodup) : ∃ W : Prs, (psort (F.map cst)).map prD = W.map pD ∧ W.Perm F ∧ W.Pairwise lt2 := by
  have hp : (psort (F.map cst)).Perm (F.map cst) := List.mergeSort_perm _ _
  have hs : (psort (F.map cst)).Pairwise (fun a b => (!plt b a) = true) := by
    refine List.pairwise_mergeSort (fun a b c h1 h2 => ?_) (fun a b => ?_) _
    · rw [plt_iff] at *; omega
    · rw [Bool.or_eq_true, plt_iff, plt_iff]; omega
  have hc : ∀ q ∈ psort (F.map cst), cst (q.1.toNat, q.2.toNat) = q := fun q hq => by
    obtain ⟨p, _, rfl⟩ := List.mem_map.mp (hp.mem_iff.mp hq)
    rfl
  have hW : ((psort (F.map cst)).map fun q => (q.1.toNat, q.2.toNat)).Perm F := by
    have := hp.map fun q : Int × Int => (q.1.toNat, q.2.toNat)
    rw [List.map_map] at this
    refine this.trans (.of_eq ?_)
    exact (List.map_congr_left fun p _ => rfl).trans (List.map_id _)
  refine ⟨(psort (F.map cst)).map fun q => (q.1.toNat, q.2.toNat), ?_, hW, ?_⟩
  · rw [List.map_map]
    refine List.map_congr_left fun q hq => ?_
    show prD q = prD (cst (q.1.toNat, q.2.toNat))
    rw [hc q hq]
  · have hnd : ((psort (F.map cst)).map fun q => (q.1.toNat, q.2.toNat)).Nodup := hW.nodup_iff.mpr hn
    refine List.pairwise_map.mpr ?_
    have := List.Pairwise.and hs (List.pairwise_map.mp hnd)
    refine this.imp_of_mem fun {a b} ha hb ⟨h1, h2⟩ => ?_
    have ea := hc a ha
    have eb := hc b hb
    generalize ea' : ((a.1.toNat, a.2.toNat) : Nat × Nat) = a' at *
    generalize eb' : ((b.1.toNat, b.2.toNat) : Nat × Nat) = b' at *
    rw [← ea, ← eb] at h1
    obtain ⟨x, y⟩ := a'
    obtain ⟨z, w⟩ := b'
    rw [plt_iff] at h1
    simp [cst] at h1 h2
    simp [lt2]
    omega
theorem TM_ : TM = 1099511627776 := rfl
theorem m_L_rc_web : Meets sp_L_rc_web 10 w_L_rc_web := by
  rintro ds S Q E ⟨a, g, t, top, most, rfl, ht, hmo, hst, htt, q⟩
  simp [wBody, w_L_rc_web]
  refine ⟨a, g, t, _, rfl, by omega, by omega, hst, by rw [TM_]; omega, fun k S1 h0 h1 hs1 hd1 => ?_⟩
  obtain ⟨M, rfl⟩ := Int.eq_ofNat_of_zero_le h0
  refine ⟨a, g, t + 1, _, rfl, by omega, by omega, hs1, by rw [TM_]; omega, fun k S2 h0' h1' hs2 hd2 => ?_⟩
  obtain ⟨O, rfl⟩ := Int.eq_ofNat_of_zero_le h0'
  have hf2 : ∀ S, oFdiv S (.int O) (.int 2) = some (.int ((O : Int) / 2)) := fun S => oFdiv_int (by decide)
  have hf3 : ∀ S, oFdiv S (.int O) (.int 3) = some (.int ((O : Int) / 3)) := fun S => oFdiv_int (by decide)
  simp [hf2, hf3]
  refine ⟨a, g, t + 2, _, rfl, by simp, by simp, hs2, by rw [TM_]; omega, fun x S3 hx hs3 hd3 => ?_⟩
  have hth : ∃ th : Int, x = .int th ∧ 0 < th ∧ th < 1073741824 := by
    simp at hx
    rcases hx with rfl | rfl | rfl | rfl | rfl <;> exact ⟨_, rfl, by omega, by omega⟩
  obtain ⟨th, rfl, hth0, hth1⟩ := hth
  refine ⟨a, g, t + 3, _, rfl, by omega, by omega, hs3, by rw [TM_]; omega, fun k3 S4 h03 h13 hs4 hd4 => ?_⟩
  simp
  refine ⟨by omega, ?_⟩
  generalize decide (k3 = 0) = ul
  refine loop_map (F := fun (i : Nat) => D.int i) (P := fun rest s S5 => ∃ F done th y z, s = [some (.ref a), some (.int top), some (.int most), some (.int M), some (.int O), some (.lst (F.map pD)), some (.int th), some (.bl ul), y, z] ∧ 0 < th ∧ th < 1073741824 ∧ List.range M = done ++ rest ∧
    F.Nodup ∧ (∀ p ∈ F, p.1 ∈ done ∧ p.2 < O) ∧ F.length ≤ 24 * done.length ∧ StD S5 a g (t + 10 + 30 * done.length)) ?_ ?_ _ _ _
    ⟨[], [], th, _, _, rfl, hth0, hth1, rfl, .nil, by simp, by simp, hs4.mono (by omega)⟩
  · rintro s S5 ⟨F, done, th, y, z, rfl, hth0, hth1, hr, hF, hFb, hFl, hs5⟩
    refine ⟨trivial, ?_⟩
    simp at hr
    subst hr
    simp at hFl
    simp
    refine ⟨a, g, _, _, rfl, by simp; omega, ?_, hs5, by rw [TM_]; simp; omega, fun ys S6 hp hs6 hd6 => ?_⟩
    · simp [D.fits, pD]
    · obtain ⟨F', hF', rfl⟩ := perm_map_inv hp F rfl
      have hsub : ∀ p ∈ F'.take most, p ∈ F := fun p h => hF'.mem_iff.mp (List.mem_of_mem_take h)
      obtain ⟨W, w1, w2, w3⟩ := psort_nat (F'.take most) ((hF'.nodup_iff.mpr hF).sublist (List.take_sublist _ _))
      refine ⟨_, sl_take, _, rfl, .inr ⟨(F'.take most).map cst, ?_, ?_⟩⟩
      · rw [← List.map_take, List.map_map]; rfl
      · rw [w1]
        refine .refl (q M O W S6 ⟨⟨by omega, by omega, fun p hp => ?_, ?_⟩, w3⟩)
        · have := hFb p (hsub p (w2.mem_iff.mp hp))
          exact ⟨List.mem_range.mp this.1, this.2⟩
        · rw [w2.length_eq]
          exact Nat.le_trans (List.length_take_le _ _) hmo
  · rintro r rest s S5 N ⟨F, done, th, y, z, rfl, hth0, hth1, hr, hF, hFb, hFl, hs5⟩ hN
    refine ⟨trivial, ?_⟩
    have hdl : done.length + 1 ≤ M := by
      have := congrArg List.length hr
      simp at this; omega
    have hrd : r ∉ done := by
      have : (done ++ r :: rest).Nodup := hr ▸ List.nodup_range
      intro h
      exact (List.nodup_append.mp this).2.2 r h r (by simp) rfl
    simp only [gName_, List.set_cons_succ, List.set_cons_zero]
    refine seq_mid (fun s' S' => ∃ th z, s' = [some (.ref a), some (.int top), some (.int most), some (.int M), some (.int O), some (.lst (F.map pD)), some (.int th), some (.bl ul), some (.int r), z] ∧ 0 < th ∧ th < 1073741824 ∧ StD S' a g (t + 10 + 30 * done.length + 1)) ?_ ?_
    · intro N2 hN2
      cases ul with
      | false =>
        simp
        exact hN2 _ _ ⟨th, _, rfl, hth0, hth1, hs5.mono (by omega)⟩
      | true =>
        simp
        refine ⟨a, g, _, _, rfl, by simp, by simp, hs5, by rw [TM_]; omega, fun x S6 hx hs6 hd6 => ?_⟩
        have hth : ∃ th : Int, x = .int th ∧ 0 < th ∧ th < 1073741824 := by
          simp at hx
          rcases hx with rfl | rfl | rfl <;> exact ⟨_, rfl, by omega, by omega⟩
        obtain ⟨th', rfl, b1, b2⟩ := hth
        exact hN2 _ _ ⟨th', _, rfl, b1, b2, hs6⟩
    · rintro s' S6 ⟨th, z, rfl, hth0, hth1, hs6⟩
      simp [wipe]
      refine ⟨by omega, ?_⟩
      refine comp_indm (F := fun (i : Nat) => D.int i) (P := fun rest2 acc S7 => ∃ (G : Prs) (done2 : List Nat), acc = G.map pD ∧ List.range O = done2 ++ rest2 ∧ G.Nodup ∧ (∀ p ∈ G, p.1 = r ∧ p.2 ∈ done2) ∧ G.length ≤ done2.length ∧ StD S7 a g (t + 10 + 30 * done.length + 1 + done2.length)) ?_ ?_ _ _ _ ⟨[], [], rfl, rfl, .nil, by simp, by simp, hs6⟩
      · rintro acc S7 ⟨G, done2, rfl, hr2, hG, hGb, hGl, hs7⟩
        simp at hr2
        subst hr2
        simp at hGl
        refine ⟨trivial, ?_⟩
        refine ⟨by simp; omega, ?_⟩
        refine hN _ _ ⟨F ++ G, done ++ [r], th, _, _, by rw [List.map_append], hth0, hth1, by rw [hr]; simp, List.nodup_append.mpr ⟨hF, hG, fun x hx y hy e => ?_⟩, fun p hp => ?_, by simp; omega, hs7.mono (by simp; omega)⟩
        · subst e
          exact hrd ((hGb x hy).1 ▸ (hFb x hx).1)
        · rcases List.mem_append.mp hp with h | h
          · exact ⟨List.mem_append_left _ (hFb p h).1, (hFb p h).2⟩
          · have := hGb p h
            exact ⟨by rw [this.1]; simp, List.mem_range.mp this.2⟩
      · rintro c rest2 acc S7 K1 K2 ⟨G, done2, rfl, hr2, hG, hGb, hGl, hs7⟩ h1 h2
        refine ⟨trivial, ?_⟩
        have hd2l : done2.length + 1 ≤ O := by
          have := congrArg List.length hr2
          simp at this; omega
        have hcd : c ∉ done2 := by
          have : (done2 ++ c :: rest2).Nodup := hr2 ▸ List.nodup_range
          intro h
          exact (List.nodup_append.mp this).2.2 c h c (by simp) rfl
        simp
        refine ⟨a, g, _, _, rfl, hth0, hth1, hs7, by rw [TM_]; omega, fun k S8 hk0 hk1 hs8 hd8 => ?_⟩
        simp
        by_cases hk : k = 0
        · subst hk
          simp
          refine h1 _ _ ⟨G ++ [(r, c)], done2 ++ [c], by simp [pD], by rw [hr2]; simp, List.nodup_append.mpr ⟨hG, by simp, fun x hx y hy e => ?_⟩, fun p hp => ?_, by simp; omega, hs8.mono (by simp; omega)⟩
          · simp at hy; subst e; subst hy
            exact hcd (hGb _ hx).2
          · rcases List.mem_append.mp hp with h | h
            · exact ⟨(hGb p h).1, List.mem_append_left _ (hGb p h).2⟩
            · simp at h; subst h; simp
        · simp [hk]
          refine h2 _ ⟨G, done2 ++ [c], rfl, by rw [hr2]; simp, hG, fun p hp => ⟨(hGb p hp).1, List.mem_append_left _ (hGb p hp).2⟩, by simp; omega, hs8.mono (by simp; omega)⟩
end K80
end Dl
set_option linter.all false
namespace Dl
namespace K80
open Mt Cm
theorem eqvs_nl : ∀ ns : List Nat, D.eqvs (nl ns) (nl ns) = true
  | [] => rfl
  | x :: r => by
    show (D.eqv (.int x) (.int x) && D.eqvs (nl r) (nl r)) = true
    rw [eqvs_nl r]; simp [D.eqv]
theorem eqvs_pD : ∀ ps : Prs, D.eqvs (ps.map pD) (ps.map pD) = true
  | [] => rfl
  | p :: r => by
    show (D.eqv (pD p) (pD p) && D.eqvs (r.map pD) (r.map pD)) = true
    rw [eqvs_pD r]; simp [pD, D.eqv, D.eqvs]
theorem ne_lots {S : Store} {R L : List Nat} : oNe S (.tup [.tup (nl R), .tup (nl L)]) (.tup [.tup (nl R), .tup (nl L)]) = some (.bl false) := by
  have h1 : D.fits 60 (.tup [.tup (nl R), .tup (nl L)]) = true := by
    have a : D.fits 59 (.tup (nl R)) = true := fits_nl
    have b : D.fits 59 (.tup (nl L)) = true := fits_nl
    show ([D.tup (nl R), D.tup (nl L)].all (D.fits 59)) = true
    simp [a, b]
  unfold oNe
  rw [drf_tup, h1]
  have : D.eqv (.tup [.tup (nl R), .tup (nl L)]) (.tup [.tup (nl R), .tup (nl L)]) = true := by
    show (D.eqvs (nl R) (nl R) && (D.eqvs (nl L) (nl L) && true)) = true
    rw [eqvs_nl, eqvs_nl]; rfl
  rw [this]; rfl
theorem enum_map {α : Type} {F : α → D} : ∀ (ps : List α) (k : Nat), enumFrom k (ps.map F) = (ps.zipIdx k).map fun q => .tup [.int q.2, F q.1]
  | [], _ => rfl
  | x :: r, k => by
    rw [List.map_cons, enumFrom, enum_map r (k + 1), List.zipIdx_cons, List.map_cons]
theorem fits_strs {ws : List String} : D.fits 60 (.lst (ws.map D.str)) = true := by simp [D.fits]
theorem fits_ones {α : Type} {l : List α} : D.fits 60 (.lst (l.map fun _ => D.int 1)) = true := by simp [D.fits]
/-- the words of a receipt's pairs -/
def own (ps : Prs) (ws : List String) (r : Nat) : List String := ((ps.zipIdx).filter fun q => decide (q.1.1 = r)).map fun q => ws.getD q.2 ""
theorem own_ok {ps : Prs} {ws : List String} {r : Nat} (hl : ws.length = ps.length) (h : ∀ p ∈ ps, ∃ (i : Nat) (h : i < ps.length) (h2 : i < ws.length), ps[i].1 = p.1 ∧ ws[i] ≠ "never") (hne : own ps ws r ≠ []) :
    (own ps ws r).filter (fun w => decide (w ≠ "never")) ≠ [] := by
  have hex : ∃ q ∈ ps.zipIdx, q.1.1 = r := by
    cases hq : (ps.zipIdx).filter fun q => decide (q.1.1 = r) with
    | nil => exact absurd (by unfold own; rw [hq]; rfl) hne
    | cons q t =>
      have : q ∈ (ps.zipIdx).filter fun q => decide (q.1.1 = r) := by rw [hq]; simp
      have := List.mem_filter.mp this
      exact ⟨q, this.1, by simpa using this.2⟩
  obtain ⟨q, hq, e⟩ := hex
  have hp : q.1 ∈ ps := by
    have := List.mem_zipIdx_iff_getElem?.mp hq
    exact List.mem_of_getElem? this
  obtain ⟨i, h1, h2, h3, h4⟩ := h q.1 hp
  have hm : ws[i] ∈ (own ps ws r).filter (fun w => decide (w ≠ "never")) := by
    refine List.mem_filter.mpr ⟨?_, by simpa using h4⟩
    refine List.mem_map.mpr ⟨(ps[i], i), List.mem_filter.mpr ⟨List.mem_zipIdx_iff_getElem?.mpr (by simp [h1]), by simp [h3, e]⟩, ?_⟩
    simp [List.getD, h2]
  intro he
  rw [he] at hm
  cases hm
end K80
end Dl
set_option linter.all false
namespace Dl
namespace K80
open Mt Cm
theorem pm0 {x : D} : pm [0] [x] = [x] := rfl
theorem m_law : Meets sp_law 15 w_law := by
  rintro ds S Q E ⟨ns, rfl, q⟩
  simp only [wBody, w_law, List.map_cons, List.map_nil, List.length_cons, List.length_nil]
  refine seq_mid (fun s' S' => ∃ a g, StD S' a g 0 ∧ s' = [some (.scr (ns.map D.int)), some (.ref a), none, none, none, none, none, none, none, none, none, none, none, none, none]) ?_ ?_
  · intro N hN
    simp
    exact ⟨ns, rfl, fun a g S' h1 h2 h3 h4 => hN _ _ ⟨a, g, h3, rfl⟩⟩
  rintro s' S' ⟨a, g, hs, rfl⟩
  refine seq_mid (fun s' S' => ∃ m n ps, Web m n ps ∧ s' = [some (.scr (ns.map D.int)), some (.ref a), some (wD m n ps), none, none, none, none, none, none, none, none, none, none, none, none]) ?_ ?_
  · intro N hN
    simp
    refine ⟨a, g, 0, _, rfl, by simp, by simp, hs, by rw [TM_]; omega, fun x S1 hx hs1 hd1 => ?_⟩
    have hx : ∃ top : Nat, x = .int top ∧ top ≤ 24 := by
      simp at hx
      rcases hx with rfl | rfl | rfl | rfl
      · exact ⟨3, rfl, by decide⟩
      · exact ⟨5, rfl, by decide⟩
      · exact ⟨7, rfl, by decide⟩
      · exact ⟨24, rfl, by decide⟩
    obtain ⟨top, rfl, ht⟩ := hx
    refine ⟨a, g, 1, _, rfl, by simp, by simp, hs1, by rw [TM_]; omega, fun x S2 hx hs2 hd2 => ?_⟩
    have hx : ∃ most : Nat, x = .int most ∧ most ≤ 576 := by
      simp at hx
      rcases hx with rfl | rfl
      · exact ⟨90, rfl, by decide⟩
      · exact ⟨576, rfl, by decide⟩
    obtain ⟨most, rfl, hmo⟩ := hx
    exact ⟨a, g, 2, top, most, rfl, ht, hmo, hs2, by omega, fun m n ps S' hw => hN _ _ ⟨m, n, ps, hw, rfl⟩⟩
  rintro s' S' ⟨m, n, ps, hw, rfl⟩
  have hb := hw.toBd
  have hm := hb.m24
  have hn := hb.n24
  have hlt : ∀ p ∈ ps, p.1 < m := fun p hp => (hb.lt p hp).1
  refine seq_mid (fun s' S' => ∃ R L, Dbl m ps R L ∧ s' = [some (.scr (ns.map D.int)), some (.ref a), some (wD m n ps), some (.tup [.tup (nl R), .tup (nl L)]), some (.int (R.length - L.length)), none, none, none, none, none, none, none, none, none, none]) ?_ ?_
  · intro N hN
    simp [pm0]
    refine ⟨m, n, ps, rfl, hw, fun R L hD => ⟨m, n, ps, rfl, hw, fun R' L' hD' => ?_⟩⟩
    obtain ⟨rfl, rfl⟩ := hD.uniq hlt hD'
    exact hN _ _ ⟨R, L, hD, rfl⟩
  rintro s' S' ⟨R, L, hD, rfl⟩
  obtain ⟨k, hk, hke⟩ := hD.k
  have hLn : ∀ x ∈ L, x < n := fun x hx => by
    obtain ⟨r, h1, h2⟩ := hD.nb x hx
    exact (hb.lt _ h2).2
  refine seq_mid (fun s' S1 => S1 = S' ∧ s' = [some (.scr (ns.map D.int)), some (.ref a), some (wD m n ps), some (.tup [.tup (nl R), .tup (nl L)]), some (.int (R.length - L.length)), some (.tup [.tup (nl R), .tup (nl L)]), none, none, none, none, none, none, none, none, none]) ?_ ?_
  · intro N hN
    simp [wD]
    exact ⟨m, n, ps, rfl, hw, R, L, hD, hN _ _ ⟨rfl, rfl⟩⟩
  rintro s' S1 ⟨rfl, rfl⟩
  refine seq_mid (fun s' S2 => S2 = S1 ∧ s' = [some (.scr (ns.map D.int)), some (.ref a), some (wD m n ps), some (.tup [.tup (nl R), .tup (nl L)]), some (.int (R.length - L.length)), some (.tup [.tup (nl R), .tup (nl L)]), none, none, none, none, none, none, none, none, none]) ?_ ?_
  · intro N hN
    simp
    refine ⟨m, n, _, R, L, rfl, hD.cov.lt, hD.rs, hLn, hD.ls, ?_⟩
    simp [ne_lots]
    exact hN _ _ ⟨rfl, rfl⟩
  rintro s' S2 ⟨rfl, rfl⟩
  refine seq_mid (fun s' S3 => S3 = S2 ∧ s' = [some (.scr (ns.map D.int)), some (.ref a), some (wD m n ps), some (.tup [.tup (nl R), .tup (nl L)]), some (.int (R.length - L.length)), some (.tup [.tup (nl R), .tup (nl L)]), none, none, none, none, none, none, none, none, none]) ?_ ?_
  · intro N hN
    simp
    refine ⟨_, rfl, ?_⟩
    simp [wD]
    refine ⟨m, n, ps, _, rfl, .inl rfl, hb, fun k' hk' => ?_⟩
    have := hk'.uniq hlt hk
    subst this
    have e1 : ((R.length : Int) - L.length = m - k') = True := by simp; omega
    simp [e1, nl_len]
    exact hN _ _ ⟨rfl, rfl⟩
  rintro s' S3 ⟨rfl, rfl⟩
  refine seq_mid (fun s' S4 => S4 = S3 ∧ ∃ ws : List String, ws.length = ps.length ∧ (∀ p ∈ ps, ∃ (i : Nat) (h : i < ps.length) (h2 : i < ws.length), ps[i].1 = p.1 ∧ ws[i] ≠ "never") ∧
    s' = [some (.scr (ns.map D.int)), some (.ref a), some (wD m n ps), some (.tup [.tup (nl R), .tup (nl L)]), some (.int (R.length - L.length)), some (.tup [.tup (nl R), .tup (nl L)]), some (.tup (ws.map D.str)), none, none, none, none, none, none, none, none]) ?_ ?_
  · intro N hN
    simp
    exact ⟨m, n, ps, rfl, hw, fun ws h1 h2 => hN _ _ ⟨rfl, ws, h1, h2, rfl⟩⟩
  rintro s' S4 ⟨rfl, ws, hwl, hwn, rfl⟩
  refine seq_mid (fun s' S5 => S5 = S4 ∧ ∃ x1 x2 x3 x4 x5 x6 x7 x8,
    s' = [some (.scr (ns.map D.int)), some (.ref a), some (wD m n ps), some (.tup [.tup (nl R), .tup (nl L)]), some (.int (R.length - L.length)), some (.tup [.tup (nl R), .tup (nl L)]), some (.tup (ws.map D.str)), x1, x2, x3, x4, x5, x6, x7, x8]) ?_ ?_
  · intro N hN
    simp [wD]
    refine ⟨by omega, ?_⟩
    refine loop_map (F := fun (i : Nat) => D.int i) (P := fun rest s' S5 => S5 = S4 ∧ ∃ x1 x2 x3 x4 x5 x6 x7 x8,
      s' = [some (.scr (ns.map D.int)), some (.ref a), some (wD m n ps), some (.tup [.tup (nl R), .tup (nl L)]), some (.int (R.length - L.length)), some (.tup [.tup (nl R), .tup (nl L)]), some (.tup (ws.map D.str)), x1, x2, x3, x4, x5, x6, x7, x8]) ?_ ?_ _ _ _ ⟨rfl, _, _, _, _, _, _, _, _, rfl⟩
    · rintro s S5 ⟨rfl, x1, x2, x3, x4, x5, x6, x7, x8, rfl⟩
      exact ⟨trivial, hN _ _ ⟨rfl, _, _, _, _, _, _, _, _, rfl⟩⟩
    · rintro r rest s S5 N2 ⟨rfl, x1, x2, x3, x4, x5, x6, x7, x8, rfl⟩ hN2
      refine ⟨trivial, ?_⟩
      simp only [gName_, List.set_cons_succ, List.set_cons_zero]
      refine seq_mid (fun s' S6 => S6 = S5 ∧ ∃ x3 x4 x5 x6 x7 x8,
        s' = [some (.scr (ns.map D.int)), some (.ref a), some (wD m n ps), some (.tup [.tup (nl R), .tup (nl L)]), some (.int (R.length - L.length)), some (.tup [.tup (nl R), .tup (nl L)]), some (.tup (ws.map D.str)), some (.int r), some (.lst ((own ps ws r).map D.str)), x3, x4, x5, x6, x7, x8]) ?_ ?_
      · intro N3 hN3
        simp [wD, wipe]
        refine ⟨_, .inr rfl, ?_⟩
        rw [enum_map]
        refine comp_map (F := fun q : (Nat × Nat) × Nat => .tup [.int q.2, pD q.1]) (p := fun q => decide (q.1.1 = r)) (f := fun q => .str (ws.getD q.2 "")) (.inr rfl) _ _ ?_ ?_
        · rintro ⟨p, i⟩ hq K1 K2 h1 h2
          have hi := List.mem_zipIdx_iff_getElem?.mp hq
          simp at hi
          have hil : i < ps.length := (List.getElem?_eq_some_iff.mp hi).1
          by_cases e : p.1 = r
          · have e' : ((p.1 : Int) = r) = True := by simp [e]
            simp [pD, gNames, e']
            have hix : ixD (ws.map D.str) (i : Int) = some (.str (ws.getD i "")) := by
              rw [ix_map (by omega)]; simp [List.getD, show i < ws.length from by omega]
            refine ⟨_, hix, h1 (by simpa using e)⟩
          · have e' : ((p.1 : Int) = r) = False := by simp; omega
            simp [pD, gNames, e']
            exact h2 (by simpa using e)
        · rw [List.nil_append]
          have he : (own ps ws r).map D.str = ((ps.zipIdx).filter fun q => decide (q.1.1 = r)).map fun q => D.str (ws.getD q.2 "") := by
            unfold own; rw [List.map_map]; rfl
          rw [← he]
          exact hN3 _ _ ⟨rfl, x3, x4, x5, x6, x7, x8, rfl⟩
      · rintro s' S6 ⟨rfl, x3, x4, x5, x6, x7, x8, rfl⟩
        by_cases ho : own ps ws r = []
        · simp [oNe_nil, ho]
          exact hN2 _ _ ⟨rfl, _, _, _, _, _, _, _, _, rfl⟩
        · have hoe : (own ps ws r).isEmpty = false := by simpa using ho
          have hof := own_ok hwl hwn ho
          simp [ne_nil' fits_strs, hoe, wipe]
          refine comp_map (p := fun w => decide (w ≠ "never")) (f := D.str) trivial _ _ ?_ ?_
          · intro w hw' K1 K2 h1 h2
            by_cases e : w = "never"
            · simp [e]; exact h2 (by simp [e])
            · simp [e]; exact h1 (by simp [e])
          · rw [List.nil_append]
            have : ((own ps ws r).filter fun w => decide (w ≠ "never")).isEmpty = false := by simpa using hof
            refine ⟨_, (eq_nil' fits_strs).trans (by rw [List.isEmpty_map, this]), .inl ⟨rfl, ?_⟩⟩
            exact hN2 _ _ ⟨rfl, _, _, _, _, _, _, _, _, rfl⟩
  rintro s' S5 ⟨rfl, x1, x2, x3, x4, x5, x6, x7, x8, rfl⟩
  by_cases h7 : 7 < m
  · have h7' : ((7 : Int) < m) = True := by simp; omega
    simp [wD, h7']
    exact .refl (q _)
  have h7' : ((7 : Int) < m) = False := by simp; omega
  refine seq_mid (fun s' S6 => S6 = S5 ∧ s' = [some (.scr (ns.map D.int)), some (.ref a), some (wD m n ps), some (.tup [.tup (nl R), .tup (nl L)]), some (.int (R.length - L.length)), some (.tup [.tup (nl R), .tup (nl L)]), some (.tup (ws.map D.str)), x1, x2, x3, x4, x5, x6, x7, x8]) ?_ ?_
  · intro N hN
    simp [wD, h7']
    exact hN _ _ ⟨rfl, rfl⟩
  rintro s' S6 ⟨rfl, rfl⟩
  simp [wD]
  refine ⟨m, rfl, by omega, fun lots hl => ⟨_, rfl, ?_⟩⟩
  refine loop_map (F := fun lot => .tup (nl lot)) (P := fun rest s' S7 => S7 = S6 ∧ (∀ lot ∈ rest, lot ∈ lots) ∧ ∃ x1 x2 x3 x4 x5 x6 x7 x8, s' = [some (.scr (ns.map D.int)), some (.ref a), some (wD m n ps), some (.tup [.tup (nl R), .tup (nl L)]), some (.int (R.length - L.length)), some (.tup [.tup (nl R), .tup (nl L)]), some (.tup (ws.map D.str)), x1, x2, x3, x4, x5, x6, x7, x8]) ?_ ?_ _ _ _ ⟨rfl, fun _ h => h, _, _, _, _, _, _, _, _, rfl⟩
  · rintro s S7 ⟨rfl, -, x1, x2, x3, x4, x5, x6, x7, x8, rfl⟩
    refine ⟨rfl, ?_⟩
    simp
    exact .refl (q _)
  · rintro lot rest s S7 N ⟨rfl, hin, x1, x2, x3, x4, x5, x6, x7, x8, rfl⟩ hN
    refine ⟨rfl, ?_⟩
    have hlot := hl lot (hin lot (by simp))
    have hlnd : lot.Nodup := hlot.1.imp fun hab e => Nat.ne_of_lt hab e
    obtain ⟨Ly, y1, y2, y3⟩ := ddp_nat (Lx := ((ps.filter fun p => decide (p.1 ∈ lot)).map (·.2)))
    have hcov : Cov m ps lot Ly := ⟨hlnd, hlot.2, fun p hp h => (y3 p.2).mpr (List.mem_map.mpr ⟨p, List.mem_filter.mpr ⟨hp, by simpa using h⟩, rfl⟩)⟩
    obtain ⟨M, hM, hMk⟩ := hk.ex
    have hle := le_cov hM hlt hcov
    simp only [gName_, List.set_cons_succ, List.set_cons_zero]
    refine seq_mid (fun s' S8 => S8 = S7 ∧ ∃ x1 x2 x5 x6 x7 x8, s' = [some (.scr (ns.map D.int)), some (.ref a), some (wD m n ps), some (.tup [.tup (nl R), .tup (nl L)]), some (.int (R.length - L.length)), some (.tup [.tup (nl R), .tup (nl L)]), some (.tup (ws.map D.str)), x1, x2, some (.tup (nl lot)), some (.int (lot.length - Ly.length)), x5, x6, x7, x8]) ?_ ?_
    · intro N2 hN2
      simp [wD, wipe, nl_len]
      refine comp_map (F := pD) (p := fun p => decide (p.1 ∈ lot)) (f := fun p => .int p.2) trivial _ _ ?_ ?_
      · rintro ⟨r, l⟩ hp K1 K2 h1 h2
        by_cases e : r ∈ lot
        · simp [pD, gNames, oIn_seq (seqOf_tup (xs := nl lot)), e]
          exact h1 (by simpa using e)
        · simp [pD, gNames, oIn_seq (seqOf_tup (xs := nl lot)), e]
          exact h2 (by simpa using e)
      · have e1 : ([] ++ (ps.filter fun p => decide (p.1 ∈ lot)).map fun p => D.int p.2) = (((ps.filter fun p => decide (p.1 ∈ lot)).map (·.2)).map fun (n : Nat) => (n : Int)).map D.int := by
          rw [List.nil_append, List.map_map, List.map_map]; rfl
        have h576 : (ps.filter fun p => decide (p.1 ∈ lot)).length ≤ 576 := Nat.le_trans (List.length_filter_le _ _) hb.len
        rw [e1]
        refine ⟨_, rfl, by simpa using Nat.le_trans h576 (by decide), ?_⟩
        rw [y1]
        simp
        exact hN2 _ _ ⟨rfl, _, _, _, _, _, _, rfl⟩
    · rintro s' S8 ⟨rfl, x1, x2, x5, x6, x7, x8, rfl⟩
      have g1 : (((R.length : Int) - L.length) < lot.length - Ly.length) = False := by simp; omega
      by_cases he : ((lot.length : Int) - Ly.length) = R.length - L.length
      · have hRl : ∀ r ∈ R, r ∈ lot := hD.least k lot Ly hk hcov (by omega)
        simp [g1, he, wipe]
        refine comp_none (F := fun (n : Nat) => D.int n) trivial R ?_ ?_
        · intro r hr K1 K2 h2
          simp [oNotIn_seq (seqOf_tup (xs := nl lot)), hRl r hr]
          exact h2
        · simp [oNe_nil]
          exact hN _ _ ⟨rfl, fun l h => hin l (by simp [h]), _, _, _, _, _, _, _, _, rfl⟩
      · have he' : (((lot.length : Int) - Ly.length) = R.length - L.length) = False := by simp [he]
        simp [g1, he']
        exact hN _ _ ⟨rfl, fun l h => hin l (by simp [h]), _, _, _, _, _, _, _, _, rfl⟩
end K80
end Dl
set_option linter.all false
namespace Dl
namespace K80
open Mt Cm
theorem no_L_rc_led : ∀ ds S Q E, ¬ sp_L_rc_led_ 0 ds S Q E := by
  rintro ds S Q E ⟨t, e, m, n, r, T, ps, E0, V, -, -, -, -, -, h1, h2, h3, -⟩
  have := lt_len h1 h2
  omega
end K80
end Dl
set_option Elab.async false
set_option linter.all false
set_option maxRecDepth 100000
/-! Dr1: how values and stores of the D layer stand in the abstract heap; the lift; expressions. -/
namespace Dl
open PySem PySem.Spec PyProof.Rows L2

abbrev strD (s : String) : Str := Str.ofString s

structure Kx where
  K : PySem.W.Frag
  mg : Str → Option Value

/-- a tuple (a list) that nobody changes -/
def FT (K : PySem.W.Frag) (F : Addr → Prop) (H : Hp) (a : Addr) (vs : List V) : Prop := H a = some (.tup vs) ∧ F a
def FL (K : PySem.W.Frag) (F : Addr → Prop) (H : Hp) (a : Addr) (vs : List V) : Prop := H a = some (.lst vs) ∧ F a
/-- a locked list -/
def SL (K : PySem.W.Frag) (F : Addr → Prop) (H : Hp) (a : Addr) (vs : List V) : Prop := ((∃ o, H a = some (.frz o (.lst vs))) ∧ F a) ∨ SqL K (fun _ => none) a vs
theorem sqL_any {K : PySem.W.Frag} {H : Hp} {a : Addr} {vs : List V} (h : SqL K (fun _ => none) a vs) : SqL K H a vs := by
  rcases h with (h | ⟨o, h⟩) | h
  · cases h
  · cases h
  · exact .inr h
theorem FT.sq {K : PySem.W.Frag} {F : Addr → Prop} {H : Hp} {a : Addr} {vs : List V} (h : FT K F H a vs) : SqT K H a vs := .inl (.inl h.1)
theorem FL.sq {K : PySem.W.Frag} {F : Addr → Prop} {H : Hp} {a : Addr} {vs : List V} (h : FL K F H a vs) : SqL K H a vs := .inl (.inl h.1)
theorem SL.sq {K : PySem.W.Frag} {F : Addr → Prop} {H : Hp} {a : Addr} {vs : List V} (h : SL K F H a vs) : SqL K H a vs := h.elim (fun h => .inl (.inr h.1)) sqL_any

mutual
/-- the value v is the data d -/
inductive Rep (M : Kx) (F : Addr → Prop) (H : Hp) : D → V → Prop
  | non : Rep M F H .non .non
  | bl (b : Bool) : Rep M F H (.bl b) (.bl b)
  | int (i : Int) : Rep M F H (.int i) (.int i)
  | str (s : String) : Rep M F H (.str s) (.str (strD s))
  | ty (n : String) : Rep M F H (.ty n) (.ty n)
  | ref (a : Addr) : Rep M F H (.ref a) (.ref a)
  | gl (x : String) (a : Addr) : M.mg (strD x) = some (.ref a) → Rep M F H (.gl x) (.ref a)
  | ed {a : Addr} : H a = some (.dK []) → F a → Rep M F H .ed (.ref a)
  | tup {a : Addr} {vs : List V} {ds : List D} : FT M.K F H a vs → Reps M F H ds vs → Rep M F H (.tup ds) (.ref a)
  | lst {a : Addr} {vs : List V} {ds : List D} : FL M.K F H a vs → Reps M F H ds vs → Rep M F H (.lst ds) (.ref a)
  | scr {a : Addr} {vs : List V} {ds : List D} : SL M.K F H a vs → Reps M F H ds vs → Rep M F H (.scr ds) (.ref a)
inductive Reps (M : Kx) (F : Addr → Prop) (H : Hp) : List D → List V → Prop
  | nil : Reps M F H [] []
  | cons {d : D} {v : V} {ds : List D} {vs : List V} : Rep M F H d v → Reps M F H ds vs → Reps M F H (d :: ds) (v :: vs)
end

section
variable {M : Kx} {F F' : Addr → Prop} {H H' : Hp}
/-- what of the heap the values lean on is kept -/
def Kept (F F' : Addr → Prop) (H H' : Hp) : Prop := ∀ a o, H a = some o → F a → H' a = some o ∧ F' a
theorem FT.mono {K : PySem.W.Frag} {a : Addr} {vs : List V} (k : Kept F F' H H') (h : FT K F H a vs) : FT K F' H' a vs := k _ _ h.1 h.2
theorem FL.mono {K : PySem.W.Frag} {a : Addr} {vs : List V} (k : Kept F F' H H') (h : FL K F H a vs) : FL K F' H' a vs := k _ _ h.1 h.2
theorem SL.mono {K : PySem.W.Frag} {a : Addr} {vs : List V} (k : Kept F F' H H') (h : SL K F H a vs) : SL K F' H' a vs := by
  rcases h with ⟨⟨o, h⟩, f⟩ | h
  · exact .inl ⟨⟨o, (k _ _ h f).1⟩, (k _ _ h f).2⟩
  · exact .inr h
mutual
theorem Rep.mono (k : Kept F F' H H') : ∀ {d : D} {v : V}, Rep M F H d v → Rep M F' H' d v
  | _, _, .non => .non
  | _, _, .bl b => .bl b
  | _, _, .int i => .int i
  | _, _, .str s => .str s
  | _, _, .ty n => .ty n
  | _, _, .ref a => .ref a
  | _, _, .gl x a h => .gl x a h
  | _, _, .ed h f => .ed (k _ _ h f).1 (k _ _ h f).2
  | _, _, .tup h r => .tup (h.mono k) (Reps.mono k r)
  | _, _, .lst h r => .lst (h.mono k) (Reps.mono k r)
  | _, _, .scr h r => .scr (h.mono k) (Reps.mono k r)
theorem Reps.mono (k : Kept F F' H H') : ∀ {d : List D} {v : List V}, Reps M F H d v → Reps M F' H' d v
  | _, _, .nil => .nil
  | _, _, .cons r t => .cons (Rep.mono k r) (Reps.mono k t)
end
theorem Reps.length : ∀ {d : List D} {v : List V}, Reps M F H d v → d.length = v.length
  | _, _, .nil => rfl
  | _, _, .cons _ t => by simp [Reps.length t]
theorem Reps.get : ∀ {ds : List D} {vs : List V} {i : Nat} {d : D}, Reps M F H ds vs → ds[i]? = some d → ∃ v, vs[i]? = some v ∧ Rep M F H d v
  | _, _, _, _, .nil, e => by simp at e
  | _, _, 0, _, .cons r _, e => by simp at e; subst e; exact ⟨_, rfl, r⟩
  | _, _, i + 1, d, .cons _ t, e => by
    obtain ⟨v, h1, h2⟩ := Reps.get (i := i) (d := d) t (by simpa using e)
    exact ⟨v, by simpa using h1, h2⟩
theorem Reps.getV : ∀ {ds : List D} {vs : List V} {i : Nat} {v : V}, Reps M F H ds vs → vs[i]? = some v → ∃ d, ds[i]? = some d ∧ Rep M F H d v
  | _, _, _, _, .nil, e => by simp at e
  | _, _, 0, _, .cons r _, e => by simp at e; subst e; exact ⟨_, rfl, r⟩
  | _, _, i + 1, d, .cons _ t, e => by
    obtain ⟨v, h1, h2⟩ := Reps.getV (i := i) (v := d) t (by simpa using e)
    exact ⟨v, by simpa using h1, h2⟩
theorem Reps.append : ∀ {ds es : List D} {vs ws : List V}, Reps M F H ds vs → Reps M F H es ws → Reps M F H (ds ++ es) (vs ++ ws)
  | _, _, _, _, .nil, s => s
  | _, _, _, _, .cons r t, s => .cons r (Reps.append t s)
theorem Reps.set {d : D} {v : V} (r : Rep M F H d v) : ∀ {ds : List D} {vs : List V} (i : Nat), Reps M F H ds vs → Reps M F H (ds.set i d) (vs.set i v)
  | _, _, _, .nil => .nil
  | _, _, 0, .cons _ t => .cons r t
  | _, _, i + 1, .cons q t => .cons q (Reps.set r i t)
theorem Reps.take : ∀ {ds : List D} {vs : List V} (n : Nat), Reps M F H ds vs → Reps M F H (ds.take n) (vs.take n)
  | _, _, 0, _ => by simp; exact .nil
  | _, _, _ + 1, .nil => .nil
  | _, _, n + 1, .cons r t => .cons r (Reps.take n t)
theorem Reps.drop : ∀ {ds : List D} {vs : List V} (n : Nat), Reps M F H ds vs → Reps M F H (ds.drop n) (vs.drop n)
  | _, _, 0, r => r
  | _, _, _ + 1, .nil => .nil
  | _, _, n + 1, .cons _ t => Reps.drop n t
theorem Reps.eraseIdx : ∀ {ds : List D} {vs : List V} (n : Nat), Reps M F H ds vs → Reps M F H (ds.eraseIdx n) (vs.eraseIdx n)
  | _, _, _, .nil => .nil
  | _, _, 0, .cons _ t => t
  | _, _, n + 1, .cons r t => .cons r (Reps.eraseIdx n t)
theorem Reps.dropLast : ∀ {ds : List D} {vs : List V}, Reps M F H ds vs → Reps M F H ds.dropLast vs.dropLast
  | _, _, .nil => .nil
  | _, _, .cons r .nil => .nil
  | _, _, .cons r (.cons q t) => .cons r (Reps.dropLast (.cons q t))
theorem Rep.intE {i : Int} {v : V} (h : Rep M F H (.int i) v) : v = .int i := by cases h; rfl
theorem Rep.blE {b : Bool} {v : V} (h : Rep M F H (.bl b) v) : v = .bl b := by cases h; rfl
theorem Rep.refE {a : Addr} {v : V} (h : Rep M F H (.ref a) v) : v = .ref a := by cases h; rfl
theorem Rep.nonE {v : V} (h : Rep M F H .non v) : v = .non := by cases h; rfl
theorem Rep.strE {s : String} {v : V} (h : Rep M F H (.str s) v) : v = .str (strD s) := by cases h; rfl
end

/-! ### dicts -/
def keyD : D → Option Key
  | .int i => some (.inl i)
  | .str s => some (.inr (strD s))
  | _ => none
def keysL : List D → Option (List Key)
  | [] => some []
  | d :: ds => match keyD d, keysL ds with
    | some k, some ks => some (k :: ks)
    | _, _ => none
def keysD : D → Option (List Key)
  | .tup xs => keysL xs
  | _ => none

inductive RepO (M : Kx) (F : Addr → Prop) (H : Hp) : SO → HO → Prop
  | lst {ds : List D} {vs : List V} : Reps M F H ds vs → RepO M F H (.lst ds) (.lst vs)
  | dK {kvs : List (D × D)} {hk : List (Key × V)} : Paired (fun (p : D × D) (q : Key × V) => keyD p.1 = some q.1 ∧ Rep M F H p.2 q.2) kvs hk → RepO M F H (.dK kvs) (.dK hk)
  | dT {kvs : List (D × D)} {hk : List (List Key × V)} : Paired (fun (p : D × D) (q : List Key × V) => keysD p.1 = some q.1 ∧ Rep M F H p.2 q.2) kvs hk → RepO M F H (.dT kvs) (.dT hk)
theorem RepO.mono {M : Kx} {F F' : Addr → Prop} {H H' : Hp} {o : SO} {u : HO} (k : Kept F F' H H') (h : RepO M F H o u) : RepO M F' H' o u := by
  cases h with
  | lst r => exact .lst (r.mono k)
  | dK r => exact .dK (L2.Paired.mapP r fun _ _ z => ⟨z.1, z.2.mono k⟩)
  | dT r => exact .dT (L2.Paired.mapP r fun _ _ z => ⟨z.1, z.2.mono k⟩)
theorem RepO.mut {M : Kx} {F : Addr → Prop} {H : Hp} {o : SO} {u : HO} (h : RepO M F H o u) : Mut (some u) := by
  cases h <;> trivial

/-! ### stores -/
/-- what is not tracked by S, and not kept aside -/
def Fr (Pr : Addr → Prop) (S : Store) : Addr → Prop := fun a => S a = none ∧ ¬ Pr a
structure Sto (M : Kx) (Pr : Addr → Prop) (S : Store) (H : Hp) : Prop where
  sto : ∀ a o, S a = some o → ∃ u, H a = some u ∧ RepO M (Fr Pr S) H o u
  pr : ∀ a, Pr a → S a = none ∧ H a ≠ none
/-- how stores and heaps go on -/
structure Evo (S : Store) (H : Hp) (S' : Store) (H' : Hp) : Prop where
  kp : ∀ a o, H a = some o → S a = none → H' a = some o
  new : ∀ a, S' a ≠ none → S a ≠ none ∨ H a = none
section
variable {M : Kx} {Pr : Addr → Prop} {S S1 S2 S' : Store} {H H1 H2 H' : Hp} {a p : Addr} {o : HO} {so : SO}
theorem Evo.refl : Evo S H S H := ⟨fun _ _ h _ => h, fun _ h => .inl h⟩
theorem Evo.nn (e : Evo S H S1 H1) (h : H a = some o) (n : S a = none) : S1 a = none := by
  cases q : S1 a with
  | none => rfl
  | some x =>
    rcases e.new a (by rw [q]; exact Option.some_ne_none x) with z | z
    · exact absurd n z
    · rw [h] at z; cases z
theorem Evo.trans (e : Evo S H S1 H1) (f : Evo S1 H1 S2 H2) : Evo S H S2 H2 := by
  refine ⟨fun a o h n => f.kp a o (e.kp a o h n) (e.nn h n), fun a h => ?_⟩
  rcases f.new a h with z | z
  · exact e.new a z
  · cases q : H a with
    | none => exact .inr rfl
    | some o =>
      left
      intro n
      rw [e.kp a o q n] at z
      cases z
theorem Evo.kept (e : Evo S H S' H') : Kept (Fr Pr S) (Fr Pr S') H H' := fun a o h f => ⟨e.kp a o h f.1, e.nn h f.1, f.2⟩
theorem Sto.none_of (s : Sto M Pr S H) (h : H p = none) : S p = none := by
  cases q : S p with
  | none => rfl
  | some x => obtain ⟨u, e, _⟩ := s.sto p x q; rw [h] at e; cases e
theorem Sto.npr (s : Sto M Pr S H) (h : H p = none) : ¬ Pr p := fun z => (s.pr p z).2 h
/-- a new object that is not tracked -/
theorem Sto.new (s : Sto M Pr S H) (h : H p = none) : Sto M Pr S (upd H p o) ∧ Evo S H S (upd H p o) := by
  have ev : Evo S H S (upd H p o) := ⟨fun a u e _ => by rw [upd_ne (ne_of_none e h)]; exact e, fun _ h => .inl h⟩
  refine ⟨⟨fun a x e => ?_, fun a z => ⟨(s.pr a z).1, ?_⟩⟩, ev⟩
  · obtain ⟨u, e1, r⟩ := s.sto a x e
    exact ⟨u, by rw [upd_ne (ne_of_none e1 h)]; exact e1, r.mono ev.kept⟩
  · have := (s.pr a z).2
    by_cases q : a = p
    · rw [q] at this; exact absurd h this
    · rw [upd_ne q]; exact this
theorem Sto.frNew (s : Sto M Pr S H) (h : H p = none) : Fr Pr S p := ⟨s.none_of h, s.npr h⟩
/-- a new object that is tracked -/
theorem Sto.track (s : Sto M Pr S H) (h : H p = none) (r : RepO M (Fr Pr S) H so o) : Sto M Pr (set S p so) (upd H p o) ∧ Evo S H (set S p so) (upd H p o) := by
  have ev : Evo S H (set S p so) (upd H p o) := by
    refine ⟨fun a u e _ => by rw [upd_ne (ne_of_none e h)]; exact e, fun a q => ?_⟩
    by_cases z : a = p
    · subst z; exact .inr h
    · rw [set_ne z] at q; exact .inl q
  refine ⟨⟨fun a x e => ?_, fun a z => ?_⟩, ev⟩
  · by_cases q : a = p
    · subst q
      rw [set_same] at e; cases e
      exact ⟨_, upd_same, r.mono ev.kept⟩
    · rw [set_ne q] at e
      obtain ⟨u, e1, r⟩ := s.sto a x e
      exact ⟨u, by rw [upd_ne q]; exact e1, r.mono ev.kept⟩
  · have w := s.pr a z
    have q : a ≠ p := fun q => by rw [q] at w; exact w.2 h
    rw [set_ne q, upd_ne q]; exact w
/-- a tracked object is written -/
theorem Sto.write (s : Sto M Pr S H) {old : SO} (h : S p = some old) (r : RepO M (Fr Pr S) H so o) : Sto M Pr (set S p so) (upd H p o) ∧ Evo S H (set S p so) (upd H p o) := by
  have ev : Evo S H (set S p so) (upd H p o) := by
    refine ⟨fun a u e n => ?_, fun a q => ?_⟩
    · rw [upd_ne (fun z => by rw [z, h] at n; cases n)]; exact e
    · by_cases z : a = p
      · subst z; exact .inl (by rw [h]; exact Option.some_ne_none _)
      · rw [set_ne z] at q; exact .inl q
  refine ⟨⟨fun a x e => ?_, fun a z => ?_⟩, ev⟩
  · by_cases q : a = p
    · subst q
      rw [set_same] at e; cases e
      exact ⟨_, upd_same, r.mono ev.kept⟩
    · rw [set_ne q] at e
      obtain ⟨u, e1, r⟩ := s.sto a x e
      exact ⟨u, by rw [upd_ne q]; exact e1, r.mono ev.kept⟩
  · have w := s.pr a z
    have q : a ≠ p := fun q => by rw [q, h] at w; cases w.1
    rw [set_ne q, upd_ne q]; exact w
theorem FT.new (s : Sto M Pr S H) (h : H p = none) {vs : List V} : FT M.K (Fr Pr S) (upd H p (.tup vs)) p vs := ⟨upd_same, s.frNew h⟩
theorem FL.new (s : Sto M Pr S H) (h : H p = none) {vs : List V} : FL M.K (Fr Pr S) (upd H p (.lst vs)) p vs := ⟨upd_same, s.frNew h⟩
end

/-- slots -/
def EnvR (M : Kx) (F : Addr → Prop) (H : Hp) (s : Sg) (sv : L2.St) : Prop := s.length = sv.length ∧ ∀ (i : Nat) (d : D), s[i]? = some (some d) → ∃ v, sv[i]? = some (some v) ∧ Rep M F H d v
theorem EnvR.mono {M : Kx} {F F' : Addr → Prop} {H H' : Hp} {s : Sg} {sv : L2.St} (k : Kept F F' H H') (h : EnvR M F H s sv) : EnvR M F' H' s sv :=
  ⟨h.1, fun i d e => let ⟨v, e1, r⟩ := h.2 i d e; ⟨v, e1, r.mono k⟩⟩
theorem EnvR.set {M : Kx} {F : Addr → Prop} {H : Hp} {s : Sg} {sv : L2.St} {i : Nat} {d : D} {v : V} (h : EnvR M F H s sv) (r : Rep M F H d v) : EnvR M F H (s.set i (some d)) (sv.set i (some v)) := by
  refine ⟨by simp [h.1], fun j d' e => ?_⟩
  by_cases q : i = j
  · subst q
    rw [List.getElem?_set] at e
    split at e
    · split at e
      · next hl =>
        have e' : d = d' := by simpa using e
        subst e'
        exact ⟨v, by rw [List.getElem?_set_self (by rw [← h.1]; exact hl)], r⟩
      · cases e
    · contradiction
  · rw [List.getElem?_set_ne q] at e ⊢
    exact h.2 j d' e

/-- what of an error is told -/
def RepX (M : Kx) (x : XD) (c : Value) (od : Option Addr) (H : Hp) : Prop := M.mg (strD x.c) = some c ∧ x.p = [] ∧ od = none
def EXK (M : Kx) (xk : XK) (E : XQ) (Pr : Addr → Prop) (S : Store) (H : Hp) : Prop := ∀ x S' c od H', Evo S H S' H' → Sto M Pr S' H' → RepX M x c od H' → E x S' → xk c od H'
theorem EXK.mono {M : Kx} {xk : XK} {E : XQ} {Pr : Addr → Prop} {S S1 : Store} {H H1 : Hp} (h : EXK M xk E Pr S H) (e : Evo S H S1 H1) : EXK M xk E Pr S1 H1 :=
  fun x S' c od H' e' s r q => h x S' c od H' (e.trans e') s r q

structure Cur (M : Kx) (xk : XK) (Pr : Addr → Prop) (E : XQ) (s : Sg) (S : Store) (sv : L2.St) (H : Hp) : Prop where
  env : EnvR M (Fr Pr S) H s sv
  sto : Sto M Pr S H
  ex : EXK M xk E Pr S H
theorem Cur.go {M : Kx} {xk : XK} {Pr : Addr → Prop} {E : XQ} {s : Sg} {S S1 : Store} {sv : L2.St} {H H1 : Hp} (c : Cur M xk Pr E s S sv H) (e : Evo S H S1 H1) (t : Sto M Pr S1 H1) : Cur M xk Pr E s S1 sv H1 :=
  ⟨c.env.mono e.kept, t, c.ex.mono e⟩
theorem Cur.setS {M : Kx} {xk : XK} {Pr : Addr → Prop} {E : XQ} {s : Sg} {S : Store} {sv : L2.St} {H : Hp} {i : Nat} {d : D} {v : V} (c : Cur M xk Pr E s S sv H) (r : Rep M (Fr Pr S) H d v) : Cur M xk Pr E (s.set i (some d)) S (sv.set i (some v)) H :=
  ⟨c.env.set r, c.sto, c.ex⟩

/-! ### the lift -/
/-- a value has come -/
abbrev GotE (M : Kx) (Pr : Addr → Prop) (S : Store) (H : Hp) (Q : Q1) (Qv : VK) : Prop := ∀ d S' v H', Evo S H S' H' → Sto M Pr S' H' → Rep M (Fr Pr S') H' d v → Q d S' → Qv v H'
def lE (M : Kx) (xk : XK) (w : WE) : TE := fun sv H Qv => ∃ (Pr : Addr → Prop) (E : XQ) (s : Sg) (S : Store) (Q : Q1), Cur M xk Pr E s S sv H ∧ w E s S Q ∧ GotE M Pr S H Q Qv
abbrev GotT (M : Kx) (Pr : Addr → Prop) (S : Store) (H : Hp) (Q : Bool → Store → Prop) (Qv : Bool → Hp → Prop) : Prop := ∀ b S' H', Evo S H S' H' → Sto M Pr S' H' → Q b S' → Qv b H'
def lT (M : Kx) (xk : XK) (w : WT) : TT := fun sv H Qv => ∃ (Pr : Addr → Prop) (E : XQ) (s : Sg) (S : Store) (Q : Bool → Store → Prop), Cur M xk Pr E s S sv H ∧ w E s S Q ∧ GotT M Pr S H Q Qv
abbrev GotA (M : Kx) (Pr : Addr → Prop) (S : Store) (H : Hp) (Q : List D → Store → Prop) (Qv : List V → Hp → Prop) : Prop := ∀ ds S' vs H', Evo S H S' H' → Sto M Pr S' H' → Reps M (Fr Pr S') H' ds vs → Q ds S' → Qv vs H'
def lA (M : Kx) (xk : XK) (w : WA) : TA := fun sv H Qv => ∃ (Pr : Addr → Prop) (E : XQ) (s : Sg) (S : Store) (Q : List D → Store → Prop), Cur M xk Pr E s S sv H ∧ w E s S Q ∧ GotA M Pr S H Q Qv
/-- a new list has come: p was no object before -/
abbrev GotL (M : Kx) (Pr : Addr → Prop) (S : Store) (H : Hp) (Q : List D → Store → Prop) (Qv : VK) : Prop := ∀ ds S' p vs H0 H', Evo S H S' H0 → Sto M Pr S' H0 → Reps M (Fr Pr S') H0 ds vs → Q ds S' → H0 p = none → H' = upd H0 p (.lst vs) → Qv (.ref p) H'
def lL (M : Kx) (xk : XK) (w : WL) : TE := fun sv H Qv => ∃ (Pr : Addr → Prop) (E : XQ) (s : Sg) (S : Store) (Q : List D → Store → Prop), Cur M xk Pr E s S sv H ∧ w E s S Q ∧ GotL M Pr S H Q Qv

theorem _root_.L2.PE.weak {X : Cx} {e : Expr} {t t' : TE} (h : PE X e t) (w : ∀ s H Q, t' s H Q → t s H Q) : PE X e t' := ⟨fun pins s σ H Q I hw => h.run pins s σ H Q I (w _ _ _ hw)⟩
theorem _root_.L2.PT.weak {X : Cx} {e : Expr} {t t' : TT} (h : PT X e t) (w : ∀ s H Q, t' s H Q → t s H Q) : PT X e t' := ⟨fun pins s σ H Q I hw => h.run pins s σ H Q I (w _ _ _ hw)⟩
theorem _root_.L2.PW.weak {X : Cx} {e : Expr} {t t' : TT} (h : PW X e t) (w : ∀ s H Q, t' s H Q → t s H Q) : PW X e t' := ⟨fun wh pins s σ H Q I hw => h.run wh pins s σ H Q I (w _ _ _ hw)⟩
theorem _root_.L2.PA.weak {X : Cx} {e : List Expr} {t t' : TA} (h : PA X e t) (w : ∀ s H Q, t' s H Q → t s H Q) : PA X e t' := ⟨fun p pins s σ H Q I hw => h.run p pins s σ H Q I (w _ _ _ hw)⟩
theorem _root_.L2.PS.weak {X : Cx} {e : Stmt} {t t' : TS} (h : PS X e t) (w : ∀ D s H, t' D s H → t D s H) : PS X e t' := ⟨fun pins s σ H D I hw => h.run pins s σ H D I (w _ _ _ hw)⟩
theorem _root_.L2.PSs.weak {X : Cx} {e : List Stmt} {t t' : TS} (h : PSs X e t) (w : ∀ D s H, t' D s H → t D s H) : PSs X e t' := ⟨fun pins s σ H D I hw => h.run pins s σ H D I (w _ _ _ hw)⟩

/-! ### the judgements -/
/-- the context's lift -/
def kx (X : Cx) : Kx := ⟨X.K, X.mg⟩
structure DE (X : Cx) (xk : XK) (e : Expr) (w : WE) : Prop where
  pe : PE X e (lE (kx X) xk w)
structure DT (X : Cx) (xk : XK) (e : Expr) (w : WT) : Prop where
  pt : PT X e (lT (kx X) xk w)
structure DTw (X : Cx) (xk : XK) (e : Expr) (w : WT) : Prop where
  pw : PW X e (lT (kx X) xk w)
structure DA (X : Cx) (xk : XK) (e : List Expr) (w : WA) : Prop where
  pa : PA X e (lA (kx X) xk w)
structure DL (X : Cx) (xk : XK) (e : Expr) (w : WL) : Prop where
  pe : PE X e (lL (kx X) xk w)

section
variable {X : Cx} {xk : XK} {e a b c : Expr} {es : List Expr} {pos : Pos}
theorem de_var (i : Nat) {x : Str} (hN : X.N[i]? = some x := by rfl) (hv : Vis X.env.scope x := by first | exact Or.inl rfl | exact Or.inr (Or.inl rfl) | exact Or.inr (Or.inr rfl)) (hd : (x == ("__debug__" : Str)) = false := by decide)
    (hcd : (x == ("__classdict__" : Str)) = false := by decide) : DE X xk (.Name x pos) (wVar i) :=
  ⟨(pe_var (pos := pos) hN hv hd hcd).weak fun sv H Qv ⟨Pr, E, s, S, Q, cu, ⟨d, hs, q⟩, g⟩ => by
    obtain ⟨v, e, r⟩ := cu.env.2 i d hs
    exact ⟨v, e, g d S v H .refl cu.sto r q⟩⟩
theorem de_c {t : TE} {d : D} {v : V} (h : PE X e (tC v)) (r : ∀ F H, Rep (kx X) F H d v) : DE X xk e (wC d) :=
  ⟨h.weak fun sv H Qv ⟨Pr, E, s, S, Q, cu, q, g⟩ => g d S v H .refl cu.sto (r _ _) q⟩
theorem de_int {i : Int} {j} : DE X xk (.Constant (.int i) j pos) (wC (.int i)) := de_c (t := tC (.int i)) pe_int fun _ _ => .int i
theorem de_bl {i : Bool} {j} : DE X xk (.Constant (.bool i) j pos) (wC (.bl i)) := de_c (t := tC (.bl i)) pe_bl fun _ _ => .bl i
theorem de_non {j} : DE X xk (.Constant .none j pos) (wC .non) := de_c (t := tC .non) pe_non fun _ _ => .non
theorem de_str {s : String} {j} : DE X xk (.Constant (.str (strD s)) j pos) (wC (.str s)) := de_c (t := tC (.str (strD s))) pe_str fun _ _ => .str s

/-! operators -/
/-- f tells what the operator gives -/
def Op2 (X : Cx) (xk : XK) (op : Value → Value → Sem Value) (f : F2) : Prop :=
  ∃ r : R2, OpR X op r ∧ ∀ Pr S H x y z v u Qv, Sto (kx X) Pr S H → Rep (kx X) (Fr Pr S) H x v → Rep (kx X) (Fr Pr S) H y u → f S x y = some z →
    (∀ w H', Sto (kx X) Pr S H' → Evo S H S H' → Rep (kx X) (Fr Pr S) H' z w → Qv w H') → r v u H Qv
theorem de_bin {op : Operator} {f : F2} {wa wb : WE} (ho : Op2 X xk (binaryOp op) f) (ha : DE X xk a wa) (hb : DE X xk b wb) : DE X xk (.BinOp a op b pos) (w2 f wa wb) := by
  obtain ⟨r, hr, hq⟩ := ho
  refine ⟨(pe_op hr ha.pe hb.pe).weak fun sv H Qv ⟨Pr, E, s, S, Q, cu, q, g⟩ => ?_⟩
  refine ⟨Pr, E, s, S, _, cu, q, fun x S1 v H1 e1 t1 r1 q1 => ⟨Pr, E, s, S1, _, cu.go e1 t1, q1, fun y S2 u H2 e2 t2 r2 q2 => ?_⟩⟩
  obtain ⟨z, hz, q2⟩ := q2
  exact hq Pr S2 H2 x y z v u Qv t2 (r1.mono e2.kept) r2 hz fun w H' t3 e3 r3 => g z S2 w H' (e1.trans (e2.trans e3)) t3 r3 q2
theorem de_cmp {op : CmpOp} {f : F2} {wa wb : WE} (ho : Op2 X xk (compareOp op) f) (ha : DE X xk a wa) (hb : DE X xk b wb) (hm : behindInMarks op b = false := by rfl) : DE X xk (.Compare a [op] [b] pos) (w2 f wa wb) := by
  obtain ⟨r, hr, hq⟩ := ho
  refine ⟨(pe_cmpR hr ha.pe hb.pe hm).weak fun sv H Qv ⟨Pr, E, s, S, Q, cu, q, g⟩ => ?_⟩
  refine ⟨Pr, E, s, S, _, cu, q, fun x S1 v H1 e1 t1 r1 q1 => ⟨Pr, E, s, S1, _, cu.go e1 t1, q1, fun y S2 u H2 e2 t2 r2 q2 => ?_⟩⟩
  obtain ⟨z, hz, q2⟩ := q2
  exact hq Pr S2 H2 x y z v u Qv t2 (r1.mono e2.kept) r2 hz fun w H' t3 e3 r3 => g z S2 w H' (e1.trans (e2.trans e3)) t3 r3 q2
theorem de_un {op : UnaryOp} {f : F1} {r : V → Hp → VK → Prop} {wa : WE} (ho : UnR X (unaryOp op) r)
    (hq : ∀ Pr S H x z v Qv, Sto (kx X) Pr S H → Rep (kx X) (Fr Pr S) H x v → f S x = some z →
      (∀ w H', Sto (kx X) Pr S H' → Evo S H S H' → Rep (kx X) (Fr Pr S) H' z w → Qv w H') → r v H Qv) (ha : DE X xk a wa) : DE X xk (.UnaryOp op a pos) (w1 f wa) := by
  refine ⟨(pe_un ho ha.pe).weak fun sv H Qv ⟨Pr, E, s, S, Q, cu, q, g⟩ => ?_⟩
  refine ⟨Pr, E, s, S, _, cu, q, fun x S1 v H1 e1 t1 r1 q1 => ?_⟩
  obtain ⟨z, hz, q1⟩ := q1
  exact hq Pr S1 H1 x z v Qv t1 r1 hz fun w H' t3 e3 r3 => g z S1 w H' (e1.trans e3) t3 r3 q1

theorem op2_int {op : Value → Value → Sem Value} {f : F2} {C : Int → Int → Prop} {g : Int → Int → Int} (h : OpR X op (rI C fun i j => .int (g i j)))
    (hf : ∀ S x y z, f S x y = some z → ∃ i j, x = .int i ∧ y = .int j ∧ C i j ∧ z = .int (g i j)) : Op2 X xk op f := by
  refine ⟨_, h, fun Pr S H x y z v u Qv t rx ry hz q => ?_⟩
  obtain ⟨i, j, rfl, rfl, hc, rfl⟩ := hf S x y z hz
  exact ⟨i, j, rx.intE, ry.intE, hc, q _ _ t .refl (.int _)⟩
theorem op2_cmpI {op : Value → Value → Sem Value} {f : F2} {g : Int → Int → Bool} (h : OpR X op (rI0 fun i j => .bl (g i j)))
    (hf : ∀ S x y z, f S x y = some z → ∃ i j, x = .int i ∧ y = .int j ∧ z = .bl (g i j)) : Op2 X xk op f := by
  refine ⟨_, h, fun Pr S H x y z v u Qv t rx ry hz q => ?_⟩
  obtain ⟨i, j, rfl, rfl, rfl⟩ := hf S x y z hz
  exact ⟨i, j, rx.intE, ry.intE, q _ _ t .refl (.bl _)⟩
theorem o_sub : Op2 X xk (binaryOp .Sub) oSub := by
  refine ⟨_, op_sub, fun Pr S H x y z v u Qv t rx ry hz q => ?_⟩
  unfold oSub at hz
  split at hz <;> cases hz
  exact ⟨_, _, rx.intE, ry.intE, q _ _ t .refl (.int _)⟩
theorem o_mul : Op2 X xk (binaryOp .Mult) oMul := op2_int op_mul fun S x y z h => by
  unfold oMul at h
  split at h
  · split at h <;> cases h
    next hc => exact ⟨_, _, rfl, rfl, by simpa [small, CMul] using hc, rfl⟩
  · cases h
theorem o_fdiv : Op2 X xk (binaryOp .FloorDiv) oFdiv := op2_int op_fdiv fun S x y z h => by
  unfold oFdiv at h
  split at h
  · split at h <;> cases h
    next hc => exact ⟨_, _, rfl, rfl, hc, rfl⟩
  · cases h
theorem o_mod : Op2 X xk (binaryOp .Mod) oMod := op2_int op_mod fun S x y z h => by
  unfold oMod at h
  split at h
  · split at h <;> cases h
    next hc => exact ⟨_, _, rfl, rfl, hc, rfl⟩
  · cases h
theorem o_pow : Op2 X xk (binaryOp .Pow) oPow := op2_int op_pow fun S x y z h => by
  unfold oPow at h
  split at h
  · split at h <;> cases h
    next hc => exact ⟨_, _, rfl, rfl, hc, rfl⟩
  · cases h
theorem o_le : Op2 X xk (compareOp .LtE) oLe := op2_cmpI op_le fun S x y z h => by
  unfold oLe at h
  split at h <;> cases h
  exact ⟨_, _, rfl, rfl, rfl⟩
theorem o_gt : Op2 X xk (compareOp .Gt) oGt := op2_cmpI op_gt fun S x y z h => by
  unfold oGt at h
  split at h <;> cases h
  exact ⟨_, _, rfl, rfl, rfl⟩
theorem o_ge : Op2 X xk (compareOp .GtE) oGe := op2_cmpI op_ge fun S x y z h => by
  unfold oGe at h
  split at h <;> cases h
  exact ⟨_, _, rfl, rfl, rfl⟩
theorem de_neg {wa : WE} (ha : DE X xk a wa) : DE X xk (.UnaryOp .USub a pos) (w1 oNeg wa) := de_un un_neg (fun Pr S H x z v Qv t rx hz q => by
  unfold oNeg at hz
  split at hz <;> cases hz
  exact ⟨_, rx.intE, q _ _ t .refl (.int _)⟩) ha
end
end Dl
set_option Elab.async false
set_option linter.all false
set_option maxRecDepth 100000
/-! Dr2: operators and built-ins. -/
namespace Dl
open PySem PySem.Spec PyProof.Rows L2

theorem strD_inj {a b : String} (h : strD a = strD b) : a = b := by
  unfold strD at h
  rw [Str.ofString_eq_toList, Str.ofString_eq_toList] at h
  have h1 : a.toList.map Char.toNat = b.toList.map Char.toNat := by
    have := Str.mk.inj h
    exact List.toArray_inj this
  have h2 : a.toList = b.toList := List.map_inj_right (fun x y e => Char.toNat_inj.mp e) |>.mp h1
  exact String.toList_inj.mp h2
theorem strD_beq {a b : String} : (strD a == strD b) = (a == b) := by
  by_cases h : a = b
  · subst h; simp
  · have : strD a ≠ strD b := fun z => h (strD_inj z)
    rw [beq_eq_false_iff_ne.mpr h, beq_eq_false_iff_ne.mpr this]

/-! ### data as the library has it -/
mutual
def toPy : D → PyData
  | .bl b => .bool b
  | .int i => .int i
  | .str s => .str (strD s)
  | .tup xs => .tuple (toPys xs)
  | .lst xs => .list (toPys xs)
  | _ => .none
def toPys : List D → List PyData
  | [] => []
  | x :: xs => toPy x :: toPys xs
end
theorem toPys_map : ∀ xs : List D, toPys xs = xs.map toPy
  | [] => rfl
  | x :: xs => by simp [toPys, toPys_map xs]
theorem fits_ref {n a} : D.fits n (.ref a) = false := by cases n <;> rfl
theorem fits_ed {n} : D.fits n .ed = false := by cases n <;> rfl
theorem fits_ty {n a} : D.fits n (.ty a) = false := by cases n <;> rfl
theorem fits_gl {n a} : D.fits n (.gl a) = false := by cases n <;> rfl
theorem fits_xc {n a b} : D.fits n (.xc a b) = false := by cases n <;> rfl
theorem fits_scr {n a} : D.fits n (.scr a) = false := by cases n <;> rfl
theorem fits_tup0 {xs} : D.fits 0 (.tup xs) = false := rfl
theorem fits_lst0 {xs} : D.fits 0 (.lst xs) = false := rfl
theorem fits_tup {n xs} : D.fits (n + 1) (.tup xs) = xs.all (D.fits n) := by simp [D.fits]
theorem fits_lst {n xs} : D.fits (n + 1) (.lst xs) = xs.all (D.fits n) := by simp [D.fits]
theorem str_ok (s : String) : PyData.strOk (strD s) = true := by
  unfold PyData.strOk strD
  rw [Str.ofString_eq_toList]
  rw [← Array.all_toList]
  simp only [List.toList_toArray, List.all_map, List.all_eq_true, Function.comp, decide_eq_true_eq]
  intro c _
  have := c.valid
  unfold Char.toNat
  unfold UInt32.isValidChar Nat.isValidChar at this
  omega
mutual
theorem py_lay : ∀ (n : Nat) (d : D), D.fits n d = true → (toPy d).canLay0 = true ∧ (toPy d).depth ≤ n
  | n, .non, _ => by simp [toPy, PyData.canLay0, PyData.depth]
  | n, .bl b, _ => by simp [toPy, PyData.canLay0, PyData.depth]
  | n, .int i, _ => by simp [toPy, PyData.canLay0, PyData.depth]
  | n, .str s, _ => by simp [toPy, PyData.canLay0, PyData.depth, str_ok]
  | 0, .tup xs, h => by rw [fits_tup0] at h; cases h
  | 0, .lst xs, h => by rw [fits_lst0] at h; cases h
  | n + 1, .tup xs, h => by
    rw [fits_tup] at h
    obtain ⟨a, b⟩ := py_lays n xs h
    exact ⟨by simp [toPy, PyData.canLay0, a], by simp [toPy, PyData.depth, b]⟩
  | n + 1, .lst xs, h => by
    rw [fits_lst] at h
    obtain ⟨a, b⟩ := py_lays n xs h
    exact ⟨by simp [toPy, PyData.canLay0, a], by simp [toPy, PyData.depth, b]⟩
  | n, .ref a, h => by rw [fits_ref] at h; cases h
  | n, .ed, h => by rw [fits_ed] at h; cases h
  | n, .ty a, h => by rw [fits_ty] at h; cases h
  | n, .gl a, h => by rw [fits_gl] at h; cases h
  | n, .xc a b, h => by rw [fits_xc] at h; cases h
  | n, .scr a, h => by rw [fits_scr] at h; cases h
theorem py_lays : ∀ (n : Nat) (d : List D), d.all (D.fits n) = true → PyData.canLayAll0 (toPys d) = true ∧ PyData.depthAll (toPys d) ≤ n
  | n, [], _ => by simp [toPys, PyData.canLayAll0, PyData.depthAll]
  | n, x :: xs, h => by
    simp only [List.all_cons, Bool.and_eq_true] at h
    obtain ⟨a, b⟩ := py_lay n x h.1
    obtain ⟨c, d⟩ := py_lays n xs h.2
    exact ⟨by simp [toPys, PyData.canLayAll0, a, c], by simp [toPys, PyData.depthAll]; omega⟩
end
theorem py_shaped {n : Nat} {d : D} (hn : n ≤ 64) (h : D.fits n d = true) : SeqAt.shaped (toPy d) = true := by
  obtain ⟨a, b⟩ := py_lay n d h
  unfold SeqAt.shaped
  rw [a, Bool.true_and]
  exact decide_eq_true (by omega)
mutual
theorem py_eqv : ∀ (n : Nat) (x y : D), D.fits n x = true → D.fits n y = true → D.eqv x y = PyData.eqv (toPy x) (toPy y)
  | n, .tup xs, .tup ys, hx, hy => by
    cases n with
    | zero => cases hx
    | succ n =>
      rw [fits_tup] at hx hy
      simp [D.eqv, toPy, PyData.eqv, py_eqvs n xs ys hx hy]
  | n, .lst xs, .lst ys, hx, hy => by
    cases n with
    | zero => cases hx
    | succ n =>
      rw [fits_lst] at hx hy
      simp [D.eqv, toPy, PyData.eqv, py_eqvs n xs ys hx hy]
  | n, .ref a, _, h, _ => by rw [fits_ref] at h; cases h
  | n, .ed, _, h, _ => by rw [fits_ed] at h; cases h
  | n, .ty a, _, h, _ => by rw [fits_ty] at h; cases h
  | n, .gl a, _, h, _ => by rw [fits_gl] at h; cases h
  | n, .xc a b, _, h, _ => by rw [fits_xc] at h; cases h
  | n, .scr a, _, h, _ => by rw [fits_scr] at h; cases h
  | n, _, .ref a, _, h => by rw [fits_ref] at h; cases h
  | n, _, .ed, _, h => by rw [fits_ed] at h; cases h
  | n, _, .ty a, _, h => by rw [fits_ty] at h; cases h
  | n, _, .gl a, _, h => by rw [fits_gl] at h; cases h
  | n, _, .xc a b, _, h => by rw [fits_xc] at h; cases h
  | n, _, .scr a, _, h => by rw [fits_scr] at h; cases h
  | n, .non, .non, _, _ | n, .non, .bl _, _, _ | n, .non, .int _, _, _ | n, .non, .str _, _, _ | n, .non, .tup _, _, _ | n, .non, .lst _, _, _ => by simp [D.eqv, toPy, PyData.eqv]
  | n, .bl _, .non, _, _ | n, .bl _, .bl _, _, _ | n, .bl _, .int _, _, _ | n, .bl _, .str _, _, _ | n, .bl _, .tup _, _, _ | n, .bl _, .lst _, _, _ => by simp [D.eqv, toPy, PyData.eqv]
  | n, .int _, .non, _, _ | n, .int _, .bl _, _, _ | n, .int _, .int _, _, _ | n, .int _, .str _, _, _ | n, .int _, .tup _, _, _ | n, .int _, .lst _, _, _ => by simp [D.eqv, toPy, PyData.eqv]
  | n, .str _, .non, _, _ | n, .str _, .bl _, _, _ | n, .str _, .int _, _, _ | n, .str _, .tup _, _, _ | n, .str _, .lst _, _, _ => by simp [D.eqv, toPy, PyData.eqv]
  | n, .str _, .str _, _, _ => by simp only [D.eqv, toPy, PyData.eqv, strD_beq]
  | n, .tup _, .non, _, _ | n, .tup _, .bl _, _, _ | n, .tup _, .int _, _, _ | n, .tup _, .str _, _, _ | n, .tup _, .lst _, _, _ => by simp [D.eqv, toPy, PyData.eqv]
  | n, .lst _, .non, _, _ | n, .lst _, .bl _, _, _ | n, .lst _, .int _, _, _ | n, .lst _, .str _, _, _ | n, .lst _, .tup _, _, _ => by simp [D.eqv, toPy, PyData.eqv]
theorem py_eqvs : ∀ (n : Nat) (x y : List D), x.all (D.fits n) = true → y.all (D.fits n) = true → D.eqvs x y = PyData.eqvAll (toPys x) (toPys y)
  | n, [], [], _, _ => by simp [D.eqvs, toPys, PyData.eqvAll]
  | n, [], _ :: _, _, _ => by simp [D.eqvs, toPys, PyData.eqvAll]
  | n, _ :: _, [], _, _ => by simp [D.eqvs, toPys, PyData.eqvAll]
  | n, x :: xs, y :: ys, hx, hy => by
    simp only [List.all_cons, Bool.and_eq_true] at hx hy
    simp [D.eqvs, toPys, PyData.eqvAll, py_eqv n x y hx.1 hy.1, py_eqvs n xs ys hx.2 hy.2]
end
section
variable {M : Kx} {F : Addr → Prop} {H : Hp}
mutual
theorem Rep.dp : ∀ {d : D} {v : V} (n : Nat), Rep M F H d v → D.fits n d = true → Dp M.K H v (toPy d)
  | _, _, n, .non, _ => .non
  | _, _, n, .bl b, _ => .bl b
  | _, _, n, .int i, _ => .int i
  | _, _, n, .str s, _ => .str _
  | _, _, n, .ty _, h => by rw [fits_ty] at h; cases h
  | _, _, n, .ref a, h => by rw [fits_ref] at h; cases h
  | _, _, n, .gl x a _, h => by rw [fits_gl] at h; cases h
  | _, _, n, .ed _ _, h => by rw [fits_ed] at h; cases h
  | _, _, n, .scr _ _, h => by rw [fits_scr] at h; cases h
  | _, _, n, .tup ht r, h => by
    cases n with
    | zero => cases h
    | succ n => rw [fits_tup] at h; exact .tup ht.sq (Reps.dp n r h)
  | _, _, n, .lst ht r, h => by
    cases n with
    | zero => cases h
    | succ n => rw [fits_lst] at h; exact .lst ht.sq (Reps.dp n r h)
theorem Reps.dp : ∀ {d : List D} {v : List V} (n : Nat), Reps M F H d v → d.all (D.fits n) = true → DpAll M.K H v (toPys d)
  | _, _, n, .nil, _ => .nil
  | _, _, n, .cons r t, h => by
    simp only [List.all_cons, Bool.and_eq_true] at h
    exact .cons (Rep.dp n r h.1) (Reps.dp n t h.2)
end
end

section
variable {M : Kx} {Pr : Addr → Prop} {S : Store} {H : Hp}
theorem Sto.lstOf (s : Sto M Pr S H) {d : D} {v : V} {xs : List D} (r : Rep M (Fr Pr S) H d v) (h : lstOf S d = some xs) : ∃ a vs, v = .ref a ∧ H a = some (.lst vs) ∧ Reps M (Fr Pr S) H xs vs := by
  unfold Dl.lstOf at h
  split at h
  · cases h
    cases r with
    | lst hl q => exact ⟨_, _, rfl, hl.1, q⟩
  · next a =>
    split at h
    · next ys e =>
      cases h
      obtain ⟨u, e1, ro⟩ := s.sto a _ e
      cases ro with
      | lst q => exact ⟨a, _, r.refE, e1, q⟩
    · cases h
  · cases h
theorem Sto.seqOf (s : Sto M Pr S H) {d : D} {v : V} {xs : List D} (r : Rep M (Fr Pr S) H d v) (h : seqOf S d = some xs) : ∃ a vs, v = .ref a ∧ (SqL M.K H a vs ∨ SqT M.K H a vs) ∧ Reps M (Fr Pr S) H xs vs := by
  unfold Dl.seqOf at h
  split at h
  · cases h
    cases r with
    | tup hl q => exact ⟨_, _, rfl, .inr hl.sq, q⟩
  · cases h
    cases r with
    | lst hl q => exact ⟨_, _, rfl, .inl hl.sq, q⟩
  · cases h
    cases r with
    | scr hl q => exact ⟨_, _, rfl, .inl hl.sq, q⟩
  · next a =>
    split at h
    · next ys e =>
      cases h
      obtain ⟨u, e1, ro⟩ := s.sto a _ e
      cases ro with
      | lst q => exact ⟨a, _, r.refE, .inl (.inl (.inl e1)), q⟩
    · cases h
  · cases h
theorem Sto.dp (s : Sto M Pr S H) {d : D} {v : V} {n : Nat} (r : Rep M (Fr Pr S) H d v) (h : D.fits n (drf S d) = true) : Dp M.K H v (toPy (drf S d)) := by
  cases d with
  | ref a =>
    cases e : S a with
    | none =>
      have e1 : drf S (.ref a) = .ref a := by simp [drf, e]
      rw [e1, fits_ref] at h; cases h
    | some o =>
      cases o with
      | lst xs =>
        have e1 : drf S (.ref a) = .lst xs := by simp [drf, e]
        rw [e1] at h ⊢
        obtain ⟨u, e1, ro⟩ := s.sto a _ e
        cases ro with
        | lst q =>
          cases r
          cases n with
          | zero => cases h
          | succ n => rw [fits_lst] at h; exact .lst (.inl (.inl e1)) (q.dp n h)
      | dK _ =>
        have e1 : drf S (.ref a) = .ref a := by simp [drf, e]
        rw [e1, fits_ref] at h; cases h
      | dT _ =>
        have e1 : drf S (.ref a) = .ref a := by simp [drf, e]
        rw [e1, fits_ref] at h; cases h
  | _ => exact r.dp n h

/-! ### dicts, read -/
theorem key_of_isKey {d : D} (h : isKey d = true) : ∃ k, keyD d = some k := by
  cases d <;> first | exact ⟨_, rfl⟩ | cases h
theorem key_eqv {a b : D} {k j : Key} (ha : keyD a = some k) (hb : keyD b = some j) : D.eqv a b = decide (k = j) := by
  cases a <;> try cases ha
  · next i =>
    cases b <;> try cases hb
    · next i' => simp [D.eqv, Bool.beq_eq_decide_eq]
    · next s' => simp [D.eqv]
  · next s =>
    cases b <;> try cases hb
    · next i' => simp [D.eqv]
    · next s' =>
      simp only [D.eqv, Sum.inr.injEq]
      rw [← strD_beq, Bool.beq_eq_decide_eq]
theorem keys_of_all : ∀ {xs : List D}, xs.all isKey = true → ∃ ks, keysL xs = some ks
  | [], _ => ⟨[], rfl⟩
  | x :: xs, h => by
    simp only [List.all_cons, Bool.and_eq_true] at h
    obtain ⟨k, e⟩ := key_of_isKey h.1
    obtain ⟨ks, e2⟩ := keys_of_all h.2
    exact ⟨k :: ks, by simp [keysL, e, e2]⟩
theorem keysL_cons {x : D} {xs : List D} {l : List Key} (h : keysL (x :: xs) = some l) : ∃ k ks, keyD x = some k ∧ keysL xs = some ks ∧ l = k :: ks := by
  unfold keysL at h
  split at h
  · next e1 e2 => cases h; exact ⟨_, _, e1, e2, rfl⟩
  · cases h
theorem keysL_eqv : ∀ {a b : List D} {k j : List Key}, keysL a = some k → keysL b = some j → D.eqvs a b = decide (k = j)
  | [], [], _, _, ha, hb => by cases ha; cases hb; simp [D.eqvs]
  | [], y :: ys, _, _, ha, hb => by
    obtain ⟨k, ks, _, _, rfl⟩ := keysL_cons hb
    cases ha; simp [D.eqvs]
  | y :: ys, [], _, _, ha, hb => by
    obtain ⟨k, ks, _, _, rfl⟩ := keysL_cons ha
    cases hb; simp [D.eqvs]
  | x :: xs, y :: ys, _, _, ha, hb => by
    obtain ⟨k, ks, h1, h2, rfl⟩ := keysL_cons ha
    obtain ⟨j, js, h3, h4, rfl⟩ := keysL_cons hb
    simp only [D.eqvs, key_eqv h1 h3, keysL_eqv h2 h4, List.cons.injEq, Bool.decide_and]
theorem keysD_eqv {a b : D} {k j : List Key} (ha : keysD a = some k) (hb : keysD b = some j) : D.eqv a b = decide (k = j) := by
  cases a <;> try cases ha
  cases b <;> try cases hb
  simp only [D.eqv]
  exact keysL_eqv ha hb
theorem rep_key {F : Addr → Prop} {d : D} {v : V} {k : Key} (r : Rep M F H d v) (h : keyD d = some k) : v = kV k := by
  cases d <;> cases h
  · exact r.intE
  · exact r.strE
theorem reps_keys {F : Addr → Prop} : ∀ {d : List D} {v : List V} {k : List Key}, Reps M F H d v → keysL d = some k → v = k.map kV
  | [], _, _, .nil, h => by cases h; rfl
  | x :: xs, _, _, .cons r t, h => by
    obtain ⟨k, ks, h1, h2, rfl⟩ := keysL_cons h
    rw [rep_key r h1, reps_keys t h2]
    rfl
theorem rep_keys {F : Addr → Prop} {d : D} {v : V} {k : List Key} (r : Rep M F H d v) (h : keysD d = some k) : ∃ b, v = .ref b ∧ H b = some (.tup (k.map kV)) := by
  cases d <;> try cases h
  cases r with
  | tup h1 r1 =>
    refine ⟨_, rfl, ?_⟩
    rw [← reps_keys r1 h]
    exact h1.1
/-- a look-up's answer -/
def RepM (M : Kx) (F : Addr → Prop) (H : Hp) : Option D → Option V → Prop
  | some d, some v => Rep M F H d v
  | none, none => True
  | _, _ => False
theorem dget_rel {κ : Type} [DecidableEq κ] {F : Addr → Prop} {key : D → Option κ} (hk : ∀ {a b : D} {k j : κ}, key a = some k → key b = some j → D.eqv a b = decide (k = j)) {d : D} {k : κ} (h : key d = some k) :
    ∀ {kvs : List (D × D)} {hkv : List (κ × V)}, Paired (fun (p : D × D) (q : κ × V) => key p.1 = some q.1 ∧ Rep M F H p.2 q.2) kvs hkv → RepM M F H (dget kvs d) (valV hkv k)
  | _, _, .nil => trivial
  | p :: r, q :: s, .cons ⟨h1, h2⟩ t => by
    have ih := dget_rel hk h t
    have e := hk h1 h
    unfold dget at ih ⊢
    by_cases z : q.1 = k
    · rw [valV_pos z]
      rw [List.find?_cons, e, decide_eq_true z]
      exact h2
    · rw [valV_neg z]
      rw [List.find?_cons, e, decide_eq_false z]
      exact ih
theorem Sto.dget (s : Sto M Pr S H) {d k : D} {v u : V} {kvs : List (D × D)} (r : Rep M (Fr Pr S) H d v) (rk : Rep M (Fr Pr S) H k u) (h : dictOf S d k = some kvs) :
    ∃ a o, v = .ref a ∧ DGet H a u o ∧ RepM M (Fr Pr S) H (Dl.dget kvs k) o := by
  unfold dictOf at h
  split at h
  · next a =>
    split at h
    · next ws e =>
      split at h <;> cases h
      next hk =>
      obtain ⟨w, e1, ro⟩ := s.sto a _ e
      cases ro with
      | dK q =>
        obtain ⟨kk, ek⟩ := key_of_isKey hk
        refine ⟨a, _, r.refE, .inl ⟨_, kk, .inl e1, rep_key rk ek, rfl⟩, dget_rel key_eqv ek q⟩
    · next ws e =>
      split at h <;> cases h
      next hk =>
      obtain ⟨w, e1, ro⟩ := s.sto a _ e
      cases ro with
      | dT q =>
        unfold isKeyT at hk
        split at hk
        · next xs =>
          obtain ⟨kk, ek⟩ := keys_of_all hk
          have ek' : keysD (.tup xs) = some kk := ek
          obtain ⟨b, e2, e3⟩ := rep_keys rk ek'
          exact ⟨a, _, r.refE, .inr ⟨_, kk, b, .inl e1, e2, e3, rfl⟩, dget_rel keysD_eqv ek' q⟩
        · cases hk
    · cases h
  · cases h
theorem RepM.isSome {F : Addr → Prop} {d : Option D} {v : Option V} (h : RepM M F H d v) : v.isSome = d.isSome := by
  cases d <;> cases v <;> first | rfl | exact h.elim
end

section
variable {X : Cx} {xk : XK}
theorem o_eq (hu : X.A.units + 64 < cLine) : Op2 X xk (compareOp .Eq) oEq := by
  refine ⟨_, op_eqD hu, fun Pr S H x y z v u Qv t rx ry hz q => ?_⟩
  unfold oEq at hz
  split at hz <;> cases hz
  next hc =>
  simp only [Bool.and_eq_true] at hc
  refine ⟨_, _, t.dp rx hc.1, t.dp ry hc.2, py_shaped (by decide) hc.1, py_shaped (by decide) hc.2, ?_⟩
  rw [← py_eqv 60 _ _ hc.1 hc.2]
  exact q _ _ t .refl (.bl _)
theorem o_ne (hu : X.A.units + 64 < cLine) : Op2 X xk (compareOp .NotEq) oNe := by
  refine ⟨_, op_neD hu, fun Pr S H x y z v u Qv t rx ry hz q => ?_⟩
  unfold oNe at hz
  split at hz <;> cases hz
  next hc =>
  simp only [Bool.and_eq_true] at hc
  refine ⟨_, _, t.dp rx hc.1, t.dp ry hc.2, py_shaped (by decide) hc.1, py_shaped (by decide) hc.2, ?_⟩
  rw [← py_eqv 60 _ _ hc.1 hc.2]
  exact q _ _ t .refl (.bl _)

theorem reps_ints {M : Kx} {F : Addr → Prop} {H : Hp} : ∀ {xs : List D} {vs : List V} {ns : List Int}, Reps M F H xs vs → intsOf xs = some ns → vs = ns.map V.int
  | [], _, _, .nil, h => by cases h; rfl
  | .int i :: r, _, ns, .cons q t, h => by
    unfold intsOf at h
    cases e : intsOf r with
    | none => rw [e] at h; cases h
    | some ms =>
      rw [e] at h
      cases h
      rw [q.intE, reps_ints t e]
      rfl
theorem reps_bls {M : Kx} {F : Addr → Prop} {H : Hp} : ∀ {xs : List D} {vs : List V} {ns : List Bool}, Reps M F H xs vs → boolsOf xs = some ns → vs = ns.map V.bl
  | [], _, _, .nil, h => by cases h; rfl
  | .bl i :: r, _, ns, .cons q t, h => by
    unfold boolsOf at h
    cases e : boolsOf r with
    | none => rw [e] at h; cases h
    | some ms =>
      rw [e] at h
      cases h
      rw [q.blE, reps_bls t e]
      rfl
theorem lexLt_same : ∀ a b : List Int, lexLt a b = HT.lexLt a b
  | [], [] => rfl
  | [], _ :: _ => rfl
  | _ :: _, [] => rfl
  | x :: xs, y :: ys => by simp [lexLt, HT.lexLt, lexLt_same xs ys]
theorem o_lt (hu : X.A.units < cLine) : Op2 X xk (compareOp .Lt) oLt := by
  refine ⟨_, OpR.or op_lt (op_ltT hu), fun Pr S H x y z v u Qv t rx ry hz q => ?_⟩
  unfold oLt ltD at hz
  split at hz
  · cases hz
    exact .inl ⟨_, _, rx.intE, ry.intE, q _ _ t .refl (.bl _)⟩
  · split at hz
    · next e1 e2 =>
      cases hz
      cases rx with
      | tup h1 r1 =>
        cases ry with
        | tup h2 r2 =>
          have k1 := reps_ints r1 e1
          have k2 := reps_ints r2 e2
          subst k1 k2
          refine .inr ⟨_, _, _, _, rfl, rfl, h1.sq, h2.sq, ?_⟩
          rw [← lexLt_same]
          exact q _ _ t .refl (.bl _)
    · cases hz
  · cases hz
theorem o_add : Op2 X xk (binaryOp .Add) oAdd := by
  refine ⟨_, OpR.or op_add op_catA, fun Pr S H x y z v u Qv t rx ry hz q => ?_⟩
  unfold oAdd at hz
  split at hz
  · cases hz
    exact .inl ⟨_, _, rx.intE, ry.intE, q _ _ t .refl (.int _)⟩
  · split at hz
    · next hl =>
      cases hz
      cases rx with
      | tup h1 r1 =>
        cases ry with
        | tup h2 r2 =>
          refine .inr ⟨_, _, _, _, rfl, rfl, h1.sq, h2.sq, ?_, fun e => ?_, fun n1 e => ?_, fun n1 n2 p hp => ?_⟩
          · rw [← r1.length, ← r2.length, sizeLine_eq]; exact hl
          · subst e
            cases r1
            exact q _ _ t .refl (.tup h2 r2)
          · subst e
            cases r2
            rw [List.append_nil] at q
            exact q _ _ t .refl (.tup h1 r1)
          · obtain ⟨t', ev⟩ := t.new (o := .tup _) hp
            exact q _ _ t' ev (.tup (FT.new t hp) ((r1.append r2).mono ev.kept))
    · cases hz
  · cases hz

/-- x in y: what is asked -/
def rInB (K : PySem.W.Frag) (x y : V) (H : Hp) (k : Bool → Prop) : Prop :=
  (∃ d ds, Dp K H x d ∧ (Dp K H y (.list ds) ∨ Dp K H y (.tuple ds)) ∧ SeqAt.shaped d = true ∧ PyData.canLayAll0 ds = true ∧ k (ds.any fun z => PyData.eqv z d)) ∨
    ∃ a o, y = .ref a ∧ DGet H a x o ∧ k o.isSome
theorem op_inB (hu : X.A.units + 66 < cLine) : OpR X (compareOp .In) (fun x y H Q => rInB X.K x y H fun b => Q (.bl b) H) := by
  intro pins s σ H x y v u Q I rx ry h
  rcases h with ⟨d, ds, hd, he, sd, se, q⟩ | ⟨a, o, rfl, g, q⟩
  · obtain ⟨as, r1⟩ := Dp.reads I d x v hd rx
    have hr : X.A.units + 1 + min (PyData.depthAll ds) d.depth < cLine := by
      have := SeqAt.depth_of_shaped sd
      omega
    rcases he with he | he
    · obtain ⟨bs, r2⟩ := Dp.reads I (.list ds) y u he ry
      exact SeqAt.in_list_reads r2 r1 se (SeqAt.canLay_of_shaped sd) hr ⟨.bl _, H, I, rfl, q⟩
    · obtain ⟨bs, r2⟩ := Dp.reads I (.tuple ds) y u he ry
      exact SeqAt.in_tuple_reads r2 r1 se (SeqAt.canLay_of_shaped sd) hr ⟨.bl _, H, I, rfl, q⟩
  · cases ry
    exact d_in (by omega) I g rx fun s' I' => ⟨.bl _, H, I', rfl, q⟩
theorem op_notInB (hu : X.A.units + 66 < cLine) : OpR X (compareOp .NotIn) (fun x y H Q => rInB X.K x y H fun b => Q (.bl (!b)) H) := by
  intro pins s σ H x y v u Q I rx ry h
  rcases h with ⟨d, ds, hd, he, sd, se, q⟩ | ⟨a, o, rfl, g, q⟩
  · obtain ⟨as, r1⟩ := Dp.reads I d x v hd rx
    have hr : X.A.units + 1 + min (PyData.depthAll ds) d.depth < cLine := by
      have := SeqAt.depth_of_shaped sd
      omega
    rcases he with he | he
    · obtain ⟨bs, r2⟩ := Dp.reads I (.list ds) y u he ry
      exact SeqAt.notIn_list_reads r2 r1 se (SeqAt.canLay_of_shaped sd) hr ⟨.bl _, H, I, rfl, q⟩
    · obtain ⟨bs, r2⟩ := Dp.reads I (.tuple ds) y u he ry
      exact SeqAt.notIn_tuple_reads r2 r1 se (SeqAt.canLay_of_shaped sd) hr ⟨.bl _, H, I, rfl, q⟩
  · cases ry
    exact d_notIn (by omega) I g rx fun s' I' => ⟨.bl _, H, I', rfl, q⟩
theorem inB_ok {Pr : Addr → Prop} {S : Store} {H : Hp} {M : Kx} {x y : D} {v u : V} {b : Bool} {k : Bool → Prop} (t : Sto M Pr S H) (rx : Rep M (Fr Pr S) H x v) (ry : Rep M (Fr Pr S) H y u) (h : inD S x y = some b) (q : k b) : rInB M.K v u H k := by
  unfold inD at h
  split at h
  · next ys e =>
    split at h
    · next hc =>
      cases h
      simp only [Bool.and_eq_true] at hc
      have any_eq : (toPys ys).any (fun z => PyData.eqv z (toPy x)) = ys.any fun z => D.eqv z x := by
        rw [toPys_map, List.any_map, Bool.eq_iff_iff, List.any_eq_true, List.any_eq_true]
        have h1 := List.all_eq_true.mp hc.2
        constructor
        · rintro ⟨z, hz, e⟩
          exact ⟨z, hz, by rw [py_eqv 59 z x (h1 z hz) hc.1]; exact e⟩
        · rintro ⟨z, hz, e⟩
          exact ⟨z, hz, by rw [py_eqv 59 z x (h1 z hz) hc.1] at e; exact e⟩
      obtain ⟨a, vs, rfl, hs, rs⟩ := t.seqOf ry e
      refine .inl ⟨toPy x, toPys ys, rx.dp 59 hc.1, ?_, py_shaped (by decide) hc.1, (py_lays 59 ys hc.2).1, ?_⟩
      · rcases hs with hs | hs
        · exact .inl (.lst hs (rs.dp 59 hc.2))
        · exact .inr (.tup hs (rs.dp 59 hc.2))
      · rw [any_eq]
        exact q
    · cases h
  · next e =>
    cases e2 : dictOf S y x with
    | none => rw [e2] at h; cases h
    | some kvs =>
      rw [e2] at h
      cases h
      obtain ⟨a, o, rfl, g, rm⟩ := t.dget ry rx e2
      refine .inr ⟨a, o, rfl, g, ?_⟩
      rw [rm.isSome]
      exact q
theorem o_in (hu : X.A.units + 66 < cLine) : Op2 X xk (compareOp .In) oIn := by
  refine ⟨_, op_inB hu, fun Pr S H x y z v u Qv t rx ry hz q => ?_⟩
  unfold oIn at hz
  cases e : inD S x y with
  | none => rw [e] at hz; cases hz
  | some b =>
    rw [e] at hz; cases hz
    exact inB_ok t rx ry e (q _ _ t .refl (.bl _))
theorem o_notIn (hu : X.A.units + 66 < cLine) : Op2 X xk (compareOp .NotIn) oNotIn := by
  refine ⟨_, op_notInB hu, fun Pr S H x y z v u Qv t rx ry hz q => ?_⟩
  unfold oNotIn at hz
  cases e : inD S x y with
  | none => rw [e] at hz; cases hz
  | some b =>
    rw [e] at hz; cases hz
    exact inB_ok t rx ry e (q _ _ t .refl (.bl _))

/-! ### is -/
theorem bl_rel {x : V} {v : Value} {b : Bool} (r : RelV x v) : (v == Value.bool b) = decide (x = .bl b) := by
  cases x with
  | bl c => cases r; by_cases h : c = b <;> simp [h]
  | non => cases r; simp
  | int i => obtain ⟨t, rfl⟩ := r; simp
  | str i => obtain ⟨t, rfl⟩ := r; simp
  | byt i => obtain ⟨t, rfl⟩ := r; simp
  | flt i => obtain ⟨t, rfl⟩ := r; simp
  | ref i => cases r; simp
  | ty i => cases r; simp
theorem op_isB : OpR X (compareOp .Is) (fun x y H Q => ∃ b, y = .bl b ∧ Q (.bl (decide (x = .bl b))) H) := by
  intro pins s σ H x y v u Q I rx ry h
  obtain ⟨b, rfl, q⟩ := h
  cases ry
  have q' := fin_bl I q (bl_rel rx).symm
  cases x <;> first
    | (cases rx; exact wpAny_pure q')
    | (obtain ⟨t, rfl⟩ := rx; exact wpAny_pure q')
theorem op_notB : OpR X (compareOp .IsNot) (fun x y H Q => ∃ b, y = .bl b ∧ Q (.bl (!decide (x = .bl b))) H) := by
  intro pins s σ H x y v u Q I rx ry h
  obtain ⟨b, rfl, q⟩ := h
  cases ry
  have q' := fin_bl I q (show (!decide (x = .bl b)) = !(v == Value.bool b) by rw [bl_rel rx])
  cases x <;> first
    | (cases rx; exact wpAny_pure q')
    | (obtain ⟨t, rfl⟩ := rx; exact wpAny_pure q')
theorem rep_isN {M : Kx} {F : Addr → Prop} {H : Hp} {x : D} {v : V} (r : Rep M F H x v) : decide (v = .non) = isD x .non := by
  cases r <;> simp [isD]
theorem rep_isB {M : Kx} {F : Addr → Prop} {H : Hp} {x : D} {v : V} {b : Bool} (r : Rep M F H x v) : decide (v = .bl b) = isD x (.bl b) := by
  cases r <;> simp [isD, Bool.beq_eq_decide_eq]
theorem o_is : Op2 X xk (compareOp .Is) oIs := by
  refine ⟨_, OpR.or op_isN op_isB, fun Pr S H x y z v u Qv t rx ry hz q => ?_⟩
  unfold oIs at hz
  split at hz <;> cases hz
  next hs =>
  cases y <;> try cases hs
  · refine .inl ⟨ry.nonE, ?_⟩
    rw [rep_isN rx]
    exact q _ _ t .refl (.bl _)
  · refine .inr ⟨_, ry.blE, ?_⟩
    rw [rep_isB rx]
    exact q _ _ t .refl (.bl _)
theorem o_isNot : Op2 X xk (compareOp .IsNot) oIsNot := by
  refine ⟨_, OpR.or op_notN op_notB, fun Pr S H x y z v u Qv t rx ry hz q => ?_⟩
  unfold oIsNot at hz
  split at hz <;> cases hz
  next hs =>
  cases y <;> try cases hs
  · refine .inl ⟨ry.nonE, ?_⟩
    rw [rep_isN rx]
    exact q _ _ t .refl (.bl _)
  · refine .inr ⟨_, ry.blE, ?_⟩
    rw [rep_isB rx]
    exact q _ _ t .refl (.bl _)

/-! ### subscripts -/
def rIxDct : R2 := fun x y H Q => ∃ a v, x = .ref a ∧ DGet H a y (some v) ∧ Q v H
theorem ix_dct (hu : X.A.units + 1 < cLine) : IxR X rIxDct := by
  intro value slice pins s σ H x y v u Q I rx ry h hs
  obtain ⟨a, w, rfl, g, q⟩ := h
  cases rx
  exact tail_any (dict_typeIs I g) PySem.F.slot_dict_getitem.lookup (d_getItem hu I g ry fun w' s' I' r => ⟨w, H, I', r, q⟩) hs
theorem ixD_at {M : Kx} {F : Addr → Prop} {H : Hp} {xs : List D} {vs : List V} {i : Int} {d : D} (r : Reps M F H xs vs) (h : ixD xs i = some d) : ∃ v, atI vs i = some v ∧ Rep M F H d v := by
  have hl := r.length
  unfold ixD at h
  unfold atI ixN
  by_cases h0 : 0 ≤ i
  · rw [if_pos h0] at h ⊢
    obtain ⟨v, e, rv⟩ := r.get h
    have hlt : i.toNat < vs.length := (List.getElem?_eq_some_iff.mp e).1
    rw [if_pos (by omega)]
    exact ⟨v, e, rv⟩
  · rw [if_neg h0] at h ⊢
    by_cases h1 : -(xs.length : Int) ≤ i
    · rw [if_pos h1] at h
      rw [hl] at h h1
      rw [if_pos h1]
      obtain ⟨v, e, rv⟩ := r.get h
      exact ⟨v, e, rv⟩
    · rw [if_neg h1] at h; cases h
theorem o_ix (hu : X.A.units + 1 < cLine) : ∃ r : R2, IxR X r ∧ ∀ Pr S H x y z v u Qv, Sto (kx X) Pr S H → Rep (kx X) (Fr Pr S) H x v → Rep (kx X) (Fr Pr S) H y u → oIx S x y = some z →
    (∀ w H', Sto (kx X) Pr S H' → Evo S H S H' → Rep (kx X) (Fr Pr S) H' z w → Qv w H') → r v u H Qv := by
  refine ⟨_, (ix_list.or ix_tup).or (ix_dct hu), fun Pr S H x y z v u Qv t rx ry hz q => ?_⟩
  unfold oIx at hz
  split at hz
  · next xs e =>
    split at hz
    · next i =>
      obtain ⟨a, vs, rfl, hs, rs⟩ := t.seqOf rx e
      obtain ⟨w, ew, rw'⟩ := ixD_at rs hz
      rcases hs with hs | hs
      · exact .inl (.inl ⟨a, vs, i, w, rfl, ry.intE, hs, ew, q _ _ t .refl rw'⟩)
      · exact .inl (.inr ⟨a, vs, i, w, rfl, ry.intE, hs, ew, q _ _ t .refl rw'⟩)
    · cases hz
  · next e =>
    cases e2 : dictOf S x y with
    | none => rw [e2] at hz; cases hz
    | some kvs =>
      rw [e2] at hz
      obtain ⟨a, o, rfl, g, rm⟩ := t.dget rx ry e2
      have hz' : Dl.dget kvs y = some z := hz
      rw [hz'] at rm
      cases o with
      | none => exact rm.elim
      | some w => exact .inr ⟨a, w, rfl, g, q _ _ t .refl rm⟩
theorem de_ix {a b : Expr} {pos : Pos} {wa wb : WE} (hu : X.A.units + 1 < cLine) (ha : DE X xk a wa) (hb : DE X xk b wb) (hs : PlainIx b := by exact fun _ _ => rfl) : DE X xk (.Subscript a b pos) (w2 oIx wa wb) := by
  obtain ⟨r, hr, hq⟩ := o_ix (X := X) hu
  refine ⟨(pe_ix hr ha.pe hb.pe hs).weak fun sv H Qv ⟨Pr, E, s, S, Q, cu, q, g⟩ => ?_⟩
  refine ⟨Pr, E, s, S, _, cu, q, fun x S1 v H1 e1 t1 r1 q1 => ⟨Pr, E, s, S1, _, cu.go e1 t1, q1, fun y S2 u H2 e2 t2 r2 q2 => ?_⟩⟩
  obtain ⟨z, hz, q2⟩ := q2
  exact hq Pr S2 H2 x y z v u Qv t2 (r1.mono e2.kept) r2 hz fun w H' t3 e3 r3 => g z S2 w H' (e1.trans (e2.trans e3)) t3 r3 q2

/-! ### slices -/
structure DO (X : Cx) (xk : XK) (e : Option Expr) (w : WE) : Prop where
  run : PO X e (fun sv H Qv => ∃ (Pr : Addr → Prop) (E : XQ) (s : Sg) (S : Store) (Q : Q1), Cur (kx X) xk Pr E s S sv H ∧ w E s S Q ∧
    ∀ d S' o H', Evo S H S' H' → Sto (kx X) Pr S' H' → ((d = .non ∧ o = none) ∨ ∃ i, d = .int i ∧ o = some i) → Q d S' → Qv o H')
theorem do_none : DO X xk none (wC .non) := ⟨⟨fun pins s σ H Q I h => by
  obtain ⟨Pr, E, sg, S, Qd, cu, q, g⟩ := h
  exact po_none.run pins s σ H Q I (g .non S none H .refl cu.sto (.inl ⟨rfl, rfl⟩) q)⟩⟩
theorem do_some {e : Expr} {w : WE} (h : DE X xk e w) : DO X xk (some e) (wI w) := ⟨⟨fun pins s σ H Q I ⟨Pr, E, sg, S, Qd, cu, q, g⟩ =>
  (po_some h.pe).run pins s σ H Q I ⟨Pr, E, sg, S, _, cu, q, fun d S' v H' ev st r ⟨i, e, q'⟩ => by
    subst e
    exact ⟨i, r.intE, g (.int i) S' (some i) H' ev st (.inr ⟨i, rfl, rfl⟩) q'⟩⟩⟩⟩
theorem clip_lo {n d : Nat} {x : D} {o : Option Int} {l : Nat} (h : clip n d x = some l) (r : (x = .non ∧ o = none) ∨ ∃ i, x = .int i ∧ o = some i) : HT.sIx n d o = l := by
  rcases r with ⟨rfl, rfl⟩ | ⟨i, rfl, rfl⟩
  · cases h; rfl
  · unfold clip at h
    cases h
    have := HT.clip_eq i n d
    split at this
    · next h0 => rw [if_pos h0]; omega
    · next h0 => rw [if_neg h0]; omega
theorem reps_cut {M : Kx} {F : Addr → Prop} {H : Hp} {xs : List D} {vs : List V} {l h : Nat} (r : Reps M F H xs vs) : Reps M F H (cut xs l h) ((vs.drop l).take (h - l)) := (r.drop l).take _
theorem de_sl {e : Expr} {lo hi : Option Expr} {pos p2 : Pos} {we wl wh : WE} (he : DE X xk e we) (hl : DO X xk lo wl) (hh : DO X xk hi wh) : DE X xk (.Subscript e (.Slice lo hi none p2) pos) (wSl we wl wh) := by
  refine ⟨(pe_slice (SlR.or sl_tupA sl_list) he.pe hl.run hh.run).weak fun sv H Qv ⟨Pr, E, s, S, Q, cu, q, g⟩ => ?_⟩
  refine ⟨Pr, E, s, S, _, cu, q, fun x S1 v H1 e1 t1 r1 q1 => ⟨Pr, E, s, S1, _, cu.go e1 t1, q1, fun l S2 lo H2 e2 t2 pl q2 => ⟨Pr, E, s, S2, _, (cu.go e1 t1).go e2 t2, q2, fun h S3 hi H3 e3 t3 ph q3 => ?_⟩⟩⟩
  obtain ⟨z, hz, q3⟩ := q3
  have rx := (r1.mono e2.kept).mono e3.kept
  unfold oSl at hz
  cases ex : seqOf S3 x with
  | none => rw [ex] at hz; cases hz
  | some xs =>
    rw [ex, Option.bind_some] at hz
    split at hz <;> cases hz
    next l' h' c1 c2 =>
    have ev := e1.trans (e2.trans e3)
    obtain ⟨a, vs, rfl, hs, rs⟩ := t3.seqOf rx ex
    have hlen := rs.length
    have k1 := clip_lo c1 pl
    have k2 := clip_lo c2 ph
    rw [hlen] at k1 k2
    cases x with
    | tup ys =>
      cases ex
      cases rx with
      | tup ht rt =>
        rename_i vs'
        have hlen' := rt.length
        have k1' := clip_lo c1 pl
        have k2' := clip_lo c2 ph
        rw [hlen'] at k1' k2'
        refine .inl ⟨a, vs', rfl, ht.sq, fun w => ?_, fun w p hp => ?_⟩
        · refine g _ _ _ _ ev t3 (.tup ht ?_) q3
          have e4 : cut xs l' h' = xs := by
            rw [k1', k2'] at w
            unfold cut
            rw [w.1, w.2, List.drop_zero, Nat.sub_zero, ← hlen', List.take_length]
          rw [e4]; exact rt
        · obtain ⟨t4, ev4⟩ := t3.new (o := .tup _) hp
          refine g _ _ _ _ (ev.trans ev4) t4 (.tup (FT.new t3 hp) (Reps.mono ev4.kept ?_)) q3
          unfold cutV
          rw [k1', k2']
          exact reps_cut rt
    | lst ys =>
      cases ex
      cases rx with
      | lst ht rt =>
        rename_i vs'
        have hlen' := rt.length
        have k1' := clip_lo c1 pl
        have k2' := clip_lo c2 ph
        rw [hlen'] at k1' k2'
        refine .inr ⟨a, vs', rfl, ht.sq, fun p hp => ?_⟩
        obtain ⟨t4, ev4⟩ := t3.new (o := .lst _) hp
        refine g _ _ _ _ (ev.trans ev4) t4 (.lst (FL.new t3 hp) (Reps.mono ev4.kept ?_)) q3
        unfold cutV
        rw [k1', k2']
        exact reps_cut rt
    | scr ys =>
      cases ex
      cases rx with
      | scr ht rt =>
        rename_i vs'
        have hlen' := rt.length
        have k1' := clip_lo c1 pl
        have k2' := clip_lo c2 ph
        rw [hlen'] at k1' k2'
        refine .inr ⟨a, vs', rfl, ht.sq, fun p hp => ?_⟩
        obtain ⟨t4, ev4⟩ := t3.new (o := .lst _) hp
        refine g _ _ _ _ (ev.trans ev4) t4 (.lst (FL.new t3 hp) (Reps.mono ev4.kept ?_)) q3
        unfold cutV
        rw [k1', k2']
        exact reps_cut rt
    | ref b =>
      cases rx
      obtain ⟨a', vs', e', hs', rs'⟩ := t3.lstOf (d := .ref a) (.ref a) (show lstOf S3 (.ref a) = some xs from ex)
      cases e'
      have hlen' := rs'.length
      have k1' := clip_lo c1 pl
      have k2' := clip_lo c2 ph
      rw [hlen'] at k1' k2'
      refine .inr ⟨a, vs', rfl, SqL.of hs', fun p hp => ?_⟩
      obtain ⟨t4, ev4⟩ := t3.new (o := .lst _) hp
      refine g _ _ _ _ (ev.trans ev4) t4 (.lst (FL.new t3 hp) (Reps.mono ev4.kept ?_)) q3
      unfold cutV
      rw [k1', k2']
      exact reps_cut rs'
    | _ => cases ex

/-! ### truth, tests -/
theorem tru_ok2 {M : Kx} {Pr : Addr → Prop} {S : Store} {H : Hp} {x : D} {v : V} {b : Bool} (t : Sto M Pr S H) (r : Rep M (Fr Pr S) H x v) (h : tru S x = some b) : TruV M.K v H b := by
  have emp : ∀ {xs : List D} {vs : List V} {F}, Reps M F H xs vs → (!xs.isEmpty) = !vs.isEmpty := fun {xs vs F} r => by cases r <;> rfl
  unfold tru at h
  split at h
  · cases h; rw [r.nonE]; rfl
  · cases h; rw [r.blE]; rfl
  · cases h; rw [r.intE]; simp [TruV, bne, Bool.beq_eq_decide_eq]
  · cases h
    cases r with
    | tup ht rs => exact .inr (.inl ⟨_, ht.sq, emp rs⟩)
  · cases h
    cases r with
    | lst ht rs => exact .inl ⟨_, ht.sq, emp rs⟩
  · next a =>
    cases r
    split at h
    · next xs e =>
      cases h
      obtain ⟨u, e1, ro⟩ := t.sto a _ e
      cases ro with
      | lst q => exact .inl ⟨_, .inl (.inl e1), emp q⟩
    · next xs e =>
      cases h
      obtain ⟨u, e1, ro⟩ := t.sto a _ e
      cases ro with
      | dK q => exact .inr (.inr ⟨_, e1, by cases q <;> rfl⟩)
    · cases h
  · cases h
theorem de_not {a : Expr} {pos : Pos} {wa : WE} (ha : DE X xk a wa) : DE X xk (.UnaryOp .Not a pos) (w1 oNot wa) := by
  refine ⟨(pe_notT ha.pe).weak fun sv H Qv ⟨Pr, E, s, S, Q, cu, q, g⟩ => ?_⟩
  refine ⟨Pr, E, s, S, _, cu, q, fun x S1 v H1 e1 t1 r1 q1 => ?_⟩
  obtain ⟨z, hz, q1⟩ := q1
  unfold oNot at hz
  cases e : tru S1 x with
  | none => rw [e] at hz; cases hz
  | some b =>
    rw [e] at hz; cases hz
    exact ⟨b, tru_ok2 t1 r1 e, g _ _ _ _ e1 t1 (.bl _) q1⟩
theorem de_or {a b : Expr} {rest : List Expr} {pos : Pos} {wa wb : WE} (ha : DE X xk a wa) (hb : DE X xk (.BoolOp .Or (b :: rest) pos) wb) : DE X xk (.BoolOp .Or (a :: b :: rest) pos) (wOr wa wb) := by
  refine ⟨(pe_orT ha.pe hb.pe).weak fun sv H Qv ⟨Pr, E, s, S, Q, cu, q, g⟩ => ?_⟩
  refine ⟨Pr, E, s, S, _, cu, q, fun x S1 v H1 e1 t1 r1 q1 => ?_⟩
  obtain ⟨c, hc, q1⟩ := q1
  refine ⟨c, tru_ok2 t1 r1 hc, ?_⟩
  cases c with
  | true => exact g _ _ _ _ e1 t1 r1 q1
  | false => exact ⟨Pr, E, s, S1, Q, cu.go e1 t1, q1, fun d S' v H' ev st r q => g d S' v H' (e1.trans ev) st r q⟩
theorem de_and {a b : Expr} {rest : List Expr} {pos : Pos} {wa wb : WE} (ha : DE X xk a wa) (hb : DE X xk (.BoolOp .And (b :: rest) pos) wb) : DE X xk (.BoolOp .And (a :: b :: rest) pos) (wAnd wa wb) := by
  refine ⟨(pe_andT ha.pe hb.pe).weak fun sv H Qv ⟨Pr, E, s, S, Q, cu, q, g⟩ => ?_⟩
  refine ⟨Pr, E, s, S, _, cu, q, fun x S1 v H1 e1 t1 r1 q1 => ?_⟩
  obtain ⟨c, hc, q1⟩ := q1
  refine ⟨c, tru_ok2 t1 r1 hc, ?_⟩
  cases c with
  | false => exact g _ _ _ _ e1 t1 r1 q1
  | true => exact ⟨Pr, E, s, S1, Q, cu.go e1 t1, q1, fun d S' v H' ev st r q => g d S' v H' (e1.trans ev) st r q⟩
theorem de_one {op} {a : Expr} {pos : Pos} {wa : WE} (ha : DE X xk a wa) : DE X xk (.BoolOp op [a] pos) wa := ⟨pe_one ha.pe⟩
theorem de_chain {op op' : CmpOp} {f f' : F2} {a b c : Expr} {pos : Pos} {wa wb wc : WE} (ho : Op2 X xk (compareOp op) f) (ho' : Op2 X xk (compareOp op') f') (ha : DE X xk a wa) (hb : DE X xk b wb) (hc : DE X xk c wc)
    (hm : lastMarks [op, op'] [b, c] = false := by with_unfolding_all rfl) : DE X xk (.Compare a [op, op'] [b, c] pos) (wChain f f' wa wb wc) := by
  obtain ⟨r, hr, hq⟩ := ho
  obtain ⟨r', hr', hq'⟩ := ho'
  refine ⟨(pe_chain hr hr' ha.pe hb.pe hc.pe hm).weak fun sv H Qv ⟨Pr, E, s, S, Q, cu, q, g⟩ => ?_⟩
  refine ⟨Pr, E, s, S, _, cu, q, fun x S1 v H1 e1 t1 r1 q1 => ⟨Pr, E, s, S1, _, cu.go e1 t1, q1, fun y S2 u H2 e2 t2 r2 q2 => ?_⟩⟩
  obtain ⟨k, hz, q2⟩ := q2
  refine hq Pr S2 H2 x y _ v u _ t2 (r1.mono e2.kept) r2 hz fun w H' t3 e3 r3 => ⟨k, r3.blE, ?_⟩
  cases k with
  | false => exact g _ _ _ _ (e1.trans (e2.trans e3)) t3 (.bl _) q2
  | true =>
    refine ⟨Pr, E, s, S2, _, ((cu.go e1 t1).go e2 t2).go e3 t3, q2, fun z S3 w' H4 e4 t4 r4 q4 => ?_⟩
    obtain ⟨z', hz', q4⟩ := q4
    exact hq' Pr S3 H4 y z z' u w' Qv t4 ((r2.mono e3.kept).mono e4.kept) r4 hz' fun w2 H5 t5 e5 r5 => g _ _ _ _ (e1.trans (e2.trans (e3.trans (e4.trans e5)))) t5 r5 q4
theorem de_if {a b c : Expr} {pos : Pos} {wc : WT} {wa wb : WE} (hc : DT X xk c wc) (ha : DE X xk a wa) (hb : DE X xk b wb) : DE X xk (.IfExp c a b pos) (wIf wc wa wb) := by
  refine ⟨(pe_ifExp hc.pt ha.pe hb.pe).weak fun sv H Qv ⟨Pr, E, s, S, Q, cu, q, g⟩ => ?_⟩
  refine ⟨Pr, E, s, S, _, cu, q, fun k S1 H1 e1 t1 q1 => ?_⟩
  cases k with
  | true => exact ⟨Pr, E, s, S1, Q, cu.go e1 t1, q1, fun d S' v H' ev st r q => g d S' v H' (e1.trans ev) st r q⟩
  | false => exact ⟨Pr, E, s, S1, Q, cu.go e1 t1, q1, fun d S' v H' ev st r q => g d S' v H' (e1.trans ev) st r q⟩
theorem dt_e {a : Expr} {wa : WE} (ha : DE X xk a wa) (he : ∀ whole, isTrue a X.env whole = (do let v ← whole; standAt a.pos; holding [v] (truthy v)) := by exact fun _ => rfl) : DT X xk a (tE wa) := by
  refine ⟨(pt_truth ha.pe he).weak fun sv H Qv ⟨Pr, E, s, S, Q, cu, q, g⟩ => ?_⟩
  refine ⟨Pr, E, s, S, _, cu, q, fun x S1 v H1 e1 t1 r1 q1 => ?_⟩
  obtain ⟨c, hc, q1⟩ := q1
  exact ⟨c, tru_ok2 t1 r1 hc, g _ _ _ e1 t1 q1⟩
/-- a comparison gives a bool -/
def IsCmp (f : F2) : Prop := ∀ S x y z, f S x y = some z → ∃ k, z = .bl k
theorem b_eq : IsCmp oEq := fun S x y z h => by unfold oEq at h; split at h <;> cases h; exact ⟨_, rfl⟩
theorem b_ne : IsCmp oNe := fun S x y z h => by unfold oNe at h; split at h <;> cases h; exact ⟨_, rfl⟩
theorem b_map {o : Option Bool} {f : Bool → Bool} {z : D} (h : (o.map fun b => D.bl (f b)) = some z) : ∃ k, z = .bl k := by
  cases o <;> cases h; exact ⟨_, rfl⟩
theorem b_lt : IsCmp oLt := fun S x y z h => b_map (f := id) h
theorem b_in : IsCmp oIn := fun S x y z h => b_map (f := id) h
theorem b_notIn : IsCmp oNotIn := fun S x y z h => b_map h
theorem b_le : IsCmp oLe := fun S x y z h => by unfold oLe at h; split at h <;> cases h; exact ⟨_, rfl⟩
theorem b_gt : IsCmp oGt := fun S x y z h => by unfold oGt at h; split at h <;> cases h; exact ⟨_, rfl⟩
theorem b_ge : IsCmp oGe := fun S x y z h => by unfold oGe at h; split at h <;> cases h; exact ⟨_, rfl⟩
theorem b_is : IsCmp oIs := fun S x y z h => by unfold oIs at h; split at h <;> cases h; exact ⟨_, rfl⟩
theorem b_isNot : IsCmp oIsNot := fun S x y z h => by unfold oIsNot at h; split at h <;> cases h; exact ⟨_, rfl⟩
theorem dt_cmp {op : CmpOp} {f : F2} {a b : Expr} {pos : Pos} {wa wb : WE} (ho : Op2 X xk (compareOp op) f) (hf : IsCmp f) (ha : DE X xk a wa) (hb : DE X xk b wb) (hm : behindInMarks op b = false := by rfl) : DT X xk (.Compare a [op] [b] pos) (tE (w2 f wa wb)) := by
  obtain ⟨r, hr, hq⟩ := ho
  refine ⟨(pt_cmpR hr ha.pe hb.pe hm).weak fun sv H Qv ⟨Pr, E, s, S, Q, cu, q, g⟩ => ?_⟩
  refine ⟨Pr, E, s, S, _, cu, q, fun x S1 v H1 e1 t1 r1 q1 => ⟨Pr, E, s, S1, _, cu.go e1 t1, q1, fun y S2 u H2 e2 t2 r2 q2 => ?_⟩⟩
  obtain ⟨z, hz, c, hc, q2⟩ := q2
  refine hq Pr S2 H2 x y z v u _ t2 (r1.mono e2.kept) r2 hz fun w H' t3 e3 r3 => ?_
  obtain ⟨k, rfl⟩ := hf _ _ _ _ hz
  cases hc
  exact ⟨_, r3.blE, g _ _ _ (e1.trans (e2.trans e3)) t3 q2⟩
theorem dt_chain {op op' : CmpOp} {f f' : F2} {a b c : Expr} {pos : Pos} {wa wb wc : WE} (ho : Op2 X xk (compareOp op) f) (ho' : Op2 X xk (compareOp op') f') (hf' : IsCmp f') (ha : DE X xk a wa) (hb : DE X xk b wb) (hc : DE X xk c wc)
    (hm : lastMarks [op, op'] [b, c] = false := by with_unfolding_all rfl) : DT X xk (.Compare a [op, op'] [b, c] pos) (tE (wChain f f' wa wb wc)) := by
  obtain ⟨r, hr, hq⟩ := ho
  obtain ⟨r', hr', hq'⟩ := ho'
  refine ⟨(pt_chain hr hr' ha.pe hb.pe hc.pe hm).weak fun sv H Qv ⟨Pr, E, s, S, Q, cu, q, g⟩ => ?_⟩
  refine ⟨Pr, E, s, S, _, cu, q, fun x S1 v H1 e1 t1 r1 q1 => ⟨Pr, E, s, S1, _, cu.go e1 t1, q1, fun y S2 u H2 e2 t2 r2 q2 => ?_⟩⟩
  obtain ⟨k, hz, q2⟩ := q2
  refine hq Pr S2 H2 x y _ v u _ t2 (r1.mono e2.kept) r2 hz fun w H' t3 e3 r3 => ⟨k, r3.blE, ?_⟩
  cases k with
  | false =>
    obtain ⟨c, hc, q2⟩ := q2
    cases hc
    exact ⟨false, rfl, g _ _ _ (e1.trans (e2.trans e3)) t3 q2⟩
  | true =>
    refine ⟨Pr, E, s, S2, _, ((cu.go e1 t1).go e2 t2).go e3 t3, q2, fun z S3 w' H4 e4 t4 r4 q4 => ?_⟩
    obtain ⟨z', hz', c, hc, q4⟩ := q4
    refine hq' Pr S3 H4 y z z' u w' _ t4 ((r2.mono e3.kept).mono e4.kept) r4 hz' fun w2 H5 t5 e5 r5 => ?_
    obtain ⟨k, rfl⟩ := hf' _ _ _ _ hz'
    cases hc
    exact ⟨_, r5.blE, g _ _ _ (e1.trans (e2.trans (e3.trans (e4.trans e5)))) t5 q4⟩
theorem dt_not {a : Expr} {pos : Pos} {wa : WT} (ha : DT X xk a wa) : DT X xk (.UnaryOp .Not a pos) (tNot wa) := by
  refine ⟨(pt_not ha.pt).weak fun sv H Qv ⟨Pr, E, s, S, Q, cu, q, g⟩ => ?_⟩
  exact ⟨Pr, E, s, S, _, cu, q, fun k S1 H1 e1 t1 q1 => g _ _ _ e1 t1 q1⟩
theorem dw_and1 {a : Expr} {pos : Pos} {wa : WT} (ha : DT X xk a wa) : DTw X xk (.BoolOp .And [a] pos) wa := ⟨pw_and1 ha.pt⟩
theorem dw_or1 {a : Expr} {pos : Pos} {wa : WT} (ha : DT X xk a wa) : DTw X xk (.BoolOp .Or [a] pos) wa := ⟨pw_or1 ha.pt⟩
theorem dw_and {a b : Expr} {rest : List Expr} {pos : Pos} {wa wb : WT} (ha : DT X xk a wa) (hb : DTw X xk (.BoolOp .And (b :: rest) pos) wb) : DTw X xk (.BoolOp .And (a :: b :: rest) pos) (tAnd wa wb) := by
  refine ⟨(pw_and ha.pt hb.pw).weak fun sv H Qv ⟨Pr, E, s, S, Q, cu, q, g⟩ => ?_⟩
  refine ⟨Pr, E, s, S, _, cu, q, fun k S1 H1 e1 t1 q1 => ?_⟩
  cases k with
  | true => exact ⟨Pr, E, s, S1, Q, cu.go e1 t1, q1, fun b S' H' ev st q => g b S' H' (e1.trans ev) st q⟩
  | false => exact g _ _ _ e1 t1 q1
theorem dw_or {a b : Expr} {rest : List Expr} {pos : Pos} {wa wb : WT} (ha : DT X xk a wa) (hb : DTw X xk (.BoolOp .Or (b :: rest) pos) wb) : DTw X xk (.BoolOp .Or (a :: b :: rest) pos) (tOr wa wb) := by
  refine ⟨(pw_or ha.pt hb.pw).weak fun sv H Qv ⟨Pr, E, s, S, Q, cu, q, g⟩ => ?_⟩
  refine ⟨Pr, E, s, S, _, cu, q, fun k S1 H1 e1 t1 q1 => ?_⟩
  cases k with
  | false => exact ⟨Pr, E, s, S1, Q, cu.go e1 t1, q1, fun b S' H' ev st q => g b S' H' (e1.trans ev) st q⟩
  | true => exact g _ _ _ e1 t1 q1
theorem dt_w {a : Expr} {w : WT} (h : DTw X xk a w) : DT X xk a w := ⟨h.pw.pt⟩

/-! ### arguments, displays -/
theorem da_nil : DA X xk [] wNil := ⟨pa_nil.weak fun sv H Qv ⟨Pr, E, s, S, Q, cu, q, g⟩ => g [] S [] H .refl cu.sto .nil q⟩
theorem da_cons {e : Expr} {es : List Expr} {we : WE} {wr : WA} (he : DE X xk e we) (hr : DA X xk es wr) (hs : starEach (e :: es) X.env = (false, eval e X.env) :: starEach es X.env := by rfl) : DA X xk (e :: es) (wCons we wr) := by
  refine ⟨(pa_cons he.pe hr.pa hs).weak fun sv H Qv ⟨Pr, E, s, S, Q, cu, q, g⟩ => ?_⟩
  refine ⟨Pr, E, s, S, _, cu, q, fun x S1 v H1 e1 t1 r1 q1 => ⟨Pr, E, s, S1, _, cu.go e1 t1, q1, fun ds S2 vs H2 e2 t2 r2 q2 => ?_⟩⟩
  exact g _ _ _ _ (e1.trans e2) t2 (.cons (r1.mono e2.kept) r2) q2
theorem de_tup {es : List Expr} {wr : WA} {k : Nat} {pos : Pos} (hr : DA X xk es wr) : DE X xk (.Tuple es k pos) (wTup wr) := by
  refine ⟨(pe_tup hr.pa).weak fun sv H Qv ⟨Pr, E, s, S, Q, cu, q, g⟩ => ?_⟩
  refine ⟨Pr, E, s, S, _, cu, q, fun ds S1 vs H1 e1 t1 r1 ⟨hl, q1⟩ => ⟨by rw [← r1.length, sizeLine_eq]; exact hl, fun p hp => ?_⟩⟩
  obtain ⟨t', ev⟩ := t1.new (o := .tup vs) hp
  exact g _ _ _ _ (e1.trans ev) t' (.tup (FT.new t1 hp) (r1.mono ev.kept)) q1
theorem dl_disp {es : List Expr} {wr : WA} {pos : Pos} (hr : DA X xk es wr) : DL X xk (.List es pos) (wlDisp wr) := by
  refine ⟨(pe_lst hr.pa).weak fun sv H Qv ⟨Pr, E, s, S, Q, cu, q, g⟩ => ?_⟩
  refine ⟨Pr, E, s, S, _, cu, q, fun ds S1 vs H1 e1 t1 r1 ⟨hl, q1⟩ => ⟨by rw [← r1.length, sizeLine_eq]; exact hl, fun p hp => ?_⟩⟩
  exact g _ _ _ _ _ _ e1 t1 r1 q1 hp rfl
/-- a new list is a value from here on; or it is tracked -/
theorem de_frz {e : Expr} {w : WL} (h : DL X xk e w) : DE X xk e (frz w) := by
  refine ⟨h.pe.weak fun sv H Qv ⟨Pr, E, s, S, Q, cu, q, g⟩ => ?_⟩
  refine ⟨Pr, E, s, S, _, cu, q, fun ds S1 p vs H0 H1 e1 t1 r1 q1 hp eh => ?_⟩
  subst eh
  obtain ⟨t', ev⟩ := t1.new (o := .lst vs) hp
  exact g _ _ _ _ (e1.trans ev) t' (.lst (FL.new t1 hp) (r1.mono ev.kept)) q1
theorem de_thw {e : Expr} {w : WL} (h : DL X xk e w) : DE X xk e (thw w) := by
  refine ⟨h.pe.weak fun sv H Qv ⟨Pr, E, s, S, Q, cu, q, g⟩ => ?_⟩
  refine ⟨Pr, E, s, S, _, cu, q, fun ds S1 p vs H0 H1 e1 t1 r1 q1 hp eh => ?_⟩
  subst eh
  obtain ⟨t', ev⟩ := t1.track (so := .lst ds) (o := .lst vs) hp (.lst r1)
  exact g _ _ _ _ (e1.trans ev) t' (.ref p) (q1 p (t1.none_of hp))
theorem dl_cat {a b : Expr} {pos : Pos} {wa wb : WE} (ha : DE X xk a wa) (hb : DE X xk b wb) : DL X xk (.BinOp a .Add b pos) (wlCat wa wb) := by
  refine ⟨(pe_op op_cat ha.pe hb.pe).weak fun sv H Qv ⟨Pr, E, s, S, Q, cu, q, g⟩ => ?_⟩
  refine ⟨Pr, E, s, S, _, cu, q, fun x S1 v H1 e1 t1 r1 q1 => ⟨Pr, E, s, S1, _, cu.go e1 t1, q1, fun y S2 u H2 e2 t2 r2 q2 => ?_⟩⟩
  obtain ⟨xs, ys, h1, h2, hl, q2⟩ := q2
  obtain ⟨a, vs, rfl, hs, rs⟩ := t2.lstOf (r1.mono e2.kept) h1
  obtain ⟨b, ws, rfl, hs2, rs2⟩ := t2.lstOf r2 h2
  refine ⟨a, b, vs, ws, rfl, rfl, hs, hs2, by rw [← rs.length, ← rs2.length, sizeLine_eq]; exact hl, fun p hp => ?_⟩
  exact g _ _ _ _ _ _ (e1.trans e2) t2 (rs.append rs2) q2 hp rfl
end
end Dl
set_option Elab.async false
set_option linter.all false
set_option maxRecDepth 100000
/-! Dr3: calls of built-ins, methods, displays of dicts, calls of defs. -/
namespace Dl
open PySem PySem.Spec PyProof.Rows L2
section
variable {X : Cx} {xk : XK}

/-- a built-in of one argument that makes no new object -/
def Call1 (X : Cx) (xk : XK) (fv : Value) (f : F1) : Prop := ∃ r : List V → Hp → VK → Prop, CallR X fv r ∧
  ∀ Pr S H x z v Qv, Sto (kx X) Pr S H → Rep (kx X) (Fr Pr S) H x v → f S x = some z → (∀ w H', Sto (kx X) Pr S H' → Evo S H S H' → Rep (kx X) (Fr Pr S) H' z w → Qv w H') → r [v] H Qv
def Call2 (X : Cx) (xk : XK) (fv : Value) (f : F2) : Prop := ∃ r : List V → Hp → VK → Prop, CallR X fv r ∧
  ∀ Pr S H x y z v u Qv, Sto (kx X) Pr S H → Rep (kx X) (Fr Pr S) H x v → Rep (kx X) (Fr Pr S) H y u → f S x y = some z →
    (∀ w H', Sto (kx X) Pr S H' → Evo S H S H' → Rep (kx X) (Fr Pr S) H' z w → Qv w H') → r [v, u] H Qv
section
variable {x : Str} {p pos : Pos} {a b : Expr} {wa wb : WE} {f : F1} {f2 : F2} {id T : String}
theorem de_callB1 (hc : Call1 X xk (.builtin id) f) (hg : Gl X x) (hm : X.mg x = none) (hv : bootBuiltins x = some (.builtin id)) (ha : DE X xk a wa) (hs : starEach [a] X.env = (false, eval a X.env) :: starEach [] X.env := by rfl) (hn : x ≠ "__name__" := by decide)
    (hdb : (x == ("__debug__" : Str)) = false := by decide) : DE X xk (.Call (.Name x p) [a] [] pos) (w1 f wa) := by
  obtain ⟨r, hr, hq⟩ := hc
  refine ⟨(pe_callB hr hg hm hv (pa_cons ha.pe pa_nil hs) hn hdb hs).weak fun sv H Qv ⟨Pr, E, s, S, Q, cu, q, g⟩ => ?_⟩
  refine ⟨Pr, E, s, S, _, cu, q, fun x S1 v H1 e1 t1 r1 q1 => ?_⟩
  obtain ⟨z, hz, q1⟩ := q1
  exact hq Pr S1 H1 x z v Qv t1 r1 hz fun w H' t3 e3 r3 => g z S1 w H' (e1.trans e3) t3 r3 q1
theorem de_callT1 (hc : Call1 X xk (.type T) f) (hg : Gl X x) (hm : X.mg x = none) (hv : bootBuiltins x = some (.type T)) (ha : DE X xk a wa) (hs : starEach [a] X.env = (false, eval a X.env) :: starEach [] X.env := by rfl) (hn : x ≠ "__name__" := by decide)
    (hdb : (x == ("__debug__" : Str)) = false := by decide) : DE X xk (.Call (.Name x p) [a] [] pos) (w1 f wa) := by
  obtain ⟨r, hr, hq⟩ := hc
  refine ⟨(pe_callTy hr hg hm hv (pa_cons ha.pe pa_nil hs) hn hdb hs).weak fun sv H Qv ⟨Pr, E, s, S, Q, cu, q, g⟩ => ?_⟩
  refine ⟨Pr, E, s, S, _, cu, q, fun x S1 v H1 e1 t1 r1 q1 => ?_⟩
  obtain ⟨z, hz, q1⟩ := q1
  exact hq Pr S1 H1 x z v Qv t1 r1 hz fun w H' t3 e3 r3 => g z S1 w H' (e1.trans e3) t3 r3 q1
theorem de_callB2 (hc : Call2 X xk (.builtin id) f2) (hg : Gl X x) (hm : X.mg x = none) (hv : bootBuiltins x = some (.builtin id)) (ha : DE X xk a wa) (hb : DE X xk b wb) (hs : starEach [a, b] X.env = (false, eval a X.env) :: starEach [b] X.env := by rfl)
    (hs2 : starEach [b] X.env = (false, eval b X.env) :: starEach [] X.env := by rfl) (hn : x ≠ "__name__" := by decide)
    (hdb : (x == ("__debug__" : Str)) = false := by decide) (hpl : (backTo pos (starEach [b] X.env)).any (·.1) = false := by rfl) : DE X xk (.Call (.Name x p) [a, b] [] pos) (w2 f2 wa wb) := by
  obtain ⟨r, hr, hq⟩ := hc
  refine ⟨(pe_callB hr hg hm hv (pa_cons ha.pe (pa_cons hb.pe pa_nil hs2) hs) hn hdb hs hpl).weak fun sv H Qv ⟨Pr, E, s, S, Q, cu, q, g⟩ => ?_⟩
  refine ⟨Pr, E, s, S, _, cu, q, fun x S1 v H1 e1 t1 r1 q1 => ⟨Pr, E, s, S1, _, cu.go e1 t1, q1, fun y S2 u H2 e2 t2 r2 q2 => ?_⟩⟩
  obtain ⟨z, hz, q2⟩ := q2
  exact hq Pr S2 H2 x y z v u Qv t2 (r1.mono e2.kept) r2 hz fun w H' t3 e3 r3 => g z S2 w H' (e1.trans (e2.trans e3)) t3 r3 q2
end

theorem c_len : Call1 X xk (.builtin "len") oLen := by
  refine ⟨_, CallR.or call_len (fun pins s σ H xs us Q I r (h : ∃ a kvs, xs = [.ref a] ∧ H a = some (.dK kvs) ∧ Q (.int (kvs.length : Nat)) H) => ?_), fun Pr S H x z v Qv t r hz q => ?_⟩
  · obtain ⟨a, kvs, rfl, e, q⟩ := h
    obtain ⟨u, rfl, ru⟩ := vals1 r
    cases ru
    exact d_len I (.inl e) fun t s' I' => ⟨.int _, H, I', ⟨_, rfl⟩, q⟩
  · unfold oLen at hz
    split at hz
    · next xs e =>
      cases hz
      obtain ⟨a, vs, rfl, hs, rs⟩ := t.seqOf r e
      have hl := rs.length
      refine .inl ⟨_, xs.length, rfl, ?_, q _ _ t .refl (.int _)⟩
      rcases hs with hs | hs
      · exact .inl ⟨vs, hs, hl⟩
      · exact .inr ⟨vs, hs, hl⟩
    · split at hz
      · next a e0 =>
        split at hz
        · next kvs e =>
          cases hz
          cases r
          obtain ⟨u, e1, ro⟩ := t.sto a _ e
          cases ro with
          | dK qq =>
            have hl : kvs.length = _ := Paired.length qq
            refine .inr ⟨a, _, rfl, e1, ?_⟩
            rw [← hl]
            exact q _ _ t .refl (.int _)
        · cases hz
      · cases hz
theorem c_abs : Call1 X xk (.builtin "abs") oAbs := by
  refine ⟨_, call_abs, fun Pr S H x z v Qv t r hz q => ?_⟩
  unfold oAbs at hz
  split at hz <;> cases hz
  exact ⟨_, by rw [r.intE], q _ _ t .refl (.int _)⟩
theorem c_int : Call1 X xk (.type "int") oInt := by
  refine ⟨_, call_int1, fun Pr S H x z v Qv t r hz q => ?_⟩
  unfold oInt at hz
  split at hz <;> cases hz
  · exact .inl ⟨_, by rw [r.intE], q _ _ t .refl (.int _)⟩
  · exact .inr ⟨_, by rw [r.blE], q _ _ t .refl (.int _)⟩
theorem c_all (hc : X.calm = true) : Call1 X xk (.builtin "all") oAll := by
  refine ⟨_, cr_all hc, fun Pr S H x z v Qv t r hz q => ?_⟩
  unfold oAll at hz
  cases e : lstOf S x with
  | none => rw [e] at hz; cases hz
  | some xs =>
    rw [e, Option.bind_some] at hz
    cases e2 : boolsOf xs with
    | none => rw [e2] at hz; cases hz
    | some bs =>
      rw [e2] at hz; cases hz
      obtain ⟨a, vs, rfl, hs, rs⟩ := t.lstOf r e
      have k := reps_bls rs e2
      subst k
      exact ⟨a, bs, rfl, SqL.of hs, q _ _ t .refl (.bl _)⟩
theorem c_any (hc : X.calm = true) : Call1 X xk (.builtin "any") oAny := by
  refine ⟨_, cr_any hc, fun Pr S H x z v Qv t r hz q => ?_⟩
  unfold oAny at hz
  cases e : lstOf S x with
  | none => rw [e] at hz; cases hz
  | some xs =>
    rw [e, Option.bind_some] at hz
    cases e2 : boolsOf xs with
    | none => rw [e2] at hz; cases hz
    | some bs =>
      rw [e2] at hz; cases hz
      obtain ⟨a, vs, rfl, hs, rs⟩ := t.lstOf r e
      have k := reps_bls rs e2
      subst k
      exact ⟨a, bs, rfl, SqL.of hs, q _ _ t .refl (.bl _)⟩
theorem c_sum (hc : X.calm = true) : Call1 X xk (.builtin "sum") oSum := by
  refine ⟨_, cr_sum hc, fun Pr S H x z v Qv t r hz q => ?_⟩
  unfold oSum at hz
  cases e : lstOf S x with
  | none => rw [e] at hz; cases hz
  | some xs =>
    rw [e, Option.bind_some] at hz
    cases e2 : intsOf xs with
    | none => rw [e2] at hz; cases hz
    | some bs =>
      rw [e2] at hz; cases hz
      obtain ⟨a, vs, rfl, hs, rs⟩ := t.lstOf r e
      have k := reps_ints rs e2
      subst k
      exact ⟨a, bs, rfl, SqL.of hs, q _ _ t .refl (.int _)⟩
theorem c_tuple : Call1 X xk (.type "tuple") oTuple := by
  refine ⟨_, call_tuple_of, fun Pr S H x z v Qv t r hz q => ?_⟩
  unfold oTuple at hz
  cases e : seqOf S x with
  | none => rw [e] at hz; cases hz
  | some xs =>
    rw [e] at hz; cases hz
    cases x with
    | tup ys =>
      cases e
      cases r with
      | tup ht rs => exact ⟨_, _, rfl, .inr ⟨ht.sq, q _ _ t .refl (.tup ht rs)⟩⟩
    | lst ys =>
      cases e
      cases r with
      | lst ht rs =>
        refine ⟨_, _, rfl, .inl ⟨ht.sq, fun l hl => ?_⟩⟩
        obtain ⟨t', ev⟩ := t.new (o := .tup _) hl
        exact q _ _ t' ev (.tup (FT.new t hl) (rs.mono ev.kept))
    | scr ys =>
      cases e
      cases r with
      | scr ht rs =>
        refine ⟨_, _, rfl, .inl ⟨ht.sq, fun l hl => ?_⟩⟩
        obtain ⟨t', ev⟩ := t.new (o := .tup _) hl
        exact q _ _ t' ev (.tup (FT.new t hl) (rs.mono ev.kept))
    | ref b =>
      obtain ⟨a, vs, e1, hs, rs⟩ := t.lstOf (d := .ref b) r e
      refine ⟨a, vs, by rw [e1], .inl ⟨SqL.of hs, fun l hl => ?_⟩⟩
      obtain ⟨t', ev⟩ := t.new (o := .tup _) hl
      exact q _ _ t' ev (.tup (FT.new t hl) (rs.mono ev.kept))
    | _ => cases e
theorem c_min2 (hc : X.calm = true) : Call2 X xk (.builtin "min") oMin2 := by
  refine ⟨_, call_min2 hc, fun Pr S H x y z v u Qv t rx ry hz q => ?_⟩
  unfold oMin2 at hz
  split at hz <;> cases hz
  exact ⟨_, _, by rw [rx.intE, ry.intE], q _ _ t .refl (.int _)⟩
theorem c_max2 (hc : X.calm = true) : Call2 X xk (.builtin "max") oMax2 := by
  refine ⟨_, call_max2 hc, fun Pr S H x y z v u Qv t rx ry hz q => ?_⟩
  unfold oMax2 at hz
  split at hz <;> cases hz
  exact ⟨_, _, by rw [rx.intE, ry.intE], q _ _ t .refl (.int _)⟩

/-! isinstance(x, T) of a built-in T -/
theorem kb_int : ∀ T, T ∈ ["int", "bool", "tuple", "str", "list", "dict"] → kitB "int" T = some (T == "int") := by decide +kernel
theorem kb_bool : ∀ T, T ∈ ["int", "bool", "tuple", "str", "list", "dict"] → kitB "bool" T = some (T == "int" || T == "bool") := by decide +kernel
theorem kb_tuple : ∀ T, T ∈ ["int", "bool", "tuple", "str", "list", "dict"] → kitB "tuple" T = some (T == "tuple") := by decide +kernel
theorem kb_str : ∀ T, T ∈ ["int", "bool", "tuple", "str", "list", "dict"] → kitB "str" T = some (T == "str") := by decide +kernel
theorem kb_list : ∀ T, T ∈ ["int", "bool", "tuple", "str", "list", "dict"] → kitB "list" T = some (T == "list") := by decide +kernel
theorem kb_dict : ∀ T, T ∈ ["int", "bool", "tuple", "str", "list", "dict"] → kitB "dict" T = some (T == "dict") := by decide +kernel
theorem kb_none : ∀ T, T ∈ ["int", "bool", "tuple", "str", "list", "dict"] → kitB "NoneType" T = some false := by decide +kernel
theorem isi_ok {T : String} (hT : T ∈ ["int", "bool", "tuple", "str", "list", "dict"]) {M : Kx} {Pr : Addr → Prop} {S : Store} {H : Hp} {x z : D} {v : V} (t : Sto M Pr S H) (r : Rep M (Fr Pr S) H x v) (h : oIsi T S x = some z) :
    ∃ tv b, TyX M.K H v tv ∧ PySem.W.kitOne M.K tv (.type T) = some b ∧ z = .bl b := by
  unfold oIsi at h
  split at h
  · cases h; cases r; exact ⟨_, _, .base .non, kit_ty (kb_none T hT), rfl⟩
  · cases h; cases r; exact ⟨_, _, .base (.bl _), kit_ty (kb_bool T hT), rfl⟩
  · cases h; cases r; exact ⟨_, _, .base (.int _), kit_ty (kb_int T hT), rfl⟩
  · cases h; cases r; exact ⟨_, _, .base (.str _), kit_ty (kb_str T hT), rfl⟩
  · cases h; cases r with
    | tup ht rs => exact ⟨_, _, .base (.tup ht.1), kit_ty (kb_tuple T hT), rfl⟩
  · cases h; cases r with
    | lst ht rs => exact ⟨_, _, .base (.lst ht.1), kit_ty (kb_list T hT), rfl⟩
  · cases h; cases r with
    | ed h1 rs => exact ⟨_, _, .base (.dK h1), kit_ty (kb_dict T hT), rfl⟩
  · next a =>
    split at h
    · next xs e =>
      cases h
      cases r
      obtain ⟨u, e1, ro⟩ := t.sto a _ e
      cases ro with
      | lst q => exact ⟨_, _, .base (.lst e1), kit_ty (kb_list T hT), rfl⟩
    · cases h
  · cases h
theorem de_isi {T : String} {x : Str} {a : Expr} {wa : WE} {p p2 pos : Pos} (hT : T ∈ ["int", "bool", "tuple", "str", "list", "dict"]) (hg : Gl X "isinstance") (hm : X.mg "isinstance" = none) (hgT : Gl X x) (hmT : X.mg x = none) (hvT : bootBuiltins x = some (.type T)) (ha : DE X xk a wa)
    (hs : starEach [a, .Name x p2] X.env = (false, eval a X.env) :: starEach [.Name x p2] X.env := by rfl) (hpl : (backTo pos (starEach [.Name x p2] X.env)).any (·.1) = false := by rfl) (hn : x ≠ "__name__" := by decide)
    (hdb : (x == ("__debug__" : Str)) = false := by decide) : DE X xk (.Call (.Name "isinstance" p) [a, .Name x p2] [] pos) (w1 (oIsi T) wa) := by
  refine ⟨(pe_callB call_isi hg hm (by decide +kernel) (pa_cons ha.pe (pa_cons (pe_bltn (v := .ty T) hgT hmT hvT rfl hn hdb) pa_nil rfl) hs) (by decide) (by decide) hs hpl).weak fun sv H Qv ⟨Pr, E, s, S, Q, cu, q, g⟩ => ?_⟩
  refine ⟨Pr, E, s, S, _, cu, q, fun x S1 v H1 e1 t1 r1 q1 => ?_⟩
  obtain ⟨z, hz, q1⟩ := q1
  obtain ⟨tv, b, h1, h2, rfl⟩ := isi_ok hT t1 r1 hz
  exact ⟨v, .ty T, tv, .type T, b, rfl, .ty T, h1, h2, g _ _ _ _ e1 t1 (.bl b) q1⟩

/-! list(x), list(range(n)) -/
theorem dl_list {a : Expr} {wa : WE} {p pos : Pos} (hg : Gl X "list") (hm : X.mg "list" = none) (ha : DE X xk a wa) (hs : starEach [a] X.env = (false, eval a X.env) :: starEach [] X.env := by rfl) : DL X xk (.Call (.Name "list" p) [a] [] pos) (wlList wa) := by
  refine ⟨(pe_callTy call_list_of hg hm (by decide +kernel) (pa_cons ha.pe pa_nil hs) (by decide) (by decide) hs).weak fun sv H Qv ⟨Pr, E, s, S, Q, cu, q, g⟩ => ?_⟩
  refine ⟨Pr, E, s, S, _, cu, q, fun x S1 v H1 e1 t1 r1 q1 => ?_⟩
  obtain ⟨xs, h, q1⟩ := q1
  obtain ⟨a, vs, rfl, hs, rs⟩ := t1.seqOf r1 h
  exact ⟨a, vs, rfl, hs, fun l hl => g _ _ _ _ _ _ e1 t1 rs q1 hl rfl⟩
theorem reps_range {M : Kx} {F : Addr → Prop} {H : Hp} (a : Int) : ∀ n : List Nat, Reps M F H (n.map fun (i : Nat) => D.int (a + i)) (n.map fun (i : Nat) => V.int (a + i))
  | [] => .nil
  | _ :: r => .cons (.int _) (reps_range a r)
theorem dl_range {a : Expr} {wa : WE} {p p2 pos pos2 : Pos} (hc : X.calm = true) (hg : Gl X "list") (hm : X.mg "list" = none) (hg2 : Gl X "range") (hm2 : X.mg "range" = none) (ha : DE X xk a wa)
    (hs : starEach [a] X.env = (false, eval a X.env) :: starEach [] X.env := by rfl) : DL X xk (.Call (.Name "list" p) [.Call (.Name "range" p2) [a] [] pos2] [] pos) (wlRange wa) := by
  refine ⟨(pe_listRg hc hg hm (prg_1 hg2 hm2 ha.pe hs) rfl).weak fun sv H Qv ⟨Pr, E, s, S, Q, cu, q, g⟩ => ?_⟩
  refine ⟨Pr, E, s, S, _, cu, q, fun x S1 v H1 e1 t1 r1 q1 => ?_⟩
  obtain ⟨n, rfl, hn0, hn, q1⟩ := q1
  refine ⟨n, r1.intE, ⟨by omega, by omega, by omega, by omega, by omega⟩, fun p hp => ?_⟩
  have e : rgV 0 n = (List.range n.toNat).map fun (i : Nat) => V.int (0 + i) := by unfold rgV; rw [Int.sub_zero]
  rw [e]
  refine g _ _ _ _ _ _ e1 t1 ?_ q1 hp rfl
  have := reps_range (M := kx X) (F := Fr Pr S1) (H := H1) 0 (List.range n.toNat)
  simpa using this

/-! ### methods -/
theorem tyL {K : PySem.W.Frag} {H : Hp} {l : Addr} {xs : List V} (h : H l = some (.lst xs)) : tyV K "list" (.ref l) H := .inl ⟨rfl, _, .inl (.inl h)⟩
theorem Sto.lref {M : Kx} {Pr : Addr → Prop} {S : Store} {H : Hp} (t : Sto M Pr S H) {l : Addr} {xs : List D} (h : S l = some (.lst xs)) : ∃ vs, H l = some (.lst vs) ∧ Reps M (Fr Pr S) H xs vs := by
  obtain ⟨u, e, ro⟩ := t.sto l _ h
  cases ro with
  | lst q => exact ⟨_, e, q⟩
theorem Reps.getLast {M : Kx} {F : Addr → Prop} {H : Hp} {ds : List D} {vs : List V} {d : D} (r : Reps M F H ds vs) (h : ds.getLast? = some d) : ∃ v, vs[vs.length - 1]? = some v ∧ Rep M F H d v := by
  rw [List.getLast?_eq_getElem?, r.length] at h
  exact r.get h
theorem seqIx {n : Nat} {i : Int} (h0 : 0 ≤ i) (h : i.toNat < n) : seqIndex? i n = some i.toNat := by
  have e : ixN n i = some i.toNat := by
    unfold ixN
    rw [if_pos h0, if_pos (by omega)]
  exact (ixN_seq e).1

section
variable {o a b : Expr} {wo wa wb : WE} {apos cpos : Pos}
theorem de_append (ho : DE X xk o wo) (ha : DE X xk a wa)
    (hbase : attributeBase o "append" X.env (eval o X.env) = eval o X.env := by rfl)
    (hfew : ((backTo cpos (starEach (a :: []) X.env)).all (fun x => !x.1) && (backToKw cpos (keywordEach [] X.env)).all (fun x => x.1.isSome)
      && decide ((a :: []).length + ([] : List Keyword).length + (if ([] : List Keyword).isEmpty then 0 else 1) < 30)) = true := by rfl)
    (hline : (apos.endLine == cpos.line) = true := by rfl) (hs : starEach (a :: []) X.env = (false, eval a X.env) :: starEach [] X.env := by rfl) (hplain : (backTo cpos (starEach [] X.env)).any (·.1) = false := by rfl) :
    DE X xk (.Call (.Attribute o "append" apos) [a] [] cpos) (wAppend wo wa) := by
  refine ⟨(pe_bm PySem.F.plainAttrs_list PySem.F.slot_list_append PySem.F.type_list_append mt_append ho.pe (pa_cons ha.pe pa_nil hs) hbase hfew hline hs hplain).weak fun sv H Qv ⟨Pr, E, s, S, Q, cu, q, g⟩ => ?_⟩
  refine ⟨Pr, E, s, S, _, cu, q, fun x S1 v H1 e1 t1 r1 q1 => ?_⟩
  obtain ⟨l, ⟨rfl, xs0, h0⟩, q1⟩ := q1
  cases r1
  obtain ⟨vs0, k0, _⟩ := t1.lref h0
  refine ⟨tyL k0, Pr, E, s, S1, _, cu.go e1 t1, q1, fun y S2 u H2 e2 t2 r2 q2 => ?_⟩
  obtain ⟨xs, h2, hl, q2⟩ := q2
  obtain ⟨vs, k2, rs⟩ := t2.lref h2
  refine ⟨l, vs, u, rfl, rfl, k2, by rw [← rs.length, sizeLine_eq]; exact hl, ?_⟩
  obtain ⟨t3, e3⟩ := t2.write (so := .lst (xs ++ [y])) (o := .lst (vs ++ [u])) h2 (.lst (rs.append (.cons r2 .nil)))
  exact g _ _ _ _ (e1.trans (e2.trans e3)) t3 .non q2
theorem de_pop (ho : DE X xk o wo) (hbase : attributeBase o "pop" X.env (eval o X.env) = eval o X.env := by rfl) (hline : (apos.endLine == cpos.line) = true := by rfl) : DE X xk (.Call (.Attribute o "pop" apos) [] [] cpos) (wPop wo) := by
  refine ⟨(pe_bm0 PySem.F.plainAttrs_list PySem.F.slot_list_pop PySem.F.type_list_pop mt_pop ho.pe hbase hline).weak fun sv H Qv ⟨Pr, E, s, S, Q, cu, q, g⟩ => ?_⟩
  refine ⟨Pr, E, s, S, _, cu, q, fun x S1 v H1 e1 t1 r1 q1 => ?_⟩
  obtain ⟨l, xs, y, rfl, h, hy, q1⟩ := q1
  cases r1
  obtain ⟨vs, k, rs⟩ := t1.lref h
  obtain ⟨w, hw, rw'⟩ := rs.getLast hy
  refine ⟨tyL k, l, vs, w, rfl, rfl, k, hw, ?_⟩
  obtain ⟨t3, e3⟩ := t1.write (so := .lst xs.dropLast) (o := .lst vs.dropLast) h (.lst rs.dropLast)
  exact g _ _ _ _ (e1.trans e3) t3 (rw'.mono e3.kept) q1
theorem de_popAt (ho : DE X xk o wo) (ha : DE X xk a wa)
    (hbase : attributeBase o "pop" X.env (eval o X.env) = eval o X.env := by rfl)
    (hfew : ((backTo cpos (starEach (a :: []) X.env)).all (fun x => !x.1) && (backToKw cpos (keywordEach [] X.env)).all (fun x => x.1.isSome)
      && decide ((a :: []).length + ([] : List Keyword).length + (if ([] : List Keyword).isEmpty then 0 else 1) < 30)) = true := by rfl)
    (hline : (apos.endLine == cpos.line) = true := by rfl) (hs : starEach (a :: []) X.env = (false, eval a X.env) :: starEach [] X.env := by rfl) (hplain : (backTo cpos (starEach [] X.env)).any (·.1) = false := by rfl) :
    DE X xk (.Call (.Attribute o "pop" apos) [a] [] cpos) (wPopAt wo wa) := by
  refine ⟨(pe_bm PySem.F.plainAttrs_list PySem.F.slot_list_pop PySem.F.type_list_pop mt_popAt ho.pe (pa_cons ha.pe pa_nil hs) hbase hfew hline hs hplain).weak fun sv H Qv ⟨Pr, E, s, S, Q, cu, q, g⟩ => ?_⟩
  refine ⟨Pr, E, s, S, _, cu, q, fun x S1 v H1 e1 t1 r1 q1 => ?_⟩
  obtain ⟨l, ⟨rfl, xs0, h0⟩, q1⟩ := q1
  cases r1
  obtain ⟨vs0, k0, _⟩ := t1.lref h0
  refine ⟨tyL k0, Pr, E, s, S1, _, cu.go e1 t1, q1, fun y S2 u H2 e2 t2 r2 q2 => ?_⟩
  obtain ⟨xs, i, z, rfl, h2, hi, hi2, hz, q2⟩ := q2
  obtain ⟨vs, k2, rs⟩ := t2.lref h2
  obtain ⟨w, hw, rw'⟩ := rs.get hz
  have hlt : i.toNat < vs.length := (List.getElem?_eq_some_iff.mp hw).1
  refine ⟨l, vs, i, i.toNat, w, rfl, by rw [r2.intE], k2, by omega, by omega, seqIx hi hlt, hw, ?_⟩
  obtain ⟨t3, e3⟩ := t2.write (so := .lst (xs.eraseIdx i.toNat)) (o := .lst (vs.eraseIdx i.toNat)) h2 (.lst (rs.eraseIdx _))
  exact g _ _ _ _ (e1.trans (e2.trans e3)) t3 (rw'.mono e3.kept) q2
theorem isD_of {M : Kx} {Pr : Addr → Prop} {S : Store} {H : Hp} {l : Addr} (t : Sto M Pr S H) (h : (∃ kvs, S l = some (.dK kvs)) ∨ ∃ kvs, S l = some (.dT kvs)) : IsD H l := by
  rcases h with ⟨kvs, h⟩ | ⟨kvs, h⟩
  · obtain ⟨u, e, ro⟩ := t.sto l _ h
    cases ro with
    | dK q => exact .inl ⟨_, .inl e⟩
  · obtain ⟨u, e, ro⟩ := t.sto l _ h
    cases ro with
    | dT q => exact .inr ⟨_, .inl e⟩
theorem RepM.getD {M : Kx} {F : Addr → Prop} {H : Hp} {d : Option D} {v : Option V} {z : D} {w : V} (h : RepM M F H d v) (r : Rep M F H z w) : Rep M F H (d.getD z) (v.getD w) := by
  cases d <;> cases v <;> first | exact r | exact h | exact h.elim
theorem de_get1 (hu : X.A.units + 1 < cLine) (ho : DE X xk o wo) (ha : DE X xk a wa) (m : M1 X o "get" apos a cpos := by exact ⟨rfl, rfl, rfl, rfl⟩) : DE X xk (.Call (.Attribute o "get" apos) [a] [] cpos) (wGet1 wo wa) := by
  refine ⟨(pe_dget1 hu ho.pe ha.pe m).weak fun sv H Qv ⟨Pr, E, s, S, Q, cu, q, g⟩ => ?_⟩
  refine ⟨Pr, E, s, S, _, cu, q, fun x S1 v H1 e1 t1 r1 q1 => ?_⟩
  obtain ⟨l, ⟨rfl, h0⟩, q1⟩ := q1
  cases r1
  refine ⟨l, rfl, isD_of t1 h0, Pr, E, s, S1, _, cu.go e1 t1, q1, fun y S2 u H2 e2 t2 r2 q2 => ?_⟩
  obtain ⟨kvs, hk, q2⟩ := q2
  obtain ⟨a', o', e', gg, rm⟩ := t2.dget (d := .ref l) (.ref l) r2 hk
  cases e'
  exact ⟨o', gg, g _ _ _ _ (e1.trans e2) t2 (rm.getD .non) q2⟩
theorem de_get2 (hu : X.A.units + 1 < cLine) (ho : DE X xk o wo) (ha : DE X xk a wa) (hb : DE X xk b wb) (m : M2 X o "get" apos a b cpos := by exact ⟨rfl, rfl, rfl, rfl⟩) : DE X xk (.Call (.Attribute o "get" apos) [a, b] [] cpos) (wGet2 wo wa wb) := by
  refine ⟨(pe_dget2 hu ho.pe ha.pe hb.pe m).weak fun sv H Qv ⟨Pr, E, s, S, Q, cu, q, g⟩ => ?_⟩
  refine ⟨Pr, E, s, S, _, cu, q, fun x S1 v H1 e1 t1 r1 q1 => ?_⟩
  obtain ⟨l, ⟨rfl, h0⟩, q1⟩ := q1
  cases r1
  refine ⟨l, rfl, isD_of t1 h0, Pr, E, s, S1, _, cu.go e1 t1, q1, fun y S2 u H2 e2 t2 r2 q2 => ⟨Pr, E, s, S2, _, (cu.go e1 t1).go e2 t2, q2, fun z S3 w H3 e3 t3 r3 q3 => ?_⟩⟩
  obtain ⟨kvs, hk, q3⟩ := q3
  obtain ⟨a', o', e', gg, rm⟩ := t3.dget (d := .ref l) (.ref l) (r2.mono e3.kept) hk
  cases e'
  exact ⟨o', gg, g _ _ _ _ (e1.trans (e2.trans e3)) t3 (rm.getD r3) q3⟩
end

/-! ### dicts, new -/
theorem de_dK {pos : Pos} : DE X xk (.Dict [] [] pos) wDictK := by
  refine ⟨pe_dnewK.weak fun sv H Qv ⟨Pr, E, s, S, Q, cu, q, g⟩ => fun p hp => ?_⟩
  obtain ⟨t, ev⟩ := cu.sto.track (so := .dK []) (o := .dK []) hp (.dK .nil)
  exact g _ _ _ _ ev t (.ref p) (q p (cu.sto.none_of hp))
theorem de_dT {pos : Pos} : DE X xk (.Dict [] [] pos) wDictT := by
  refine ⟨pe_dnewT.weak fun sv H Qv ⟨Pr, E, s, S, Q, cu, q, g⟩ => fun p hp => ?_⟩
  obtain ⟨t, ev⟩ := cu.sto.track (so := .dT []) (o := .dT []) hp (.dT .nil)
  exact g _ _ _ _ ev t (.ref p) (q p (cu.sto.none_of hp))
theorem de_ed {pos : Pos} : DE X xk (.Dict [] [] pos) (wC .ed) := by
  refine ⟨pe_dnewK.weak fun sv H Qv ⟨Pr, E, s, S, Q, cu, q, g⟩ => fun p hp => ?_⟩
  obtain ⟨t, ev⟩ := cu.sto.new (o := .dK []) hp
  exact g _ _ _ _ ev t (.ed upd_same (cu.sto.frNew hp)) q
end
end Dl
set_option Elab.async false
set_option linter.all false
set_option maxRecDepth 100000
/-! Dr4: objects kept aside, displays of dicts, calls of defs, targets, statements. -/
namespace Dl
open PySem PySem.Spec PyProof.Rows L2

/-! ### an object kept aside -/
def gd (Pr : Addr → Prop) (p : Addr) : Addr → Prop := fun a => Pr a ∨ a = p
section
variable {M : Kx} {xk : XK} {Pr : Addr → Prop} {E : XQ} {s : Sg} {S S' : Store} {sv : L2.St} {H H' : Hp} {p : Addr} {o : HO}
theorem kept_gd (h : H p = none) : Kept (Fr Pr S) (Fr (gd Pr p) S) H (upd H p o) := fun a u e f => by
  have n := ne_of_none e h
  exact ⟨by rw [upd_ne n]; exact e, f.1, fun z => z.elim f.2 n⟩
theorem Sto.guard (t : Sto M Pr S H) (h : H p = none) : Sto M (gd Pr p) S (upd H p o) := by
  refine ⟨fun a x e => ?_, fun a z => ?_⟩
  · obtain ⟨u, e1, r⟩ := t.sto a x e
    exact ⟨u, by rw [upd_ne (ne_of_none e1 h)]; exact e1, r.mono (kept_gd h)⟩
  · by_cases q : a = p
    · subst q; exact ⟨t.none_of h, by rw [upd_same]; exact Option.some_ne_none _⟩
    · have z' : Pr a := z.elim id fun w => absurd w q
      have w := t.pr a z'
      rw [upd_ne q]; exact w
theorem evo_new (h : H p = none) : Evo S H S (upd H p o) := ⟨fun a u e _ => by rw [upd_ne (ne_of_none e h)]; exact e, fun _ h => .inl h⟩
theorem kept_ungd : Kept (Fr (gd Pr p) S) (Fr Pr S) H H := fun a u e f => ⟨e, f.1, fun z => f.2 (.inl z)⟩
theorem Sto.unguard (t : Sto M (gd Pr p) S H) : Sto M Pr S H :=
  ⟨fun a x e => let ⟨u, e1, r⟩ := t.sto a x e; ⟨u, e1, r.mono kept_ungd⟩, fun a z => t.pr a (.inl z)⟩
theorem Cur.guard (c : Cur M xk Pr E s S sv H) (h : H p = none) : Cur M xk (gd Pr p) E s S sv (upd H p o) :=
  ⟨c.env.mono (kept_gd h), c.sto.guard h, fun x S' cl od H' e t r q => c.ex x S' cl od H' ((evo_new h).trans e) t.unguard r q⟩
/-- .. is tracked from here on -/
theorem Sto.retrack {so : SO} {u : HO} (t : Sto M (gd Pr p) S H) (np : ¬ Pr p) (r : RepO M (Fr (gd Pr p) S) H so u) : Sto M Pr (set S p so) (upd H p u) := by
  have hp := t.pr p (.inr rfl)
  have k : Kept (Fr (gd Pr p) S) (Fr Pr (set S p so)) H (upd H p u) := fun a w e f => by
    have n : a ≠ p := fun z => f.2 (.inr z)
    exact ⟨by rw [upd_ne n]; exact e, by show set S p so a = none; rw [set_ne n]; exact f.1, fun z => f.2 (.inl z)⟩
  refine ⟨fun a x e => ?_, fun a z => ?_⟩
  · by_cases q : a = p
    · subst q
      rw [set_same] at e; cases e
      exact ⟨u, upd_same, r.mono k⟩
    · rw [set_ne q] at e
      obtain ⟨w, e1, r⟩ := t.sto a x e
      exact ⟨w, by rw [upd_ne q]; exact e1, r.mono k⟩
  · have n : a ≠ p := fun q => np (q ▸ z)
    rw [set_ne n, upd_ne n]
    exact t.pr a (.inl z)
theorem Evo.retrack {so : SO} {u : HO} (h : H p = none) (e : Evo S (upd H p o) S' H') : Evo S H (set S' p so) (upd H' p u) := by
  have ev := (evo_new (S := S) (o := o) h).trans e
  refine ⟨fun a w q n => ?_, fun a q => ?_⟩
  · rw [upd_ne (ne_of_none q h)]; exact ev.kp a w q n
  · by_cases z : a = p
    · subst z; exact .inr h
    · rw [set_ne z] at q; exact ev.new a q
end

section
variable {X : Cx} {xk : XK}
/-! ### {k: v, ..} -/
inductive DPs (X : Cx) (xk : XK) (pos : Pos) : List (Option Expr) → List Expr → List (WE × WE) → Prop
  | nil : DPs X xk pos [] [] []
  | cons {k v : Expr} {ks : List (Option Expr)} {vs : List Expr} {wk wv : WE} {r : List (WE × WE)} : DE X xk k wk → DE X xk v wv → DPs X xk pos ks vs r → DPs X xk pos (some k :: ks) (v :: vs) ((wk, wv) :: r)
theorem dps_pps {pos : Pos} : ∀ {ks vs r}, DPs X xk pos ks vs r → PPs X pos ks vs (r.map fun p => (lE (kx X) xk p.1, lE (kx X) xk p.2))
  | _, _, _, .nil => pps_nil
  | _, _, _, .cons hk hv h => pps_cons hk.pe hv.pe (dps_pps h)
inductive RepPs (M : Kx) (F : Addr → Prop) (H : Hp) : List (D × D) → List (V × V) → Prop
  | nil : RepPs M F H [] []
  | cons {a b v u r q} : Rep M F H a v → Rep M F H b u → RepPs M F H r q → RepPs M F H ((a, b) :: r) ((v, u) :: q)
theorem RepPs.mono {M : Kx} {F F' : Addr → Prop} {H H' : Hp} (k : Kept F F' H H') : ∀ {a b}, RepPs M F H a b → RepPs M F' H' a b
  | _, _, .nil => .nil
  | _, _, .cons r q t => .cons (r.mono k) (q.mono k) (RepPs.mono k t)
theorem tPairs_ok {M : Kx} {Pr : Addr → Prop} {E : XQ} {s : Sg} {sv : L2.St} : ∀ (r : List (WE × WE)) {S : Store} {H : Hp} {Q : List (D × D) → Store → Prop} {Qv : List (V × V) → Hp → Prop}, Cur M xk Pr E s S sv H → wPairs r E s S Q →
    (∀ ps S' qs H', Evo S H S' H' → Sto M Pr S' H' → RepPs M (Fr Pr S') H' ps qs → Q ps S' → Qv qs H') → tPairs (r.map fun p => (lE M xk p.1, lE M xk p.2)) sv H Qv
  | [], S, H, Q, Qv, cu, q, g => g [] S [] H .refl cu.sto .nil q
  | (k, v) :: r, S, H, Q, Qv, cu, q, g => ⟨Pr, E, s, S, _, cu, q, fun x S1 xv H1 e1 t1 r1 q1 => ⟨Pr, E, s, S1, _, cu.go e1 t1, q1, fun y S2 yv H2 e2 t2 r2 q2 =>
      tPairs_ok r ((cu.go e1 t1).go e2 t2) q2 fun ps S3 qs H3 e3 t3 r3 q3 => g _ _ _ _ (e1.trans (e2.trans e3)) t3 (.cons ((r1.mono e2.kept).mono e3.kept) (r2.mono e3.kept) r3) q3⟩⟩
theorem keys_split {M : Kx} {F : Addr → Prop} {H : Hp} : ∀ {ps : List (D × D)} {qs : List (V × V)}, RepPs M F H ps qs → ps.all (fun p => isKey p.1) = true →
    ∃ kvs : List (Key × V), qs = kvs.map (fun kv => (kV kv.1, kv.2)) ∧ Paired (fun (p : D × D) (q : Key × V) => keyD p.1 = some q.1 ∧ Rep M F H p.2 q.2) ps kvs
  | _, _, .nil, _ => ⟨[], rfl, .nil⟩
  | _, _, .cons r q t, h => by
    simp only [List.all_cons, Bool.and_eq_true] at h
    obtain ⟨k, e⟩ := key_of_isKey h.1
    obtain ⟨kvs, e1, pp⟩ := keys_split t h.2
    exact ⟨(k, _) :: kvs, by rw [e1, rep_key r e]; rfl, .cons ⟨e, q⟩ pp⟩
theorem dput_rel {M : Kx} {F : Addr → Prop} {H : Hp} {κ : Type} [DecidableEq κ] {key : D → Option κ} (hk : ∀ {a b : D} {k j : κ}, key a = some k → key b = some j → D.eqv a b = decide (k = j)) {d : D} {k : κ} (h : key d = some k) {z : D} {w : V} (rz : Rep M F H z w)
    {kvs : List (D × D)} {hkv : List (κ × V)} (pp : Paired (fun (p : D × D) (q : κ × V) => key p.1 = some q.1 ∧ Rep M F H p.2 q.2) kvs hkv) : Paired (fun (p : D × D) (q : κ × V) => key p.1 = some q.1 ∧ Rep M F H p.2 q.2) (dput kvs d z) (putK hkv k w) := by
  have any_eq : (kvs.any fun p => D.eqv p.1 d) = hkv.any fun q => decide (q.1 = k) := by
    induction pp with
    | nil => rfl
    | cons a t ih => rw [List.any_cons, List.any_cons, ih, hk a.1 h]
  unfold dput putK
  rw [any_eq]
  split
  · next h0 =>
    clear any_eq h0
    induction pp with
    | nil => exact .nil
    | @cons p q _ _ a t ih =>
      rw [List.map_cons, List.map_cons]
      refine .cons ?_ ih
      rw [hk a.1 h]
      by_cases z : q.1 = k
      · rw [if_pos (decide_eq_true z), if_pos z]
        exact ⟨a.1, rz⟩
      · rw [if_neg (by simpa using z), if_neg z]
        exact a
  · have app : ∀ {l m l' m'}, Paired (fun (p : D × D) (q : κ × V) => key p.1 = some q.1 ∧ Rep M F H p.2 q.2) l m → Paired (fun (p : D × D) (q : κ × V) => key p.1 = some q.1 ∧ Rep M F H p.2 q.2) l' m' → Paired (fun (p : D × D) (q : κ × V) => key p.1 = some q.1 ∧ Rep M F H p.2 q.2) (l ++ l') (m ++ m') := by
      intro l m l' m' x y
      induction x with
      | nil => exact y
      | cons a t ih => exact .cons a ih
    exact app pp (.cons ⟨h, rz⟩ .nil)
theorem dputs_rel {M : Kx} {F : Addr → Prop} {H : Hp} {more : List (D × D)} {mk : List (Key × V)} (pp : Paired (fun (p : D × D) (q : Key × V) => keyD p.1 = some q.1 ∧ Rep M F H p.2 q.2) more mk) :
    ∀ {acc : List (D × D)} {ak : List (Key × V)}, Paired (fun (p : D × D) (q : Key × V) => keyD p.1 = some q.1 ∧ Rep M F H p.2 q.2) acc ak →
      Paired (fun (p : D × D) (q : Key × V) => keyD p.1 = some q.1 ∧ Rep M F H p.2 q.2) (more.foldl (fun acc p => dput acc p.1 p.2) acc) (mk.foldl (fun acc kv => putK acc kv.1 kv.2) ak) := by
  induction pp with
  | nil => intro acc ak h; exact h
  | cons a t ih => intro acc ak h; exact ih (dput_rel key_eqv a.1 a.2 h)
theorem de_dict {pos : Pos} {keys : List (Option Expr)} {values : List Expr} {r : List (WE × WE)} (h : DPs X xk pos keys values r) (hall : keys.all (·.isSome) = true := by rfl) (hl : keys.length = values.length := by rfl) (h0 : keys ≠ [] := by simp)
    (h15 : keys.length ≤ 15 := by decide) : DE X xk (.Dict keys values pos) (wDictD r) := by
  refine ⟨(pe_disp (dps_pps h) hall hl h0 h15).weak fun sv H Qv ⟨Pr, E, s, S, Q, cu, q, g⟩ => fun p hp => ?_⟩
  refine tPairs_ok r (cu.guard hp) q fun ps S' qs H' ev st rp q' => ?_
  obtain ⟨h1, h2, q'⟩ := q'
  have hpn := (st.pr p (.inr rfl)).1
  refine ⟨ev.kp p _ upd_same (cu.sto.none_of hp), ?_⟩
  obtain ⟨kvs, e, pp⟩ := keys_split rp h2
  have hlen : kvs.length ≤ 15 := by
    have : ps.length = kvs.length := Paired.length pp
    omega
  refine ⟨kvs, e, hlen, ?_⟩
  have st2 := st.retrack (so := .dK (dputs ps)) (u := .dK (mergeK [] kvs)) (cu.sto.npr hp) (.dK (dputs_rel pp .nil))
  exact g _ _ _ _ (Evo.retrack hp ev) st2 (.ref p) (q' p hpn)

/-! ### calls of defs -/
/-- the promise of a def, lifted -/
def lSp (M : Kx) (sp : DSp) : Sp := fun vs H Qv Ev => ∃ (Pr : Addr → Prop) (ds : List D) (S : Store) (Q : Q1) (E : XQ), Sto M Pr S H ∧ Reps M (Fr Pr S) H ds vs ∧ sp ds S Q E ∧ GotE M Pr S H Q Qv ∧ EXK M Ev E Pr S H
/-- the def x stands, and keeps its promise -/
structure FK (P : Program) (w : World) (K : PySem.W.Frag) (mg : Str → Option Value) (base : Heap) (CX : CXT) (k : Nat) (x : Str) (n : Nat) (sp : DSp) : Prop where
  ex : ∃ (f : Addr) (fd : FuncData) (ps : List Str), mg x = some (.ref f) ∧ PySem.W.keepIn K (.ref f) = true ∧ ps.length = n ∧ Binds K fd ps [] ∧ FnOk P w K mg base CX k f fd ps (lSp ⟨K, mg⟩ sp)
theorem FK.mono {P : Program} {w : World} {K : PySem.W.Frag} {mg : Str → Option Value} {base : Heap} {CX : CXT} {j k : Nat} {x : Str} {n : Nat} {sp : DSp} (F : FK P w K mg base CX j x n sp) (h : j ≤ k) : FK P w K mg base CX k x n sp :=
  let ⟨f, fd, ps, h1, h2, h3, h4, h5⟩ := F.ex; ⟨f, fd, ps, h1, h2, h3, h4, h5.mono h⟩
theorem de_call {CX : CXT} {k n : Nat} {x : Str} {p pos : Pos} {e : Expr} {es : List Expr} {sp : DSp} {wr : WA} (F : FK X.prog X.w X.K X.mg X.base CX k x n sp) (hr : Room k X.A) (hx : Passes CX X xk) (ha : DA X xk (e :: es) wr) (hg : Gl X x)
    (hd : (x == ("__debug__" : Str)) = false := by decide) (hs : starEach (e :: es) X.env = (false, eval e X.env) :: starEach es X.env := by rfl) (hpl : (backTo pos (starEach es X.env)).any (·.1) = false := by rfl) : DE X xk (.Call (.Name x p) (e :: es) [] pos) (wCall sp wr) := by
  obtain ⟨f, fd, ps, h1, h2, h3, h4, h5⟩ := F.ex
  refine ⟨(pe_call h5 hr hg h1 h2 h4 .nil hx ha.pa hd hs hpl).weak fun sv H Qv ⟨Pr, E, s, S, Q, cu, q, g⟩ => ?_⟩
  refine ⟨Pr, E, s, S, _, cu, q, fun ds S1 vs H1 e1 t1 r1 q1 => ?_⟩
  show lSp _ sp (vs ++ []) H1 Qv xk
  rw [List.append_nil]
  exact ⟨Pr, ds, S1, Q, E, t1, r1, q1, fun d S' v H' ev st r q => g d S' v H' (e1.trans ev) st r q, cu.ex.mono e1⟩
theorem de_call0 {CX : CXT} {k n : Nat} {x : Str} {p pos : Pos} {sp : DSp} (F : FK X.prog X.w X.K X.mg X.base CX k x n sp) (hr : Room k X.A) (hx : Passes CX X xk) (hg : Gl X x)
    (hd : (x == ("__debug__" : Str)) = false := by decide) : DE X xk (.Call (.Name x p) [] [] pos) (wCall sp wNil) := by
  obtain ⟨f, fd, ps, h1, h2, h3, h4, h5⟩ := F.ex
  refine ⟨(pe_call0 h5 hr hg h1 h2 h4 .nil hx hd).weak fun sv H Qv ⟨Pr, E, s, S, Q, cu, q, g⟩ => ?_⟩
  exact ⟨Pr, [], S, Q, E, cu.sto, .nil, q, fun d S' v H' ev st r q => g d S' v H' ev st r q, cu.ex⟩
/-! by name -/
structure DK (X : Cx) (xk : XK) (kws : List Keyword) (w : WA) : Prop where
  pk : PK X kws (lA (kx X) xk w)
theorem dk_nil : DK X xk [] wNil := ⟨⟨fun pos pins s σ H Q I h => by
  obtain ⟨Pr, E, sg, S, Qd, cu, q, g⟩ := h
  exact pk_nil.run pos pins s σ H Q I (g [] S [] H .refl cu.sto .nil q)⟩⟩
theorem PK.weak {kws : List Keyword} {t t' : TA} (h : PK X kws t) (w : ∀ s H Q, t' s H Q → t s H Q) : PK X kws t' := ⟨fun p pins s σ H Q I hw => h.run p pins s σ H Q I (w _ _ _ hw)⟩
theorem dk_cons {nm : Option Str} {e : Expr} {kpos : Pos} {kws : List Keyword} {we : WE} {wr : WA} (he : DE X xk e we) (hr : DK X xk kws wr) : DK X xk (⟨nm, e, kpos⟩ :: kws) (wCons we wr) := by
  refine ⟨PK.weak (pk_cons he.pe hr.pk) fun sv H Qv ⟨Pr, E, s, S, Q, cu, q, g⟩ => ?_⟩
  refine ⟨Pr, E, s, S, _, cu, q, fun x S1 v H1 e1 t1 r1 q1 => ⟨Pr, E, s, S1, _, cu.go e1 t1, q1, fun ds S2 vs H2 e2 t2 r2 q2 => ?_⟩⟩
  exact g _ _ _ _ (e1.trans e2) t2 (.cons (r1.mono e2.kept) r2) q2
/-- n values at their places, j by name -/
def pmk {α : Type} (n j : Nat) (ix : List Nat) (us ws : List α) : List α := if us.length = n ∧ ws.length = j then pm ix (us ++ ws) else []
/-- the def x stands, keeps its promise, and binds arguments by the names ks so -/
structure FKk (P : Program) (w : World) (K : PySem.W.Frag) (mg : Str → Option Value) (base : Heap) (CX : CXT) (k : Nat) (x : Str) (n j : Nat) (ks : List Str) (ix : List Nat) (sp : DSp) : Prop where
  ex : ∃ (f : Addr) (fd : FuncData) (ps : List Str), mg x = some (.ref f) ∧ PySem.W.keepIn K (.ref f) = true ∧ KBinds K fd ps ks (pmk n j ix) (pmk n j ix) ∧ FnOk P w K mg base CX k f fd ps (lSp ⟨K, mg⟩ sp)
theorem reps_pm {M : Kx} {F : Addr → Prop} {H : Hp} {ds : List D} {vs : List V} (r : Reps M F H ds vs) : ∀ ix : List Nat, Reps M F H (pm ix ds) (pm ix vs)
  | [] => .nil
  | i :: ix => by
    unfold pm
    rw [List.filterMap_cons, List.filterMap_cons]
    cases e : ds[i]? with
    | none =>
      have : vs[i]? = none := by rw [List.getElem?_eq_none_iff] at e ⊢; rw [← r.length]; exact e
      rw [this]
      exact reps_pm r ix
    | some d =>
      obtain ⟨v, e2, rv⟩ := r.get e
      rw [e2]
      exact .cons rv (reps_pm r ix)
theorem vals_pm {vs : List V} {us : List Value} (r : Vals vs us) : ∀ ix : List Nat, Vals (pm ix vs) (pm ix us)
  | [] => .nil
  | i :: ix => by
    unfold pm
    rw [List.filterMap_cons, List.filterMap_cons]
    cases e : vs[i]? with
    | none =>
      rw [r.none_of e]
      exact vals_pm r ix
    | some d =>
      obtain ⟨v, e2, rv⟩ := r.get e
      rw [e2]
      exact .cons rv (vals_pm r ix)
theorem de_callK {CX : CXT} {k n j : Nat} {x : Str} {ks : List Str} {ix : List Nat} {p pos : Pos} {e : Expr} {es : List Expr} {kws : List Keyword} {sp : DSp} {wr wk : WA} (F : FKk X.prog X.w X.K X.mg X.base CX k x n j ks ix sp) (hr : Room k X.A) (hx : Passes CX X xk) (ha : DA X xk (e :: es) wr) (hkw : DK X xk kws wk) (hg : Gl X x)
    (hall : (backToKw pos (keywordEach kws X.env)).all (·.1.isSome) = true := by rfl) (hks : (backToKw pos (keywordEach kws X.env)).filterMap (·.1) = ks := by rfl)
    (hdb : (x == ("__debug__" : Str)) = false := by decide) (he : starEach (e :: es) X.env = (false, eval e X.env) :: starEach es X.env := by rfl)
    (hpl : ((backTo pos (starEach (e :: es) X.env)).any (·.1) || (backToKw pos (keywordEach kws X.env)).any (·.1.isNone)) = false := by rfl) :
    DE X xk (.Call (.Name x p) (e :: es) kws pos) (wCallK sp n j ix wr wk) := by
  obtain ⟨f, fd, ps, h1, h2, h4, h5⟩ := F.ex
  refine ⟨(pe_callK h5 hr hg h1 h2 h4 hx ha.pa hkw.pk hall hks hdb he hpl).weak fun sv H Qv ⟨Pr, E, s, S, Q, cu, q, g⟩ => ?_⟩
  refine ⟨Pr, E, s, S, _, cu, q, fun ds S1 vs H1 e1 t1 r1 q1 => ⟨Pr, E, s, S1, _, cu.go e1 t1, q1, fun es S2 zs H2 e2 t2 r2 q2 => ?_⟩⟩
  obtain ⟨l1, l2, q3⟩ := q2
  have ep : pmk n j ix vs zs = pm ix (vs ++ zs) := if_pos ⟨by rw [← r1.length]; exact l1, by rw [← r2.length]; exact l2⟩
  exact ⟨Pr, pm ix (ds ++ es), S2, Q, E, t2, by rw [ep]; exact reps_pm ((r1.mono e2.kept).append r2) ix, q3, fun d S' v H' ev st r q => g d S' v H' (e1.trans (e2.trans ev)) st r q, cu.ex.mono (e1.trans e2)⟩
theorem de_callK0 {CX : CXT} {k j : Nat} {x : Str} {ks : List Str} {ix : List Nat} {p pos : Pos} {kws : List Keyword} {sp : DSp} {wk : WA} (F : FKk X.prog X.w X.K X.mg X.base CX k x 0 j ks ix sp) (hr : Room k X.A) (hx : Passes CX X xk) (hkw : DK X xk kws wk) (hg : Gl X x)
    (hall : (backToKw pos (keywordEach kws X.env)).all (·.1.isSome) = true := by rfl) (hks : (backToKw pos (keywordEach kws X.env)).filterMap (·.1) = ks := by rfl)
    (hdb : (x == ("__debug__" : Str)) = false := by decide)
    (hpl : ((backTo pos (starEach [] X.env)).any (·.1) || (backToKw pos (keywordEach kws X.env)).any (·.1.isNone)) = false := by rfl) :
    DE X xk (.Call (.Name x p) [] kws pos) (wCallK sp 0 j ix wNil wk) := by
  obtain ⟨f, fd, ps, h1, h2, h4, h5⟩ := F.ex
  have pk : PE X (.Call (.Name x p) [] kws pos) (fun σ H Q => lA (kx X) xk wk σ H fun zs H2 => lSp (kx X) sp (pmk 0 j ix [] zs) H2 Q xk) := by
    refine ⟨fun pins s σ H Q I h => ?_⟩
    refine wpAny_Call_Name_kw (ld_glob I hg h1 ?_ hdb)
    refine PySem.W.callWith_KW0 (h₀ := X.base) I.ok.mod.kin h2 hall ?_ hpl
    refine thn (hkw.pk.run pos pins s σ H _ I h) fun ws s2 ⟨zs, H2, I2, rz, q2⟩ => ⟨I2.kIn, ?_⟩
    rw [hks]
    exact run_fnk (us := []) (vs := []) h5 hr h4 hx I2 .nil rz q2
  refine ⟨pk.weak fun sv H Qv ⟨Pr, E, s, S, Q, cu, q, g⟩ => ?_⟩
  refine ⟨Pr, E, s, S, _, cu, q, fun es S2 zs H2 e2 t2 r2 q2 => ?_⟩
  obtain ⟨l1, l2, q3⟩ := q2
  have ep : pmk 0 j ix [] zs = pm ix ([] ++ zs) := if_pos ⟨rfl, by rw [← r2.length]; exact l2⟩
  exact ⟨Pr, pm ix ([] ++ es), S2, Q, E, t2, by rw [ep]; exact reps_pm r2 ix, q3, fun d S' v H' ev st r q => g d S' v H' (e2.trans ev) st r q, cu.ex.mono e2⟩
end
end Dl
set_option Elab.async false
set_option linter.all false
set_option maxRecDepth 100000
/-! Dr5: targets, statements, what is walked, loops. -/
namespace Dl
open PySem PySem.Spec PyProof.Rows L2

/-! ### targets -/
def SameOut (is : List Nat) (sv sv' : L2.St) : Prop := sv'.length = sv.length ∧ ∀ j : Nat, j ∉ is → sv'[j]? = sv[j]?
def lG (M : Kx) (xk : XK) (g : WG) (is : List Nat) : TG := fun v sv H Qv => ∃ (Pr : Addr → Prop) (E : XQ) (s : Sg) (S : Store) (d : D) (Q : Sg → Store → Prop), Cur M xk Pr E s S sv H ∧ Rep M (Fr Pr S) H d v ∧ g d E s S Q ∧
  ∀ s' S' sv' H', Evo S H S' H' → Cur M xk Pr E s' S' sv' H' → SameOut is sv sv' → Q s' S' → Qv sv' H'
structure DG (X : Cx) (xk : XK) (tg : Expr) (g : WG) (is : List Nat) : Prop where
  pg : PG X tg (lG (kx X) xk g is)
theorem _root_.L2.PG.weak {X : Cx} {e : Expr} {t t' : TG} (h : PG X e t) (w : ∀ v s H Q, t' v s H Q → t v s H Q) : PG X e t' := ⟨fun pins s σ H v u Q I r hw => h.run pins s σ H v u Q I r (w _ _ _ _ hw)⟩
section
variable {X : Cx} {xk : XK}
theorem dg_name {i : Nat} {x : Str} {pos : Pos} (hN : X.N.Nodup) (hi : X.N[i]? = some x) (hx : Loc X.env.scope x) (hf : X.fn x = true ∨ X.env.scope.names.lookup x = some .local := by first | exact .inl rfl | exact .inr rfl | assumption) : DG X xk (.Name x pos) (gName i) [i] := by
  refine ⟨(pg_name hN hi hx hf).weak fun v sv H Qv ⟨Pr, E, s, S, d, Q, cu, r, q, g⟩ => ?_⟩
  exact g _ _ _ _ .refl (cu.setS r) ⟨by simp, fun j hj => List.getElem?_set_ne (fun e => hj (by simp [e]))⟩ q
def setsV : List Nat → List V → L2.St → L2.St
  | i :: is, v :: vs, s => setsV is vs (s.set i (some v))
  | _, _, s => s
def gsN : List Nat → TGs
  | [] => gNil
  | i :: is => gCons (L2.gName i) (gsN is)
inductive DGs (X : Cx) : List Expr → List Nat → Prop
  | nil : DGs X [] []
  | cons {i : Nat} {x : Str} {pos : Pos} {es : List Expr} {is : List Nat} (hN : X.N.Nodup) (hi : X.N[i]? = some x) (hx : Loc X.env.scope x) (hf : X.fn x = true ∨ X.env.scope.names.lookup x = some .local) : DGs X es is → DGs X (.Name x pos :: es) (i :: is)
theorem dgs_pgs : ∀ {es is}, DGs X es is → PGs X es (gsN is)
  | _, _, .nil => pgs_nil
  | _, _, .cons hN hi hx hf h => pgs_cons (pg_name hN hi hx hf) (dgs_pgs h)
theorem dgs_len : ∀ {es is}, DGs X es is → is.length = es.length
  | _, _, .nil => rfl
  | _, _, .cons _ _ _ _ h => by simp [dgs_len h]
theorem gsN_ok : ∀ {is : List Nat} {vs : List V} {sv : L2.St} {H : Hp} {Q : L2.St → Hp → Prop}, vs.length = is.length → Q (setsV is vs sv) H → gsN is vs sv H Q
  | [], [], _, _, _, _, q => ⟨rfl, q⟩
  | i :: is, v :: vs, sv, H, Q, hl, q => ⟨v, vs, rfl, gsN_ok (by simpa using hl) q⟩
theorem envR_sets {M : Kx} {F : Addr → Prop} {H : Hp} : ∀ {is : List Nat} {ds : List D} {vs : List V} {s : Sg} {sv : L2.St}, Reps M F H ds vs → EnvR M F H s sv → EnvR M F H (gNames is ds s) (setsV is vs sv)
  | [], _, _, _, _, _, e => by
    unfold gNames setsV; exact e
  | i :: is, [], _, _, _, .nil, e => by
    unfold gNames setsV; exact e
  | i :: is, d :: ds, _, _, _, .cons r t, e => by
    unfold gNames setsV
    exact envR_sets t (e.set r)
theorem setsV_out : ∀ (is : List Nat) (vs : List V) (sv : L2.St), SameOut is sv (setsV is vs sv)
  | [], _, sv => by unfold setsV; exact ⟨rfl, fun _ _ => rfl⟩
  | i :: is, [], sv => by unfold setsV; exact ⟨rfl, fun _ _ => rfl⟩
  | i :: is, v :: vs, sv => by
    unfold setsV
    obtain ⟨h1, h2⟩ := setsV_out is vs (sv.set i (some v))
    refine ⟨by rw [h1]; simp, fun j hj => ?_⟩
    simp only [List.mem_cons, not_or] at hj
    rw [h2 j hj.2, List.getElem?_set_ne (Ne.symm hj.1)]
theorem dg_tup {es : List Expr} {is : List Nat} {k : Nat} {pos : Pos} (hc : X.calm = true) (h : DGs X es is) (n : Nat) (hn : es.length = n := by rfl)
    (pg : ∀ {t : TGs}, PGs X es t → PG X (.Tuple es k pos) (L2.gTup X.K n t)) : DG X xk (.Tuple es k pos) (gTup is) is := by
  refine ⟨(pg (dgs_pgs h)).weak fun v sv H Qv ⟨Pr, E, s, S, d, Q, cu, r, q, g⟩ => ?_⟩
  obtain ⟨xs, rfl, hl, q⟩ := q
  cases r with
  | tup ht rs =>
    have hl2 : is.length = n := by
      rw [← hn]
      exact dgs_len h
    refine ⟨_, _, rfl, ht.sq, by rw [← rs.length, hl, hl2], gsN_ok (by rw [← rs.length, hl]) ?_⟩
    exact g _ _ _ _ .refl ⟨envR_sets rs cu.env, cu.sto, cu.ex⟩ (setsV_out _ _ _) q
def rPutB (o i v : V) (H : Hp) (Q : Hp → Prop) : Prop := rSetL o i v H Q ∨ ∃ a H', o = .ref a ∧ DPut H a i v H' ∧ Q H'
theorem set_any (hu : X.A.units + 1 < cLine) : PSet X rPutB := by
  intro pins s σ H o i v ov iv u Q I ro ri rv h
  rcases h with h | ⟨a, H', rfl, g, q⟩
  · exact set_list pins s σ H o i v ov iv u Q I ro ri rv h
  · cases ro
    exact d_setItem hu I g ri rv fun s' I' => ⟨H', I', q⟩
theorem dg_ix {o i : Expr} {wo wi : WE} {pos : Pos} (hu : X.A.units + 1 < cLine) (ho : DE X xk o wo) (hi : DE X xk i wi)
    (ha : ∀ v, assign (.Subscript o i pos) X.env v = (do
      let ov ← holding [v] (eval o X.env)
      let iv ← holding [v, ov] (eval i X.env)
      standAt pos
      holding [v, ov, iv] (setItem ov iv v)
      release [v, ov, iv] []) := by intro _; rfl) : DG X xk (.Subscript o i pos) (gIx wo wi) [] := by
  refine ⟨(pg_sub ho.pe hi.pe (set_any hu) ha).weak fun v sv H Qv ⟨Pr, E, s, S, d, Q, cu, r, q, g⟩ => ?_⟩
  refine ⟨Pr, E, s, S, _, cu, q, fun x S1 xv H1 e1 t1 r1 q1 => ⟨Pr, E, s, S1, _, cu.go e1 t1, q1, fun y S2 yv H2 e2 t2 r2 q2 => ?_⟩⟩
  have rd := (r.mono e1.kept).mono e2.kept
  obtain ⟨a, rfl, q2⟩ := q2
  cases r1
  have fin : ∀ {so : SO} {u : HO}, S2 a ≠ none → (∃ old, S2 a = some old) → RepO (kx X) (Fr Pr S2) H2 so u → Q s (Dl.set S2 a so) → Qv sv (upd H2 a u) := fun {so u} _ ⟨old, eo⟩ ro q => by
    obtain ⟨t3, e3⟩ := t2.write eo ro
    exact g _ _ _ _ (e1.trans (e2.trans e3)) (((cu.go e1 t1).go e2 t2).go e3 t3) ⟨rfl, fun _ _ => rfl⟩ q
  split at q2
  · next xs e =>
    obtain ⟨j, rfl, hj, q2⟩ := q2
    obtain ⟨vs, e1', rs⟩ := t2.lref e
    refine .inl ⟨a, vs, j, j, rfl, r2.intE, e1', ?_, fin (by rw [e]; exact Option.some_ne_none _) ⟨_, e⟩ (.lst (rs.set rd j)) q2⟩
    unfold ixN
    rw [rs.length] at hj
    rw [if_pos (by omega), if_pos (by omega)]
    simp
  · next kvs e =>
    obtain ⟨hk, hl, q2⟩ := q2
    obtain ⟨u, e1', ro⟩ := t2.sto a _ e
    cases ro with
    | dK qq =>
      obtain ⟨k, ek⟩ := key_of_isKey hk
      have hl2 : kvs.length = _ := Paired.length qq
      refine .inr ⟨a, _, rfl, .inl ⟨_, k, e1', rep_key r2 ek, ?_, rfl⟩, fin (by rw [e]; exact Option.some_ne_none _) ⟨_, e⟩ (.dK (dput_rel key_eqv ek rd qq)) q2⟩
      rw [← hl2, sizeLine_eq]; exact hl
  · next kvs e =>
    obtain ⟨hk, hl, q2⟩ := q2
    obtain ⟨u, e1', ro⟩ := t2.sto a _ e
    cases ro with
    | dT qq =>
      unfold isKeyT at hk
      split at hk
      · next xs =>
        obtain ⟨k, ek⟩ := keys_of_all hk
        have ek' : keysD (.tup xs) = some k := ek
        obtain ⟨b, e2', e3'⟩ := rep_keys r2 ek'
        have hl2 : kvs.length = _ := Paired.length qq
        refine .inr ⟨a, _, rfl, .inr ⟨_, k, b, e1', e2', e3', ?_, rfl⟩, fin (by rw [e]; exact Option.some_ne_none _) ⟨_, e⟩ (.dT (dput_rel keysD_eqv ek' rd qq)) q2⟩
        rw [← hl2, sizeLine_eq]; exact hl
      · cases hk
  · exact q2.elim
end

/-! ### statements -/
structure GotS (M : Kx) (xk : XK) (Pr : Addr → Prop) (S : Store) (H : Hp) (W : WD) (D : Ends) : Prop where
  nx : ∀ s' S' sv' H', Evo S H S' H' → Cur M xk Pr W.ex s' S' sv' H' → W.nx s' S' → D.nx sv' H'
  bk : ∀ s' S' sv' H', Evo S H S' H' → Cur M xk Pr W.ex s' S' sv' H' → W.bk s' S' → D.bk sv' H'
  ct : ∀ s' S' sv' H', Evo S H S' H' → Cur M xk Pr W.ex s' S' sv' H' → W.ct s' S' → D.ct sv' H'
  rt : GotE M Pr S H W.rt D.rt
theorem GotS.go {M : Kx} {xk : XK} {Pr : Addr → Prop} {S S1 : Store} {H H1 : Hp} {W : WD} {D : Ends} (g : GotS M xk Pr S H W D) (e : Evo S H S1 H1) : GotS M xk Pr S1 H1 W D :=
  ⟨fun s' S' sv' H' e' => g.nx s' S' sv' H' (e.trans e'), fun s' S' sv' H' e' => g.bk s' S' sv' H' (e.trans e'), fun s' S' sv' H' e' => g.ct s' S' sv' H' (e.trans e'), fun d S' v H' e' => g.rt d S' v H' (e.trans e')⟩
def lS (M : Kx) (xk : XK) (w : WS) : TS := fun D sv H => ∃ (Pr : Addr → Prop) (s : Sg) (S : Store) (W : WD), Cur M xk Pr W.ex s S sv H ∧ w W s S ∧ GotS M xk Pr S H W D
structure DS (X : Cx) (xk : XK) (st : Stmt) (w : WS) : Prop where
  ps : PS X st (lS (kx X) xk w)
structure DSs (X : Cx) (xk : XK) (st : List Stmt) (w : WS) : Prop where
  ps : PSs X st (lS (kx X) xk w)

section
variable {M : Kx} {Pr : Addr → Prop} {S S' : Store} {H : Hp}
theorem sub_kept (h : Dl.Sub S' S) : Kept (Fr Pr S) (Fr Pr S') H H := fun a o e f => ⟨e, (h a).elim (fun z => by show S' a = none; rw [z]; exact f.1) fun z => z, f.2⟩
theorem Sto.sub (t : Sto M Pr S H) (h : Dl.Sub S' S) : Sto M Pr S' H ∧ Evo S H S' H := by
  refine ⟨⟨fun a o e => ?_, fun a z => ⟨?_, (t.pr a z).2⟩⟩, ⟨fun a o e _ => e, fun a q => ?_⟩⟩
  · rcases h a with z | z
    · rw [z] at e
      obtain ⟨u, e1, r⟩ := t.sto a o e
      exact ⟨u, e1, r.mono (sub_kept h)⟩
    · rw [z] at e; cases e
  · rcases h a with z' | z'
    · rw [z']; exact (t.pr a z).1
    · exact z'
  · rcases h a with z | z
    · rw [z] at q; exact .inl q
    · exact absurd z q
mutual
theorem fz_rep (t : Sto M Pr S H) (h : Dl.Sub S' S) : ∀ {d d' : D} {v : V}, FzV S S' d d' → Rep M (Fr Pr S) H d v → Rep M (Fr Pr S') H d' v
  | _, _, _, .rfl d, r => r.mono (sub_kept h)
  | _, _, _, .frz (a := a) e n fs, r => by
    cases r
    obtain ⟨vs, e1, rs⟩ := t.lref e
    refine .lst ⟨e1, n, fun z => ?_⟩ (fz_reps t h fs rs)
    have := (t.pr a z).1
    rw [e] at this; cases this
  | _, _, _, .tup fs, .tup ht rs => .tup (ht.mono (sub_kept h)) (fz_reps t h fs rs)
  | _, _, _, .lst fs, .lst ht rs => .lst (ht.mono (sub_kept h)) (fz_reps t h fs rs)
theorem fz_reps (t : Sto M Pr S H) (h : Dl.Sub S' S) : ∀ {d d' : List D} {v : List V}, FzVs S S' d d' → Reps M (Fr Pr S) H d v → Reps M (Fr Pr S') H d' v
  | _, _, _, .nil, .nil => .nil
  | _, _, _, .cons f fs, .cons r rs => .cons (fz_rep t h f r) (fz_reps t h fs rs)
end
end

section
variable {X : Cx} {xk : XK} {pos : Pos}
theorem dss_nil : DSs X xk [] sNext := ⟨pss_nil.weak fun D sv H ⟨Pr, s, S, W, cu, q, g⟩ => g.nx s S sv H .refl cu q⟩
theorem dss_cons {st : Stmt} {r : List Stmt} {wa wb : WS} (h1 : DS X xk st wa) (h2 : DSs X xk r wb) : DSs X xk (st :: r) (sSeq wa wb) :=
  ⟨(pss_cons h1.ps h2.ps).weak fun D sv H ⟨Pr, s, S, W, cu, q, g⟩ => ⟨Pr, s, S, { W with nx := wb W }, cu, q,
    ⟨fun s' S' sv' H' e c q => ⟨Pr, s', S', W, c, q, g.go e⟩, g.bk, g.ct, g.rt⟩⟩⟩
theorem dss_one {st : Stmt} {wa : WS} (h1 : DS X xk st wa) : DSs X xk [st] wa := ⟨pss_one h1.ps⟩
theorem ds_pass : DS X xk (.Pass pos) sNext := ⟨ps_pass.weak fun D sv H ⟨Pr, s, S, W, cu, q, g⟩ => g.nx s S sv H .refl cu q⟩
theorem ds_break : DS X xk (.Break pos) sBreak := ⟨ps_break.weak fun D sv H ⟨Pr, s, S, W, cu, q, g⟩ => g.bk s S sv H .refl cu q⟩
theorem ds_cont : DS X xk (.Continue pos) sCont := ⟨ps_continue.weak fun D sv H ⟨Pr, s, S, W, cu, q, g⟩ => g.ct s S sv H .refl cu q⟩
theorem ds_expr {e : Expr} {we : WE} (he : DE X xk e we) (hs : swapsWith e none pos.line X.env = pure false := by rfl) : DS X xk (.Expr e pos) (sExpr we) :=
  ⟨(ps_expr he.pe hs).weak fun D sv H ⟨Pr, s, S, W, cu, q, g⟩ => ⟨Pr, W.ex, s, S, _, cu, q, fun d S' v H' ev st r q => g.nx s S' sv H' ev (cu.go ev st) q⟩⟩
theorem ds_ret {e : Expr} {we : WE} (he : DE X xk e we) : DS X xk (.Return (some e) pos) (sRet we) :=
  ⟨(ps_ret he.pe).weak fun D sv H ⟨Pr, s, S, W, cu, q, g⟩ => ⟨Pr, W.ex, s, S, _, cu, q, fun d S' v H' ev st r ⟨d', S2, hs, fz, q⟩ => by
    obtain ⟨t2, e2⟩ := st.sub hs
    exact g.rt d' S2 v H' (ev.trans e2) t2 (fz_rep st hs fz r) q⟩⟩
theorem ds_retN : DS X xk (.Return none pos) sRetN :=
  ⟨ps_retN.weak fun D sv H ⟨Pr, s, S, W, cu, ⟨d', S2, hs, fz, q⟩, g⟩ => by
    obtain ⟨t2, e2⟩ := cu.sto.sub hs
    exact g.rt d' S2 .non H e2 t2 (fz_rep cu.sto hs fz .non) q⟩
theorem ds_if {c : Expr} {a b : List Stmt} {wc : WT} {wa wb : WS} (hc : DT X xk c wc) (ha : DSs X xk a wa) (hb : DSs X xk b wb) : DS X xk (.If c a b pos) (sIf wc wa wb) :=
  ⟨(ps_if hc.pt ha.ps hb.ps).weak fun D sv H ⟨Pr, s, S, W, cu, q, g⟩ => ⟨Pr, W.ex, s, S, _, cu, q, fun k S' H' ev st q => by
    cases k with
    | true => exact ⟨Pr, s, S', W, cu.go ev st, q, g.go ev⟩
    | false => exact ⟨Pr, s, S', W, cu.go ev st, q, g.go ev⟩⟩⟩
theorem ds_asg {tg e : Expr} {we : WE} {g : WG} {is : List Nat} (he : DE X xk e we) (hg : DG X xk tg g is) (hs : swapsWithSole [tg] e pos.line X.env = pure false := by rfl) (hw : swappedStores [tg] e X.env = pure none := by rfl)
    (h1 : (assignEach [tg] X.env).map (·.2) = [assign tg X.env] := by rfl) : DS X xk (.Assign [tg] e pos) (sAsg we g) :=
  ⟨(ps_asg he.pe hg.pg hs hw h1).weak fun D sv H ⟨Pr, s, S, W, cu, q, g⟩ => ⟨Pr, W.ex, s, S, _, cu, q, fun d S1 v H1 e1 t1 r1 q1 =>
    ⟨Pr, W.ex, s, S1, d, _, cu.go e1 t1, r1, q1, fun s' S' sv' H' ev c _ q => g.nx s' S' sv' H' (e1.trans ev) c q⟩⟩⟩
/-- a statement that stores a new list at a name -/
structure DAL (X : Cx) (xk : XK) (st : Stmt) (w : WL) (i : Nat) : Prop where
  ps : PS X st (tAsg (lL (kx X) xk w) (L2.gName i))
theorem ds_frz {st : Stmt} {w : WL} {i : Nat} (h : DAL X xk st w i) : DS X xk st (sAsg (frz w) (gName i)) :=
  ⟨h.ps.weak fun D sv H ⟨Pr, s, S, W, cu, q, g⟩ => ⟨Pr, W.ex, s, S, _, cu, q, fun ds S1 p vs H0 H1 e1 t1 r1 q1 hp eh => by
    subst eh
    obtain ⟨t', ev⟩ := t1.new (o := .lst vs) hp
    exact g.nx _ _ _ _ (e1.trans ev) (((cu.go e1 t1).go ev t').setS (.lst (FL.new t1 hp) (r1.mono ev.kept))) q1⟩⟩
theorem ds_thw {st : Stmt} {w : WL} {i : Nat} (h : DAL X xk st w i) : DS X xk st (sAsg (thw w) (gName i)) :=
  ⟨h.ps.weak fun D sv H ⟨Pr, s, S, W, cu, q, g⟩ => ⟨Pr, W.ex, s, S, _, cu, q, fun ds S1 p vs H0 H1 e1 t1 r1 q1 hp eh => by
    subst eh
    obtain ⟨t', ev⟩ := t1.track (so := .lst ds) (o := .lst vs) hp (.lst r1)
    exact g.nx _ _ _ _ (e1.trans ev) (((cu.go e1 t1).go ev t').setS (.ref p)) (q1 p (t1.none_of hp))⟩⟩
/-- a, b = x, y -/
theorem ds_par {i j : Nat} {x y : Str} {a b : Expr} {wr : WA} {px py pt : Pos} {kt k2 pt2} (hc : X.calm = true) (hN : X.N.Nodup) (hi : X.N[i]? = some x) (hj : X.N[j]? = some y) (hij : i ≠ j) (ha : DA X xk [a, b] wr)
    (ps : ∀ {ta : TA}, PA X [a, b] ta → PS X (.Assign [.Tuple [.Name x px, .Name y py] kt pt] (.Tuple [a, b] k2 pt2) pos) (tPar i j ta)) :
    DS X xk (.Assign [.Tuple [.Name x px, .Name y py] kt pt] (.Tuple [a, b] k2 pt2) pos) (sPar [i, j] wr) :=
  ⟨(ps ha.pa).weak fun D sv H ⟨Pr, s, S, W, cu, q, g⟩ => ⟨Pr, W.ex, s, S, _, cu, q, fun ds S1 vs H1 e1 t1 r1 ⟨hl, q1⟩ => by
    have hl2 := r1.length
    match vs, r1, hl2 with
    | [], _, hl2 => rw [hl] at hl2; cases hl2
    | [u], _, hl2 => rw [hl] at hl2; cases hl2
    | [u, v], r1, hl2 => exact ⟨u, v, rfl, g.nx _ _ _ _ e1 ⟨envR_sets (is := [i, j]) r1 (cu.go e1 t1).env, t1, (cu.go e1 t1).ex⟩ q1⟩
    | _ :: _ :: _ :: _, _, hl2 => rw [hl] at hl2; simp at hl2⟩⟩
theorem ds_par3 {i j l : Nat} {x y z : Str} {a b c : Expr} {wr : WA} {px py pz pt : Pos} {kt k2 pt2} (ha : DA X xk [a, b, c] wr)
    (ps : ∀ {ta : TA}, PA X [a, b, c] ta → PS X (.Assign [.Tuple [.Name x px, .Name y py, .Name z pz] kt pt] (.Tuple [a, b, c] k2 pt2) pos) (tPar3 i j l ta)) :
    DS X xk (.Assign [.Tuple [.Name x px, .Name y py, .Name z pz] kt pt] (.Tuple [a, b, c] k2 pt2) pos) (sPar [i, j, l] wr) :=
  ⟨(ps ha.pa).weak fun D sv H ⟨Pr, s, S, W, cu, q, g⟩ => ⟨Pr, W.ex, s, S, _, cu, q, fun ds S1 vs H1 e1 t1 r1 ⟨hl, q1⟩ => by
    have hl2 := r1.length
    match vs, r1, hl2 with
    | [], _, hl2 => rw [hl] at hl2; cases hl2
    | [u], _, hl2 => rw [hl] at hl2; cases hl2
    | [u, v], _, hl2 => rw [hl] at hl2; cases hl2
    | [u, v, w], r1, hl2 => exact ⟨u, v, w, rfl, g.nx _ _ _ _ e1 ⟨envR_sets (is := [i, j, l]) r1 (cu.go e1 t1).env, t1, (cu.go e1 t1).ex⟩ q1⟩
    | _ :: _ :: _ :: _ :: _, _, hl2 => rw [hl] at hl2; simp at hl2⟩⟩
/-- what cannot be reached -/
theorem ds_never {st : Stmt} : DS X xk st (fun _ _ _ => False) := ⟨ps_never.weak fun D sv H ⟨Pr, s, S, W, cu, q, g⟩ => q.elim⟩
theorem ds_while {c : Expr} {body : List Stmt} {wc : WT} {wb : WS} (hp : PassesOwn (model X.prog X.w) X.A X.env X.xe) (hc : DT X xk c wc) (hb : DSs X xk body wb) : DS X xk (.While c body [] pos) (sWhile wc wb) := by
  refine ⟨(ps_while hp hc.pt hb.ps).weak fun D sv H ⟨Pr, s, S, W, cu, ⟨n, q⟩, g⟩ => ?_⟩
  refine ⟨fun m sv' H' => ∃ s' S', Evo S H S' H' ∧ Cur (kx X) xk Pr W.ex s' S' sv' H' ∧ whileN wc wb W m s' S', ⟨n, s, S, .refl, cu, q⟩, fun m sv' H' ⟨s', S', ev, cu', q⟩ => ?_⟩
  cases m with
  | zero => exact q.elim
  | succ m =>
    refine ⟨Pr, W.ex, s', S', _, cu', q, fun k S1 H1 e1 t1 q1 => ?_⟩
    cases k with
    | false => exact g.nx _ _ _ _ (ev.trans e1) (cu'.go e1 t1) q1
    | true =>
      refine ⟨fun sv2 H2 => ∃ s2 S2, Evo S H S2 H2 ∧ Cur (kx X) xk Pr W.ex s2 S2 sv2 H2 ∧ whileN wc wb W m s2 S2, fun sv2 H2 h => ⟨m, by omega, h⟩, ?_⟩
      refine ⟨Pr, s', S1, { W with nx := whileN wc wb W m, ct := whileN wc wb W m, bk := W.nx }, cu'.go e1 t1, q1, ⟨?_, ?_, ?_, ?_⟩⟩
      · exact fun s2 S2 sv2 H2 e2 c2 q2 => ⟨s2, S2, (ev.trans e1).trans e2, c2, q2⟩
      · exact fun s2 S2 sv2 H2 e2 c2 q2 => g.nx _ _ _ _ ((ev.trans e1).trans e2) c2 q2
      · exact fun s2 S2 sv2 H2 e2 c2 q2 => ⟨s2, S2, (ev.trans e1).trans e2, c2, q2⟩
      · exact (g.go (ev.trans e1)).rt
end
end Dl
set_option Elab.async false
set_option linter.all false
set_option maxRecDepth 100000
/-! Dr6: what is walked; for; list comprehensions. -/
namespace Dl
open PySem PySem.Spec PyProof.Rows L2

/-- an iterator over the items its, from the state S0, H0 on -/
def WalkD (M : Kx) (Pr : Addr → Prop) (J : It) (its : List D) (chk : Store → Prop) (S0 : Store) (H0 : Hp) : Prop :=
  ∀ (Pr' : Addr → Prop) (S : Store) (H : Hp), (∀ a, Pr' a → Pr a ∨ H0 a = none) → Evo S0 H0 S H → Sto M Pr' S H → chk S →
    (∀ i, i < its.length → J.go i H) ∧ J.stop its.length H ∧
      ∀ (i : Nat) (d : D) x H', its[i]? = some d → J.yld i H x H' → Evo S H S H' ∧ Sto M Pr' S H' ∧ Rep M (Fr Pr' S) H' d x
def lI (M : Kx) (xk : XK) (wi : WI) : TI := fun sv H R => ∃ (Pr : Addr → Prop) (E : XQ) (s : Sg) (S : Store) (QI : List D → (Store → Prop) → Store → Prop), Cur M xk Pr E s S sv H ∧ wi E s S QI ∧
  ∀ its chk S' J H', Evo S H S' H' → Sto M Pr S' H' → its.length ≤ sizeLine → WalkD M Pr J its chk S' H' → QI its chk S' → R J H'
structure DI (X : Cx) (xk : XK) (tg e : Expr) (w : WI) : Prop where
  pi : PI X tg e (lI (kx X) xk w)
theorem _root_.L2.PI.weak {X : Cx} {tg e : Expr} {t t' : TI} (h : PI X tg e t) (w : ∀ s H Q, t' s H Q → t s H Q) : PI X tg e t' := ⟨fun pins s σ H R I hw => h.run pins s σ H R I (w _ _ _ hw)⟩

section
variable {M : Kx} {Pr Pr' : Addr → Prop} {S S0 : Store} {H H0 : Hp} {a : Addr}
theorem kept_walk (hp : ∀ a, Pr' a → Pr a ∨ H0 a = none) (e : Evo S0 H0 S H) : Kept (Fr Pr S0) (Fr Pr' S) H0 H := fun a o h f =>
  ⟨e.kp a o h f.1, e.nn h f.1, fun z => (hp a z).elim f.2 fun w => by rw [h] at w; cases w⟩
/-- a list that stays -/
theorem walkD_lst {d : D} {its : List D} (r : Rep M (Fr Pr S0) H0 d (.ref a)) (h : lstOf S0 d = some its) : WalkD M Pr (Itl M.K a) its (fun S => lstOf S d = some its) S0 H0 := by
  intro Pr' S H hp e t hc
  obtain ⟨a', vs, ea, hs, rs⟩ := t.lstOf (r.mono (kept_walk hp e)) hc
  cases ea
  have hl := rs.length
  refine ⟨fun i hi => ?_, ⟨vs, SqL.of hs, by omega⟩, fun i d' x H' hi hy => ?_⟩
  · exact ⟨vs, vs[i]'(by omega), SqL.of hs, by simp⟩
  · obtain ⟨rfl, hx⟩ := hy
    obtain ⟨v, ev, rv⟩ := rs.get hi
    have := hx vs (SqL.of hs)
    rw [ev] at this; cases this
    exact ⟨.refl, t, rv⟩
theorem walkD_tup {its : List D} (r : Rep M (Fr Pr S0) H0 (.tup its) (.ref a)) {chk : Store → Prop} : WalkD M Pr (Itt M.K a) its chk S0 H0 := by
  intro Pr' S H hp e t _
  cases r with
  | tup ht rs0 =>
    rename_i vs
    have rs := rs0.mono (kept_walk hp e)
    have hs := (ht.mono (kept_walk hp e)).sq
    have hl := rs.length
    refine ⟨fun i hi => ?_, ⟨vs, hs, by omega⟩, fun i d' x H' hi hy => ?_⟩
    · exact ⟨vs, vs[i]'(by omega), hs, by simp⟩
    · obtain ⟨rfl, hx⟩ := hy
      obtain ⟨v, ev, rv⟩ := rs.get hi
      have := hx vs hs
      rw [ev] at this; cases this
      exact ⟨.refl, t, rv⟩
theorem walkD_scr {its : List D} (r : Rep M (Fr Pr S0) H0 (.scr its) (.ref a)) {chk : Store → Prop} : WalkD M Pr (Itl M.K a) its chk S0 H0 := by
  intro Pr' S H hp e t _
  cases r with
  | scr ht rs0 =>
    rename_i vs
    have rs := rs0.mono (kept_walk hp e)
    have hs := (ht.mono (kept_walk hp e)).sq
    have hl := rs.length
    refine ⟨fun i hi => ?_, ⟨vs, hs, by omega⟩, fun i d' x H' hi hy => ?_⟩
    · exact ⟨vs, vs[i]'(by omega), hs, by simp⟩
    · obtain ⟨rfl, hx⟩ := hy
      obtain ⟨v, ev, rv⟩ := rs.get hi
      have := hx vs hs
      rw [ev] at this; cases this
      exact ⟨.refl, t, rv⟩
theorem walkD_range {lo : Int} {n : Nat} {chk : Store → Prop} : WalkD M Pr (Itr lo n) ((List.range n).map fun (i : Nat) => D.int (lo + i)) chk S0 H0 := by
  intro Pr' S H hp e t _
  refine ⟨fun i hi => (show i < n by simpa using hi), by simp [Itr], fun i d' x H' hi hy => ?_⟩
  obtain ⟨rfl, rfl⟩ := hy
  refine ⟨.refl, t, ?_⟩
  rw [List.getElem?_map] at hi
  have hi' : i < n := by
    cases q : (List.range n)[i]? with
    | none => rw [q] at hi; cases hi
    | some j => simpa using (List.getElem?_eq_some_iff.mp q).1
  rw [List.getElem?_range hi'] at hi
  cases hi
  exact .int _
end

section
variable {X : Cx} {xk : XK}
/-- a list or a tuple, walked -/
def iSeq (K : PySem.W.Frag) (tl : TE) : TI := fun σ H R => tl σ H fun x H1 => ∃ a, x = .ref a ∧ ((∃ xs, SqL K H1 a xs ∧ (xs.length ≤ sizeLine → R (Itl K a) H1)) ∨ ∃ xs, SqT K H1 a xs ∧ (xs.length ≤ sizeLine → R (Itt K a) H1))
theorem pi_seq {tg l : Expr} {tl : TE} (hl : PE X l tl) : PI X tg l (iSeq X.K tl) := by
  refine ⟨fun pins s σ H R I h => ?_⟩
  refine thn (hl.run pins s σ H _ I h) fun v s1 ⟨x, H1, I1, r1, q1⟩ => ?_
  obtain ⟨a, e, q⟩ := q1
  subst e
  cases r1
  rcases q with ⟨xs, hq, q⟩ | ⟨xs, hq, q⟩
  · obtain ⟨its, rv, p, hz⟩ := I1.list hq
    refine wpAny_pyIter_list p.isList ?_
    refine ⟨s1.heap.objs.size, [s1.heap.objs.size], _, _, H1, rfl, I1.kept (t' := s1.toks) fun b o e => Heap.get?_push_of_some _ e, turn_list a _, ⟨_, Heap.get?_push_size _ rfl, rfl, rfl⟩, fun b hb => ?_, q hz⟩
    have e : b = s1.heap.objs.size := by simpa using hb
    subst e
    exact I1.fpOk (Nat.le_refl _) (I1.hok.fresh (Nat.le_refl _))
  · obtain ⟨its, rv, p, hz⟩ := I1.tuple hq
    refine wpAny_pyIter_tuple (show s1.heap.IsTuple a its.toArray from p) ?_
    refine ⟨s1.heap.objs.size, [s1.heap.objs.size], _, _, H1, rfl, I1.kept (t' := s1.toks) fun b o e => Heap.get?_push_of_some _ e, turn_tuple a _, ⟨_, Heap.get?_push_size _ rfl, rfl, rfl⟩, fun b hb => ?_, q hz⟩
    have e : b = s1.heap.objs.size := by simpa using hb
    subst e
    exact I1.fpOk (Nat.le_refl _) (I1.hok.fresh (Nat.le_refl _))
theorem di_seq {tg e : Expr} {we : WE} (he : DE X xk e we) : DI X xk tg e (wiSeq we) := by
  refine ⟨(pi_seq he.pe).weak fun sv H R ⟨Pr, E, s, S, QI, cu, q, g⟩ => ?_⟩
  refine ⟨Pr, E, s, S, _, cu, q, fun x S1 v H1 e1 t1 r1 q1 => ?_⟩
  obtain ⟨xs, hx, q1⟩ := q1
  have chkE : ∀ {S' : Store}, True := fun {_} => trivial
  cases x with
  | tup ys =>
    cases hx
    have r1' := r1
    cases r1 with
    | tup ht rs => exact ⟨_, rfl, .inr ⟨_, ht.sq, fun hz => g _ _ _ _ _ e1 t1 (by rw [rs.length]; exact hz) (walkD_tup r1') q1⟩⟩
  | scr ys =>
    cases hx
    have r1' := r1
    cases r1 with
    | scr ht rs => exact ⟨_, rfl, .inl ⟨_, ht.sq, fun hz => g _ _ _ _ _ e1 t1 (by rw [rs.length]; exact hz) (walkD_scr r1') q1⟩⟩
  | lst ys =>
    obtain ⟨a, vs, rfl, hs, rs⟩ := t1.lstOf r1 (xs := xs) hx
    exact ⟨a, rfl, .inl ⟨vs, SqL.of hs, fun hz => g _ _ _ _ _ e1 t1 (by rw [rs.length]; exact hz) (walkD_lst r1 hx) q1⟩⟩
  | ref b =>
    obtain ⟨a, vs, e2, hs, rs⟩ := t1.lstOf (d := .ref b) r1 (xs := xs) hx
    subst e2
    exact ⟨a, rfl, .inl ⟨vs, SqL.of hs, fun hz => g _ _ _ _ _ e1 t1 (by rw [rs.length]; exact hz) (walkD_lst r1 hx) q1⟩⟩
  | _ => cases hx
theorem range_eq (n : Int) : ((List.range n.toNat).map fun (i : Nat) => D.int i) = (List.range n.toNat).map fun (i : Nat) => D.int (0 + i) := by simp
theorem di_range {tg a : Expr} {wa : WE} {p pos : Pos} (hg : Gl X "range") (hm : X.mg "range" = none) (ha : DE X xk a wa) (hs : starEach [a] X.env = (false, eval a X.env) :: starEach [] X.env := by rfl) : DI X xk tg (.Call (.Name "range" p) [a] [] pos) (wiRange wa) := by
  refine ⟨(pi_range1 hg hm (pa_cons ha.pe pa_nil hs) hs).weak fun sv H R ⟨Pr, E, s, S, QI, cu, q, g⟩ => ?_⟩
  refine ⟨Pr, E, s, S, _, cu, q, fun x S1 v H1 e1 t1 r1 q1 => ?_⟩
  obtain ⟨n, rfl, h0, h1, q1⟩ := q1
  refine ⟨n, by rw [r1.intE], by omega, by omega, g _ _ _ _ _ e1 t1 ?_ ?_ q1⟩
  · rw [List.length_map, List.length_range, sizeLine_eq]; omega
  · rw [range_eq]; exact walkD_range
theorem di_range2 {tg a b : Expr} {wa wb : WE} {p pos : Pos} (hg : Gl X "range") (hm : X.mg "range" = none) (ha : DE X xk a wa) (hb : DE X xk b wb) (hs : starEach [a, b] X.env = (false, eval a X.env) :: starEach [b] X.env := by rfl)
    (hs2 : starEach [b] X.env = (false, eval b X.env) :: starEach [] X.env := by rfl) : DI X xk tg (.Call (.Name "range" p) [a, b] [] pos) (wiRange2 wa wb) := by
  refine ⟨(pi_range2 hg hm (pa_cons ha.pe (pa_cons hb.pe pa_nil hs2) hs) (by rw [hs, hs2]; rfl) hs2).weak fun sv H R ⟨Pr, E, s, S, QI, cu, q, g⟩ => ?_⟩
  refine ⟨Pr, E, s, S, _, cu, q, fun x S1 v H1 e1 t1 r1 q1 => ⟨Pr, E, s, S1, _, cu.go e1 t1, q1, fun y S2 u H2 e2 t2 r2 q2 => ?_⟩⟩
  obtain ⟨m, n, rfl, rfl, h0, h1, h2, h3, h4, q2⟩ := q2
  refine ⟨m, n, by rw [r1.intE, r2.intE], ⟨by omega, by omega, by omega, by omega⟩, g _ _ _ _ _ (e1.trans e2) t2 ?_ ?_ q2⟩
  · unfold rng; rw [List.length_map, List.length_range, sizeLine_eq]; omega
  · exact walkD_range

/-! ### for -/
theorem ds_for {tg iter : Expr} {body : List Stmt} {pos : Pos} {wi : WI} {g : WG} {is : List Nat} {wb : WS} (hp : PassesOwn (model X.prog X.w) X.A X.env X.xe) (hc : X.calm = true) (hi : DI X xk tg iter wi) (hg : DG X xk tg g is) (hb : DSs X xk body wb)
    (hs : ∀ x, foldedSetIterable iter X.env x = pure x := by intro _; rfl) : DS X xk (.For tg iter body [] pos) (sFor wi g wb) := by
  refine ⟨(ps_for hp hc hi.pi hg.pg hb.ps hs).weak fun D sv H ⟨Pr, s, S, W, cu, q, G⟩ => ?_⟩
  refine ⟨Pr, W.ex, s, S, _, cu, q, fun its chk S1 J H1 e1 t1 hl wk q1 => ?_⟩
  refine ⟨fun i m sv' H' => ∃ s' S', Evo S1 H1 S' H' ∧ Cur (kx X) xk Pr W.ex s' S' sv' H' ∧ i + m = its.length ∧ loop chk g wb W (its.drop i) s' S', ⟨its.length, s, S1, .refl, cu.go e1 t1, by simp, q1⟩, ?_⟩
  rintro i m sv' H' ⟨s', S', ev, cu', hm, ql⟩
  cases hd : its.drop i with
  | nil =>
    rw [hd] at ql
    have hlen : its.length ≤ i := List.drop_eq_nil_iff.mp hd
    have hi' : i = its.length := by omega
    subst hi'
    obtain ⟨hc', qn⟩ := ql
    obtain ⟨_, st, _⟩ := wk Pr S' H' (fun a z => .inl z) ev cu'.sto hc'
    exact .inl ⟨st, G.nx _ _ _ _ (e1.trans ev) cu' qn⟩
  | cons x r =>
    rw [hd] at ql
    have hi' : i < its.length := by
      rcases Nat.lt_or_ge i its.length with z | z
      · exact z
      · rw [List.drop_eq_nil_iff.mpr z] at hd; cases hd
    have hx : its[i]? = some x := by
      have : (its.drop i)[0]? = some x := by rw [hd]; rfl
      rw [List.getElem?_drop, Nat.add_zero] at this
      exact this
    have hr : its.drop (i + 1) = r := by
      have : (its.drop i).drop 1 = r := by rw [hd]; rfl
      rw [List.drop_drop] at this
      exact this
    obtain ⟨hc', ql⟩ := ql
    obtain ⟨go, _, yl⟩ := wk Pr S' H' (fun a z => .inl z) ev cu'.sto hc'
    refine .inr ⟨go i hi', fun sv2 H2 => ∃ s2 S2, Evo S1 H1 S2 H2 ∧ Cur (kx X) xk Pr W.ex s2 S2 sv2 H2 ∧ loop chk g wb W r s2 S2, fun sv2 H2 ⟨s2, S2, a, b, c⟩ => ⟨m - 1, by omega, s2, S2, a, b, by omega, by rw [hr]; exact c⟩, fun xv H2 hy => ?_⟩
    obtain ⟨e2, t2, r2⟩ := yl i x xv H2 hx hy
    refine ⟨Pr, W.ex, s', S', x, _, cu'.go e2 t2, r2, ql, fun s3 S3 sv3 H3 e3 c3 _ q3 => ?_⟩
    have e13 := (ev.trans e2).trans e3
    refine ⟨Pr, s3, S3, { W with nx := loop chk g wb W r, ct := loop chk g wb W r, bk := W.nx }, c3, q3, ⟨?_, ?_, ?_, ?_⟩⟩
    · exact fun s4 S4 sv4 H4 e4 c4 q4 => ⟨s4, S4, e13.trans e4, c4, q4⟩
    · exact fun s4 S4 sv4 H4 e4 c4 q4 => G.nx _ _ _ _ (e1.trans (e13.trans e4)) c4 q4
    · exact fun s4 S4 sv4 H4 e4 c4 q4 => ⟨s4, S4, e13.trans e4, c4, q4⟩
    · exact (G.go (e1.trans e13)).rt

/-! ### comprehensions -/
def del (H : Hp) (p : Addr) : Hp := fun a => if a = p then none else H a
theorem del_same {H : Hp} {p : Addr} : del H p p = none := by unfold del; rw [if_pos rfl]
theorem del_ne {H : Hp} {p a : Addr} (h : a ≠ p) : del H p a = H a := by unfold del; rw [if_neg h]
theorem upd_del {H : Hp} {p : Addr} {o : HO} (h : H p = some o) : upd (del H p) p o = H := by
  funext a
  by_cases e : a = p
  · subst e; rw [upd_same, h]
  · rw [upd_ne e, del_ne e]
theorem del_upd {H : Hp} {p : Addr} {o : HO} (h : H p = none) : del (upd H p o) p = H := by
  funext a
  by_cases e : a = p
  · subst e; rw [del_same, h]
  · rw [del_ne e, upd_ne e]
theorem kept_del {M : Kx} {Pr : Addr → Prop} {S : Store} {H : Hp} {p : Addr} : Kept (Fr (gd Pr p) S) (Fr Pr S) H (del H p) := fun a o h f => by
  have n : a ≠ p := fun z => f.2 (.inr z)
  exact ⟨by rw [del_ne n]; exact h, f.1, fun z => f.2 (.inl z)⟩
theorem Sto.del {M : Kx} {Pr : Addr → Prop} {S : Store} {H : Hp} {p : Addr} (t : Sto M (gd Pr p) S H) (np : ¬ Pr p) : Sto M Pr S (del H p) := by
  have hp := (t.pr p (.inr rfl)).1
  refine ⟨fun a o e => ?_, fun a z => ?_⟩
  · have n : a ≠ p := fun z => by rw [z, hp] at e; cases e
    obtain ⟨u, e1, r⟩ := t.sto a o e
    exact ⟨u, by rw [del_ne n]; exact e1, r.mono (kept_del (M := M))⟩
  · have n : a ≠ p := fun q => np (q ▸ z)
    rw [del_ne n]
    exact t.pr a (.inl z)
theorem evo_del {S S' : Store} {H0 H' : Hp} {p : Addr} {o : HO} (h : H0 p = none) (e : Evo S (upd H0 p o) S' H') : Evo S H0 S' (del H' p) := by
  refine ⟨fun a u q n => ?_, fun a q => ?_⟩
  · have ne := ne_of_none q h
    rw [del_ne ne]
    exact e.kp a u (by rw [upd_ne ne]; exact q) n
  · rcases e.new a q with z | z
    · exact .inl z
    · have ne : a ≠ p := fun w => by rw [w, upd_same] at z; cases z
      rw [upd_ne ne] at z
      exact .inr z
theorem wipe_rel {M : Kx} {F : Addr → Prop} {H : Hp} {s : Sg} {sv : L2.St} (e : EnvR M F H s sv) : ∀ vs : List Nat, EnvR M F H (Dl.wipe s vs) (L2.wipe sv vs)
  | [] => e
  | v :: vs => by
    have ih := wipe_rel e vs
    refine ⟨by simp [Dl.wipe, L2.wipe, ih.1], fun i d h => ?_⟩
    unfold Dl.wipe at h
    unfold L2.wipe
    by_cases q : v = i
    · subst q
      rw [List.getElem?_set] at h
      split at h
      · split at h <;> cases h
      · contradiction
    · rw [List.getElem?_set_ne q] at h ⊢
      exact ih.2 i d h
theorem wipe_out' : ∀ {vs : List Nat} {sv : L2.St} {i : Nat}, i ∉ vs → (L2.wipe sv vs)[i]? = sv[i]? := fun {vs sv i} h => L2.wipe_out h
theorem wipe_in : ∀ {vs : List Nat} {sv : L2.St} {i : Nat}, i ∈ vs → i < sv.length → (L2.wipe sv vs)[i]? = some none
  | v :: vs, sv, i, h, hl => by
    unfold L2.wipe
    by_cases q : v = i
    · subst q
      rw [List.getElem?_set_self (by rw [wipe_length]; exact hl)]
    · rw [List.getElem?_set_ne q]
      exact wipe_in ((List.mem_cons.mp h).resolve_left (Ne.symm q)) hl
theorem wipe_same {vs is : List Nat} {sv sv' : L2.St} (hsub : ∀ i ∈ is, i ∈ vs) (h : SameOut is (L2.wipe sv vs) sv') : L2.wipe sv' vs = L2.wipe sv vs := by
  have hl : sv'.length = sv.length := by rw [h.1, wipe_length]
  apply List.ext_getElem?
  intro i
  by_cases hi : i ∈ vs
  · by_cases hlt : i < sv.length
    · rw [wipe_in hi hlt, wipe_in hi (by omega)]
    · rw [List.getElem?_eq_none (by rw [wipe_length]; omega), List.getElem?_eq_none (by rw [wipe_length]; omega)]
  · rw [wipe_out' hi, h.2 i (fun z => hi (hsub i z))]
structure DTs (X : Cx) (xk : XK) (ifs : List Expr) (w : WT) : Prop where
  pt : PTs X ifs (lT (kx X) xk w)
theorem PTs.weak {X : Cx} {e : List Expr} {t t' : TT} (h : PTs X e t) (w : ∀ s H Q, t' s H Q → t s H Q) : PTs X e t' := ⟨fun pins s σ H Q I hw => h.run pins s σ H Q I (w _ _ _ hw)⟩
theorem dts_nil : DTs X xk [] Dl.tYes := ⟨PTs.weak pts_nil fun sv H Qv ⟨Pr, E, s, S, Q, cu, q, g⟩ => g true S H .refl cu.sto q⟩
theorem dts_one {c : Expr} {w : WT} (h : DT X xk c w) : DTs X xk [c] w := ⟨pts_one h.pt⟩
/-- the loop of a comprehension, as the hand layer has it -/
theorem lc_lift {M : Kx} {wi : WI} {g : WG} {t : WT} {e : WE} {is vs : List Nat} (hsub : ∀ i ∈ is, i ∈ vs) {sv : L2.St} {H : Hp} {Qv : VK} (h : lL M xk (wlComp wi g t e vs) sv H Qv) :
    tLc (lI M xk wi) (lG M E0 g is) (lT M E0 t) (lE M E0 e) vs sv H Qv := by
  obtain ⟨Pr, E, s, S, Q, cu, q, G⟩ := h
  refine ⟨Pr, E, s, S, _, cu, q, fun its chk S1 J H1 e1 t1 hl wk q1 => fun p hp => ?_⟩
  have np := t1.npr hp
  have exF : ∀ {Pr : Addr → Prop} {S : Store} {H : Hp}, EXK M E0 (fun _ _ => False) Pr S H := fun {_ _ _} x S' c od H' _ _ _ q => q.elim
  refine ⟨fun i m H' => ∃ S' H0 acc vacc, H' = upd H0 p (.lst vacc) ∧ H0 p = none ∧ i + m = its.length ∧ acc.length ≤ i ∧ Evo S1 H1 S' H0 ∧ Sto M Pr S' H0 ∧ Reps M (Fr Pr S') H0 acc vacc ∧ comp chk g t e (Dl.wipe s vs) (its.drop i) acc S' Q,
    ⟨its.length, S1, H1, [], [], rfl, hp, by simp, by simp, .refl, t1, .nil, q1⟩, ?_⟩
  rintro i m H' ⟨S', H0, acc, vacc, rfl, h0, hm, hal, ev, st, ra, qc⟩
  have np' : ¬ Pr p := np
  have evU : Evo S1 H1 S' (upd H0 p (.lst vacc)) := ev.trans (evo_new h0)
  have stG : Sto M (gd Pr p) S' (upd H0 p (.lst vacc)) := st.guard h0
  have hgd : ∀ a, gd Pr p a → Pr a ∨ H1 a = none := fun a z => z.elim .inl fun w => .inr (by rw [w]; exact hp)
  cases hd : its.drop i with
  | nil =>
    rw [hd] at qc
    have hlen : its.length ≤ i := List.drop_eq_nil_iff.mp hd
    have hi' : i = its.length := by omega
    subst hi'
    obtain ⟨hc', qn⟩ := qc
    obtain ⟨_, stp, _⟩ := wk (gd Pr p) S' _ hgd evU stG hc'
    exact .inl ⟨stp, G _ _ _ _ _ _ (e1.trans ev) st ra qn h0 rfl⟩
  | cons x r =>
    rw [hd] at qc
    have hi' : i < its.length := by
      rcases Nat.lt_or_ge i its.length with z | z
      · exact z
      · rw [List.drop_eq_nil_iff.mpr z] at hd; cases hd
    have hx : its[i]? = some x := by
      have : (its.drop i)[0]? = some x := by rw [hd]; rfl
      rw [List.getElem?_drop, Nat.add_zero] at this
      exact this
    have hr : its.drop (i + 1) = r := by
      have : (its.drop i).drop 1 = r := by rw [hd]; rfl
      rw [List.drop_drop] at this
      exact this
    obtain ⟨hc', qc⟩ := qc
    obtain ⟨go, _, yl⟩ := wk (gd Pr p) S' _ hgd evU stG hc'
    refine .inr ⟨go i hi', fun H2 => ∃ S2 H0 acc vacc, H2 = upd H0 p (.lst vacc) ∧ H0 p = none ∧ acc.length ≤ i + 1 ∧ Evo S1 H1 S2 H0 ∧ Sto M Pr S2 H0 ∧ Reps M (Fr Pr S2) H0 acc vacc ∧ comp chk g t e (Dl.wipe s vs) r acc S2 Q,
      fun H2 ⟨S2, H0, acc, vacc, a, b, c, d, e, f, k⟩ => ⟨m - 1, by omega, S2, H0, acc, vacc, a, b, by omega, c, d, e, f, by rw [hr]; exact k⟩, fun xv H2 hy => ?_⟩
    obtain ⟨e2, t2, r2⟩ := yl i x xv H2 hx hy
    have env0 : EnvR M (Fr (gd Pr p) S') H2 (Dl.wipe s vs) (L2.wipe sv vs) := by
      have a := wipe_rel (cu.env.mono (e1.trans ev).kept) vs
      exact (a.mono (kept_gd h0)).mono e2.kept
    refine ⟨gd Pr p, fun _ _ => False, Dl.wipe s vs, S', x, _, ⟨env0, t2, exF⟩, r2, qc, fun s3 S3 sv3 H3 e3 c3 so q3 => ⟨wipe_same hsub so, ?_⟩⟩
    -- the end of a turn, at whatever state it comes to
    have fin : ∀ {S5 : Store} {H5 : Hp}, Evo S' (upd H0 p (.lst vacc)) S5 H5 → Sto M (gd Pr p) S5 H5 → H5 p = some (.lst vacc) ∧ H5 = upd (Dl.del H5 p) p (.lst vacc) ∧ Dl.del H5 p p = none ∧ Evo S1 H1 S5 (Dl.del H5 p) ∧ Sto M Pr S5 (Dl.del H5 p) ∧ Reps M (Fr Pr S5) (Dl.del H5 p) acc vacc := fun {S5 H5} e5 t5 => by
      have hS' : S' p = none := (stG.pr p (.inr rfl)).1
      have hp5 : H5 p = some (.lst vacc) := e5.kp p _ upd_same hS'
      have ev5 := evo_del h0 e5
      exact ⟨hp5, (upd_del hp5).symm, del_same, ev.trans ev5, t5.del np', ra.mono ev5.kept⟩
    refine ⟨gd Pr p, fun _ _ => False, s3, S3, _, c3, q3, fun b S4 H4 e4 t4 q4 => ?_⟩
    have e34 := (e2.trans e3).trans e4
    cases b with
    | false =>
      obtain ⟨_, a2, a3, a4, a5, a6⟩ := fin e34 t4
      exact ⟨S4, Dl.del H4 p, acc, vacc, a2, a3, by omega, a4, a5, a6, q4⟩
    | true =>
      refine ⟨gd Pr p, fun _ _ => False, s3, S4, _, c3.go e4 t4, q4, fun y S5 yv H5 e5 t5 r5 q5 => ?_⟩
      obtain ⟨a1, a2, a3, a4, a5, a6⟩ := fin (e34.trans e5) t5
      refine ⟨vacc, a1, by rw [← ra.length]; omega, S5, Dl.del H5 p, acc ++ [y], vacc ++ [yv], ?_, a3, by simp; omega, a4, a5, a6.append (.cons (r5.mono (kept_del (M := M))) .nil), q5⟩
      rw [a2, upd_upd, ← a2]

/-! the rules -/
section
variable {elt tg iter : Expr} {ifs : List Expr} {scope : Scope} {own : List (Str × Nat)} {pos : Pos} {wi : WI} {g : WG} {t : WT} {e : WE} {is : List Nat}
theorem dl_comp (hc : X.calm = true) (hN : X.N.Nodup) (hi : DI X xk tg iter wi) (ok : BlkOk X.N X.env.scope scope own)
    (hg : ∀ (s : Shared) (H : Hp) (C : Addr) (cl : List (Str × Addr)) (fp : List Addr), DG (X.blk s H scope (compEnvC scope cl C X.env) fp) E0 tg g is)
    (ht : ∀ (s : Shared) (H : Hp) (C : Addr) (cl : List (Str × Addr)) (fp : List Addr), DTs (X.blk s H scope (compEnvC scope cl C X.env) fp) E0 ifs t)
    (he : ∀ (s : Shared) (H : Hp) (C : Addr) (cl : List (Str × Addr)) (fp : List Addr), DE (X.blk s H scope (compEnvC scope cl C X.env) fp) E0 elt e)
    (hsub : ∀ i ∈ is, i ∈ own.map (·.2)) (hs : ∀ x, foldedSetIterable iter X.env x = pure x := by intro _; rfl) :
    DL X xk (.ListComp elt [⟨tg, iter, ifs, 0⟩] scope pos) (wlComp wi g t e (own.map (·.2))) :=
  ⟨(pe_lc hc hN hi.pi ok (fun s H C cl fp => (hg s H C cl fp).pg) (fun s H C cl fp => (ht s H C cl fp).pt) (fun s H C cl fp => (he s H C cl fp).pe) hs).weak fun _ _ _ h => lc_lift hsub h⟩
theorem dal_comp {i : Nat} {y : Str} {py spos : Pos} (hc : X.calm = true) (hN : X.N.Nodup) (hy : X.N[i]? = some y) (hyl : X.env.scope.names.lookup y = some .local)
    (hsw : swapsWith (.ListComp elt [⟨tg, iter, ifs, 0⟩] scope pos) (some (.Name y py)) spos.line X.env = pure true) (hi : DI X xk tg iter wi) (ok : BlkOk X.N X.env.scope scope own)
    (hg : ∀ (s : Shared) (H : Hp) (C : Addr) (cl : List (Str × Addr)) (fp : List Addr), DG (X.blk s H scope (compEnvC scope cl C X.env) fp) E0 tg g is)
    (ht : ∀ (s : Shared) (H : Hp) (C : Addr) (cl : List (Str × Addr)) (fp : List Addr), DTs (X.blk s H scope (compEnvC scope cl C X.env) fp) E0 ifs t)
    (he : ∀ (s : Shared) (H : Hp) (C : Addr) (cl : List (Str × Addr)) (fp : List Addr), DE (X.blk s H scope (compEnvC scope cl C X.env) fp) E0 elt e)
    (hsub : ∀ i ∈ is, i ∈ own.map (·.2)) (hs : ∀ x, foldedSetIterable iter X.env x = pure x := by intro _; rfl) :
    DAL X xk (.Assign [.Name y py] (.ListComp elt [⟨tg, iter, ifs, 0⟩] scope pos) spos) (wlComp wi g t e (own.map (·.2))) i :=
  ⟨(ps_setLc hc hN hy hyl hsw hi.pi ok (fun s H C cl fp => (hg s H C cl fp).pg) (fun s H C cl fp => (ht s H C cl fp).pt) (fun s H C cl fp => (he s H C cl fp).pe) hs).weak fun D sv H h => lc_lift hsub h⟩
end
end
end Dl
set_option Elab.async false
set_option linter.all false
set_option maxRecDepth 100000
/-! Dr7: a def from its body; zip, enumerate. -/
namespace Dl
open PySem PySem.Spec PyProof.Rows L2

section
variable {P : Program} {w : World} {K : PySem.W.Frag} {mg : Str → Option Value} {base : Heap}
abbrev XB (P : Program) (w : World) (K : PySem.W.Frag) (mg : Str → Option Value) (base : Heap) (N : List Str) (x : Str) (sc : Scope) (f : Addr) (cdv : Value) (A : Around) (outer : List Env) (s : Shared) (H : Hp) (E : XK) : Cx :=
  cxOf (L2.CX P w) P w K mg base N x sc f cdv A outer s H E
theorem pcall {N : List Str} {x : Str} {sc : Scope} {f : Addr} {cdv : Value} {A : Around} {outer : List Env} {s : Shared} {H : Hp} {E : XK} : Passes (L2.CX P w) (XB P w K mg base N x sc f cdv A outer s H E) E :=
  passes_call (takes_of rfl rfl rfl rfl) fun _ _ _ _ h => h
theorem envR_start {M : Kx} {F : Addr → Prop} {H : Hp} {ds : List D} {vs : List V} (r : Reps M F H ds vs) (N : List Str) : EnvR M F H (ds.map some ++ List.replicate (N.length - ds.length) none) (L2.start N vs) := by
  have hl := r.length
  refine ⟨by simp [L2.start, hl], fun i d h => ?_⟩
  unfold L2.start
  by_cases hi : i < ds.length
  · rw [List.getElem?_append_left (by simpa using hi), List.getElem?_map] at h
    cases e : ds[i]? with
    | none => rw [e] at h; cases h
    | some d' =>
      rw [e] at h
      cases h
      obtain ⟨v, ev, rv⟩ := r.get e
      exact ⟨v, by rw [List.getElem?_append_left (by simpa [← hl] using hi), List.getElem?_map, ev]; rfl, rv⟩
  · rw [List.getElem?_append_right (by simpa using Nat.le_of_not_lt hi)] at h
    rw [List.getElem?_replicate] at h
    split at h <;> cases h
theorem fk_mk {k : Nat} {x : Str} {st : Stmt} {f : Addr} {fd : FuncData} {N ps : List Str} {sp : DSp} {wb : WS} (F : Fun K x x st f fd) (hmg : mg x = some (.ref f)) (S : FnScope N ps (defScope st)) (hb : Binds K fd ps []) (ar : Arity sp ps.length) (m : Meets sp N.length wb)
    (d : ∀ (cdv : Value) (A : Around) (outer : List Env) (s : Shared) (H : Hp) (E : XK), Room k (A.deeper (envOfC x (defScope st) s.heap.objs.size f cdv)) → DSs (XB P w K mg base N x (defScope st) f cdv A outer s H E) E (defBody st) wb) :
    FK P w K mg base (L2.CX P w) (k + 1) x ps.length sp := by
  refine ⟨f, fd, ps, hmg, F.kp, rfl, hb, F.okX S (fun vs H Q E ⟨Pr, ds, S', Qd, Ed, st', r, h, _⟩ => by rw [← r.length]; exact ar ds S' Qd Ed h) fun cdv A outer s H vs Q E hr hsp => ?_⟩
  obtain ⟨Pr, ds, S', Qd, Ed, st', r, h, g, ex⟩ := hsp
  refine ⟨_, (d cdv A outer s H E hr).ps, Pr, _, S', { nx := fun _ S'' => Fz Qd .non S'', rt := Qd, ex := Ed }, ⟨envR_start r N, st', ex⟩, m ds S' Qd Ed h, ⟨?_, fun _ _ _ _ _ _ q => q.elim, fun _ _ _ _ _ _ q => q.elim, g⟩⟩
  rintro s2 S2 sv2 H2 ev cu ⟨d', S3, hs, fz, q⟩
  obtain ⟨t2, e2⟩ := cu.sto.sub hs
  exact g d' S3 .non H2 (ev.trans e2) t2 (fz_rep cu.sto hs fz .non) q
theorem fkk_mk {k n : Nat} {x : Str} {st : Stmt} {f : Addr} {fd : FuncData} {N ps ks : List Str} {ix : List Nat} {sp : DSp} {wb : WS} (F : Fun K x x st f fd) (hmg : mg x = some (.ref f)) (S : FnScope N ps (defScope st)) (ar : Arity sp ps.length) (m : Meets sp N.length wb)
    (hp : 0 < ps.length) (kb : ∀ (s : Shared) (us ws : List Value), us.length = n → ws.length = ks.length → BindsTo s fd ⟨us, ks.zip ws⟩ (ps.zip (pm ix (us ++ ws))))
    (d : ∀ (cdv : Value) (A : Around) (outer : List Env) (s : Shared) (H : Hp) (E : XK), Room k (A.deeper (envOfC x (defScope st) s.heap.objs.size f cdv)) → DSs (XB P w K mg base N x (defScope st) f cdv A outer s H E) E (defBody st) wb) :
    FKk P w K mg base (L2.CX P w) (k + 1) x n ks.length ks ix sp := by
  refine ⟨f, fd, ps, hmg, F.kp, ⟨fun s us ws _ hl => ?_, fun {vs us zs ws} r1 r2 => ?_⟩, F.okX S (fun vs H Q E ⟨Pr, ds, S', Qd, Ed, st', r, h, _⟩ => by rw [← r.length]; exact ar ds S' Qd Ed h) fun cdv A outer s H vs Q E hr hsp => ?_⟩
  · unfold pmk at hl ⊢
    split at hl
    · next h => rw [if_pos h]; exact kb s us ws h.1 h.2
    · exact absurd hl (by simp; omega)
  · unfold pmk
    rw [r1.length, r2.length]
    split
    · exact vals_pm (r1.append r2) ix
    · exact .nil
  obtain ⟨Pr, ds, S', Qd, Ed, st', r, h, g, ex⟩ := hsp
  refine ⟨_, (d cdv A outer s H E hr).ps, Pr, _, S', { nx := fun _ S'' => Fz Qd .non S'', rt := Qd, ex := Ed }, ⟨envR_start r N, st', ex⟩, m ds S' Qd Ed h, ⟨?_, fun _ _ _ _ _ _ q => q.elim, fun _ _ _ _ _ _ q => q.elim, g⟩⟩
  rintro s2 S2 sv2 H2 ev cu ⟨d', S3, hs, fz, q⟩
  obtain ⟨t2, e2⟩ := cu.sto.sub hs
  exact g d' S3 .non H2 (ev.trans e2) t2 (fz_rep cu.sto hs fz .non) q
end
end Dl
set_option Elab.async false
set_option linter.all false
set_option maxRecDepth 100000
/-! Dr8: zip, enumerate; sorted, sets; raise; constants of the module. -/
namespace Dl
open PySem PySem.Spec PyProof.Rows L2
open RZ (ItzT pi_zipA)

theorem hu0 {k : Nat} {A : Around} (hr : Room k A) : A.units < cLine := hr.units0
theorem hu1 {k : Nat} {A : Around} (hr : Room k A) : A.units + 1 < cLine := by have := hr.un; omega
theorem hu64 {k : Nat} {A : Around} (hr : Room k A) : A.units + 64 < cLine := by have := hr.un; omega
theorem hu66 {k : Nat} {A : Around} (hr : Room k A) : A.units + 66 < cLine := by have := hr.un; omega

section
variable {X : Cx} {xk : XK}
theorem de_gint {x : Str} {v : Int} {pos : Pos} (hm : ∃ t, X.mg x = some (.int v t)) (hg : Gl X x) (hd : (x == ("__debug__" : Str)) = false := by decide) : DE X xk (.Name x pos) (wC (.int v)) := by
  obtain ⟨t, e⟩ := hm
  exact de_c (t := L2.tC (.int v)) (pe_glob (v := .int v) hg e ⟨t, rfl⟩ hd) fun _ _ => .int v

/-! lengths -/
def LenOk (K : PySem.W.Frag) (H : Hp) : Prop := (∀ a xs, SqL K H a xs → xs.length ≤ sizeLine) ∧ ∀ a xs, SqT K H a xs → xs.length ≤ sizeLine
theorem lenOk {pins : List (Addr × Obj)} {σ : L2.St} {H : Hp} {s : Shared} (I : Inv X pins σ H s) : LenOk X.K H := ⟨fun a xs h => let ⟨_, _, _, z⟩ := I.list h; z, fun a xs h => let ⟨_, _, _, z⟩ := I.tuple h; z⟩
theorem PA.len {es : List Expr} {t : TA} (h : PA X es t) : PA X es (fun σ H Q => t σ H fun vs H1 => LenOk X.K H1 → Q vs H1) :=
  ⟨fun p pins s σ H Q I hw => thn (h.run p pins s σ H _ I hw) fun us s' ⟨vs, H', I', r, q⟩ => ⟨vs, H', I', r, q (lenOk I')⟩⟩

/-! ### zip -/
section
variable {M : Kx} {Pr : Addr → Prop} {S0 : Store} {H0 : Hp} {a b : Addr}
theorem zipD_get {xs ys : List D} {i : Nat} {d : D} (h : (zipD xs ys)[i]? = some d) : ∃ x y, xs[i]? = some x ∧ ys[i]? = some y ∧ d = .tup [x, y] := by
  unfold zipD at h
  rw [List.getElem?_zipWith] at h
  cases e : xs[i]? with
  | none => rw [e] at h; cases h
  | some x =>
    cases e2 : ys[i]? with
    | none => rw [e, e2] at h; cases h
    | some y => rw [e, e2] at h; cases h; exact ⟨x, y, rfl, rfl, rfl⟩
theorem zipD_len {xs ys : List D} : (zipD xs ys).length = min xs.length ys.length := by unfold zipD; simp
theorem pair_new {M : Kx} {Pr : Addr → Prop} {S : Store} {H : Hp} {T : Addr} {x y : D} {u v : V} (t : Sto M Pr S H) (h : H T = none) (ru : Rep M (Fr Pr S) H x u) (rv : Rep M (Fr Pr S) H y v) :
    Evo S H S (upd H T (.tup [u, v])) ∧ Sto M Pr S (upd H T (.tup [u, v])) ∧ Rep M (Fr Pr S) (upd H T (.tup [u, v])) (.tup [x, y]) (.ref T) := by
  obtain ⟨t', ev⟩ := t.new (o := .tup [u, v]) h
  exact ⟨ev, t', .tup (FT.new t h) (.cons (ru.mono ev.kept) (.cons (rv.mono ev.kept) .nil))⟩
theorem walkD_zipL {x y : D} {xs ys : List D} (rx : Rep M (Fr Pr S0) H0 x (.ref a)) (ry : Rep M (Fr Pr S0) H0 y (.ref b)) : WalkD M Pr (Itz M.K a b) (zipD xs ys) (fun S => lstOf S x = some xs ∧ lstOf S y = some ys) S0 H0 := by
  intro Pr' S H hp e t ⟨hx, hy⟩
  obtain ⟨a', vs, ea, hs, rs⟩ := t.lstOf (rx.mono (kept_walk hp e)) hx
  obtain ⟨b', us, eb, hs2, rs2⟩ := t.lstOf (ry.mono (kept_walk hp e)) hy
  cases ea
  cases eb
  have l1 := rs.length
  have l2 := rs2.length
  rw [zipD_len]
  refine ⟨fun i hi => ?_, ⟨vs, us, SqL.of hs, SqL.of hs2, ?_⟩, fun i d v H' hi hy => ?_⟩
  · exact ⟨vs, us, vs[i]'(by omega), us[i]'(by omega), SqL.of hs, SqL.of hs2, by simp, by simp⟩
  · omega
  · obtain ⟨T, u1, u2, rfl, hT, rfl, f1, f2⟩ := hy
    obtain ⟨d1, d2, g1, g2, rfl⟩ := zipD_get hi
    obtain ⟨w1, e1, r1⟩ := rs.get g1
    obtain ⟨w2, e2, r2⟩ := rs2.get g2
    have k1 := f1 vs (SqL.of hs)
    have k2 := f2 us (SqL.of hs2)
    rw [e1] at k1; rw [e2] at k2
    cases k1; cases k2
    exact pair_new t hT r1 r2
theorem walkD_zipT {xs ys : List D} {chk : Store → Prop} (rx : Rep M (Fr Pr S0) H0 (.tup xs) (.ref a)) (ry : Rep M (Fr Pr S0) H0 (.tup ys) (.ref b)) : WalkD M Pr (ItzT M.K a b) (zipD xs ys) chk S0 H0 := by
  intro Pr' S H hp e t _
  cases rx with
  | tup ht rs0 =>
    cases ry with
    | tup ht2 rs20 =>
      rename_i vs us
      have rs := rs0.mono (kept_walk hp e)
      have rs2 := rs20.mono (kept_walk hp e)
      have hs := (ht.mono (kept_walk hp e)).sq
      have hs2 := (ht2.mono (kept_walk hp e)).sq
      have l1 := rs.length
      have l2 := rs2.length
      rw [zipD_len]
      refine ⟨fun i hi => ?_, ⟨vs, us, hs, hs2, ?_⟩, fun i d v H' hi hy => ?_⟩
      · exact ⟨vs, us, vs[i]'(by omega), us[i]'(by omega), hs, hs2, by simp, by simp⟩
      · omega
      · obtain ⟨T, u1, u2, rfl, hT, rfl, f1, f2⟩ := hy
        obtain ⟨d1, d2, g1, g2, rfl⟩ := zipD_get hi
        obtain ⟨w1, e1, r1⟩ := rs.get g1
        obtain ⟨w2, e2, r2⟩ := rs2.get g2
        have k1 := f1 vs hs
        have k2 := f2 us hs2
        rw [e1] at k1; rw [e2] at k2
        cases k1; cases k2
        exact pair_new t hT r1 r2
end
theorem di_zip {e e2 : Expr} {we we2 : WE} {p pos tpos : Pos} {elts : List Expr} {kk : Nat} (hc : X.calm = true) (hg : Gl X "zip") (hm : X.mg "zip" = none) (ha : DE X xk e we) (hb : DE X xk e2 we2)
    (hs : starEach [e, e2] X.env = (false, eval e X.env) :: starEach [e2] X.env := by rfl) (hs2 : starEach [e2] X.env = (false, eval e2 X.env) :: starEach [] X.env := by rfl) (hpl : (backTo pos (starEach [e2] X.env)).any (·.1) = false := by rfl) :
    DI X xk (.Tuple elts kk tpos) (.Call (.Name "zip" p) [e, e2] [] pos) (wiZip we we2) := by
  refine ⟨(pi_zipA hg hm (PA.len (pa_cons ha.pe (pa_cons hb.pe pa_nil hs2) hs)) hs hpl).weak fun sv H R ⟨Pr, E, s, S, QI, cu, q, g⟩ => ?_⟩
  refine ⟨Pr, E, s, S, _, cu, q, fun x S1 v H1 e1 t1 r1 q1 => ⟨Pr, E, s, S1, _, cu.go e1 t1, q1, fun y S2 u H2 e2 t2 r2 q2 => fun len => ?_⟩⟩
  obtain ⟨xs, ys, hb, q2⟩ := q2
  have r1' := r1.mono e2.kept
  rcases hb with ⟨h1, h2⟩ | ⟨rfl, rfl⟩
  · obtain ⟨a, vs, rfl, hs, rs⟩ := t2.lstOf r1' h1
    obtain ⟨b, us, rfl, hs2, rs2⟩ := t2.lstOf r2 h2
    refine ⟨a, b, vs, us, rfl, .inl ⟨SqL.of hs, SqL.of hs2, g _ _ _ _ _ (e1.trans e2) t2 ?_ ?_ q2⟩⟩
    · have := len.1 a vs (SqL.of hs)
      rw [zipD_len, rs.length]; omega
    · refine fun Pr' S H hp e t hc => ?_
      rcases hc with hc | ⟨rfl, rfl⟩
      · exact walkD_zipL r1' r2 Pr' S H hp e t hc
      · cases h1
  · cases r1' with
    | tup ht rs =>
      cases r2 with
      | tup ht2 rs2 =>
        refine ⟨_, _, _, _, rfl, .inr ⟨ht.sq, ht2.sq, g _ _ _ _ _ (e1.trans e2) t2 ?_ (walkD_zipT (.tup ht rs) (.tup ht2 rs2)) q2⟩⟩
        have := len.2 _ _ ht.sq
        rw [zipD_len, rs.length]; omega

/-! ### enumerate -/
def IteT (a : Addr) : It :=
  ⟨fun i H => ∃ (xs : List V) (x : V), H a = some (.tup xs) ∧ xs[i]? = some x, fun i H v H' => ∃ T x, v = .ref T ∧ H T = none ∧ H' = upd H T (.tup [.int (i : Nat), x]) ∧ ∀ xs, H a = some (.tup xs) → xs[i]? = some x, fun i H => ∃ xs : List V, H a = some (.tup xs) ∧ xs.length = i⟩
theorem turn_enumT {P : Program} {w : World} {K : PySem.W.Frag} {elts : List Expr} {kk : Nat} {tpos : Pos} (a e it : Addr) :
    Turn P w K (.Tuple elts kk tpos) (IteT a) [e, it] e (fun i h => (∃ old, IsEnum h e it ((i : Nat) : Int) old) ∧ h.IsTupleIter it a i ∧ e ≠ it ∧ a ≠ it ∧ a ≠ e) where
  mem := by simp
  obj := fun i h st b hb => by
    obtain ⟨⟨old, he⟩, ⟨o, ho, hc, hd⟩, _⟩ := st
    rcases (show b = e ∨ b = it by simpa using hb) with z | z
    · rw [z]; exact ⟨_, he, fun v q => nomatch q⟩
    · rw [z]; exact ⟨o, ho, fun v q => by rw [hd] at q; cases q⟩
  keep := fun i h h' st k => let ⟨⟨old, he⟩, hi, hne⟩ := st; ⟨⟨old, k e (by simp) _ he⟩, hi.at fun o q => k it (by simp) o q, hne⟩
  item := by
    intro X hP hw hK hc i pins s σ H E I hf st hg
    subst hP hw hK
    obtain ⟨⟨old, he⟩, hit, hne, hn1, hn2⟩ := st
    obtain ⟨xs, x, hq, hx⟩ := hg
    obtain ⟨its, rv, p, hz⟩ := I.tuple (.inl (.inl hq))
    obtain ⟨u, hu, ru⟩ := rv.get hx
    have hlt : i < its.toArray.size := by simpa using (List.getElem?_eq_some_iff.mp hu).1
    have hel : e < s.heap.objs.size := Heap.lt_size he
    have hil : it < s.heap.objs.size := by obtain ⟨_, q, _⟩ := hit; exact Heap.lt_size q
    refine wpAny_pyNext_enum_itemD (Draws.tuple (A := X.A.in1) (I.ok.hd hc) it a hn1 its.toArray) he ⟨hit, p⟩ hlt hne (by simp [hne, Ne.symm hn2]) fun u' h' tk hu' ho hit' hT hsz hk => ?_
    obtain rfl : u' = u := by
      have h2 : its.toArray[i]? = some u := by simpa using hu
      exact Option.some.inj (hu'.symm.trans h2)
    refine ⟨_, rfl, wpAny_letOwnedTupleGo_enum (s := { s with heap := h', toks := tk + 1 }) ho fun h'' he' sb => ?_⟩
    have hT2 : h''.get? s.heap.objs.size = some { cls := .type "tuple", data := .seq #[.int i tk, u'] } := (sb.2 _ (Nat.ne_of_gt hel)).trans hT
    have new : ObjOk X.prog X.w (upd H s.heap.objs.size (.tup [.int (i : Nat), x])) h'' s.heap.objs.size (.tup [.int (i : Nat), x]) :=
      ⟨by show 2 ≤ sizeLine; decide, [.int i tk, u'], .cons ⟨_, rfl⟩ (.cons ru .nil), ⟨_, hT2, rfl, _, rfl⟩⟩
    have I1 : Inv X pins σ (upd H s.heap.objs.size (.tup [.int (i : Nat), x])) { s with heap := h'', toks := tk + 1 } :=
      I.turnedNew (ch := [e, it]) (fun b ob hb q => (sb.2 b (fun z => hb (by simp [z]))).trans (hk b ob (fun z => hb (by simp [z])) (fun z => hb (by simp [z])) q)) hf (Nat.le_refl _) new
    refine ⟨.ref s.heap.objs.size, _, I1, rfl, ⟨_, x, rfl, I.hok.fresh (Nat.le_refl _), rfl, fun ys hy => by rw [hq] at hy; cases hy; exact hx⟩, ⟨⟨u', ?_⟩, hit'.1.at fun o q => (sb.2 it (Ne.symm hne)).trans q, hne, hn1, hn2⟩, fun b hb => ?_⟩
    · have e1 : ((i + 1 : Nat) : Int) = (i : Int) + 1 := by omega
      rw [e1]; exact he'
    · have hb' : b < s.heap.objs.size := by
        rcases (show b = e ∨ b = it by simpa using hb) with z | z
        · rw [z]; exact hel
        · rw [z]; exact hil
      rw [upd_ne (Nat.ne_of_lt hb')]
      exact (hf b hb).1
  done := by
    intro X hP hw hK hc i pins s σ H E I hf st hg
    subst hP hw hK
    obtain ⟨⟨old, he⟩, hit, hne, hn1, hn2⟩ := st
    obtain ⟨xs, hq, hx⟩ := hg
    obtain ⟨its, rv, p, hz⟩ := I.tuple (.inl (.inl hq))
    obtain ⟨f0, f1, f2, f3, f4, f5⟩ := hf it (by simp)
    have hl := rv.length
    have hge : i = its.toArray.size := by simp; omega
    subst hge
    exact wpAny_pyNext_enum_endD (Draws.tuple (prog := X.prog) (w := X.w) (A := X.A.in1) (I.ok.hd hc) it a hn1 its.toArray) he ⟨hit, p⟩ fun h' eb => ⟨rfl, I.turned (t' := s.toks) (fun b o hb q => eb b o hb q) f0 f1 f3 f4 f5⟩
  self := fun A i s Q E st h => let ⟨⟨_, he⟩, _⟩ := st; wpAny_pyIter_enum he h

open AutoSeq1 (wpAny_loadPart') in
theorem meets_enum_newT (l : Addr) (items : Array Value) (n : Nat) (dct : Option Addr) (sl : Array (Option Value)) :
    PySem.Meets (Builtin.«enumerate.__new__» ⟨[.type "enumerate", .ref l], []⟩) (fun _ R s => s.heap.get? l = some { cls := .type "tuple", dict := dct, data := .seq items n, slots := sl } ∧
      R (.ok (.ret (.ref (s.heap.push { cls := .type "tuple_iterator", data := .fields #[.ref l, .int 0 0] }).objs.size)))
        { s with heap := (s.heap.push { cls := .type "tuple_iterator", data := .fields #[.ref l, .int 0 0] }).push { cls := .type "enumerate", data := .fields #[.none, .bool false, .ref s.heap.objs.size, rawInt 0, .none, .none] } }) :=
  .of_wp fun prog w A R s h => by
    obtain ⟨hp, g, d, tk, os⟩ := s; obtain ⟨hl, h⟩ := h
    have hsub := sub_enumerate
    have hL : Heap.IsTuple (Shared.heap ⟨hp, g, d, tk, os⟩) l items := ⟨_, hl, rfl, n, rfl⟩
    wp_walk using wpAny_loadPart' hl
    refine wpAny_stack_any fun st => wpAny_pure ?_
    split
    · rename_i c _ _ _ _ _
      cases (c == Value.type "enumerate")
      · wp_walk using wpAny_loadPart' hl, wpAny_pyIter_tuple hL
        exact ⟨_, rfl, h⟩
      · wp_walk using wpAny_loadPart' hl, wpAny_pyIter_tuple hL
        exact ⟨_, rfl, h⟩
    · wp_walk using wpAny_loadPart' hl, wpAny_pyIter_tuple hL
      exact ⟨_, rfl, h⟩
theorem call_enum_tup {prog : Program} {w : World} {A : Around} {E : Value → Shared → Prop} {s : Shared} {l : Addr} {items : Array Value} {Q : Value → Shared → Prop} (hL : IsTup s.heap l items)
    (h : ∀ h', IsEnum h' (s.heap.objs.size + 1) s.heap.objs.size 0 .none → h'.IsTupleIter s.heap.objs.size l 0 → (∀ b o, s.heap.get? b = some o → h'.get? b = some o) → Q (.ref (s.heap.objs.size + 1)) { s with heap := h' }) :
    wpAny (model prog w) A (call (.type "enumerate") [.ref l]) Q E s := by
  obtain ⟨⟨c, dct, dt, sl⟩, hl, hc, n, hd⟩ := hL
  replace hc : c = .type "tuple" := hc
  replace hd : dt = .seq items n := hd
  subst hc hd
  refine callType_new PySem.F.called_enumerate (by decide) (PySem.F.typeCall_enumerate_1 _) (PySem.F.newCall_enumerate_1 _) (fun obj => PySem.F.args_object_init_2 obj _) PySem.F.entry_enumerate_new
    (meets_enum_newT l items n dct sl) ⟨hl, ?_⟩
  have hz : (s.heap.push { cls := .type "tuple_iterator", data := .fields #[.ref l, .int 0 0] }).objs.size = s.heap.objs.size + 1 := Heap.size_push ..
  show _ ∧ _
  rw [hz]
  have he : IsEnum ((s.heap.push { cls := .type "tuple_iterator", data := .fields #[.ref l, .int 0 0] }).push
      { cls := .type "enumerate", data := .fields #[.none, .bool false, .ref s.heap.objs.size, rawInt 0, .none, .none] }) (s.heap.objs.size + 1) s.heap.objs.size 0 .none := by
    have := Heap.get?_push_size (s.heap.push { cls := .type "tuple_iterator", data := .fields #[.ref l, .int 0 0] })
      (o := { cls := .type "enumerate", data := .fields #[.none, .bool false, .ref s.heap.objs.size, rawInt 0, .none, .none] }) rfl
    rw [hz] at this; exact this
  exact ⟨⟨_, he, rfl⟩, h _ he ⟨_, Heap.get?_push_of_some _ (Heap.get?_push_size _ rfl), rfl, rfl⟩ fun b o x => Heap.get?_push_of_some _ (Heap.get?_push_of_some _ x)⟩
def iEnumB (K : PySem.W.Frag) (ta : TA) : TI := fun σ H R => ta σ H fun vs H1 => ∃ a xs, vs = [.ref a] ∧ ((SqL K H1 a xs ∧ R (Ite K a) H1) ∨ (H1 a = some (.tup xs) ∧ R (IteT a) H1))
theorem pi_enumB {e : Expr} {ta : TA} {p pos tpos : Pos} {elts : List Expr} {kk : Nat} (hg : Gl X "enumerate") (hm : X.mg "enumerate" = none) (ha : PA X [e] ta) (hs : starEach [e] X.env = [(false, eval e X.env)] := by rfl) :
    PI X (.Tuple elts kk tpos) (.Call (.Name "enumerate" p) [e] [] pos) (iEnumB X.K ta) := by
  refine ⟨fun pins s σ H R I h => ?_⟩
  refine Call_ (ld_blt I hg hm boot_enumerate (PyProof.Rows.callWith_type1 (thn (ha.run pos pins s σ H _ I h) fun us s1 ⟨vs, H1, I1, r1, q1⟩ => ?_) hs rfl))
  obtain ⟨a, xs, ex, q⟩ := q1
  subst ex
  cases r1 with
  | cons r rr =>
    cases rr
    cases r
    have fr : ∀ b ∈ [s1.heap.objs.size + 1, s1.heap.objs.size], FpOk X pins H1 b := fun b hb => by
      have hle : s1.heap.objs.size ≤ b := by
        rcases (show b = s1.heap.objs.size + 1 ∨ b = s1.heap.objs.size by simpa using hb) with z | z
        · rw [z]; exact Nat.le_add_right _ _
        · rw [z]; exact Nat.le_refl _
      exact I1.fpOk hle (I1.hok.fresh hle)
    rcases q with ⟨hq, q⟩ | ⟨hq, q⟩
    · obtain ⟨its, rv, p', hz⟩ := I1.list hq
      refine call_enumerate_list p'.isList fun h' he hit hsz hk => wpAny_pyIter_enum he ?_
      exact ⟨s1.heap.objs.size + 1, [s1.heap.objs.size + 1, s1.heap.objs.size], _, _, H1, rfl, I1.kept (t' := s1.toks) hk, turn_enum a (s1.heap.objs.size + 1) s1.heap.objs.size, ⟨⟨.none, he⟩, hit, Nat.succ_ne_self _⟩, fr, q⟩
    · obtain ⟨its, rv, p', hz⟩ := I1.tuple (.inl (.inl hq))
      have hla : a < s1.heap.objs.size := p'.lt
      refine call_enum_tup p' fun h' he hit hk => wpAny_pyIter_enum he ?_
      exact ⟨s1.heap.objs.size + 1, [s1.heap.objs.size + 1, s1.heap.objs.size], _, _, H1, rfl, I1.kept (t' := s1.toks) hk, turn_enumT a (s1.heap.objs.size + 1) s1.heap.objs.size,
        ⟨⟨.none, he⟩, hit, Nat.succ_ne_self _, Nat.ne_of_lt hla, Nat.ne_of_lt (Nat.lt_succ_of_lt hla)⟩, fr, q⟩
theorem enum_len : ∀ (n : Nat) (xs : List D), (enumFrom n xs).length = xs.length
  | _, [] => rfl
  | n, x :: r => by simp [enumFrom, enum_len (n + 1) r]
theorem enum_get : ∀ {n : Nat} {xs : List D} {i : Nat} {d : D}, (enumFrom n xs)[i]? = some d → ∃ x, xs[i]? = some x ∧ d = .tup [.int (n + i : Nat), x]
  | n, x :: r, 0, d, h => by
    cases h
    exact ⟨x, rfl, rfl⟩
  | n, x :: r, i + 1, d, h => by
    obtain ⟨y, h1, h2⟩ := enum_get (n := n + 1) (xs := r) (i := i) (d := d) (by simpa [enumFrom] using h)
    exact ⟨y, by simpa using h1, by rw [h2, show n + 1 + i = n + (i + 1) by omega]⟩
theorem di_enum {e : Expr} {we : WE} {p pos tpos : Pos} {elts : List Expr} {kk : Nat} (hc : X.calm = true) (hg : Gl X "enumerate") (hm : X.mg "enumerate" = none) (ha : DE X xk e we)
    (hs : starEach [e] X.env = (false, eval e X.env) :: starEach [] X.env := by rfl) : DI X xk (.Tuple elts kk tpos) (.Call (.Name "enumerate" p) [e] [] pos) (wiEnum we) := by
  refine ⟨(pi_enumB hg hm (PA.len (pa_cons ha.pe pa_nil hs)) hs).weak fun sv H R ⟨Pr, E, s, S, QI, cu, q, g⟩ => ?_⟩
  refine ⟨Pr, E, s, S, _, cu, q, fun x S1 v H1 e1 t1 r1 q1 => fun len => ?_⟩
  obtain ⟨xs, hx, q1⟩ := q1
  rcases hx with hx | rfl
  · obtain ⟨a, vs, rfl, hs, rs⟩ := t1.lstOf r1 hx
    refine ⟨a, vs, rfl, .inl ⟨SqL.of hs, g _ _ _ _ _ e1 t1 ?_ ?_ q1⟩⟩
    · rw [enum_len, rs.length]; exact len.1 a vs (SqL.of hs)
    · intro Pr' S H hp e t hc'
      have hc : lstOf S x = some xs := by
        rcases hc' with hc' | rfl
        · exact hc'
        · cases hx
      obtain ⟨a', vs', ea, hs', rs'⟩ := t.lstOf (r1.mono (kept_walk hp e)) hc
      cases ea
      have hl := rs'.length
      rw [enum_len]
      refine ⟨fun i hi => ⟨vs', vs'[i]'(by omega), SqL.of hs', by simp⟩, ⟨vs', SqL.of hs', by omega⟩, fun i d v H' hi hy => ?_⟩
      obtain ⟨T, u, rfl, hT, rfl, f⟩ := hy
      obtain ⟨y, hy, rfl⟩ := enum_get hi
      obtain ⟨w, ew, rw'⟩ := rs'.get hy
      have k := f vs' (SqL.of hs')
      rw [ew] at k; cases k
      rw [Nat.zero_add]
      exact pair_new t hT (.int _) rw'
  · have r1' := r1
    cases r1 with
    | tup ht rs =>
      rename_i a vs
      refine ⟨a, vs, rfl, .inr ⟨ht.1, g _ _ _ _ _ e1 t1 ?_ ?_ q1⟩⟩
      · rw [enum_len, rs.length]; exact len.2 a vs ht.sq
      · intro Pr' S H hp e t _
        have rs' := rs.mono (kept_walk hp e)
        have hs' := (ht.mono (kept_walk hp e)).1
        have hl := rs'.length
        rw [enum_len]
        refine ⟨fun i hi => ⟨vs, vs[i]'(by omega), hs', by simp⟩, ⟨vs, hs', by omega⟩, fun i d v H' hi hy => ?_⟩
        obtain ⟨T, u, rfl, hT, rfl, f⟩ := hy
        obtain ⟨y, hy, rfl⟩ := enum_get hi
        obtain ⟨w, ew, rw'⟩ := rs'.get hy
        have k := f vs hs'
        rw [ew] at k; cases k
        rw [Nat.zero_add]
        exact pair_new t hT (.int _) rw'

/-! ### sorted -/
theorem rep_ints_of {M : Kx} {F : Addr → Prop} {H : Hp} : ∀ {ns : List Int} {vs : List V}, Reps M F H (ns.map D.int) vs → vs = ns.map V.int
  | [], _, .nil => rfl
  | _ :: _, _, .cons r t => by rw [r.intE, rep_ints_of t]; rfl
theorem reps_of_ints {M : Kx} {F : Addr → Prop} {H : Hp} : ∀ ns : List Int, Reps M F H (ns.map D.int) (ns.map V.int)
  | [] => .nil
  | _ :: r => .cons (.int _) (reps_of_ints r)
theorem isort_perm (ns : List Int) : (isort ns).Perm ns := List.mergeSort_perm _ _
theorem isort_pair (ns : List Int) : (isort ns).Pairwise (· ≤ ·) := by
  have := List.pairwise_mergeSort (le := fun a b : Int => decide (a ≤ b)) (by intro a b c; simp; omega) (by intro a b; simp; omega) ns
  exact this.imp (by intro a b h; simpa using h)
theorem sorted_uniq {α : Type} {r : α → α → Prop} (anti : ∀ a b, r a b → r b a → a = b) : ∀ {l m : List α}, l.Perm m → l.Pairwise r → m.Pairwise r → l = m := by
  intro l m h hl hm
  exact List.Perm.eq_of_pairwise (fun a b _ _ h1 h2 => anti a b h1 h2) hl hm h
theorem isort_uniq {ns ms : List Int} (h : ms.Perm ns) (p : ms.Pairwise (· ≤ ·)) : ms = isort ns :=
  sorted_uniq (fun a b h1 h2 => by omega) (h.trans (isort_perm ns).symm) p (isort_pair ns)
end
end Dl
set_option Elab.async false
set_option linter.all false
set_option maxRecDepth 100000
/-! Dr9: set(list of ints); sorted; len of a set. -/
namespace Dl
open PySem PySem.Spec PyProof.Rows L2

section
variable {P : Program} {w : World} {A : Around} {E : Value → Shared → Prop} {s : Shared}
/-- a new set, as it stands -/
abbrev newSet (w : World) : Obj := { cls := .type "set", dict := none, data := .set #[] 0 (.fresh 0 0 (!w.params.followText "set-order")) }
set_option maxHeartbeats 3200000 in
theorem call_set_lstI {l : Addr} {items : Array Value} (ns : List Int) {Q : Value → Shared → Prop} (hh : A.handled = none) (hl : s.heap.IsList l items) (hit : IntsAre items.toList ns) (hb : ns.length + 1 < scanBound)
    (h : ∀ (h' : Heap) (tk c : Nat), SetR w h' s.heap.objs.size (fun j => decide (j ∈ ns)) c → c ≤ ns.length → (∀ b o, s.heap.get? b = some o → h'.get? b = some o) → Q (.ref s.heap.objs.size) { s with heap := h', toks := tk }) :
    wpAny (model P w) A (call (.type "set") [.ref l]) Q E s := by
  have hisz : items.size = ns.length := by
    have q := IntsAre.length hit
    rwa [Array.length_toList] at q
  obtain ⟨c, tl, hmro⟩ := PySem.F.called_set.mro
  have hmade := PySem.F.called_set.made
  have hsub := PySem.F.called_set.sub
  refine wpAny_call (codeAny_of_tree ?_)
  show wpAny _ _ (callAny (.type "set") _) _ _ _
  refine wpAny_pure ⟨Code.quiet_builtin _ (by decide +kernel), codeAny_builtin PySem.F.entry_type_call ?_⟩
  rw [Around.under_plain (weight_type_call_type "set" [.ref l] []) rfl]
  have h1 := PySem.F.called_set.notType
  have h2 := PySem.F.called_set.canCreate
  have hct := PySem.F.typeCall_set_1 (.ref l)
  repeat (any_goals (first | assumption | wp_step))
  refine codeAny_mono (code_set_led1 (.ref l) (E := E) (Q₁ := fun obj s₁ => obj = .ref s.heap.objs.size ∧ s₁ = { s with heap := s.heap.push (newSet w) }) ⟨rfl, rfl⟩) fun r s₁ hr => ?_
  match r, hr with
  | .error e, hr => exact hr
  | .ok .next, hr => exact hr.elim
  | .ok .brk, hr => exact hr.elim
  | .ok .cont, hr => exact hr.elim
  | .ok (.ret obj), hr =>
    obtain ⟨rfl, rfl⟩ := hr
    have hS : (s.heap.push (newSet w)).get? s.heap.objs.size = some (newSet w) := Heap.get?_push_size _ rfl
    have hT : Shared.TypeIs { s with heap := s.heap.push (newSet w) } (.ref s.heap.objs.size) "set" := ⟨_, hS, rfl⟩
    have hli := PySem.F.called_set.init.lookup
    have hbi := PySem.F.called_set.init.bind (.ref s.heap.objs.size)
    repeat (any_goals (first | assumption | wp_step))
    refine codeAny_mono (codeAny_call_builtin (R := wants (fun r s₂ => r = .none ∧ ∃ h' tk c, s₂ = { s with heap := h', toks := tk } ∧ SetR w h' s.heap.objs.size (fun j => decide (j ∈ ns)) c ∧ c ≤ ns.length ∧
        (∀ b o, s.heap.get? b = some o → h'.get? b = some o)) E) PySem.F.called_set.init.plain PySem.F.entry_set_init (check_set_init_1 hT ?_)) fun r₂ s₂ hr₂ => ?_
    · obtain ⟨⟨ocls, odict, odata, oslots⟩, hol, hcl, nl, hdl⟩ := hl
      simp only at hcl hdl
      subst hcl hdl
      have hol' : (s.heap.push (newSet w)).get? l = some { cls := .type "list", dict := odict, data := .seq items nl, slots := oslots } := Heap.get?_push_of_some _ hol
      have hsls := PySem.F.sub_list_set
      have hslf := PySem.F.sub_list_frozenset
      have hne : (Value.type "list" == Value.type "dict") = false := by decide
      have hl1 : (s.heap.push (newSet w)).IsList l items := ⟨_, hol', rfl, nl, rfl⟩
      unfold Builtin.«set.__init__» noKeywords Builtin.Frozenset.updateFrom
      generalize hPI : pyIter = PI
      wp_walk
      subst hPI
      refine wpAny_pyIter_list hl1 ?_
      refine wpAny_bind (wpAny_runValue ?_)
      have hlS : l < s.heap.objs.size := Heap.lt_size hol
      have hh3 : A.in1.in1.in1.handled = none := by simp [hh]
      have hz1 : (s.heap.push (newSet w)).objs.size = s.heap.objs.size + 1 := Heap.size_push ..
      have hneI : l ≠ (s.heap.push (newSet w)).objs.size := by
        rw [hz1]; exact Nat.ne_of_lt (Nat.lt_succ_of_lt hlS)
      have hSf : s.heap.objs.size ∉ [(s.heap.push (newSet w)).objs.size, l] := by
        rw [hz1]; simp only [List.mem_cons, List.not_mem_nil, or_false, not_or]
        exact ⟨Nat.ne_of_lt (Nat.lt_succ_self _), Nat.ne_of_gt hlS⟩
      have hval : ∀ (i : Nat) (v : Value), items[i]? = some v → ∃ k t, ns[i]? = some k ∧ v = .int k t := fun i v hv => by
        have hi : i < ns.length := by rw [← hisz]; exact (Array.getElem?_eq_some_iff.mp hv).1
        obtain ⟨t, e⟩ := PyProof.Rows.IntsAre.int_at hit i v (by rw [Array.getElem?_toList]; exact hv)
        refine ⟨ns[i], t, List.getElem?_eq_getElem hi, ?_⟩
        rw [e, List.getD_eq_getElem?_getD, List.getElem?_eq_getElem hi] <;> rfl
      refine set_update_ints ((Walks.list hh3 _ l hneI items).toS) s.heap.objs.size hSf ns hisz hb hval (items.size - 0) 0 _ (by omega) (Nat.zero_le _)
        ⟨⟨_, Heap.get?_push_size _ rfl, rfl, rfl⟩, (hl1.push _)⟩ ⟨0, Nat.le_refl 0, setR_new_at (Heap.get?_push_of_some _ hS)⟩ ?_
      intro s' c' hm hc' hS'
      obtain ⟨h', g2, d', tk', os'⟩ := s'
      obtain rfl : g2 = s.gens := hm.gens
      obtain rfl : d' = s.drawn := hm.drawn
      obtain rfl : os' = s.os := hm.os
      show wpAny _ _ _ _ _ _
      refine wpAny_pure ?_
      show wpAny _ _ (ret Value.none) _ _ _
      rw [hisz] at hc'
      refine wpAny_pure ⟨rfl, h', tk', c', rfl, hS', hc', fun b o e => ?_⟩
      have hb0 : b < s.heap.objs.size := Heap.lt_size e
      refine hm.heap b o ?_ (Heap.get?_push_of_some _ (Heap.get?_push_of_some _ e))
      simp only [List.mem_cons, List.not_mem_nil, or_false, not_or]
      rw [hz1]
      exact ⟨Nat.ne_of_lt hb0, Nat.ne_of_lt (Nat.lt_succ_of_lt hb0)⟩
    · match r₂, hr₂ with
      | .error e, hr₂ => exact hr₂
      | .ok .next, hr => exact hr.elim
      | .ok .brk, hr => exact hr.elim
      | .ok .cont, hr => exact hr.elim
      | .ok (.ret r), hr₂ =>
        obtain ⟨rfl, h', tk, c', rfl, hS', hc', hk'⟩ := hr₂
        repeat (any_goals (first | assumption | wp_step))
        exact h _ _ _ hS' hc' hk'
end
theorem setR_count {w : World} {h : Heap} {a : Addr} {ns : List Int} {c : Nat} (R : SetR w h a (fun j => decide (j ∈ ns)) c) : c = (ddp ns).length := by
  obtain ⟨o, es, ep, t, ho, hex, hd, g, nd, hm, hb, hf, hn, hr, hl⟩ := R
  have hp : (es.toList.map keyOf).Perm (ddp ns) := by
    refine (List.perm_ext_iff_of_nodup nd (ddp_nodup _)).mpr fun k => ?_
    rw [← hm k, mem_ddp, decide_eq_true_eq]
  have := hp.length_eq
  rw [List.length_map, Array.length_toList] at this
  omega
section
variable {X : Cx} {xk : XK} {a : Expr} {wa : WE} {p p2 q pos : Pos}
theorem de_lenSet (hc : X.calm = true) (hg : Gl X "len") (hm : X.mg "len" = none) (hg2 : Gl X "set") (hm2 : X.mg "set" = none) (ha : DE X xk a wa)
    (na : starEach [a] X.env = (false, eval a X.env) :: starEach [] X.env := by rfl) : DE X xk (.Call (.Name "len" p) [.Call (.Name "set" p2) [a] [] q] [] pos) (wLenSet wa) := by
  have pe : PE X (.Call (.Name "len" p) [.Call (.Name "set" p2) [a] [] q] [] pos) (fun σ H Q => lE (kx X) xk wa σ H fun x H1 => ∃ (l : Addr) (ns : List Int), x = .ref l ∧ SqL X.K H1 l (ns.map V.int) ∧ ns.length ≤ 4000 ∧ Q (.int (ddp ns).length) H1) := by
    refine ⟨fun pins s σ H Q I h => ?_⟩
    refine Call_ (ld_blt I hg hm PySem.boot_len ?_)
    refine PyProof.Rows.callWith_builtin1 (PyProof.Rows.args_cons ?_ rfl) rfl rfl
    refine Call_ (ld_blt I hg2 hm2 PyProof.Rows.boot_set ?_)
    refine PyProof.Rows.callWith_type1 (PyProof.Rows.args_cons (thn (ha.pe.run pins s σ H _ I h) fun v s1 ⟨x, H1, I1, r1, q1⟩ => PyProof.Rows.args_nil ?_) na) na rfl
    obtain ⟨l, ns, rfl, hq, hl, q1⟩ := q1
    cases r1
    obtain ⟨its, r, pl, hz⟩ := I1.list hq
    refine call_set_lstI ns (I1.ok.hd hc) pl.isList (by simpa using intsAre_of r) (by unfold scanBound; omega) fun h' tk c hS hcl hk => ?_
    refine PyProof.Rows.args_nil ?_
    have ec := setR_count hS
    obtain ⟨o, es, ep, t, ho, hex, hd, _, _, _, _, hf, hn, _⟩ := hS
    have I2 : Inv X pins σ H1 { s1 with heap := h', toks := tk } := I1.kept hk
    exact call_len_set ho hex hd hf (by rw [hn] <;> omega) ⟨.int (ddp ns).length, H1, I2.tok _, ⟨_, by rw [hn, ec]⟩, q1⟩
  refine ⟨pe.weak fun sv H Qv ⟨Pr, E, s, S, Q, cu, q, g⟩ => ?_⟩
  refine ⟨Pr, E, s, S, _, cu, q, fun x S1 v H1 e1 t1 r1 q1 => ?_⟩
  obtain ⟨ns, hx, hl, q1⟩ := q1
  obtain ⟨l, vs, rfl, hs, rs⟩ := t1.lstOf r1 hx
  have := rep_ints_of rs
  subst this
  exact ⟨l, ns, rfl, SqL.of hs, hl, g _ _ _ _ e1 t1 (.int _) q1⟩
theorem dl_sortedSet (hc : X.calm = true) (hg : Gl X "sorted") (hm : X.mg "sorted" = none) (hg2 : Gl X "set") (hm2 : X.mg "set" = none) (ha : DE X xk a wa)
    (na : starEach [a] X.env = (false, eval a X.env) :: starEach [] X.env := by rfl) : DL X xk (.Call (.Name "sorted" p) [.Call (.Name "set" p2) [a] [] q] [] pos) (wlSortedSet wa) := by
  have pe : PE X (.Call (.Name "sorted" p) [.Call (.Name "set" p2) [a] [] q] [] pos) (fun σ H Q => lE (kx X) xk wa σ H fun x H1 => ∃ (l : Addr) (ns : List Int), x = .ref l ∧ SqL X.K H1 l (ns.map V.int) ∧ ns.length ≤ 4000 ∧ (ddp ns).length < 64 ∧
      ∀ p', H1 p' = none → Q (.ref p') (upd H1 p' (.lst ((isort (ddp ns)).map V.int)))) := by
    refine ⟨fun pins s σ H Q I h => ?_⟩
    refine Call_ (ld_blt I hg hm PyProof.Rows.boot_sorted ?_)
    refine PyProof.Rows.callWith_builtin1 (PyProof.Rows.args_cons ?_ rfl) rfl rfl
    refine Call_ (ld_blt I hg2 hm2 PyProof.Rows.boot_set ?_)
    refine PyProof.Rows.callWith_type1 (PyProof.Rows.args_cons (thn (ha.pe.run pins s σ H _ I h) fun v s1 ⟨x, H1, I1, r1, q1⟩ => PyProof.Rows.args_nil ?_) na) na rfl
    obtain ⟨l, ns, rfl, hq, hl, h64, q1⟩ := q1
    cases r1
    obtain ⟨its, r, pl, hz⟩ := I1.list hq
    refine call_set_lstI ns (I1.ok.hd hc) pl.isList (by simpa using intsAre_of r) (by unfold scanBound; omega) fun h' tk c hS hcl hk => ?_
    refine PyProof.Rows.args_nil ?_
    have ec := setR_count hS
    have I2 : Inv X pins σ H1 { s1 with heap := h', toks := tk } := I1.kept hk
    refine sorted_set (s := { s1 with heap := h', toks := tk }) hS (I2.ok.hd hc) (by omega) fun s' p' out c' ms hk' hg' ho' hp' hget hms hpw hmem hlen => ?_
    have e : ms = isort (ddp ns) := by
      refine isort_uniq ?_ (hpw.imp fun h => Int.le_of_lt h)
      refine (List.perm_ext_iff_of_nodup (hpw.imp fun h => Int.ne_of_lt h) (ddp_nodup _)).mpr fun k => ?_
      rw [hmem k, mem_ddp, decide_eq_true_eq]
    subst e
    have hlen' : ((isort (ddp ns)).map V.int).length ≤ sizeLine := by rw [List.length_map, hlen, sizeLine_eq]; omega
    have hn : H1 p' = none := I2.hok.fresh hp'
    have J := I2.call (h' := s'.heap) (g' := s'.gens) (t' := s'.toks) (d' := s'.drawn) (H' := upd H1 p' (.lst ((isort (ddp ns)).map V.int))) (ch := []) (Un.laid hk' hp' hn) (I2.hok.laid hk' hp' ⟨hlen', out.toList, c', vals_of_ints hms, hget⟩) (by rw [hg']; exact I2.bare) (fun _ z => nomatch z)
    have es : s' = { s1 with heap := s'.heap, gens := s'.gens, drawn := s'.drawn, toks := s'.toks } := by
      cases s'
      cases s1
      cases ho'
      rfl
    rw [es]
    exact ⟨.ref p', _, J, rfl, q1 p' hn⟩
  refine ⟨pe.weak fun sv H Qv ⟨Pr, E, s, S, Q, cu, q, g⟩ => ?_⟩
  refine ⟨Pr, E, s, S, _, cu, q, fun x S1 v H1 e1 t1 r1 q1 => ?_⟩
  obtain ⟨ns, hx, hl, h64, q1⟩ := q1
  obtain ⟨l, vs, rfl, hs, rs⟩ := t1.lstOf r1 hx
  have := rep_ints_of rs
  subst this
  exact ⟨l, ns, rfl, SqL.of hs, hl, h64, fun p' hp' => g _ _ _ _ _ _ e1 t1 (reps_of_ints _) q1 hp' rfl⟩

/-! ### sorted -/
theorem plt_lex (p q : Int × Int) : SrtO.lexB p q = plt p q := by
  rfl
def kP (H : Hp) : V → Int × Int
  | .ref t => match H t with
    | some (.tup [.int a, .int b]) => (a, b)
    | _ => (0, 0)
  | _ => (0, 0)
theorem prD_at {M : Kx} {F : Addr → Prop} {H : Hp} {p : Int × Int} {v : V} (r : Rep M F H (prD p) v) : kP H v = p ∧ ∃ t, v = .ref t ∧ H t = some (.tup [.int p.1, .int p.2]) := by
  unfold prD at r
  cases r with
  | tup ht rs =>
    cases rs with
    | cons r1 rs =>
      cases rs with
      | cons r2 rs =>
        cases rs
        have e1 := r1.intE
        have e2 := r2.intE
        subst e1 e2
        exact ⟨by simp [kP, ht.1], _, rfl, ht.1⟩
theorem prDs_at {M : Kx} {F : Addr → Prop} {H : Hp} : ∀ {ps : List (Int × Int)} {vs : List V}, Reps M F H (ps.map prD) vs → vs.map (kP H) = ps ∧ ∀ v ∈ vs, Rep M F H (prD (kP H v)) v
  | [], _, .nil => ⟨rfl, fun _ h => nomatch h⟩
  | p :: ps, _, .cons r t => by
    obtain ⟨h1, h2⟩ := prDs_at t
    obtain ⟨k, _⟩ := prD_at r
    refine ⟨by rw [List.map_cons, k, h1], fun v hv => ?_⟩
    rcases List.mem_cons.mp hv with rfl | hv
    · rw [k]; exact r
    · exact h2 v hv
theorem reps_kP {M : Kx} {F : Addr → Prop} {H : Hp} : ∀ {vs : List V}, (∀ v ∈ vs, Rep M F H (prD (kP H v)) v) → Reps M F H ((vs.map (kP H)).map prD) vs
  | [], _ => .nil
  | v :: vs, h => .cons (h v (by simp)) (reps_kP fun u hu => h u (by simp [hu]))
theorem plt_anti {a b : Int × Int} (h1 : plt a b = false) (h2 : plt b a = false) : a = b := by
  unfold plt at h1 h2
  obtain ⟨a1, a2⟩ := a
  obtain ⟨b1, b2⟩ := b
  simp only at h1 h2
  split at h1 <;> split at h2 <;> simp at h1 h2 <;> simp <;> omega
theorem psort_perm (ps : List (Int × Int)) : (psort ps).Perm ps := List.mergeSort_perm _ _
theorem psort_pair (ps : List (Int × Int)) : (psort ps).Pairwise (fun a b => plt b a = false) := by
  have := List.pairwise_mergeSort (le := fun a b : Int × Int => !plt b a) (by
    intro a b c h1 h2
    obtain ⟨a1, a2⟩ := a; obtain ⟨b1, b2⟩ := b; obtain ⟨c1, c2⟩ := c
    simp only [plt] at h1 h2 ⊢
    split at h1 <;> split at h2 <;> split <;> simp at h1 h2 ⊢ <;> omega) (by
    intro a b
    obtain ⟨a1, a2⟩ := a; obtain ⟨b1, b2⟩ := b
    simp only [plt]
    split <;> split <;> simp <;> omega) ps
  exact this.imp (by intro a b h; simpa using h)
theorem dl_sorted (hc : X.calm = true) (hg : Gl X "sorted") (hm : X.mg "sorted" = none) (ha : DE X xk a wa) (hs : starEach [a] X.env = (false, eval a X.env) :: starEach [] X.env := by rfl) : DL X xk (.Call (.Name "sorted" p) [a] [] pos) (wlSorted wa) := by
  refine ⟨(pe_callB (CallR.or cr_sortedI cr_sortedPO) hg hm (by decide +kernel) (pa_cons ha.pe pa_nil hs) (by decide) (by decide) hs).weak fun sv H Qv ⟨Pr, E, s, S, Q, cu, q, g⟩ => ?_⟩
  refine ⟨Pr, E, s, S, _, cu, q, fun x S1 v H1 e1 t1 r1 q1 => ?_⟩
  obtain ⟨xs, hx, q1⟩ := q1
  obtain ⟨l, vs, rfl, hl, rs⟩ := t1.lstOf r1 hx
  rcases q1 with ⟨ns, rfl, q1⟩ | ⟨ps, rfl, q1⟩
  · have := rep_ints_of rs
    subst this
    refine .inl ⟨l, ns, rfl, SqL.of hl, fun ms p hp1 hp2 hp3 => ?_⟩
    have e := isort_uniq hp1 hp2
    subst e
    exact g _ _ _ _ _ _ e1 t1 (reps_of_ints _) q1 hp3 rfl
  · obtain ⟨em, er⟩ := prDs_at rs
    refine .inr ⟨l, vs, kP H1, rfl, SqL.of hl, fun v hv => ?_, fun ys p hp1 hp2 hp3 => ?_⟩
    · obtain ⟨_, t, e, h⟩ := prD_at (er v hv)
      exact ⟨t, e, h⟩
    · have hperm : (ys.map (kP H1)).Perm ps := by rw [← em]; exact hp2.perm.map _
      have hpw : (ys.map (kP H1)).Pairwise (fun a b => plt b a = false) := List.pairwise_map.mpr (hp1.imp fun {a b} h => by rw [← plt_lex]; exact h)
      have e : ys.map (kP H1) = psort ps := sorted_uniq (fun a b h1 h2 => plt_anti h2 h1) (hperm.trans (psort_perm ps).symm) hpw (psort_pair ps)
      have rr := reps_kP (M := kx X) (F := Fr Pr S1) (H := H1) (vs := ys) fun v hv => er v (hp2.perm.mem_iff.mp hv)
      rw [e] at rr
      exact g _ _ _ _ _ _ e1 t1 rr q1 hp3 rfl
end
end Dl
set_option Elab.async false
set_option linter.all false
set_option maxRecDepth 100000
/-! Dr10: the names of built-ins that a program has not taken. -/
namespace Dl
open PySem PySem.Spec PyProof.Rows L2
structure BI (mg : Str → Option Value) : Prop where
  b_len : mg "len" = none
  b_range : mg "range" = none
  b_zip : mg "zip" = none
  b_enumerate : mg "enumerate" = none
  b_sorted : mg "sorted" = none
  b_abs : mg "abs" = none
  b_int : mg "int" = none
  b_all : mg "all" = none
  b_any : mg "any" = none
  b_sum : mg "sum" = none
  b_tuple : mg "tuple" = none
  b_list : mg "list" = none
  b_min : mg "min" = none
  b_max : mg "max" = none
  b_set : mg "set" = none
  b_isinstance : mg "isinstance" = none
  b_bool : mg "bool" = none
  b_str : mg "str" = none
  b_dict : mg "dict" = none
end Dl
set_option Elab.async false
set_option linter.all false
set_option maxRecDepth 100000
/-! Dr11: the end: a law from its def's promise; defs that call themselves. -/
namespace Dl
open PySem PySem.Spec PyProof.Rows L2
section
variable {P : Program} {w : World} {K : PySem.W.Frag} {mg : Str → Option Value} {base : Heap}
theorem lSp_imp {M : Kx} {sp sp' : DSp} (h : ∀ ds S Q E, sp' ds S Q E → sp ds S Q E) {vs : List V} {H : Hp} {Q : VK} {E : XK} (q : lSp M sp' vs H Q E) : lSp M sp vs H Q E :=
  let ⟨Pr, ds, S, Qd, Ed, a, b, c, d, e⟩ := q; ⟨Pr, ds, S, Qd, Ed, a, b, h _ _ _ _ c, d, e⟩
theorem FK.imp {CX : CXT} {k n : Nat} {x : Str} {sp sp' : DSp} (F : FK P w K mg base CX k x n sp) (h : ∀ ds S Q E, sp' ds S Q E → sp ds S Q E) : FK P w K mg base CX k x n sp' :=
  let ⟨f, fd, ps, h1, h2, h3, h4, h5⟩ := F.ex; ⟨f, fd, ps, h1, h2, h3, h4, h5.imp fun _ _ _ _ => lSp_imp h⟩
theorem FKk.mono {CX : CXT} {j k n i : Nat} {x : Str} {ks : List Str} {ix : List Nat} {sp : DSp} (F : FKk P w K mg base CX j x n i ks ix sp) (h : j ≤ k) : FKk P w K mg base CX k x n i ks ix sp :=
  let ⟨f, fd, ps, h1, h2, h3, h4⟩ := F.ex; ⟨f, fd, ps, h1, h2, h3, h4.mono h⟩
/-- a promise that is never asked -/
theorem fk_never {CX : CXT} {k : Nat} {x : Str} {st : Stmt} {f : Addr} {fd : FuncData} {ps : List Str} {sp : DSp} (F : Fun K x x st f fd) (hmg : mg x = some (.ref f)) (hb : Binds K fd ps []) (no : ∀ ds S Q E, ¬ sp ds S Q E) : FK P w K mg base CX k x ps.length sp :=
  ⟨f, fd, ps, hmg, F.kp, rfl, hb, ⟨fun _ _ _ _ ⟨_, _, _, _, _, _, _, h, _⟩ => (no _ _ _ _ h).elim, fun _ _ _ _ _ _ _ _ _ _ _ _ _ ⟨_, _, _, _, _, _, _, h, _⟩ => (no _ _ _ _ h).elim⟩⟩
/-- a def that calls itself: the promise by levels -/
theorem fk_rec {CX : CXT} {k n : Nat} {x : Str} {sp : Nat → DSp} (h0 : FK P w K mg base CX k x n (sp 0)) (hs : ∀ j, FK P w K mg base CX (k + j) x n (sp j) → FK P w K mg base CX (k + j + 1) x n (sp (j + 1))) : ∀ j, FK P w K mg base CX (k + j) x n (sp j)
  | 0 => h0
  | j + 1 => hs j (fk_rec h0 hs j)
/-- a def as it stands behind the top -/
structure DF (K : PySem.W.Frag) (mg : Str → Option Value) (x : Str) (st : Stmt) (ps : List Str) : Prop where
  ex : ∃ (f : Addr) (fd : FuncData), mg x = some (.ref f) ∧ Fun K x x st f fd ∧ Binds K fd ps []
theorem df_mk {h : Heap} {x : Str} {st : Stmt} {ps : List Str} {f : Addr} {od an : Option Addr} {sl : Array (Option Value)} {oc kV dc pm cd ct : Value} (X : K.In h) (G : h.Ns mainGlobals mg)
    (a : PySem.W.nsIn K mainGlobals x = some (some (.ref f))) (l : K.lookup f = some ⟨oc, od, .func (PySem.W.fnOf x x (defArgs st) (defBody st) (defScope st) .none kV dc pm an cd ct), sl⟩) (c : PySem.W.codeIn K cd x = true) (k : PySem.W.keepIn K (.ref f) = true)
    (b : ∀ (kV doc pm : Value) (an : Option Addr) (cdv ct : Value) (us : List Value), us.length = ps.length → bindArgs (PySem.W.fnOf x x (defArgs st) (defBody st) (defScope st) .none kV doc pm an cdv ct) ⟨us, []⟩ = pure (ps.zip us)) : DF K mg x st ps :=
  ⟨f, _, PySem.W.mg_of X G a, fun_mk l c k, (fun_mk l c k).binds b⟩
theorem DF.fk {k : Nat} {x : Str} {st : Stmt} {N ps : List Str} {sp : DSp} {wb : WS} (F : DF K mg x st ps) (S : FnScope N ps (defScope st)) (ar : Arity sp ps.length) (m : Meets sp N.length wb)
    (d : ∀ (f : Addr) (cdv : Value) (A : Around) (outer : List Env) (s : Shared) (H : Hp) (E : XK), Room k (A.deeper (envOfC x (defScope st) s.heap.objs.size f cdv)) → DSs (XB P w K mg base N x (defScope st) f cdv A outer s H E) E (defBody st) wb) :
    FK P w K mg base (L2.CX P w) (k + 1) x ps.length sp := by
  obtain ⟨f, fd, hm, F, hb⟩ := F.ex
  exact fk_mk F hm S hb ar m fun cdv A outer s H E => d f cdv A outer s H E
theorem DF.never {CX : CXT} {k : Nat} {x : Str} {st : Stmt} {ps : List Str} {sp : DSp} (F : DF K mg x st ps) (no : ∀ ds S Q E, ¬ sp ds S Q E) : FK P w K mg base CX k x ps.length sp := by
  obtain ⟨f, fd, hm, F, hb⟩ := F.ex
  exact fk_never F hm hb no
/-- called by name -/
theorem DF.fkk {k n : Nat} {x : Str} {st : Stmt} {N ps ks : List Str} {ix : List Nat} {sp : DSp} {wb : WS} (F : DF K mg x st ps) (S : FnScope N ps (defScope st)) (ar : Arity sp ps.length) (m : Meets sp N.length wb) (hp : 0 < ps.length)
    (b : ∀ (kV doc pq : Value) (an : Option Addr) (cdv ct : Value) (us ws : List Value), us.length = n → ws.length = ks.length → bindArgs (PySem.W.fnOf x x (defArgs st) (defBody st) (defScope st) .none kV doc pq an cdv ct) ⟨us, ks.zip ws⟩ = pure (ps.zip (pm ix (us ++ ws))))
    (d : ∀ (f : Addr) (cdv : Value) (A : Around) (outer : List Env) (s : Shared) (H : Hp) (E : XK), Room k (A.deeper (envOfC x (defScope st) s.heap.objs.size f cdv)) → DSs (XB P w K mg base N x (defScope st) f cdv A outer s H E) E (defBody st) wb) :
    FKk P w K mg base (L2.CX P w) (k + 1) x n ks.length ks ix sp := by
  obtain ⟨f, fd, hm, F, hb⟩ := F.ex
  refine fkk_mk F hm S ar m hp (fun s us ws h1 h2 => ?_) fun cdv A outer s H E => d f cdv A outer s H E
  obtain ⟨oc, od, kV, doc, pm, an, cdv, ct, osl, rfl, lk, hcd⟩ := F.ex
  exact .of_eq (b kV doc pm an cdv ct us ws h1 h2)
/-- what the law's head asks -/
def spEnd (K : PySem.W.Frag) : Sp := fun vs H Q _ => ∃ (a : Addr) (ns : List Int), vs = [.ref a] ∧ Only H ∧ SqL K H a (ns.map V.int) ∧ ∀ H', Q (.bl true) H'
/-- a law's promise -/
def spLaw : DSp := fun ds S Q _ => ∃ ns : List Int, ds = [.scr (ns.map D.int)] ∧ ∀ S', Q (.bl true) S'
theorem reps_mk {M : Kx} {F : Addr → Prop} {H : Hp} : ∀ ns : List Int, Reps M F H (ns.map D.int) (ns.map V.int)
  | [] => .nil
  | i :: r => .cons (.int i) (reps_mk r)
theorem end_imp {vs : List V} {H : Hp} {Q : VK} {E : XK} (h : spEnd K vs H Q E) : lSp ⟨K, mg⟩ spLaw vs H Q E := by
  obtain ⟨a, ns, rfl, ho, hs, q⟩ := h
  refine ⟨fun _ => False, [.scr (ns.map D.int)], fun _ => none, fun d _ => d = .bl true, fun _ _ => False, ⟨(fun a o h => nomatch h), (fun a h => False.elim h)⟩, .cons (.scr ?_ (reps_mk ns)) .nil, ⟨ns, rfl, fun _ => rfl⟩, ?_, ?_⟩
  · rcases hs with (h | h) | h
    · rcases ho a with n | ⟨o, xs, n⟩
      · rw [n] at h; cases h
      · rw [n] at h; cases h
    · exact .inl ⟨h, rfl, fun z => z.elim⟩
    · exact .inr (.inr h)
  · rintro d S' v H' ev st r rfl
    cases r
    exact q H'
  · intro x S' c od H' ev st r h
    exact h.elim
theorem hcx_no {P : World → Program} (w : World) (H : Hp) (s : Shared) (e : Value) (s' : Shared) (h : L2.CX (P w) w [] H s (fun _ _ _ => False) e s') : False :=
  let ⟨_, _, _, _, _, _, _, _, _, _, _, _, z⟩ := h; z
end
end Dl
namespace Dl
open PySem PySem.Spec PyProof.Rows L2
section
variable {P : Program} {w : World} {K : PySem.W.Frag} {mg : Str → Option Value} {base : Heap}
theorem fn_mk {k : Nat} {x : Str} {st : Stmt} {f : Addr} {fd : FuncData} {N ps : List Str} {sp : DSp} {wb : WS} (F : Fun K x x st f fd) (S : FnScope N ps (defScope st)) (ar : Arity sp ps.length) (m : Meets sp N.length wb)
    (d : ∀ (f : Addr) (cdv : Value) (A : Around) (outer : List Env) (s : Shared) (H : Hp) (E : XK), Room k (A.deeper (envOfC x (defScope st) s.heap.objs.size f cdv)) → DSs (XB P w K mg base N x (defScope st) f cdv A outer s H E) E (defBody st) wb) :
    FnOk P w K mg base (L2.CX P w) (k + 1) f fd ps (lSp ⟨K, mg⟩ sp) := by
  refine F.okX S (fun vs H Q E ⟨Pr, ds, S', Qd, Ed, st', r, h, _⟩ => by rw [← r.length]; exact ar ds S' Qd Ed h) fun cdv A outer s H vs Q E hr hsp => ?_
  obtain ⟨Pr, ds, S', Qd, Ed, st', r, h, g, ex⟩ := hsp
  refine ⟨_, (d f cdv A outer s H E hr).ps, Pr, _, S', { nx := fun _ S'' => Fz Qd .non S'', rt := Qd, ex := Ed }, ⟨envR_start r N, st', ex⟩, m ds S' Qd Ed h, ⟨?_, fun _ _ _ _ _ _ q => q.elim, fun _ _ _ _ _ _ q => q.elim, g⟩⟩
  rintro s2 S2 sv2 H2 ev cu ⟨d', S3, hs, fz, q⟩
  obtain ⟨t2, e2⟩ := cu.sto.sub hs
  exact g d' S3 .non H2 (ev.trans e2) t2 (fz_rep cu.sto hs fz .non) q
/-- the law's own def -/
structure DFL (K : PySem.W.Frag) (fa : Addr) (st : Stmt) : Prop where
  ex : ∃ fd : FuncData, Fun K "law" "law" st fa fd ∧ ∀ (s : Shared) (u : Value), BindsTo s fd ⟨[u], []⟩ [("script", u)]
theorem dfl_mk {h : Heap} {st : Stmt} {fa f : Addr} {od an : Option Addr} {sl : Array (Option Value)} {oc kV dc pm cd ct : Value} (X : K.In h) (G : h.Ns mainGlobals mg) (hfa : mg "law" = some (.ref fa))
    (a : PySem.W.nsIn K mainGlobals "law" = some (some (.ref f))) (l : K.lookup f = some ⟨oc, od, .func (PySem.W.fnOf "law" "law" (defArgs st) (defBody st) (defScope st) .none kV dc pm an cd ct), sl⟩) (c : PySem.W.codeIn K cd "law" = true) (k : PySem.W.keepIn K (.ref f) = true)
    (b : ∀ (kV doc pm : Value) (an : Option Addr) (cdv ct u : Value), bindArgs (PySem.W.fnOf "law" "law" (defArgs st) (defBody st) (defScope st) .none kV doc pm an cdv ct) ⟨[u], []⟩ = pure [(("script" : Str), u)]) : DFL K fa st := by
  have e := hfa.symm.trans (PySem.W.mg_of X G a)
  cases e
  exact ⟨_, fun_mk l c k, fun s u => .of_eq (b _ _ _ _ _ _ u)⟩
theorem law_end {fa : Addr} {st : Stmt} {N : List Str} {wb : WS} {k : Nat} (D : DFL K fa st) (S : FnScope N ["script"] (defScope st)) (m : Meets spLaw N.length wb)
    (d : ∀ (base : Heap) (f : Addr) (cdv : Value) (A : Around) (outer : List Env) (s : Shared) (H : Hp) (E : XK), Room k (A.deeper (envOfC "law" (defScope st) s.heap.objs.size f cdv)) → DSs (XB P w K mg base N "law" (defScope st) f cdv A outer s H E) E (defBody st) wb) :
    ∃ fd : FuncData, (∀ (s : Shared) (u : Value), BindsTo s fd ⟨[u], []⟩ [("script", u)]) ∧ ∀ base : Heap, K.In base → base.Ns mainGlobals mg → FnOk P w K mg base (L2.CX P w) (k + 1) fa fd ["script"] (spEnd K) := by
  obtain ⟨fd, F, hb⟩ := D.ex
  refine ⟨fd, hb, fun base _ _ => ?_⟩
  exact (fn_mk (mg := mg) (base := base) F S (fun ds S Q E ⟨_, h, _⟩ => by rw [h]; rfl) m (d base)).imp fun vs H Q E h => end_imp h
end
end Dl
set_option Elab.async false
set_option linter.all false
set_option maxRecDepth 100000
namespace Dl
open PySem PySem.Spec PyProof.Rows L2
namespace K80
def topS (i : Nat) : Stmt := PySem.Challenge.pw_samehowever_k80_whole_doubled_for_the_le.main.body.getD i (.Pass ⟨0, 0, 0, 0⟩)
structure CI (mg : Str → Option Value) : Prop where
  c_MOST_ENTRIES : ∃ t, mg "MOST_ENTRIES" = some (.int (24) t)
  dum : True
section
variable {P : Program} {w : World} {K : PySem.W.Frag} {mg : Str → Option Value} {base : Heap}
abbrev s_is_whole : Stmt := topS 1
theorem sc_is_whole : FnScope ["value"] ["value"] (defScope s_is_whole) := ⟨rfl, rfl, rfl, by decide +kernel, rfl, by decide +kernel, by decide +kernel⟩
theorem dv_is_whole (B : BI mg) (C : CI mg) {k : Nat}   {f : Addr} {cdv : Value} {Ar : Around} {outer : List Env} {s : Shared} {H : Hp} {E : XK} (hr : Room k (Ar.deeper (envOfC "is_whole" (defScope s_is_whole) s.heap.objs.size f cdv))) :
    DSs (XB P w K mg base ["value"] "is_whole" (defScope s_is_whole) f cdv Ar outer s H E) E (defBody s_is_whole) w_is_whole :=
  have nd := sc_is_whole.nd
  (dss_one (ds_ret (de_and (de_isi (T := "int") (by decide) rfl B.b_isinstance rfl B.b_int (by decide +kernel) (de_var 0)) (de_and (de_not (de_isi (T := "bool") (by decide) rfl B.b_isinstance rfl B.b_bool (by decide +kernel) (de_var 0))) (de_one (de_chain (o_lt (hu0 hr)) (o_lt (hu0 hr)) (de_neg (de_bin o_pow de_int de_int)) (de_var 0) (de_bin o_pow de_int de_int)))))))
abbrev s_is_number : Stmt := topS 2
theorem sc_is_number : FnScope ["value", "least", "most"] ["value", "least", "most"] (defScope s_is_number) := ⟨rfl, rfl, rfl, by decide +kernel, rfl, by decide +kernel, by decide +kernel⟩
theorem dv_is_number (B : BI mg) (C : CI mg) {k : Nat} (F_is_whole : FK P w K mg base (L2.CX P w) k "is_whole" 1 sp_is_whole)  {f : Addr} {cdv : Value} {Ar : Around} {outer : List Env} {s : Shared} {H : Hp} {E : XK} (hr : Room k (Ar.deeper (envOfC "is_number" (defScope s_is_number) s.heap.objs.size f cdv))) :
    DSs (XB P w K mg base ["value", "least", "most"] "is_number" (defScope s_is_number) f cdv Ar outer s H E) E (defBody s_is_number) w_is_number :=
  have nd := sc_is_number.nd
  (dss_one (ds_ret (de_and (de_call F_is_whole hr pcall (da_cons (de_var 0) da_nil) rfl) (de_one (de_chain o_le o_le (de_var 1) (de_var 0) (de_var 2))))))
abbrev s_is_rising : Stmt := topS 3
theorem sc_is_rising : FnScope ["value", "one", "other"] ["value"] (defScope s_is_rising) := ⟨rfl, rfl, rfl, by decide +kernel, rfl, by decide +kernel, by decide +kernel⟩
theorem dv_is_rising (B : BI mg) (C : CI mg) {k : Nat}   {f : Addr} {cdv : Value} {Ar : Around} {outer : List Env} {s : Shared} {H : Hp} {E : XK} (hr : Room k (Ar.deeper (envOfC "is_rising" (defScope s_is_rising) s.heap.objs.size f cdv))) :
    DSs (XB P w K mg base ["value", "one", "other"] "is_rising" (defScope s_is_rising) f cdv Ar outer s H E) E (defBody s_is_rising) w_is_rising :=
  have nd := sc_is_rising.nd
  (dss_one (ds_ret (de_callB1 (c_all rfl) rfl B.b_all (by decide +kernel) (de_frz (dl_comp rfl nd (own := [("one", 1), ("other", 2)]) (di_zip rfl rfl B.b_zip (de_var 0) (de_sl (de_var 0) (do_some de_int) do_none)) (blkOk_by (by kernel_rfl)) (fun _ _ _ _ _ => (dg_tup rfl (.cons (i := 1) nd rfl (by first | exact Or.inl rfl | exact Or.inr rfl) (by first | exact Or.inl rfl | exact Or.inr rfl) (.cons (i := 2) nd rfl (by first | exact Or.inl rfl | exact Or.inr rfl) (by first | exact Or.inl rfl | exact Or.inr rfl) DGs.nil)) 2 rfl (fun h => pg_tup rfl h))) (fun _ _ _ _ _ => dts_nil) (fun _ _ _ _ _ => (de_cmp (o_lt (hu0 hr)) (de_var 1) (de_var 2))) (by decide))))))
abbrev s_is_pair_within : Stmt := topS 9
theorem sc_is_pair_within : FnScope ["value", "many", "other"] ["value", "many", "other"] (defScope s_is_pair_within) := ⟨rfl, rfl, rfl, by decide +kernel, rfl, by decide +kernel, by decide +kernel⟩
theorem dv_is_pair_within (B : BI mg) (C : CI mg) {k : Nat} (F_is_number : FK P w K mg base (L2.CX P w) k "is_number" 3 sp_is_number)  {f : Addr} {cdv : Value} {Ar : Around} {outer : List Env} {s : Shared} {H : Hp} {E : XK} (hr : Room k (Ar.deeper (envOfC "is_pair_within" (defScope s_is_pair_within) s.heap.objs.size f cdv))) :
    DSs (XB P w K mg base ["value", "many", "other"] "is_pair_within" (defScope s_is_pair_within) f cdv Ar outer s H E) E (defBody s_is_pair_within) w_is_pair_within :=
  have nd := sc_is_pair_within.nd
  (dss_cons (ds_if (dt_w (dw_or (dt_not (dt_e (de_isi (T := "tuple") (by decide) rfl B.b_isinstance rfl B.b_tuple (by decide +kernel) (de_var 0)))) (dw_or1 (dt_cmp (o_ne (hu64 hr)) b_ne (de_callB1 c_len rfl B.b_len (by decide +kernel) (de_var 0)) de_int)))) (dss_one (ds_ret de_bl)) dss_nil)
    (dss_one (ds_ret (de_and (de_call F_is_number hr pcall (da_cons (de_ix (hu1 hr) (de_var 0) de_int) (da_cons de_int (da_cons (de_bin o_sub (de_var 1) de_int) da_nil))) rfl) (de_one (de_call F_is_number hr pcall (da_cons (de_ix (hu1 hr) (de_var 0) de_int) (da_cons de_int (da_cons (de_bin o_sub (de_var 2) de_int) da_nil))) rfl))))))
abbrev s_are_pairs_within : Stmt := topS 10
theorem sc_are_pairs_within : FnScope ["value", "many", "other", "item"] ["value", "many", "other"] (defScope s_are_pairs_within) := ⟨rfl, rfl, rfl, by decide +kernel, rfl, by decide +kernel, by decide +kernel⟩
theorem dv_are_pairs_within (B : BI mg) (C : CI mg) {k : Nat} (F_is_rising : FK P w K mg base (L2.CX P w) k "is_rising" 1 sp_is_rising) (F_is_pair_within : FK P w K mg base (L2.CX P w) k "is_pair_within" 3 sp_is_pair_within)  {f : Addr} {cdv : Value} {Ar : Around} {outer : List Env} {s : Shared} {H : Hp} {E : XK} (hr : Room k (Ar.deeper (envOfC "are_pairs_within" (defScope s_are_pairs_within) s.heap.objs.size f cdv))) :
    DSs (XB P w K mg base ["value", "many", "other", "item"] "are_pairs_within" (defScope s_are_pairs_within) f cdv Ar outer s H E) E (defBody s_are_pairs_within) w_are_pairs_within :=
  have nd := sc_are_pairs_within.nd
  (dss_cons (ds_if (dt_w (dw_or (dt_not (dt_e (de_isi (T := "tuple") (by decide) rfl B.b_isinstance rfl B.b_tuple (by decide +kernel) (de_var 0)))) (dw_or1 (dt_not (dt_e (de_callB1 (c_all rfl) rfl B.b_all (by decide +kernel) (de_frz (dl_comp rfl nd (own := [("item", 3)]) (di_seq (de_var 0)) (blkOk_by (by kernel_rfl)) (fun _ _ _ _ _ => (dg_name nd rfl (by first | exact Or.inl rfl | exact Or.inr rfl))) (fun _ _ _ _ _ => dts_nil) (fun _ _ _ _ _ => (de_call F_is_pair_within hr passL (da_cons (de_var 3) (da_cons (de_var 1) (da_cons (de_var 2) da_nil))) rfl)) (by decide))))))))) (dss_one (ds_ret de_bl)) dss_nil)
    (dss_one (ds_ret (de_call F_is_rising hr pcall (da_cons (de_var 0) da_nil) rfl))))
abbrev s_is_web : Stmt := topS 11
theorem sc_is_web : FnScope ["value"] ["value"] (defScope s_is_web) := ⟨rfl, rfl, rfl, by decide +kernel, rfl, by decide +kernel, by decide +kernel⟩
theorem dv_is_web (B : BI mg) (C : CI mg) {k : Nat} (F_are_pairs_within : FK P w K mg base (L2.CX P w) k "are_pairs_within" 3 sp_are_pairs_within) (F_is_number : FK P w K mg base (L2.CX P w) k "is_number" 3 sp_is_number)  {f : Addr} {cdv : Value} {Ar : Around} {outer : List Env} {s : Shared} {H : Hp} {E : XK} (hr : Room k (Ar.deeper (envOfC "is_web" (defScope s_is_web) s.heap.objs.size f cdv))) :
    DSs (XB P w K mg base ["value"] "is_web" (defScope s_is_web) f cdv Ar outer s H E) E (defBody s_is_web) w_is_web :=
  have nd := sc_is_web.nd
  (dss_cons (ds_if (dt_w (dw_or (dt_not (dt_e (de_isi (T := "tuple") (by decide) rfl B.b_isinstance rfl B.b_tuple (by decide +kernel) (de_var 0)))) (dw_or1 (dt_cmp (o_ne (hu64 hr)) b_ne (de_callB1 c_len rfl B.b_len (by decide +kernel) (de_var 0)) de_int)))) (dss_one (ds_ret de_bl)) dss_nil)
    (dss_cons (ds_if (dt_w (dw_or (dt_not (dt_e (de_call F_is_number hr pcall (da_cons (de_ix (hu1 hr) (de_var 0) de_int) (da_cons de_int (da_cons (de_gint C.c_MOST_ENTRIES rfl) da_nil))) rfl))) (dw_or1 (dt_not (dt_e (de_call F_is_number hr pcall (da_cons (de_ix (hu1 hr) (de_var 0) de_int) (da_cons de_int (da_cons (de_gint C.c_MOST_ENTRIES rfl) da_nil))) rfl)))))) (dss_one (ds_ret de_bl)) dss_nil)
    (dss_one (ds_ret (de_call F_are_pairs_within hr pcall (da_cons (de_ix (hu1 hr) (de_var 0) de_int) (da_cons (de_ix (hu1 hr) (de_var 0) de_int) (da_cons (de_ix (hu1 hr) (de_var 0) de_int) da_nil))) rfl)))))
abbrev s_need_web : Stmt := topS 12
theorem sc_need_web : FnScope ["web"] ["web"] (defScope s_need_web) := ⟨rfl, rfl, rfl, by decide +kernel, rfl, by decide +kernel, by decide +kernel⟩
theorem dv_need_web (B : BI mg) (C : CI mg) {k : Nat} (F_is_web : FK P w K mg base (L2.CX P w) k "is_web" 1 sp_is_web)  {f : Addr} {cdv : Value} {Ar : Around} {outer : List Env} {s : Shared} {H : Hp} {E : XK} (hr : Room k (Ar.deeper (envOfC "need_web" (defScope s_need_web) s.heap.objs.size f cdv))) :
    DSs (XB P w K mg base ["web"] "need_web" (defScope s_need_web) f cdv Ar outer s H E) E (defBody s_need_web) w_need_web :=
  have nd := sc_need_web.nd
  (dss_one (ds_if (dt_not (dt_e (de_call F_is_web hr pcall (da_cons (de_var 0) da_nil) rfl))) (dss_one ds_never) dss_nil))
abbrev s_near_of : Stmt := topS 13
theorem sc_near_of : FnScope ["web", "near", "receipt", "line"] ["web"] (defScope s_near_of) := ⟨rfl, rfl, rfl, by decide +kernel, rfl, by decide +kernel, by decide +kernel⟩
theorem dv_near_of (B : BI mg) (C : CI mg) {k : Nat}   {f : Addr} {cdv : Value} {Ar : Around} {outer : List Env} {s : Shared} {H : Hp} {E : XK} (hr : Room k (Ar.deeper (envOfC "near_of" (defScope s_near_of) s.heap.objs.size f cdv))) :
    DSs (XB P w K mg base ["web", "near", "receipt", "line"] "near_of" (defScope s_near_of) f cdv Ar outer s H E) E (defBody s_near_of) w_near_of :=
  have nd := sc_near_of.nd
  (dss_cons (ds_thw (dal_comp (i := 1) rfl nd rfl rfl (sw_true rfl rfl rfl (by decide +kernel)) (own := [("receipt", 2)]) (di_range rfl B.b_range (de_ix (hu1 hr) (de_var 0) de_int)) (blkOk_by (by kernel_rfl)) (fun _ _ _ _ _ => (dg_name nd rfl (by first | exact Or.inl rfl | exact Or.inr rfl))) (fun _ _ _ _ _ => dts_nil) (fun _ _ _ _ _ => (de_thw (dl_disp da_nil))) (by decide)))
    (dss_cons (ds_for (passes_of rfl) rfl (di_seq (de_ix (hu1 hr) (de_var 0) de_int)) (dg_tup rfl (.cons (i := 2) nd rfl (by first | exact Or.inl rfl | exact Or.inr rfl) (by first | exact Or.inl rfl | exact Or.inr rfl) (.cons (i := 3) nd rfl (by first | exact Or.inl rfl | exact Or.inr rfl) (by first | exact Or.inl rfl | exact Or.inr rfl) DGs.nil)) 2 rfl (fun h => pg_tup rfl h)) (dss_one (ds_expr (de_append (de_ix (hu1 hr) (de_var 1) (de_var 2)) (de_var 3)))))
    (dss_one (ds_ret (de_var 1)))))
abbrev s_augmented : Stmt := topS 14
theorem sc_augmented : FnScope ["near", "held", "taken", "came", "queue", "receipt", "line"] ["near", "held", "taken"] (defScope s_augmented) := ⟨rfl, rfl, rfl, by decide +kernel, rfl, by decide +kernel, by decide +kernel⟩
theorem dv_augmented (B : BI mg) (C : CI mg) {k : Nat} (F_exchange_along : FK P w K mg base (L2.CX P w) k "exchange_along" 4 sp_exchange_along)  {f : Addr} {cdv : Value} {Ar : Around} {outer : List Env} {s : Shared} {H : Hp} {E : XK} (hr : Room k (Ar.deeper (envOfC "augmented" (defScope s_augmented) s.heap.objs.size f cdv))) :
    DSs (XB P w K mg base ["near", "held", "taken", "came", "queue", "receipt", "line"] "augmented" (defScope s_augmented) f cdv Ar outer s H E) E (defBody s_augmented) w_augmented :=
  have nd := sc_augmented.nd
  (dss_cons (ds_par (i := 3) (j := 4) rfl nd rfl rfl (by decide) (da_cons de_dK (da_cons (de_thw (dl_comp rfl nd (own := [("receipt", 5)]) (di_range rfl B.b_range (de_callB1 c_len rfl B.b_len (by decide +kernel) (de_var 0))) (blkOk_by (by kernel_rfl)) (fun _ _ _ _ _ => (dg_name nd rfl (by first | exact Or.inl rfl | exact Or.inr rfl))) (fun _ _ _ _ _ => (dts_one (dt_cmp (o_notIn (hu66 hr)) b_notIn (de_var 5) (de_var 1)))) (fun _ _ _ _ _ => (de_var 5)) (by decide))) da_nil)) (fun h => ps_par rfl nd rfl rfl (by decide) rfl rfl h rfl))
    (dss_cons (ds_while (passes_of rfl) (dt_cmp (o_ne (hu64 hr)) b_ne (de_var 4) (de_frz (dl_disp da_nil))) (dss_cons (ds_asg (de_popAt (de_var 4) de_int) (dg_name nd rfl (by first | exact Or.inl rfl | exact Or.inr rfl)))
    (dss_one (ds_for (passes_of rfl) rfl (di_seq (de_ix (hu1 hr) (de_var 0) (de_var 5))) (dg_name nd rfl (by first | exact Or.inl rfl | exact Or.inr rfl)) (dss_one (ds_if (dt_cmp (o_notIn (hu66 hr)) b_notIn (de_var 6) (de_var 3)) (dss_cons (ds_asg (de_var 5) (dg_ix (hu1 hr) (de_var 3) (de_var 6)))
    (dss_cons (ds_if (dt_cmp (o_notIn (hu66 hr)) b_notIn (de_var 6) (de_var 2)) (dss_cons (ds_expr (de_call F_exchange_along hr pcall (da_cons (de_var 1) (da_cons (de_var 2) (da_cons (de_var 3) (da_cons (de_var 6) da_nil)))) rfl))
    (dss_one (ds_ret de_bl))) dss_nil)
    (dss_one (ds_expr (de_append (de_var 4) (de_ix (hu1 hr) (de_var 2) (de_var 6))))))) dss_nil))))))
    (dss_one (ds_ret de_bl))))
abbrev s_exchange_along : Stmt := topS 15
theorem sc_exchange_along : FnScope ["held", "taken", "came", "line", "receipt", "later"] ["held", "taken", "came", "line"] (defScope s_exchange_along) := ⟨rfl, rfl, rfl, by decide +kernel, rfl, by decide +kernel, by decide +kernel⟩
theorem dv_exchange_along (B : BI mg) (C : CI mg) {k : Nat}   {f : Addr} {cdv : Value} {Ar : Around} {outer : List Env} {s : Shared} {H : Hp} {E : XK} (hr : Room k (Ar.deeper (envOfC "exchange_along" (defScope s_exchange_along) s.heap.objs.size f cdv))) :
    DSs (XB P w K mg base ["held", "taken", "came", "line", "receipt", "later"] "exchange_along" (defScope s_exchange_along) f cdv Ar outer s H E) E (defBody s_exchange_along) w_exchange_along :=
  have nd := sc_exchange_along.nd
  (dss_one (ds_while (passes_of rfl) (dt_cmp o_isNot b_isNot (de_var 3) de_non) (dss_cons (ds_asg (de_ix (hu1 hr) (de_var 2) (de_var 3)) (dg_name nd rfl (by first | exact Or.inl rfl | exact Or.inr rfl)))
    (dss_cons (ds_asg (de_get1 (hu1 hr) (de_var 0) (de_var 4)) (dg_name nd rfl (by first | exact Or.inl rfl | exact Or.inr rfl)))
    (dss_cons (ds_asg (de_var 3) (dg_ix (hu1 hr) (de_var 0) (de_var 4)))
    (dss_cons (ds_asg (de_var 4) (dg_ix (hu1 hr) (de_var 1) (de_var 3)))
    (dss_one (ds_asg (de_var 5) (dg_name nd rfl (by first | exact Or.inl rfl | exact Or.inr rfl))))))))))
abbrev s_greatest : Stmt := topS 16
theorem sc_greatest : FnScope ["near", "held", "taken", "more"] ["near"] (defScope s_greatest) := ⟨rfl, rfl, rfl, by decide +kernel, rfl, by decide +kernel, by decide +kernel⟩
theorem dv_greatest (B : BI mg) (C : CI mg) {k : Nat} (F_augmented : FK P w K mg base (L2.CX P w) k "augmented" 3 sp_augmented)  {f : Addr} {cdv : Value} {Ar : Around} {outer : List Env} {s : Shared} {H : Hp} {E : XK} (hr : Room k (Ar.deeper (envOfC "greatest" (defScope s_greatest) s.heap.objs.size f cdv))) :
    DSs (XB P w K mg base ["near", "held", "taken", "more"] "greatest" (defScope s_greatest) f cdv Ar outer s H E) E (defBody s_greatest) w_greatest :=
  have nd := sc_greatest.nd
  (dss_cons (ds_par (i := 1) (j := 2) rfl nd rfl rfl (by decide) (da_cons de_dK (da_cons de_dK da_nil)) (fun h => ps_par rfl nd rfl rfl (by decide) rfl rfl h rfl))
    (dss_cons (ds_asg de_bl (dg_name nd rfl (by first | exact Or.inl rfl | exact Or.inr rfl)))
    (dss_cons (ds_while (passes_of rfl) (dt_e (de_var 3)) (dss_one (ds_asg (de_call F_augmented hr pcall (da_cons (de_var 0) (da_cons (de_var 1) (da_cons (de_var 2) da_nil))) rfl) (dg_name nd rfl (by first | exact Or.inl rfl | exact Or.inr rfl)))))
    (dss_one (ds_ret (de_tup (da_cons (de_var 1) (da_cons (de_var 2) da_nil))))))))
abbrev s_left_out : Stmt := topS 17
theorem sc_left_out : FnScope ["near", "held", "taken", "some", "lines", "queue", "line", "receipt"] ["near", "held", "taken"] (defScope s_left_out) := ⟨rfl, rfl, rfl, by decide +kernel, rfl, by decide +kernel, by decide +kernel⟩
theorem dv_left_out (B : BI mg) (C : CI mg) {k : Nat}   {f : Addr} {cdv : Value} {Ar : Around} {outer : List Env} {s : Shared} {H : Hp} {E : XK} (hr : Room k (Ar.deeper (envOfC "left_out" (defScope s_left_out) s.heap.objs.size f cdv))) :
    DSs (XB P w K mg base ["near", "held", "taken", "some", "lines", "queue", "line", "receipt"] "left_out" (defScope s_left_out) f cdv Ar outer s H E) E (defBody s_left_out) w_left_out :=
  have nd := sc_left_out.nd
  (dss_cons (ds_par (i := 3) (j := 4) rfl nd rfl rfl (by decide) (da_cons (de_thw (dl_comp rfl nd (own := [("receipt", 7)]) (di_range rfl B.b_range (de_callB1 c_len rfl B.b_len (by decide +kernel) (de_var 0))) (blkOk_by (by kernel_rfl)) (fun _ _ _ _ _ => (dg_name nd rfl (by first | exact Or.inl rfl | exact Or.inr rfl))) (fun _ _ _ _ _ => (dts_one (dt_cmp (o_notIn (hu66 hr)) b_notIn (de_var 7) (de_var 1)))) (fun _ _ _ _ _ => (de_var 7)) (by decide))) (da_cons (de_thw (dl_disp da_nil)) da_nil)) (fun h => ps_par rfl nd rfl rfl (by decide) rfl rfl h rfl))
    (dss_cons (ds_asg (de_thw (dl_list rfl B.b_list (de_var 3))) (dg_name nd rfl (by first | exact Or.inl rfl | exact Or.inr rfl)))
    (dss_cons (ds_while (passes_of rfl) (dt_cmp (o_ne (hu64 hr)) b_ne (de_var 5) (de_frz (dl_disp da_nil))) (dss_one (ds_for (passes_of rfl) rfl (di_seq (de_ix (hu1 hr) (de_var 0) (de_popAt (de_var 5) de_int))) (dg_name nd rfl (by first | exact Or.inl rfl | exact Or.inr rfl)) (dss_one (ds_if (dt_cmp (o_notIn (hu66 hr)) b_notIn (de_var 6) (de_var 4)) (dss_cons (ds_expr (de_append (de_var 4) (de_var 6)))
    (dss_cons (ds_expr (de_append (de_var 3) (de_ix (hu1 hr) (de_var 2) (de_var 6))))
    (dss_one (ds_expr (de_append (de_var 5) (de_ix (hu1 hr) (de_var 2) (de_var 6))))))) dss_nil)))))
    (dss_one (ds_ret (de_tup (da_cons (de_callT1 c_tuple rfl B.b_tuple (by decide +kernel) (de_frz (dl_sorted rfl rfl B.b_sorted (de_var 3)))) (da_cons (de_callT1 c_tuple rfl B.b_tuple (by decide +kernel) (de_frz (dl_sorted rfl rfl B.b_sorted (de_var 4)))) da_nil))))))))
abbrev s_doubled : Stmt := topS 18
theorem sc_doubled : FnScope ["web", "near", "held", "taken"] ["web"] (defScope s_doubled) := ⟨rfl, rfl, rfl, by decide +kernel, rfl, by decide +kernel, by decide +kernel⟩
theorem dv_doubled (B : BI mg) (C : CI mg) {k : Nat} (F_left_out : FK P w K mg base (L2.CX P w) k "left_out" 3 sp_left_out) (F_greatest : FK P w K mg base (L2.CX P w) k "greatest" 1 sp_greatest) (F_near_of : FK P w K mg base (L2.CX P w) k "near_of" 1 sp_near_of) (F_need_web : FK P w K mg base (L2.CX P w) k "need_web" 1 sp_need_web)  {f : Addr} {cdv : Value} {Ar : Around} {outer : List Env} {s : Shared} {H : Hp} {E : XK} (hr : Room k (Ar.deeper (envOfC "doubled" (defScope s_doubled) s.heap.objs.size f cdv))) :
    DSs (XB P w K mg base ["web", "near", "held", "taken"] "doubled" (defScope s_doubled) f cdv Ar outer s H E) E (defBody s_doubled) w_doubled :=
  have nd := sc_doubled.nd
  (dss_cons (ds_expr (de_call F_need_web hr pcall (da_cons (de_var 0) da_nil) rfl))
    (dss_cons (ds_asg (de_call F_near_of hr pcall (da_cons (de_var 0) da_nil) rfl) (dg_name nd rfl (by first | exact Or.inl rfl | exact Or.inr rfl)))
    (dss_cons (ds_asg (de_call F_greatest hr pcall (da_cons (de_var 1) da_nil) rfl) (dg_tup rfl (.cons (i := 2) nd rfl (by first | exact Or.inl rfl | exact Or.inr rfl) (by first | exact Or.inl rfl | exact Or.inr rfl) (.cons (i := 3) nd rfl (by first | exact Or.inl rfl | exact Or.inr rfl) (by first | exact Or.inl rfl | exact Or.inr rfl) DGs.nil)) 2 rfl (fun h => pg_tup rfl h)))
    (dss_one (ds_ret (de_call F_left_out hr pcall (da_cons (de_var 1) (da_cons (de_var 2) (da_cons (de_var 3) da_nil))) rfl))))))
abbrev s_spare : Stmt := topS 19
theorem sc_spare : FnScope ["web", "some", "lines"] ["web"] (defScope s_spare) := ⟨rfl, rfl, rfl, by decide +kernel, rfl, by decide +kernel, by decide +kernel⟩
theorem dv_spare (B : BI mg) (C : CI mg) {k : Nat} (F_doubled : FK P w K mg base (L2.CX P w) k "doubled" 1 sp_doubled)  {f : Addr} {cdv : Value} {Ar : Around} {outer : List Env} {s : Shared} {H : Hp} {E : XK} (hr : Room k (Ar.deeper (envOfC "spare" (defScope s_spare) s.heap.objs.size f cdv))) :
    DSs (XB P w K mg base ["web", "some", "lines"] "spare" (defScope s_spare) f cdv Ar outer s H E) E (defBody s_spare) w_spare :=
  have nd := sc_spare.nd
  (dss_cons (ds_asg (de_call F_doubled hr pcall (da_cons (de_var 0) da_nil) rfl) (dg_tup rfl (.cons (i := 1) nd rfl (by first | exact Or.inl rfl | exact Or.inr rfl) (by first | exact Or.inl rfl | exact Or.inr rfl) (.cons (i := 2) nd rfl (by first | exact Or.inl rfl | exact Or.inr rfl) (by first | exact Or.inl rfl | exact Or.inr rfl) DGs.nil)) 2 rfl (fun h => pg_tup rfl h)))
    (dss_one (ds_ret (de_bin o_sub (de_callB1 c_len rfl B.b_len (by decide +kernel) (de_var 1)) (de_callB1 c_len rfl B.b_len (by decide +kernel) (de_var 2))))))
abbrev s_lines_along : Stmt := topS 21
theorem sc_lines_along : FnScope ["near", "held", "taken", "start", "found", "queue", "receipt", "line"] ["near", "held", "taken", "start"] (defScope s_lines_along) := ⟨rfl, rfl, rfl, by decide +kernel, rfl, by decide +kernel, by decide +kernel⟩
theorem dv_lines_along (B : BI mg) (C : CI mg) {k : Nat}   {f : Addr} {cdv : Value} {Ar : Around} {outer : List Env} {s : Shared} {H : Hp} {E : XK} (hr : Room k (Ar.deeper (envOfC "lines_along" (defScope s_lines_along) s.heap.objs.size f cdv))) :
    DSs (XB P w K mg base ["near", "held", "taken", "start", "found", "queue", "receipt", "line"] "lines_along" (defScope s_lines_along) f cdv Ar outer s H E) E (defBody s_lines_along) w_lines_along :=
  have nd := sc_lines_along.nd
  (dss_cons (ds_par (i := 4) (j := 5) rfl nd rfl rfl (by decide) (da_cons (de_thw (dl_disp da_nil)) (da_cons (de_thw (dl_disp (da_cons (de_var 3) da_nil))) da_nil)) (fun h => ps_par rfl nd rfl rfl (by decide) rfl rfl h rfl))
    (dss_cons (ds_while (passes_of rfl) (dt_cmp (o_ne (hu64 hr)) b_ne (de_var 5) (de_frz (dl_disp da_nil))) (dss_cons (ds_asg (de_popAt (de_var 5) de_int) (dg_name nd rfl (by first | exact Or.inl rfl | exact Or.inr rfl)))
    (dss_one (ds_for (passes_of rfl) rfl (di_seq (de_ix (hu1 hr) (de_var 0) (de_var 6))) (dg_name nd rfl (by first | exact Or.inl rfl | exact Or.inr rfl)) (dss_one (ds_if (dt_w (dw_and (dt_cmp (o_notIn (hu66 hr)) b_notIn (de_var 7) (de_var 4)) (dw_and1 (dt_cmp (o_ne (hu64 hr)) b_ne (de_get1 (hu1 hr) (de_var 1) (de_var 6)) (de_var 7))))) (dss_cons (ds_expr (de_append (de_var 4) (de_var 7)))
    (dss_one (ds_if (dt_cmp (o_in (hu66 hr)) b_in (de_var 7) (de_var 2)) (dss_one (ds_expr (de_append (de_var 5) (de_ix (hu1 hr) (de_var 2) (de_var 7))))) dss_nil))) dss_nil))))))
    (dss_one (ds_ret (de_var 4)))))
abbrev s_kinds : Stmt := topS 22
theorem sc_kinds : FnScope ["web", "near", "held", "taken", "some", "along", "found", "receipt", "line", "loose", "other"] ["web"] (defScope s_kinds) := ⟨rfl, rfl, rfl, by decide +kernel, rfl, by decide +kernel, by decide +kernel⟩
theorem dv_kinds (B : BI mg) (C : CI mg) {k : Nat} (F_lines_along : FK P w K mg base (L2.CX P w) k "lines_along" 4 sp_lines_along) (F_left_out : FK P w K mg base (L2.CX P w) k "left_out" 3 sp_left_out) (F_greatest : FK P w K mg base (L2.CX P w) k "greatest" 1 sp_greatest) (F_near_of : FK P w K mg base (L2.CX P w) k "near_of" 1 sp_near_of) (F_need_web : FK P w K mg base (L2.CX P w) k "need_web" 1 sp_need_web)  {f : Addr} {cdv : Value} {Ar : Around} {outer : List Env} {s : Shared} {H : Hp} {E : XK} (hr : Room k (Ar.deeper (envOfC "kinds" (defScope s_kinds) s.heap.objs.size f cdv))) :
    DSs (XB P w K mg base ["web", "near", "held", "taken", "some", "along", "found", "receipt", "line", "loose", "other"] "kinds" (defScope s_kinds) f cdv Ar outer s H E) E (defBody s_kinds) w_kinds :=
  have nd := sc_kinds.nd
  (dss_cons (ds_expr (de_call F_need_web hr pcall (da_cons (de_var 0) da_nil) rfl))
    (dss_cons (ds_asg (de_call F_near_of hr pcall (da_cons (de_var 0) da_nil) rfl) (dg_name nd rfl (by first | exact Or.inl rfl | exact Or.inr rfl)))
    (dss_cons (ds_asg (de_call F_greatest hr pcall (da_cons (de_var 1) da_nil) rfl) (dg_tup rfl (.cons (i := 2) nd rfl (by first | exact Or.inl rfl | exact Or.inr rfl) (by first | exact Or.inl rfl | exact Or.inr rfl) (.cons (i := 3) nd rfl (by first | exact Or.inl rfl | exact Or.inr rfl) (by first | exact Or.inl rfl | exact Or.inr rfl) DGs.nil)) 2 rfl (fun h => pg_tup rfl h)))
    (dss_cons (ds_asg (de_ix (hu1 hr) (de_call F_left_out hr pcall (da_cons (de_var 1) (da_cons (de_var 2) (da_cons (de_var 3) da_nil))) rfl) de_int) (dg_name nd rfl (by first | exact Or.inl rfl | exact Or.inr rfl)))
    (dss_cons (ds_frz (dal_comp (i := 5) rfl nd rfl rfl (sw_true rfl rfl rfl (by decide +kernel)) (own := [("receipt", 7)]) (di_range rfl B.b_range (de_ix (hu1 hr) (de_var 0) de_int)) (blkOk_by (by kernel_rfl)) (fun _ _ _ _ _ => (dg_name nd rfl (by first | exact Or.inl rfl | exact Or.inr rfl))) (fun _ _ _ _ _ => dts_nil) (fun _ _ _ _ _ => (de_call F_lines_along hr passL (da_cons (de_var 1) (da_cons (de_var 2) (da_cons (de_var 3) (da_cons (de_var 7) da_nil)))) rfl)) (by decide)))
    (dss_cons (ds_asg (de_thw (dl_disp da_nil)) (dg_name nd rfl (by first | exact Or.inl rfl | exact Or.inr rfl)))
    (dss_cons (ds_for (passes_of rfl) rfl (di_seq (de_ix (hu1 hr) (de_var 0) de_int)) (dg_tup rfl (.cons (i := 7) nd rfl (by first | exact Or.inl rfl | exact Or.inr rfl) (by first | exact Or.inl rfl | exact Or.inr rfl) (.cons (i := 8) nd rfl (by first | exact Or.inl rfl | exact Or.inr rfl) (by first | exact Or.inl rfl | exact Or.inr rfl) DGs.nil)) 2 rfl (fun h => pg_tup rfl h)) (dss_cons (ds_asg (de_or (de_cmp (o_notIn (hu66 hr)) (de_var 8) (de_var 3)) (de_one (de_callB1 (c_any rfl) rfl B.b_any (by decide +kernel) (de_frz (dl_comp rfl nd (own := [("other", 10)]) (di_seq (de_ix (hu1 hr) (de_var 5) (de_ix (hu1 hr) (de_var 3) (de_var 8)))) (blkOk_by (by kernel_rfl)) (fun _ _ _ _ _ => (dg_name nd rfl (by first | exact Or.inl rfl | exact Or.inr rfl))) (fun _ _ _ _ _ => dts_nil) (fun _ _ _ _ _ => (de_cmp (o_notIn (hu66 hr)) (de_var 10) (de_var 3))) (by decide)))))) (dg_name nd rfl (by first | exact Or.inl rfl | exact Or.inr rfl)))
    (dss_one (ds_if (dt_w (dw_or (dt_cmp (o_in (hu66 hr)) b_in (de_var 7) (de_var 4)) (dw_or1 (dt_e (de_var 9))))) (dss_one (ds_expr (de_append (de_var 6) (de_str (s := "perhaps"))))) (dss_one (ds_if (dt_cmp (o_eq (hu64 hr)) b_eq (de_ix (hu1 hr) (de_var 2) (de_var 7)) (de_var 8)) (dss_one (ds_expr (de_append (de_var 6) (de_if (dt_cmp (o_in (hu66 hr)) b_in (de_var 8) (de_ix (hu1 hr) (de_var 5) (de_var 7))) (de_str (s := "perhaps")) (de_str (s := "surely")))))) (dss_one (ds_expr (de_append (de_var 6) (de_if (dt_cmp (o_in (hu66 hr)) b_in (de_ix (hu1 hr) (de_var 2) (de_var 7)) (de_ix (hu1 hr) (de_var 5) (de_ix (hu1 hr) (de_var 3) (de_var 8)))) (de_str (s := "perhaps")) (de_str (s := "never"))))))))))))
    (dss_one (ds_ret (de_callT1 c_tuple rfl B.b_tuple (by decide +kernel) (de_var 6)))))))))))
abbrev s_L_begun : Stmt := topS 24
theorem sc_L_begun : FnScope ["script", "great", "cell"] ["script"] (defScope s_L_begun) := ⟨rfl, rfl, rfl, by decide +kernel, rfl, by decide +kernel, by decide +kernel⟩
theorem dv_L_begun (B : BI mg) (C : CI mg) {k : Nat}   {f : Addr} {cdv : Value} {Ar : Around} {outer : List Env} {s : Shared} {H : Hp} {E : XK} (hr : Room k (Ar.deeper (envOfC "_law_begun" (defScope s_L_begun) s.heap.objs.size f cdv))) :
    DSs (XB P w K mg base ["script", "great", "cell"] "_law_begun" (defScope s_L_begun) f cdv Ar outer s H E) E (defBody s_L_begun) w_L_begun :=
  have nd := sc_L_begun.nd
  (dss_cons (ds_thw (dal_comp (i := 1) rfl nd rfl rfl (sw_true rfl rfl rfl (by decide +kernel)) (own := [("cell", 2)]) (di_seq (de_var 0)) (blkOk_by (by kernel_rfl)) (fun _ _ _ _ _ => (dg_name nd rfl (by first | exact Or.inl rfl | exact Or.inr rfl))) (fun _ _ _ _ _ => (dts_one (dt_cmp o_ge b_ge (de_callB1 c_abs rfl B.b_abs (by decide +kernel) (de_var 2)) (de_bin o_pow de_int de_int)))) (fun _ _ _ _ _ => (de_bin o_sub (de_callB1 c_abs rfl B.b_abs (by decide +kernel) (de_var 2)) (de_bin o_pow de_int de_int))) (by decide)))
    (dss_one (ds_ret (de_dict (.cons (de_str (s := "great")) (de_var 1) (.cons (de_str (s := "cells")) (de_frz (dl_comp rfl nd (own := [("cell", 2)]) (di_seq (de_var 0)) (blkOk_by (by kernel_rfl)) (fun _ _ _ _ _ => (dg_name nd rfl (by first | exact Or.inl rfl | exact Or.inr rfl))) (fun _ _ _ _ _ => dts_nil) (fun _ _ _ _ _ => (de_callB1 c_abs rfl B.b_abs (by decide +kernel) (de_var 2))) (by decide))) (.cons (de_str (s := "left")) de_int (.cons (de_str (s := "turn")) de_int DPs.nil))))))))
abbrev s_L_blended : Stmt := topS 25
theorem sc_L_blended : FnScope ["state", "turn", "found", "prime", "blend", "cell"] ["state"] (defScope s_L_blended) := ⟨rfl, rfl, rfl, by decide +kernel, rfl, by decide +kernel, by decide +kernel⟩
theorem dv_L_blended (B : BI mg) (C : CI mg) {k : Nat}   {f : Addr} {cdv : Value} {Ar : Around} {outer : List Env} {s : Shared} {H : Hp} {E : XK} (hr : Room k (Ar.deeper (envOfC "_law_blended" (defScope s_L_blended) s.heap.objs.size f cdv))) :
    DSs (XB P w K mg base ["state", "turn", "found", "prime", "blend", "cell"] "_law_blended" (defScope s_L_blended) f cdv Ar outer s H E) E (defBody s_L_blended) w_L_blended :=
  have nd := sc_L_blended.nd
  (dss_cons (ds_par (i := 1) (j := 2) rfl nd rfl rfl (by decide) (da_cons (de_bin o_add (de_ix (hu1 hr) (de_var 0) (de_str (s := "turn"))) de_int) (da_cons de_int da_nil)) (fun h => ps_par rfl nd rfl rfl (by decide) rfl rfl h rfl))
    (dss_cons (ds_asg (de_var 1) (dg_ix (hu1 hr) (de_var 0) (de_str (s := "turn"))))
    (dss_cons (ds_for (passes_of rfl) rfl (di_seq (de_frz (dl_disp (da_cons de_int (da_cons de_int (da_cons de_int da_nil)))))) (dg_name nd rfl (by first | exact Or.inl rfl | exact Or.inr rfl)) (dss_cons (ds_asg (de_bin o_add (de_bin o_mul de_int (de_var 1)) (de_bin o_fdiv (de_var 3) de_int)) (dg_name nd rfl (by first | exact Or.inl rfl | exact Or.inr rfl)))
    (dss_cons (ds_for (passes_of rfl) rfl (di_seq (de_ix (hu1 hr) (de_var 0) (de_str (s := "cells")))) (dg_name nd rfl (by first | exact Or.inl rfl | exact Or.inr rfl)) (dss_one (ds_asg (de_bin o_mod (de_callT1 c_int rfl B.b_int (by decide +kernel) (de_bin o_add (de_bin o_add (de_bin o_mul (de_var 4) de_int) (de_var 5)) (de_var 1))) (de_var 3)) (dg_name nd rfl (by first | exact Or.inl rfl | exact Or.inr rfl)))))
    (dss_one (ds_asg (de_bin o_add (de_bin o_mul (de_var 2) de_int) (de_bin o_mod (de_callT1 c_int rfl B.b_int (by decide +kernel) (de_bin o_pow (de_var 4) de_int)) (de_var 3))) (dg_name nd rfl (by first | exact Or.inl rfl | exact Or.inr rfl)))))))
    (dss_one (ds_ret (de_var 2))))))
abbrev s_L_draw : Stmt := topS 26
theorem sc_L_draw : FnScope ["state", "size_here", "found"] ["state", "size_here"] (defScope s_L_draw) := ⟨rfl, rfl, rfl, by decide +kernel, rfl, by decide +kernel, by decide +kernel⟩
theorem dv_L_draw (B : BI mg) (C : CI mg) {k : Nat} (F_L_blended : FK P w K mg base (L2.CX P w) k "_law_blended" 1 sp_L_blended)  {f : Addr} {cdv : Value} {Ar : Around} {outer : List Env} {s : Shared} {H : Hp} {E : XK} (hr : Room k (Ar.deeper (envOfC "_law_draw" (defScope s_L_draw) s.heap.objs.size f cdv))) :
    DSs (XB P w K mg base ["state", "size_here", "found"] "_law_draw" (defScope s_L_draw) f cdv Ar outer s H E) E (defBody s_L_draw) w_L_draw :=
  have nd := sc_L_draw.nd
  (dss_cons (ds_if (dt_cmp (o_eq (hu64 hr)) b_eq (de_ix (hu1 hr) (de_var 0) (de_str (s := "left"))) de_int) (dss_one (ds_asg (de_if (dt_cmp (o_ne (hu64 hr)) b_ne (de_ix (hu1 hr) (de_var 0) (de_str (s := "great"))) (de_frz (dl_disp da_nil))) (de_popAt (de_ix (hu1 hr) (de_var 0) (de_str (s := "great"))) de_int) (de_call F_L_blended hr pcall (da_cons (de_var 0) da_nil) rfl)) (dg_ix (hu1 hr) (de_var 0) (de_str (s := "left"))))) dss_nil)
    (dss_cons (ds_asg (de_bin o_mod (de_callT1 c_int rfl B.b_int (by decide +kernel) (de_ix (hu1 hr) (de_var 0) (de_str (s := "left")))) (de_var 1)) (dg_name nd rfl (by first | exact Or.inl rfl | exact Or.inr rfl)))
    (dss_cons (ds_asg (de_bin o_fdiv (de_ix (hu1 hr) (de_var 0) (de_str (s := "left"))) (de_var 1)) (dg_ix (hu1 hr) (de_var 0) (de_str (s := "left"))))
    (dss_one (ds_ret (de_var 2))))))
abbrev s_L_pick : Stmt := topS 27
theorem sc_L_pick : FnScope ["state", "several"] ["state", "several"] (defScope s_L_pick) := ⟨rfl, rfl, rfl, by decide +kernel, rfl, by decide +kernel, by decide +kernel⟩
theorem dv_L_pick (B : BI mg) (C : CI mg) {k : Nat} (F_L_draw : FK P w K mg base (L2.CX P w) k "_law_draw" 2 sp_L_draw)  {f : Addr} {cdv : Value} {Ar : Around} {outer : List Env} {s : Shared} {H : Hp} {E : XK} (hr : Room k (Ar.deeper (envOfC "_law_pick" (defScope s_L_pick) s.heap.objs.size f cdv))) :
    DSs (XB P w K mg base ["state", "several"] "_law_pick" (defScope s_L_pick) f cdv Ar outer s H E) E (defBody s_L_pick) w_L_pick :=
  have nd := sc_L_pick.nd
  (dss_one (ds_ret (de_ix (hu1 hr) (de_var 1) (de_call F_L_draw hr pcall (da_cons (de_var 0) (da_cons (de_callB1 c_len rfl B.b_len (by decide +kernel) (de_var 1)) da_nil)) rfl))))
abbrev s_L_mixed : Stmt := topS 28
theorem sc_L_mixed : FnScope ["state", "several", "left", "found"] ["state", "several"] (defScope s_L_mixed) := ⟨rfl, rfl, rfl, by decide +kernel, rfl, by decide +kernel, by decide +kernel⟩
theorem dv_L_mixed (B : BI mg) (C : CI mg) {k : Nat} (F_L_draw : FK P w K mg base (L2.CX P w) k "_law_draw" 2 sp_L_draw)  {f : Addr} {cdv : Value} {Ar : Around} {outer : List Env} {s : Shared} {H : Hp} {E : XK} (hr : Room k (Ar.deeper (envOfC "_law_mixed" (defScope s_L_mixed) s.heap.objs.size f cdv))) :
    DSs (XB P w K mg base ["state", "several", "left", "found"] "_law_mixed" (defScope s_L_mixed) f cdv Ar outer s H E) E (defBody s_L_mixed) w_L_mixed :=
  have nd := sc_L_mixed.nd
  (dss_cons (ds_par (i := 2) (j := 3) rfl nd rfl rfl (by decide) (da_cons (de_thw (dl_list rfl B.b_list (de_var 1))) (da_cons (de_thw (dl_disp da_nil)) da_nil)) (fun h => ps_par rfl nd rfl rfl (by decide) rfl rfl h rfl))
    (dss_cons (ds_while (passes_of rfl) (dt_cmp (o_ne (hu64 hr)) b_ne (de_var 2) (de_frz (dl_disp da_nil))) (dss_one (ds_expr (de_append (de_var 3) (de_popAt (de_var 2) (de_call F_L_draw hr pcall (da_cons (de_var 0) (da_cons (de_callB1 c_len rfl B.b_len (by decide +kernel) (de_var 2)) da_nil)) rfl))))))
    (dss_one (ds_ret (de_var 3)))))
abbrev s_L_is_whole : Stmt := topS 29
theorem sc_L_is_whole : FnScope ["item"] ["item"] (defScope s_L_is_whole) := ⟨rfl, rfl, rfl, by decide +kernel, rfl, by decide +kernel, by decide +kernel⟩
theorem dv_L_is_whole (B : BI mg) (C : CI mg) {k : Nat}   {f : Addr} {cdv : Value} {Ar : Around} {outer : List Env} {s : Shared} {H : Hp} {E : XK} (hr : Room k (Ar.deeper (envOfC "_law_is_whole" (defScope s_L_is_whole) s.heap.objs.size f cdv))) :
    DSs (XB P w K mg base ["item"] "_law_is_whole" (defScope s_L_is_whole) f cdv Ar outer s H E) E (defBody s_L_is_whole) w_L_is_whole :=
  have nd := sc_L_is_whole.nd
  (dss_one (ds_ret (de_and (de_isi (T := "int") (by decide) rfl B.b_isinstance rfl B.b_int (by decide +kernel) (de_var 0)) (de_one (de_not (de_isi (T := "bool") (by decide) rfl B.b_isinstance rfl B.b_bool (by decide +kernel) (de_var 0)))))))
abbrev s_L_rc_within : Stmt := topS 30
theorem sc_L_rc_within : FnScope ["value", "many"] ["value", "many"] (defScope s_L_rc_within) := ⟨rfl, rfl, rfl, by decide +kernel, rfl, by decide +kernel, by decide +kernel⟩
theorem dv_L_rc_within (B : BI mg) (C : CI mg) {k : Nat} (F_L_is_whole : FK P w K mg base (L2.CX P w) k "_law_is_whole" 1 sp_L_is_whole)  {f : Addr} {cdv : Value} {Ar : Around} {outer : List Env} {s : Shared} {H : Hp} {E : XK} (hr : Room k (Ar.deeper (envOfC "_law_rc_within" (defScope s_L_rc_within) s.heap.objs.size f cdv))) :
    DSs (XB P w K mg base ["value", "many"] "_law_rc_within" (defScope s_L_rc_within) f cdv Ar outer s H E) E (defBody s_L_rc_within) w_L_rc_within :=
  have nd := sc_L_rc_within.nd
  (dss_one (ds_ret (de_and (de_call F_L_is_whole hr pcall (da_cons (de_var 0) da_nil) rfl) (de_one (de_chain o_le (o_lt (hu0 hr)) de_int (de_var 0) (de_var 1))))))
abbrev s_L_rc_is_lot : Stmt := topS 31
theorem sc_L_rc_is_lot : FnScope ["value", "many", "item", "one", "other"] ["value", "many"] (defScope s_L_rc_is_lot) := ⟨rfl, rfl, rfl, by decide +kernel, rfl, by decide +kernel, by decide +kernel⟩
theorem dv_L_rc_is_lot (B : BI mg) (C : CI mg) {k : Nat} (F_L_rc_within : FK P w K mg base (L2.CX P w) k "_law_rc_within" 2 sp_L_rc_within)  {f : Addr} {cdv : Value} {Ar : Around} {outer : List Env} {s : Shared} {H : Hp} {E : XK} (hr : Room k (Ar.deeper (envOfC "_law_rc_is_lot" (defScope s_L_rc_is_lot) s.heap.objs.size f cdv))) :
    DSs (XB P w K mg base ["value", "many", "item", "one", "other"] "_law_rc_is_lot" (defScope s_L_rc_is_lot) f cdv Ar outer s H E) E (defBody s_L_rc_is_lot) w_L_rc_is_lot :=
  have nd := sc_L_rc_is_lot.nd
  (dss_cons (ds_if (dt_w (dw_or (dt_not (dt_e (de_isi (T := "tuple") (by decide) rfl B.b_isinstance rfl B.b_tuple (by decide +kernel) (de_var 0)))) (dw_or1 (dt_cmp (o_ne (hu64 hr)) b_ne (de_frz (dl_comp rfl nd (own := [("item", 2)]) (di_seq (de_var 0)) (blkOk_by (by kernel_rfl)) (fun _ _ _ _ _ => (dg_name nd rfl (by first | exact Or.inl rfl | exact Or.inr rfl))) (fun _ _ _ _ _ => (dts_one (dt_not (dt_e (de_call F_L_rc_within hr passL (da_cons (de_var 2) (da_cons (de_var 1) da_nil)) rfl))))) (fun _ _ _ _ _ => de_int) (by decide))) (de_frz (dl_disp da_nil)))))) (dss_one (ds_ret de_bl)) dss_nil)
    (dss_one (ds_ret (de_cmp (o_eq (hu64 hr)) (de_frz (dl_comp rfl nd (own := [("one", 3), ("other", 4)]) (di_zip rfl rfl B.b_zip (de_var 0) (de_sl (de_var 0) (do_some de_int) do_none)) (blkOk_by (by kernel_rfl)) (fun _ _ _ _ _ => (dg_tup rfl (.cons (i := 3) nd rfl (by first | exact Or.inl rfl | exact Or.inr rfl) (by first | exact Or.inl rfl | exact Or.inr rfl) (.cons (i := 4) nd rfl (by first | exact Or.inl rfl | exact Or.inr rfl) (by first | exact Or.inl rfl | exact Or.inr rfl) DGs.nil)) 2 rfl (fun h => pg_tup rfl h))) (fun _ _ _ _ _ => (dts_one (dt_not (dt_cmp (o_lt (hu0 hr)) b_lt (de_var 3) (de_var 4))))) (fun _ _ _ _ _ => de_int) (by decide))) (de_frz (dl_disp da_nil))))))
abbrev s_L_rc_is_lots : Stmt := topS 32
theorem sc_L_rc_is_lots : FnScope ["web", "value"] ["web", "value"] (defScope s_L_rc_is_lots) := ⟨rfl, rfl, rfl, by decide +kernel, rfl, by decide +kernel, by decide +kernel⟩
theorem dv_L_rc_is_lots (B : BI mg) (C : CI mg) {k : Nat} (F_L_rc_is_lot : FK P w K mg base (L2.CX P w) k "_law_rc_is_lot" 2 sp_L_rc_is_lot)  {f : Addr} {cdv : Value} {Ar : Around} {outer : List Env} {s : Shared} {H : Hp} {E : XK} (hr : Room k (Ar.deeper (envOfC "_law_rc_is_lots" (defScope s_L_rc_is_lots) s.heap.objs.size f cdv))) :
    DSs (XB P w K mg base ["web", "value"] "_law_rc_is_lots" (defScope s_L_rc_is_lots) f cdv Ar outer s H E) E (defBody s_L_rc_is_lots) w_L_rc_is_lots :=
  have nd := sc_L_rc_is_lots.nd
  (dss_cons (ds_if (dt_w (dw_or (dt_not (dt_e (de_isi (T := "tuple") (by decide) rfl B.b_isinstance rfl B.b_tuple (by decide +kernel) (de_var 1)))) (dw_or1 (dt_cmp (o_ne (hu64 hr)) b_ne (de_callB1 c_len rfl B.b_len (by decide +kernel) (de_var 1)) de_int)))) (dss_one (ds_ret de_bl)) dss_nil)
    (dss_one (ds_ret (de_and (de_call F_L_rc_is_lot hr pcall (da_cons (de_ix (hu1 hr) (de_var 1) de_int) (da_cons (de_ix (hu1 hr) (de_var 0) de_int) da_nil)) rfl) (de_one (de_call F_L_rc_is_lot hr pcall (da_cons (de_ix (hu1 hr) (de_var 1) de_int) (da_cons (de_ix (hu1 hr) (de_var 0) de_int) da_nil)) rfl))))))
abbrev s_L_rc_web : Stmt := topS 33
theorem sc_L_rc_web : FnScope ["state", "top", "most", "many", "other", "found", "thin", "unlike_here", "receipt", "line"] ["state", "top", "most"] (defScope s_L_rc_web) := ⟨rfl, rfl, rfl, by decide +kernel, rfl, by decide +kernel, by decide +kernel⟩
theorem dv_L_rc_web (B : BI mg) (C : CI mg) {k : Nat} (F_L_mixed : FK P w K mg base (L2.CX P w) k "_law_mixed" 2 sp_L_mixed) (F_L_draw : FK P w K mg base (L2.CX P w) k "_law_draw" 2 sp_L_draw) (F_L_pick : FK P w K mg base (L2.CX P w) k "_law_pick" 2 sp_L_pick)  {f : Addr} {cdv : Value} {Ar : Around} {outer : List Env} {s : Shared} {H : Hp} {E : XK} (hr : Room k (Ar.deeper (envOfC "_law_rc_web" (defScope s_L_rc_web) s.heap.objs.size f cdv))) :
    DSs (XB P w K mg base ["state", "top", "most", "many", "other", "found", "thin", "unlike_here", "receipt", "line"] "_law_rc_web" (defScope s_L_rc_web) f cdv Ar outer s H E) E (defBody s_L_rc_web) w_L_rc_web :=
  have nd := sc_L_rc_web.nd
  (dss_cons (ds_par3 (i := 3) (j := 4) (l := 5) (da_cons (de_call F_L_draw hr pcall (da_cons (de_var 0) (da_cons (de_bin o_add (de_var 1) de_int) da_nil)) rfl) (da_cons (de_call F_L_draw hr pcall (da_cons (de_var 0) (da_cons (de_bin o_add (de_var 1) de_int) da_nil)) rfl) (da_cons (de_frz (dl_disp da_nil)) da_nil))) (fun h => ps_par3 rfl nd rfl rfl rfl (by decide) (by decide) (by decide) rfl rfl rfl h rfl))
    (dss_cons (ds_asg (de_tup (da_cons (de_call F_L_pick hr pcall (da_cons (de_var 0) (da_cons (de_frz (dl_disp (da_cons de_int (da_cons de_int (da_cons de_int (da_cons de_int (da_cons (de_bin o_add de_int (de_bin o_fdiv (de_var 4) de_int)) (da_cons (de_bin o_add de_int (de_bin o_fdiv (de_var 4) de_int)) (da_cons (de_bin o_add de_int (de_bin o_fdiv (de_var 4) de_int)) da_nil))))))))) da_nil)) rfl) (da_cons (de_cmp (o_eq (hu64 hr)) (de_call F_L_draw hr pcall (da_cons (de_var 0) (da_cons de_int da_nil)) rfl) de_int) da_nil))) (dg_tup rfl (.cons (i := 6) nd rfl (by first | exact Or.inl rfl | exact Or.inr rfl) (by first | exact Or.inl rfl | exact Or.inr rfl) (.cons (i := 7) nd rfl (by first | exact Or.inl rfl | exact Or.inr rfl) (by first | exact Or.inl rfl | exact Or.inr rfl) DGs.nil)) 2 rfl (fun h => pg_tup rfl h)))
    (dss_cons (ds_for (passes_of rfl) rfl (di_range rfl B.b_range (de_var 3)) (dg_name nd rfl (by first | exact Or.inl rfl | exact Or.inr rfl)) (dss_cons (ds_if (dt_e (de_var 7)) (dss_one (ds_asg (de_call F_L_pick hr pcall (da_cons (de_var 0) (da_cons (de_frz (dl_disp (da_cons de_int (da_cons de_int (da_cons de_int (da_cons de_int (da_cons (de_bin o_add de_int (de_var 4)) (da_cons (de_bin o_add de_int (de_var 4)) da_nil)))))))) da_nil)) rfl) (dg_name nd rfl (by first | exact Or.inl rfl | exact Or.inr rfl)))) dss_nil)
    (dss_one (ds_asg (de_frz (dl_cat (de_var 5) (de_frz (dl_comp rfl nd (own := [("line", 9)]) (di_range rfl B.b_range (de_var 4)) (blkOk_by (by kernel_rfl)) (fun _ _ _ _ _ => (dg_name nd rfl (by first | exact Or.inl rfl | exact Or.inr rfl))) (fun _ _ _ _ _ => (dts_one (dt_cmp (o_eq (hu64 hr)) b_eq (de_call F_L_draw hr passL (da_cons (de_var 0) (da_cons (de_var 6) da_nil)) rfl) de_int))) (fun _ _ _ _ _ => (de_tup (da_cons (de_var 8) (da_cons (de_var 9) da_nil)))) (by decide))))) (dg_name nd rfl (by first | exact Or.inl rfl | exact Or.inr rfl))))))
    (dss_one (ds_ret (de_tup (da_cons (de_var 3) (da_cons (de_var 4) (da_cons (de_callT1 c_tuple rfl B.b_tuple (by decide +kernel) (de_frz (dl_sorted rfl rfl B.b_sorted (de_sl (de_call F_L_mixed hr pcall (da_cons (de_var 0) (da_cons (de_var 5) da_nil)) rfl) do_none (do_some (de_var 2)))))) da_nil)))))))))
abbrev s_L_rc_near : Stmt := topS 34
theorem sc_L_rc_near : FnScope ["many", "pairs", "rows", "receipt", "line"] ["many", "pairs"] (defScope s_L_rc_near) := ⟨rfl, rfl, rfl, by decide +kernel, rfl, by decide +kernel, by decide +kernel⟩
theorem dv_L_rc_near (B : BI mg) (C : CI mg) {k : Nat}   {f : Addr} {cdv : Value} {Ar : Around} {outer : List Env} {s : Shared} {H : Hp} {E : XK} (hr : Room k (Ar.deeper (envOfC "_law_rc_near" (defScope s_L_rc_near) s.heap.objs.size f cdv))) :
    DSs (XB P w K mg base ["many", "pairs", "rows", "receipt", "line"] "_law_rc_near" (defScope s_L_rc_near) f cdv Ar outer s H E) E (defBody s_L_rc_near) w_L_rc_near :=
  have nd := sc_L_rc_near.nd
  (dss_cons (ds_thw (dal_comp (i := 2) rfl nd rfl rfl (sw_true rfl rfl rfl (by decide +kernel)) (own := [("receipt", 3)]) (di_range rfl B.b_range (de_var 0)) (blkOk_by (by kernel_rfl)) (fun _ _ _ _ _ => (dg_name nd rfl (by first | exact Or.inl rfl | exact Or.inr rfl))) (fun _ _ _ _ _ => dts_nil) (fun _ _ _ _ _ => (de_thw (dl_disp da_nil))) (by decide)))
    (dss_cons (ds_for (passes_of rfl) rfl (di_seq (de_var 1)) (dg_tup rfl (.cons (i := 3) nd rfl (by first | exact Or.inl rfl | exact Or.inr rfl) (by first | exact Or.inl rfl | exact Or.inr rfl) (.cons (i := 4) nd rfl (by first | exact Or.inl rfl | exact Or.inr rfl) (by first | exact Or.inl rfl | exact Or.inr rfl) DGs.nil)) 2 rfl (fun h => pg_tup rfl h)) (dss_one (ds_expr (de_append (de_ix (hu1 hr) (de_var 2) (de_var 3)) (de_var 4)))))
    (dss_one (ds_ret (de_var 2)))))
abbrev s_L_rc_led : Stmt := topS 35
theorem sc_L_rc_led : FnScope ["near", "taken", "receipt", "met_here", "line"] ["near", "taken", "receipt", "met_here"] (defScope s_L_rc_led) := ⟨rfl, rfl, rfl, by decide +kernel, rfl, by decide +kernel, by decide +kernel⟩
theorem dv_L_rc_led (B : BI mg) (C : CI mg) {k : Nat} {sp_L_rc_led : DSp} (F_L_rc_led : FK P w K mg base (L2.CX P w) k "_law_rc_led" 4 sp_L_rc_led)  {f : Addr} {cdv : Value} {Ar : Around} {outer : List Env} {s : Shared} {H : Hp} {E : XK} (hr : Room k (Ar.deeper (envOfC "_law_rc_led" (defScope s_L_rc_led) s.heap.objs.size f cdv))) :
    DSs (XB P w K mg base ["near", "taken", "receipt", "met_here", "line"] "_law_rc_led" (defScope s_L_rc_led) f cdv Ar outer s H E) E (defBody s_L_rc_led) (w_L_rc_led sp_L_rc_led) :=
  have nd := sc_L_rc_led.nd
  (dss_cons (ds_for (passes_of rfl) rfl (di_seq (de_ix (hu1 hr) (de_var 0) (de_var 2))) (dg_name nd rfl (by first | exact Or.inl rfl | exact Or.inr rfl)) (dss_one (ds_if (dt_cmp (o_notIn (hu66 hr)) b_notIn (de_var 4) (de_var 3)) (dss_cons (ds_asg de_bl (dg_ix (hu1 hr) (de_var 3) (de_var 4)))
    (dss_one (ds_if (dt_w (dw_or (dt_cmp (o_notIn (hu66 hr)) b_notIn (de_var 4) (de_var 1)) (dw_or1 (dt_e (de_call F_L_rc_led hr pcall (da_cons (de_var 0) (da_cons (de_var 1) (da_cons (de_ix (hu1 hr) (de_var 1) (de_var 4)) (da_cons (de_var 3) da_nil)))) rfl))))) (dss_cons (ds_asg (de_var 2) (dg_ix (hu1 hr) (de_var 1) (de_var 4)))
    (dss_one (ds_ret de_bl))) dss_nil))) dss_nil)))
    (dss_one (ds_ret de_bl)))
abbrev s_L_rc_taken : Stmt := topS 36
theorem sc_L_rc_taken : FnScope ["near", "order", "taken", "receipt"] ["near", "order"] (defScope s_L_rc_taken) := ⟨rfl, rfl, rfl, by decide +kernel, rfl, by decide +kernel, by decide +kernel⟩
theorem dv_L_rc_taken (B : BI mg) (C : CI mg) {k : Nat} (F_L_rc_led : FK P w K mg base (L2.CX P w) k "_law_rc_led" 4 sp_L_rc_led)  {f : Addr} {cdv : Value} {Ar : Around} {outer : List Env} {s : Shared} {H : Hp} {E : XK} (hr : Room k (Ar.deeper (envOfC "_law_rc_taken" (defScope s_L_rc_taken) s.heap.objs.size f cdv))) :
    DSs (XB P w K mg base ["near", "order", "taken", "receipt"] "_law_rc_taken" (defScope s_L_rc_taken) f cdv Ar outer s H E) E (defBody s_L_rc_taken) w_L_rc_taken :=
  have nd := sc_L_rc_taken.nd
  (dss_cons (ds_asg de_dK (dg_name nd rfl (by first | exact Or.inl rfl | exact Or.inr rfl)))
    (dss_cons (ds_for (passes_of rfl) rfl (di_seq (de_var 1)) (dg_name nd rfl (by first | exact Or.inl rfl | exact Or.inr rfl)) (dss_one (ds_expr (de_call F_L_rc_led hr pcall (da_cons (de_var 0) (da_cons (de_var 2) (da_cons (de_var 3) (da_cons de_dK da_nil)))) rfl))))
    (dss_one (ds_ret (de_var 2)))))
abbrev s_L_rc_size : Stmt := topS 37
theorem sc_L_rc_size : FnScope ["many", "pairs"] ["many", "pairs"] (defScope s_L_rc_size) := ⟨rfl, rfl, rfl, by decide +kernel, rfl, by decide +kernel, by decide +kernel⟩
theorem dv_L_rc_size (B : BI mg) (C : CI mg) {k : Nat} (F_L_rc_taken : FK P w K mg base (L2.CX P w) k "_law_rc_taken" 2 sp_L_rc_taken) (F_L_rc_near : FK P w K mg base (L2.CX P w) k "_law_rc_near" 2 sp_L_rc_near)  {f : Addr} {cdv : Value} {Ar : Around} {outer : List Env} {s : Shared} {H : Hp} {E : XK} (hr : Room k (Ar.deeper (envOfC "_law_rc_size" (defScope s_L_rc_size) s.heap.objs.size f cdv))) :
    DSs (XB P w K mg base ["many", "pairs"] "_law_rc_size" (defScope s_L_rc_size) f cdv Ar outer s H E) E (defBody s_L_rc_size) w_L_rc_size :=
  have nd := sc_L_rc_size.nd
  (dss_one (ds_ret (de_callB1 c_len rfl B.b_len (by decide +kernel) (de_call F_L_rc_taken hr pcall (da_cons (de_call F_L_rc_near hr pcall (da_cons (de_var 0) (da_cons (de_var 1) da_nil)) rfl) (da_cons (de_frz (dl_range rfl rfl B.b_list rfl B.b_range (de_var 0))) da_nil)) rfl))))
abbrev s_L_rc_doubled : Stmt := topS 38
theorem sc_L_rc_doubled : FnScope ["many", "pairs", "size_here", "some", "one", "pair", "receipt", "line"] ["many", "pairs"] (defScope s_L_rc_doubled) := ⟨rfl, rfl, rfl, by decide +kernel, rfl, by decide +kernel, by decide +kernel⟩
theorem dv_L_rc_doubled (B : BI mg) (C : CI mg) {k : Nat} (F_L_rc_size : FK P w K mg base (L2.CX P w) k "_law_rc_size" 2 sp_L_rc_size)  {f : Addr} {cdv : Value} {Ar : Around} {outer : List Env} {s : Shared} {H : Hp} {E : XK} (hr : Room k (Ar.deeper (envOfC "_law_rc_doubled" (defScope s_L_rc_doubled) s.heap.objs.size f cdv))) :
    DSs (XB P w K mg base ["many", "pairs", "size_here", "some", "one", "pair", "receipt", "line"] "_law_rc_doubled" (defScope s_L_rc_doubled) f cdv Ar outer s H E) E (defBody s_L_rc_doubled) w_L_rc_doubled :=
  have nd := sc_L_rc_doubled.nd
  (dss_cons (ds_asg (de_call F_L_rc_size hr pcall (da_cons (de_var 0) (da_cons (de_var 1) da_nil)) rfl) (dg_name nd rfl (by first | exact Or.inl rfl | exact Or.inr rfl)))
    (dss_cons (ds_asg (de_frz (dl_comp rfl nd (own := [("one", 4)]) (di_range rfl B.b_range (de_var 0)) (blkOk_by (by kernel_rfl)) (fun _ _ _ _ _ => (dg_name nd rfl (by first | exact Or.inl rfl | exact Or.inr rfl))) (fun _ _ _ _ _ => (dts_one (dt_cmp (o_eq (hu64 hr)) b_eq (de_call F_L_rc_size hr passL (da_cons (de_var 0) (da_cons (de_frz (dl_comp rfl nd (own := [("pair", 5)]) (di_seq (de_var 1)) (blkOk_by (by kernel_rfl)) (fun _ _ _ _ _ => (dg_name nd rfl (by first | exact Or.inl rfl | exact Or.inr rfl))) (fun _ _ _ _ _ => (dts_one (dt_cmp (o_ne (hu64 hr)) b_ne (de_ix (hu1 hr) (de_var 5) de_int) (de_var 4)))) (fun _ _ _ _ _ => (de_var 5)) (by decide))) da_nil)) rfl) (de_var 2)))) (fun _ _ _ _ _ => (de_var 4)) (by decide))) (dg_name nd rfl (by first | exact Or.inl rfl | exact Or.inr rfl)))
    (dss_one (ds_ret (de_tup (da_cons (de_callT1 c_tuple rfl B.b_tuple (by decide +kernel) (de_var 3)) (da_cons (de_callT1 c_tuple rfl B.b_tuple (by decide +kernel) (de_frz (dl_sortedSet rfl rfl B.b_sorted rfl B.b_set (de_frz (dl_comp rfl nd (own := [("receipt", 6), ("line", 7)]) (di_seq (de_var 1)) (blkOk_by (by kernel_rfl)) (fun _ _ _ _ _ => (dg_tup rfl (.cons (i := 6) nd rfl (by first | exact Or.inl rfl | exact Or.inr rfl) (by first | exact Or.inl rfl | exact Or.inr rfl) (.cons (i := 7) nd rfl (by first | exact Or.inl rfl | exact Or.inr rfl) (by first | exact Or.inl rfl | exact Or.inr rfl) DGs.nil)) 2 rfl (fun h => pg_tup rfl h))) (fun _ _ _ _ _ => (dts_one (dt_cmp (o_in (hu66 hr)) b_in (de_var 6) (de_var 3)))) (fun _ _ _ _ _ => (de_var 7)) (by decide)))))) da_nil)))))))
abbrev s_L_au_lots : Stmt := topS 39
theorem sc_L_au_lots : FnScope ["claims", "most", "line", "found", "turn", "longer", "lot", "claim"] ["claims", "most"] (defScope s_L_au_lots) := ⟨rfl, rfl, rfl, by decide +kernel, rfl, by decide +kernel, by decide +kernel⟩
theorem dv_L_au_lots (B : BI mg) (C : CI mg) {k : Nat}   {f : Addr} {cdv : Value} {Ar : Around} {outer : List Env} {s : Shared} {H : Hp} {E : XK} (hr : Room k (Ar.deeper (envOfC "_law_au_lots" (defScope s_L_au_lots) s.heap.objs.size f cdv))) :
    DSs (XB P w K mg base ["claims", "most", "line", "found", "turn", "longer", "lot", "claim"] "_law_au_lots" (defScope s_L_au_lots) f cdv Ar outer s H E) E (defBody s_L_au_lots) w_L_au_lots :=
  have nd := sc_L_au_lots.nd
  (dss_cons (ds_par (i := 2) (j := 3) rfl nd rfl rfl (by decide) (da_cons (de_frz (dl_disp (da_cons (de_tup da_nil) da_nil))) (da_cons (de_frz (dl_disp (da_cons (de_tup da_nil) da_nil))) da_nil)) (fun h => ps_par rfl nd rfl rfl (by decide) rfl rfl h rfl))
    (dss_cons (ds_for (passes_of rfl) rfl (di_range rfl B.b_range (de_callB2 (c_min2 rfl) rfl B.b_min (by decide +kernel) (de_var 1) (de_var 0))) (dg_name nd rfl (by first | exact Or.inl rfl | exact Or.inr rfl)) (dss_cons (ds_asg (de_frz (dl_disp da_nil)) (dg_name nd rfl (by first | exact Or.inl rfl | exact Or.inr rfl)))
    (dss_cons (ds_for (passes_of rfl) rfl (di_seq (de_var 2)) (dg_name nd rfl (by first | exact Or.inl rfl | exact Or.inr rfl)) (dss_one (ds_asg (de_frz (dl_cat (de_var 5) (de_frz (dl_comp rfl nd (own := [("claim", 7)]) (di_range2 rfl B.b_range (de_if (dt_cmp (o_ne (hu64 hr)) b_ne (de_var 6) (de_tup da_nil)) (de_bin o_add (de_ix (hu1 hr) (de_var 6) (de_neg de_int)) de_int) de_int) (de_var 0)) (blkOk_by (by kernel_rfl)) (fun _ _ _ _ _ => (dg_name nd rfl (by first | exact Or.inl rfl | exact Or.inr rfl))) (fun _ _ _ _ _ => dts_nil) (fun _ _ _ _ _ => (de_bin o_add (de_var 6) (de_tup (da_cons (de_var 7) da_nil)))) (by decide))))) (dg_name nd rfl (by first | exact Or.inl rfl | exact Or.inr rfl)))))
    (dss_cons (ds_asg (de_var 5) (dg_name nd rfl (by first | exact Or.inl rfl | exact Or.inr rfl)))
    (dss_one (ds_asg (de_frz (dl_cat (de_var 3) (de_var 2))) (dg_name nd rfl (by first | exact Or.inl rfl | exact Or.inr rfl))))))))
    (dss_one (ds_ret (de_var 3)))))
abbrev s_law : Stmt := topS 40
theorem sc_law : FnScope ["script", "state", "web", "found", "many", "due", "words", "receipt", "own", "lot", "lack", "at", "pair", "word", "line"] ["script"] (defScope s_law) := ⟨rfl, rfl, rfl, by decide +kernel, rfl, by decide +kernel, by decide +kernel⟩
theorem dv_law (B : BI mg) (C : CI mg) {k : Nat} (F_L_au_lots : FK P w K mg base (L2.CX P w) k "_law_au_lots" 2 sp_L_au_lots) (F_kinds : FK P w K mg base (L2.CX P w) k "kinds" 1 sp_kinds) (F_L_rc_size : FK P w K mg base (L2.CX P w) k "_law_rc_size" 2 sp_L_rc_size) (F_L_is_whole : FK P w K mg base (L2.CX P w) k "_law_is_whole" 1 sp_L_is_whole) (F_L_rc_is_lots : FK P w K mg base (L2.CX P w) k "_law_rc_is_lots" 2 sp_L_rc_is_lots) (F_L_rc_doubled : FK P w K mg base (L2.CX P w) k "_law_rc_doubled" 2 sp_L_rc_doubled) (F_L_rc_web : FK P w K mg base (L2.CX P w) k "_law_rc_web" 3 sp_L_rc_web) (F_L_pick : FK P w K mg base (L2.CX P w) k "_law_pick" 2 sp_L_pick) (F_L_begun : FK P w K mg base (L2.CX P w) k "_law_begun" 1 sp_L_begun) (K_spare_web : FKk P w K mg base (L2.CX P w) k "spare" 0 1 ["web"] [0] sp_spare) (K_doubled_web : FKk P w K mg base (L2.CX P w) k "doubled" 0 1 ["web"] [0] sp_doubled) {f : Addr} {cdv : Value} {Ar : Around} {outer : List Env} {s : Shared} {H : Hp} {E : XK} (hr : Room k (Ar.deeper (envOfC "law" (defScope s_law) s.heap.objs.size f cdv))) :
    DSs (XB P w K mg base ["script", "state", "web", "found", "many", "due", "words", "receipt", "own", "lot", "lack", "at", "pair", "word", "line"] "law" (defScope s_law) f cdv Ar outer s H E) E (defBody s_law) w_law :=
  have nd := sc_law.nd
  (dss_cons (ds_asg (de_call F_L_begun hr pcall (da_cons (de_var 0) da_nil) rfl) (dg_name nd rfl (by first | exact Or.inl rfl | exact Or.inr rfl)))
    (dss_cons (ds_asg (de_call F_L_rc_web hr pcall (da_cons (de_var 1) (da_cons (de_call F_L_pick hr pcall (da_cons (de_var 1) (da_cons (de_frz (dl_disp (da_cons de_int (da_cons de_int (da_cons de_int (da_cons de_int (da_cons de_int da_nil))))))) da_nil)) rfl) (da_cons (de_call F_L_pick hr pcall (da_cons (de_var 1) (da_cons (de_frz (dl_disp (da_cons de_int (da_cons de_int (da_cons de_int (da_cons de_int da_nil)))))) da_nil)) rfl) da_nil))) rfl) (dg_name nd rfl (by first | exact Or.inl rfl | exact Or.inr rfl)))
    (dss_cons (ds_par (i := 3) (j := 4) rfl nd rfl rfl (by decide) (da_cons (de_callK0 K_doubled_web hr pcall (dk_cons (de_var 2) dk_nil) rfl) (da_cons (de_callK0 K_spare_web hr pcall (dk_cons (de_var 2) dk_nil) rfl) da_nil)) (fun h => ps_par rfl nd rfl rfl (by decide) rfl rfl h rfl))
    (dss_cons (ds_asg (de_call F_L_rc_doubled hr pcall (da_cons (de_ix (hu1 hr) (de_var 2) de_int) (da_cons (de_ix (hu1 hr) (de_var 2) de_int) da_nil)) rfl) (dg_name nd rfl (by first | exact Or.inl rfl | exact Or.inr rfl)))
    (dss_cons (ds_if (dt_w (dw_or (dt_not (dt_e (de_call F_L_rc_is_lots hr pcall (da_cons (de_var 2) (da_cons (de_var 3) da_nil)) rfl))) (dw_or1 (dt_cmp (o_ne (hu64 hr)) b_ne (de_var 3) (de_var 5))))) (dss_one (ds_ret de_bl)) dss_nil)
    (dss_cons (ds_if (dt_w (dw_or (dt_not (dt_e (de_call F_L_is_whole hr pcall (da_cons (de_var 4) da_nil) rfl))) (dw_or (dt_cmp (o_ne (hu64 hr)) b_ne (de_var 4) (de_bin o_sub (de_ix (hu1 hr) (de_var 2) de_int) (de_call F_L_rc_size hr pcall (da_cons (de_ix (hu1 hr) (de_var 2) de_int) (da_cons (de_ix (hu1 hr) (de_var 2) de_int) da_nil)) rfl))) (dw_or1 (dt_cmp (o_ne (hu64 hr)) b_ne (de_var 4) (de_bin o_sub (de_callB1 c_len rfl B.b_len (by decide +kernel) (de_ix (hu1 hr) (de_var 5) de_int)) (de_callB1 c_len rfl B.b_len (by decide +kernel) (de_ix (hu1 hr) (de_var 5) de_int)))))))) (dss_one (ds_ret de_bl)) dss_nil)
    (dss_cons (ds_asg (de_call F_kinds hr pcall (da_cons (de_var 2) da_nil) rfl) (dg_name nd rfl (by first | exact Or.inl rfl | exact Or.inr rfl)))
    (dss_cons (ds_for (passes_of rfl) rfl (di_range rfl B.b_range (de_ix (hu1 hr) (de_var 2) de_int)) (dg_name nd rfl (by first | exact Or.inl rfl | exact Or.inr rfl)) (dss_cons (ds_frz (dal_comp (i := 8) rfl nd rfl rfl (sw_true rfl rfl rfl (by decide +kernel)) (own := [("at", 11), ("pair", 12)]) (di_enum rfl rfl B.b_enumerate (de_ix (hu1 hr) (de_var 2) de_int)) (blkOk_by (by kernel_rfl)) (fun _ _ _ _ _ => (dg_tup rfl (.cons (i := 11) nd rfl (by first | exact Or.inl rfl | exact Or.inr rfl) (by first | exact Or.inl rfl | exact Or.inr rfl) (.cons (i := 12) nd rfl (by first | exact Or.inl rfl | exact Or.inr rfl) (by first | exact Or.inl rfl | exact Or.inr rfl) DGs.nil)) 2 rfl (fun h => pg_tup rfl h))) (fun _ _ _ _ _ => (dts_one (dt_cmp (o_eq (hu64 hr)) b_eq (de_ix (hu1 hr) (de_var 12) de_int) (de_var 7)))) (fun _ _ _ _ _ => (de_ix (hu1 hr) (de_var 6) (de_var 11))) (by decide)))
    (dss_one (ds_if (dt_w (dw_and (dt_cmp (o_ne (hu64 hr)) b_ne (de_var 8) (de_frz (dl_disp da_nil))) (dw_and1 (dt_cmp (o_eq (hu64 hr)) b_eq (de_frz (dl_comp rfl nd (own := [("word", 13)]) (di_seq (de_var 8)) (blkOk_by (by kernel_rfl)) (fun _ _ _ _ _ => (dg_name nd rfl (by first | exact Or.inl rfl | exact Or.inr rfl))) (fun _ _ _ _ _ => (dts_one (dt_cmp (o_ne (hu64 hr)) b_ne (de_var 13) (de_str (s := "never"))))) (fun _ _ _ _ _ => (de_var 13)) (by decide))) (de_frz (dl_disp da_nil)))))) (dss_one (ds_ret de_bl)) dss_nil))))
    (dss_cons (ds_if (dt_cmp o_gt b_gt (de_ix (hu1 hr) (de_var 2) de_int) de_int) (dss_one (ds_ret de_bl)) dss_nil)
    (dss_cons (ds_for (passes_of rfl) rfl (di_seq (de_call F_L_au_lots hr pcall (da_cons (de_ix (hu1 hr) (de_var 2) de_int) (da_cons (de_ix (hu1 hr) (de_var 2) de_int) da_nil)) rfl)) (dg_name nd rfl (by first | exact Or.inl rfl | exact Or.inr rfl)) (dss_cons (ds_asg (de_bin o_sub (de_callB1 c_len rfl B.b_len (by decide +kernel) (de_var 9)) (de_lenSet rfl rfl B.b_len rfl B.b_set (de_frz (dl_comp rfl nd (own := [("receipt", 7), ("line", 14)]) (di_seq (de_ix (hu1 hr) (de_var 2) de_int)) (blkOk_by (by kernel_rfl)) (fun _ _ _ _ _ => (dg_tup rfl (.cons (i := 7) nd rfl (by first | exact Or.inl rfl | exact Or.inr rfl) (by first | exact Or.inl rfl | exact Or.inr rfl) (.cons (i := 14) nd rfl (by first | exact Or.inl rfl | exact Or.inr rfl) (by first | exact Or.inl rfl | exact Or.inr rfl) DGs.nil)) 2 rfl (fun h => pg_tup rfl h))) (fun _ _ _ _ _ => (dts_one (dt_cmp (o_in (hu66 hr)) b_in (de_var 7) (de_var 9)))) (fun _ _ _ _ _ => (de_var 14)) (by decide))))) (dg_name nd rfl (by first | exact Or.inl rfl | exact Or.inr rfl)))
    (dss_one (ds_if (dt_w (dw_or (dt_cmp o_gt b_gt (de_var 10) (de_var 4)) (dw_or1 (dt_w (dw_and (dt_cmp (o_eq (hu64 hr)) b_eq (de_var 10) (de_var 4)) (dw_and1 (dt_cmp (o_ne (hu64 hr)) b_ne (de_frz (dl_comp rfl nd (own := [("receipt", 7)]) (di_seq (de_ix (hu1 hr) (de_var 3) de_int)) (blkOk_by (by kernel_rfl)) (fun _ _ _ _ _ => (dg_name nd rfl (by first | exact Or.inl rfl | exact Or.inr rfl))) (fun _ _ _ _ _ => (dts_one (dt_cmp (o_notIn (hu66 hr)) b_notIn (de_var 7) (de_var 9)))) (fun _ _ _ _ _ => de_int) (by decide))) (de_frz (dl_disp da_nil))))))))) (dss_one (ds_ret de_bl)) dss_nil))))
    (dss_one (ds_ret de_bl))))))))))))
end
section
theorem ar_is_whole : Arity sp_is_whole 1 := by intro ds S Q E h; repeat (first | (obtain ⟨rfl, _⟩ := h; exact rfl) | (obtain ⟨_, h⟩ := h))
theorem ar_is_number : Arity sp_is_number 3 := by intro ds S Q E h; repeat (first | (obtain ⟨rfl, _⟩ := h; exact rfl) | (obtain ⟨_, h⟩ := h))
theorem ar_is_rising : Arity sp_is_rising 1 := by intro ds S Q E h; repeat (first | (obtain ⟨rfl, _⟩ := h; exact rfl) | (obtain ⟨_, h⟩ := h))
theorem ar_is_pair_within : Arity sp_is_pair_within 3 := by intro ds S Q E h; repeat (first | (obtain ⟨rfl, _⟩ := h; exact rfl) | (obtain ⟨_, h⟩ := h))
theorem ar_are_pairs_within : Arity sp_are_pairs_within 3 := by intro ds S Q E h; repeat (first | (obtain ⟨rfl, _⟩ := h; exact rfl) | (obtain ⟨_, h⟩ := h))
theorem ar_is_web : Arity sp_is_web 1 := by intro ds S Q E h; repeat (first | (obtain ⟨rfl, _⟩ := h; exact rfl) | (obtain ⟨_, h⟩ := h))
theorem ar_need_web : Arity sp_need_web 1 := by intro ds S Q E h; repeat (first | (obtain ⟨rfl, _⟩ := h; exact rfl) | (obtain ⟨_, h⟩ := h))
theorem ar_near_of : Arity sp_near_of 1 := by intro ds S Q E h; repeat (first | (obtain ⟨rfl, _⟩ := h; exact rfl) | (obtain ⟨_, h⟩ := h))
theorem ar_exchange_along : Arity sp_exchange_along 4 := by intro ds S Q E h; repeat (first | (obtain ⟨rfl, _⟩ := h; exact rfl) | (obtain ⟨_, h⟩ := h))
theorem ar_left_out : Arity sp_left_out 3 := by intro ds S Q E h; repeat (first | (obtain ⟨rfl, _⟩ := h; exact rfl) | (obtain ⟨_, h⟩ := h))
theorem ar_lines_along : Arity sp_lines_along 4 := by intro ds S Q E h; repeat (first | (obtain ⟨rfl, _⟩ := h; exact rfl) | (obtain ⟨_, h⟩ := h))
theorem ar_L_begun : Arity sp_L_begun 1 := by intro ds S Q E h; repeat (first | (obtain ⟨rfl, _⟩ := h; exact rfl) | (obtain ⟨_, h⟩ := h))
theorem ar_L_blended : Arity sp_L_blended 1 := by intro ds S Q E h; repeat (first | (obtain ⟨rfl, _⟩ := h; exact rfl) | (obtain ⟨_, h⟩ := h))
theorem ar_L_draw : Arity sp_L_draw 2 := by intro ds S Q E h; repeat (first | (obtain ⟨rfl, _⟩ := h; exact rfl) | (obtain ⟨_, h⟩ := h))
theorem ar_L_pick : Arity sp_L_pick 2 := by intro ds S Q E h; repeat (first | (obtain ⟨rfl, _⟩ := h; exact rfl) | (obtain ⟨_, h⟩ := h))
theorem ar_L_mixed : Arity sp_L_mixed 2 := by intro ds S Q E h; repeat (first | (obtain ⟨rfl, _⟩ := h; exact rfl) | (obtain ⟨_, h⟩ := h))
theorem ar_L_is_whole : Arity sp_L_is_whole 1 := by intro ds S Q E h; repeat (first | (obtain ⟨rfl, _⟩ := h; exact rfl) | (obtain ⟨_, h⟩ := h))
theorem ar_L_rc_within : Arity sp_L_rc_within 2 := by intro ds S Q E h; repeat (first | (obtain ⟨rfl, _⟩ := h; exact rfl) | (obtain ⟨_, h⟩ := h))
theorem ar_L_rc_is_lot : Arity sp_L_rc_is_lot 2 := by intro ds S Q E h; repeat (first | (obtain ⟨rfl, _⟩ := h; exact rfl) | (obtain ⟨_, h⟩ := h))
theorem ar_L_rc_is_lots : Arity sp_L_rc_is_lots 2 := by intro ds S Q E h; repeat (first | (obtain ⟨rfl, _⟩ := h; exact rfl) | (obtain ⟨_, h⟩ := h))
theorem ar_L_rc_web : Arity sp_L_rc_web 3 := by intro ds S Q E h; repeat (first | (obtain ⟨rfl, _⟩ := h; exact rfl) | (obtain ⟨_, h⟩ := h))
theorem ar_L_rc_near : Arity sp_L_rc_near 2 := by intro ds S Q E h; repeat (first | (obtain ⟨rfl, _⟩ := h; exact rfl) | (obtain ⟨_, h⟩ := h))
theorem ar_L_rc_led (j : Nat) : Arity (sp_L_rc_led_ j) 4 := by intro ds S Q E h; repeat (first | (obtain ⟨rfl, _⟩ := h; exact rfl) | (obtain ⟨_, h⟩ := h))
theorem ar_L_rc_taken : Arity sp_L_rc_taken 2 := by intro ds S Q E h; repeat (first | (obtain ⟨rfl, _⟩ := h; exact rfl) | (obtain ⟨_, h⟩ := h))
theorem ar_L_rc_size : Arity sp_L_rc_size 2 := by intro ds S Q E h; repeat (first | (obtain ⟨rfl, _⟩ := h; exact rfl) | (obtain ⟨_, h⟩ := h))
theorem ar_L_rc_doubled : Arity sp_L_rc_doubled 2 := by intro ds S Q E h; repeat (first | (obtain ⟨rfl, _⟩ := h; exact rfl) | (obtain ⟨_, h⟩ := h))
theorem ar_L_au_lots : Arity sp_L_au_lots 2 := by intro ds S Q E h; repeat (first | (obtain ⟨rfl, _⟩ := h; exact rfl) | (obtain ⟨_, h⟩ := h))
theorem ar_augmented : Arity sp_augmented 3 := by intro ds S Q E h; repeat (first | (obtain ⟨rfl, _⟩ := h; exact rfl) | (obtain ⟨_, h⟩ := h))
theorem ar_greatest : Arity sp_greatest 1 := by intro ds S Q E h; repeat (first | (obtain ⟨rfl, _⟩ := h; exact rfl) | (obtain ⟨_, h⟩ := h))
theorem ar_doubled : Arity sp_doubled 1 := by intro ds S Q E h; repeat (first | (obtain ⟨rfl, _⟩ := h; exact rfl) | (obtain ⟨_, h⟩ := h))
theorem ar_spare : Arity sp_spare 1 := by intro ds S Q E h; repeat (first | (obtain ⟨rfl, _⟩ := h; exact rfl) | (obtain ⟨_, h⟩ := h))
theorem ar_kinds : Arity sp_kinds 1 := by intro ds S Q E h; repeat (first | (obtain ⟨rfl, _⟩ := h; exact rfl) | (obtain ⟨_, h⟩ := h))
variable {P : Program} {w : World} {K : PySem.W.Frag} {mg : Str → Option Value}
/-- every def as it stands behind the top -/
structure AllD (K : PySem.W.Frag) (mg : Str → Option Value) : Prop where
  d_is_whole : DF K mg "is_whole" s_is_whole ["value"]
  d_is_number : DF K mg "is_number" s_is_number ["value", "least", "most"]
  d_is_rising : DF K mg "is_rising" s_is_rising ["value"]
  d_is_pair_within : DF K mg "is_pair_within" s_is_pair_within ["value", "many", "other"]
  d_are_pairs_within : DF K mg "are_pairs_within" s_are_pairs_within ["value", "many", "other"]
  d_is_web : DF K mg "is_web" s_is_web ["value"]
  d_need_web : DF K mg "need_web" s_need_web ["web"]
  d_near_of : DF K mg "near_of" s_near_of ["web"]
  d_exchange_along : DF K mg "exchange_along" s_exchange_along ["held", "taken", "came", "line"]
  d_left_out : DF K mg "left_out" s_left_out ["near", "held", "taken"]
  d_lines_along : DF K mg "lines_along" s_lines_along ["near", "held", "taken", "start"]
  d_L_begun : DF K mg "_law_begun" s_L_begun ["script"]
  d_L_blended : DF K mg "_law_blended" s_L_blended ["state"]
  d_L_draw : DF K mg "_law_draw" s_L_draw ["state", "size_here"]
  d_L_pick : DF K mg "_law_pick" s_L_pick ["state", "several"]
  d_L_mixed : DF K mg "_law_mixed" s_L_mixed ["state", "several"]
  d_L_is_whole : DF K mg "_law_is_whole" s_L_is_whole ["item"]
  d_L_rc_within : DF K mg "_law_rc_within" s_L_rc_within ["value", "many"]
  d_L_rc_is_lot : DF K mg "_law_rc_is_lot" s_L_rc_is_lot ["value", "many"]
  d_L_rc_is_lots : DF K mg "_law_rc_is_lots" s_L_rc_is_lots ["web", "value"]
  d_L_rc_web : DF K mg "_law_rc_web" s_L_rc_web ["state", "top", "most"]
  d_L_rc_near : DF K mg "_law_rc_near" s_L_rc_near ["many", "pairs"]
  d_L_rc_led : DF K mg "_law_rc_led" s_L_rc_led ["near", "taken", "receipt", "met_here"]
  d_L_rc_taken : DF K mg "_law_rc_taken" s_L_rc_taken ["near", "order"]
  d_L_rc_size : DF K mg "_law_rc_size" s_L_rc_size ["many", "pairs"]
  d_L_rc_doubled : DF K mg "_law_rc_doubled" s_L_rc_doubled ["many", "pairs"]
  d_L_au_lots : DF K mg "_law_au_lots" s_L_au_lots ["claims", "most"]
  d_augmented : DF K mg "augmented" s_augmented ["near", "held", "taken"]
  d_greatest : DF K mg "greatest" s_greatest ["near"]
  d_doubled : DF K mg "doubled" s_doubled ["web"]
  d_spare : DF K mg "spare" s_spare ["web"]
  d_kinds : DF K mg "kinds" s_kinds ["web"]
theorem all_ok {fa : Addr} (B : BI mg) (C : CI mg) (A : AllD K mg) (D : DFL K fa s_law) : ∃ fd : FuncData, (∀ (s : Shared) (u : Value), BindsTo s fd ⟨[u], []⟩ [("script", u)]) ∧ ∀ base : Heap, K.In base → base.Ns mainGlobals mg → FnOk P w K mg base (L2.CX P w) 29 fa fd ["script"] (spEnd K) := by
  refine law_end (k := 28) D sc_law m_law fun base f cdv Ar outer s H E hr => ?_
  have F_is_whole : FK P w K mg base (L2.CX P w) 1 "is_whole" 1 sp_is_whole := A.d_is_whole.fk sc_is_whole ar_is_whole m_is_whole fun f cdv Ar outer s H E hr => dv_is_whole B C  hr
  have F_is_number : FK P w K mg base (L2.CX P w) 2 "is_number" 3 sp_is_number := A.d_is_number.fk sc_is_number ar_is_number m_is_number fun f cdv Ar outer s H E hr => dv_is_number B C (F_is_whole.mono (by omega)) hr
  have F_is_rising : FK P w K mg base (L2.CX P w) 1 "is_rising" 1 sp_is_rising := A.d_is_rising.fk sc_is_rising ar_is_rising m_is_rising fun f cdv Ar outer s H E hr => dv_is_rising B C  hr
  have F_is_pair_within : FK P w K mg base (L2.CX P w) 3 "is_pair_within" 3 sp_is_pair_within := A.d_is_pair_within.fk sc_is_pair_within ar_is_pair_within m_is_pair_within fun f cdv Ar outer s H E hr => dv_is_pair_within B C (F_is_number.mono (by omega)) hr
  have F_are_pairs_within : FK P w K mg base (L2.CX P w) 4 "are_pairs_within" 3 sp_are_pairs_within := A.d_are_pairs_within.fk sc_are_pairs_within ar_are_pairs_within m_are_pairs_within fun f cdv Ar outer s H E hr => dv_are_pairs_within B C (F_is_rising.mono (by omega)) (F_is_pair_within.mono (by omega)) hr
  have F_is_web : FK P w K mg base (L2.CX P w) 5 "is_web" 1 sp_is_web := A.d_is_web.fk sc_is_web ar_is_web m_is_web fun f cdv Ar outer s H E hr => dv_is_web B C (F_are_pairs_within.mono (by omega)) (F_is_number.mono (by omega)) hr
  have F_need_web : FK P w K mg base (L2.CX P w) 6 "need_web" 1 sp_need_web := A.d_need_web.fk sc_need_web ar_need_web m_need_web fun f cdv Ar outer s H E hr => dv_need_web B C (F_is_web.mono (by omega)) hr
  have F_near_of : FK P w K mg base (L2.CX P w) 1 "near_of" 1 sp_near_of := A.d_near_of.fk sc_near_of ar_near_of m_near_of fun f cdv Ar outer s H E hr => dv_near_of B C  hr
  have F_exchange_along : FK P w K mg base (L2.CX P w) 1 "exchange_along" 4 sp_exchange_along := A.d_exchange_along.fk sc_exchange_along ar_exchange_along m_exchange_along fun f cdv Ar outer s H E hr => dv_exchange_along B C  hr
  have F_left_out : FK P w K mg base (L2.CX P w) 1 "left_out" 3 sp_left_out := A.d_left_out.fk sc_left_out ar_left_out m_left_out fun f cdv Ar outer s H E hr => dv_left_out B C  hr
  have F_lines_along : FK P w K mg base (L2.CX P w) 1 "lines_along" 4 sp_lines_along := A.d_lines_along.fk sc_lines_along ar_lines_along m_lines_along fun f cdv Ar outer s H E hr => dv_lines_along B C  hr
  have F_L_begun : FK P w K mg base (L2.CX P w) 1 "_law_begun" 1 sp_L_begun := A.d_L_begun.fk sc_L_begun ar_L_begun m_L_begun fun f cdv Ar outer s H E hr => dv_L_begun B C  hr
  have F_L_blended : FK P w K mg base (L2.CX P w) 1 "_law_blended" 1 sp_L_blended := A.d_L_blended.fk sc_L_blended ar_L_blended m_L_blended fun f cdv Ar outer s H E hr => dv_L_blended B C  hr
  have F_L_draw : FK P w K mg base (L2.CX P w) 2 "_law_draw" 2 sp_L_draw := A.d_L_draw.fk sc_L_draw ar_L_draw m_L_draw fun f cdv Ar outer s H E hr => dv_L_draw B C (F_L_blended.mono (by omega)) hr
  have F_L_pick : FK P w K mg base (L2.CX P w) 3 "_law_pick" 2 sp_L_pick := A.d_L_pick.fk sc_L_pick ar_L_pick m_L_pick fun f cdv Ar outer s H E hr => dv_L_pick B C (F_L_draw.mono (by omega)) hr
  have F_L_mixed : FK P w K mg base (L2.CX P w) 3 "_law_mixed" 2 sp_L_mixed := A.d_L_mixed.fk sc_L_mixed ar_L_mixed m_L_mixed fun f cdv Ar outer s H E hr => dv_L_mixed B C (F_L_draw.mono (by omega)) hr
  have F_L_is_whole : FK P w K mg base (L2.CX P w) 1 "_law_is_whole" 1 sp_L_is_whole := A.d_L_is_whole.fk sc_L_is_whole ar_L_is_whole m_L_is_whole fun f cdv Ar outer s H E hr => dv_L_is_whole B C  hr
  have F_L_rc_within : FK P w K mg base (L2.CX P w) 2 "_law_rc_within" 2 sp_L_rc_within := A.d_L_rc_within.fk sc_L_rc_within ar_L_rc_within m_L_rc_within fun f cdv Ar outer s H E hr => dv_L_rc_within B C (F_L_is_whole.mono (by omega)) hr
  have F_L_rc_is_lot : FK P w K mg base (L2.CX P w) 3 "_law_rc_is_lot" 2 sp_L_rc_is_lot := A.d_L_rc_is_lot.fk sc_L_rc_is_lot ar_L_rc_is_lot m_L_rc_is_lot fun f cdv Ar outer s H E hr => dv_L_rc_is_lot B C (F_L_rc_within.mono (by omega)) hr
  have F_L_rc_is_lots : FK P w K mg base (L2.CX P w) 4 "_law_rc_is_lots" 2 sp_L_rc_is_lots := A.d_L_rc_is_lots.fk sc_L_rc_is_lots ar_L_rc_is_lots m_L_rc_is_lots fun f cdv Ar outer s H E hr => dv_L_rc_is_lots B C (F_L_rc_is_lot.mono (by omega)) hr
  have F_L_rc_web : FK P w K mg base (L2.CX P w) 4 "_law_rc_web" 3 sp_L_rc_web := A.d_L_rc_web.fk sc_L_rc_web ar_L_rc_web m_L_rc_web fun f cdv Ar outer s H E hr => dv_L_rc_web B C (F_L_mixed.mono (by omega)) (F_L_draw.mono (by omega)) (F_L_pick.mono (by omega)) hr
  have F_L_rc_near : FK P w K mg base (L2.CX P w) 1 "_law_rc_near" 2 sp_L_rc_near := A.d_L_rc_near.fk sc_L_rc_near ar_L_rc_near m_L_rc_near fun f cdv Ar outer s H E hr => dv_L_rc_near B C  hr
  have F_L_rc_led : FK P w K mg base (L2.CX P w) 25 "_law_rc_led" 4 sp_L_rc_led := fk_rec (k := 0) (sp := sp_L_rc_led_) (A.d_L_rc_led.never no_L_rc_led) (fun j F => A.d_L_rc_led.fk sc_L_rc_led (ar_L_rc_led (j + 1)) (m_L_rc_led j) fun f cdv Ar outer s H E hr => dv_L_rc_led B C F hr) 25
  have F_L_rc_taken : FK P w K mg base (L2.CX P w) 26 "_law_rc_taken" 2 sp_L_rc_taken := A.d_L_rc_taken.fk sc_L_rc_taken ar_L_rc_taken m_L_rc_taken fun f cdv Ar outer s H E hr => dv_L_rc_taken B C (F_L_rc_led.mono (by omega)) hr
  have F_L_rc_size : FK P w K mg base (L2.CX P w) 27 "_law_rc_size" 2 sp_L_rc_size := A.d_L_rc_size.fk sc_L_rc_size ar_L_rc_size m_L_rc_size fun f cdv Ar outer s H E hr => dv_L_rc_size B C (F_L_rc_taken.mono (by omega)) (F_L_rc_near.mono (by omega)) hr
  have F_L_rc_doubled : FK P w K mg base (L2.CX P w) 28 "_law_rc_doubled" 2 sp_L_rc_doubled := A.d_L_rc_doubled.fk sc_L_rc_doubled ar_L_rc_doubled m_L_rc_doubled fun f cdv Ar outer s H E hr => dv_L_rc_doubled B C (F_L_rc_size.mono (by omega)) hr
  have F_L_au_lots : FK P w K mg base (L2.CX P w) 1 "_law_au_lots" 2 sp_L_au_lots := A.d_L_au_lots.fk sc_L_au_lots ar_L_au_lots m_L_au_lots fun f cdv Ar outer s H E hr => dv_L_au_lots B C  hr
  have F_augmented : FK P w K mg base (L2.CX P w) 2 "augmented" 3 sp_augmented := A.d_augmented.fk sc_augmented ar_augmented m_augmented fun f cdv Ar outer s H E hr => dv_augmented B C (F_exchange_along.mono (by omega)) hr
  have F_greatest : FK P w K mg base (L2.CX P w) 3 "greatest" 1 sp_greatest := A.d_greatest.fk sc_greatest ar_greatest m_greatest fun f cdv Ar outer s H E hr => dv_greatest B C (F_augmented.mono (by omega)) hr
  have F_doubled : FK P w K mg base (L2.CX P w) 7 "doubled" 1 sp_doubled := A.d_doubled.fk sc_doubled ar_doubled m_doubled fun f cdv Ar outer s H E hr => dv_doubled B C (F_left_out.mono (by omega)) (F_greatest.mono (by omega)) (F_near_of.mono (by omega)) (F_need_web.mono (by omega)) hr
  have K_doubled_web : FKk P w K mg base (L2.CX P w) 7 "doubled" 0 1 ["web"] [0] sp_doubled := A.d_doubled.fkk (k := 6) (n := 0) (ks := ["web"]) (ix := [0]) sc_doubled ar_doubled m_doubled (by decide) (fun _ _ _ _ _ _ us ws h1 h2 => match us, ws, h1, h2 with | [], [_], _, _ => rfl) fun f cdv Ar outer s H E hr => dv_doubled B C (F_left_out.mono (by omega)) (F_greatest.mono (by omega)) (F_near_of.mono (by omega)) (F_need_web.mono (by omega)) hr
  have F_spare : FK P w K mg base (L2.CX P w) 8 "spare" 1 sp_spare := A.d_spare.fk sc_spare ar_spare m_spare fun f cdv Ar outer s H E hr => dv_spare B C (F_doubled.mono (by omega)) hr
  have K_spare_web : FKk P w K mg base (L2.CX P w) 8 "spare" 0 1 ["web"] [0] sp_spare := A.d_spare.fkk (k := 7) (n := 0) (ks := ["web"]) (ix := [0]) sc_spare ar_spare m_spare (by decide) (fun _ _ _ _ _ _ us ws h1 h2 => match us, ws, h1, h2 with | [], [_], _, _ => rfl) fun f cdv Ar outer s H E hr => dv_spare B C (F_doubled.mono (by omega)) hr
  have F_kinds : FK P w K mg base (L2.CX P w) 7 "kinds" 1 sp_kinds := A.d_kinds.fk sc_kinds ar_kinds m_kinds fun f cdv Ar outer s H E hr => dv_kinds B C (F_lines_along.mono (by omega)) (F_left_out.mono (by omega)) (F_greatest.mono (by omega)) (F_near_of.mono (by omega)) (F_need_web.mono (by omega)) hr
  exact dv_law B C (F_L_au_lots.mono (by omega)) (F_kinds.mono (by omega)) (F_L_rc_size.mono (by omega)) (F_L_is_whole.mono (by omega)) (F_L_rc_is_lots.mono (by omega)) (F_L_rc_doubled.mono (by omega)) (F_L_rc_web.mono (by omega)) (F_L_pick.mono (by omega)) (F_L_begun.mono (by omega)) (K_spare_web.mono (by omega)) (K_doubled_web.mono (by omega)) hr
theorem all_mk {l : PySem.W.OpenLaw} {h : Heap} {fa : Addr} (X : K.In h) (G : h.Ns mainGlobals mg) (hfa : mg "law" = some (.ref fa)) (B : BI mg) (C : CI mg) (A : AllD K mg) (D : DFL K fa s_law) : ∃ fd : FuncData, (∀ (s : Shared) (u : Value), BindsTo s fd ⟨[u], []⟩ [("script", u)]) ∧ ∀ base : Heap, K.In base → base.Ns mainGlobals mg → FnOk l.prog w K mg base (L2.CX l.prog w) 29 fa fd ["script"] (spEnd K) := all_ok B C A D
end
end K80
end Dl
set_option Elab.async false
set_option linter.all false
set_option maxRecDepth 100000
open PySem PySem.W PyProof.Rows
set_option maxHeartbeats 0 in
theorem PySem.Challenge.cw_samehowever_k80_whole_doubled_for_the_le_holds : PySem.Challenge.rw_samehowever_k80_whole_doubled_for_the_le.Holds := by
  w_on; o_law; k_head; (case hw => w_witness2)
  k_fill
  refine L2.walk_of (l := PySem.Challenge.rw_samehowever_k80_whole_doubled_for_the_le) (n := 63) (k := 29) (x := "script") (CX := fun w => L2.CX PySem.Challenge.rw_samehowever_k80_whole_doubled_for_the_le.prog w) (sp := fun w => Dl.spEnd _) rfl (by decide) rfl ⟨rfl, by decide, by decide⟩ (fun w h Y => PySem.W.kIn_of Y) ?F (fun _ _ a ns hl ho hS => ⟨a, ns, rfl, ho, hS, fun _ => rfl⟩) (fun w H s e s' h => Dl.hcx_no (P := fun _ => PySem.Challenge.rw_samehowever_k80_whole_doubled_for_the_le.prog) w H s e s' h)
  case F =>
    intro w mg fa h KX G hmg
    refine' Dl.K80.all_mk (l := PySem.Challenge.rw_samehowever_k80_whole_doubled_for_the_le) KX G hmg ?B ?C ?A ?D
    case B =>
      refine' ⟨PySem.W.mg_none_of KX G ?z_len, PySem.W.mg_none_of KX G ?z_range, PySem.W.mg_none_of KX G ?z_zip, PySem.W.mg_none_of KX G ?z_enumerate, PySem.W.mg_none_of KX G ?z_sorted, PySem.W.mg_none_of KX G ?z_abs, PySem.W.mg_none_of KX G ?z_int, PySem.W.mg_none_of KX G ?z_all, PySem.W.mg_none_of KX G ?z_any, PySem.W.mg_none_of KX G ?z_sum, PySem.W.mg_none_of KX G ?z_tuple, PySem.W.mg_none_of KX G ?z_list, PySem.W.mg_none_of KX G ?z_min, PySem.W.mg_none_of KX G ?z_max, PySem.W.mg_none_of KX G ?z_set, PySem.W.mg_none_of KX G ?z_isinstance, PySem.W.mg_none_of KX G ?z_bool, PySem.W.mg_none_of KX G ?z_str, PySem.W.mg_none_of KX G ?z_dict⟩
      (case z_len => k_is)
      (case z_range => k_is)
      (case z_zip => k_is)
      (case z_enumerate => k_is)
      (case z_sorted => k_is)
      (case z_abs => k_is)
      (case z_int => k_is)
      (case z_all => k_is)
      (case z_any => k_is)
      (case z_sum => k_is)
      (case z_tuple => k_is)
      (case z_list => k_is)
      (case z_min => k_is)
      (case z_max => k_is)
      (case z_set => k_is)
      (case z_isinstance => k_is)
      (case z_bool => k_is)
      (case z_str => k_is)
      (case z_dict => k_is)
    case C =>
      refine' ⟨⟨?t_MOST_ENTRIES, PySem.W.mg_of KX G ?c_MOST_ENTRIES⟩, trivial⟩
      (case c_MOST_ENTRIES => first | k_is | exact rfl)
    case A =>
      refine' ⟨?d_is_whole, ?d_is_number, ?d_is_rising, ?d_is_pair_within, ?d_are_pairs_within, ?d_is_web, ?d_need_web, ?d_near_of, ?d_exchange_along, ?d_left_out, ?d_lines_along, ?d_L_begun, ?d_L_blended, ?d_L_draw, ?d_L_pick, ?d_L_mixed, ?d_L_is_whole, ?d_L_rc_within, ?d_L_rc_is_lot, ?d_L_rc_is_lots, ?d_L_rc_web, ?d_L_rc_near, ?d_L_rc_led, ?d_L_rc_taken, ?d_L_rc_size, ?d_L_rc_doubled, ?d_L_au_lots, ?d_augmented, ?d_greatest, ?d_doubled, ?d_spare, ?d_kinds⟩
      (case d_is_whole => refine' Dl.df_mk KX G ?a ?l ?c ?k (fun _ _ _ _ _ _ us hl => match us, hl with | [_], _ => rfl); (case a => k_is); (case l => k_is); (case c => k_is); (case k => k_is))
      (case d_is_number => refine' Dl.df_mk KX G ?a ?l ?c ?k (fun _ _ _ _ _ _ us hl => match us, hl with | [_, _, _], _ => rfl); (case a => k_is); (case l => k_is); (case c => k_is); (case k => k_is))
      (case d_is_rising => refine' Dl.df_mk KX G ?a ?l ?c ?k (fun _ _ _ _ _ _ us hl => match us, hl with | [_], _ => rfl); (case a => k_is); (case l => k_is); (case c => k_is); (case k => k_is))
      (case d_is_pair_within => refine' Dl.df_mk KX G ?a ?l ?c ?k (fun _ _ _ _ _ _ us hl => match us, hl with | [_, _, _], _ => rfl); (case a => k_is); (case l => k_is); (case c => k_is); (case k => k_is))
      (case d_are_pairs_within => refine' Dl.df_mk KX G ?a ?l ?c ?k (fun _ _ _ _ _ _ us hl => match us, hl with | [_, _, _], _ => rfl); (case a => k_is); (case l => k_is); (case c => k_is); (case k => k_is))
      (case d_is_web => refine' Dl.df_mk KX G ?a ?l ?c ?k (fun _ _ _ _ _ _ us hl => match us, hl with | [_], _ => rfl); (case a => k_is); (case l => k_is); (case c => k_is); (case k => k_is))
      (case d_need_web => refine' Dl.df_mk KX G ?a ?l ?c ?k (fun _ _ _ _ _ _ us hl => match us, hl with | [_], _ => rfl); (case a => k_is); (case l => k_is); (case c => k_is); (case k => k_is))
      (case d_near_of => refine' Dl.df_mk KX G ?a ?l ?c ?k (fun _ _ _ _ _ _ us hl => match us, hl with | [_], _ => rfl); (case a => k_is); (case l => k_is); (case c => k_is); (case k => k_is))
      (case d_exchange_along => refine' Dl.df_mk KX G ?a ?l ?c ?k (fun _ _ _ _ _ _ us hl => match us, hl with | [_, _, _, _], _ => rfl); (case a => k_is); (case l => k_is); (case c => k_is); (case k => k_is))
      (case d_left_out => refine' Dl.df_mk KX G ?a ?l ?c ?k (fun _ _ _ _ _ _ us hl => match us, hl with | [_, _, _], _ => rfl); (case a => k_is); (case l => k_is); (case c => k_is); (case k => k_is))
      (case d_lines_along => refine' Dl.df_mk KX G ?a ?l ?c ?k (fun _ _ _ _ _ _ us hl => match us, hl with | [_, _, _, _], _ => rfl); (case a => k_is); (case l => k_is); (case c => k_is); (case k => k_is))
      (case d_L_begun => refine' Dl.df_mk KX G ?a ?l ?c ?k (fun _ _ _ _ _ _ us hl => match us, hl with | [_], _ => rfl); (case a => k_is); (case l => k_is); (case c => k_is); (case k => k_is))
      (case d_L_blended => refine' Dl.df_mk KX G ?a ?l ?c ?k (fun _ _ _ _ _ _ us hl => match us, hl with | [_], _ => rfl); (case a => k_is); (case l => k_is); (case c => k_is); (case k => k_is))
      (case d_L_draw => refine' Dl.df_mk KX G ?a ?l ?c ?k (fun _ _ _ _ _ _ us hl => match us, hl with | [_, _], _ => rfl); (case a => k_is); (case l => k_is); (case c => k_is); (case k => k_is))
      (case d_L_pick => refine' Dl.df_mk KX G ?a ?l ?c ?k (fun _ _ _ _ _ _ us hl => match us, hl with | [_, _], _ => rfl); (case a => k_is); (case l => k_is); (case c => k_is); (case k => k_is))
      (case d_L_mixed => refine' Dl.df_mk KX G ?a ?l ?c ?k (fun _ _ _ _ _ _ us hl => match us, hl with | [_, _], _ => rfl); (case a => k_is); (case l => k_is); (case c => k_is); (case k => k_is))
      (case d_L_is_whole => refine' Dl.df_mk KX G ?a ?l ?c ?k (fun _ _ _ _ _ _ us hl => match us, hl with | [_], _ => rfl); (case a => k_is); (case l => k_is); (case c => k_is); (case k => k_is))
      (case d_L_rc_within => refine' Dl.df_mk KX G ?a ?l ?c ?k (fun _ _ _ _ _ _ us hl => match us, hl with | [_, _], _ => rfl); (case a => k_is); (case l => k_is); (case c => k_is); (case k => k_is))
      (case d_L_rc_is_lot => refine' Dl.df_mk KX G ?a ?l ?c ?k (fun _ _ _ _ _ _ us hl => match us, hl with | [_, _], _ => rfl); (case a => k_is); (case l => k_is); (case c => k_is); (case k => k_is))
      (case d_L_rc_is_lots => refine' Dl.df_mk KX G ?a ?l ?c ?k (fun _ _ _ _ _ _ us hl => match us, hl with | [_, _], _ => rfl); (case a => k_is); (case l => k_is); (case c => k_is); (case k => k_is))
      (case d_L_rc_web => refine' Dl.df_mk KX G ?a ?l ?c ?k (fun _ _ _ _ _ _ us hl => match us, hl with | [_, _, _], _ => rfl); (case a => k_is); (case l => k_is); (case c => k_is); (case k => k_is))
      (case d_L_rc_near => refine' Dl.df_mk KX G ?a ?l ?c ?k (fun _ _ _ _ _ _ us hl => match us, hl with | [_, _], _ => rfl); (case a => k_is); (case l => k_is); (case c => k_is); (case k => k_is))
      (case d_L_rc_led => refine' Dl.df_mk KX G ?a ?l ?c ?k (fun _ _ _ _ _ _ us hl => match us, hl with | [_, _, _, _], _ => rfl); (case a => k_is); (case l => k_is); (case c => k_is); (case k => k_is))
      (case d_L_rc_taken => refine' Dl.df_mk KX G ?a ?l ?c ?k (fun _ _ _ _ _ _ us hl => match us, hl with | [_, _], _ => rfl); (case a => k_is); (case l => k_is); (case c => k_is); (case k => k_is))
      (case d_L_rc_size => refine' Dl.df_mk KX G ?a ?l ?c ?k (fun _ _ _ _ _ _ us hl => match us, hl with | [_, _], _ => rfl); (case a => k_is); (case l => k_is); (case c => k_is); (case k => k_is))
      (case d_L_rc_doubled => refine' Dl.df_mk KX G ?a ?l ?c ?k (fun _ _ _ _ _ _ us hl => match us, hl with | [_, _], _ => rfl); (case a => k_is); (case l => k_is); (case c => k_is); (case k => k_is))
      (case d_L_au_lots => refine' Dl.df_mk KX G ?a ?l ?c ?k (fun _ _ _ _ _ _ us hl => match us, hl with | [_, _], _ => rfl); (case a => k_is); (case l => k_is); (case c => k_is); (case k => k_is))
      (case d_augmented => refine' Dl.df_mk KX G ?a ?l ?c ?k (fun _ _ _ _ _ _ us hl => match us, hl with | [_, _, _], _ => rfl); (case a => k_is); (case l => k_is); (case c => k_is); (case k => k_is))
      (case d_greatest => refine' Dl.df_mk KX G ?a ?l ?c ?k (fun _ _ _ _ _ _ us hl => match us, hl with | [_], _ => rfl); (case a => k_is); (case l => k_is); (case c => k_is); (case k => k_is))
      (case d_doubled => refine' Dl.df_mk KX G ?a ?l ?c ?k (fun _ _ _ _ _ _ us hl => match us, hl with | [_], _ => rfl); (case a => k_is); (case l => k_is); (case c => k_is); (case k => k_is))
      (case d_spare => refine' Dl.df_mk KX G ?a ?l ?c ?k (fun _ _ _ _ _ _ us hl => match us, hl with | [_], _ => rfl); (case a => k_is); (case l => k_is); (case c => k_is); (case k => k_is))
      (case d_kinds => refine' Dl.df_mk KX G ?a ?l ?c ?k (fun _ _ _ _ _ _ us hl => match us, hl with | [_], _ => rfl); (case a => k_is); (case l => k_is); (case c => k_is); (case k => k_is))
    case D =>
      refine' Dl.dfl_mk KX G hmg ?a ?l ?c ?k (fun _ _ _ _ _ _ _ => rfl); (case a => k_is); (case l => k_is); (case c => k_is); (case k => k_is)
