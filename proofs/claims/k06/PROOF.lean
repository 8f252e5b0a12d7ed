import PyProof.Rows.All
import Wide.All
import OpenK.AllK
import Wide.FinOn
import PyProof.P3Statements
import PySem.Str
import PyProof.ReprReads
import HandS.Text
import HandS.ForMost
import HandS.Exc
import HandS.TryOnly
import HandS.ExcOwn
import HandS.ExcIs
import KE.KDictKeyed
import KE.KeyNested
import HandS.Dict
import HandS.List
import HandS.Style
import HandS.TupMul
import HandS.TupAny
import HandS.Wide
import HandS.Deep
import HandS.Codes
import HandS.IsInst
import HandS.CallSlots
import HandS.Zip
import HandS.Defaults
import HandS.HeadEnd
import HandS.Ends
import HandS.RaiseMore
import PyProof.ReprRoads
import PyProof.SeqIndex
import HandS.SetFor
import HandS.More
import HandS.WordsExc
import HandS.Strs
import HandS.TupSets
import HandS.ExcValue
import PyProof.Rows.RegStrFacts
import HandS.HeadHook4
import KE.KStateDown
import PyProof.ExcBaseAll.ValueError
import HandS.Base
import HandS.Call
import HandS.Words
import HandS.Head0
import HandS.Head1
import HandS.Head2
import HandS.HeadHook1
import HandS.HeadHook2
import PySem.Challenge.RW_finitekeys_k06_within_and_many_kept
set_option Elab.async false
set_option linter.all false
set_option maxRecDepth 100000
set_option maxHeartbeats 0
/-! FkSrt: the ints of a list, sorted, each once. -/
namespace Fk
def insI (x : Int) : List Int → List Int
  | [] => [x]
  | y :: r => if x < y then x :: y :: r else if x = y then y :: r else y :: insI x r
def srt : List Int → List Int
  | [] => []
  | x :: r => insI x (srt r)
theorem mem_insI {x k : Int} : ∀ {l : List Int}, k ∈ insI x l ↔ k = x ∨ k ∈ l
  | [] => by simp [insI]
  | y :: r => by
    unfold insI
    split
    · simp
    · split
      · rename_i e; subst e; simp
      · simp only [List.mem_cons, mem_insI (l := r)]
        constructor
        · rintro (h | h | h) <;> simp [h]
        · rintro (h | h | h) <;> simp [h]
theorem pw_insI {x : Int} : ∀ {l : List Int}, l.Pairwise (· < ·) → (insI x l).Pairwise (· < ·)
  | [], _ => by simp [insI]
  | y :: r, h => by
    have h' := List.pairwise_cons.mp h
    unfold insI
    split
    · rename_i e
      refine List.pairwise_cons.mpr ⟨fun k hk => ?_, h⟩
      rcases List.mem_cons.mp hk with rfl | hk
      · exact e
      · have := h'.1 k hk; omega
    · split
      · exact h
      · refine List.pairwise_cons.mpr ⟨fun k hk => ?_, pw_insI h'.2⟩
        rcases mem_insI.mp hk with rfl | hk
        · omega
        · exact h'.1 k hk
theorem pw_srt : ∀ l : List Int, (srt l).Pairwise (· < ·)
  | [] => .nil
  | x :: r => pw_insI (pw_srt r)
theorem mem_srt {k : Int} : ∀ {l : List Int}, k ∈ srt l ↔ k ∈ l
  | [] => by simp [srt]
  | x :: r => by rw [srt, mem_insI, mem_srt (l := r), List.mem_cons]
/-- two rising lists of the same ints are one -/
theorem rise_eq : ∀ {l m : List Int}, l.Pairwise (· < ·) → m.Pairwise (· < ·) → (∀ k, k ∈ l ↔ k ∈ m) → l = m
  | [], [], _, _, _ => rfl
  | [], y :: m, _, _, h => by have := (h y).mpr (by simp); simp at this
  | x :: l, [], _, _, h => by have := (h x).mp (by simp); simp at this
  | x :: l, y :: m, hl, hm, h => by
    have l' := List.pairwise_cons.mp hl
    have m' := List.pairwise_cons.mp hm
    have e : x = y := by
      have a := (h x).mp (by simp)
      have b := (h y).mpr (by simp)
      rcases List.mem_cons.mp a with a | a
      · exact a
      · rcases List.mem_cons.mp b with b | b
        · exact b.symm
        · have := m'.1 x a; have := l'.1 y b; omega
    subst e
    refine congrArg _ (rise_eq l'.2 m'.2 fun k => ?_)
    constructor
    · intro hk
      rcases List.mem_cons.mp ((h k).mp (by simp [hk])) with e | e
      · have := l'.1 k hk; omega
      · exact e
    · intro hk
      rcases List.mem_cons.mp ((h k).mpr (by simp [hk])) with e | e
      · have := m'.1 k hk; omega
      · exact e
theorem srt_of {l m : List Int} (h : m.Pairwise (· < ·)) (e : ∀ k, k ∈ m ↔ k ∈ l) : m = srt l := rise_eq h (pw_srt l) fun k => by rw [e, mem_srt]
/-- a rising list is its own sort -/
theorem srt_self {l : List Int} : srt l = l ↔ l.Pairwise (· < ·) := ⟨fun e => e ▸ pw_srt l, fun h => (srt_of h fun _ => Iff.rfl).symm⟩
end Fk

/-! FkSem: by-value semantics of a small Python: data by value, mutable things as cells. No machine in sight. -/
namespace Fk
open PySem

abbrev D := PyData
/-- a value: data; a cell; an exception with its fields -/
inductive Val where
  | d (x : D) | p (k : Nat) | x (c : Nat) (fs : List (Str × D))
def Val.isN : Val → Bool
  | .d .none => true
  | _ => false
/-- a mutable thing -/
inductive Cell where
  | dead | ro (vs : List Val) | lst (vs : List Val) | dict (kvs : List (D × Val)) | ins (c : Nat) (fs : List (Str × Val))
abbrev Mem := List Cell
structure Exc where
  cls : Nat
  fs : List (Str × D)
inductive Out (α : Type) where
  | ok (a : α) (M : Mem) | exc (e : Exc) (M : Mem) | bad
def Out.bind {α β : Type} : Out α → (α → Mem → Out β) → Out β
  | .ok a M, f => f a M
  | .exc e M, _ => .exc e M
  | .bad, _ => .bad
@[simp] theorem Out.bind_ok {α β : Type} (a : α) (M : Mem) (f : α → Mem → Out β) : (Out.ok a M).bind f = f a M := (rfl)
@[simp] theorem Out.bind_exc {α β : Type} (e : Exc) (M : Mem) (f : α → Mem → Out β) : (Out.exc e M : Out α).bind f = .exc e M := (rfl)
@[simp] theorem Out.bind_bad {α β : Type} (f : α → Mem → Out β) : (Out.bad : Out α).bind f = .bad := (rfl)
/-- of an option -/
def Out.of {α : Type} (o : Option α) (M : Mem) : Out α := match o with | some a => .ok a M | none => .bad
@[simp] theorem Out.of_some {α : Type} (a : α) (M : Mem) : Out.of (some a) M = .ok a M := (rfl)
@[simp] theorem Out.of_none {α : Type} (M : Mem) : Out.of (none : Option α) M = .bad := (rfl)

def lim : Nat := 16777216
abbrev Slots := List (Option Val)

/-! ### reading -/
def asD : Val → Option D
  | .d x => some x
  | _ => none
/-- a value as data; lists in cells by value -/
def rd : Nat → Mem → Val → Option D
  | _, _, .d x => some x
  | _, _, .x _ _ => none
  | 0, _, .p _ => none
  | n + 1, M, .p k => match M[k]? with
    | some (.lst vs) => (vs.mapM (rd n M)).map .list
    | _ => none
abbrev rdv (M : Mem) (v : Val) : Option D := rd 3 M v
/-- the items of a list or tuple -/
def seqOf (M : Mem) : Val → Option (List Val)
  | .d (.list xs) => some (xs.map .d)
  | .d (.tuple xs) => some (xs.map .d)
  | .p k => match M[k]? with
    | some (.lst vs) => some vs
    | some (.ro vs) => some vs
    | _ => none
  | _ => none
/-- the items of a list -/
def lstOf (M : Mem) : Val → Option (List Val)
  | .d (.list xs) => some (xs.map .d)
  | .p k => match M[k]? with
    | some (.lst vs) => some vs
    | _ => none
  | _ => none
def sgn (c : Nat) : D := .str ⟨#[c]⟩
/-- what a for walks -/
def itemsOf (M : Mem) : Val → Option (List Val)
  | .d (.str s) => if s.length ≤ lim then some (s.cps.toList.map fun c => .d (sgn c)) else none
  | v => seqOf M v
def gdOf : Val → Option Nat
  | .p k => some k
  | _ => none
def truthV (M : Mem) : Val → Option Bool
  | .d .none => some false
  | .d (.bool b) => some b
  | .d (.int i) => some (i != 0)
  | .d (.str s) => if s.length ≤ lim then some ((s.length : Int) != 0) else none
  | .d (.list xs) => some (!xs.isEmpty)
  | .d (.tuple xs) => some (!xs.isEmpty)
  | .p k => match M[k]? with
    | some (.lst vs) => some (!vs.isEmpty)
    | _ => none
  | _ => none
def lenV (M : Mem) : Val → Option Nat
  | .d (.str s) => if s.length ≤ lim then some s.length else none
  | v => (seqOf M v).map List.length
/-- the place that an index of any sign means -/
def ixN (n : Nat) (i : Int) : Option Nat := if 0 ≤ i then (if i < n then some i.toNat else none) else if -(n : Int) ≤ i then some (i + n).toNat else none
def sIx (n d : Nat) : Option Int → Nat
  | none => d
  | some v => if v < 0 then (v + (n : Int)).toNat else min v.toNat n
def cut {α : Type} (xs : List α) (lo hi : Option Int) : List α := (xs.drop (sIx xs.length 0 lo)).take (sIx xs.length xs.length hi - sIx xs.length 0 lo)

/-! ### dicts -/
/-- an int or a text -/
def plainK : D → Bool
  | .int _ => true
  | .str _ => true
  | _ => false
mutual
/-- what may be a key: None, intsL, textsL, tuples of such, to a depth -/
def keyable : Nat → D → Bool
  | _, .none => true
  | _, .int _ => true
  | _, .str x => true
  | 0, .tuple _ => false
  | n + 1, .tuple xs => keyableAll n xs
  | _, _ => false
def keyableAll : Nat → List D → Bool
  | _, [] => true
  | n, x :: xs => keyable n x && keyableAll n xs
end
/-- a tuple that may be a key -/
def tupK : D → Bool
  | .tuple xs => keyableAll 6 xs
  | _ => false
/-- may be asked of a dict with such keys -/
def dkOk (kvs : List (D × Val)) (x : D) : Bool := (plainK x && kvs.all fun q => plainK q.1) || (tupK x && kvs.all fun q => tupK q.1)
def kLook (k : D) : List (D × Val) → Option Val
  | [] => none
  | (j, v) :: r => if PyData.eqv j k then some v else kLook k r
def kPut (k : D) (v : Val) : List (D × Val) → List (D × Val)
  | [] => [(k, v)]
  | (j, w) :: r => if PyData.eqv j k then (j, v) :: r else (j, w) :: kPut k v r

/-! ### operations on values -/
inductive BOp | add | sub | mul | fdv | mod | pow
inductive COp | eq | ne | lt | le | gt | ge | isin | notin | isnone | notnone
/-- how a new list is kept: by value, or as a cell -/
inductive Md | v | c
inductive Ty | bool | int | str | list | tuple | dict | valueError | cls (c : Nat)
inductive Bt | len | int | list | tuple | all | sum | max1 | min1 | max2 | min2 | repr | str | lenset | sset
inductive Bm | append | index | insert | pop0 | pop1 | clear | reverse | count | get1 | get2 | split | join | upper

def allD : List Val → Option (List D)
  | [] => some []
  | .d x :: r => (allD r).map (x :: ·)
  | _ :: _ => none
@[simp] theorem allD_map (xs : List D) : allD (xs.map Val.d) = some xs := by
  induction xs with
  | nil => rfl
  | cons x r ih => simp [allD, ih]
/-- a new list -/
def mkL (m : Md) (vs : List Val) (M : Mem) : Out Val := match m with
  | .v => match allD vs with
    | some ds => .ok (.d (.list ds)) M
    | none => .bad
  | .c => .ok (.p M.length) (M ++ [.lst vs])
def mulOk (i j : Int) : Bool := (decide (-(2 ^ 64) < i) && decide (i < 2 ^ 64)) || (decide (-(2 ^ 64) < j) && decide (j < 2 ^ 64)) || (decide (i.natAbs < 2 ^ 1000) && decide (j.natAbs < 2 ^ 1000))
def binV (m : Md) (o : BOp) (M : Mem) (a b : Val) : Out Val := match o, a, b with
  | .add, .d (.int i), .d (.int j) => .ok (.d (.int (i + j))) M
  | .sub, .d (.int i), .d (.int j) => .ok (.d (.int (i - j))) M
  | .mul, .d (.int i), .d (.int j) => if mulOk i j then .ok (.d (.int (i * j))) M else .bad
  | .fdv, .d (.int i), .d (.int j) => if 0 < j ∧ j < 1073741824 then .ok (.d (.int (i / j))) M else .bad
  | .mod, .d (.int i), .d (.int j) => if 0 < j then .ok (.d (.int (i % j))) M else .bad
  | .pow, .d (.int i), .d (.int j) => if 0 ≤ j ∧ j ≤ 1000000 ∧ i.natAbs < 2 ^ 64 then .ok (.d (.int (i ^ j.toNat))) M else .bad
  | .add, .d (.str x), .d (.str y) => if x.length + y.length ≤ lim then .ok (.d (.str (x ++ y))) M else .bad
  | .add, .d (.tuple xs), .d (.tuple ys) => if xs.length + ys.length ≤ lim then .ok (.d (.tuple (xs ++ ys))) M else .bad
  | .add, u, w => match lstOf M u, lstOf M w with
    | some xs, some ys => if xs.length + ys.length ≤ lim then mkL m (xs ++ ys) M else .bad
    | _, _ => .bad
  | .mul, .d (.tuple xs), .d (.int k) => if !xs.isEmpty ∧ 2 ≤ k ∧ k ≤ 1000 ∧ xs.length ≤ 1000 then .ok (.d (.tuple (List.replicate k.toNat xs).flatten)) M else .bad
  | .mul, u, .d (.int k) => match lstOf M u with
    | some xs => if -(2 ^ 63) ≤ k ∧ k < 2 ^ 63 ∧ xs.length * k.toNat ≤ lim then mkL m (List.replicate k.toNat xs).flatten M else .bad
    | _ => .bad
  | _, _, _ => .bad


/-- == may be asked -/
def shp (d : D) : Bool := d.canLay0 && decide (d.depth ≤ 64)
def inD (x : D) (xs : List D) : Bool := xs.any fun z => PyData.eqv z x
def cmpV (o : COp) (M : Mem) (a b : Val) : Option Bool := match o with
  | .eq => match rdv M a, rdv M b with
    | some x, some y => if shp x && shp y then some (PyData.eqv x y) else none
    | _, _ => none
  | .ne => match rdv M a, rdv M b with
    | some x, some y => if shp x && shp y then some (!PyData.eqv x y) else none
    | _, _ => none
  | .lt => match a, b with | .d (.int i), .d (.int j) => some (decide (i < j)) | _, _ => none
  | .le => match a, b with | .d (.int i), .d (.int j) => some (decide (i ≤ j)) | _, _ => none
  | .gt => match a, b with | .d (.int i), .d (.int j) => some (decide (j < i)) | _, _ => none
  | .ge => match a, b with | .d (.int i), .d (.int j) => some (decide (j ≤ i)) | _, _ => none
  | .isnone => match b with
    | .d .none => some a.isN
    | .d (.bool t) => (match a with | .d (.bool x) => some (x == t) | _ => none)
    | _ => none
  | .notnone => match b with
    | .d .none => some (!a.isN)
    | .d (.bool t) => (match a with | .d (.bool x) => some (!(x == t)) | _ => none)
    | _ => none
  | .isin => memV M a b
  | .notin => (memV M a b).map (!·)
where memV (M : Mem) (a b : Val) : Option Bool := match b with
  | .d (.str y) => match a with
    | .d (.str x) => match x.cps.toList with
      | [c] => some (decide (c ∈ y.cps.toList))
      | _ => none
    | _ => none
  | .d (.tuple ys) => match a with
    | .d x => if shp x && shp (.tuple ys) then some (inD x ys) else none
    | _ => none
  | .d (.list ys) => match a with
    | .d x => if shp x && shp (.list ys) then some (inD x ys) else none
    | _ => none
  | .p k => match M[k]? with
    | some (.lst vs) => match a, rdv M (.p k) with
      | .d x, some (.list ys) => if shp x && shp (.list ys) then some (inD x ys) else none
      | _, _ => none
    | some (.dict kvs) => match a with
      | .d x => if dkOk kvs x then some (kLook x kvs).isSome else none
      | _ => none
    | _ => none
  | _ => none
def idxV (M : Mem) (a b : Val) : Option Val := match a, b with
  | .d (.str s), .d (.int i) => if s.length ≤ lim then (ixN s.length i).bind fun j => (s.cps.toList[j]?).map fun c => .d (sgn c) else none
  | .p k, w => match M[k]? with
    | some (.dict kvs) => match w with
      | .d x => if dkOk kvs x then kLook x kvs else none
      | _ => none
    | _ => match w with
      | .d (.int i) => (seqOf M (.p k)).bind fun vs => (ixN vs.length i).bind fun j => vs[j]?
      | _ => none
  | v, .d (.int i) => (seqOf M v).bind fun vs => (ixN vs.length i).bind fun j => vs[j]?
  | _, _ => none
def slcV (m : Md) (M : Mem) (a : Val) (lo hi : Option Int) : Out Val := match a with
  | .d (.str s) => if s.length ≤ lim then .ok (.d (.str ⟨(cut s.cps.toList lo hi).toArray⟩)) M else .bad
  | .d (.tuple xs) => .ok (.d (.tuple (cut xs lo hi))) M
  | v => match lstOf M v with
    | some vs => mkL m (cut vs lo hi) M
    | none => .bad
/-- x[::-1] -/
def revV (m : Md) (M : Mem) (a : Val) : Out Val := match a with
  | .d (.tuple xs) => .ok (.d (.tuple xs.reverse)) M
  | v => match lstOf M v with
    | some vs => mkL m vs.reverse M
    | none => .bad
/-- the classes: 0 is the errors' own base, 1 to 14 are the errors -/
def subC (c d : Nat) : Bool := c == d || (d == 0 && decide (c < 15))
def isiV (sub : Nat → Nat → Bool) (M : Mem) (v : Val) (t : Ty) : Option Bool := match v with
  | .d .none => match t with | .dict => none | .cls _ => none | .valueError => none | _ => some false
  | .d (.bool _) => match t with | .bool => some true | .int => some true | .dict => none | .cls _ => none | .valueError => none | _ => some false
  | .d (.int _) => match t with | .int => some true | .dict => none | .cls _ => none | .valueError => none | _ => some false
  | .d (.str _) => match t with | .str => some true | .dict => none | .cls _ => none | .valueError => none | _ => some false
  | .d (.list _) => match t with | .list => some true | .dict => none | .cls _ => none | .valueError => none | _ => some false
  | .d (.tuple _) => match t with | .tuple => some true | .dict => none | .cls _ => none | .valueError => none | _ => some false
  | .p k => match M[k]? with
    | some (.lst _) => match t with | .list => some true | .dict => none | .cls _ => none | .valueError => none | _ => some false
    | _ => none
  | .x c fs => match t with | .cls c' => if fs.isEmpty then some (sub c c') else none | .valueError => if fs.isEmpty then some true else none | _ => none
  | _ => none
def intsL : List D → Option (List Int)
  | [] => some []
  | .int i :: r => (intsL r).map (i :: ·)
  | _ :: _ => none
def boolsL : List D → Option (List Bool)
  | [] => some []
  | .bool i :: r => (boolsL r).map (i :: ·)
  | _ :: _ => none
def textsL : List D → Option (List Str)
  | [] => some []
  | .str i :: r => (textsL r).map (i :: ·)
  | _ :: _ => none
def dataOf (M : Mem) (v : Val) : Option (List D) := (seqOf M v).bind allD
/-- what tuple() makes -/
def tupOf (M : Mem) : Val → Option (List D)
  | .d (.str s) => if s.length ≤ lim then some (s.cps.toList.map sgn) else none
  | v => dataOf M v
def listD (M : Mem) (v : Val) : Option (List D) := (lstOf M v).bind allD
def maxL : List Int → Int
  | [] => 0
  | [x] => x
  | x :: r => max x (maxL r)
def minL : List Int → Int
  | [] => 0
  | [x] => x
  | x :: r => min x (minL r)
/-- the different ones -/
def nub : List D → List D
  | [] => []
  | x :: r => if inD x r then nub r else x :: nub r
def twoI : List Val → Option (Int × Int)
  | [.d (.int i), .d (.int j)] => some (i, j)
  | _ => none
def oneI : List Val → Option Int
  | [.d (.int i)] => some i
  | [.d (.bool b)] => some (if b then 1 else 0)
  | _ => none
/-- tuples of ints -/
def tupsI : List D → Option (List (List Int))
  | [] => some []
  | .tuple xs :: r => (intsL xs).bind fun k => (tupsI r).map (k :: ·)
  | _ :: _ => none
/-- a list whose set may be measured -/
def lsOk (ds : List D) : Bool := ((intsL ds).isSome && decide (ds.length ≤ 4000)) || ((tupsI ds).isSome && decide (ds.length < 64))
def isDisp : D → Bool
  | .list _ => true
  | .tuple _ => true
  | .none => true
  | .bool _ => true
  | _ => false
def bltV (m : Md) (b : Bt) (M : Mem) (vs : List Val) : Out Val := match b, vs with
  | .len, [v] => match lenV M v with | some n => .ok (.d (.int n)) M | none => .bad
  | .int, vs => match oneI vs with | some i => .ok (.d (.int i)) M | none => .bad
  | .list, [v] => match seqOf M v with | some xs => mkL m xs M | none => .bad
  | .tuple, [v] => match tupOf M v with | some xs => .ok (.d (.tuple xs)) M | none => .bad
  | .all, [v] => match (listD M v).bind boolsL with | some bs => .ok (.d (.bool (bs.all id))) M | none => .bad
  | .sum, [v] => match (listD M v).bind intsL with | some ns => .ok (.d (.int ns.sum)) M | none => .bad
  | .max1, [v] => match (listD M v).bind intsL with | some (i :: r) => .ok (.d (.int (maxL (i :: r)))) M | _ => .bad
  | .min1, [v] => match (listD M v).bind intsL with | some (i :: r) => .ok (.d (.int (minL (i :: r)))) M | _ => .bad
  | .max2, vs => match twoI vs with | some (i, j) => .ok (.d (.int (if j > i then j else i))) M | none => .bad
  | .min2, vs => match twoI vs with | some (i, j) => .ok (.d (.int (if j < i then j else i))) M | none => .bad
  | .lenset, [v] => match listD M v with | some ds => if lsOk ds then .ok (.d (.int (nub ds).length)) M else .bad | none => .bad
  | .sset, [v] => match (listD M v).bind intsL with | some ns => if ns.length < 63 then mkL m ((srt ns).map fun i => .d (.int i)) M else .bad | none => .bad
  | .str, [.d (.str x)] => .ok (.d (.str x)) M
  | .str, [.d (.int i)] => if i.natAbs.log2 < 1920 then .ok (.d (.str (toString i))) M else .bad
  | .str, [v] => match rdv M v with
    | some d => if isDisp d && d.showable && !d.hasDict && decide (d.depth ≤ 64) && decide (d.shown.length ≤ lim) then .ok (.d (.str d.shown)) M else .bad
    | none => .bad
  | .repr, [v] => match rdv M v with
    | some d => if d.showable && !d.hasDict && decide (d.depth ≤ 64) && decide (d.shown.length ≤ lim) then .ok (.d (.str d.shown)) M else .bad
    | none => .bad
  | _, _ => .bad
def setC (M : Mem) (k : Nat) (c : Cell) : Mem := M.set k c
/-- v may be stored in cell k by code whose ground is n -/
def mayPut (n k : Nat) : Val → Bool
  | .p _ => decide (n ≤ k)
  | _ => true
def bmV (m : Md) (n : Nat) (b : Bm) (M : Mem) (v : Val) (as : List Val) : Out Val := match b, v, as with
  | .append, .p k, [a] => match M[k]? with
    | some (.lst vs) => if vs.length < lim ∧ mayPut n k a = true then .ok (.d .none) (M.set k (.lst (vs ++ [a]))) else .bad
    | _ => .bad
  | .clear, .p k, [] => match M[k]? with
    | some (.lst vs) => .ok (.d .none) (M.set k (.lst []))
    | _ => .bad
  | .reverse, .p k, [] => match M[k]? with
    | some (.lst vs) => .ok (.d .none) (M.set k (.lst vs.reverse))
    | _ => .bad
  | .pop0, .p k, [] => match M[k]? with
    | some (.lst vs) => match vs.getLast? with
      | some a => .ok a (M.set k (.lst vs.dropLast))
      | none => .bad
    | _ => .bad
  | .pop1, .p k, [.d (.int i)] => match M[k]? with
    | some (.lst vs) => match (ixN vs.length i).bind fun j => (vs[j]?).map fun a => (j, a) with
      | some (j, a) => if -(2 ^ 63) ≤ i ∧ i < 2 ^ 63 then .ok a (M.set k (.lst (vs.eraseIdx j))) else .bad
      | none => .bad
    | _ => .bad
  | .insert, .p k, [.d (.int i), a] => match M[k]? with
    | some (.lst vs) => if vs.length < lim ∧ 0 ≤ i ∧ i < 2 ^ 63 ∧ mayPut n k a = true then .ok (.d .none) (M.set k (.lst (vs.take i.toNat ++ [a] ++ vs.drop i.toNat))) else .bad
    | _ => .bad
  | .index, v, [.d x] => match dataOf M v with
    | some xs => if shp x && shp (.list xs) then match xs.findIdx? (fun z => PyData.eqv z x) with
      | some j => .ok (.d (.int j)) M
      | none => .bad else .bad
    | none => .bad
  | .count, v, [.d x] => match dataOf M v with
    | some xs => if shp x && shp (.list xs) then .ok (.d (.int ((xs.filter fun z => PyData.eqv z x).length))) M else .bad
    | none => .bad
  | .split, .d (.str a), [.d (.str b)] => if 0 < b.length ∧ a.length + 2 ≤ lim then .ok (.d (.list ((Txt.split a b).map .str))) M else .bad
  | .upper, .d (.str a), [] => if 3 * a.length ≤ lim then .ok (.d (.str (Txt.upper a))) M else .bad
  | .get1, .p k, [.d x] => match M[k]? with
    | some (.dict kvs) => if dkOk kvs x then .ok ((kLook x kvs).getD (.d .none)) M else .bad
    | _ => .bad
  | .get2, .p k, [.d x, a] => match M[k]? with
    | some (.dict kvs) => if dkOk kvs x then .ok ((kLook x kvs).getD a) M else .bad
    | _ => .bad
  | .join, .d (.str a), [v] => match (dataOf M v).bind textsL with
    | some ys => if (ys.map (·.length)).sum + ys.length * a.length ≤ lim then .ok (.d (.str (Txt.join a ys))) M else .bad
    | none => .bad
  | _, _, _ => .bad

/-! ### code -/
/-- where an item goes: one slot, or the slots of a tuple's items -/
inductive Tg | one (i : Nat) | tup (is : List Nat)
mutual
inductive E
  | var (i : Nat) | con (x : Str) (d : D) | lit (d : D)
  | tup (es : Es) | lst (m : Md) (es : Es)
  | bin (o : BOp) (m : Md) (a b : E) | neg (a : E)
  | cmp (o : COp) (a b : E)
  | and (a b : E) | or (a b : E) | not (a : E) | ite (c : T) (a b : E)
  | idx (a b : E) | slc (m : Md) (a : E) (lo hi : Eo)
  | call (f : Nat) (dv : List D) (es : Es) | callB (f : Nat) (dv : List D) (es : Es)
  | blt (b : Bt) (m : Md) (es : Es) | bm (b : Bm) (a : E) (es : Es)
  | isi (a : E) (ts : List Ty) | fld (a : E) (f : Str) | dct | rev (m : Md) (a : E)
  | lc (m : Md) (vs : List Nat) (tg : Tg) (it : I) (t : To) (e : E)
  | lc2 (m : Md) (vs vs1 : List Nat) (tg : Tg) (it : I) (t : To) (tg1 : Tg) (it1 : I) (t1 : To) (e : E)
inductive Es | nil | cons (e : E) (es : Es)
inductive Eo | no | some (e : E)
inductive To | no | some (t : T)
/-- a test -/
inductive T | and (a b : T) | or (a b : T) | not (a : T) | val (e : E)
inductive I | seq (e : E) | rng1 (a : E) | rng2 (a b : E) | rngD (a b : E) | enm (e : E) | zip (a b : E)
end
/-! ### running -/
structure FnI where
  run : Nat → List Val → Mem → Out Val
structure Gam where
  fn : Nat → Option FnI
  sub : Nat → Nat → Bool
/-- an item is stored -/
def setAll : List Nat → List D → Slots → Slots
  | i :: is, d :: ds, ρ => setAll is ds (ρ.set i (some (.d d)))
  | _, _, ρ => ρ
/-- what a loop takes: a value, or a pair that is taken apart at once -/
inductive Itm where
  | v (x : Val) | t (ds : List D)
def asg (tg : Tg) (v : Itm) (ρ : Slots) : Option Slots := match tg, v with
  | .one i, .v x => some (ρ.set i (some x))
  | .tup is, .v (.d (.tuple ds)) => if ds.length = is.length then some (setAll is ds ρ) else none
  | .tup is, .t ds => if ds.length = is.length then some (setAll is ds ρ) else none
  | _, _ => none
def wipeS (ρ : Slots) : List Nat → Slots
  | [] => ρ
  | v :: vs => (wipeS ρ vs).set v none
mutual
/-- no list within -/
def noL : D → Bool
  | .list _ => false
  | .tuple xs => noLs xs
  | .dict _ => false
  | _ => true
def noLs : List D → Bool
  | [] => true
  | x :: xs => noL x && noLs xs
end
def Val.noL : Val → Bool
  | .d y => Fk.noL y
  | .x _ fs => fs.all fun q => Fk.noL q.2
  | .p _ => false
/-- an argument lent by value -/
def viewV (M : Mem) : Val → Option Val
  | .p k => (rdv M (.p k)).map Val.d
  | v => some v
/-- what a call leaves that was lent all lists by value -/
def lend (M : Mem) : Out Val → Out Val
  | .ok v _ => if v.noL then .ok v M else .bad
  | .exc e _ => if e.fs.all (fun q => Fk.noL q.2) then .exc e M else .bad
  | .bad => .bad
inductive Rt | list | tuple | str | dict
/-- the type of a value that a method is asked of -/
def recvT (M : Mem) : Val → Option Rt
  | .d (.list _) => some .list
  | .d (.tuple _) => some .tuple
  | .d (.str _) => some .str
  | .p k => match M[k]? with
    | some (.lst _) => some .list
    | some (.dict _) => some .dict
    | _ => none
  | _ => none
def mtOk : Bm → Rt → Bool
  | .append, .list | .insert, .list | .pop0, .list | .pop1, .list | .clear, .list | .reverse, .list | .count, .list | .index, .list => true
  | .index, .tuple => true
  | .split, .str | .join, .str | .upper, .str => true
  | .get1, .dict | .get2, .dict => true
  | _, _ => false
/-- a comprehension's turn -/
def stepC (ρ : Slots) (vs : List Nat) (tg : Tg) (tF : Slots → Mem → Out Bool) (eF : Slots → Mem → Out Val) (x : Itm) (M : Mem) : Out (Option Val) := match asg tg x (wipeS ρ vs) with
  | some ρ' => (tF ρ' M).bind fun b M => if b then (eF ρ' M).bind fun y M => .ok (some y) M else .ok none M
  | none => .bad
open Classical in
/-- what is walked stays -/
noncomputable def guard {α : Type} (g : Option Nat) (M M' : Mem) (a : Out α) : Out α := match g with
  | none => a
  | some k => if M'[k]? = M[k]? then a else .bad
/-- a comprehension's turns -/
noncomputable def foldC (g : Option Nat) (f : Itm → Mem → Out (Option Val)) : List Itm → List Val → Mem → Out (List Val)
  | [], acc, M => .ok acc M
  | x :: r, acc, M => match f x M with
    | .ok o M' => guard g M M' (foldC g f r (acc ++ o.toList) M')
    | _ => .bad
/-- an outcome that may not raise -/
def Out.okk {α β : Type} : Out α → (α → Mem → Out β) → Out β
  | .ok a M, f => f a M
  | _, _ => .bad
@[simp] theorem Out.okk_ok {α β : Type} (a : α) (M : Mem) (f : α → Mem → Out β) : (Out.ok a M).okk f = f a M := (rfl)
@[simp] theorem Out.okk_exc {α β : Type} (e : Exc) (M : Mem) (f : α → Mem → Out β) : (Out.exc e M : Out α).okk f = .bad := (rfl)
@[simp] theorem Out.okk_bad {α β : Type} (f : α → Mem → Out β) : (Out.bad : Out α).okk f = .bad := (rfl)
/-- the first clause's turns of a comprehension with two -/
noncomputable def foldC2 (g : Option Nat) (f : Itm → List Val → Mem → Out (List Val)) : List Itm → List Val → Mem → Out (List Val)
  | [], acc, M => .ok acc M
  | x :: r, acc, M => (f x acc M).okk fun acc' M' => guard g M M' (foldC2 g f r acc' M')
/-- its turn -/
noncomputable def stepC2 (ρ : Slots) (vs vs1 : List Nat) (tg tg1 : Tg) (tF : Slots → Mem → Out Bool) (iF : Slots → Mem → Out (List Itm × Option Nat)) (tF1 : Slots → Mem → Out Bool) (eF : Slots → Mem → Out Val) (x : Itm) (acc : List Val) (M : Mem) : Out (List Val) := match asg tg x (wipeS ρ vs) with
  | some ρ' => (tF ρ' M).okk fun b M => if b then (iF ρ' M).okk fun ig M => if acc.length + ig.1.length ≤ lim then foldC ig.2 (stepC ρ' vs1 tg1 tF1 eF) ig.1 acc M else .bad else .ok acc M
  | none => .bad
def idxs (vs : List Val) : Option (List Itm) := (allD vs).bind fun ds => if ds.length ≤ lim then some ((List.range ds.length).zipWith (fun (i : Nat) x => Itm.t [.int i, x]) ds) else none
def zips (xs ys : List D) : List Itm := xs.zipWith (fun x y => Itm.t [x, y]) ys
def rng1V : Val → Option (List Itm)
  | .d (.int j) => if -(2 ^ 62) ≤ j ∧ j ≤ lim then some ((List.range j.toNat).map fun (i : Nat) => Itm.v (.d (.int (0 + i)))) else none
  | _ => none
def rng2V : Val → Val → Option (List Itm)
  | .d (.int a), .d (.int j) => if -(2 ^ 62) ≤ a ∧ a < 2 ^ 62 ∧ -(2 ^ 62) ≤ j ∧ j < 2 ^ 62 ∧ j - a ≤ lim then some ((List.range (j - a).toNat).map fun (i : Nat) => Itm.v (.d (.int (a + i)))) else none
  | _, _ => none
/-- down from a to above j -/
def rngDV : Val → Val → Option (List Itm)
  | .d (.int a), .d (.int j) => if -(2 ^ 62) ≤ a ∧ a < 2 ^ 62 ∧ -(2 ^ 62) ≤ j ∧ j < 2 ^ 62 ∧ a - j ≤ lim then some ((List.range (a - j).toNat).map fun (i : Nat) => Itm.v (.d (.int (a + i * (-1))))) else none
  | _, _ => none
mutual
noncomputable def ev (G : Gam) (n : Nat) (ρ : Slots) (M : Mem) : E → Out Val
  | .var i => match ρ[i]? with
    | some (some v) => .ok v M
    | _ => .bad
  | .con _ d => .ok (.d d) M
  | .lit d => .ok (.d d) M
  | .tup es => (evs G n ρ M es).bind fun vs M => match allD vs with
    | some ds => .ok (.d (.tuple ds)) M
    | none => .bad
  | .lst m es => (evs G n ρ M es).bind fun vs M => mkL m vs M
  | .bin o m a b => (ev G n ρ M a).bind fun x M => (ev G n ρ M b).bind fun y M => binV m o M x y
  | .neg a => (ev G n ρ M a).bind fun x M => match x with
    | .d (.int i) => .ok (.d (.int (-i))) M
    | _ => .bad
  | .cmp o a b => (ev G n ρ M a).bind fun x M => (ev G n ρ M b).bind fun y M => match cmpV o M x y with
    | some t => .ok (.d (.bool t)) M
    | none => .bad
  | .and a b => (ev G n ρ M a).bind fun x M => match x with
    | .d (.bool true) => ev G n ρ M b
    | .d (.bool false) => .ok (.d (.bool false)) M
    | _ => .bad
  | .or a b => (ev G n ρ M a).bind fun x M => match x with
    | .d (.bool true) => .ok (.d (.bool true)) M
    | .d (.bool false) => ev G n ρ M b
    | _ => .bad
  | .not a => (ev G n ρ M a).bind fun x M => match x with
    | .d (.bool t) => .ok (.d (.bool !t)) M
    | _ => .bad
  | .ite c a b => (evT G n ρ M c).bind fun t M => if t then ev G n ρ M a else ev G n ρ M b
  | .idx a b => (ev G n ρ M a).bind fun x M => (ev G n ρ M b).bind fun y M => Out.of (idxV M x y) M
  | .slc m a lo hi => (ev G n ρ M a).bind fun x M => (evo G n ρ M lo).bind fun l M => (evo G n ρ M hi).bind fun h M => slcV m M x l h
  | .call f dv es => (evs G n ρ M es).bind fun vs M => match G.fn f with
    | some g => g.run n (vs ++ dv.map Val.d) M
    | none => .bad
  | .callB f dv es => (evs G n ρ M es).bind fun vs M => match G.fn f, vs.mapM (viewV M) with
    | some g, some vs => lend M (g.run 0 (vs ++ dv.map Val.d) (M.map fun _ => .dead))
    | _, _ => .bad
  | .blt b m es => (evs G n ρ M es).bind fun vs M => bltV m b M vs
  | .bm b a es => (ev G n ρ M a).bind fun x M => match recvT M x with
    | some t => if mtOk b t then (evs G n ρ M es).bind fun vs M => bmV .v n b M x vs else .bad
    | none => .bad
  | .isi a ts => (ev G n ρ M a).bind fun x M => match (ts.map (isiV subC M x)).mapM id with
    | some bs => .ok (.d (.bool (bs.any id))) M
    | none => .bad
  | .fld a f => (ev G n ρ M a).bind fun x M => match x with
    | .p k => match M[k]? with
      | some (.ins _ fs) => Out.of (fs.lookup f) M
      | _ => .bad
    | .x _ fs => Out.of ((fs.lookup f).map Val.d) M
    | _ => .bad
  | .rev m a => (ev G n ρ M a).bind fun x M => revV m M x
  | .dct => .ok (.p M.length) (M ++ [.dict []])
  | .lc m vs tg it t e => (evI G n ρ M it).bind fun ig M => (foldC ig.2 (stepC ρ vs tg (fun ρ M => evoT G n ρ M t) (fun ρ M => ev G n ρ M e)) ig.1 [] M).bind fun vs M => mkL m vs M
  | .lc2 m vs vs1 tg it t tg1 it1 t1 e => (evI G n ρ M it).bind fun ig M => (foldC2 ig.2 (stepC2 ρ vs vs1 tg tg1 (fun ρ M => evoT G n ρ M t) (fun ρ M => evI G n ρ M it1) (fun ρ M => evoT G n ρ M t1) (fun ρ M => ev G n ρ M e)) ig.1 [] M).bind fun vs M => mkL m vs M
noncomputable def evs (G : Gam) (n : Nat) (ρ : Slots) (M : Mem) : Es → Out (List Val)
  | .nil => .ok [] M
  | .cons e es => (ev G n ρ M e).bind fun v M => (evs G n ρ M es).bind fun vs M => .ok (v :: vs) M
noncomputable def evo (G : Gam) (n : Nat) (ρ : Slots) (M : Mem) : Eo → Out (Option Int)
  | .no => .ok none M
  | .some e => (ev G n ρ M e).bind fun v M => match v with
    | .d (.int i) => .ok (some i) M
    | _ => .bad
noncomputable def evoT (G : Gam) (n : Nat) (ρ : Slots) (M : Mem) : To → Out Bool
  | .no => .ok true M
  | .some e => evT G n ρ M e
noncomputable def evT (G : Gam) (n : Nat) (ρ : Slots) (M : Mem) : T → Out Bool
  | .and a b => (evT G n ρ M a).bind fun t M => if t then evT G n ρ M b else .ok false M
  | .or a b => (evT G n ρ M a).bind fun t M => if t then .ok true M else evT G n ρ M b
  | .not a => (evT G n ρ M a).bind fun t M => .ok (!t) M
  | .val e => (ev G n ρ M e).bind fun x M => Out.of (truthV M x) M
noncomputable def evI (G : Gam) (n : Nat) (ρ : Slots) (M : Mem) : I → Out (List Itm × Option Nat)
  | .seq e => (ev G n ρ M e).bind fun v M => Out.of ((itemsOf M v).map fun xs => (xs.map Itm.v, gdOf v)) M
  | .rng1 a => (ev G n ρ M a).bind fun x M => Out.of ((rng1V x).map fun xs => (xs, none)) M
  | .rng2 a b => (ev G n ρ M a).bind fun x M => (ev G n ρ M b).bind fun y M => Out.of ((rng2V x y).map fun xs => (xs, none)) M
  | .rngD a b => (ev G n ρ M a).bind fun x M => (ev G n ρ M b).bind fun y M => Out.of ((rngDV x y).map fun xs => (xs, none)) M
  | .enm e => (ev G n ρ M e).bind fun v M => Out.of (((lstOf M v).bind idxs).map fun xs => (xs, gdOf v)) M
  | .zip a b => (ev G n ρ M a).bind fun x M => (ev G n ρ M b).bind fun y M => match x, y with
    | .d (.list xs), .d (.list ys) => if xs.length ≤ lim then .ok (zips xs ys, none) M else .bad
    | .d (.tuple xs), .d (.tuple ys) => if xs.length ≤ lim then .ok (zips xs ys, none) M else .bad
    | _, _ => .bad
end
end Fk

/-! FkSm: statements and defs, by value. -/
namespace Fk
open PySem
mutual
inductive S
  | expr (e : E) | set (i : Nat) (e : E) | setT (is : List Nat) (e : E) | par (is : List Nat) (es : Es) | setIx (a b e : E) | setF (a : E) (f : Str) (e : E)
  | aug (i : Nat) (o : BOp) (e : E)
  | iff (c : T) (a b : Ss) | whl (tr : Bool) (c : T) (b : Ss) | fr (tr : Bool) (tg : Tg) (it : I) (b : Ss)
  | ret (e : E) | retN | raise (c : Nat) (e : E) | pass | never | tryK (c i j : Nat) (b : Ss)
inductive Ss | nil | cons (s : S) (ss : Ss)
end
inductive OutS where
  | nx (ρ : Slots) (M : Mem) | rt (v : Val) (M : Mem) | ex (e : Exc) (ρ : Slots) (M : Mem) | bad
def Out.toS {α : Type} (ρ : Slots) : Out α → (α → Mem → OutS) → OutS
  | .ok a M, f => f a M
  | .exc e M, _ => .ex e ρ M
  | .bad, _ => .bad
@[simp] theorem Out.toS_ok {α : Type} (ρ : Slots) (a : α) (M : Mem) (f : α → Mem → OutS) : (Out.ok a M).toS ρ f = f a M := (rfl)
@[simp] theorem Out.toS_exc {α : Type} (ρ : Slots) (e : Exc) (M : Mem) (f : α → Mem → OutS) : (Out.exc e M : Out α).toS ρ f = .ex e ρ M := (rfl)
@[simp] theorem Out.toS_bad {α : Type} (ρ : Slots) (f : α → Mem → OutS) : (Out.bad : Out α).toS ρ f = .bad := (rfl)
def OutS.seq : OutS → (Slots → Mem → OutS) → OutS
  | .nx ρ M, f => f ρ M
  | .rt v M, _ => .rt v M
  | .ex e ρ M, _ => .ex e ρ M
  | .bad, _ => .bad
@[simp] theorem OutS.seq_nx (ρ : Slots) (M : Mem) (f : Slots → Mem → OutS) : (OutS.nx ρ M).seq f = f ρ M := (rfl)
@[simp] theorem OutS.seq_rt (v : Val) (M : Mem) (f : Slots → Mem → OutS) : (OutS.rt v M).seq f = .rt v M := (rfl)
@[simp] theorem OutS.seq_ex (e : Exc) (ρ : Slots) (M : Mem) (f : Slots → Mem → OutS) : (OutS.ex e ρ M).seq f = .ex e ρ M := (rfl)
@[simp] theorem OutS.seq_bad (f : Slots → Mem → OutS) : (OutS.bad).seq f = .bad := (rfl)
/-- a slot at a turn's end -/
def dangle (L : Nat) : Option Val → Option Val
  | some (.p k) => if k < L then some (.p k) else none
  | o => o
def cutS (tr : Bool) (L : Nat) (ρ : Slots) : Slots := if tr then ρ.map (dangle L) else ρ
def cutM (tr : Bool) (L : Nat) (M : Mem) : Mem := if tr then M.take L else M
@[simp] theorem cutS_f (L : Nat) (ρ : Slots) : cutS false L ρ = ρ := (rfl)
@[simp] theorem cutM_f (L : Nat) (M : Mem) : cutM false L M = M := (rfl)
@[simp] theorem cutS_t (L : Nat) (ρ : Slots) : cutS true L ρ = ρ.map (dangle L) := (rfl)
@[simp] theorem cutM_t (L : Nat) (M : Mem) : cutM true L M = M.take L := (rfl)
open Classical in
noncomputable def guardS (g : Option Nat) (M M' : Mem) (a : OutS) : OutS := match g with
  | none => a
  | some k => if M'[k]? = M[k]? then a else .bad
@[simp] theorem guardS_n (M M' : Mem) (a : OutS) : guardS none M M' a = a := (rfl)
/-- a for's turns -/
noncomputable def foldS (g : Option Nat) (tr : Bool) (L : Nat) (f : Itm → Slots → Mem → OutS) : List Itm → Slots → Mem → OutS
  | [], ρ, M => .nx ρ M
  | x :: r, ρ, M => match f x ρ M with
    | .nx ρ' M' => guardS g M M' (foldS g tr L f r (cutS tr L ρ') (cutM tr L M'))
    | .rt v M' => .rt v M'
    | .ex e ρ' M' => .ex e ρ' M'
    | .bad => .bad
def whlF (tr : Bool) (L : Nat) (c : Slots → Mem → Out Bool) (b : Slots → Mem → OutS) : Nat → Slots → Mem → OutS
  | 0, _, _ => .bad
  | k + 1, ρ, M => (c ρ M).toS ρ fun t M' => if t then (match b ρ M' with
    | .nx ρ' M'' => whlF tr L c b k (cutS tr L ρ') (cutM tr L M'')
    | .rt v M'' => .rt v M''
    | .ex e ρ' M'' => .ex e ρ' M''
    | .bad => .bad) else .nx ρ M'
open Classical in
noncomputable def whlO (f : Nat → OutS) : OutS := if h : ∃ k, f k ≠ .bad then f (Classical.choose h) else .bad
theorem whlF_up {tr : Bool} {L : Nat} {c : Slots → Mem → Out Bool} {b : Slots → Mem → OutS} : ∀ (k : Nat) (ρ : Slots) (M : Mem), whlF tr L c b k ρ M ≠ .bad → ∀ j, k ≤ j → whlF tr L c b j ρ M = whlF tr L c b k ρ M
  | 0, ρ, M, h => absurd rfl h
  | k + 1, ρ, M, h => fun j hj => by
    cases j with
    | zero => omega
    | succ j =>
      simp only [whlF] at h ⊢
      cases hc : c ρ M with
      | exc e M' => rfl
      | bad => rfl
      | ok t M' =>
        rw [hc] at h
        simp only [Out.toS_ok] at h ⊢
        cases t with
        | false => rfl
        | true =>
          simp only [if_true] at h ⊢
          cases hb : b ρ M' with
          | rt v M'' => rfl
          | ex e ρ' M'' => rfl
          | bad => rfl
          | nx ρ' M'' =>
            rw [hb] at h
            exact whlF_up k _ _ h j (by omega)
theorem whlO_eq {tr : Bool} {L : Nat} {c : Slots → Mem → Out Bool} {b : Slots → Mem → OutS} {ρ : Slots} {M : Mem} {k : Nat} {o : OutS} (h : whlF tr L c b k ρ M = o) (hb : o ≠ .bad) : whlO (fun k => whlF tr L c b k ρ M) = o := by
  have hx : ∃ k, whlF tr L c b k ρ M ≠ .bad := ⟨k, by rw [h]; exact hb⟩
  unfold whlO
  rw [dif_pos hx]
  have h1 := Classical.choose_spec hx
  show whlF tr L c b (Classical.choose hx) ρ M = o
  rcases Nat.le_total k (Classical.choose hx) with hl | hl
  · rw [whlF_up k ρ M (by rw [h]; exact hb) _ hl, h]
  · rw [← whlF_up _ ρ M h1 _ hl, h]
/-- a for's turn: the target, then the body -/
def turnS (tg : Tg) (f : Slots → Mem → OutS) (x : Itm) (ρ : Slots) (M : Mem) : OutS := match asg tg x ρ with
  | some ρ' => f ρ' M
  | none => .bad
/-- an item set -/
def setIxV (M : Mem) (n : Nat) (a b v : Val) : Option Mem := match a, b with
  | .p k, .d (.int i) => match M[k]? with
    | some (.lst vs) => match ixN vs.length i with
      | some j => if mayPut n k v = true then some (M.set k (.lst (vs.set j v))) else none
      | none => none
    | some (.dict kvs) => if dkOk kvs (.int i) && decide (kvs.length < lim) && mayPut n k v then some (M.set k (.dict (kPut (.int i) v kvs))) else none
    | _ => none
  | .p k, .d x => match M[k]? with
    | some (.dict kvs) => if dkOk kvs x && decide (kvs.length < lim) && mayPut n k v then some (M.set k (.dict (kPut x v kvs))) else none
    | _ => none
  | _, _ => none
def setAllV : List Nat → List Val → Slots → Slots
  | i :: is, v :: vs, ρ => setAllV is vs (ρ.set i (some v))
  | _, _, ρ => ρ
mutual
noncomputable def evS (G : Gam) (n : Nat) (ρ : Slots) (M : Mem) : S → OutS
  | .expr e => (ev G n ρ M e).toS ρ fun _ M => .nx ρ M
  | .set i e => (ev G n ρ M e).toS ρ fun v M => .nx (ρ.set i (some v)) M
  | .setT is e => (ev G n ρ M e).toS ρ fun v M => match asg (.tup is) (.v v) ρ with
    | some ρ' => .nx ρ' M
    | none => .bad
  | .par is es => (evs G n ρ M es).toS ρ fun vs M => if vs.length = is.length then .nx (setAllV is vs ρ) M else .bad
  | .setIx a b e => (ev G n ρ M e).toS ρ fun v M => (ev G n ρ M a).toS ρ fun x M => (ev G n ρ M b).toS ρ fun y M => match setIxV M n x y v with
    | some M' => .nx ρ M'
    | none => .bad
  | .setF _ _ _ => .bad
  | .aug i o e => match ρ[i]? with
    | some (some (.d (.int x))) => (ev G n ρ M e).toS ρ fun v M => match o, v with
      | .add, .d (.int y) => .nx (ρ.set i (some (.d (.int (x + y))))) M
      | .sub, .d (.int y) => .nx (ρ.set i (some (.d (.int (x - y))))) M
      | _, _ => .bad
    | _ => .bad
  | .iff c a b => (evT G n ρ M c).toS ρ fun t M => if t then evSs G n ρ M a else evSs G n ρ M b
  | .whl tr c b => whlO fun k => whlF tr M.length (fun ρ' M' => evT G (if tr then M.length else n) ρ' M' c) (fun ρ' M' => evSs G (if tr then M.length else n) ρ' M' b) k ρ M
  | .fr tr tg it b => (evI G n ρ M it).toS ρ fun ig M => foldS ig.2 tr M.length (turnS tg fun ρ' M' => evSs G (if tr then M.length else n) ρ' M' b) ig.1 ρ M
  | .ret e => (ev G n ρ M e).toS ρ fun v M => .rt v M
  | .retN => .rt (.d .none) M
  | .raise c e => (ev G n ρ M e).toS ρ fun v M => .ex ⟨c, []⟩ ρ M
  | .pass => .nx ρ M
  | .never => .bad
  | .tryK c i j b => match evSs G n ρ M b with
    | .ex e ρ' M' => if subC e.cls c then .nx (((ρ'.set i none).set j (some (.x e.cls e.fs))).set i none) M' else .ex e ρ' M'
    | o => o
noncomputable def evSs (G : Gam) (n : Nat) (ρ : Slots) (M : Mem) : Ss → OutS
  | .nil => .nx ρ M
  | .cons s ss => (evS G n ρ M s).seq fun ρ M => evSs G n ρ M ss
end
/-- how a def gives its value: lists by value; a list as a new cell; all cells kept -/
inductive Rm | frz | cell | keep
/-- the old cells are out of sight -/
def kill : Nat → Mem → Mem
  | 0, M => M
  | n + 1, [] => []
  | n + 1, _ :: M => .dead :: kill n M
def giveV (m : Rm) (L : Nat) (v : Val) (M : Mem) : Out Val := match m, v with
  | .keep, v => .ok v M
  | .frz, .p k => if k < L then .ok (.p k) (M.take L) else match rd 3 (kill L M) (.p k) with
    | some d => .ok (.d d) (M.take L)
    | none => .bad
  | .cell, .p k => if k < L then .ok (.p k) (M.take L) else match M[k]? with
    | some (.lst vs) => if vs.all (fun v => match v with | .p j => decide (j < L) | _ => true) then .ok (.p L) (M.take L ++ [.lst vs]) else .bad
    | _ => .bad
  | _, v => .ok v (M.take L)
def endF (m : Rm) (L : Nat) : OutS → Out Val
  | .nx _ M => giveV m L (.d .none) M
  | .rt v M => giveV m L v M
  | .ex e _ M => match m with
    | .keep => .exc e M
    | _ => .exc e (M.take L)
  | .bad => .bad
def base (m : Rm) (n L : Nat) : Nat := match m with
  | .keep => n
  | _ => L
noncomputable def runF (G : Gam) (m : Rm) (ar sl : Nat) (b : Ss) : FnI where
  run := fun n as M => if as.length = ar then endF m M.length (evSs G (base m n M.length) (as.map some ++ List.replicate sl none) M b) else .bad
end Fk

/-! FkRel: how by-value states lie in the abstract heap. -/
namespace Fk
open PySem PySem.Spec PyProof.Rows L2

/-- where the classes stand; the program and the world -/
structure Cl where
  f : Nat → Addr
  P : Program
  w : World
instance : CoeFun Cl fun _ => Nat → Addr := ⟨Cl.f⟩
mutual
/-- a key as the kit has it -/
def keyN : D → Option NestedKey
  | .none => some .none
  | .int i => some (.num i)
  | .str x => some (.text x)
  | .tuple xs => (keyNs xs).map .tup
  | _ => none
def keyNs : List D → Option (List NestedKey)
  | [] => some []
  | x :: xs => (keyN x).bind fun k => (keyNs xs).map (k :: ·)
end
/-- an int or a text as the kit has it -/
def kD : Key → D
  | .inl i => .int i
  | .inr x => .str x
abbrev RowN := NestedKey × Addr × V
/-- a dict whose keys are tuples, by its own object -/
def DictN (P : Program) (w : World) (a : Addr) (L : List RowN) (h : Heap) : Prop := (a == sysModules) = false ∧ L.length ≤ sizeLine ∧ ∃ xs : List (NestedKey × Addr × Value),
  Paired (fun (p : RowN) (q : NestedKey × Addr × Value) => p.1 = q.1 ∧ p.2.1 = q.2.1 ∧ RelV p.2.2 q.2.2) L xs ∧
  ∃ o es ep, h.get? a = some o ∧ o.ExactDict ∧ o.data = .dict es ep ∧ es.toList = xs.map (entryOfKey (nestedKind P w)) ∧ (xs.map (·.1)).Nodup
/-- a tuple without a dict -/
def TupD (K : PySem.W.Frag) (F : Hp) (a : Addr) (xs : List V) : Prop := (∃ o : Obj, o.dict = none ∧ F a = some (.frz o (.tup xs))) ∨
  ∃ (o : Obj) (its : Array Value) (n : Nat), K.lookup a = some o ∧ o.dict = none ∧ o.cls = .type "tuple" ∧ o.data = .seq its n ∧ its.size ≤ sizeLine ∧ Vals xs its.toList
mutual
def IsD (K : PySem.W.Frag) (F : Hp) : V → D → Prop
  | v, .none => v = .non
  | v, .bool b => v = .bl b
  | v, .int i => v = .int i
  | v, .str x => v = .str x
  | v, .list ds => ∃ a xs, v = .ref a ∧ SqL K F a xs ∧ IsDs K F xs ds
  | v, .tuple ds => ∃ a xs, v = .ref a ∧ TupD K F a xs ∧ IsDs K F xs ds
  | _, .dict _ => False
def IsDs (K : PySem.W.Frag) (F : Hp) : List V → List D → Prop
  | [], [] => True
  | x :: xs, d :: ds => IsD K F x d ∧ IsDs K F xs ds
  | [], _ :: _ => False
  | _ :: _, [] => False
end
def HSub (F H : Hp) : Prop := ∀ a o, F a = some o → H a = some o
theorem HSub.refl (F : Hp) : HSub F F := fun _ _ e => e
theorem HSub.trans {F G H : Hp} (a : HSub F G) (b : HSub G H) : HSub F H := fun x o e => b x o (a x o e)
theorem sqT_sub {K : PySem.W.Frag} {F H : Hp} {a : Addr} {xs : List V} (s : HSub F H) (h : SqT K F a xs) : SqT K H a xs := by
  rcases h with (h | ⟨o, h⟩) | h
  · exact .inl (.inl (s _ _ h))
  · exact .inl (.inr ⟨o, s _ _ h⟩)
  · exact .inr h
theorem TupD.sq {K : PySem.W.Frag} {F H : Hp} {a : Addr} {xs : List V} (s : HSub F H) (h : TupD K F a xs) : SqT K H a xs := by
  rcases h with ⟨o, _, h⟩ | ⟨o, its, n, h1, _, h2, h3, h4, h5⟩
  · exact .inl (.inr ⟨o, s _ _ h⟩)
  · exact .inr ⟨o, its, n, h1, h2, h3, h4, h5⟩
theorem tupD_sub {K : PySem.W.Frag} {F H : Hp} {a : Addr} {xs : List V} (s : HSub F H) (h : TupD K F a xs) : TupD K H a xs := by
  rcases h with ⟨o, d, h⟩ | h
  · exact .inl ⟨o, d, s _ _ h⟩
  · exact .inr h
theorem sqL_sub {K : PySem.W.Frag} {F H : Hp} {a : Addr} {xs : List V} (s : HSub F H) (h : SqL K F a xs) : SqL K H a xs := by
  rcases h with (h | ⟨o, h⟩) | h
  · exact .inl (.inl (s _ _ h))
  · exact .inl (.inr ⟨o, s _ _ h⟩)
  · exact .inr h
mutual
theorem IsD.sub {K : PySem.W.Frag} {F H : Hp} (s : HSub F H) : ∀ (d : D) (v : V), IsD K F v d → IsD K H v d
  | .none, _, h => h
  | .bool _, _, h => h
  | .int _, _, h => h
  | .str _, _, h => h
  | .list ds, v, h => by
    simp only [IsD] at h ⊢
    obtain ⟨a, xs, e, h1, h2⟩ := h
    exact ⟨a, xs, e, sqL_sub s h1, IsDs.sub s ds xs h2⟩
  | .tuple ds, v, h => by
    simp only [IsD] at h ⊢
    obtain ⟨a, xs, e, h1, h2⟩ := h
    exact ⟨a, xs, e, tupD_sub s h1, IsDs.sub s ds xs h2⟩
  | .dict _, _, h => by simp only [IsD] at h
theorem IsDs.sub {K : PySem.W.Frag} {F H : Hp} (s : HSub F H) : ∀ (ds : List D) (vs : List V), IsDs K F vs ds → IsDs K H vs ds
  | [], [], h => h
  | [], _ :: _, h => by simp only [IsDs] at h
  | _ :: _, [], h => by simp only [IsDs] at h
  | d :: ds, v :: vs, h => by
    simp only [IsDs] at h ⊢
    exact ⟨IsD.sub s d v h.1, IsDs.sub s ds vs h.2⟩
end
/-- an exception's object -/
def Exn (a : Addr) (C : Addr) (d : Option Addr) (h : Heap) : Prop := ∃ o vs, h.get? a = some o ∧ o.cls = .ref C ∧ o.dict = d ∧ o.data = .fields vs
def FsD (K : PySem.W.Frag) (F : Hp) (fs' : List (Str × V)) (fs : List (Str × D)) : Prop := Paired (fun (p : Str × V) (q : Str × D) => p.1 = q.1 ∧ IsD K F p.2 q.2) fs' fs
/-- an error's own dict -/
def OwnD (K : PySem.W.Frag) (F : Hp) (d : Option Addr) (fs : List (Str × D)) : Prop := match d with
  | none => fs = []
  | some dd => fs ≠ [] ∧ ∃ fs', F dd = some (.xd fs') ∧ FsD K F fs' fs
/-- what is known of the class c of an error -/
structure Kc (K : PySem.W.Frag) (cl : Cl) (c : Nat) : Prop where
  ex : ExcC K (cl c)
  one : ∀ c', cl c' ≠ 0 → PySem.W.kitOne K (.ref (cl c)) (.ref (cl c')) = some (subC c c')
  exm : ∀ c', cl c' ≠ 0 → PySem.W.exmOne K (.ref (cl c)) (.ref (cl c')) = some (subC c c')
  ve : PySem.W.kitOne K (.ref (cl c)) (.type "ValueError") = some true
section
variable (K : PySem.W.Frag) (cl : Cl)
def IsV (F : Hp) (π : List Addr) : V → Val → Prop
  | v, .d x => IsD K F v x
  | v, .p k => ∃ a, π[k]? = some a ∧ v = .ref a
  | v, .x c fs => ∃ a d, v = .ref a ∧ F a = some (.ext (Exn a (cl c) d)) ∧ OwnD K F d fs ∧ Kc K cl c
abbrev IsVs (F : Hp) (π : List Addr) : List V → List Val → Prop := Paired (IsV K cl F π)
/-- an error in flight -/
def IsE (F : Hp) (cls : Value) (d : Option Addr) (e : Exc) : Prop := cls = .ref (cl e.cls) ∧ OwnD K F d e.fs ∧ Kc K cl e.cls
def FsV (F : Hp) (π : List Addr) (fs' : List (Str × V)) (fs : List (Str × Val)) : Prop := Paired (fun (p : Str × V) (q : Str × Val) => p.1 = q.1 ∧ IsV K cl F π p.2 q.2) fs' fs
def CellOk (F : Hp) (π : List Addr) (H : Hp) (a : Addr) : Cell → Prop
  | .dead => True
  | .ro vs => ∃ o xs, H a = some (.frz o (.lst xs)) ∧ IsVs K cl F π xs vs
  | .lst vs => ∃ xs, H a = some (.lst xs) ∧ IsVs K cl F π xs vs
  | .dict kvs => (∃ ks : List (Key × V), H a = some (.dK ks) ∧ Paired (fun (p : Key × V) (q : D × Val) => kD p.1 = q.1 ∧ IsV K cl F π p.2 q.2) ks kvs) ∨
      (kvs ≠ [] ∧ ∃ L : List RowN, H a = some (.ext (DictN cl.P cl.w a L)) ∧ Paired (fun (p : RowN) (q : D × Val) => keyN q.1 = some p.1 ∧ tupK q.1 = true ∧ IsD K F (.ref p.2.1) q.1 ∧ IsV K cl F π p.2.2 q.2) L kvs)
  | .ins c fs => ∃ dx fs', H a = some (.ins (cl c) dx fs') ∧ FsV K cl F π fs' fs
end
def isDead : Cell → Bool
  | .dead => true
  | _ => false
def Cell.kind : Cell → Nat
  | .dead => 0
  | .ro _ => 1
  | .lst _ => 2
  | .dict _ => 3
  | .ins _ _ => 4
theorem isDead_kind {c c' : Cell} (h : c'.kind = c.kind) : isDead c' = isDead c := by
  cases c <;> cases c' <;> first | rfl | cases h
def Val.ptrs : Val → List Nat
  | .p k => [k]
  | _ => []
def Cell.ptrs : Cell → List Nat
  | .ro vs => vs.flatMap Val.ptrs
  | .lst vs => vs.flatMap Val.ptrs
  | .dict kvs => kvs.flatMap fun q => q.2.ptrs
  | .ins _ fs => fs.flatMap fun q => q.2.ptrs
  | .dead => []
/-- the first m cells name none beyond -/
def Wf (m : Nat) (M : Mem) : Prop := ∀ (k : Nat) (c : Cell), k < m → M[k]? = some c → ∀ j ∈ c.ptrs, j < m
section
variable (K : PySem.W.Frag) (cl : Cl)
structure Rel (F : Hp) (π : List Addr) (M : Mem) (H : Hp) : Prop where
  sub : HSub F H
  len : π.length = M.length
  cell : ∀ (k : Nat) (c : Cell) (a : Addr), M[k]? = some c → π[k]? = some a → isDead c = false → CellOk K cl F π H a c ∧ F a = none
  inj : ∀ (j k : Nat) (c c' : Cell) (a : Addr), M[j]? = some c → M[k]? = some c' → isDead c = false → isDead c' = false → π[j]? = some a → π[k]? = some a → j = k
/-- a lives in M -/
def Live (π : List Addr) (M : Mem) (a : Addr) : Prop := ∃ (k : Nat) (c : Cell), M[k]? = some c ∧ isDead c = false ∧ π[k]? = some a
structure Nxt (n : Nat) (F : Hp) (π : List Addr) (M : Mem) (H : Hp) (F' : Hp) (π' : List Addr) (M' : Mem) (H' : Hp) : Prop where
  rel : Rel K cl F' π' M' H'
  fsub : HSub F F'
  pre : ∃ t, π' = π ++ t
  fr : ∀ a o, H a = some o → ¬ Live π M a → H' a = some o
  new : ∀ (k : Nat) (a : Addr), M.length ≤ k → π'[k]? = some a → H a = none
  kd : ∀ (k : Nat) (c c' : Cell), M[k]? = some c → M'[k]? = some c' → c'.kind = c.kind
  wf : ∀ m, m ≤ n → Wf m M → Wf m M'
  fnew : ∀ a o, F' a = some o → F a = some o ∨ H a = none ∨ Live π M a
end
section
variable {K : PySem.W.Frag} {cl : Cl} {n : Nat} {F F' F1 F2 : Hp} {π π' π1 π2 : List Addr} {M M' M1 M2 : Mem} {H H' H1 H2 : Hp}
theorem Nxt.dd (x : Nxt K cl n F π M H F' π' M' H') (k : Nat) (c c' : Cell) (h : M[k]? = some c) (h' : M'[k]? = some c') : isDead c' = isDead c := isDead_kind (x.kd k c c' h h')
theorem OwnD.sub {d : Option Addr} {fs : List (Str × D)} (s : HSub F F') (h : OwnD K F d fs) : OwnD K F' d fs := by
  cases d with
  | none => exact h
  | some dd =>
    obtain ⟨h0, fs', h1, h2⟩ := h
    exact ⟨h0, fs', s _ _ h1, Paired.mapP h2 fun p q z => ⟨z.1, IsD.sub s _ _ z.2⟩⟩
theorem pre_get {t : List Addr} {k : Nat} {a : Addr} (h : π[k]? = some a) : (π ++ t)[k]? = some a := by
  rw [List.getElem?_append_left (List.getElem?_eq_some_iff.mp h).1]; exact h
theorem IsV.mono {v : V} {w : Val} (s : HSub F F') (p : ∃ t, π' = π ++ t) (h : IsV K cl F π v w) : IsV K cl F' π' v w := by
  cases w with
  | d x => exact IsD.sub s _ _ h
  | p k =>
    obtain ⟨a, h1, h2⟩ := h
    obtain ⟨t, rfl⟩ := p
    exact ⟨a, pre_get h1, h2⟩
  | x c fs =>
    obtain ⟨a, d, h1, h2, h3⟩ := h
    exact ⟨a, d, h1, s _ _ h2, h3.1.sub s, h3.2⟩
theorem IsVs.mono {vs : List V} {ws : List Val} (s : HSub F F') (p : ∃ t, π' = π ++ t) (h : IsVs K cl F π vs ws) : IsVs K cl F' π' vs ws :=
  Paired.mapP h fun _ _ z => z.mono s p
theorem IsE.sub {cls : Value} {d : Option Addr} {e : Exc} (s : HSub F F') (h : IsE K cl F cls d e) : IsE K cl F' cls d e := ⟨h.1, h.2.1.sub s, h.2.2⟩
theorem CellOk.there {a : Addr} {c : Cell} (h : CellOk K cl F π H a c) (hd : isDead c = false) : ∃ o, H a = some o := by
  cases c with
  | dead => cases hd
  | ro vs => obtain ⟨o, xs, e, _⟩ := h; exact ⟨_, e⟩
  | lst vs => obtain ⟨xs, e, _⟩ := h; exact ⟨_, e⟩
  | dict kvs => rcases h with ⟨ks, e, _⟩ | ⟨_, L, e, _⟩ <;> exact ⟨_, e⟩
  | ins c fs => obtain ⟨dx, fs', e, _⟩ := h; exact ⟨_, e⟩
theorem CellOk.mono {a : Addr} {c : Cell} (s : HSub F F') (p : ∃ t, π' = π ++ t) (e : ∀ o, H a = some o → H' a = some o) (h : CellOk K cl F π H a c) : CellOk K cl F' π' H' a c := by
  cases c with
  | dead => trivial
  | ro vs => obtain ⟨o, xs, h1, h2⟩ := h; exact ⟨o, xs, e _ h1, h2.mono s p⟩
  | lst vs => obtain ⟨xs, h1, h2⟩ := h; exact ⟨xs, e _ h1, h2.mono s p⟩
  | dict kvs =>
    rcases h with ⟨ks, h1, h2⟩ | ⟨h0, L, h1, h2⟩
    · exact .inl ⟨ks, e _ h1, Paired.mapP h2 fun _ _ z => ⟨z.1, z.2.mono s p⟩⟩
    · exact .inr ⟨h0, L, e _ h1, Paired.mapP h2 fun _ _ z => ⟨z.1, z.2.1, IsD.sub s _ _ z.2.2.1, z.2.2.2.mono s p⟩⟩
  | ins c fs => obtain ⟨dx, fs', h1, h2⟩ := h; exact ⟨dx, fs', e _ h1, Paired.mapP h2 fun _ _ z => ⟨z.1, z.2.mono s p⟩⟩
theorem Rel.live (r : Rel K cl F π M H) {a : Addr} (h : Live π M a) : ∃ o, H a = some o := by
  obtain ⟨k, c, h1, h2, h3⟩ := h
  exact (r.cell k c a h1 h3 h2).1.there h2
theorem Rel.nlive (r : Rel K cl F π M H) {a : Addr} (h : H a = none) : ¬ Live π M a := fun l => by
  obtain ⟨o, e⟩ := r.live l
  rw [h] at e; cases e
theorem Nxt.refl (r : Rel K cl F π M H) : Nxt K cl n F π M H F π M H :=
  ⟨r, .refl _, ⟨[], by simp⟩, fun _ _ e _ => e, fun k a hk e => by
    have := (List.getElem?_eq_some_iff.mp e).1
    rw [r.len] at this; omega, fun k c c' h h' => by rw [h] at h'; cases h'; rfl, fun _ _ w => w, fun _ _ e => .inl e⟩
theorem Nxt.le (x : Nxt K cl n F π M H F' π' M' H') (r : Rel K cl F π M H) : M.length ≤ M'.length := by
  obtain ⟨t, e⟩ := x.pre
  have h1 := x.rel.len
  rw [e, List.length_append, r.len] at h1
  omega
theorem Nxt.trans (r : Rel K cl F π M H) (a : Nxt K cl n F π M H F1 π1 M1 H1) (b : Nxt K cl n F1 π1 M1 H1 F2 π2 M2 H2) : Nxt K cl n F π M H F2 π2 M2 H2 where
  rel := b.rel
  fsub := a.fsub.trans b.fsub
  pre := by
    obtain ⟨t, rfl⟩ := a.pre
    obtain ⟨u, rfl⟩ := b.pre
    exact ⟨t ++ u, by simp⟩
  fr := fun x o e nl => by
    refine b.fr x o (a.fr x o e nl) fun ⟨k, c, h1, h2, h3⟩ => ?_
    by_cases hk : k < M.length
    · have hM : M[k]? = some M[k] := List.getElem?_eq_getElem hk
      have hd := a.dd k _ _ hM h1
      obtain ⟨t, e1⟩ := a.pre
      have hp : π[k]? = some x := by
        rw [e1, List.getElem?_append_left (by rw [r.len]; exact hk)] at h3; exact h3
      exact nl ⟨k, _, hM, by rw [← hd]; exact h2, hp⟩
    · have := a.new k x (by omega) h3
      rw [this] at e; cases e
  new := fun k x hk e => by
    by_cases hk1 : k < M1.length
    · obtain ⟨t, e1⟩ := b.pre
      have hp : π1[k]? = some x := by
        rw [e1, List.getElem?_append_left (by rw [a.rel.len]; exact hk1)] at e; exact e
      exact a.new k x hk hp
    · have h1 := b.new k x (by omega) e
      cases q : H x with
      | none => rfl
      | some o =>
        exfalso
        by_cases l : Live π M x
        · obtain ⟨j, c, h2, h3, h4⟩ := l
          have hj : j < M1.length := Nat.lt_of_lt_of_le (List.getElem?_eq_some_iff.mp h2).1 (a.le r)
          have hM : M1[j]? = some M1[j] := List.getElem?_eq_getElem hj
          have hd := a.dd j _ _ h2 hM
          obtain ⟨t, e1⟩ := a.pre
          have hp : π1[j]? = some x := by rw [e1]; exact pre_get h4
          obtain ⟨o', e'⟩ := a.rel.live ⟨j, _, hM, by rw [hd]; exact h3, hp⟩
          rw [h1] at e'; cases e'
        · have := a.fr x o q l
          rw [h1] at this; cases this
  kd := fun k c c' h h' => by
    have hj : k < M1.length := Nat.lt_of_lt_of_le (List.getElem?_eq_some_iff.mp h).1 (a.le r)
    have hM : M1[k]? = some M1[k] := List.getElem?_eq_getElem hj
    rw [b.kd k _ _ hM h', a.kd k _ _ h hM]
  wf := fun m hm w => b.wf m hm (a.wf m hm w)
  fnew := fun x o e => by
    rcases b.fnew x o e with h | h | ⟨k, c, h1, h2, h3⟩
    · exact a.fnew x o h
    · by_cases l : Live π M x
      · exact .inr (.inr l)
      · refine .inr (.inl ?_)
        cases q : H x with
        | none => rfl
        | some u =>
          have := a.fr x u q l
          rw [h] at this; cases this
    · by_cases hk : k < M.length
      · have hM : M[k]? = some M[k] := List.getElem?_eq_getElem hk
        have hd := a.dd k _ _ hM h1
        obtain ⟨t, e1⟩ := a.pre
        have hp : π[k]? = some x := by
          rw [e1, List.getElem?_append_left (by rw [r.len]; exact hk)] at h3; exact h3
        exact .inr (.inr ⟨k, _, hM, by rw [← hd]; exact h2, hp⟩)
      · exact .inr (.inl (a.new k x (by omega) h3))
end
theorem paired_at {α β : Type} {R : α → β → Prop} : ∀ {l : List α} {m : List β} {i : Nat} {b : β}, Paired R l m → m[i]? = some b → ∃ a, l[i]? = some a ∧ R a b
  | _, _, _, _, .nil, e => by simp at e
  | _, _, 0, _, .cons h _, e => by simp at e; subst e; exact ⟨_, rfl, h⟩
  | _, _, i + 1, _, .cons _ t, e => by simpa using paired_at (i := i) t (by simpa using e)
end Fk

/-! FkNxt: steps of the state, and results read against it. -/
namespace Fk
open PySem PySem.Spec PyProof.Rows L2
theorem hsub_upd {F : Hp} {p : Addr} {o : HO} (h : F p = none) : HSub F (upd F p o) := fun a u e => by
  rw [upd_ne (ne_of_none e h)]; exact e
theorem hsub_none {F H : Hp} {p : Addr} (s : HSub F H) (h : H p = none) : F p = none := by
  cases e : F p with
  | none => rfl
  | some o => rw [s _ _ e] at h; cases h
theorem hsub_both {F H : Hp} {p : Addr} {o : HO} (s : HSub F H) (h : H p = none) : HSub (upd F p o) (upd H p o) := fun a u e => by
  by_cases ha : a = p
  · subst ha; rw [upd_same] at e ⊢; exact e
  · rw [upd_ne ha] at e ⊢; exact s _ _ e
section
variable {K : PySem.W.Frag} {cl : Cl} {n : Nat} {F F' F1 F2 : Hp} {π π' π1 π2 : List Addr} {M M' M1 M2 : Mem} {H H' H1 H2 : Hp}
theorem pre_refl (π : List Addr) : ∃ t, π = π ++ t := ⟨[], by simp⟩
/-- a new frozen thing -/
theorem Nxt.newF (r : Rel K cl F π M H) {p : Addr} (o : HO) (hp : H p = none) : Nxt K cl n F π M H (upd F p o) π M (upd H p o) where
  rel := {
    sub := hsub_both r.sub hp
    len := r.len
    cell := fun k c a h1 h2 h3 => by
      obtain ⟨c1, c2⟩ := r.cell k c a h1 h2 h3
      obtain ⟨o', e⟩ := c1.there h3
      have ne : a ≠ p := ne_of_none e hp
      exact ⟨c1.mono (hsub_upd (hsub_none r.sub hp)) (pre_refl π) (fun u q => by rw [upd_ne ne]; exact q), by rw [upd_ne ne]; exact c2⟩
    inj := r.inj }
  fsub := hsub_upd (hsub_none r.sub hp)
  pre := pre_refl π
  fr := fun a u e _ => by rw [upd_ne (ne_of_none e hp)]; exact e
  new := fun k a hk e => by
    have := (List.getElem?_eq_some_iff.mp e).1
    rw [r.len] at this; omega
  kd := fun k c c' h h' => by rw [h] at h'; cases h'; rfl
  wf := fun _ _ w => w
  fnew := fun a u e => by
    by_cases ha : a = p
    · subst ha; exact .inr (.inl hp)
    · rw [upd_ne ha] at e; exact .inl e
/-- a new thing that nobody keeps -/
theorem Nxt.newP (r : Rel K cl F π M H) {p : Addr} (o : HO) (hp : H p = none) : Nxt K cl n F π M H F π M (upd H p o) where
  rel := {
    sub := fun a u e => by rw [upd_ne (ne_of_none e (hsub_none r.sub hp))]; exact r.sub _ _ e
    len := r.len
    cell := fun k c a h1 h2 h3 => by
      obtain ⟨c1, c2⟩ := r.cell k c a h1 h2 h3
      obtain ⟨o', e⟩ := c1.there h3
      exact ⟨c1.mono (.refl F) (pre_refl π) (fun u q => by rw [upd_ne (ne_of_none e hp)]; exact q), c2⟩
    inj := r.inj }
  fsub := .refl F
  pre := pre_refl π
  fr := fun a u e _ => by rw [upd_ne (ne_of_none e hp)]; exact e
  new := fun k a hk e => by
    have := (List.getElem?_eq_some_iff.mp e).1
    rw [r.len] at this; omega
  kd := fun k c c' h h' => by rw [h] at h'; cases h'; rfl
  wf := fun _ _ w => w
  fnew := fun a u e => .inl e
/-- a private new thing: neither frozen nor a cell -/
def Priv (F : Hp) (π : List Addr) (M : Mem) (D : Addr) : Prop := F D = none ∧ ¬ Live π M D
theorem Priv.next {D : Addr} (x : Nxt K cl n F π M H F' π' M' H') (p : Priv F π M D) (h : ∃ o, H D = some o) (r : Rel K cl F π M H) : Priv F' π' M' D := by
  obtain ⟨o, ho⟩ := h
  constructor
  · cases e : F' D with
    | none => rfl
    | some u =>
      rcases x.fnew D u e with q | q | q
      · rw [p.1] at q; cases q
      · rw [ho] at q; cases q
      · exact (p.2 q).elim
  · rintro ⟨k, c, h1, h2, h3⟩
    by_cases hk : k < M.length
    · have hM : M[k]? = some M[k] := List.getElem?_eq_getElem hk
      have hd := x.dd k _ _ hM h1
      obtain ⟨t, e1⟩ := x.pre
      have hp : π[k]? = some D := by
        rw [e1, List.getElem?_append_left (by rw [r.len]; exact hk)] at h3; exact h3
      exact p.2 ⟨k, _, hM, by rw [← hd]; exact h2, hp⟩
    · have := x.new k D (by omega) h3
      rw [ho] at this; cases this
/-- a private thing changes -/
theorem Nxt.privUpd {D : Addr} (o : HO) (x : Nxt K cl n F1 π1 M1 H1 F π M H) (p : Priv F π M D) (h1 : H1 D = none) : Nxt K cl n F1 π1 M1 H1 F π M (upd H D o) where
  rel := {
    sub := fun a u e => by rw [upd_ne (ne_of_none e p.1)]; exact x.rel.sub _ _ e
    len := x.rel.len
    cell := fun k c a h1 h2 h3 => by
      obtain ⟨c1, c2⟩ := x.rel.cell k c a h1 h2 h3
      have ne : a ≠ D := fun z => p.2 (by rw [← z]; exact ⟨k, c, h1, h3, h2⟩)
      exact ⟨c1.mono (.refl F) (pre_refl π) (fun u q => by rw [upd_ne ne]; exact q), c2⟩
    inj := x.rel.inj }
  fsub := x.fsub
  pre := x.pre
  fr := fun a u e nl => by rw [upd_ne (ne_of_none e h1)]; exact x.fr a u e nl
  new := x.new
  kd := x.kd
  wf := x.wf
  fnew := x.fnew
/-- a private list is frozen -/
theorem Nxt.privF {D : Addr} {o : HO} (x : Nxt K cl n F1 π1 M1 H1 F π M H) (p : Priv F π M D) (h1 : H1 D = none) (h : H D = some o) : Nxt K cl n F1 π1 M1 H1 (upd F D o) π M H where
  rel := {
    sub := fun a u e => by
      by_cases ha : a = D
      · subst ha; rw [upd_same] at e; rw [← e]; exact h
      · rw [upd_ne ha] at e; exact x.rel.sub _ _ e
    len := x.rel.len
    cell := fun k c a h1 h2 h3 => by
      obtain ⟨c1, c2⟩ := x.rel.cell k c a h1 h2 h3
      have ne : a ≠ D := fun z => p.2 (by rw [← z]; exact ⟨k, c, h1, h3, h2⟩)
      exact ⟨c1.mono (hsub_upd p.1) (pre_refl π) (fun u q => q), by rw [upd_ne ne]; exact c2⟩
    inj := x.rel.inj }
  fsub := x.fsub.trans (hsub_upd p.1)
  pre := x.pre
  fr := x.fr
  new := x.new
  kd := x.kd
  wf := x.wf
  fnew := fun a u e => by
    by_cases ha : a = D
    · subst ha; exact .inr (.inl h1)
    · rw [upd_ne ha] at e; exact x.fnew a u e
/-- a new cell -/
theorem Nxt.newC (r : Rel K cl F π M H) {p : Addr} {c : Cell} (hn : n ≤ M.length) (hs : HSub H H') (hp : H p = none) (hc : CellOk K cl F (π ++ [p]) H' p c) : Nxt K cl n F π M H F (π ++ [p]) (M ++ [c]) H' where
  rel := {
    sub := r.sub.trans hs
    len := by rw [List.length_append, List.length_append, r.len]; rfl
    cell := fun k c' a h1 h2 h3 => by
      by_cases hk : k < M.length
      · rw [List.getElem?_append_left hk] at h1
        rw [List.getElem?_append_left (by rw [r.len]; exact hk)] at h2
        obtain ⟨c1, c2⟩ := r.cell k c' a h1 h2 h3
        exact ⟨c1.mono (.refl F) ⟨[p], rfl⟩ (fun u q => hs _ _ q), c2⟩
      · have hk' := (List.getElem?_eq_some_iff.mp h1).1
        rw [List.length_append] at hk'
        have e : k = M.length := by simp at hk'; omega
        subst e
        rw [List.getElem?_append_right (Nat.le_refl _), Nat.sub_self] at h1
        have hl := r.len
        rw [← hl, List.getElem?_append_right (Nat.le_refl _), Nat.sub_self] at h2
        simp at h1 h2
        subst h1 h2
        exact ⟨hc, hsub_none r.sub hp⟩
    inj := fun j k c1 c2 a h1 h2 h3 h4 h5 h6 => by
      have len := r.len
      have key : ∀ (j : Nat) (c1 : Cell), (M ++ [c])[j]? = some c1 → isDead c1 = false → (π ++ [p])[j]? = some a → (j < M.length ∧ M[j]? = some c1 ∧ π[j]? = some a) ∨ (j = M.length ∧ a = p) := fun j c1 h1 h3 h5 => by
        by_cases hj : j < M.length
        · rw [List.getElem?_append_left hj] at h1
          rw [List.getElem?_append_left (by omega)] at h5
          exact .inl ⟨hj, h1, h5⟩
        · have hk' := (List.getElem?_eq_some_iff.mp h1).1
          rw [List.length_append] at hk'
          have e : j = M.length := by simp at hk'; omega
          subst e
          rw [← len, List.getElem?_append_right (Nat.le_refl _), Nat.sub_self] at h5
          simp at h5
          exact .inr ⟨rfl, h5.symm⟩
      rcases key j c1 h1 h3 h5 with ⟨a1, a2, a3⟩ | ⟨a1, a2⟩
      · rcases key k c2 h2 h4 h6 with ⟨b1, b2, b3⟩ | ⟨b1, b2⟩
        · exact r.inj j k c1 c2 a a2 b2 h3 h4 a3 b3
        · obtain ⟨o, e⟩ := r.live ⟨j, c1, a2, h3, a3⟩
          rw [b2, hp] at e; cases e
      · rcases key k c2 h2 h4 h6 with ⟨b1, b2, b3⟩ | ⟨b1, b2⟩
        · obtain ⟨o, e⟩ := r.live ⟨k, c2, b2, h4, b3⟩
          rw [a2, hp] at e; cases e
        · omega }
  fsub := .refl F
  pre := ⟨[p], rfl⟩
  fr := fun a u e _ => hs _ _ e
  new := fun k a hk e => by
    have := (List.getElem?_eq_some_iff.mp e).1
    rw [List.length_append, r.len] at this
    have q : k = M.length := by simp at this; omega
    subst q
    have hl := r.len
    rw [← hl, List.getElem?_append_right (Nat.le_refl _), Nat.sub_self] at e
    simp at e
    rw [← e]; exact hp
  kd := fun k c1 c' h h' => by
    rw [List.getElem?_append_left (List.getElem?_eq_some_iff.mp h).1, h] at h'
    cases h'; rfl
  wf := fun m hm w k c' hk h j hj => by
    rw [List.getElem?_append_left (by omega)] at h
    exact w k c' hk h j hj
  fnew := fun a u e => .inl e
/-- a private thing becomes a cell -/
theorem Nxt.privC {D : Addr} {c : Cell} (r1 : Rel K cl F1 π1 M1 H1) (x : Nxt K cl n F1 π1 M1 H1 F π M H) (hn : n ≤ M1.length) (p : Priv F π M D) (h1 : H1 D = none) (hc : CellOk K cl F (π ++ [D]) H D c) (hd : isDead c = false) : Nxt K cl n F1 π1 M1 H1 F (π ++ [D]) (M ++ [c]) H := by
  have r := x.rel
  have hle := x.le r1
  have key : ∀ (j : Nat) (c1 : Cell) (a : Addr), (M ++ [c])[j]? = some c1 → (π ++ [D])[j]? = some a → (j < M.length ∧ M[j]? = some c1 ∧ π[j]? = some a) ∨ (j = M.length ∧ a = D ∧ c1 = c) := fun j c1 a h1 h5 => by
    have len := r.len
    by_cases hj : j < M.length
    · rw [List.getElem?_append_left hj] at h1
      rw [List.getElem?_append_left (by omega)] at h5
      exact .inl ⟨hj, h1, h5⟩
    · have hk' := (List.getElem?_eq_some_iff.mp h1).1
      rw [List.length_append] at hk'
      have e : j = M.length := by simp at hk'; omega
      subst e
      rw [List.getElem?_append_right (Nat.le_refl _), Nat.sub_self] at h1
      rw [← len, List.getElem?_append_right (Nat.le_refl _), Nat.sub_self] at h5
      simp at h1 h5
      exact .inr ⟨rfl, h5.symm, h1.symm⟩
  exact {
    rel := {
      sub := r.sub
      len := by rw [List.length_append, List.length_append, r.len]; rfl
      cell := fun k c' a h1 h2 h3 => by
        rcases key k c' a h1 h2 with ⟨a1, a2, a3⟩ | ⟨a1, a2, a3⟩
        · obtain ⟨c1, c2⟩ := r.cell k c' a a2 a3 h3
          exact ⟨c1.mono (.refl F) ⟨[D], rfl⟩ (fun u q => q), c2⟩
        · subst a2 a3
          exact ⟨hc, p.1⟩
      inj := fun j k c1 c2 a h1 h2 h3 h4 h5 h6 => by
        rcases key j c1 a h1 h5 with ⟨a1, a2, a3⟩ | ⟨a1, a2, a3⟩
        · rcases key k c2 a h2 h6 with ⟨b1, b2, b3⟩ | ⟨b1, b2, b3⟩
          · exact r.inj j k c1 c2 a a2 b2 h3 h4 a3 b3
          · exact (p.2 (by rw [← b2]; exact ⟨j, c1, a2, h3, a3⟩)).elim
        · rcases key k c2 a h2 h6 with ⟨b1, b2, b3⟩ | ⟨b1, b2, b3⟩
          · exact (p.2 (by rw [← a2]; exact ⟨k, c2, b2, h4, b3⟩)).elim
          · omega }
    fsub := x.fsub
    pre := by
      obtain ⟨t, rfl⟩ := x.pre
      exact ⟨t ++ [D], by simp⟩
    fr := x.fr
    new := fun k a hk e => by
      by_cases hj : k < M.length
      · rw [List.getElem?_append_left (by rw [r.len]; exact hj)] at e
        exact x.new k a hk e
      · have := (List.getElem?_eq_some_iff.mp e).1
        rw [List.length_append, r.len] at this
        have q : k = M.length := by simp at this; omega
        subst q
        have hl := r.len
        rw [← hl, List.getElem?_append_right (Nat.le_refl _), Nat.sub_self] at e
        simp at e
        rw [← e]; exact h1
    kd := fun k c1 c' h h' => by
      have hj : k < M.length := Nat.lt_of_lt_of_le (List.getElem?_eq_some_iff.mp h).1 hle
      rw [List.getElem?_append_left hj] at h'
      exact x.kd k _ _ h h'
    wf := fun m hm w k c' hk h j hj => by
      rw [List.getElem?_append_left (by omega)] at h
      exact x.wf m hm w k c' hk h j hj
    fnew := x.fnew }
/-- a cell is written -/
theorem Nxt.setC (r : Rel K cl F π M H) {k : Nat} {a : Addr} {c c' : Cell} (hc : M[k]? = some c) (hd : isDead c = false) (hkd : c'.kind = c.kind) (ha : π[k]? = some a) (hk : ∀ b o, b ≠ a → H b = some o → H' b = some o)
    (hc' : CellOk K cl F π H' a c') (hp : (∀ j ∈ c'.ptrs, j ∈ c.ptrs) ∨ n ≤ k) : Nxt K cl n F π M H F π (M.set k c') H' := by
  have hd' : isDead c' = false := (isDead_kind hkd).trans hd
  have lt : k < M.length := (List.getElem?_eq_some_iff.mp hc).1
  have get : ∀ (j : Nat) (x : Cell), (M.set k c')[j]? = some x → (j = k ∧ x = c') ∨ (j ≠ k ∧ M[j]? = some x) := fun j x h => by
    rw [List.getElem?_set] at h
    by_cases e : k = j
    · rw [if_pos e, if_pos lt] at h
      exact .inl ⟨e.symm, (Option.some.inj h).symm⟩
    · rw [if_neg e] at h
      exact .inr ⟨fun z => e z.symm, h⟩
  have Fa := (r.cell k c a hc ha hd).2
  exact {
    rel := {
      sub := fun b o e => hk b o (fun z => by rw [z, Fa] at e; cases e) (r.sub _ _ e)
      len := by rw [List.length_set]; exact r.len
      cell := fun j x b h1 h2 h3 => by
        rcases get j x h1 with ⟨rfl, rfl⟩ | ⟨ne, h⟩
        · rw [ha] at h2; cases h2
          exact ⟨hc', Fa⟩
        · obtain ⟨c1, c2⟩ := r.cell j x b h h2 h3
          have nb : b ≠ a := fun z => by
            subst z
            exact ne (r.inj j k x c b h hc h3 hd h2 ha)
          exact ⟨c1.mono (.refl F) (pre_refl π) (fun o q => hk b o nb q), c2⟩
      inj := fun i j x y b h1 h2 h3 h4 h5 h6 => by
        rcases get i x h1 with ⟨rfl, rfl⟩ | ⟨ne, h⟩
        · rcases get j y h2 with ⟨rfl, rfl⟩ | ⟨ne', h'⟩
          · rfl
          · exact r.inj _ j c y b hc h' hd h4 h5 h6
        · rcases get j y h2 with ⟨rfl, rfl⟩ | ⟨ne', h'⟩
          · exact r.inj i _ x c b h hc h3 hd h5 h6
          · exact r.inj i j x y b h h' h3 h4 h5 h6 }
    fsub := .refl F
    pre := pre_refl π
    fr := fun b o e nl => hk b o (fun z => nl (by rw [z]; exact ⟨k, c, hc, hd, ha⟩)) e
    new := fun j b hj e => by
      have := (List.getElem?_eq_some_iff.mp e).1
      rw [r.len] at this; omega
    kd := fun j x y h h' => by
      rcases get j y h' with ⟨rfl, rfl⟩ | ⟨ne, h2⟩
      · rw [hc] at h; cases h
        exact hkd
      · rw [h] at h2; cases h2; rfl
    wf := fun m hm w j x hj h i hi => by
      rcases get j x h with ⟨rfl, rfl⟩ | ⟨ne, h2⟩
      · rcases hp with hp | hp
        · exact w j c hj hc i (hp i hi)
        · omega
      · exact w j x hj h2 i hi
    fnew := fun _ _ e => .inl e }

/-! ### results -/
section
variable (K cl)
def RV (n : Nat) (F : Hp) (π : List Addr) (M : Mem) (H : Hp) (o : Out Val) (Q : VK) (E : XK) : Prop := match o with
  | .ok v M' => ∀ F' π' H' u, Nxt K cl n F π M H F' π' M' H' → IsV K cl F' π' u v → Q u H'
  | .exc e M' => ∀ F' π' H' cls d, Nxt K cl n F π M H F' π' M' H' → IsE K cl F' cls d e → E cls d H'
  | .bad => False
def RVs (n : Nat) (F : Hp) (π : List Addr) (M : Mem) (H : Hp) (o : Out (List Val)) (Q : List V → Hp → Prop) (E : XK) : Prop := match o with
  | .ok v M' => ∀ F' π' H' u, Nxt K cl n F π M H F' π' M' H' → IsVs K cl F' π' u v → Q u H'
  | .exc e M' => ∀ F' π' H' cls d, Nxt K cl n F π M H F' π' M' H' → IsE K cl F' cls d e → E cls d H'
  | .bad => False
def RB (n : Nat) (F : Hp) (π : List Addr) (M : Mem) (H : Hp) (o : Out Bool) (Q : Bool → Hp → Prop) (E : XK) : Prop := match o with
  | .ok v M' => ∀ F' π' H', Nxt K cl n F π M H F' π' M' H' → Q v H'
  | .exc e M' => ∀ F' π' H' cls d, Nxt K cl n F π M H F' π' M' H' → IsE K cl F' cls d e → E cls d H'
  | .bad => False
end
/-- what an ok hands on -/
def Hand {α : Type} (n : Nat) (F : Hp) (π : List Addr) (M : Mem) (H : Hp) (o : Out α) (R : α → Hp → List Addr → Mem → Hp → Prop) (E : XK) : Prop := match o with
  | .ok v M' => R v F π M' H
  | .exc _ _ => True
  | .bad => False
theorem RV.trans (r : Rel K cl F π M H) (x : Nxt K cl n F π M H F1 π1 M1 H1) {o : Out Val} {Q : VK} {E : XK} (h : RV K cl n F π M H o Q E) : RV K cl n F1 π1 M1 H1 o Q E := by
  cases o with
  | ok v M' => exact fun F' π' H' u y q => h F' π' H' u (x.trans r y) q
  | exc e M' => exact fun F' π' H' c d y q => h F' π' H' c d (x.trans r y) q
  | bad => exact h
theorem RVs.trans (r : Rel K cl F π M H) (x : Nxt K cl n F π M H F1 π1 M1 H1) {o : Out (List Val)} {Q : List V → Hp → Prop} {E : XK} (h : RVs K cl n F π M H o Q E) : RVs K cl n F1 π1 M1 H1 o Q E := by
  cases o with
  | ok v M' => exact fun F' π' H' u y q => h F' π' H' u (x.trans r y) q
  | exc e M' => exact fun F' π' H' c d y q => h F' π' H' c d (x.trans r y) q
  | bad => exact h
theorem RB.trans (r : Rel K cl F π M H) (x : Nxt K cl n F π M H F1 π1 M1 H1) {o : Out Bool} {Q : Bool → Hp → Prop} {E : XK} (h : RB K cl n F π M H o Q E) : RB K cl n F1 π1 M1 H1 o Q E := by
  cases o with
  | ok v M' => exact fun F' π' H' y => h F' π' H' (x.trans r y)
  | exc e M' => exact fun F' π' H' c d y q => h F' π' H' c d (x.trans r y) q
  | bad => exact h
theorem RV.imp {o : Out Val} {Q Q' : VK} {E : XK} (h : RV K cl n F π M H o Q E) (i : ∀ u H', Q u H' → Q' u H') : RV K cl n F π M H o Q' E := by
  cases o with
  | ok v M' => exact fun F' π' H' u y q => i _ _ (h F' π' H' u y q)
  | exc e M' => exact h
  | bad => exact h
/-- a value, then more: R is any of RV, RVs, RB of what follows -/
theorem RV.bindAny {α : Type} (r : Rel K cl F π M H) {o : Out Val} {f : Val → Mem → Out α} {Q : VK} {E : XK} (R : Hp → List Addr → Mem → Hp → Out α → Prop)
    (hx : ∀ e M', R F π M H (.exc e M') → ∀ F' π' H' cls d, Nxt K cl n F π M H F' π' M' H' → IsE K cl F' cls d e → E cls d H') (hb : ¬ R F π M H .bad)
    (h : R F π M H (o.bind f)) (g : ∀ v F1 π1 M1 H1 u, Nxt K cl n F π M H F1 π1 M1 H1 → IsV K cl F1 π1 u v → R F π M H (f v M1) → Q u H1) : RV K cl n F π M H o Q E := by
  cases o with
  | ok v M' => exact fun F' π' H' u y q => g v F' π' M' H' u y q h
  | exc e M' => exact hx e M' h
  | bad => exact (hb h).elim
theorem RV.bindV (r : Rel K cl F π M H) {o : Out Val} {f : Val → Mem → Out Val} {Q Q' : VK} {E : XK} (h : RV K cl n F π M H (o.bind f) Q E)
    (g : ∀ v F1 π1 M1 H1 u, Nxt K cl n F π M H F1 π1 M1 H1 → IsV K cl F1 π1 u v → RV K cl n F1 π1 M1 H1 (f v M1) Q E → Q' u H1) : RV K cl n F π M H o Q' E :=
  RV.bindAny r (fun F π M H o => RV K cl n F π M H o Q E) (fun _ _ h => h) (fun z => z) h fun v F1 π1 M1 H1 u x q z => g v F1 π1 M1 H1 u x q (z.trans r x)
theorem RV.bindVs (r : Rel K cl F π M H) {o : Out Val} {f : Val → Mem → Out (List Val)} {Q : List V → Hp → Prop} {Q' : VK} {E : XK} (h : RVs K cl n F π M H (o.bind f) Q E)
    (g : ∀ v F1 π1 M1 H1 u, Nxt K cl n F π M H F1 π1 M1 H1 → IsV K cl F1 π1 u v → RVs K cl n F1 π1 M1 H1 (f v M1) Q E → Q' u H1) : RV K cl n F π M H o Q' E :=
  RV.bindAny r (fun F π M H o => RVs K cl n F π M H o Q E) (fun _ _ h => h) (fun z => z) h fun v F1 π1 M1 H1 u x q z => g v F1 π1 M1 H1 u x q (z.trans r x)
theorem RV.bindB (r : Rel K cl F π M H) {o : Out Val} {f : Val → Mem → Out Bool} {Q : Bool → Hp → Prop} {Q' : VK} {E : XK} (h : RB K cl n F π M H (o.bind f) Q E)
    (g : ∀ v F1 π1 M1 H1 u, Nxt K cl n F π M H F1 π1 M1 H1 → IsV K cl F1 π1 u v → RB K cl n F1 π1 M1 H1 (f v M1) Q E → Q' u H1) : RV K cl n F π M H o Q' E :=
  RV.bindAny r (fun F π M H o => RB K cl n F π M H o Q E) (fun _ _ h => h) (fun z => z) h fun v F1 π1 M1 H1 u x q z => g v F1 π1 M1 H1 u x q (z.trans r x)
theorem RVs.bindV (r : Rel K cl F π M H) {o : Out (List Val)} {f : List Val → Mem → Out Val} {Q : VK} {Q' : List V → Hp → Prop} {E : XK} (h : RV K cl n F π M H (o.bind f) Q E)
    (g : ∀ v F1 π1 M1 H1 u, Nxt K cl n F π M H F1 π1 M1 H1 → IsVs K cl F1 π1 u v → RV K cl n F1 π1 M1 H1 (f v M1) Q E → Q' u H1) : RVs K cl n F π M H o Q' E := by
  cases o with
  | ok v M' => exact fun F' π' H' u y q => g v F' π' M' H' u y q (RV.trans r y h)
  | exc e M' => exact h
  | bad => exact h
theorem RVs.bindVs (r : Rel K cl F π M H) {o : Out (List Val)} {f : List Val → Mem → Out (List Val)} {Q Q' : List V → Hp → Prop} {E : XK} (h : RVs K cl n F π M H (o.bind f) Q E)
    (g : ∀ v F1 π1 M1 H1 u, Nxt K cl n F π M H F1 π1 M1 H1 → IsVs K cl F1 π1 u v → RVs K cl n F1 π1 M1 H1 (f v M1) Q E → Q' u H1) : RVs K cl n F π M H o Q' E := by
  cases o with
  | ok v M' => exact fun F' π' H' u y q => g v F' π' M' H' u y q (RVs.trans r y h)
  | exc e M' => exact h
  | bad => exact h
theorem RB.bindV (r : Rel K cl F π M H) {o : Out Bool} {f : Bool → Mem → Out Val} {Q : VK} {Q' : Bool → Hp → Prop} {E : XK} (h : RV K cl n F π M H (o.bind f) Q E)
    (g : ∀ v F1 π1 M1 H1, Nxt K cl n F π M H F1 π1 M1 H1 → RV K cl n F1 π1 M1 H1 (f v M1) Q E → Q' v H1) : RB K cl n F π M H o Q' E := by
  cases o with
  | ok v M' => exact fun F' π' H' y => g v F' π' M' H' y (RV.trans r y h)
  | exc e M' => exact h
  | bad => exact h
theorem RB.bindB (r : Rel K cl F π M H) {o : Out Bool} {f : Bool → Mem → Out Bool} {Q Q' : Bool → Hp → Prop} {E : XK} (h : RB K cl n F π M H (o.bind f) Q E)
    (g : ∀ v F1 π1 M1 H1, Nxt K cl n F π M H F1 π1 M1 H1 → RB K cl n F1 π1 M1 H1 (f v M1) Q E → Q' v H1) : RB K cl n F π M H o Q' E := by
  cases o with
  | ok v M' => exact fun F' π' H' y => g v F' π' M' H' y (RB.trans r y h)
  | exc e M' => exact h
  | bad => exact h
/-- an end: the value as it stands -/
theorem RV.here (r : Rel K cl F π M H) {v : Val} {u : V} {Q : VK} {E : XK} (h : RV K cl n F π M H (.ok v M) Q E) (q : IsV K cl F π u v) : Q u H := h F π H u (Nxt.refl r) q
/-- a new frozen list, tuple -/
theorem RV.newD (r : Rel K cl F π M H) {v : Val} {Q : VK} {E : XK} (h : RV K cl n F π M H (.ok v M) Q E) {p : Addr} (o : HO) (hp : H p = none) (q : IsV K cl (upd F p o) π (.ref p) v) : Q (.ref p) (upd H p o) :=
  h _ π _ _ (Nxt.newF r o hp) q
theorem isDs_len : ∀ {xs : List V} {ds : List D}, IsDs K F xs ds → xs.length = ds.length
  | [], [], _ => rfl
  | [], _ :: _, h => by simp only [IsDs] at h
  | _ :: _, [], h => by simp only [IsDs] at h
  | x :: xs, d :: ds, h => by
    simp only [IsDs] at h
    simp [isDs_len h.2]
theorem isDs_get : ∀ {xs : List V} {ds : List D} {i : Nat} {d : D}, IsDs K F xs ds → ds[i]? = some d → ∃ x, xs[i]? = some x ∧ IsD K F x d
  | [], [], _, _, _, e => by simp at e
  | [], _ :: _, _, _, h, _ => by simp only [IsDs] at h
  | _ :: _, [], _, _, h, _ => by simp only [IsDs] at h
  | x :: xs, d :: ds, 0, _, h, e => by
    simp only [IsDs] at h
    simp at e; subst e
    exact ⟨x, rfl, h.1⟩
  | x :: xs, d :: ds, i + 1, d', h, e => by
    simp only [IsDs] at h
    simpa using isDs_get (i := i) h.2 (by simpa using e)
theorem isVs_of_D : ∀ {xs : List V} {ds : List D}, IsDs K F xs ds → IsVs K cl F π xs (ds.map Val.d)
  | [], [], _ => .nil
  | [], _ :: _, h => by simp only [IsDs] at h
  | _ :: _, [], h => by simp only [IsDs] at h
  | x :: xs, d :: ds, h => by
    simp only [IsDs] at h
    exact .cons h.1 (isVs_of_D h.2)
theorem isDs_of_V : ∀ {xs : List V} {vs : List Val} {ds : List D}, IsVs K cl F π xs vs → allD vs = some ds → IsDs K F xs ds
  | _, _, ds, .nil, e => by
    simp [allD] at e; subst e; simp only [IsDs]
  | _, _, ds, .cons (b := w) h t, e => by
    cases w with
    | d x =>
      simp only [allD, Option.map_eq_some_iff] at e
      obtain ⟨r, e1, rfl⟩ := e
      simp only [IsDs]
      exact ⟨h, isDs_of_V t e1⟩
    | p k => simp [allD] at e
    | x c fs => simp [allD] at e
/-- the items of a list or tuple, as they stand -/
theorem seqOf_ok (r : Rel K cl F π M H) {v : V} {w : Val} {vs : List Val} (h : IsV K cl F π v w) (e : seqOf M w = some vs) : ∃ a xs, v = .ref a ∧ (SqL K H a xs ∨ SqT K H a xs) ∧ IsVs K cl F π xs vs := by
  cases w with
  | d x =>
    cases x with
    | list ds =>
      simp only [seqOf, Option.some.injEq] at e; subst e
      simp only [IsV, IsD] at h
      obtain ⟨a, xs, rfl, h1, h2⟩ := h
      exact ⟨a, xs, rfl, .inl (sqL_sub r.sub h1), isVs_of_D h2⟩
    | tuple ds =>
      simp only [seqOf, Option.some.injEq] at e; subst e
      simp only [IsV, IsD] at h
      obtain ⟨a, xs, rfl, h1, h2⟩ := h
      exact ⟨a, xs, rfl, .inr (h1.sq r.sub), isVs_of_D h2⟩
    | none => cases e
    | bool _ => cases e
    | int _ => cases e
    | str _ => cases e
    | dict _ => cases e
  | p k =>
    obtain ⟨a, h1, rfl⟩ := h
    simp only [seqOf] at e
    cases hM : M[k]? with
    | none => rw [hM] at e; cases e
    | some c =>
      rw [hM] at e
      cases c with
      | lst ws =>
        simp only [Option.some.injEq] at e; subst e
        obtain ⟨⟨xs, g1, g2⟩, _⟩ := r.cell k _ a hM h1 rfl
        exact ⟨a, xs, rfl, .inl (.inl (.inl g1)), g2⟩
      | ro ws =>
        simp only [Option.some.injEq] at e; subst e
        obtain ⟨⟨o, xs, g1, g2⟩, _⟩ := r.cell k _ a hM h1 rfl
        exact ⟨a, xs, rfl, .inl (.inl (.inr ⟨o, g1⟩)), g2⟩
      | dead => cases e
      | dict _ => cases e
      | ins _ _ => cases e
  | x c fs => cases e
/-- a new list, as it is kept -/
theorem mkL_ok (r : Rel K cl F π M H) (hn : n ≤ M.length) {m : Md} {vs : List Val} {xs : List V} {Q : VK} {E : XK} (h : RV K cl n F π M H (mkL m vs M) Q E) (q : IsVs K cl F π xs vs) {p : Addr} (hp : H p = none) : Q (.ref p) (upd H p (.lst xs)) := by
  cases m with
  | v =>
    simp only [mkL] at h
    cases e : allD vs with
    | none => rw [e] at h; exact h.elim
    | some ds =>
      rw [e] at h
      have s : HSub F (upd F p (.lst xs)) := hsub_upd (hsub_none r.sub hp)
      refine RV.newD r h (.lst xs) hp ?_
      simp only [IsV, IsD]
      exact ⟨p, xs, rfl, .inl (.inl upd_same), IsDs.sub s _ _ (isDs_of_V q e)⟩
  | c =>
    have s : HSub H (upd H p (.lst xs)) := hsub_upd hp
    refine h F (π ++ [p]) _ _ (Nxt.newC r hn s hp ⟨xs, upd_same, q.mono (.refl F) ⟨[p], rfl⟩⟩) ⟨p, ?_, rfl⟩
    rw [← r.len, List.getElem?_append_right (Nat.le_refl _), Nat.sub_self]; rfl
end
end Fk

/-! FkDct: dicts in cells. -/
namespace Fk
open PySem PySem.Spec PyProof.Rows L2
/-! ### keys -/
mutual
theorem keyable_N : ∀ (n : Nat) (d : D), keyable n d = true → ∃ k, keyN d = some k ∧ k.depth ≤ n
  | _, .none, _ => ⟨.none, rfl, Nat.zero_le _⟩
  | _, .int i, _ => ⟨.num i, rfl, Nat.zero_le _⟩
  | _, .str x, _ => ⟨.text x, rfl, Nat.zero_le _⟩
  | 0, .tuple _, h => by simp [keyable] at h
  | n + 1, .tuple xs, h => by
    simp only [keyable] at h
    obtain ⟨ks, e, hd⟩ := keyables_N n xs h
    exact ⟨.tup ks, by simp [keyN, e], by simp only [NestedKey.depth]; omega⟩
  | _, .bool _, h => by simp [keyable] at h
  | _, .list _, h => by simp [keyable] at h
  | _, .dict _, h => by simp [keyable] at h
theorem keyables_N : ∀ (n : Nat) (ds : List D), keyableAll n ds = true → ∃ ks, keyNs ds = some ks ∧ NestedKey.depthAll ks ≤ n
  | _, [], _ => ⟨[], rfl, Nat.zero_le _⟩
  | n, d :: ds, h => by
    simp only [keyableAll, Bool.and_eq_true] at h
    obtain ⟨k, e1, h1⟩ := keyable_N n d h.1
    obtain ⟨ks, e2, h2⟩ := keyables_N n ds h.2
    exact ⟨k :: ks, by simp [keyNs, e1, e2], by simp only [NestedKey.depthAll]; omega⟩
end
theorem tupK_N {d : D} (h : tupK d = true) : ∃ k, keyN d = some k ∧ k.depth ≤ 8 := by
  cases d with
  | tuple xs =>
    obtain ⟨ks, e, hd⟩ := keyables_N 6 xs h
    exact ⟨.tup ks, by simp [keyN, e], by simp only [NestedKey.depth]; omega⟩
  | _ => cases h
mutual
theorem eqv_key : ∀ (d e : D) (k j : NestedKey), keyN d = some k → keyN e = some j → PyData.eqv d e = NestedKey.beq k j
  | .tuple xs, .tuple ys, k, j, h1, h2 => by
    simp only [keyN, Option.map_eq_some_iff] at h1 h2
    obtain ⟨ks, e1, rfl⟩ := h1
    obtain ⟨js, e2, rfl⟩ := h2
    simp only [PyData.eqv, NestedKey.beq]
    exact eqv_keys xs ys ks js e1 e2
  | .none, e, k, j, h1, h2 => by
    cases h1
    cases e <;> simp only [keyN, Option.map_eq_some_iff, Option.some.injEq, reduceCtorEq] at h2 <;> first | (subst h2; rfl) | (obtain ⟨_, _, rfl⟩ := h2; rfl)
  | .int i, e, k, j, h1, h2 => by
    cases h1
    cases e <;> simp only [keyN, Option.map_eq_some_iff, Option.some.injEq, reduceCtorEq] at h2 <;> first | (subst h2; rfl) | (obtain ⟨_, _, rfl⟩ := h2; rfl)
  | .str x, e, k, j, h1, h2 => by
    cases h1
    cases e <;> simp only [keyN, Option.map_eq_some_iff, Option.some.injEq, reduceCtorEq] at h2 <;> first | (subst h2; rfl) | (obtain ⟨_, _, rfl⟩ := h2; rfl)
  | .tuple xs, .none, k, j, h1, h2 => by
    simp only [keyN, Option.map_eq_some_iff] at h1
    obtain ⟨ks, e1, rfl⟩ := h1
    cases h2; rfl
  | .tuple xs, .int _, k, j, h1, h2 => by
    simp only [keyN, Option.map_eq_some_iff] at h1
    obtain ⟨ks, e1, rfl⟩ := h1
    cases h2; rfl
  | .tuple xs, .str _, k, j, h1, h2 => by
    simp only [keyN, Option.map_eq_some_iff] at h1
    obtain ⟨ks, e1, rfl⟩ := h1
    cases h2; rfl
  | .tuple xs, .bool _, k, j, h1, h2 => by cases h2
  | .tuple xs, .list _, k, j, h1, h2 => by cases h2
  | .tuple xs, .dict _, k, j, h1, h2 => by cases h2
  | .bool _, _, k, j, h1, h2 => by cases h1
  | .list _, _, k, j, h1, h2 => by cases h1
  | .dict _, _, k, j, h1, h2 => by cases h1
theorem eqv_keys : ∀ (ds es : List D) (ks js : List NestedKey), keyNs ds = some ks → keyNs es = some js → PyData.eqvAll ds es = NestedKey.beqAll ks js
  | [], [], ks, js, h1, h2 => by cases h1; cases h2; rfl
  | [], e :: es, ks, js, h1, h2 => by
    cases h1
    simp only [keyNs, Option.bind_eq_some_iff, Option.map_eq_some_iff] at h2
    obtain ⟨_, _, _, _, rfl⟩ := h2
    rfl
  | d :: ds, [], ks, js, h1, h2 => by
    cases h2
    simp only [keyNs, Option.bind_eq_some_iff, Option.map_eq_some_iff] at h1
    obtain ⟨_, _, _, _, rfl⟩ := h1
    rfl
  | d :: ds, e :: es, ks, js, h1, h2 => by
    simp only [keyNs, Option.bind_eq_some_iff, Option.map_eq_some_iff] at h1 h2
    obtain ⟨k, a1, ks', a2, rfl⟩ := h1
    obtain ⟨j, b1, js', b2, rfl⟩ := h2
    simp only [PyData.eqvAll, NestedKey.beqAll]
    rw [eqv_key d e k j a1 b1, eqv_keys ds es ks' js' a2 b2]
end
theorem eqv_dec {d e : D} {k j : NestedKey} (h1 : keyN d = some k) (h2 : keyN e = some j) : PyData.eqv d e = decide (k = j) := by
  rw [eqv_key d e k j h1 h2, NestedKey.decide_eq]
theorem eqv_kD (a b : Key) : PyData.eqv (kD a) (kD b) = decide (a = b) := by
  cases a <;> cases b <;> simp [kD, PyData.eqv, Bool.beq_eq_decide_eq]
theorem plain_kD {d : D} (h : plainK d = true) : ∃ k, kD k = d := by
  cases d with
  | int i => exact ⟨.inl i, rfl⟩
  | str x => exact ⟨.inr x, rfl⟩
  | _ => cases h
theorem kD_plain (k : Key) : plainK (kD k) = true := by cases k <;> rfl
theorem kD_tup {k : Key} : tupK (kD k) = false := by cases k <;> rfl
theorem tup_plain {d : D} (h : tupK d = true) : plainK d = false := by cases d <;> first | rfl | cases h
/-- the cell's program is the text's -/
structure Wp (cl : Cl) (X : Cx) : Prop where
  p : cl.P = X.prog
  w : cl.w = X.w
section
variable {X : Cx} {cl : Cl} {pins : List (Addr × Obj)} {σ : L2.St} {F H : Hp} {π : List Addr} {M : Mem} {s : Shared} {E : Value → Shared → Prop} {A : Around}
theorem kV_isD {K : PySem.W.Frag} {F : Hp} {y : V} {k : Key} (h : IsD K F y (kD k)) : y = kV k := by cases k <;> exact h
mutual
theorem nested_of (I : Inv X pins σ H s) (sub : HSub F H) : ∀ (d : D) (v : V) (u : Value) (k : NestedKey), IsD X.K F v d → RelV v u → keyN d = some k → NestedIs s.heap k u
  | .none, v, u, k, h, r, e => by
    cases h; cases e; cases r; exact .none
  | .int i, v, u, k, h, r, e => by
    cases h; cases e; obtain ⟨t, rfl⟩ := r; exact .int i t
  | .str x, v, u, k, h, r, e => by
    cases h; cases e; obtain ⟨t, rfl⟩ := r; exact .text x t
  | .tuple ds, v, u, k, h, r, e => by
    simp only [IsD] at h
    obtain ⟨a, xs, rfl, h1, h2⟩ := h
    simp only [keyN, Option.map_eq_some_iff] at e
    obtain ⟨ks, e1, rfl⟩ := e
    cases r
    obtain ⟨its, rv, ⟨o, ho, hc, n, hd⟩, _⟩ := I.tuple (h1.sq sub)
    exact .tup ho hc hd (by simpa using nesteds_of I sub ds xs its ks h2 rv e1)
  | .bool _, v, u, k, h, r, e => by cases e
  | .list _, v, u, k, h, r, e => by cases e
  | .dict _, v, u, k, h, r, e => by cases e
theorem nesteds_of (I : Inv X pins σ H s) (sub : HSub F H) : ∀ (ds : List D) (vs : List V) (us : List Value) (ks : List NestedKey), IsDs X.K F vs ds → Vals vs us → keyNs ds = some ks → NestedAll s.heap ks us
  | [], [], us, ks, _, r, e => by cases r; cases e; exact .nil
  | [], _ :: _, us, ks, h, r, e => by simp only [IsDs] at h
  | _ :: _, [], us, ks, h, r, e => by simp only [IsDs] at h
  | d :: ds, v :: vs, us, ks, h, r, e => by
    simp only [IsDs] at h
    simp only [keyNs, Option.bind_eq_some_iff, Option.map_eq_some_iff] at e
    obtain ⟨k, a1, ks', a2, rfl⟩ := e
    cases r with
    | cons r1 r2 => exact .cons (nested_of I sub d v _ k h.1 r1 a1) (nesteds_of I sub ds vs _ ks' h.2 r2 a2)
end
theorem key_is (I : Inv X pins σ H s) (sub : HSub F H) {d : D} {v : V} {u : Value} {k : NestedKey} (h : IsD X.K F v d) (r : RelV v u) (e : keyN d = some k) (ht : tupK d = true) : ∃ b, v = .ref b ∧ u = .ref b ∧ (nestedKind X.prog X.w).is s.heap k b := by
  have q := nested_of I sub d v u k h r e
  obtain ⟨k', e', hd⟩ := tupK_N ht
  rw [e] at e'; cases e'
  cases d with
  | tuple ds =>
    simp only [IsD] at h
    obtain ⟨a, xs, rfl, h1, h2⟩ := h
    cases r
    exact ⟨a, rfl, rfl, q, hd⟩
  | _ => cases ht
theorem nodupH {K : Type} [DecidableEq K] {L : List (K × Addr × V)} {xs : List (K × Addr × Value)} (r : Paired (fun p q => p.1 = q.1 ∧ p.2.1 = q.2.1 ∧ RelV p.2.2 q.2.2) L xs) : L.map (·.1) = xs.map (·.1) := by
  induction r with
  | nil => rfl
  | cons a t ih => rw [List.map_cons, List.map_cons, a.1, ih]
/-- a dict of tuples, as the kit has it -/
theorem dictN_h (I : Inv X pins σ H s) (sub : HSub F H) {a : Addr} {L : List RowN} {kvs : List (D × Val)} (ha : H a = some (.ext (DictN X.prog X.w a L)))
    (hr : Paired (fun (p : RowN) (q : D × Val) => keyN q.1 = some p.1 ∧ tupK q.1 = true ∧ IsD X.K F (.ref p.2.1) q.1 ∧ IsV X.K cl F π p.2.2 q.2) L kvs) :
    (a == sysModules) = false ∧ L.length ≤ sizeLine ∧ ∃ xs : List (NestedKey × Addr × Value), Paired (fun (p : RowN) (q : NestedKey × Addr × Value) => p.1 = q.1 ∧ p.2.1 = q.2.1 ∧ RelV p.2.2 q.2.2) L xs ∧ s.heap.DictOfH (nestedKind X.prog X.w) a xs := by
  obtain ⟨⟨q1, q2, xs, q3, o, es, ep, g1, g2, g3, g4, g5⟩, _⟩ := I.hok a _ ha
  refine ⟨q1, q2, xs, q3, o, es, ep, g1, g2, g3, g4, fun x hx => ?_, g5⟩
  obtain ⟨i, hi⟩ := List.getElem?_of_mem hx
  obtain ⟨p, hp, e1, e2, _⟩ := paired_at q3 hi
  have hp2 : ∃ q, kvs[i]? = some q ∧ keyN q.1 = some p.1 ∧ tupK q.1 = true ∧ IsD X.K F (.ref p.2.1) q.1 := by
    have hl := hr.length
    have hlt : i < kvs.length := by rw [← hl]; exact (List.getElem?_eq_some_iff.mp hp).1
    obtain ⟨p', hp', z⟩ := paired_at hr (List.getElem?_eq_getElem hlt)
    rw [hp] at hp'; cases hp'
    exact ⟨_, List.getElem?_eq_getElem hlt, z.1, z.2.1, z.2.2.1⟩
  obtain ⟨q, _, z1, z2, z3⟩ := hp2
  obtain ⟨b, eb, _, kb⟩ := key_is I sub z3 (u := .ref p.2.1) rfl z1 z2
  cases eb
  rw [← e1, ← e2]
  exact kb
/-- an empty dict is one of tuples, too -/
theorem emptyH (I : Inv X pins σ H s) {a : Addr} (ha : H a = some (.dK [])) : (a == sysModules) = false ∧ s.heap.DictOfH (nestedKind X.prog X.w) a [] := by
  obtain ⟨_, hd, vs, rel, o, es, ep, g1, g2, g3, g4, g5, g6⟩ := dk_of I.hok ha
  cases rel
  have e0 : es.toList = [] := by
    generalize es.toList = l at g5
    cases g5; rfl
  exact ⟨hd, o, es, ep, g1, g2, g3, (by rw [e0]; rfl), (fun x hx => nomatch hx), List.nodup_nil⟩
/-- what is looked up -/
def OptV (K : PySem.W.Frag) (cl : Cl) (F : Hp) (π : List Addr) : Option V → Option Val → Prop
  | none, none => True
  | some v, some w => IsV K cl F π v w
  | _, _ => False
theorem lookK {K : PySem.W.Frag} {kvs : List (D × Val)} {ks : List (Key × V)} (h : Paired (fun (p : Key × V) (q : D × Val) => kD p.1 = q.1 ∧ IsV K cl F π p.2 q.2) ks kvs) (k : Key) : OptV K cl F π (valV ks k) (kLook (kD k) kvs) := by
  induction h with
  | nil => trivial
  | @cons p q ps qs a t ih =>
    obtain ⟨d, w⟩ := q
    obtain ⟨a1, a2⟩ := a
    simp only at a1 a2
    subst a1
    by_cases e : p.1 = k
    · have z : PyData.eqv (kD p.1) (kD k) = true := by rw [eqv_kD]; simp [e]
      rw [valV_pos e]; simp only [kLook, z, if_true]; exact a2
    · have z : PyData.eqv (kD p.1) (kD k) = false := by rw [eqv_kD]; simp [e]
      rw [valV_neg e]; simp only [kLook, z]; exact ih
theorem lookN {K : PySem.W.Frag} {kvs : List (D × Val)} {L : List RowN} (h : Paired (fun (p : RowN) (q : D × Val) => keyN q.1 = some p.1 ∧ tupK q.1 = true ∧ IsD K F (.ref p.2.1) q.1 ∧ IsV K cl F π p.2.2 q.2) L kvs) {xs : List (NestedKey × Addr × Value)}
    (r : Paired (fun (p : RowN) (q : NestedKey × Addr × Value) => p.1 = q.1 ∧ p.2.1 = q.2.1 ∧ RelV p.2.2 q.2.2) L xs) {d : D} {k : NestedKey} (e : keyN d = some k) :
    (atKey xs k = none ∧ kLook d kvs = none) ∨ ∃ p v w, atKey xs k = some p ∧ kLook d kvs = some w ∧ RelV v p.2 ∧ IsV K cl F π v w := by
  induction h generalizing xs with
  | nil => cases r; exact .inl ⟨rfl, rfl⟩
  | @cons p q ps qs a t ih =>
    cases r with
    | @cons _ x _ xs' b r' =>
      obtain ⟨kd, w⟩ := q
      obtain ⟨xk, xa, xv⟩ := x
      obtain ⟨a1, _, _, a4⟩ := a
      obtain ⟨b1, b2, b3⟩ := b
      simp only at a1 a4 b1 b2 b3
      by_cases z : p.1 = k
      · have z' : xk = k := b1.symm.trans z
        have ez : PyData.eqv kd d = true := by rw [eqv_dec a1 e]; simp [z]
        refine .inr ⟨(xa, xv), p.2.2, w, by simp [atKey, List.find?_cons, z'], by simp [kLook, ez], b3, a4⟩
      · have z' : ¬ xk = k := fun y => z (b1.trans y)
        have ez : PyData.eqv kd d = false := by rw [eqv_dec a1 e]; simp [z]
        have e1 : atKey ((xk, xa, xv) :: xs') k = atKey xs' k := by simp [atKey, List.find?_cons, z']
        have e2 : kLook d ((kd, w) :: qs) = kLook d qs := by simp [kLook, ez]
        rw [e1, e2]
        exact ih r'
/-- a dict asked -/
inductive Asked (X : Cx) (cl : Cl) (F : Hp) (π : List Addr) (H : Hp) (s : Shared) (a : Addr) (y : V) (u : Value) (o : Option Val) : Prop
  | k (o' : Option V) (g : DGet H a y o') (h : OptV X.K cl F π o' o)
  | n (b : Addr) (k : NestedKey) (xs : List (NestedKey × Addr × Value)) (ey : y = .ref b) (eu : u = .ref b) (hk : (nestedKind X.prog X.w).is s.heap k b) (hd : (a == sysModules) = false) (hx : s.heap.DictOfH (nestedKind X.prog X.w) a xs)
      (h : (atKey xs k = none ∧ o = none) ∨ ∃ p v w, atKey xs k = some p ∧ o = some w ∧ RelV v p.2 ∧ IsV X.K cl F π v w)
theorem asked (I : Inv X pins σ H s) (r : Rel X.K cl F π M H) (wp : Wp cl X) {k : Nat} {a : Addr} {kvs : List (D × Val)} {d : D} {y : V} {u : Value} (hM : M[k]? = some (.dict kvs)) (hk : π[k]? = some a) (hy : IsD X.K F y d) (ry : RelV y u) (ok : dkOk kvs d = true) :
    Asked X cl F π H s a y u (kLook d kvs) := by
  obtain ⟨c, _⟩ := r.cell k _ a hM hk rfl
  simp only [dkOk, Bool.or_eq_true, Bool.and_eq_true, List.all_eq_true] at ok
  rcases c with ⟨ks, h1, h2⟩ | ⟨h0, L, h1, h2⟩
  · rcases ok with ⟨o1, o2⟩ | ⟨o1, o2⟩
    · obtain ⟨key, rfl⟩ := plain_kD o1
      have ey := kV_isD hy
      subst ey
      exact .k _ (DGet.k h1) (lookK h2 key)
    · have e0 : kvs = [] := by
        cases h2 with
        | nil => rfl
        | @cons p q ps qs z t =>
          have := o2 q List.mem_cons_self
          rw [← z.1, kD_tup] at this; cases this
      subst e0
      cases h2
      obtain ⟨hd, hx⟩ := emptyH I h1
      obtain ⟨kk, e, _⟩ := tupK_N o1
      obtain ⟨b, e1, e2, hb⟩ := key_is I r.sub hy ry e o1
      exact .n b kk [] e1 e2 hb hd hx (.inl ⟨rfl, rfl⟩)
  · rcases ok with ⟨o1, o2⟩ | ⟨o1, o2⟩
    · exfalso
      cases h2 with
      | nil => exact h0 rfl
      | @cons p q ps qs z t =>
        have := o2 q List.mem_cons_self
        rw [tup_plain z.2.1] at this; cases this
    · rw [wp.p, wp.w] at h1
      obtain ⟨hd, _, xs, hx1, hx2⟩ := dictN_h I r.sub h1 h2
      obtain ⟨kk, e, _⟩ := tupK_N o1
      obtain ⟨b, e1, e2, hb⟩ := key_is I r.sub hy ry e o1
      exact .n b kk xs e1 e2 hb hd hx2 (lookN h2 hx1 e)
theorem dct_exact (I : Inv X pins σ H s) (r : Rel X.K cl F π M H) (wp : Wp cl X) {k : Nat} {a : Addr} {kvs : List (D × Val)} (hM : M[k]? = some (.dict kvs)) (hk : π[k]? = some a) : ∃ o, s.heap.get? a = some o ∧ o.ExactDict := by
  obtain ⟨c, _⟩ := r.cell k _ a hM hk rfl
  rcases c with ⟨ks, h1, h2⟩ | ⟨h0, L, h1, h2⟩
  · obtain ⟨_, _, vs, _, o, _, _, g1, g2, _⟩ := dk_of I.hok h1
    exact ⟨o, g1, g2⟩
  · rw [wp.p, wp.w] at h1
    obtain ⟨⟨_, _, _, _, o, _, _, g1, g2, _⟩, _⟩ := I.hok a _ h1
    exact ⟨o, g1, g2⟩
theorem dct_typeIs (I : Inv X pins σ H s) (r : Rel X.K cl F π M H) (wp : Wp cl X) {k : Nat} {a : Addr} {kvs : List (D × Val)} (hM : M[k]? = some (.dict kvs)) (hk : π[k]? = some a) : s.TypeIs (.ref a) "dict" := by
  obtain ⟨o, g1, g2⟩ := dct_exact I r wp hM hk
  exact ⟨o, g1, g2.1⟩
theorem roomN (hu : A.units + 65 < cLine) : (nestedKind X.prog X.w).room A.in1 := by
  show A.units + 1 + 8 < cLine
  omega
theorem optV_some {K : PySem.W.Frag} {o : Option V} {o' : Option Val} (h : OptV K cl F π o o') : o.isSome = o'.isSome := by
  cases o <;> cases o' <;> first | rfl | cases h
theorem dct_in {Q : Value → Shared → Prop} (hu : A.units + 65 < cLine) (I : Inv X pins σ H s) {a : Addr} {y : V} {u : Value} {o : Option Val} (g : Asked X cl F π H s a y u o) (ry : RelV y u) (h : ∀ s', Inv X pins σ H s' → Q (.bool o.isSome) s') :
    wpAny (model X.prog X.w) A (compareOp .In u (.ref a)) Q E s := by
  cases g with
  | k o' g hh => exact d_in (by omega) I g ry fun s' I' => by rw [optV_some hh]; exact h s' I'
  | n b k xs ey eu hk hd hx hh =>
    subst eu
    refine in_keyed (roomN hu) hk hd ⟨xs, hx, rfl⟩ ?_
    have e : (valueAt (pairsH xs) k).isSome = o.isSome := by
      rw [valueAt_pairsH]
      rcases hh with ⟨e1, e2⟩ | ⟨p, v, w, e1, e2, _⟩ <;> rw [e1, e2] <;> rfl
    rw [e]
    exact h _ (I.tok _)
theorem dct_notIn {Q : Value → Shared → Prop} (hu : A.units + 65 < cLine) (I : Inv X pins σ H s) {a : Addr} {y : V} {u : Value} {o : Option Val} (g : Asked X cl F π H s a y u o) (ry : RelV y u) (h : ∀ s', Inv X pins σ H s' → Q (.bool (!o.isSome)) s') :
    wpAny (model X.prog X.w) A (compareOp .NotIn u (.ref a)) Q E s := by
  cases g with
  | k o' g hh => exact d_notIn (by omega) I g ry fun s' I' => by rw [optV_some hh]; exact h s' I'
  | n b k xs ey eu hk hd hx hh =>
    subst eu
    refine notIn_keyed (roomN hu) hk hd ⟨xs, hx, rfl⟩ ?_
    have e : (valueAt (pairsH xs) k).isSome = o.isSome := by
      rw [valueAt_pairsH]
      rcases hh with ⟨e1, e2⟩ | ⟨p, v, w, e1, e2, _⟩ <;> rw [e1, e2] <;> rfl
    rw [e]
    exact h _ (I.tok _)
theorem dct_item {Q : Value → Shared → Prop} (hu : A.units + 65 < cLine) (I : Inv X pins σ H s) {a : Addr} {y : V} {u : Value} {w : Val} (g : Asked X cl F π H s a y u (some w)) (ry : RelV y u) (h : ∀ v w' s', Inv X pins σ H s' → RelV v w' → IsV X.K cl F π v w → Q w' s') :
    wpAny (model X.prog X.w) A (getItem (.ref a) u) Q E s := by
  cases g with
  | k o' g hh =>
    cases o' with
    | none => exact hh.elim
    | some v => exact d_getItem (by omega) I g ry fun w' s' I' rv => h v w' s' I' rv hh
  | n b k xs ey eu hk hd hx hh =>
    subst eu
    rcases hh with ⟨_, e2⟩ | ⟨p, v, w2, e1, e2, rv, iv⟩
    · cases e2
    · cases e2
      exact getItem_keyed (roomN hu) hk ⟨xs, hx, rfl⟩ (by rw [valueAt_pairsH, e1]; rfl) (h v _ _ (I.tok _) rv iv)
theorem dct_get1 {Q : Value → Shared → Prop} (hu : A.units + 65 < cLine) (I : Inv X pins σ H s) {a : Addr} {y : V} {u : Value} {o : Option Val} (g : Asked X cl F π H s a y u o) (ry : RelV y u)
    (h : ∀ v w' s', Inv X pins σ H s' → RelV v w' → IsV X.K cl F π v (o.getD (.d .none)) → Q w' s') : wpAny (model X.prog X.w) A (call (.builtin "dict.get") [.ref a, u]) Q E s := by
  cases g with
  | k o' g hh =>
    refine d_get1 (by omega) I g ry fun w' s' I' rv => ?_
    cases o' <;> cases o <;> first | exact hh.elim | skip
    · exact h .non w' s' I' rv rfl
    · exact h _ w' s' I' rv hh
  | n b k xs ey eu hk hd hx hh =>
    subst eu
    refine get_keyed (roomN hu) hk hd ⟨xs, hx, rfl⟩ ?_
    rw [valueAt_pairsH]
    rcases hh with ⟨e1, rfl⟩ | ⟨p, v, w, e1, rfl, rv, iv⟩
    · rw [e1]; exact h .non _ _ (I.tok _) rfl rfl
    · rw [e1]; exact h v _ _ (I.tok _) rv iv
theorem dct_get2 {Q : Value → Shared → Prop} (hu : A.units + 65 < cLine) (I : Inv X pins σ H s) {a : Addr} {y z : V} {u t : Value} {o : Option Val} {zv : Val} (g : Asked X cl F π H s a y u o) (ry : RelV y u) (rz : RelV z t) (hz : IsV X.K cl F π z zv)
    (h : ∀ v w' s', Inv X pins σ H s' → RelV v w' → IsV X.K cl F π v (o.getD zv) → Q w' s') : wpAny (model X.prog X.w) A (call (.builtin "dict.get") [.ref a, u, t]) Q E s := by
  cases g with
  | k o' g hh =>
    refine d_get2 (by omega) I g ry rz fun w' s' I' rv => ?_
    cases o' <;> cases o <;> first | exact hh.elim | skip
    · exact h z w' s' I' rv hz
    · exact h _ w' s' I' rv hh
  | n b k xs ey eu hk hd hx hh =>
    subst eu
    refine getOr_keyed (roomN hu) hk hd ⟨xs, hx, rfl⟩ ?_
    rw [valueAt_pairsH]
    rcases hh with ⟨e1, rfl⟩ | ⟨p, v, w, e1, rfl, rv, iv⟩
    · rw [e1]; exact h z _ _ (I.tok _) rz hz
    · rw [e1]; exact h v _ _ (I.tok _) rv iv
/-! ### d[k] = v -/
theorem putK_ok {K : PySem.W.Frag} {kvs : List (D × Val)} {ks : List (Key × V)} (h : Paired (fun (p : Key × V) (q : D × Val) => kD p.1 = q.1 ∧ IsV K cl F π p.2 q.2) ks kvs) (hn : (ks.map (·.1)).Nodup) (k : Key) {v : V} {w : Val} (hv : IsV K cl F π v w) :
    Paired (fun (p : Key × V) (q : D × Val) => kD p.1 = q.1 ∧ IsV K cl F π p.2 q.2) (putK ks k v) (kPut (kD k) w kvs) := by
  have gen : ∀ {ks : List (Key × V)} {kvs : List (D × Val)}, Paired (fun (p : Key × V) (q : D × Val) => kD p.1 = q.1 ∧ IsV K cl F π p.2 q.2) ks kvs → (∀ p ∈ ks, p.1 ≠ k) →
      ks.map (fun kv => if kv.1 = k then (kv.1, v) else kv) = ks := fun {ks kvs} h hne => by
    refine (List.map_congr_left fun p hp => ?_).trans (List.map_id _)
    rw [if_neg (hne p hp)]; rfl
  unfold putK
  rw [valV_any]
  induction h with
  | nil => exact .cons ⟨rfl, hv⟩ .nil
  | @cons p q ps qs a t ih =>
    obtain ⟨d, w0⟩ := q
    obtain ⟨a1, a2⟩ := a
    simp only at a1 a2
    subst a1
    rw [List.map_cons, List.nodup_cons] at hn
    by_cases e : p.1 = k
    · have z : PyData.eqv (kD p.1) (kD k) = true := by rw [eqv_kD]; simp [e]
      rw [valV_pos e]
      have z2 : PyData.eqv (kD k) (kD k) = true := by rw [eqv_kD]; simp
      simp only [Option.isSome_some, if_true, kPut, z2, List.map_cons, e]
      refine .cons ⟨rfl, hv⟩ ?_
      rw [gen t fun p' hp' e' => hn.1 (by rw [e, ← e']; exact List.mem_map_of_mem hp')]
      exact t
    · have z : PyData.eqv (kD p.1) (kD k) = false := by rw [eqv_kD]; simp [e]
      rw [valV_neg e]
      have := ih hn.2
      simp only [kPut, z, Bool.false_eq_true, if_false]
      split at this
      · rename_i c
        rw [if_pos c, List.map_cons, if_neg e]
        exact .cons ⟨rfl, a2⟩ this
      · rename_i c
        rw [if_neg c, List.cons_append]
        exact .cons ⟨rfl, a2⟩ this
/-- the rows behind a store -/
def putR (L : List RowN) (k : NestedKey) (b : Addr) (v : V) : List RowN := match L with
  | [] => [(k, b, v)]
  | p :: r => if p.1 = k then (p.1, p.2.1, v) :: r else p :: putR r k b v
theorem putR_len (L : List RowN) (k : NestedKey) (b : Addr) (v : V) : (putR L k b v).length ≤ L.length + 1 := by
  induction L with
  | nil => simp [putR]
  | cons p r ih =>
    unfold putR
    split <;> simp
    omega
theorem putR_ok {K : PySem.W.Frag} {kvs : List (D × Val)} {L : List RowN} (h : Paired (fun (p : RowN) (q : D × Val) => keyN q.1 = some p.1 ∧ tupK q.1 = true ∧ IsD K F (.ref p.2.1) q.1 ∧ IsV K cl F π p.2.2 q.2) L kvs) {d : D} {k : NestedKey} {b : Addr} {v : V} {w : Val}
    (e : keyN d = some k) (ht : tupK d = true) (hb : IsD K F (.ref b) d) (hv : IsV K cl F π v w) :
    Paired (fun (p : RowN) (q : D × Val) => keyN q.1 = some p.1 ∧ tupK q.1 = true ∧ IsD K F (.ref p.2.1) q.1 ∧ IsV K cl F π p.2.2 q.2) (putR L k b v) (kPut d w kvs) := by
  induction h with
  | nil => exact .cons ⟨e, ht, hb, hv⟩ .nil
  | @cons p q ps qs a t ih =>
    obtain ⟨kd, w0⟩ := q
    obtain ⟨a1, a2, a3, a4⟩ := a
    simp only at a1 a2 a3 a4
    by_cases z : p.1 = k
    · have ez : PyData.eqv kd d = true := by rw [eqv_dec a1 e]; simp [z]
      simp only [putR, z, if_true, kPut, ez]
      exact .cons ⟨by rw [a1, z], a2, a3, hv⟩ t
    · have ez : PyData.eqv kd d = false := by rw [eqv_dec a1 e]; simp [z]
      simp only [putR, z, if_false, kPut, ez, Bool.false_eq_true]
      exact .cons ⟨a1, a2, a3, a4⟩ ih
theorem putR_xs {L : List RowN} {xs : List (NestedKey × Addr × Value)} (r : Paired (fun (p : RowN) (q : NestedKey × Addr × Value) => p.1 = q.1 ∧ p.2.1 = q.2.1 ∧ RelV p.2.2 q.2.2) L xs) (hn : (xs.map (·.1)).Nodup) {k : NestedKey} {b : Addr} {v : V} {u : Value} (rv : RelV v u) :
    Paired (fun (p : RowN) (q : NestedKey × Addr × Value) => p.1 = q.1 ∧ p.2.1 = q.2.1 ∧ RelV p.2.2 q.2.2) (putR L k b v) (storedH xs k b u) := by
  induction r with
  | nil => exact .cons ⟨rfl, rfl, rv⟩ .nil
  | @cons p q ps qs a t ih =>
    obtain ⟨xk, xa, xv⟩ := q
    obtain ⟨a1, a2, a3⟩ := a
    simp only at a1 a2 a3
    rw [List.map_cons, List.nodup_cons] at hn
    by_cases z : p.1 = k
    · have z' : xk = k := a1.symm.trans z
      have e1 : atKey ((xk, xa, xv) :: qs) k = some (xa, xv) := by simp [atKey, List.find?_cons, z']
      have rest : qs.map (putAt k u) = qs := by
        refine (List.map_congr_left fun x hx => ?_).trans (List.map_id _)
        have : x.1 ≠ k := fun y => hn.1 (by show xk ∈ _; rw [z', ← y]; exact List.mem_map_of_mem hx)
        simp [putAt, this]
      rw [storedH_old e1, List.map_cons, rest]
      simp only [putR, z, if_true, putAt, z']
      exact .cons ⟨rfl, a2, rv⟩ t
    · have z' : ¬ xk = k := fun y => z (a1.trans y)
      have e1 : atKey ((xk, xa, xv) :: qs) k = atKey qs k := by simp [atKey, List.find?_cons, z']
      have := ih hn.2
      unfold storedH at this ⊢
      rw [e1]
      simp only [putR, z, if_false]
      split at this
      · rename_i c
        rw [if_pos c, List.map_cons]
        exact .cons (by simp only [putAt, z', if_false]; exact ⟨a1, a2, a3⟩) this
      · rename_i c
        rw [if_neg c, List.cons_append]
        exact .cons ⟨a1, a2, a3⟩ this
theorem kPut_ne {d : D} {w : Val} : ∀ kvs : List (D × Val), kPut d w kvs ≠ []
  | [] => by simp [kPut]
  | (j, v) :: r => by simp only [kPut]; split <;> simp
theorem kPut_mem {d : D} {w : Val} {q : D × Val} : ∀ {kvs : List (D × Val)}, q ∈ kPut d w kvs → q.2 = w ∨ q ∈ kvs
  | [], h => by
    simp only [kPut, List.mem_singleton] at h
    exact .inl (by rw [h])
  | (j, v) :: r, h => by
    simp only [kPut] at h
    split at h
    · rcases List.mem_cons.mp h with e | e
      · exact .inl (by rw [e])
      · exact .inr (List.mem_cons_of_mem _ e)
    · rcases List.mem_cons.mp h with e | e
      · exact .inr (by rw [e]; exact List.mem_cons_self)
      · exact (kPut_mem e).elim .inl fun z => .inr (List.mem_cons_of_mem _ z)
theorem dct_set {Q : Unit → Shared → Prop} (hu : A.units + 65 < cLine) (I : Inv X pins σ H s) (r : Rel X.K cl F π M H) (wp : Wp cl X) {k : Nat} {a : Addr} {kvs : List (D × Val)} {d : D} {y v : V} {u t : Value} {w : Val} (hM : M[k]? = some (.dict kvs)) (hk : π[k]? = some a) (hy : IsD X.K F y d) (ry : RelV y u)
    (ok : dkOk kvs d = true) (hl : kvs.length < lim) (hv : IsV X.K cl F π v w) (rv : RelV v t)
    (h : ∀ H' s', Inv X pins σ H' s' → (∀ b o, b ≠ a → H b = some o → H' b = some o) → CellOk X.K cl F π H' a (.dict (kPut d w kvs)) → Q () s') : wpAny (model X.prog X.w) A (setItem (.ref a) u t) Q E s := by
  have hlim : lim = sizeLine := by rw [sizeLine_eq]; rfl
  obtain ⟨c, hF⟩ := r.cell k _ a hM hk rfl
  have up : ∀ (o : HO) (b : Addr) (z : HO), b ≠ a → H b = some z → upd H a o b = some z := fun o b z nb e => by rw [upd_ne nb]; exact e
  have storeN : ∀ (L : List RowN) (xs : List (NestedKey × Addr × Value)) (kk : NestedKey) (b : Addr), (a == sysModules) = false → s.heap.DictOfH (nestedKind X.prog X.w) a xs → Paired (fun (p : RowN) (q : NestedKey × Addr × Value) => p.1 = q.1 ∧ p.2.1 = q.2.1 ∧ RelV p.2.2 q.2.2) L xs → L.length < lim →
      (nestedKind X.prog X.w).is s.heap kk b → u = .ref b → Mut (H a) → CellOk X.K cl F π (upd H a (.ext (DictN X.prog X.w a (putR L kk b v)))) a (.dict (kPut d w kvs)) → wpAny (model X.prog X.w) A (setItem (.ref a) u t) Q E s := fun L xs kk b hd hx hr hL hb eu mu cell => by
    subst eu
    have hxs : xs.length = L.length := hr.length.symm
    have hnd : (xs.map (·.1)).Nodup := by obtain ⟨_, _, _, _, _, _, _, _, g⟩ := hx; exact g
    refine wpAny_setItem_heap (hsz := by omega) (roomN hu) hb hx fun h' hx' hs => ?_
    obtain ⟨o, es, ep, g1, g2, g3, g4, _, g5⟩ := hx'
    have ph := putR_len L kk b v
    have new : DictN X.prog X.w a (putR L kk b v) h' := ⟨hd, by omega, _, putR_xs hr hnd rv, o, es, ep, g1, g2, g3, g4, g5⟩
    refine h _ _ (d_write I mu hs ⟨o, g1⟩ (show ObjOk X.prog X.w _ h' a (.ext (DictN X.prog X.w a (putR L kk b v))) from ⟨new, ⟨o, g1⟩, fun h1 h2 q kp => ?_⟩)) (up _) cell
    obtain ⟨q1, q2, ys, q3, o', es', ep', e1, e2⟩ := q
    exact ⟨q1, q2, ys, q3, o', es', ep', kp _ e1, e2⟩
  simp only [dkOk, Bool.or_eq_true, Bool.and_eq_true, List.all_eq_true] at ok
  rcases c with ⟨ks, h1, h2⟩ | ⟨h0, L, h1, h2⟩
  · rcases ok with ⟨o1, o2⟩ | ⟨o1, o2⟩
    · obtain ⟨key, rfl⟩ := plain_kD o1
      have ey := kV_isD hy
      subst ey
      have hkl : ks.length < sizeLine := by have := h2.length; omega
      have hnd : (ks.map (·.1)).Nodup := by
        obtain ⟨_, _, vs, rel, _, _, _, _, _, _, _, _, g⟩ := dk_of I.hok h1
        rw [rel.keys]; exact g
      refine d_setItem (by omega) I (DPut.k h1 hkl) ry rv fun s' I' => h _ s' I' (up _) (.inl ⟨_, upd_same, putK_ok h2 hnd key hv⟩)
    · have e0 : kvs = [] := by
        cases h2 with
        | nil => rfl
        | @cons p q ps qs z t =>
          have := o2 q List.mem_cons_self
          rw [← z.1, kD_tup] at this; cases this
      subst e0
      cases h2
      obtain ⟨hd, hx⟩ := emptyH I h1
      obtain ⟨kk, e, _⟩ := tupK_N o1
      obtain ⟨b, e1, e2, hb⟩ := key_is I r.sub hy ry e o1
      subst e1
      refine storeN [] [] kk b hd hx .nil (by simp [lim]) hb e2 (by rw [h1]; trivial) (.inr ⟨kPut_ne _, _, ?_, putR_ok .nil e o1 hy hv⟩)
      rw [wp.p, wp.w]; exact upd_same
  · rcases ok with ⟨o1, o2⟩ | ⟨o1, o2⟩
    · exfalso
      cases h2 with
      | nil => exact h0 rfl
      | @cons p q ps qs z t =>
        have := o2 q List.mem_cons_self
        rw [tup_plain z.2.1] at this; cases this
    · have h1' := h1
      rw [wp.p, wp.w] at h1'
      obtain ⟨hd, _, xs, hx1, hx2⟩ := dictN_h I r.sub h1' h2
      obtain ⟨kk, e, _⟩ := tupK_N o1
      obtain ⟨b, e1, e2, hb⟩ := key_is I r.sub hy ry e o1
      subst e1
      refine storeN L xs kk b hd hx2 hx1 (by have := h2.length; omega) hb e2 (by rw [h1]; trivial) (.inr ⟨kPut_ne _, _, ?_, putR_ok h2 e o1 hy hv⟩)
      rw [wp.p, wp.w]; exact upd_same
/-- o[i] = v, of a list or a dict -/
def rSetA (X : Cx) (cl : Cl) : TSet := fun o i v H Q => rSetL o i v H Q ∨ ∃ (F : Hp) (π : List Addr) (M : Mem) (k : Nat) (a : Addr) (kvs : List (D × Val)) (d : D) (w : Val), o = .ref a ∧ Rel X.K cl F π M H ∧ M[k]? = some (.dict kvs) ∧ π[k]? = some a ∧ IsD X.K F i d ∧ dkOk kvs d = true ∧ kvs.length < lim ∧ IsV X.K cl F π v w ∧
  ∀ H', (∀ b o, b ≠ a → H b = some o → H' b = some o) → CellOk X.K cl F π H' a (.dict (kPut d w kvs)) → Q H'
theorem set_any (hu : X.A.units + 65 < cLine) (wp : Wp cl X) : PSet X (rSetA X cl) := by
  intro pins s σ H o i v ov iv u Q I ro ri rv h
  rcases h with h | ⟨F, π, M, k, a, kvs, d, w, rfl, r, hM, hk, hd, ok, hl, hv, q⟩
  · exact set_list pins s σ H o i v ov iv u Q I ro ri rv h
  · cases ro
    exact dct_set hu I r wp hM hk hd ri ok hl hv rv fun H' s' I' h1 h2 => ⟨H', I', q H' h1 h2⟩
/-- a new dict -/
theorem dct_new {n : Nat} {Q : VK} {E : XK} (r : Rel X.K cl F π M H) (hn : n ≤ M.length) (h : RV X.K cl n F π M H (.ok (.p M.length) (M ++ [.dict []])) Q E) {p : Addr} (hp : H p = none) : Q (.ref p) (upd H p (.dK [])) := by
  have x := Nxt.newC (c := .dict []) (n := n) r hn (hsub_upd hp) hp (.inl ⟨[], upd_same, .nil⟩)
  refine h _ _ _ _ x ⟨p, ?_, rfl⟩
  rw [← r.len, List.getElem?_append_right (Nat.le_refl _)]
  simp
end
end Fk

/-! FkRev: t[::-1], t * n for tuples. -/
namespace Fk
open PySem PySem.Spec PyProof.Rows L2
/-- a tuple's new object -/
abbrev tupO (its : List Value) : Obj := ⟨.type "tuple", none, .seq its.toArray 0, #[]⟩
theorem adj_rev (n : Nat) : Builtin.Slice.sliceAdjust none none (-1) (n : Int) = ((n : Int) - 1, -1) := by
  simp [Builtin.Slice.sliceAdjust]
theorem plc_rev (n : Nat) : Builtin.Slice.slicePlaces ((n : Int) - 1) (-1) (-1) = n := by
  simp only [Builtin.Slice.slicePlaces]
  rw [if_neg (by omega)]
  split
  · rw [show (-(-1) : Int) = 1 by omega, Int.ediv_one]; omega
  · omega
theorem fm_congr {α β : Type} {f g : α → Option β} : ∀ {l : List α}, (∀ x ∈ l, f x = g x) → l.filterMap f = l.filterMap g
  | [], _ => rfl
  | x :: r, h => by rw [List.filterMap_cons, List.filterMap_cons, h x List.mem_cons_self, fm_congr fun y hy => h y (List.mem_cons_of_mem _ hy)]
theorem pick_rev (xs : List Value) : (List.range xs.length).filterMap (fun (k : Nat) => xs.toArray[(((xs.length : Int) - 1) + (k : Int) * (-1)).toNat]?) = xs.reverse := by
  have e : ∀ k ∈ List.range xs.length, xs.toArray[(((xs.length : Int) - 1) + (k : Int) * (-1)).toNat]? = xs.reverse[k]? := fun k hk => by
    have hk := List.mem_range.mp hk
    rw [List.getElem?_reverse hk, List.getElem?_toArray]
    congr 1; omega
  rw [fm_congr e]
  apply List.ext_getElem?
  intro i
  generalize hl : xs.reverse = ys
  have hn : xs.length = ys.length := by rw [← hl, List.length_reverse]
  rw [hn]
  have key : ∀ (ys : List Value), (List.range ys.length).filterMap (fun k => ys[k]?) = ys := fun ys => by
    induction ys with
    | nil => rfl
    | cons y r ih =>
      rw [List.length_cons, List.range_succ_eq_map, List.filterMap_cons]
      simp only [List.getElem?_cons_zero, List.filterMap_map, Function.comp_def, List.getElem?_cons_succ]
      rw [ih]
  rw [key]
section
variable {P : Program} {w : World} {A : Around} {E : Value → Shared → Prop} {s : Shared}
theorem part_rev {sl : Addr} {vl vu vs : Value} {n : Nat} {Q : Int × Int × Nat → Shared → Prop} (hs : s.heap.IsSliceOf sl vl vu vs) (pl : IsPart vl none) (pu : IsPart vu none) (ps : IsPart vs (some (-1)))
    (h : Q ((n : Int) - 1, -1, n) s) : wpAny (model P w) A (Builtin.Slice.sliceApplied (.ref sl) (pure (n : Int))) Q E s := by
  obtain ⟨ob, g1, g2, g3⟩ := id hs
  unfold Builtin.Slice.sliceApplied Builtin.Slice.sliceFields
  refine wpAny_bind (wpAny_bind (wpAny_field g1 g3 (x := vl) rfl (wpAny_bind (wpAny_field g1 g3 (x := vu) rfl (wpAny_bind (wpAny_field g1 g3 (x := vs) rfl (wpAny_pure ?_)))))))
  refine wpAny_bind (HT.slicePart_ ps ?_)
  show wpAny _ _ (if ((-1 : Int) == 0) = true then _ else _) _ _ s
  rw [if_neg (by decide)]
  refine wpAny_bind (HT.slicePart_ pl (wpAny_bind (HT.slicePart_ pu (wpAny_bind (wpAny_pure ?_)))))
  show wpAny _ _ (match Builtin.Slice.sliceAdjust none none (-1) (n : Int) with | (lo, hi) => pure (lo, (-1 : Int), Builtin.Slice.slicePlaces lo hi (-1))) _ _ s
  rw [adj_rev]
  show wpAny _ _ (pure ((n : Int) - 1, (-1 : Int), Builtin.Slice.slicePlaces ((n : Int) - 1) (-1) (-1))) _ _ s
  rw [plc_rev]
  exact wpAny_pure h
theorem item_rev {t sl : Addr} {its : List Value} {vl vu vs : Value} {Q : Value → Shared → Prop} (ht : IsTup s.heap t its.toArray) (hs : s.heap.IsSliceOf sl vl vu vs) (pl : IsPart vl none) (pu : IsPart vu none) (ps : IsPart vs (some (-1)))
    (h : Q (.ref s.heap.objs.size) { s with heap := s.heap.push (tupO its.reverse) }) (hz : its.length ≤ sizeLine) : wpAny (model P w) A (getItem (.ref t) (.ref sl)) Q E s := by
  have ok : sizeOk (.seq its.reverse.toArray) := by
    show its.reverse.toArray.size ≤ sizeLine
    rw [List.size_toArray, List.length_reverse]; exact hz
  obtain ⟨ob, g1, g2, g3⟩ := id hs
  have ts : s.TypeIs (.ref sl) "slice" := ⟨ob, g1, g2⟩
  unfold getItem
  try with_reducible refine wpAny_holding ?_
  first
    | refine wpAny_bind (wpAny_pure ?_)
    | skip
  refine wpAny_bind (wpAny_sequenceKey ht.typeIs (by decide) ?_)
  refine wpAny_bind (wpAny_callSpecial?_slot (name := Str.ofString "__getitem__") ht.typeIs PyProof.Rows.slot_tuple_getitem (wpAny_call_entry PyProof.Rows.slot_tuple_getitem ht.typeIs entry_tuple_getitem ?_ (args_tuple_getitem _ _)))
  show wpAny _ _ (Builtin.Tuple.tupleItemsOf (.ref t) >>= _) _ _ s
  refine wpAny_bind (PyProof.Rows.tupleItemsOf_ ht (wpAny_bind (wpAny_typeOf ts ?_)))
  rw [if_pos (by decide)]
  refine wpAny_bind (part_rev hs pl pu ps ?_)
  have sz : its.toArray.size = its.length := List.size_toArray ..
  show wpAny _ _ (if ((((its.toArray.size : Nat) : Int) - 1) == 0 && (-1 : Int) == 1 && its.toArray.size == its.toArray.size) = true then _ else _) _ _ s
  have no : ¬ (((((its.toArray.size : Nat) : Int) - 1) == 0 && (-1 : Int) == 1 && its.toArray.size == its.toArray.size) = true) := by simp
  rw [if_neg no, sz, pick_rev]
  first
    | exact wpAny_bind (m := Builtin.Tuple.tupleExact _) (wpAny_newObj_type (wpAny_pure ⟨_, rfl, wpAny_pure h⟩) ok)
    | exact wpAny_bind (m := Builtin.Tuple.tupleExact _) (wpAny_newObj_type (wpAny_bind (wpAny_pure (wpAny_pure ⟨_, rfl, wpAny_pure h⟩))) ok)
    | exact wpAny_bind (wpAny_bind (m := Builtin.Tuple.tupleExact _) (wpAny_newObj_type (wpAny_pure (wpAny_pure ⟨_, rfl, wpAny_pure h⟩)) ok))
    | exact wpAny_bind (wpAny_bind (m := Builtin.Tuple.tupleExact _) (wpAny_newObj_type (wpAny_pure ⟨_, rfl, wpAny_pure h⟩) ok))
end
section
variable {X : Cx} {pins : List (Addr × Obj)} {σ : L2.St} {H : Hp} {s : Shared}
theorem Inv.laidT {h' : Heap} {a : Addr} {xs : List V} {its : List Value} {t' : Nat} (I : Inv X pins σ H s) (k : ∀ b u, s.heap.get? b = some u → h'.get? b = some u) (hp : s.heap.objs.size ≤ a) (hz : xs.length ≤ sizeLine) (hv : Vals xs its)
    (e : h'.get? a = some (tupO its)) : Inv X pins σ (upd H a (.frz (tupO its) (.tup xs))) { s with heap := h', toks := t' } :=
  I.laid k hp ⟨e, hz, its, hv, ⟨_, e, rfl, _, rfl⟩⟩
theorem pe_rev {e : Expr} {te : TE} {k : Nat} {p1 p2 p3 pos : Pos} (he : PE X e te) : PE X (.Subscript e (.Slice none none (some (.UnaryOp .USub (.Constant (.int 1) k p1) p2)) p3) pos)
    (fun σ H Q => te σ H fun x H1 => (∃ a xs, x = .ref a ∧ SqL X.K H1 a xs ∧ ∀ p, H1 p = none → Q (.ref p) (upd H1 p (.lst xs.reverse))) ∨ ∃ a xs, x = .ref a ∧ SqT X.K H1 a xs ∧ ∀ (p : Addr) (o : Obj), o.dict = none → H1 p = none → Q (.ref p) (upd H1 p (.frz o (.tup xs.reverse)))) := by
  refine ⟨fun pins s σ H Q I h => Subscript_ (thn (he.run pins s σ H _ I h) fun v s1 ⟨x, H1, I1, r1, q1⟩ => ?_)⟩
  have part : PO X (some (.UnaryOp .USub (.Constant (.int 1) k p1) p2)) (tPart (tUn (rU fun i => .int (-i)) (tC (.int 1)))) := po_some (pe_un un_neg pe_int)
  refine wpAny_Slice (thn (po_none.run pins s1 σ H1 (fun o H2 => o = none ∧ H2 = H1) I1 ⟨rfl, rfl⟩) fun vl s2 ⟨l, H2, I2, pl, el, e2⟩ => ?_)
  subst el e2
  refine thn (po_none.run pins s2 σ H2 (fun o H3 => o = none ∧ H3 = H2) I2 ⟨rfl, rfl⟩) fun vu s3 ⟨u, H3, I3, pu, eu, e3⟩ => ?_
  subst eu e3
  refine thn (part.run pins s3 σ H3 (fun o H4 => o = some (-1) ∧ H4 = H3) I3 ⟨1, rfl, -1, rfl, rfl, rfl⟩) fun vs s4 ⟨o, H4, I4, ps, eo, e4⟩ => ?_
  subst eo e4
  let S5 : Shared := { s4 with heap := s4.heap.push { cls := .type "slice", data := .fields #[vl, vu, vs] } }
  have I5 : Inv X pins σ H4 S5 := I4.kept (t' := s4.toks) fun b ob q => Heap.get?_push_of_some _ q
  show wpAny (model X.prog X.w) X.A (subscriptTail e (.Slice none none (some (.UnaryOp .USub (.Constant (.int 1) k p1) p2)) p3) v (.ref s4.heap.objs.size)) (EP X pins σ Q) X.xe S5
  rcases q1 with ⟨a, xs, rfl, hx, q⟩ | ⟨a, xs, rfl, hx, q⟩
  · cases r1
    obtain ⟨its, r, ht, hz⟩ := I5.list hx
    have hlen := r.length
    refine tail_any (ops := [.ref a, .ref s4.heap.objs.size]) ht.isList.typeIs PySem.slot_list_getitem.lookup ?_ (by with_unfolding_all rfl)
    refine wpAny_getItem_list_slice ht.isList (Heap.IsSliceOf.new _ vl vu vs) pl pu ps (by decide) ?_ (by rw [List.size_toArray]; omega)
    rw [PySem.W.krv_pick]
    exact ⟨.ref _, _, I5.laid (t' := s4.toks) (o := .lst xs.reverse) (fun b ob q => Heap.get?_push_of_some _ q) (Nat.le_refl _) ⟨by rw [List.length_reverse]; exact hz, _, 0, r.reverse, Heap.get?_push_size _ rfl⟩, rfl, q _ (I5.hok.fresh (Nat.le_refl _))⟩
  · cases r1
    obtain ⟨its, r, ht, hz⟩ := I5.tuple hx
    have hlen := r.length
    refine tail_any (ops := [.ref a, .ref s4.heap.objs.size]) ht.typeIs PyProof.Rows.slot_tuple_getitem.lookup ?_ (by with_unfolding_all rfl)
    refine item_rev ht (Heap.IsSliceOf.new _ vl vu vs) pl pu ps ?_ (by omega)
    exact ⟨.ref _, _, Fk.Inv.laidT (t' := s4.toks) I5 (fun b ob q => Heap.get?_push_of_some _ q) (Nat.le_refl _) (by rw [List.length_reverse]; exact hz) r.reverse (Heap.get?_push_size _ rfl), rfl, q _ _ rfl (I5.hok.fresh (Nat.le_refl _))⟩
/-- t * n -/
theorem op_repZ : OpR X (binaryOp .Mult) (fun x y H Q => ∃ (l : Addr) (k : Int) (xs : List V), x = .ref l ∧ y = .int k ∧ SqT X.K H l xs ∧ xs ≠ [] ∧ 2 ≤ k ∧ k ≤ 1000 ∧ xs.length ≤ 1000 ∧
    ∀ (p : Addr) (o : Obj), o.dict = none → H p = none → Q (.ref p) (upd H p (.frz o (.tup (List.replicate k.toNat xs).flatten)))) := by
  intro pins s σ H x y v u Q I rx ry ⟨l, k, xs, ex, ey, hT, ne, h1, h2, hz, q⟩
  subst ex ey
  cases rx
  obtain ⟨t, rfl⟩ := ry
  obtain ⟨its, r, ⟨⟨cls, dd, data, sl⟩, ho, hc, n, hd⟩, hs⟩ := I.tuple hT
  simp only at hc hd
  subst hc hd
  have len : its.length = xs.length := r.length.symm
  have some_ : its.toArray.isEmpty = false := by
    cases its with
    | nil => exact absurd (List.eq_nil_of_length_eq_zero len.symm) ne
    | cons a b => rfl
  have sz : its.toArray.size = xs.length := by rw [List.size_toArray, len]
  have small : k.toNat * xs.length ≤ 1000 * 1000 := Nat.mul_le_mul (by omega) hz
  have prod : ((its.toArray.size : Nat) : Int) * k ≤ 1000000 := by
    rw [sz]
    have : ((xs.length : Nat) : Int) * k ≤ 1000 * k := Int.mul_le_mul_of_nonneg_right (by omega) (by omega)
    omega
  have flat : (List.replicate k.toNat its).flatten.length ≤ sizeLine := by
    rw [PyProof.Rows.lm_len_rep_flat, len, sizeLine_eq]; omega
  have c0 : (decide (k < -(2 ^ 63)) || decide (k ≥ 2 ^ 63)) = false := by simp; omega
  have c1 : (its.toArray.isEmpty || k == 1) = false := by
    rw [some_]; simp; omega
  have c2 : (decide (k ≤ 0) || its.toArray.isEmpty) = false := by
    rw [some_]; simp; omega
  have c4 : Builtin.Tuple.tupleTooMany (((its.toArray.size : Nat) : Int) * k) = false := by
    unfold Builtin.Tuple.tupleTooMany
    rw [sizeLine_eq]
    simp only [decide_eq_false_iff_not]; omega
  have mul := tuple_mulW l its.toArray n dd sl k t c0 c1 c2 (by omega) c4 (by rw [size_rep, List.size_toArray]; exact flat)
  refine wpAny_binaryOp_repeat_ref (T := "tuple") (U := "int") (by decide) ⟨_, ho, rfl⟩ (fun s' => typeIs_int s' k t) noFill_tuple_mul F.fills_int_mul F.slot_int_rmul repeat_tuple F.slot_int_index.lookup ?_
  refine call_meets F.slot_int_rmul (typeIs_int s k t) F.entry_int_rmul (F.args_int_rmul_2 _ _) (int_rmul_tuple k t l its.toArray n dd sl) ⟨ho, rfl, ⟨_, ho, rfl⟩, ?_⟩
  refine call_meets F.slot_tuple_mul ⟨_, ho, rfl⟩ F.entry_tuple_mul (F.args_tuple_mul_2 _ _) mul ⟨ho, ?_⟩
  rw [size_rep]
  exact ⟨.ref s.heap.objs.size, _, Fk.Inv.laidT (t' := s.toks) I (fun b ob q => Heap.get?_push_of_some _ q) (Nat.le_refl _) (by rw [PyProof.Rows.lm_len_rep_flat, sizeLine_eq]; omega) (r.rep k.toNat) (Heap.get?_push_size _ rfl), rfl, q _ _ rfl (I.hok.fresh (Nat.le_refl _))⟩
end
end Fk

/-! FkOps: operators and comparisons, by values. -/
namespace Fk
open PySem PySem.Spec PyProof.Rows L2
theorem lim_eq : lim = sizeLine := by rw [sizeLine_eq]; rfl
section
variable {K : PySem.W.Frag} {cl : Cl} {n : Nat} {F F' : Hp} {π π' : List Addr} {M M' : Mem} {H H' : Hp}
theorem lstOf_ok (r : Rel K cl F π M H) {v : V} {w : Val} {vs : List Val} (h : IsV K cl F π v w) (e : lstOf M w = some vs) : ∃ a xs, v = .ref a ∧ SqL K H a xs ∧ IsVs K cl F π xs vs := by
  cases w with
  | d x =>
    cases x with
    | list ds =>
      simp only [lstOf, Option.some.injEq] at e; subst e
      simp only [IsV, IsD] at h
      obtain ⟨a, xs, rfl, h1, h2⟩ := h
      exact ⟨a, xs, rfl, sqL_sub r.sub h1, isVs_of_D h2⟩
    | none => cases e
    | tuple _ => cases e
    | bool _ => cases e
    | int _ => cases e
    | str _ => cases e
    | dict _ => cases e
  | p k =>
    obtain ⟨a, h1, rfl⟩ := h
    simp only [lstOf] at e
    cases hM : M[k]? with
    | none => rw [hM] at e; cases e
    | some c =>
      rw [hM] at e
      cases c with
      | lst ws =>
        simp only [Option.some.injEq] at e; subst e
        obtain ⟨⟨xs, g1, g2⟩, _⟩ := r.cell k _ a hM h1 rfl
        exact ⟨a, xs, rfl, .inl (.inl g1), g2⟩
      | ro ws => cases e
      | dead => cases e
      | dict _ => cases e
      | ins _ _ => cases e
  | x c fs => cases e
theorem isDs_append : ∀ {xs ys : List V} {ds es : List D}, IsDs K F xs ds → IsDs K F ys es → IsDs K F (xs ++ ys) (ds ++ es)
  | [], _, [], _, _, h => h
  | [], _, _ :: _, _, h, _ => by simp only [IsDs] at h
  | _ :: _, _, [], _, h, _ => by simp only [IsDs] at h
  | x :: xs, _, d :: ds, _, h, h' => by
    simp only [IsDs, List.cons_append] at h ⊢
    exact ⟨h.1, isDs_append h.2 h'⟩
theorem isDs_nil_iff {xs : List V} {ds : List D} (h : IsDs K F xs ds) : xs = [] ↔ ds = [] := by
  have := isDs_len h
  constructor
  · rintro rfl; exact List.length_eq_zero_iff.mp this.symm
  · rintro rfl; exact List.length_eq_zero_iff.mp this
theorem paired_append {α β : Type} {R : α → β → Prop} : ∀ {l₁ l₂ : List α} {m₁ m₂ : List β}, Paired R l₁ m₁ → Paired R l₂ m₂ → Paired R (l₁ ++ l₂) (m₁ ++ m₂)
  | _, _, _, _, .nil, h => h
  | _, _, _, _, .cons a t, h => .cons a (paired_append t h)
theorem paired_rep {α β : Type} {R : α → β → Prop} {l : List α} {m : List β} (h : Paired R l m) : ∀ k : Nat, Paired R (List.replicate k l).flatten (List.replicate k m).flatten
  | 0 => .nil
  | k + 1 => by
    rw [List.replicate_succ, List.replicate_succ, List.flatten_cons, List.flatten_cons]
    exact paired_append h (paired_rep h k)
theorem flat_len {α : Type} (l : List α) : ∀ k : Nat, (List.replicate k l).flatten.length = l.length * k
  | 0 => by simp
  | k + 1 => by rw [List.replicate_succ, List.flatten_cons, List.length_append, flat_len l k, Nat.mul_succ, Nat.add_comm]
def bop : BOp → Operator
  | .add => .Add | .sub => .Sub | .mul => .Mult | .fdv => .FloorDiv | .mod => .Mod | .pow => .Pow
section
variable (K cl)
/-- two values, then f -/
def rTwo (f : Nat → Mem → Val → Val → Out Val) : R2 := fun x y H Q => ∃ n F π M a b E, Rel K cl F π M H ∧ n ≤ M.length ∧ IsV K cl F π x a ∧ IsV K cl F π y b ∧ RV K cl n F π M H (f n M a b) Q E
end
theorem mulW {i j : Int} (h : mulOk i j = true) : CMulW i j ∨ CMul i j := by
  simp only [mulOk, Bool.or_eq_true, Bool.and_eq_true, decide_eq_true_eq] at h
  rcases h with (h | h) | h
  · exact .inr (.inl h)
  · exact .inr (.inr h)
  · exact .inl (wide_mul h.1 h.2 (by decide) (by decide) (by decide))
variable {X : Cx}
/-- two lists, wherever they stand -/
theorem op_catS : OpR X (binaryOp .Add) (fun x y H Q => ∃ l b xs zs, x = .ref l ∧ y = .ref b ∧ SqL X.K H l xs ∧ SqL X.K H b zs ∧ xs.length + zs.length ≤ sizeLine ∧ ∀ p, H p = none → Q (.ref p) (upd H p (.lst (xs ++ zs)))) := by
  intro pins s σ H x y v u Q I rx ry h
  obtain ⟨l, b, xs, zs, rfl, rfl, hA, hB, hz, q⟩ := h
  cases rx
  cases ry
  obtain ⟨vs, r1, ⟨⟨c1, d1, t1, s1⟩, n1, e1, rfl, _, rfl⟩, _⟩ := I.list hA
  obtain ⟨ws, r2, ⟨⟨c2, d2, t2, s2⟩, n2, e2, rfl, _, rfl⟩, _⟩ := I.list hB
  have ee : vs.toArray ++ ws.toArray = (vs ++ ws).toArray := by simp
  refine concat_meets ⟨_, e1, rfl⟩ ⟨_, e2, rfl⟩ noFill_list_add seq_list_add PySem.F.slot_list_add PySem.F.entry_list_add (PySem.F.args_list_add_2 _ _)
    (list_addW l b vs.toArray ws.toArray n1 n2 d1 d2 s1 s2 (by rw [List.size_toArray, List.size_toArray, ← r1.length, ← r2.length]; exact hz)) ⟨e1, e2, ?_⟩
  rw [ee]
  exact ⟨.ref _, _, I.lnew (t' := s.toks) (r1.append r2) (by rw [List.length_append]; exact hz), rfl, q _ I.fresh⟩
theorem vals_rep {xs : List V} {us : List Value} (h : Vals xs us) : ∀ k : Nat, Vals (List.replicate k xs).flatten (List.replicate k us).flatten
  | 0 => .nil
  | k + 1 => by
    rw [List.replicate_succ, List.replicate_succ, List.flatten_cons, List.flatten_cons]
    exact h.append (vals_rep h k)
theorem op_repS : OpR X (binaryOp .Mult) (fun x y H Q => ∃ l k xs, x = .ref l ∧ y = .int k ∧ SqL X.K H l xs ∧ -(2 ^ 63) ≤ k ∧ k < 2 ^ 63 ∧ xs.length * k.toNat ≤ sizeLine ∧ ∀ p, H p = none → Q (.ref p) (upd H p (.lst (List.replicate k.toNat xs).flatten))) := by
  intro pins s σ H x y v u Q I rx ry h
  obtain ⟨l, k, xs, rfl, rfl, hA, h1, h2, hz, q⟩ := h
  cases rx
  obtain ⟨t, rfl⟩ := ry
  obtain ⟨vs, r1, ⟨⟨c1, d1, t1, s1⟩, n1, e1, rfl, _, rfl⟩, _⟩ := I.list hA
  have hl := r1.length
  have hsz : vs.toArray.size * k.toNat ≤ 2 ^ 24 := by
    rw [List.size_toArray, ← hl]
    have e : sizeLine = 16777216 := sizeLine_eq
    omega
  refine wpAny_binaryOp_repeat_ref (T := "list") (U := "int") (by decide) ⟨_, e1, rfl⟩ (fun s' => typeIs_int s' k t) noFill_list_mul PySem.F.fills_int_mul PySem.F.slot_int_rmul repeat_list PySem.F.slot_int_index.lookup
    (call_meets PySem.F.slot_int_rmul (typeIs_int s k t) PySem.F.entry_int_rmul (PySem.F.args_int_rmul_2 _ _) (lm_int_rmul_list_any k t l vs.toArray n1 d1 s1)
      ⟨e1, rfl, ⟨_, e1, rfl⟩, call_meets PySem.F.slot_list_mul ⟨_, e1, rfl⟩ PySem.F.entry_list_mul (PySem.F.args_list_mul_2 _ _)
        (lm_list_mul_any l vs.toArray n1 d1 s1 k t (by simp [Builtin.List.listFitsIndex]; omega) (by omega) (by simp [Builtin.List.listTooLong, sizeLine]; omega))
        ⟨e1, ?_⟩⟩)
  rw [listMul_foldl_if]
  exact ⟨.ref _, _, I.lnew (t' := s.toks) (vals_rep r1 _) (by rw [flat_len]; exact hz), rfl, q _ I.fresh⟩
/-! ### tuples, their objects known -/
def tTupZ (t : TA) : TE := fun σ H Q => t σ H fun xs H1 => xs.length ≤ sizeLine ∧ ∀ p (o : Obj), o.dict = none → H1 p = none → Q (.ref p) (upd H1 p (.frz o (.tup xs)))
theorem pe_tupZ {es : List Expr} {x1 : Nat} {pos : Pos} {t : TA} (h : PA X es t) : PE X (.Tuple es x1 pos) (tTupZ t) := by
  refine ⟨fun pins s σ H Q I hq => ?_⟩
  refine wpAny_Tuple_spliced (thn (h.run pos pins s σ H _ I hq) fun us s1 ⟨xs, H1, I1, r, z, q⟩ => ⟨by rw [← r.length]; exact z, ?_⟩)
  exact ⟨.ref s1.heap.objs.size, _, Fk.Inv.laidT (t' := s1.toks) I1 (fun b u e => Heap.get?_push_of_some _ e) (Nat.le_refl _) z r (Heap.get?_push_size _ rfl), rfl, q _ _ rfl (I1.hok.fresh (Nat.le_refl _))⟩
def rCatZ (K : PySem.W.Frag) : R2 := fun x y H Q => ∃ a b xs ys, x = .ref a ∧ y = .ref b ∧ SqT K H a xs ∧ SqT K H b ys ∧ xs.length + ys.length ≤ sizeLine ∧
  (xs = [] → Q (.ref b) H) ∧ (xs ≠ [] → ys = [] → Q (.ref a) H) ∧ (xs ≠ [] → ys ≠ [] → ∀ p (o : Obj), o.dict = none → H p = none → Q (.ref p) (upd H p (.frz o (.tup (xs ++ ys)))))
theorem op_catZ : OpR X (binaryOp .Add) (rCatZ X.K) := by
  intro pins s σ H x y v u Q I rx ry ⟨a, b, xs, ys, ex, ey, ha, hb, hz, q0, q1, q2⟩
  subst ex ey
  cases rx
  cases ry
  obtain ⟨its, r1, p1, _⟩ := I.tuple ha
  obtain ⟨its2, r2, p2, _⟩ := I.tuple hb
  by_cases hx : xs = []
  · subst hx
    cases r1
    exact cat_tup0 p1 p2 ⟨.ref b, H, I, rfl, q0 rfl⟩
  · refine HT.cat_tup p1 p2 (fun z => hx (r1.nil_iff.mp z)) (fun z => ⟨.ref a, H, I, rfl, q1 hx (r2.nil_iff.mp z)⟩) (fun z => ?_) (by rw [← r1.length, ← r2.length]; exact hz)
    exact ⟨.ref s.heap.objs.size, _, Fk.Inv.laidT (t' := s.toks) I (fun b o e => Heap.get?_push_of_some _ e) (Nat.le_refl _) (by rw [List.length_append]; exact hz) (r1.append r2) (Heap.get?_push_size _ rfl), rfl, q2 hx (fun w => z (r2.nil_iff.mpr w)) _ _ rfl (I.hok.fresh (Nat.le_refl _))⟩
def rSlZ (K : PySem.W.Frag) : V → Option Int → Option Int → Hp → VK → Prop := fun x lo hi H Q => ∃ a xs, x = .ref a ∧ SqT K H a xs ∧
  (HT.sIx xs.length 0 lo = 0 ∧ HT.sIx xs.length xs.length hi = xs.length → Q (.ref a) H) ∧ (¬ (HT.sIx xs.length 0 lo = 0 ∧ HT.sIx xs.length xs.length hi = xs.length) → ∀ p (o : Obj), o.dict = none → H p = none → Q (.ref p) (upd H p (.frz o (.tup (cutV xs lo hi)))))
theorem sl_tupZ : SlR X (rSlZ X.K) := by
  intro pins s σ H x v vl vu lo hi sl Q I rx hs pl pu ⟨a, xs, ex, hx, q1, q2⟩
  subst ex
  cases rx
  obtain ⟨its, r, ht, hz⟩ := I.tuple hx
  have hlen : its.toArray.size = xs.length := by rw [List.size_toArray, ← r.length]
  refine ⟨"tuple", _, PyProof.Rows.slot_tuple_getitem.lookup, ht.typeIs, ?_⟩
  by_cases hw : HT.sIx xs.length 0 lo = 0 ∧ HT.sIx xs.length xs.length hi = xs.length
  · exact getItem_tuple_whole ht hs pl pu (by rw [hlen]; exact hw) ⟨.ref a, H, I, rfl, q1 hw⟩
  · refine HT.getItem_tuple_cut ht hs pl pu (by rw [hlen]; exact hw) ?_ (by rw [hlen]; exact hz)
    rw [hlen]
    exact ⟨.ref s.heap.objs.size, _, Fk.Inv.laidT (t' := s.toks) I (fun b o e => Heap.get?_push_of_some _ e) (Nat.le_refl _) (Nat.le_trans (cutV_length xs lo hi) hz) ((r.drop (HT.sIx xs.length 0 lo)).take (HT.sIx xs.length xs.length hi - HT.sIx xs.length 0 lo)) (Heap.get?_push_size _ rfl), rfl, q2 hw _ _ rfl (I.hok.fresh (Nat.le_refl _))⟩
theorem call_tupleZ : CallR X (.type "tuple") (fun xs H Q => ∃ p ys, xs = [.ref p] ∧ ((SqL X.K H p ys ∧ ∀ l (o : Obj), o.dict = none → H l = none → Q (.ref l) (upd H l (.frz o (.tup ys)))) ∨ (SqT X.K H p ys ∧ Q (.ref p) H))) := by
  intro pins s σ H xs us Q I r ⟨p, ys, ex, h⟩
  subst ex
  obtain ⟨u, rfl, rx⟩ := vals1 r
  cases rx
  rcases h with ⟨hq, q⟩ | ⟨hq, q⟩
  · obtain ⟨its, r', pl, hz⟩ := I.list hq
    have hlen := r'.length
    refine call_tuple_list pl.isList (fun h' kp => ?_) (by simp only [List.size_toArray] <;> omega)
    have I1 : Inv X pins σ H { s with heap := h' } := I.kept (t' := s.toks) kp
    have I2 := Fk.Inv.laidT (s := { s with heap := h' }) (h' := h'.push { cls := .type "tuple", data := .seq its.toArray }) (a := h'.objs.size) (t' := s.toks) I1 (fun b o e => Heap.get?_push_of_some _ e) (Nat.le_refl _) hz r' (Heap.get?_push_size _ rfl)
    exact ⟨.ref h'.objs.size, _, I2, rfl, q _ _ rfl (I1.hok.fresh (Nat.le_refl _))⟩
  · obtain ⟨its, r', pl, hz⟩ := I.tuple hq
    exact call_tuple_same pl ⟨.ref p, H, I, rfl, q⟩
theorem isDs_rep {K : PySem.W.Frag} {F : Hp} {xs : List V} {ds : List D} (h : IsDs K F xs ds) : ∀ k : Nat, IsDs K F (List.replicate k xs).flatten (List.replicate k ds).flatten
  | 0 => by simp only [List.replicate, List.flatten_nil, IsDs]
  | k + 1 => by
    rw [List.replicate_succ, List.replicate_succ, List.flatten_cons, List.flatten_cons]
    exact isDs_append h (isDs_rep h k)
theorem op_bin (o : BOp) (m : Md) : OpR X (binaryOp (bop o)) (rTwo X.K cl fun _ M a b => binV m o M a b) := by
  intro pins s σ H x y v u Q I rx ry ⟨n, F, π, M, a, b, E, r, hn, hx, hy, h⟩
  have hl := lim_eq
  simp only [binV] at h
  split at h
  · cases hx; cases hy
    exact op_add pins s σ H _ _ v u Q I rx ry ⟨_, _, rfl, rfl, RV.here r h rfl⟩
  · cases hx; cases hy
    exact op_sub pins s σ H _ _ v u Q I rx ry ⟨_, _, rfl, rfl, RV.here r h rfl⟩
  · cases hx; cases hy
    split at h
    · rename_i c
      rcases mulW c with z | z
      · exact op_mulW pins s σ H _ _ v u Q I rx ry ⟨_, _, rfl, rfl, z, RV.here r h rfl⟩
      · exact op_mul pins s σ H _ _ v u Q I rx ry ⟨_, _, rfl, rfl, z, RV.here r h rfl⟩
    · exact h.elim
  · cases hx; cases hy
    split at h
    · rename_i c
      exact op_fdiv pins s σ H _ _ v u Q I rx ry ⟨_, _, rfl, rfl, c, RV.here r h rfl⟩
    · exact h.elim
  · cases hx; cases hy
    split at h
    · rename_i c
      exact op_mod pins s σ H _ _ v u Q I rx ry ⟨_, _, rfl, rfl, c, RV.here r h rfl⟩
    · exact h.elim
  · cases hx; cases hy
    split at h
    · rename_i c
      exact op_pow pins s σ H _ _ v u Q I rx ry ⟨_, _, rfl, rfl, c, RV.here r h rfl⟩
    · exact h.elim
  · cases hx; cases hy
    split at h
    · rename_i c
      exact op_add_str pins s σ H _ _ v u Q I rx ry ⟨_, _, rfl, rfl, by rw [← hl]; exact c, RV.here r h rfl⟩
    · exact h.elim
  · simp only [IsV, IsD] at hx hy
    obtain ⟨p, xs, rfl, h1, h2⟩ := hx
    obtain ⟨q, ys, rfl, h3, h4⟩ := hy
    split at h
    · rename_i c
      refine op_catZ pins s σ H _ _ v u Q I rx ry ⟨p, q, xs, ys, rfl, rfl, h1.sq r.sub, h3.sq r.sub, by rw [isDs_len h2, isDs_len h4, ← hl]; exact c, fun z => ?_, fun z z' => ?_, fun z z' t o hd ht => ?_⟩
      · refine RV.here r h ?_
        rw [(isDs_nil_iff h2).mp z, List.nil_append]
        simp only [IsV, IsD]
        exact ⟨q, ys, rfl, h3, h4⟩
      · refine RV.here r h ?_
        rw [(isDs_nil_iff h4).mp z', List.append_nil]
        simp only [IsV, IsD]
        exact ⟨p, xs, rfl, h1, h2⟩
      · refine RV.newD r h _ ht ?_
        simp only [IsV, IsD]
        have sb : HSub F (upd F t (.frz o (.tup (xs ++ ys)))) := hsub_upd (hsub_none r.sub ht)
        exact ⟨t, _, rfl, .inl ⟨o, hd, upd_same⟩, isDs_append (IsDs.sub sb _ _ h2) (IsDs.sub sb _ _ h4)⟩
    · exact h.elim
  · split at h
    · rename_i e1 e2
      split at h
      · rename_i c
        obtain ⟨p, xs, rfl, h1, h2⟩ := lstOf_ok r hx e1
        obtain ⟨q, ys, rfl, h3, h4⟩ := lstOf_ok r hy e2
        exact op_catS pins s σ H _ _ v u Q I rx ry ⟨p, q, xs, ys, rfl, rfl, h1, h3, by rw [h2.length, h4.length, ← hl]; exact c, fun t ht => mkL_ok r hn h (paired_append h2 h4) ht⟩
      · exact h.elim
    · exact h.elim
  · cases hy
    split at h
    · rename_i c
      simp only [IsV, IsD] at hx
      obtain ⟨p, xs, rfl, h1, h2⟩ := hx
      have hlen := isDs_len h2
      refine op_repZ pins s σ H _ _ v u Q I rx ry ⟨p, _, xs, rfl, rfl, h1.sq r.sub, fun z => ?_, c.2.1, c.2.2.1, by omega, fun t o hd ht => ?_⟩
      · have := (isDs_nil_iff h2).mp z
        rw [this] at c
        exact absurd c.1 (by decide)
      · refine RV.newD r h _ ht ?_
        simp only [IsV, IsD]
        exact ⟨t, _, rfl, .inl ⟨o, hd, upd_same⟩, IsDs.sub (hsub_upd (hsub_none r.sub ht)) _ _ (isDs_rep h2 _)⟩
    · exact h.elim
  · cases hy
    split at h
    · rename_i e1
      split at h
      · rename_i c
        obtain ⟨p, xs, rfl, h1, h2⟩ := lstOf_ok r hx e1
        exact op_repS pins s σ H _ _ v u Q I rx ry ⟨p, _, xs, rfl, rfl, h1, c.1, c.2.1, by rw [h2.length, ← hl]; exact c.2.2, fun t ht => mkL_ok r hn h (paired_rep h2 _) ht⟩
      · exact h.elim
    · exact h.elim
  · exact h.elim
/-! ### data as the kit's == takes it -/
mutual
theorem dp_of (s : HSub F H) : ∀ (d : D) (v : V), IsD K F v d → Dp K H v d
  | .none, _, h => by cases h; exact .non
  | .bool _, _, h => by cases h; exact .bl _
  | .int _, _, h => by cases h; exact .int _
  | .str _, _, h => by cases h; exact .str _
  | .list ds, v, h => by
    simp only [IsD] at h
    obtain ⟨a, xs, rfl, h1, h2⟩ := h
    exact .lst (sqL_sub s h1) (dps_of s ds xs h2)
  | .tuple ds, v, h => by
    simp only [IsD] at h
    obtain ⟨a, xs, rfl, h1, h2⟩ := h
    exact .tup (h1.sq s) (dps_of s ds xs h2)
  | .dict _, _, h => by simp only [IsD] at h
theorem dps_of (s : HSub F H) : ∀ (ds : List D) (vs : List V), IsDs K F vs ds → DpAll K H vs ds
  | [], [], _ => .nil
  | [], _ :: _, h => by simp only [IsDs] at h
  | _ :: _, [], h => by simp only [IsDs] at h
  | d :: ds, v :: vs, h => by
    simp only [IsDs] at h
    exact .cons (dp_of s d v h.1) (dps_of s ds vs h.2)
end
theorem mapM_cons_some {α β : Type} {f : α → Option β} {x : α} {l : List α} {ys : List β} (h : (x :: l).mapM f = some ys) : ∃ y r, f x = some y ∧ l.mapM f = some r ∧ ys = y :: r := by
  rw [List.mapM_cons] at h
  cases e : f x with
  | none => rw [e] at h; simp at h
  | some y =>
    rw [e] at h
    cases e2 : l.mapM f with
    | none => rw [e2] at h; simp at h
    | some r =>
      rw [e2] at h
      simp at h
      exact ⟨y, r, rfl, rfl, h.symm⟩
theorem dps_mapM {rdf : Val → Option D} (hf : ∀ v w d, IsV K cl F π v w → rdf w = some d → Dp K H v d) : ∀ {xs : List V} {vs : List Val} {ds : List D}, IsVs K cl F π xs vs → vs.mapM rdf = some ds → DpAll K H xs ds
  | _, _, ds, .nil, e => by
    have : ds = [] := by simpa using e.symm
    subst this; exact .nil
  | _, _, ds, .cons (b := w) h t, e => by
    obtain ⟨y, r, e1, e2, rfl⟩ := mapM_cons_some e
    exact .cons (hf _ _ _ h e1) (dps_mapM hf t e2)
theorem rd_ok (r : Rel K cl F π M H) : ∀ (k : Nat) (v : V) (w : Val) (d : D), IsV K cl F π v w → rd k M w = some d → Dp K H v d
  | _, v, .d x, d, h, e => by
    have : some x = some d := by
      rw [← e]; cases ‹Nat› <;> rfl
    cases this
    exact dp_of r.sub _ _ h
  | k, _, .x _ _, _, _, e => by
    cases k <;> simp [rd] at e
  | 0, _, .p _, _, _, e => by cases e
  | k + 1, v, .p j, d, h, e => by
    obtain ⟨a, h1, rfl⟩ := h
    simp only [rd] at e
    cases hM : M[j]? with
    | none => rw [hM] at e; cases e
    | some c =>
      rw [hM] at e
      cases c with
      | lst ws =>
        simp only [Option.map_eq_some_iff] at e
        obtain ⟨ds, e1, rfl⟩ := e
        obtain ⟨⟨xs, g1, g2⟩, _⟩ := r.cell j _ a hM h1 rfl
        exact .lst (.inl (.inl g1)) (dps_mapM (fun v w d h e => rd_ok r k v w d h e) g2 e1)
      | ro ws => cases e
      | dead => cases e
      | dict _ => cases e
      | ins _ _ => cases e
theorem shp_ok {d : D} (h : shp d = true) : SeqAt.shaped d = true := h
def cop : COp → CmpOp
  | .eq => .Eq | .ne => .NotEq | .lt => .Lt | .le => .LtE | .gt => .Gt | .ge => .GtE | .isin => .In | .notin => .NotIn | .isnone => .Is | .notnone => .IsNot
def cmpO (o : COp) (M : Mem) (a b : Val) : Out Val := match cmpV o M a b with
  | some t => .ok (.d (.bool t)) M
  | none => .bad
theorem isnone_ok {x : V} {a : Val} (h : IsV K cl F π x a) : decide (x = .non) = a.isN := by
  cases a with
  | d z =>
    cases z with
    | none => cases h; rfl
    | bool b => cases h; rfl
    | int b => cases h; rfl
    | str b => cases h; rfl
    | list ds => simp only [IsV, IsD] at h; obtain ⟨p, xs, rfl, _⟩ := h; rfl
    | tuple ds => simp only [IsV, IsD] at h; obtain ⟨p, xs, rfl, _⟩ := h; rfl
    | dict _ => simp only [IsV, IsD] at h
  | p k => obtain ⟨p, _, rfl⟩ := h; rfl
  | x c fs => obtain ⟨p, d, rfl, _⟩ := h; rfl
theorem mem_ok {neg : Bool} (hu : X.A.units + 65 < cLine) (wp : Wp cl X) {pins : List (Addr × Obj)} {s : Shared} {σ : L2.St} {x y : V} {v u : Value} {a b : Val} {t : Bool} {Q : VK} (I : Inv X pins σ H s) (rx : RelV x v) (ry : RelV y u)
    (r : Rel X.K cl F π M H) (hx : IsV X.K cl F π x a) (hy : IsV X.K cl F π y b) (e : cmpV.memV M a b = some t) (q : Q (.bl (if neg then !t else t)) H) :
    wpAny (model X.prog X.w) X.A (compareOp (if neg then .NotIn else .In) v u) (EP X pins σ Q) X.xe s := by
  have lst : ∀ (ys : List D) (z : D), Dp X.K H y (.list ys) → Dp X.K H x z → (shp z && shp (.list ys)) = true → Q (.bl (if neg then !inD z ys else inD z ys)) H →
      wpAny (model X.prog X.w) X.A (compareOp (if neg then .NotIn else .In) v u) (EP X pins σ Q) X.xe s := fun ys z hy hx hs q => by
    obtain ⟨s1, s2⟩ := Bool.and_eq_true_iff.mp hs
    cases neg with
    | true => exact op_notInD hu pins s σ H x y v u Q I rx ry ⟨z, ys, hx, hy, s1, s2, q⟩
    | false => exact op_inD hu pins s σ H x y v u Q I rx ry ⟨z, ys, hx, hy, s1, s2, q⟩
  unfold cmpV.memV at e
  split at e
  · split at e
    · rename_i yy _ xx
      split at e
      · rename_i c hc
        cases hx; cases hy
        obtain ⟨tx, rfl⟩ := rx
        obtain ⟨ty, rfl⟩ := ry
        have ex : xx = ⟨#[c]⟩ := by
          obtain ⟨cps⟩ := xx
          have : cps = #[c] := by
            apply Array.ext'
            simpa using hc
          rw [this]
        subst ex
        have f := StrLaws.found_one yy c
        cases e
        cases neg with
        | true => exact PySem.P.notIn_str ⟨.bl _, H, I, rfl, by rw [f]; exact q⟩
        | false => exact PySem.P.in_str ⟨.bl _, H, I, rfl, by rw [f]; exact q⟩
      · cases e
    · cases e
  · split at e
    · split at e
      · rename_i ys _ z c
        cases e
        obtain ⟨s1, s2⟩ := Bool.and_eq_true_iff.mp c
        obtain ⟨as, r1⟩ := Dp.reads I z x v (dp_of r.sub _ _ hx) rx
        obtain ⟨bs, r2⟩ := Dp.reads I (.tuple ys) y u (dp_of r.sub _ _ hy) ry
        have hcl : PyData.canLayAll0 ys = true := SeqAt.canLay_of_shaped (d := .tuple ys) s2
        cases neg with
        | true => exact SeqAt.notIn_tuple_reads r2 r1 hcl (SeqAt.canLay_of_shaped s1) (room_in_shaped s1 hu) ⟨.bl _, H, I, rfl, q⟩
        | false => exact SeqAt.in_tuple_reads r2 r1 hcl (SeqAt.canLay_of_shaped s1) (room_in_shaped s1 hu) ⟨.bl _, H, I, rfl, q⟩
      · cases e
    · cases e
  · split at e
    · split at e
      · rename_i c
        cases e
        exact lst _ _ (dp_of r.sub _ _ hy) (dp_of r.sub _ _ hx) c q
      · cases e
    · cases e
  · rename_i k
    cases hM : M[k]? with
    | none => rw [hM] at e; cases e
    | some c =>
      rw [hM] at e
      cases c with
      | lst ws =>
        simp only at e
        split at e
        · rename_i e2
          split at e
          · rename_i c
            cases e
            exact lst _ _ (rd_ok r 3 _ _ _ hy e2) (dp_of r.sub _ _ hx) c q
          · cases e
        · cases e
      | dict kvs =>
        obtain ⟨a', h1, rfl⟩ := hy
        cases ry
        simp only at e
        split at e
        · split at e
          · rename_i ok
            cases e
            have g := asked I r wp hM h1 hx rx ok
            cases neg with
            | true => exact dct_notIn hu I g rx fun s' I' => ⟨.bl _, H, I', rfl, q⟩
            | false => exact dct_in hu I g rx fun s' I' => ⟨.bl _, H, I', rfl, q⟩
          · cases e
        · cases e
      | ro _ => cases e
      | dead => cases e
      | ins _ _ => cases e
  · cases e
theorem op_cmp (o : COp) (hu : X.A.units + 65 < cLine) (wp : Wp cl X) : OpR X (compareOp (cop o)) (rTwo X.K cl fun _ M a b => cmpO o M a b) := by
  intro pins s σ H x y v u Q I rx ry ⟨n, F, π, M, a, b, E, r, hn, hx, hy, h⟩
  have hu' : X.A.units + 64 < cLine := by omega
  simp only [cmpO] at h
  cases e : cmpV o M a b with
  | none => rw [e] at h; exact h.elim
  | some t =>
    rw [e] at h
    have q : Q (.bl t) H := RV.here r h rfl
    cases o with
    | eq =>
      simp only [cmpV] at e
      split at e
      · rename_i e1 e2
        split at e
        · rename_i c
          cases e
          obtain ⟨s1, s2⟩ := Bool.and_eq_true_iff.mp c
          exact op_eqD hu' pins s σ H x y v u Q I rx ry ⟨_, _, rd_ok r 3 _ _ _ hx e1, rd_ok r 3 _ _ _ hy e2, s1, s2, q⟩
        · cases e
      · cases e
    | ne =>
      simp only [cmpV] at e
      split at e
      · rename_i e1 e2
        split at e
        · rename_i c
          cases e
          obtain ⟨s1, s2⟩ := Bool.and_eq_true_iff.mp c
          exact op_neD hu' pins s σ H x y v u Q I rx ry ⟨_, _, rd_ok r 3 _ _ _ hx e1, rd_ok r 3 _ _ _ hy e2, s1, s2, q⟩
        · cases e
      · cases e
    | lt =>
      simp only [cmpV] at e
      split at e
      · cases hx; cases hy; cases e
        exact op_lt pins s σ H _ _ v u Q I rx ry ⟨_, _, rfl, rfl, q⟩
      · cases e
    | le =>
      simp only [cmpV] at e
      split at e
      · cases hx; cases hy; cases e
        exact op_le pins s σ H _ _ v u Q I rx ry ⟨_, _, rfl, rfl, q⟩
      · cases e
    | gt =>
      simp only [cmpV] at e
      split at e
      · cases hx; cases hy; cases e
        exact op_gt pins s σ H _ _ v u Q I rx ry ⟨_, _, rfl, rfl, q⟩
      · cases e
    | ge =>
      simp only [cmpV] at e
      split at e
      · cases hx; cases hy; cases e
        exact op_ge pins s σ H _ _ v u Q I rx ry ⟨_, _, rfl, rfl, q⟩
      · cases e
    | isnone =>
      simp only [cmpV] at e
      split at e
      · cases hy; cases e
        exact op_isN pins s σ H _ _ v u Q I rx ry ⟨rfl, by rw [isnone_ok hx]; exact q⟩
      · split at e
        · cases hx; cases hy; cases e
          exact op_isBl pins s σ H _ _ v u Q I rx ry ⟨_, _, rfl, rfl, by rw [← Bool.beq_eq_decide_eq]; exact q⟩
        · cases e
      · cases e
    | notnone =>
      simp only [cmpV] at e
      split at e
      · cases hy; cases e
        exact op_notN pins s σ H _ _ v u Q I rx ry ⟨rfl, by rw [isnone_ok hx]; exact q⟩
      · split at e
        · cases hx; cases hy; cases e
          exact op_notBl pins s σ H _ _ v u Q I rx ry ⟨_, _, rfl, rfl, by rw [← Bool.beq_eq_decide_eq]; exact q⟩
        · cases e
      · cases e
    | isin => exact mem_ok (neg := false) hu wp I rx ry r hx hy e q
    | notin =>
      simp only [cmpV, Option.map_eq_some_iff] at e
      obtain ⟨t', e1, rfl⟩ := e
      exact mem_ok (neg := true) hu wp I rx ry r hx hy e1 q
end
end Fk

/-! FkExp: readings of expressions. -/
namespace Fk
open PySem PySem.Spec PyProof.Rows L2
section
variable (K : PySem.W.Frag) (cl : Cl)
/-- the slots -/
structure Slt (F : Hp) (π : List Addr) (σ : L2.St) (ρ : Slots) : Prop where
  len : ρ.length = σ.length
  at_ : ∀ (i : Nat) (v : Val), ρ[i]? = some (some v) → ∃ u, σ[i]? = some (some u) ∧ IsV K cl F π u v
structure Sta (n : Nat) (F : Hp) (π : List Addr) (M : Mem) (ρ : Slots) (σ : L2.St) (H : Hp) : Prop where
  rel : Rel K cl F π M H
  le : n ≤ M.length
  sl : Slt K cl F π σ ρ
/-- what is wanted of errors at the slots σ -/
abbrev atW (W : WX) (σ : L2.St) : XK := fun c d H => W c d σ H
def tV (W : WX) (f : Nat → Slots → Mem → Out Val) : TE := fun σ H Q => ∃ n F π M ρ, Sta K cl n F π M ρ σ H ∧ RV K cl n F π M H (f n ρ M) Q (atW W σ)
def tVs (W : WX) (f : Nat → Slots → Mem → Out (List Val)) : TA := fun σ H Q => ∃ n F π M ρ, Sta K cl n F π M ρ σ H ∧ RVs K cl n F π M H (f n ρ M) Q (atW W σ)
def tBl (W : WX) (f : Nat → Slots → Mem → Out Bool) : TT := fun σ H Q => ∃ n F π M ρ, Sta K cl n F π M ρ σ H ∧ RB K cl n F π M H (f n ρ M) Q (atW W σ)
abbrev tE (G : Gam) (W : WX) (c : E) : TE := tV K cl W fun n ρ M => ev G n ρ M c
abbrev tEs (G : Gam) (W : WX) (c : Es) : TA := tVs K cl W fun n ρ M => evs G n ρ M c
abbrev tT (G : Gam) (W : WX) (c : T) : TT := tBl K cl W fun n ρ M => evT G n ρ M c
end
section
variable {K : PySem.W.Frag} {cl : Cl} {n : Nat} {F F' F1 : Hp} {π π' π1 : List Addr} {M M' M1 : Mem} {H H' H1 : Hp} {ρ : Slots} {σ : L2.St} {W : WX}
theorem Slt.mono (s : Slt K cl F π σ ρ) (h : HSub F F') (p : ∃ t, π' = π ++ t) : Slt K cl F' π' σ ρ :=
  ⟨s.len, fun i v e => let ⟨u, a, b⟩ := s.at_ i v e; ⟨u, a, b.mono h p⟩⟩
theorem Sta.next (s : Sta K cl n F π M ρ σ H) (x : Nxt K cl n F π M H F1 π1 M1 H1) : Sta K cl n F1 π1 M1 ρ σ H1 :=
  ⟨x.rel, Nat.le_trans s.le (x.le s.rel), s.sl.mono x.fsub x.pre⟩
theorem tV.imp {f : Nat → Slots → Mem → Out Val} {Q Q' : VK} (h : tV K cl W f σ H Q) (i : ∀ u H', Q u H' → Q' u H') : tV K cl W f σ H Q' := by
  obtain ⟨n, F, π, M, ρ, s, h⟩ := h
  exact ⟨n, F, π, M, ρ, s, h.imp i⟩
/-- a value, then a value -/
theorem tV.two {f : Nat → Slots → Mem → Out Val} {g : Nat → Slots → Mem → Out Val} {k : Nat → Mem → Val → Val → Out Val} {Q : VK} (h : tV K cl W (fun n ρ M => (f n ρ M).bind fun a M => (g n ρ M).bind fun b M => k n M a b) σ H Q) :
    tV K cl W f σ H fun x H1 => tV K cl W g σ H1 fun y H2 => rTwo K cl k x y H2 Q := by
  obtain ⟨n, F, π, M, ρ, s, h⟩ := h
  refine ⟨n, F, π, M, ρ, s, RV.bindV s.rel h fun v F1 π1 M1 H1 u x q z => ?_⟩
  refine ⟨n, F1, π1, M1, ρ, s.next x, RV.bindV x.rel z fun v2 F2 π2 M2 H2 u2 x2 q2 z2 => ?_⟩
  exact ⟨n, F2, π2, M2, v, v2, _, x2.rel, ((s.next x).next x2).le, q.mono x2.fsub x2.pre, q2, z2⟩
/-- a value, then an operation -/
def rOne (K : PySem.W.Frag) (cl : Cl) (k : Nat → Mem → Val → Out Val) : V → Hp → VK → Prop := fun x H Q => ∃ n F π M a E, Rel K cl F π M H ∧ n ≤ M.length ∧ IsV K cl F π x a ∧ RV K cl n F π M H (k n M a) Q E
theorem tV.one {f : Nat → Slots → Mem → Out Val} {k : Nat → Mem → Val → Out Val} {Q : VK} (h : tV K cl W (fun n ρ M => (f n ρ M).bind fun a M => k n M a) σ H Q) :
    tV K cl W f σ H fun x H1 => rOne K cl k x H1 Q := by
  obtain ⟨n, F, π, M, ρ, s, h⟩ := h
  exact ⟨n, F, π, M, ρ, s, RV.bindV s.rel h fun v F1 π1 M1 H1 u x q z => ⟨n, F1, π1, M1, v, _, x.rel, (s.next x).le, q, z⟩⟩
/-- arguments, then a call -/
def rMany (K : PySem.W.Frag) (cl : Cl) (W : WX) (σ : L2.St) (k : Nat → Mem → List Val → Out Val) : List V → Hp → VK → Prop := fun xs H Q => ∃ n F π M as, Rel K cl F π M H ∧ n ≤ M.length ∧ IsVs K cl F π xs as ∧ RV K cl n F π M H (k n M as) Q (atW W σ)
theorem tVs.one {f : Nat → Slots → Mem → Out (List Val)} {k : Nat → Mem → List Val → Out Val} {Q : VK} (h : tV K cl W (fun n ρ M => (f n ρ M).bind fun a M => k n M a) σ H Q) :
    tVs K cl W f σ H fun xs H1 => rMany K cl W σ k xs H1 Q := by
  obtain ⟨n, F, π, M, ρ, s, h⟩ := h
  exact ⟨n, F, π, M, ρ, s, RVs.bindV s.rel h fun v F1 π1 M1 H1 u x q z => ⟨n, F1, π1, M1, v, x.rel, (s.next x).le, q, z⟩⟩
end
section
variable {X : Cx} {cl : Cl} {G : Gam} {W : WX} {e a b : Expr} {pos : Pos}
theorem PE.weak {t t' : TE} (h : PE X e t) (i : ∀ σ H Q, t' σ H Q → t σ H Q) : PE X e t' := ⟨fun pins s σ H Q I q => h.run pins s σ H Q I (i σ H Q q)⟩
theorem PT.weak {t t' : TT} (h : PT X e t) (i : ∀ σ H Q, t' σ H Q → t σ H Q) : PT X e t' := ⟨fun pins s σ H Q I q => h.run pins s σ H Q I (i σ H Q q)⟩
theorem PW.weak {t t' : TT} (h : PW X e t) (i : ∀ σ H Q, t' σ H Q → t σ H Q) : PW X e t' := ⟨fun wh pins s σ H Q I q => h.run wh pins s σ H Q I (i σ H Q q)⟩
theorem PA.weak {es : List Expr} {t t' : TA} (h : PA X es t) (i : ∀ σ H Q, t' σ H Q → t σ H Q) : PA X es t' := ⟨fun p pins s σ H Q I q => h.run p pins s σ H Q I (i σ H Q q)⟩

/-! ### names and constants -/
theorem fk_var {i : Nat} {x : Str} (hN : X.N[i]? = some x) (hv : Vis X.env.scope x) (hd : (x == ("__debug__" : Str)) = false) (hcd : (x == ("__classdict__" : Str)) = false) : PE X (.Name x pos) (tE X.K cl G W (.var i)) := by
  refine PE.weak (pe_var hN hv hd hcd) fun σ H Q ⟨n, F, π, M, ρ, s, h⟩ => ?_
  simp only [ev] at h
  split at h
  · rename_i v e
    obtain ⟨u, e1, q⟩ := s.sl.at_ i v e
    exact ⟨u, e1, RV.here s.rel h q⟩
  · exact h.elim
/-- a constant as a value -/
def litV : D → Option V
  | .none => some .non
  | .bool b => some (.bl b)
  | .int i => some (.int i)
  | .str x => some (.str x)
  | _ => none
theorem litV_ok {K : PySem.W.Frag} {F : Hp} {d : D} {v : V} (h : litV d = some v) : IsD K F v d := by
  cases d <;> simp only [litV, Option.some.injEq] at h <;> first | (subst h; rfl) | cases h
theorem fk_lit {d : D} {v : V} (hv : litV d = some v) (h : PE X e (tC v)) : PE X e (tE X.K cl G W (.lit d)) := by
  refine PE.weak h fun σ H Q ⟨n, F, π, M, ρ, s, h⟩ => ?_
  simp only [ev] at h
  exact RV.here s.rel h (litV_ok hv)
def litC : Const → D → Bool
  | .none, .none => true
  | .bool b, .bool c => b == c
  | .int i, .int j => i == j
  | .str x, .str y => x == y
  | _, _ => false
theorem fk_const {c : Const} {d : D} {k : Nat} (h : litC c d = true) : PE X (.Constant c k pos) (tE X.K cl G W (.lit d)) := by
  cases c <;> cases d <;> simp only [litC, beq_iff_eq] at h <;> first | cases h | subst h
  · exact fk_lit rfl pe_non
  · exact fk_lit rfl pe_bl
  · exact fk_lit rfl pe_int
  · exact fk_lit rfl pe_str
/-- a module's constant -/
theorem fk_con {x : Str} {d : D} {v : V} {u : Value} (hg : Gl X x) (hm : X.mg x = some u) (r : RelV v u) (hq : ∀ F : Hp, IsD X.K F v d) (hd : (x == ("__debug__" : Str)) = false) : PE X (.Name x pos) (tE X.K cl G W (.con x d)) := by
  refine PE.weak (pe_glob hg hm r hd) fun σ H Q ⟨n, F, π, M, ρ, s, h⟩ => ?_
  simp only [ev] at h
  exact RV.here s.rel h (hq F)
/-! ### argument lists -/
theorem fk_nil : PA X [] (tEs X.K cl G W .nil) := by
  refine PA.weak pa_nil fun σ H Q ⟨n, F, π, M, ρ, s, h⟩ => ?_
  simp only [evs] at h
  exact h F π H [] (Nxt.refl s.rel) .nil
theorem fk_cons {es : List Expr} {c : E} {cs : Es} (ha : PE X e (tE X.K cl G W c)) (hr : PA X es (tEs X.K cl G W cs)) (hs : starEach (e :: es) X.env = (false, eval e X.env) :: starEach es X.env) : PA X (e :: es) (tEs X.K cl G W (.cons c cs)) := by
  refine PA.weak (pa_cons ha hr hs) fun σ H Q ⟨n, F, π, M, ρ, s, h⟩ => ?_
  simp only [evs] at h
  refine ⟨n, F, π, M, ρ, s, RV.bindVs s.rel h fun v F1 π1 M1 H1 u x q z => ?_⟩
  refine ⟨n, F1, π1, M1, ρ, s.next x, RVs.bindVs x.rel z fun v2 F2 π2 M2 H2 u2 x2 q2 z2 => ?_⟩
  exact z2 F2 π2 H2 (u :: u2) (Nxt.refl x2.rel) (.cons (q.mono x2.fsub x2.pre) q2)
/-! ### displays -/
theorem fk_tup {es : List Expr} {cs : Es} {k : Nat} (hz : es.length ≤ sizeLine) (ha : PA X es (tEs X.K cl G W cs)) (hl : ∀ n ρ M vs M', evs G n ρ M cs = .ok vs M' → vs.length = es.length) : PE X (.Tuple es k pos) (tE X.K cl G W (.tup cs)) := by
  refine PE.weak (pe_tupZ ha) fun σ H Q ⟨n, F, π, M, ρ, s, h⟩ => ?_
  simp only [ev] at h
  refine ⟨n, F, π, M, ρ, s, ?_⟩
  dsimp only
  cases e : evs G n ρ M cs with
  | bad => rw [e] at h; exact h.elim
  | exc x M1 => rw [e] at h; exact h
  | ok vs M1 =>
    rw [e] at h
    intro F1 π1 H1 us x q
    have hlen := hl _ _ _ _ _ e
    refine ⟨by rw [q.length, hlen]; exact hz, fun p o hd hp => ?_⟩
    have z : RV X.K cl n F π M H (match allD vs with | some ds => .ok (.d (.tuple ds)) M1 | none => .bad) Q (atW W σ) := h
    cases e2 : allD vs with
    | none => rw [e2] at z; exact z.elim
    | some ds =>
      rw [e2] at z
      refine RV.newD x.rel (RV.trans s.rel x z) (.frz o (.tup us)) hp ?_
      simp only [IsV, IsD]
      exact ⟨p, us, rfl, .inl ⟨o, hd, upd_same⟩, IsDs.sub (hsub_upd (hsub_none x.rel.sub hp)) _ _ (isDs_of_V q e2)⟩
theorem fk_lst {es : List Expr} {cs : Es} {m : Md} (hz : es.length ≤ sizeLine) (ha : PA X es (tEs X.K cl G W cs)) (hl : ∀ n ρ M vs M', evs G n ρ M cs = .ok vs M' → vs.length = es.length) : PE X (.List es pos) (tE X.K cl G W (.lst m cs)) := by
  refine PE.weak (pe_lst ha) fun σ H Q ⟨n, F, π, M, ρ, s, h⟩ => ?_
  simp only [ev] at h
  refine ⟨n, F, π, M, ρ, s, ?_⟩
  dsimp only
  cases e : evs G n ρ M cs with
  | bad => rw [e] at h; exact h.elim
  | exc x M1 => rw [e] at h; exact h
  | ok vs M1 =>
    rw [e] at h
    intro F1 π1 H1 us x q
    have hlen := hl _ _ _ _ _ e
    exact ⟨by rw [q.length, hlen]; exact hz, fun p hp => mkL_ok x.rel (s.next x).le (RV.trans s.rel x h) q hp⟩
theorem isDs_reverse {K : PySem.W.Frag} {F : Hp} : ∀ {xs : List V} {ds : List D}, IsDs K F xs ds → IsDs K F xs.reverse ds.reverse
  | [], [], _ => by simp only [List.reverse_nil, IsDs]
  | [], _ :: _, h => by simp only [IsDs] at h
  | _ :: _, [], h => by simp only [IsDs] at h
  | x :: xs, d :: ds, h => by
    simp only [IsDs] at h
    rw [List.reverse_cons, List.reverse_cons]
    exact isDs_append (isDs_reverse h.2) (by simp only [IsDs]; exact ⟨h.1, trivial⟩)
theorem paired_rev {α β : Type} {R : α → β → Prop} {l : List α} {m : List β} (h : Paired R l m) : Paired R l.reverse m.reverse := by
  induction h with
  | nil => exact .nil
  | cons a t ih => rw [List.reverse_cons, List.reverse_cons]; exact paired_append ih (.cons a .nil)
/-! ### operators -/
theorem fk_bin {o : BOp} {m : Md} {ca cb : E} (ha : PE X a (tE X.K cl G W ca)) (hb : PE X b (tE X.K cl G W cb)) : PE X (.BinOp a (bop o) b pos) (tE X.K cl G W (.bin o m ca cb)) := by
  refine PE.weak (pe_op (op_bin (cl := cl) o m) ha hb) fun σ H Q h => ?_
  have h : tV X.K cl W (fun n ρ M => ev G n ρ M (.bin o m ca cb)) σ H Q := h
  simp only [ev] at h
  exact tV.two (k := fun _ M a b => binV m o M a b) h
theorem fk_rev {m : Md} {ca : E} {k : Nat} {p1 p2 p3 : Pos} (ha : PE X a (tE X.K cl G W ca)) : PE X (.Subscript a (.Slice none none (some (.UnaryOp .USub (.Constant (.int 1) k p1) p2)) p3) pos) (tE X.K cl G W (.rev m ca)) := by
  refine PE.weak (pe_rev ha) fun σ H Q h => ?_
  have h : tV X.K cl W (fun n ρ M => ev G n ρ M (.rev m ca)) σ H Q := h
  simp only [ev] at h
  refine (tV.one h).imp fun u H1 hh => ?_
  obtain ⟨n, F, π, M, v, E, r, hn, q, z⟩ := hh
  dsimp only at z
  unfold revV at z
  split at z
  · simp only [IsV, IsD] at q
    obtain ⟨p, xs, rfl, h1, h2⟩ := q
    refine .inr ⟨p, xs, rfl, h1.sq r.sub, fun t o hd ht => RV.newD r z _ ht ?_⟩
    simp only [IsV, IsD]
    exact ⟨t, _, rfl, .inl ⟨o, hd, upd_same⟩, isDs_reverse (IsDs.sub (hsub_upd (hsub_none r.sub ht)) _ _ h2)⟩
  · split at z
    · rename_i e1
      obtain ⟨p, xs, rfl, h1, h2⟩ := lstOf_ok r q e1
      exact .inl ⟨p, xs, rfl, h1, fun t ht => mkL_ok r hn z (paired_rev h2) ht⟩
    · exact z.elim
theorem fk_neg {ca : E} (ha : PE X a (tE X.K cl G W ca)) : PE X (.UnaryOp .USub a pos) (tE X.K cl G W (.neg ca)) := by
  refine PE.weak (pe_un un_neg ha) fun σ H Q h => ?_
  have h : tV X.K cl W (fun n ρ M => ev G n ρ M (.neg ca)) σ H Q := h
  simp only [ev] at h
  refine (tV.one h).imp fun u H1 hh => ?_
  obtain ⟨n, F, π, M, v, E, r, hn, q, z⟩ := hh
  dsimp only at z
  split at z
  · cases q
    exact ⟨_, rfl, RV.here r z rfl⟩
  · exact z.elim
theorem fk_cmp {o : COp} {ca cb : E} (hu : X.A.units + 65 < cLine) (wp : Wp cl X) (ha : PE X a (tE X.K cl G W ca)) (hb : PE X b (tE X.K cl G W cb)) (hm : behindInMarks (cop o) b = false) : PE X (.Compare a [cop o] [b] pos) (tE X.K cl G W (.cmp o ca cb)) := by
  refine PE.weak (pe_cmpR (op_cmp (cl := cl) o hu wp) ha hb hm) fun σ H Q h => ?_
  have h : tV X.K cl W (fun n ρ M => ev G n ρ M (.cmp o ca cb)) σ H Q := h
  simp only [ev] at h
  exact tV.two (k := fun _ M a b => cmpO o M a b) h
theorem fk_one {op} {c : E} (h : PE X a (tE X.K cl G W c)) : PE X (.BoolOp op [a] pos) (tE X.K cl G W c) := pe_one h
theorem fk_and {rest : List Expr} {ca cb : E} (ha : PE X a (tE X.K cl G W ca)) (hb : PE X (.BoolOp .And (b :: rest) pos) (tE X.K cl G W cb)) : PE X (.BoolOp .And (a :: b :: rest) pos) (tE X.K cl G W (.and ca cb)) := by
  refine PE.weak (pe_and ha hb) fun σ H Q ⟨n, F, π, M, ρ, s, h⟩ => ?_
  simp only [ev] at h
  refine ⟨n, F, π, M, ρ, s, RV.bindV s.rel h fun v F1 π1 M1 H1 u x q z => ?_⟩
  split at z
  · cases q
    exact ⟨true, rfl, n, F1, π1, M1, ρ, s.next x, z⟩
  · cases q
    exact ⟨false, rfl, RV.here x.rel z rfl⟩
  · exact z.elim
theorem fk_or {rest : List Expr} {ca cb : E} (ha : PE X a (tE X.K cl G W ca)) (hb : PE X (.BoolOp .Or (b :: rest) pos) (tE X.K cl G W cb)) : PE X (.BoolOp .Or (a :: b :: rest) pos) (tE X.K cl G W (.or ca cb)) := by
  refine PE.weak (pe_or ha hb) fun σ H Q ⟨n, F, π, M, ρ, s, h⟩ => ?_
  simp only [ev] at h
  refine ⟨n, F, π, M, ρ, s, RV.bindV s.rel h fun v F1 π1 M1 H1 u x q z => ?_⟩
  split at z
  · cases q
    exact ⟨true, rfl, RV.here x.rel z rfl⟩
  · cases q
    exact ⟨false, rfl, n, F1, π1, M1, ρ, s.next x, z⟩
  · exact z.elim
theorem fk_not {ca : E} (ha : PE X a (tE X.K cl G W ca)) : PE X (.UnaryOp .Not a pos) (tE X.K cl G W (.not ca)) := by
  refine PE.weak (pe_not ha) fun σ H Q h => ?_
  have h : tV X.K cl W (fun n ρ M => ev G n ρ M (.not ca)) σ H Q := h
  simp only [ev] at h
  refine (tV.one h).imp fun u H1 hh => ?_
  obtain ⟨n, F, π, M, v, E, r, hn, q, z⟩ := hh
  dsimp only at z
  split at z
  · cases q
    exact ⟨_, rfl, RV.here r z rfl⟩
  · exact z.elim
theorem fk_ite {c : Expr} {ct : T} {ca cb : E} (hc : PT X c (tT X.K cl G W ct)) (ha : PE X a (tE X.K cl G W ca)) (hb : PE X b (tE X.K cl G W cb)) : PE X (.IfExp c a b pos) (tE X.K cl G W (.ite ct ca cb)) := by
  refine PE.weak (pe_ifExp hc ha hb) fun σ H Q ⟨n, F, π, M, ρ, s, h⟩ => ?_
  simp only [ev] at h
  refine ⟨n, F, π, M, ρ, s, RB.bindV s.rel h fun v F1 π1 M1 H1 x z => ?_⟩
  cases v with
  | true => exact ⟨n, F1, π1, M1, ρ, s.next x, z⟩
  | false => exact ⟨n, F1, π1, M1, ρ, s.next x, z⟩
/-! ### tests -/
theorem truth_ok {K : PySem.W.Frag} {n : Nat} {F : Hp} {π : List Addr} {M : Mem} {H : Hp} {v : V} {w : Val} {t : Bool} (r : Rel K cl F π M H) (h : IsV K cl F π v w) (e : truthV M w = some t) : TruV K v H t := by
  have hl := lim_eq
  cases w with
  | d x =>
    cases x with
    | none => cases h; cases e; rfl
    | bool b => cases h; cases e; rfl
    | int i => cases h; cases e; rfl
    | str y =>
      cases h
      simp only [truthV] at e
      split at e
      · cases e
        exact ⟨by rw [← hl]; assumption, rfl⟩
      · cases e
    | list ds =>
      simp only [IsV, IsD] at h
      obtain ⟨a, xs, rfl, h1, h2⟩ := h
      simp only [truthV, Option.some.injEq] at e
      refine .inl ⟨xs, sqL_sub r.sub h1, ?_⟩
      rw [← e]
      have := isDs_len h2
      cases xs <;> cases ds <;> simp_all
    | tuple ds =>
      simp only [IsV, IsD] at h
      obtain ⟨a, xs, rfl, h1, h2⟩ := h
      simp only [truthV, Option.some.injEq] at e
      refine .inr (.inl ⟨xs, h1.sq r.sub, ?_⟩)
      rw [← e]
      have := isDs_len h2
      cases xs <;> cases ds <;> simp_all
    | dict _ => cases e
  | p k =>
    obtain ⟨a, h1, rfl⟩ := h
    simp only [truthV] at e
    split at e
    · rename_i vs hM
      cases e
      obtain ⟨⟨xs, g1, g2⟩, _⟩ := r.cell k _ a hM h1 rfl
      refine .inl ⟨xs, .inl (.inl g1), ?_⟩
      have := g2.length
      cases xs <;> cases vs <;> simp_all
    · cases e
  | x c fs => cases e
theorem fk_val {c : E} (ha : PE X a (tE X.K cl G W c)) (he : ∀ whole, isTrue a X.env whole = (do let v ← whole; standAt a.pos; holding [v] (truthy v))) : PT X a (tT X.K cl G W (.val c)) := by
  refine PT.weak (pt_truth ha he) fun σ H Q ⟨n, F, π, M, ρ, s, h⟩ => ?_
  simp only [evT] at h
  refine ⟨n, F, π, M, ρ, s, RV.bindB s.rel h fun v F1 π1 M1 H1 u x q z => ?_⟩
  cases e : truthV M1 v with
  | none => rw [e] at z; exact z.elim
  | some t =>
    rw [e] at z
    exact ⟨t, truth_ok (n := n) x.rel q e, z F1 π1 H1 (Nxt.refl x.rel)⟩
/-- a comparison as a test -/
theorem fk_valC {o : COp} {ca cb : E} (hu : X.A.units + 65 < cLine) (wp : Wp cl X) (ha : PE X a (tE X.K cl G W ca)) (hb : PE X b (tE X.K cl G W cb)) (hm : behindInMarks (cop o) b = false) : PT X (.Compare a [cop o] [b] pos) (tT X.K cl G W (.val (.cmp o ca cb))) := by
  refine PT.weak (pt_cmpR (op_cmp (cl := cl) o hu wp) ha hb hm) fun σ H Q ⟨n, F, π, M, ρ, s, h⟩ => ?_
  simp only [evT, ev] at h
  refine tV.two (k := fun _ M a b => cmpO o M a b) (W := W) ⟨n, F, π, M, ρ, s, ?_⟩
  dsimp only
  cases e1 : ev G n ρ M ca with
  | bad => rw [e1] at h; exact h.elim
  | exc x M1 => rw [e1] at h; exact h
  | ok v M1 =>
    rw [e1] at h
    simp only [Out.bind_ok] at h ⊢
    cases e2 : ev G n ρ M1 cb with
    | bad => rw [e2] at h; exact h.elim
    | exc x M2 => rw [e2] at h; exact h
    | ok v2 M2 =>
      rw [e2] at h
      simp only [Out.bind_ok, cmpO] at h ⊢
      cases e3 : cmpV o M2 v v2 with
      | none => rw [e3] at h; exact h.elim
      | some t =>
        rw [e3] at h
        simp only [Out.bind_ok, truthV, Out.of_some] at h
        intro F' π' H' u x q
        cases q
        exact ⟨t, rfl, h F' π' H' x⟩
theorem fk_tAnd1 {c : T} (ha : PT X a (tT X.K cl G W c)) : PW X (.BoolOp .And [a] pos) (tT X.K cl G W c) := pw_and1 ha
theorem fk_tOr1 {c : T} (ha : PT X a (tT X.K cl G W c)) : PW X (.BoolOp .Or [a] pos) (tT X.K cl G W c) := pw_or1 ha
theorem fk_tAnd {rest : List Expr} {ca cb : T} (ha : PT X a (tT X.K cl G W ca)) (hb : PW X (.BoolOp .And (b :: rest) pos) (tT X.K cl G W cb)) : PW X (.BoolOp .And (a :: b :: rest) pos) (tT X.K cl G W (.and ca cb)) := by
  refine PW.weak (pw_and ha hb) fun σ H Q ⟨n, F, π, M, ρ, s, h⟩ => ?_
  simp only [evT] at h
  refine ⟨n, F, π, M, ρ, s, RB.bindB s.rel h fun v F1 π1 M1 H1 x z => ?_⟩
  cases v with
  | true => exact ⟨n, F1, π1, M1, ρ, s.next x, z⟩
  | false => exact z F1 π1 H1 (Nxt.refl x.rel)
theorem fk_tOr {rest : List Expr} {ca cb : T} (ha : PT X a (tT X.K cl G W ca)) (hb : PW X (.BoolOp .Or (b :: rest) pos) (tT X.K cl G W cb)) : PW X (.BoolOp .Or (a :: b :: rest) pos) (tT X.K cl G W (.or ca cb)) := by
  refine PW.weak (pw_or ha hb) fun σ H Q ⟨n, F, π, M, ρ, s, h⟩ => ?_
  simp only [evT] at h
  refine ⟨n, F, π, M, ρ, s, RB.bindB s.rel h fun v F1 π1 M1 H1 x z => ?_⟩
  cases v with
  | true => exact z F1 π1 H1 (Nxt.refl x.rel)
  | false => exact ⟨n, F1, π1, M1, ρ, s.next x, z⟩
theorem fk_tNot {ca : T} (ha : PT X a (tT X.K cl G W ca)) : PT X (.UnaryOp .Not a pos) (tT X.K cl G W (.not ca)) := by
  refine PT.weak (pt_not ha) fun σ H Q ⟨n, F, π, M, ρ, s, h⟩ => ?_
  simp only [evT] at h
  exact ⟨n, F, π, M, ρ, s, RB.bindB s.rel h fun v F1 π1 M1 H1 x z => z F1 π1 H1 (Nxt.refl x.rel)⟩
end
end Fk

/-! FkIt: what a loop walks; targets; comprehensions. -/
namespace Fk
open PySem PySem.Spec PyProof.Rows L2
section
variable (K : PySem.W.Frag) (cl : Cl)
def Kept (g : Option Nat) (M0 M : Mem) : Prop := match g with
  | none => True
  | some k => M[k]? = M0[k]?
def IsI (F : Hp) (π : List Addr) (H : Hp) (x : V) : Itm → Prop
  | .v w => IsV K cl F π x w
  | .t ds => ∃ T xs, x = .ref T ∧ H T = some (.tup xs) ∧ IsDs K F xs ds
def Walks (F0 : Hp) (π0 : List Addr) (g : Option Nat) (M0 : Mem) (J : It) (items : List Itm) : Prop := ∀ n F π M H, Rel K cl F π M H → n ≤ M.length → HSub F0 F → (∃ t, π = π0 ++ t) → Kept g M0 M →
  ∀ i, (items.length ≤ i → J.stop i H) ∧ (∀ v, items[i]? = some v → J.go i H ∧ ∀ x H', J.yld i H x H' → ∃ F', Nxt K cl n F π M H F' π M H' ∧ IsI K cl F' π H' x v)
def RI (n : Nat) (F : Hp) (π : List Addr) (M : Mem) (H : Hp) (o : Out (List Itm × Option Nat)) (R : It → Hp → Prop) (E : XK) : Prop := match o with
  | .ok ig M' => ∀ F' π' H' J, Nxt K cl n F π M H F' π' M' H' → ig.1.length ≤ sizeLine → Walks K cl F' π' ig.2 M' J ig.1 → R J H'
  | .exc e M' => ∀ F' π' H' cls d, Nxt K cl n F π M H F' π' M' H' → IsE K cl F' cls d e → E cls d H'
  | .bad => False
def tIt (G : Gam) (W : WX) (c : I) : TI := fun σ H R => ∃ n F π M ρ, Sta K cl n F π M ρ σ H ∧ RI K cl n F π M H (evI G n ρ M c) R (atW W σ)
end
section
variable {K : PySem.W.Frag} {cl : Cl} {n : Nat} {F F' F1 : Hp} {π π' π1 : List Addr} {M M' M1 : Mem} {H H' H1 : Hp} {ρ : Slots} {σ : L2.St} {W : WX}
theorem RI.trans (r : Rel K cl F π M H) (x : Nxt K cl n F π M H F1 π1 M1 H1) {o : Out (List Itm × Option Nat)} {R : It → Hp → Prop} {E : XK} (h : RI K cl n F π M H o R E) : RI K cl n F1 π1 M1 H1 o R E := by
  cases o with
  | ok v M' => exact fun F' π' H' J y => h F' π' H' J (x.trans r y)
  | exc e M' => exact fun F' π' H' c d y q => h F' π' H' c d (x.trans r y) q
  | bad => exact h
theorem RV.bindI (r : Rel K cl F π M H) {o : Out Val} {f : Val → Mem → Out (List Itm × Option Nat)} {R : It → Hp → Prop} {Q' : VK} {E : XK} (h : RI K cl n F π M H (o.bind f) R E)
    (g : ∀ v F1 π1 M1 H1 u, Nxt K cl n F π M H F1 π1 M1 H1 → IsV K cl F1 π1 u v → RI K cl n F1 π1 M1 H1 (f v M1) R E → Q' u H1) : RV K cl n F π M H o Q' E := by
  cases o with
  | ok v M' => exact fun F' π' H' u y q => g v F' π' M' H' u y q (RI.trans r y h)
  | exc e M' => exact h
  | bad => exact h
theorem RVs.bindI (r : Rel K cl F π M H) {o : Out (List Val)} {f : List Val → Mem → Out (List Itm × Option Nat)} {R : It → Hp → Prop} {Q' : List V → Hp → Prop} {E : XK} (h : RI K cl n F π M H (o.bind f) R E)
    (g : ∀ v F1 π1 M1 H1 u, Nxt K cl n F π M H F1 π1 M1 H1 → IsVs K cl F1 π1 u v → RI K cl n F1 π1 M1 H1 (f v M1) R E → Q' u H1) : RVs K cl n F π M H o Q' E := by
  cases o with
  | ok v M' => exact fun F' π' H' u y q => g v F' π' M' H' u y q (RI.trans r y h)
  | exc e M' => exact h
  | bad => exact h
/-! ### the sources -/
def ListAt (K : PySem.W.Frag) (cl : Cl) (F0 : Hp) (π0 : List Addr) (g : Option Nat) (M0 : Mem) (a : Addr) (vs : List Val) : Prop := ∀ F π M H, Rel K cl F π M H → HSub F0 F → (∃ t, π = π0 ++ t) → Kept g M0 M → ∃ xs, SqL K H a xs ∧ IsVs K cl F π xs vs
theorem listAt_of (r : Rel K cl F π M H) {v : V} {w : Val} {vs : List Val} (h : IsV K cl F π v w) (e : lstOf M w = some vs ∨ (∃ k, w = .p k ∧ M[k]? = some (.ro vs))) : ∃ a, v = .ref a ∧ ListAt K cl F π (gdOf w) M a vs := by
  rcases e with e | ⟨k, rfl, hM⟩
  · cases w with
    | d x =>
      cases x with
      | list ds =>
        simp only [lstOf, Option.some.injEq] at e; subst e
        simp only [IsV, IsD] at h
        obtain ⟨a, xs, rfl, h1, h2⟩ := h
        exact ⟨a, rfl, fun F' π' M' H' r' s p k => ⟨xs, sqL_sub r'.sub (sqL_sub s h1), isVs_of_D (IsDs.sub s _ _ h2)⟩⟩
      | none => cases e
      | tuple _ => cases e
      | bool _ => cases e
      | int _ => cases e
      | str _ => cases e
      | dict _ => cases e
    | p k =>
      obtain ⟨a, h1, rfl⟩ := h
      simp only [lstOf] at e
      cases hM : M[k]? with
      | none => rw [hM] at e; cases e
      | some c =>
        rw [hM] at e
        cases c with
        | lst ws =>
          simp only [Option.some.injEq] at e; subst e
          refine ⟨a, rfl, fun F' π' M' H' r' s p kp => ?_⟩
          have hM' : M'[k]? = some (.lst ws) := (show M'[k]? = M[k]? from kp).trans hM
          obtain ⟨t, rfl⟩ := p
          obtain ⟨⟨xs, g1, g2⟩, _⟩ := r'.cell k _ a hM' (pre_get h1) rfl
          exact ⟨xs, .inl (.inl g1), g2⟩
        | ro ws => cases e
        | dead => cases e
        | dict _ => cases e
        | ins _ _ => cases e
    | x c fs => cases e
  · obtain ⟨a, h1, rfl⟩ := h
    refine ⟨a, rfl, fun F' π' M' H' r' s p kp => ?_⟩
    have hM' : M'[k]? = some (.ro vs) := (show M'[k]? = M[k]? from kp).trans hM
    obtain ⟨t, rfl⟩ := p
    obtain ⟨⟨o, xs, g1, g2⟩, _⟩ := r'.cell k _ a hM' (pre_get h1) rfl
    exact ⟨xs, .inl (.inr ⟨o, g1⟩), g2⟩
theorem seqL_inj {X : Cx} {pins : List (Addr × Obj)} {σ : L2.St} {s : Shared} {a : Addr} {xs ys : List V} (I : Inv X pins σ H s) (h : SqL X.K H a xs) (h' : SqL X.K H a ys) : xs = ys := I.list_inj h h'
theorem walks_list {g : Option Nat} {M0 : Mem} {a : Addr} {vs : List Val} (h : ListAt K cl F π g M0 a vs) : Walks K cl F π g M0 (Itl K a) (vs.map Itm.v) := by
  intro n F' π' M' H' r hn s p k i
  obtain ⟨xs, q, q2⟩ := h F' π' M' H' r s p k
  refine ⟨fun hi => ⟨xs, q, by rw [q2.length]; simpa using hi⟩, fun v hv => ?_⟩
  rw [List.getElem?_map] at hv
  cases hvs : vs[i]? with
  | none => rw [hvs] at hv; cases hv
  | some w =>
    rw [hvs] at hv; cases hv
    obtain ⟨x, hx, hxv⟩ := paired_at q2 hvs
    refine ⟨⟨xs, x, q, hx⟩, fun y H'' hy => ?_⟩
    obtain ⟨rfl, hy⟩ := hy
    have := hy xs q
    rw [hx] at this; cases this
    exact ⟨F', Nxt.refl r, hxv⟩
theorem walks_tup {g : Option Nat} {M0 : Mem} {a : Addr} {xs : List V} {ds : List D} (h : SqT K F a xs) (h2 : IsDs K F xs ds) : Walks K cl F π g M0 (Itt K a) ((ds.map Val.d).map Itm.v) := by
  intro n F' π' M' H' r hn s p k i
  have q : SqT K H' a xs := sqT_sub (s.trans r.sub) h
  have q2 : IsVs K cl F' π' xs (ds.map Val.d) := isVs_of_D (IsDs.sub s _ _ h2)
  refine ⟨fun hi => ⟨xs, q, by rw [q2.length]; simpa using hi⟩, fun v hv => ?_⟩
  rw [List.getElem?_map] at hv
  cases hvs : (ds.map Val.d)[i]? with
  | none => rw [hvs] at hv; cases hv
  | some w =>
    rw [hvs] at hv; cases hv
    obtain ⟨x, hx, hxv⟩ := paired_at q2 hvs
    refine ⟨⟨xs, x, q, hx⟩, fun y H'' hy => ?_⟩
    obtain ⟨rfl, hy⟩ := hy
    have := hy xs q
    rw [hx] at this; cases this
    exact ⟨F', Nxt.refl r, hxv⟩
theorem walks_str {g : Option Nat} {M0 : Mem} (x : Str) : Walks K cl F π g M0 (Its x) ((x.cps.toList.map fun c => Val.d (sgn c)).map Itm.v) := by
  intro n F' π' M' H' r hn s p k i
  refine ⟨fun hi => (show x.cps.size ≤ i by simpa using hi), fun v hv => ?_⟩
  rw [List.map_map, List.getElem?_map] at hv
  cases e : x.cps.toList[i]? with
  | none => rw [e] at hv; cases hv
  | some c =>
    rw [e] at hv
    have hi : i < x.cps.size := by simpa using (List.getElem?_eq_some_iff.mp e).1
    refine ⟨hi, fun y H'' hy => ?_⟩
    obtain ⟨rfl, c', hc', rfl⟩ := hy
    have : some c' = some c := by rw [← hc', ← e]; simp
    cases this
    cases hv
    exact ⟨F', Nxt.refl r, rfl⟩
theorem walks_range {g : Option Nat} {M0 : Mem} (lo : Int) (m : Nat) : Walks K cl F π g M0 (Itr lo m) ((List.range m).map fun (i : Nat) => Itm.v (.d (.int (lo + i)))) := by
  intro n F' π' M' H' r hn s p k i
  refine ⟨fun hi => (show m ≤ i by simpa using hi), fun v hv => ?_⟩
  rw [List.getElem?_map] at hv
  cases e : (List.range m)[i]? with
  | none => rw [e] at hv; cases hv
  | some c =>
    rw [e] at hv
    have hi : i < m := by simpa using (List.getElem?_eq_some_iff.mp e).1
    have : c = i := by
      rw [List.getElem?_range hi] at e; cases e; rfl
    subst this
    cases hv
    refine ⟨hi, fun y H'' hy => ?_⟩
    obtain ⟨rfl, rfl⟩ := hy
    exact ⟨F', Nxt.refl r, rfl⟩
end
section
variable {X : Cx} {cl : Cl} {G : Gam} {W : WX} {e tg : Expr} {pos : Pos}
theorem fi_seq {c : E} (he : PE X e (tE X.K cl G W c)) : PI X tg e (tIt X.K cl G W (.seq c)) := by
  refine ⟨fun pins s σ H R I ⟨n, F, π, M, ρ, st, h⟩ => ?_⟩
  simp only [evI] at h
  refine thn (he.run pins s σ H _ I ⟨n, F, π, M, ρ, st, RV.bindI (Q' := fun u H1 => ∃ v F1 π1 M1, Nxt X.K cl n F π M H F1 π1 M1 H1 ∧ IsV X.K cl F1 π1 u v ∧ RI X.K cl n F1 π1 M1 H1 (Out.of ((itemsOf M1 v).map fun xs => (xs.map Itm.v, gdOf v)) M1) R (atW W σ)) st.rel h fun v F1 π1 M1 H1 u x q z => ⟨v, F1, π1, M1, x, q, z⟩⟩) fun v s1 ⟨x, H1, I1, r1, w, F1, π1, M1, nx, q, z⟩ => ?_
  have hl := lim_eq
  have r := nx.rel
  cases ei : itemsOf M1 w with
  | none => rw [ei] at z; exact z.elim
  | some items =>
    rw [ei] at z
    have z' : ∀ J, items.length ≤ sizeLine → Walks X.K cl F1 π1 (gdOf w) M1 J (items.map Itm.v) → R J H1 := fun J hz hw => z F1 π1 H1 J (Nxt.refl r) (by show (items.map Itm.v).length ≤ _; rw [List.length_map]; exact hz) hw
    have oneL : ∀ a, x = .ref a → ListAt X.K cl F1 π1 (gdOf w) M1 a items → wpAny (model X.prog X.w) X.A (pyIter v) (PIE X pins σ tg R) X.xe s1 := fun a ea la => by
      subst ea
      cases r1
      obtain ⟨xs, hq, hq2⟩ := la F1 π1 M1 H1 r (.refl _) (pre_refl _) (by cases gdOf w <;> first | trivial | rfl)
      obtain ⟨its, rv, p, hz⟩ := I1.list hq
      refine wpAny_pyIter_list p.isList ?_
      refine ⟨s1.heap.objs.size, [s1.heap.objs.size], _, _, H1, rfl, I1.kept (t' := s1.toks) fun b o e => Heap.get?_push_of_some _ e, turn_list a _, ⟨_, Heap.get?_push_size _ rfl, rfl, rfl⟩, fun b hb => ?_, z' _ (by rw [← hq2.length]; exact hz) (walks_list la)⟩
      have e : b = s1.heap.objs.size := by simpa using hb
      subst e
      exact I1.fpOk (Nat.le_refl _) (I1.hok.fresh (Nat.le_refl _))
    cases w with
    | d y =>
      cases y with
      | str t =>
        cases q
        simp only [itemsOf] at ei
        split at ei
        · rename_i hle
          cases ei
          obtain ⟨tk, rfl⟩ := r1
          have hz : (t.cps.toList.map fun c => Val.d (sgn c)).length ≤ sizeLine := by
            rw [List.length_map, ← hl]; exact hle
          have qq := z' _ hz (walks_str t)
          cases ha : t.cps.all (· < 128)
          · exact wpAny_pyIter_wide ha (pi_one (tk := s1.toks) I1 _ (turn_str _ t tk "str_iterator" (.inr rfl)) ⟨_, Heap.get?_push_size _ rfl, rfl, rfl⟩ qq)
          · exact wpAny_pyIter_ascii ha (pi_one (tk := s1.toks) I1 _ (turn_str _ t tk "str_ascii_iterator" (.inl rfl)) ⟨_, Heap.get?_push_size _ rfl, rfl, rfl⟩ qq)
        · cases ei
      | list ds =>
        simp only [itemsOf, seqOf, Option.some.injEq] at ei; subst ei
        obtain ⟨a, ea, la⟩ := listAt_of (vs := ds.map Val.d) r q (.inl rfl)
        exact oneL a ea la
      | tuple ds =>
        simp only [itemsOf, seqOf, Option.some.injEq] at ei; subst ei
        simp only [IsV, IsD] at q
        obtain ⟨a, xs, rfl, h1, h2⟩ := q
        cases r1
        have hq : SqT X.K H1 a xs := h1.sq r.sub
        obtain ⟨its, rv, p, hz⟩ := I1.tuple hq
        refine wpAny_pyIter_tuple (show s1.heap.IsTuple a its.toArray from p) ?_
        refine ⟨s1.heap.objs.size, [s1.heap.objs.size], _, _, H1, rfl, I1.kept (t' := s1.toks) fun b o e => Heap.get?_push_of_some _ e, turn_tuple a _, ⟨_, Heap.get?_push_size _ rfl, rfl, rfl⟩, fun b hb => ?_, z' _ (by rw [List.length_map, ← isDs_len h2]; exact hz) (walks_tup (h1.sq (.refl _)) h2)⟩
        have e : b = s1.heap.objs.size := by simpa using hb
        subst e
        exact I1.fpOk (Nat.le_refl _) (I1.hok.fresh (Nat.le_refl _))
      | none => cases ei
      | bool _ => cases ei
      | int _ => cases ei
      | dict _ => cases ei
    | p k =>
      simp only [itemsOf, seqOf] at ei
      cases hM : M1[k]? with
      | none => rw [hM] at ei; cases ei
      | some c =>
        rw [hM] at ei
        cases c with
        | lst ws =>
          simp only [Option.some.injEq] at ei; subst ei
          obtain ⟨a, ea, la⟩ := listAt_of (vs := ws) r q (.inl (by simp only [lstOf, hM]))
          exact oneL a ea la
        | ro ws =>
          simp only [Option.some.injEq] at ei; subst ei
          obtain ⟨a, ea, la⟩ := listAt_of r q (.inr ⟨k, rfl, hM⟩)
          exact oneL a ea la
        | dead => cases ei
        | dict _ => cases ei
        | ins _ _ => cases ei
    | x c fs => cases ei
theorem range_len (m : Nat) (f : Nat → Itm) : ((List.range m).map f).length = m := by rw [List.length_map, List.length_range]
theorem fi_rng1 {a : Expr} {c : E} {p : Pos} (hg : Gl X "range") (hm : X.mg "range" = none) (ha : PE X a (tE X.K cl G W c)) (hs : starEach [a] X.env = [(false, eval a X.env)]) : PI X tg (.Call (.Name "range" p) [a] [] pos) (tIt X.K cl G W (.rng1 c)) := by
  have base := pi_range1 (tg := tg) (p := p) (pos := pos) hg hm (pa_cons ha pa_nil hs) hs
  refine ⟨fun pins s σ H R I ⟨n, F, π, M, ρ, st, h⟩ => base.run pins s σ H R I ?_⟩
  simp only [evI] at h
  refine ⟨n, F, π, M, ρ, st, RV.bindI st.rel h fun v F1 π1 M1 H1 u x q z => ?_⟩
  have hl := lim_eq
  cases er : rng1V v with
  | none => rw [er] at z; exact z.elim
  | some items =>
    rw [er] at z
    unfold rng1V at er
    split at er
    · split at er
      · rename_i j hle
        cases er
        cases q
        have h2 : j ≤ 16777216 := hle.2
        refine ⟨j, rfl, hle.1, by omega, ?_⟩
        refine z F1 π1 H1 (Itr 0 j.toNat) (Nxt.refl x.rel) ?_ (walks_range 0 j.toNat)
        show ((List.range j.toNat).map _).length ≤ _
        rw [range_len, ← hl]
        show j.toNat ≤ 16777216
        omega
      · cases er
    · cases er
theorem fi_rng2 {a b : Expr} {c d : E} {p : Pos} (hg : Gl X "range") (hm : X.mg "range" = none) (ha : PE X a (tE X.K cl G W c)) (hb : PE X b (tE X.K cl G W d)) (hs : starEach [a, b] X.env = [(false, eval a X.env), (false, eval b X.env)]) (hs2 : starEach [b] X.env = [(false, eval b X.env)]) : PI X tg (.Call (.Name "range" p) [a, b] [] pos) (tIt X.K cl G W (.rng2 c d)) := by
  have base := pi_range2 (tg := tg) (p := p) (pos := pos) hg hm (pa_cons ha (pa_cons hb pa_nil hs2) (by rw [hs, hs2])) hs hs2
  refine ⟨fun pins s σ H R I ⟨n, F, π, M, ρ, st, h⟩ => base.run pins s σ H R I ?_⟩
  simp only [evI] at h
  refine ⟨n, F, π, M, ρ, st, RV.bindI st.rel h fun v F1 π1 M1 H1 u x q z => ?_⟩
  refine ⟨n, F1, π1, M1, ρ, st.next x, RV.bindI x.rel z fun v2 F2 π2 M2 H2 u2 x2 q2 z => ?_⟩
  have hl := lim_eq
  cases er : rng2V v v2 with
  | none => rw [er] at z; exact z.elim
  | some items =>
    rw [er] at z
    unfold rng2V at er
    split at er
    · split at er
      · rename_i i j hle
        cases er
        cases q
        cases q2
        have h2 : j - i ≤ 16777216 := hle.2.2.2.2
        refine ⟨i, j, rfl, ⟨hle.1, hle.2.1, hle.2.2.1, hle.2.2.2.1⟩, ?_⟩
        refine z F2 π2 H2 (Itr i (j - i).toNat) (Nxt.refl x2.rel) ?_ (walks_range i (j - i).toNat)
        show ((List.range (j - i).toNat).map _).length ≤ _
        rw [range_len, ← hl]
        show (j - i).toNat ≤ 16777216
        omega
      · cases er
    · cases er
theorem walks_enum {K : PySem.W.Frag} {F : Hp} {π : List Addr} {g : Option Nat} {M0 : Mem} {a : Addr} {ds : List D} (h : ListAt K cl F π g M0 a (ds.map Val.d)) : Walks K cl F π g M0 (Ite K a) ((List.range ds.length).zipWith (fun (i : Nat) x => Itm.t [.int i, x]) ds) := by
  intro n F' π' M' H' r hn s p k i
  obtain ⟨xs, q, q2⟩ := h F' π' M' H' r s p k
  have ql := q2.length
  rw [List.length_map] at ql
  refine ⟨fun hi => ⟨xs, q, by simp at hi; omega⟩, fun v hv => ?_⟩
  rw [List.getElem?_zipWith] at hv
  cases e1 : (List.range ds.length)[i]? with
  | none => rw [e1] at hv; cases hv
  | some i' =>
    rw [e1] at hv
    cases e2 : ds[i]? with
    | none => rw [e2] at hv; cases hv
    | some d =>
      rw [e2] at hv
      have hi : i < ds.length := (List.getElem?_eq_some_iff.mp e2).1
      have : i' = i := by
        rw [List.getElem?_range hi] at e1; cases e1; rfl
      subst this
      cases hv
      obtain ⟨x, hx, hxv⟩ := paired_at q2 (show (ds.map Val.d)[i']? = some (.d d) by rw [List.getElem?_map, e2]; rfl)
      refine ⟨⟨xs, x, q, hx⟩, fun y H'' hy => ?_⟩
      obtain ⟨T, x', rfl, hT, rfl, f⟩ := hy
      have := f xs q
      rw [hx] at this; cases this
      refine ⟨F', Nxt.newP r _ hT, T, _, rfl, upd_same, ?_⟩
      simp only [IsDs, IsD]
      exact ⟨trivial, hxv, trivial⟩
theorem fi_enm {c : E} {p tpos : Pos} {elts : List Expr} {kk : Nat} (hg : Gl X "enumerate") (hm : X.mg "enumerate" = none) (ha : PE X e (tE X.K cl G W c)) (hs : starEach [e] X.env = [(false, eval e X.env)]) : PI X (.Tuple elts kk tpos) (.Call (.Name "enumerate" p) [e] [] pos) (tIt X.K cl G W (.enm c)) := by
  have base := pi_enum (p := p) (pos := pos) (elts := elts) (kk := kk) (tpos := tpos) hg hm (pa_cons ha pa_nil hs) hs
  refine ⟨fun pins s σ H R I ⟨n, F, π, M, ρ, st, h⟩ => base.run pins s σ H R I ?_⟩
  simp only [evI] at h
  refine ⟨n, F, π, M, ρ, st, RV.bindI st.rel h fun v F1 π1 M1 H1 u x q z => ?_⟩
  cases e1 : lstOf M1 v with
  | none => rw [e1] at z; exact z.elim
  | some vs =>
    rw [e1] at z
    obtain ⟨a, rfl, la⟩ := listAt_of x.rel q (.inl e1)
    obtain ⟨xs, q1, q2⟩ := la F1 π1 M1 H1 x.rel (.refl _) (pre_refl _) (by cases gdOf v <;> first | trivial | rfl)
    cases e2 : allD vs with
    | none => simp only [Option.bind_some, idxs, e2] at z; exact z.elim
    | some ds =>
      have evs : vs = ds.map Val.d := by
        clear z q q2 la e1
        induction vs generalizing ds with
        | nil => cases e2; rfl
        | cons w r ih =>
          cases w with
          | d y =>
            simp only [allD, Option.map_eq_some_iff] at e2
            obtain ⟨ds', e3, rfl⟩ := e2
            rw [ih ds' e3]; rfl
          | p k => cases e2
          | x c fs => cases e2
      subst evs
      simp only [Option.bind_some, idxs, e2] at z
      by_cases hz : ds.length ≤ lim
      · rw [if_pos hz] at z
        simp only [Option.map_some, Out.of_some] at z
        refine ⟨a, xs, rfl, q1, ?_⟩
        refine z F1 π1 H1 (Ite X.K a) (Nxt.refl x.rel) ?_ (walks_enum la)
        show (List.zipWith _ _ _).length ≤ sizeLine
        rw [List.length_zipWith, List.length_range, Nat.min_self, ← lim_eq]
        exact hz
      · rw [if_neg hz] at z; exact z.elim
theorem zips_get {xs ys : List D} {i : Nat} {v : Itm} (h : (zips xs ys)[i]? = some v) : ∃ x y, xs[i]? = some x ∧ ys[i]? = some y ∧ v = .t [x, y] := by
  unfold zips at h
  rw [List.getElem?_zipWith] at h
  cases e1 : xs[i]? with
  | none => rw [e1] at h; cases h
  | some x =>
    cases e2 : ys[i]? with
    | none => rw [e1, e2] at h; cases h
    | some y =>
      rw [e1, e2] at h
      cases h
      exact ⟨x, y, rfl, rfl, rfl⟩
theorem walks_zipL {K : PySem.W.Frag} {F : Hp} {π : List Addr} {g : Option Nat} {M0 : Mem} {a b : Addr} {us ws : List V} {xs ys : List D} (h : SqL K F a us) (h' : SqL K F b ws) (hx : IsDs K F us xs) (hy : IsDs K F ws ys) : Walks K cl F π g M0 (Itz K a b) (zips xs ys) := by
  intro n F' π' M' H' r hn s p k i
  have q1 : SqL K H' a us := sqL_sub r.sub (sqL_sub s h)
  have q2 : SqL K H' b ws := sqL_sub r.sub (sqL_sub s h')
  have l1 := isDs_len hx
  have l2 := isDs_len hy
  refine ⟨fun hi => ⟨us, ws, q1, q2, ?_⟩, fun v hv => ?_⟩
  · simp only [zips, List.length_zipWith] at hi; omega
  · obtain ⟨x, y, e1, e2, rfl⟩ := zips_get hv
    obtain ⟨u, hu, hux⟩ := isDs_get hx e1
    obtain ⟨w, hw, hwy⟩ := isDs_get hy e2
    refine ⟨⟨us, ws, u, w, q1, q2, hu, hw⟩, fun z H'' hz => ?_⟩
    obtain ⟨T, x', y', rfl, hT, rfl, f1, f2⟩ := hz
    have := f1 us q1
    rw [hu] at this; cases this
    have := f2 ws q2
    rw [hw] at this; cases this
    refine ⟨F', Nxt.newP r _ hT, T, _, rfl, upd_same, ?_⟩
    simp only [IsDs]
    exact ⟨IsD.sub s _ _ hux, IsD.sub s _ _ hwy, trivial⟩
theorem walks_zipT {K : PySem.W.Frag} {F : Hp} {π : List Addr} {g : Option Nat} {M0 : Mem} {a b : Addr} {us ws : List V} {xs ys : List D} (h : SqT K F a us) (h' : SqT K F b ws) (hx : IsDs K F us xs) (hy : IsDs K F ws ys) : Walks K cl F π g M0 (RZ.ItzT K a b) (zips xs ys) := by
  intro n F' π' M' H' r hn s p k i
  have q1 : SqT K H' a us := sqT_sub (s.trans r.sub) h
  have q2 : SqT K H' b ws := sqT_sub (s.trans r.sub) h'
  have l1 := isDs_len hx
  have l2 := isDs_len hy
  refine ⟨fun hi => ⟨us, ws, q1, q2, ?_⟩, fun v hv => ?_⟩
  · simp only [zips, List.length_zipWith] at hi; omega
  · obtain ⟨x, y, e1, e2, rfl⟩ := zips_get hv
    obtain ⟨u, hu, hux⟩ := isDs_get hx e1
    obtain ⟨w, hw, hwy⟩ := isDs_get hy e2
    refine ⟨⟨us, ws, u, w, q1, q2, hu, hw⟩, fun z H'' hz => ?_⟩
    obtain ⟨T, x', y', rfl, hT, rfl, f1, f2⟩ := hz
    have := f1 us q1
    rw [hu] at this; cases this
    have := f2 ws q2
    rw [hw] at this; cases this
    refine ⟨F', Nxt.newP r _ hT, T, _, rfl, upd_same, ?_⟩
    simp only [IsDs]
    exact ⟨IsD.sub s _ _ hux, IsD.sub s _ _ hwy, trivial⟩
theorem fi_zip {a b : Expr} {c d : E} {p tpos : Pos} {elts : List Expr} {kk : Nat} (hg : Gl X "zip") (hm : X.mg "zip" = none) (ha : PE X a (tE X.K cl G W c)) (hb : PE X b (tE X.K cl G W d))
    (hs : starEach [a, b] X.env = (false, eval a X.env) :: starEach [b] X.env) (hs2 : starEach [b] X.env = (false, eval b X.env) :: starEach [] X.env) : PI X (.Tuple elts kk tpos) (.Call (.Name "zip" p) [a, b] [] pos) (tIt X.K cl G W (.zip c d)) := by
  have base := RZ.pi_zipA (p := p) (pos := pos) (elts := elts) (kk := kk) (tpos := tpos) hg hm (pa_cons ha (pa_cons hb pa_nil hs2) hs) hs (by rw [hs2]; rfl)
  refine ⟨fun pins s σ H R I ⟨n, F, π, M, ρ, st, h⟩ => base.run pins s σ H R I ?_⟩
  simp only [evI] at h
  refine ⟨n, F, π, M, ρ, st, RV.bindI st.rel h fun v F1 π1 M1 H1 u x q z => ?_⟩
  refine ⟨n, F1, π1, M1, ρ, st.next x, RV.bindI x.rel z fun v2 F2 π2 M2 H2 u2 x2 q2 z => ?_⟩
  have q := q.mono x2.fsub x2.pre
  have len : ∀ xs ys : List D, xs.length ≤ lim → (zips xs ys).length ≤ sizeLine := fun xs ys h => by
    rw [← lim_eq]
    simp only [zips, List.length_zipWith]; omega
  split at z
  · simp only [IsV, IsD] at q q2
    obtain ⟨a, us, rfl, h1, h2⟩ := q
    obtain ⟨b, ws, rfl, h3, h4⟩ := q2
    split at z
    · rename_i hz
      exact ⟨a, b, us, ws, rfl, .inl ⟨sqL_sub x2.rel.sub h1, sqL_sub x2.rel.sub h3, z F2 π2 H2 _ (Nxt.refl x2.rel) (len _ _ hz) (walks_zipL h1 h3 h2 h4)⟩⟩
    · exact z.elim
  · simp only [IsV, IsD] at q q2
    obtain ⟨a, us, rfl, h1, h2⟩ := q
    obtain ⟨b, ws, rfl, h3, h4⟩ := q2
    split at z
    · rename_i hz
      exact ⟨a, b, us, ws, rfl, .inr ⟨h1.sq x2.rel.sub, h3.sq x2.rel.sub, z F2 π2 H2 _ (Nxt.refl x2.rel) (len _ _ hz) (walks_zipT (h1.sq (.refl _)) (h3.sq (.refl _)) h2 h4)⟩⟩
    · exact z.elim
  · exact z.elim
end
end Fk

/-! FkLc: targets, list comprehensions. -/
namespace Fk
open PySem PySem.Spec PyProof.Rows L2
def gNames : List Nat → TGs
  | [] => gNil
  | i :: is => gCons (gName i) (gNames is)
def gT (K : PySem.W.Frag) : Tg → TG
  | .one i => gName i
  | .tup is => gTup K is.length (gNames is)
def Tg.slots : Tg → List Nat
  | .one i => [i]
  | .tup is => is
section
variable {K : PySem.W.Frag} {cl : Cl} {n : Nat} {F F' F1 : Hp} {π π' π1 : List Addr} {M M' M1 : Mem} {H H' H1 : Hp} {ρ ρ' : Slots} {σ σ' : L2.St} {W : WX}
theorem Slt.set (s : Slt K cl F π σ ρ) {i : Nat} {v : V} {w : Val} (h : IsV K cl F π v w) : Slt K cl F π (σ.set i (some v)) (ρ.set i (some w)) where
  len := by rw [List.length_set, List.length_set, s.len]
  at_ := fun j z e => by
    rw [List.getElem?_set] at e
    by_cases hij : i = j
    · subst hij
      rw [if_pos rfl] at e
      split at e
      · rename_i hl
        cases e
        exact ⟨v, by rw [List.getElem?_set, if_pos rfl, if_pos (by rw [← s.len]; exact hl)], h⟩
      · cases e
    · rw [if_neg hij] at e
      obtain ⟨u, a, b⟩ := s.at_ j z e
      exact ⟨u, by rw [List.getElem?_set, if_neg hij]; exact a, b⟩
theorem Slt.setN (s : Slt K cl F π σ ρ) {i : Nat} : Slt K cl F π (σ.set i none) (ρ.set i none) where
  len := by rw [List.length_set, List.length_set, s.len]
  at_ := fun j z e => by
    rw [List.getElem?_set] at e
    by_cases hij : i = j
    · subst hij
      rw [if_pos rfl] at e
      split at e <;> cases e
    · rw [if_neg hij] at e
      obtain ⟨u, a, b⟩ := s.at_ j z e
      exact ⟨u, by rw [List.getElem?_set, if_neg hij]; exact a, b⟩
theorem Slt.wipe (s : Slt K cl F π σ ρ) : ∀ vs : List Nat, Slt K cl F π (L2.wipe σ vs) (wipeS ρ vs)
  | [] => s
  | v :: vs => (Slt.wipe s vs).setN
theorem wipe_get (σ : L2.St) (j : Nat) : ∀ vs : List Nat, (L2.wipe σ vs)[j]? = if j ∈ vs then (if j < σ.length then some none else none) else σ[j]?
  | [] => by simp [L2.wipe]
  | v :: vs => by
    show ((L2.wipe σ vs).set v none)[j]? = _
    rw [List.getElem?_set, wipe_get σ j vs]
    have hl := wipe_length σ vs
    by_cases e : v = j
    · subst e
      rw [if_pos rfl, if_pos List.mem_cons_self, hl]
    · rw [if_neg e]
      have : (j ∈ v :: vs) ↔ j ∈ vs := ⟨fun h => (List.mem_cons.mp h).resolve_left fun z => e z.symm, List.mem_cons_of_mem _⟩
      simp only [this]
theorem wipe_set {i : Nat} {x : Option V} {vs : List Nat} (h : i ∈ vs) : L2.wipe (σ.set i x) vs = L2.wipe σ vs := by
  apply List.ext_getElem?
  intro j
  rw [wipe_get, wipe_get, List.length_set]
  by_cases hj : j ∈ vs
  · rw [if_pos hj, if_pos hj]
  · rw [if_neg hj, if_neg hj, List.getElem?_set, if_neg (fun e : i = j => hj (by rw [← e]; exact h))]
theorem gNames_ok {Q : L2.St → Hp → Prop} : ∀ {is : List Nat} {ds : List D} {xs : List V} {σ : L2.St} {ρ : Slots}, ds.length = is.length → IsDs K F xs ds → Slt K cl F π σ ρ →
    (∀ σ', Slt K cl F π σ' (setAll is ds ρ) → (∀ vs, (∀ i ∈ is, i ∈ vs) → L2.wipe σ' vs = L2.wipe σ vs) → Q σ' H) → gNames is xs σ H Q
  | [], [], [], σ, ρ, _, _, s, h => ⟨rfl, h σ s fun _ _ => rfl⟩
  | [], [], _ :: _, _, _, _, hd, _, _ => by simp only [IsDs] at hd
  | [], _ :: _, _, _, _, e, _, _, _ => by cases e
  | _ :: _, [], _, _, _, e, _, _, _ => by cases e
  | _ :: _, _ :: _, [], _, _, _, hd, _, _ => by simp only [IsDs] at hd
  | i :: is, d :: ds, x :: xs, σ, ρ, e, hd, s, h => by
    simp only [IsDs] at hd
    refine ⟨x, xs, rfl, ?_⟩
    refine gNames_ok (ρ := ρ.set i (some (.d d))) (by simpa using e) hd.2 (s.set hd.1) fun σ' s' w => h σ' s' fun vs hv => ?_
    rw [w vs fun j hj => hv j (List.mem_cons_of_mem _ hj), wipe_set (hv i List.mem_cons_self)]
theorem gT_ok {tg : Tg} {v : V} {w : Itm} {Q : L2.St → Hp → Prop} (r : Rel K cl F π M H) (e : asg tg w ρ = some ρ') (s : Slt K cl F π σ ρ) (h : IsI K cl F π H v w)
    (hq : ∀ σ', Slt K cl F π σ' ρ' → (∀ vs, (∀ i ∈ tg.slots, i ∈ vs) → L2.wipe σ' vs = L2.wipe σ vs) → Q σ' H) : gT K tg v σ H Q := by
  unfold asg at e
  split at e
  · cases e
    exact hq _ (s.set h) fun vs hv => wipe_set (hv _ (by simp [Tg.slots]))
  · split at e
    · rename_i hl
      cases e
      simp only [IsI, IsV, IsD] at h
      obtain ⟨a, xs, rfl, h1, h2⟩ := h
      exact ⟨a, xs, rfl, h1.sq r.sub, by rw [isDs_len h2, hl], gNames_ok hl h2 s hq⟩
    · cases e
  · split at e
    · rename_i hl
      cases e
      obtain ⟨T, xs, rfl, h1, h2⟩ := h
      exact ⟨T, xs, rfl, .inl (.inl h1), by rw [isDs_len h2, hl], gNames_ok hl h2 s hq⟩
    · cases e
  · cases e
/-- a clause's test -/
def tTo (K : PySem.W.Frag) (cl : Cl) (G : Gam) (W : WX) (t : To) : TT := tBl K cl W fun n ρ M => evoT G n ρ M t
abbrev Wno : WX := fun _ _ _ _ => False
theorem foldC_cons {g : Option Nat} {f : Itm → Mem → Out (Option Val)} {x : Itm} {r : List Itm} {acc : List Val} {M : Mem} : foldC g f (x :: r) acc M = (match f x M with | .ok o M' => guard g M M' (foldC g f r (acc ++ o.toList) M') | _ => .bad) := rfl
theorem guard_rv {g : Option Nat} {M0 M1 : Mem} {o : Out (List Val)} {k : List Val → Mem → Out Val} {Q : VK} {E : XK} (h : RV K cl n F π M H ((guard g M0 M1 o).bind k) Q E) : Kept g M0 M1 ∧ RV K cl n F π M H (o.bind k) Q E := by
  cases g with
  | none => exact ⟨trivial, h⟩
  | some j =>
    unfold guard at h
    dsimp only at h
    split at h
    · rename_i e
      exact ⟨e, h⟩
    · exact h.elim
theorem Kept.trans {g : Option Nat} {M0 M1 M2 : Mem} (a : Kept g M0 M1) (b : Kept g M1 M2) : Kept g M0 M2 := by
  cases g with
  | none => trivial
  | some k => exact (show M2[k]? = M1[k]? from b).trans a
/-- the reading of a comprehension -/
theorem lc_read {G : Gam} {m : Md} {vs : List Nat} {tg : Tg} {ci : I} {t : To} {c : E} {Q : VK} (hv : ∀ i ∈ tg.slots, i ∈ vs) (h : tE K cl G W (.lc m vs tg ci t c) σ H Q) : tLc (tIt K cl G W ci) (gT K tg) (tTo K cl G Wno t) (tE K cl G Wno c) vs σ H Q := by
  obtain ⟨n, F, π, M, ρ, st, h⟩ := h
  simp only [ev] at h
  refine ⟨n, F, π, M, ρ, st, ?_⟩
  cases ei : evI G n ρ M ci with
  | bad => rw [ei] at h; exact h.elim
  | exc e M' => rw [ei] at h; exact h
  | ok ig M1 =>
    rw [ei] at h
    simp only [Out.bind_ok] at h
    obtain ⟨items, g⟩ := ig
    intro F1 π1 H1 J nx hsz hw D hD
    have r1 := nx.rel
    have h := RV.trans st.rel nx h
    have hn1 := (st.next nx).le
    dsimp only at h hw hsz
    -- the invariant
    refine ⟨fun i k H => k = items.length - i ∧ i ≤ items.length ∧ ∃ F2 π2 M2 accV acc, Nxt K cl n F1 π1 M1 H1 F2 π2 M2 H ∧ Priv F2 π2 M2 D ∧ H D = some (.lst acc) ∧ IsVs K cl F2 π2 acc accV ∧ acc.length ≤ i ∧ Kept g M1 M2 ∧
      RV K cl n F1 π1 M1 H1 ((foldC g (stepC ρ vs tg (fun ρ M => evoT G n ρ M t) (fun ρ M => ev G n ρ M c)) (items.drop i) accV M2).bind fun vs M => mkL m vs M) Q (atW W σ), ⟨items.length, rfl, Nat.zero_le _, F1, π1, M1, [], [], ?_, ?_, upd_same, .nil, Nat.le_refl _, ?_, by simpa using h⟩, ?_⟩
    · exact Nxt.privUpd _ (Nxt.refl r1) ⟨hsub_none r1.sub hD, r1.nlive hD⟩ hD
    · exact ⟨hsub_none r1.sub hD, r1.nlive hD⟩
    · cases g <;> first | trivial | rfl
    · rintro i k H2 ⟨rfl, hi, F2, π2, M2, accV, acc, nx2, pv, hDl, hacc, hlen, kp, hr⟩
      have sub1 := nx2.fsub
      have r2 := nx2.rel
      have hn2 : n ≤ M2.length := Nat.le_trans hn1 (nx2.le r1)
      obtain ⟨stop, go⟩ := hw n F2 π2 M2 H2 r2 hn2 nx2.fsub nx2.pre kp i
      by_cases hlt : i < items.length
      · obtain ⟨v, hvi⟩ : ∃ v, items[i]? = some v := ⟨_, List.getElem?_eq_getElem hlt⟩
        obtain ⟨hgo, hy⟩ := go v hvi
        have hdrop : items.drop i = v :: items.drop (i + 1) := by
          rw [List.drop_eq_getElem_cons hlt]
          have : items[i] = v := by
            rw [List.getElem?_eq_getElem hlt] at hvi; exact Option.some.inj hvi
          rw [this]
        rw [hdrop, foldC_cons] at hr
        have hs : stepC ρ vs tg (fun ρ M => evoT G n ρ M t) (fun ρ M => ev G n ρ M c) v M2 = (match asg tg v (wipeS ρ vs) with
          | some ρ' => (evoT G n ρ' M2 t).bind fun b M => if b then (ev G n ρ' M c).bind fun y M => .ok (some y) M else .ok none M
          | none => .bad) := rfl
        rw [hs] at hr
        refine .inr ⟨hgo, fun H' => (∃ k', k' = items.length - (i + 1) ∧ i + 1 ≤ items.length ∧ ∃ F2 π2 M2 accV acc, Nxt K cl n F1 π1 M1 H1 F2 π2 M2 H' ∧ Priv F2 π2 M2 D ∧ H' D = some (.lst acc) ∧ IsVs K cl F2 π2 acc accV ∧ acc.length ≤ i + 1 ∧ Kept g M1 M2 ∧
      RV K cl n F1 π1 M1 H1 ((foldC g (stepC ρ vs tg (fun ρ M => evoT G n ρ M t) (fun ρ M => ev G n ρ M c)) (items.drop (i + 1)) accV M2).bind fun vs M => mkL m vs M) Q (atW W σ)), fun H' hh => ?_, fun x H' hx => ?_⟩
        · obtain ⟨k', hk', rest⟩ := hh
          exact ⟨k', by omega, hk', rest⟩
        · obtain ⟨F3, nx3, hxv⟩ := hy x H' hx
          -- the target
          cases ea : asg tg v (wipeS ρ vs) with
          | none => rw [ea] at hr; exact hr.elim
          | some ρ' =>
            rw [ea] at hr
            dsimp only at hr
            have r3 := nx3.rel
            have nx13 := Nxt.trans r1 nx2 nx3
            have pv3 := Priv.next nx3 pv ⟨_, hDl⟩ r2
            have hD3 : H' D = some (.lst acc) := nx3.fr D _ hDl pv.2
            have sl : Slt K cl F3 π2 (L2.wipe σ vs) (wipeS ρ vs) := ((st.sl.mono (nx.fsub) nx.pre).mono nx13.fsub nx13.pre).wipe vs
            refine gT_ok r3 ea sl hxv fun σ2 s2 hw2 => ⟨?_, ?_⟩
            · rw [hw2 vs hv]
              apply List.ext_getElem?
              intro j
              rw [wipe_get, wipe_get, wipe_length]
              by_cases hj : j ∈ vs
              · rw [if_pos hj, if_pos hj]
              · rw [if_neg hj, if_neg hj]
            · refine ⟨n, F3, π2, M2, ρ', ⟨r3, hn2, s2⟩, ?_⟩
              dsimp only
              cases et : evoT G n ρ' M2 t with
              | bad => rw [et] at hr; exact hr.elim
              | exc e M' => rw [et] at hr; exact hr.elim
              | ok b M3 =>
                rw [et] at hr
                simp only [Out.bind_ok] at hr
                intro F4 π4 H4 nx4
                have r4 := nx4.rel
                have nx14 := Nxt.trans r1 nx13 nx4
                have pv4 := Priv.next nx4 pv3 ⟨_, hD3⟩ r3
                have hD4 : H4 D = some (.lst acc) := nx4.fr D _ hD3 pv3.2
                cases b with
                | false =>
                  simp only [Bool.false_eq_true, if_false] at hr ⊢
                  obtain ⟨kg, hr⟩ := guard_rv hr
                  simp only [Option.toList, List.append_nil] at hr
                  exact ⟨_, rfl, hlt, F4, π4, M3, accV, acc, nx14, pv4, hD4, hacc.mono (nx3.fsub.trans nx4.fsub) nx4.pre, by omega, kp.trans kg, hr⟩
                | true =>
                  simp only [if_true] at hr ⊢
                  refine ⟨n, F4, π4, M3, ρ', ⟨r4, Nat.le_trans hn2 (nx4.le r3), s2.mono nx4.fsub nx4.pre⟩, ?_⟩
                  dsimp only
                  cases ee : ev G n ρ' M3 c with
                  | bad => rw [ee] at hr; exact hr.elim
                  | exc e M' => rw [ee] at hr; exact hr.elim
                  | ok y M5 =>
                    rw [ee] at hr
                    simp only [Out.bind_ok] at hr
                    obtain ⟨kg, hr⟩ := guard_rv hr
                    intro F5 π5 H5 u nx5 hu
                    have nx15 := Nxt.trans r1 nx14 nx5
                    have pv5 := Priv.next nx5 pv4 ⟨_, hD4⟩ r4
                    have hD5 : H5 D = some (.lst acc) := nx5.fr D _ hD4 pv4.2
                    refine ⟨acc, hD5, by omega, _, rfl, hlt, F5, π5, M5, accV ++ [y], acc ++ [u], Nxt.privUpd _ nx15 pv5 hD, pv5, upd_same, ?_, by rw [List.length_append]; simp; omega, kp.trans kg, by simpa using hr⟩
                    exact paired_append (hacc.mono ((nx3.fsub.trans nx4.fsub).trans nx5.fsub) (by
                      obtain ⟨a, rfl⟩ := nx4.pre
                      obtain ⟨b, rfl⟩ := nx5.pre
                      exact ⟨a ++ b, by simp⟩)) (.cons hu .nil)
      · have e : i = items.length := by omega
        subst e
        refine .inl ⟨stop (Nat.le_refl _), ?_⟩
        rw [List.drop_length] at hr
        simp only [foldC, Out.bind_ok] at hr
        cases m with
        | v =>
          simp only [mkL] at hr
          cases ed : allD accV with
          | none => rw [ed] at hr; exact hr.elim
          | some ds =>
            rw [ed] at hr
            refine hr _ _ _ _ (Nxt.privF nx2 pv hD hDl) ?_
            simp only [IsV, IsD]
            exact ⟨D, acc, rfl, .inl (.inl upd_same), IsDs.sub (hsub_upd pv.1) _ _ (isDs_of_V hacc ed)⟩
        | c =>
          refine hr _ _ _ _ (Nxt.privC r1 nx2 hn1 pv hD ⟨acc, hDl, hacc.mono (.refl _) ⟨[D], rfl⟩⟩ rfl) ⟨D, ?_, rfl⟩
          rw [← r2.len, List.getElem?_append_right (Nat.le_refl _), Nat.sub_self]; rfl
end
end Fk

/-! FkG: defs that are called where no repr is under way (the guards are told). -/
namespace Fk
open PySem PySem.Spec PyProof.Rows L2
structure Rm2 (k : Nat) (A : Around) : Prop where
  room : Room k A
  gd : A.guards = some []
theorem Rm2.mono {j k : Nat} {A : Around} (r : Rm2 k A) (h : j ≤ k) : Rm2 j A := ⟨r.room.mono h, r.gd⟩
theorem Rm2.deeper {k : Nat} {A : Around} (r : Rm2 (k + 1) A) (env : Env) : Rm2 k (A.deeper env) := ⟨r.room.deeper env, r.gd⟩
structure FnG (P : Program) (w : World) (K : PySem.W.Frag) (mg : Str → Option Value) (base : Heap) (k : Nat) (f : Addr) (fd : FuncData) (ps : List Str) (sp : Sp) : Prop where
  len : ∀ vs H Q E, sp vs H Q E → vs.length = ps.length
  run : ∀ (A : Around) (out : List Env) (s : Shared) (H : Hp) (args : Args) (us : List Value) (vs : List V) (Q : VK) (E : XK), Rm2 k A → Env0 P w K mg base A out s H → BindsTo s fd args (ps.zip us) → Vals vs us → sp vs H Q E →
    codeAny (model P w) A (.call (.ref f) args) (CR (L2.CX P w) out P w H s Q E) s
theorem fng_of {P : Program} {w : World} {K : PySem.W.Frag} {mg : Str → Option Value} {base : Heap} {k : Nat} {f : Addr} {name qual : Str} {params : Arguments} {body : List Stmt} {scope : Scope} {dV kV doc pm cdv ct oc : Value} {an od : Option Addr}
    {osl : Array (Option Value)} {N ps : List Str} {sp : Sp} (hK : K.lookup f = some ⟨oc, od, .func (PySem.W.fnOf name qual params body scope dV kV doc pm an cdv ct), osl⟩) (hC : PySem.W.codeIn K cdv qual = true) (Sc : FnScope N ps scope)
    (hLen : ∀ vs H Q E, sp vs H Q E → vs.length = ps.length)
    (hB : ∀ (A : Around) (out : List Env) (s : Shared) (H : Hp) (vs : List V) (Q : VK) (E : XK), Rm2 k (A.deeper (envOfC qual scope s.heap.objs.size f cdv)) → sp vs H Q E →
      ∃ t, PSs (cxOf (L2.CX P w) P w K mg base N qual scope f cdv A out s H E) body t ∧ t { nx := fun _ H' => Q .non H', rt := Q } (start N vs) H) :
    FnG P w K mg base (k + 1) f (PySem.W.fnOf name qual params body scope dV kV doc pm an cdv ct) ps sp where
  len := hLen
  run := fun A out s H args us vs Q E rm en bi rel hs => by
    have kin : K.In s.heap := en.mod.kin.keeps fun b o q => (en.bs b o q).1
    have nol : s.heap.NoLimit := en.mod.nolimit.keeps fun b o q => (en.bs b o q).1
    have kinds : ∀ y ∈ ps.zip us, scope.names.lookup y.1 = some .local ∨ (scope.names.lookup y.1 = some .cell ∧ ((cellsFrom (s.heap.objs.size + 1) scope.names []).lookup y.1).isSome = true) := fun ⟨z, _⟩ hz => by
      cases Sc.par z (List.of_mem_zip hz).1 with
      | inl q => exact .inl q
      | inr q => exact .inr ⟨q, PySem.W.cellsFrom_some _ _ _ (.inl q)⟩
    refine codeAny_call_function rm.room.depth (kin _ _ hK) rfl Sc.co Sc.gen rfl (PySem.W.codeRec_of kin hC) (bi _ _ _ _ (wpAny_newFunctionEnv_cells Sc.kind kinds fun env he s1 x => ?_))
    subst he
    refine ⟨nol.keeps x.toInCall.keep, codeAny_func ?_⟩
    obtain ⟨t, pt, ht⟩ := hB A out s H vs Q E (rm.deeper _) hs
    have J0 : Inv (cxOf (L2.CX P w) P w K mg base N qual scope f cdv A out s H E) [] (start N vs) H s1 := inv_start Sc rm.room.hd en (hLen _ _ _ _ hs) rel x
    refine wpAny_mono (pt.run [] s1 (start N vs) H _ J0 ht) (fun fl s' g => ?_) fun _ _ g => g
    cases fl with
    | ret u => obtain ⟨v, σ', H', J, rv, q⟩ := g; exact ⟨v, H', J.os, J.bare, J.base, J.hok, rv, q⟩
    | next => obtain ⟨σ', H', J, q⟩ := g; exact ⟨V.non, H', J.os, J.bare, J.base, J.hok, rfl, q⟩
    | brk => obtain ⟨_, _, _, q⟩ := g; exact q.elim
    | cont => obtain ⟨_, _, _, q⟩ := g; exact q.elim
theorem run_fng {X : Cx} {k : Nat} {f : Addr} {fd : FuncData} {ps : List Str} {sp : Sp} {dvs : List V} {ds : List Value} {E : L2.St → XK} {pins : List (Addr × Obj)} {σ : L2.St} {H : Hp} {s : Shared} {Q : VK} {us : List Value} {vs : List V} (F : FnG X.prog X.w X.K X.mg X.base k f fd ps sp) (rm : Rm2 k X.A)
    (bi : Binds X.K fd ps ds) (rd : Vals dvs ds) (pa : PassesAt (L2.CX X.prog X.w) X σ (E σ)) (I : Inv X pins σ H s) (rv : Vals vs us) (h : sp (vs ++ dvs) H Q (E σ)) : wpAny (model X.prog X.w) X.A (call (.ref f) us) (EP X pins σ Q) X.xe s := by
  have both : Vals (vs ++ dvs) (us ++ ds) := rv.append rd
  have len : (us ++ ds).length = ps.length := both.length.symm.trans (F.len _ _ _ _ h)
  refine wpAny_call (codeAny_mono (F.run X.A X.stack s H ⟨us, []⟩ (us ++ ds) (vs ++ dvs) Q (E σ) rm I.env0 (bi s us I.kIn len) both h) fun r s' g => ?_)
  match r, g with
  | .error e, g => exact pa pins H s e s' I g
  | .ok (.ret u), g => exact I.after g
  | .ok .next, g => exact False.elim g
  | .ok .brk, g => exact False.elim g
  | .ok .cont, g => exact False.elim g
/-- the law's def, called by the claim -/
theorem law_callG {P : Program} {w : World} {K : PySem.W.Frag} {mg mb : Str → Option Value} {k : Nat} {fa a : Addr} {fd : FuncData} {x : Str} {sp : Sp} {s₁ : Shared} {vs : List Value} {ns : List Int}
    (hKI : K.In s₁.heap) (hNs : s₁.heap.Ns mainGlobals mg) (hBs : s₁.heap.Ns builtinsNs mb) (hBo : ∀ x : Str, x ≠ "__name__" → mb x = bootBuiltins x) (hNl : s₁.heap.NoLimit) (hGe : s₁.gens = #[])
    (hA : s₁.heap.get? a = some { cls := .type "list", data := .seq vs.toArray }) (hIn : IntsAre vs ns) (hLn : ns.length ≤ sizeLine) (rm : Rm2 k callerA)
    (F : ∀ base : Heap, K.In base → base.Ns mainGlobals mg → FnG P w K mg base k fa fd [x] sp) (bi : ∀ (s : Shared) (u : Value), BindsTo s fd ⟨[u], []⟩ [(x, u)])
    (hSp : ∀ H : Hp, Only H → SqL K H a (ns.map V.int) → sp [.ref a] H (fun v _ => v = .bl true) fun _ _ _ => False) (hX : ∀ H e s', L2.CX P w [] H s₁ (fun _ _ _ => False) e s' → False) :
    codeAny (model P w) callerA (.call (.ref fa) ⟨[.ref a], []⟩) (fun r s' => r = .ok (.ret (.bool true)) ∧ OldK s₁.heap s'.heap ∧ s'.os = s₁.os ∧ AllBare s'.gens) s₁ := by
  have rel := vals_ints hIn
  have leV := hIn.length
  have main : ∀ H : Hp, Only H → SqL K H a (ns.map V.int) → HOk P w H s₁.heap → (∀ b, H b ≠ none → b = a) → (H a ≠ none → K.lookup a = none) →
      codeAny (model P w) callerA (.call (.ref fa) ⟨[.ref a], []⟩) (fun r s' => r = .ok (.ret (.bool true)) ∧ OldK s₁.heap s'.heap ∧ s'.os = s₁.os ∧ AllBare s'.gens) s₁ := by
    intro H only sq good one noK
    have keep : ∀ {b : Addr} {o : Obj}, s₁.heap.get? b = some o → H b = none → (hidT s₁.heap H).get? b = some o := fun q n => hidT_get q n
    have dictNo : ∀ {b : Addr} {o : Obj} {es : Array DictEntry} {ep : Nat}, s₁.heap.get? b = some o → o.data = .dict es ep → H b = none := fun {b o es ep} q d => by
      cases z : H b with
      | none => rfl
      | some u =>
        obtain rfl : b = a := one b (by rw [z]; simp)
        rw [hA] at q; cases q
        exact absurd (show Data.seq vs.toArray _ = Data.dict es ep from d) (fun t => by cases t)
    have nsT : ∀ {b : Addr} {m : Str → Option Value}, s₁.heap.Ns b m → (hidT s₁.heap H).Ns b m := fun {b m} ⟨o, es, ep, q, d, r⟩ => ⟨o, es, ep, keep q (dictNo q d), d, r⟩
    have kT : K.In (hidT s₁.heap H) := fun b o q => keep (hKI b o q) (by
      cases z : H b with
      | none => rfl
      | some u =>
        obtain rfl : b = a := one b (by rw [z]; simp)
        rw [noK (by rw [z]; simp)] at q; cases q)
    have modT : Mod K mg (hidT s₁.heap H) := ⟨kT, nsT hNs, ⟨mb, nsT hBs, hBo⟩, let ⟨mc, q1, q2⟩ := hNl; ⟨mc, nsT q1, q2⟩⟩
    have en : Env0 P w K mg (hidT s₁.heap H) callerA [] s₁ H := ⟨rfl, modT, fun b o q => of_hidT q, Nat.le_of_eq (hidT_size _ _), trivial, fun b hb => absurd (show b ∈ ([] : List Addr) from hb) (by simp), good, .of_eq hGe⟩
    refine codeAny_mono ((F _ kT (nsT hNs)).run callerA [] s₁ H ⟨[.ref a], []⟩ [.ref a] [.ref a] _ _ rm en (bi s₁ (.ref a)) (.cons rfl .nil) (hSp H only sq)) fun r s' g => ?_
    match r, g with
    | .error e, g => exact (hX H e s' g).elim
    | .ok .next, g => exact False.elim g
    | .ok .brk, g => exact False.elim g
    | .ok .cont, g => exact False.elim g
    | .ok (.ret u), g =>
      obtain ⟨v, H', os, bare, un, good', rv, q⟩ := g
      obtain rfl : v = .bl true := q
      obtain rfl : u = Value.bool true := rv
      refine ⟨rfl, OldK.of_keep fun b o eo => ?_, os, bare⟩
      cases z : H b with
      | none => exact un.keep b o eo z (by intro t; exact absurd (show b ∈ ([] : List Addr) from t) (by simp)) (by simp)
      | some u =>
        rcases only b with t | ⟨ob, xs, t⟩
        · rw [z] at t; cases t
        · have t2 := un.frzs b ob _ t
          obtain ⟨e1, _⟩ := good b _ t
          obtain ⟨e2, _⟩ := good' b _ t2
          rw [eo] at e1; cases e1
          exact e2
  cases hk : K.lookup a with
  | some o =>
    have q := hKI a o hk
    rw [hA] at q
    cases q
    exact main (fun _ => none) (fun _ => .inl rfl) (.inr ⟨_, vs.toArray, _, hk, rfl, rfl, rfl, by rw [List.size_toArray, leV]; exact hLn, by simpa using rel⟩) (fun b u z => by have t : (none : Option HO) = some u := z; cases t) (fun b z => absurd rfl z) fun z => absurd rfl z
  | none =>
    refine main (fun b => if b = a then some (.frz { cls := .type "list", data := .seq vs.toArray } (.lst (ns.map V.int))) else none) (fun b => ?_) (.inl (.inr ⟨{ cls := .type "list", data := .seq vs.toArray }, if_pos rfl⟩)) (fun b u z => ?_) (fun b z => ?_) fun _ => hk
    · by_cases hb : b = a
      · exact .inr ⟨_, _, if_pos hb⟩
      · exact .inl (if_neg hb)
    · by_cases hb : b = a
      · have t := (if_pos hb).symm.trans z
        cases t
        subst hb
        exact ⟨hA, by rw [List.length_map]; exact hLn, vs, _, rel, hA⟩
      · have t := (if_neg hb).symm.trans z
        cases t
    · by_cases hb : b = a
      · exact hb
      · exact absurd (if_neg hb) z
theorem walk_G {l : PySem.W.OpenLaw} {n k : Nat} {q : Program} {loose : List Str} {XP : (Str → Option Value) → Heap → Prop} {YP : World → Heap → Prop} {d : DefRec} {x : Str}
    (hm : l.most = some n) (hz : n ≤ sizeLine) (hd : d.params.defaults = []) (rm : Rm2 k callerA)
    (F : ∀ (w : World) (mg : Str → Option Value) (fa : Addr) (h : Heap), YP w h → h.Ns mainGlobals mg → mg d.name = some (.ref fa) →
      ∃ (K : PySem.W.Frag) (fd : FuncData) (sp : Sp), K.In h ∧ (∀ (s : Shared) (u : Value), BindsTo s fd ⟨[u], []⟩ [(x, u)]) ∧
        (∀ (H : Hp) (a : Addr) (ns : List Int), ns.length ≤ n → Only H → SqL K H a (ns.map V.int) → sp [.ref a] H (fun v _ => v = .bl true) fun _ _ _ => False) ∧
        ∀ base : Heap, K.In base → base.Ns mainGlobals mg → FnG l.prog w K mg base k fa fd [x] sp)
    (hX : ∀ (w : World) (H : Hp) (s : Shared) (e : Value) (s' : Shared), L2.CX l.prog w [] H s (fun _ _ _ => False) e s' → False) :
    PySem.W.WalkO q loose XP YP l.row.toRowW d [] (fun f vs => PySem.call f vs) := by
  refine Att.attach_call hm hd fun w s₀ s₁ mg mb fa o pm cd doc a vs ns G Y ho hd hcd hmg hobj hints hlen hg => ?_
  obtain ⟨K, fd, sp, kin, bi, prom, hF⟩ := F w mg fa _ Y G.T.g hmg
  exact law_callG kin G.T.g G.T.b G.T.builtins G.T.nolimit hg hobj hints (Nat.le_trans hlen hz) rm hF bi (fun H hO hS => prom H a ns hlen hO hS) fun H e s' => hX w H s₁ e s'
end Fk

/-! FkExp2: subscripts, slices, calls, built-ins, methods, isinstance, fields. -/
namespace Fk
open PySem PySem.Spec PyProof.Rows L2
section
variable {X : Cx} {cl : Cl} {G : Gam} {W : WX} {e a b : Expr} {pos : Pos}
/-! ### subscripts -/
theorem ixN_eq (n : Nat) (i : Int) : Fk.ixN n i = L2.ixN n i := rfl
theorem atI_of {xs : List V} {i : Int} {j : Nat} {x : V} (h : Fk.ixN xs.length i = some j) (hx : xs[j]? = some x) : atI xs i = some x := by
  unfold atI
  rw [← ixN_eq, h]
  exact hx
theorem ix_any (hu : X.A.units + 65 < cLine) (wp : Wp cl X) : IxR X (rTwo X.K cl fun _ M a b => Out.of (idxV M a b) M) := by
  intro value slice pins s σ H x y v u Q I rx ry ⟨n, F, π, M, a, b, E, r, hn, hx, hy, h⟩ hs
  have hl := lim_eq
  have seq : ∀ {i : Int} {vs : List Val} {j : Nat} {w : Val}, y = .int i → seqOf M a = some vs → Fk.ixN vs.length i = some j → vs[j]? = some w → (∀ z, IsV X.K cl F π z w → Q z H) → wpAny (model X.prog X.w) X.A (subscriptTail value slice v u) (EP X pins σ Q) X.xe s := by
    intro i vs j w ey e1 e2 e3 hq
    obtain ⟨p, xs, ex, hp, h2⟩ := seqOf_ok r hx e1
    obtain ⟨z, hz, hzw⟩ := paired_at h2 e3
    have at_ : atI xs i = some z := atI_of (by rw [h2.length]; exact e2) hz
    rcases hp with hp | hp
    · exact ix_seq value slice pins s σ H x y v u Q I rx ry (.inl ⟨p, xs, i, z, ex, ey, hp, at_, hq z hzw⟩) hs
    · exact ix_seq value slice pins s σ H x y v u Q I rx ry (.inr (.inl ⟨p, xs, i, z, ex, ey, hp, at_, hq z hzw⟩)) hs
  have gen : ∀ {i : Int}, y = .int i → RV X.K cl n F π M H (Out.of ((seqOf M a).bind fun vs => (Fk.ixN vs.length i).bind fun j => vs[j]?) M) Q E → wpAny (model X.prog X.w) X.A (subscriptTail value slice v u) (EP X pins σ Q) X.xe s := by
    intro i ey h
    cases e1 : seqOf M a with
    | none => rw [e1] at h; exact h.elim
    | some vs =>
      rw [e1] at h
      simp only [Option.bind_some] at h
      cases e2 : Fk.ixN vs.length i with
      | none => rw [e2] at h; exact h.elim
      | some j =>
        rw [e2] at h
        simp only [Option.bind_some] at h
        cases e3 : vs[j]? with
        | none => rw [e3] at h; exact h.elim
        | some w =>
          rw [e3] at h
          exact seq ey e1 e2 e3 fun z hz => RV.here r h hz
  dsimp only at h
  unfold idxV at h
  split at h
  · cases hx; cases hy
    split at h
    · rename_i st i hle
      cases e2 : Fk.ixN st.length i with
      | none => rw [e2] at h; exact h.elim
      | some j =>
        rw [e2] at h
        simp only [Option.bind_some] at h
        cases e3 : st.cps.toList[j]? with
        | none => rw [e3] at h; exact h.elim
        | some c =>
          rw [e3] at h
          have at_ : atI st.cps.toList i = some c := by
            unfold atI
            have el : st.cps.toList.length = st.length := by simp [Str.length]
            rw [el, ← ixN_eq, e2]
            exact e3
          exact ix_seq value slice pins s σ H _ _ v u Q I rx ry (.inr (.inr ⟨st, i, c, rfl, rfl, by rw [← hl]; exact hle, at_, RV.here r h rfl⟩)) hs
    · exact h.elim
  · split at h
    · rename_i k _ kvs hM
      obtain ⟨p, h1, rfl⟩ := hx
      cases rx
      split at h
      · rename_i d
        split at h
        · rename_i ok
          cases el : kLook d kvs with
          | none => rw [el] at h; exact h.elim
          | some w =>
            rw [el] at h
            have g := asked I r wp hM h1 hy ry ok
            rw [el] at g
            exact tail_any (dct_typeIs I r wp hM h1) PySem.F.slot_dict_getitem.lookup (dct_item hu I g ry fun z w' s' I' rz iz => ⟨z, H, I', rz, RV.here r h iz⟩) hs
        · exact h.elim
      · exact h.elim
    · split at h
      · cases hy
        exact gen rfl h
      · exact h.elim
  · cases hy
    exact gen rfl h
  · exact h.elim
theorem fk_idx {ca cb : E} (hu : X.A.units + 65 < cLine) (wp : Wp cl X) (ha : PE X a (tE X.K cl G W ca)) (hb : PE X b (tE X.K cl G W cb)) (hs : PlainIx b) : PE X (.Subscript a b pos) (tE X.K cl G W (.idx ca cb)) := by
  refine PE.weak (pe_ix (ix_any (cl := cl) hu wp) ha hb hs) fun σ H Q h => ?_
  have h : tV X.K cl W (fun n ρ M => ev G n ρ M (.idx ca cb)) σ H Q := h
  simp only [ev] at h
  exact tV.two (k := fun _ M a b => Out.of (idxV M a b) M) h
/-! ### slices -/
theorem cut_eq (xs : List V) (lo hi : Option Int) : Fk.cut xs lo hi = cutV xs lo hi := rfl
theorem paired_cut {α β : Type} {R : α → β → Prop} {l : List α} {m : List β} (h : Paired R l m) (lo hi : Option Int) : Paired R (Fk.cut l lo hi) (Fk.cut m lo hi) := by
  have take : ∀ {l : List α} {m : List β} (n : Nat), Paired R l m → Paired R (l.take n) (m.take n) := fun n h => by
    induction h generalizing n with
    | nil => simp; exact .nil
    | cons a t ih => cases n with
      | zero => exact .nil
      | succ n => exact .cons a (ih n)
  have drop : ∀ {l : List α} {m : List β} (n : Nat), Paired R l m → Paired R (l.drop n) (m.drop n) := fun n h => by
    induction h generalizing n with
    | nil => simp; exact .nil
    | cons a t ih => cases n with
      | zero => exact .cons a t
      | succ n => exact ih n
  unfold Fk.cut
  rw [h.length]
  exact take _ (drop _ h)
theorem isDs_of_paired {K : PySem.W.Frag} {F : Hp} : ∀ {xs : List V} {ds : List D}, Paired (IsD K F) xs ds → IsDs K F xs ds
  | _, _, .nil => by simp only [IsDs]
  | _, _, .cons a t => by simp only [IsDs]; exact ⟨a, isDs_of_paired t⟩
theorem paired_of_isDs {K : PySem.W.Frag} {F : Hp} : ∀ {xs : List V} {ds : List D}, IsDs K F xs ds → Paired (IsD K F) xs ds
  | [], [], _ => .nil
  | [], _ :: _, h => by simp only [IsDs] at h
  | _ :: _, [], h => by simp only [IsDs] at h
  | x :: xs, d :: ds, h => by simp only [IsDs] at h; exact .cons h.1 (paired_of_isDs h.2)
theorem sl_any {m : Md} : SlR X (fun x lo hi H Q => ∃ n F π M a E, Rel X.K cl F π M H ∧ n ≤ M.length ∧ IsV X.K cl F π x a ∧ RV X.K cl n F π M H (slcV m M a lo hi) Q E) := by
  intro pins s σ H x v vl vu lo hi sl Q I rx hs pl pu ⟨n, F, π, M, a, E, r, hn, hx, h⟩
  have hl := lim_eq
  unfold slcV at h
  split at h
  · cases hx
    split at h
    · rename_i st hle
      exact sl_str pins s σ H _ v vl vu lo hi sl Q I rx hs pl pu ⟨st, rfl, by rw [← hl]; exact hle, RV.here r h (by
        simp only [IsV, IsD]
        have el : st.cps.toList.length = st.length := by simp [Str.length]
        show V.str ⟨_⟩ = V.str ⟨_⟩
        unfold Fk.cut
        rw [el] <;> rfl)⟩
    · exact h.elim
  · rename_i ds
    simp only [IsV, IsD] at hx
    obtain ⟨p, xs, rfl, h1, h2⟩ := hx
    have hlen := isDs_len h2
    refine sl_tupZ pins s σ H _ v vl vu lo hi sl Q I rx hs pl pu ⟨p, xs, rfl, h1.sq r.sub, fun hw => ?_, fun hw q o hd hq => ?_⟩
    · refine RV.here r h ?_
      simp only [IsV, IsD]
      refine ⟨p, xs, rfl, h1, ?_⟩
      have : Fk.cut ds lo hi = ds := by
        unfold Fk.cut
        have e1 : sIx ds.length 0 lo = 0 := by rw [← hlen]; exact hw.1
        have e2 : sIx ds.length ds.length hi = ds.length := by rw [← hlen]; exact hw.2
        rw [e1, e2]; simp
      rw [this]; exact h2
    · refine RV.newD r h _ hq ?_
      simp only [IsV, IsD]
      refine ⟨q, _, rfl, .inl ⟨o, hd, upd_same⟩, IsDs.sub (hsub_upd (hsub_none r.sub hq)) _ _ ?_⟩
      exact isDs_of_paired (paired_cut (paired_of_isDs h2) lo hi)
  · split at h
    · rename_i vs e1
      obtain ⟨p, xs, rfl, hp, h2⟩ := lstOf_ok r hx e1
      exact sl_list pins s σ H _ v vl vu lo hi sl Q I rx hs pl pu ⟨p, xs, rfl, hp, fun q hq => mkL_ok r hn h (paired_cut h2 lo hi) hq⟩
    · exact h.elim
/-- a part of a slice -/
def RO (K : PySem.W.Frag) (cl : Cl) (n : Nat) (F : Hp) (π : List Addr) (M : Mem) (H : Hp) (o : Out (Option Int)) (Q : Option Int → Hp → Prop) (E : XK) : Prop := match o with
  | .ok v M' => ∀ F' π' H', Nxt K cl n F π M H F' π' M' H' → Q v H'
  | .exc e M' => ∀ F' π' H' cls d, Nxt K cl n F π M H F' π' M' H' → IsE K cl F' cls d e → E cls d H'
  | .bad => False
def tOe (K : PySem.W.Frag) (cl : Cl) (G : Gam) (W : WX) (c : Eo) : TO := fun σ H Q => ∃ n F π M ρ, Sta K cl n F π M ρ σ H ∧ RO K cl n F π M H (evo G n ρ M c) Q (atW W σ)
def OkO (X : Cx) (cl : Cl) (G : Gam) (W : WX) (c : Eo) (oe : Option Expr) : Prop := match c, oe with
  | .no, none => True
  | .some c, some e => PE X e (tE X.K cl G W c)
  | _, _ => False
theorem po_eo {c : Eo} {oe : Option Expr} (h : OkO X cl G W c oe) : PO X oe (tOe X.K cl G W c) := by
  cases c with
  | no =>
    cases oe with
    | none =>
      exact ⟨fun pins s σ H Q I ⟨n, F, π, M, ρ, st, h⟩ => po_none.run pins s σ H Q I (by
        simp only [evo] at h
        exact h F π H (Nxt.refl st.rel))⟩
    | some e => exact h.elim
  | some c =>
    cases oe with
    | none => exact h.elim
    | some e =>
      have h : PE X e (tE X.K cl G W c) := h
      refine ⟨fun pins s σ H Q I ⟨n, F, π, M, ρ, st, hh⟩ => (po_some h).run pins s σ H Q I ?_⟩
      simp only [evo] at hh
      refine ⟨n, F, π, M, ρ, st, ?_⟩
      dsimp only
      cases e1 : ev G n ρ M c with
      | bad => rw [e1] at hh; exact hh
      | exc x M1 => rw [e1] at hh; exact hh
      | ok v M1 =>
        rw [e1] at hh
        simp only [Out.bind_ok] at hh
        intro F1 π1 H1 u nx q
        split at hh
        · cases q
          exact ⟨_, rfl, hh F1 π1 H1 nx⟩
        · exact hh.elim
theorem RO.bindV {K : PySem.W.Frag} {n : Nat} {F : Hp} {π : List Addr} {M : Mem} {H : Hp} (r : Rel K cl F π M H) {o : Out (Option Int)} {f : Option Int → Mem → Out Val} {Q : VK} {Q' : Option Int → Hp → Prop} {E : XK} (h : RV K cl n F π M H (o.bind f) Q E)
    (g : ∀ v F1 π1 M1 H1, Nxt K cl n F π M H F1 π1 M1 H1 → RV K cl n F1 π1 M1 H1 (f v M1) Q E → Q' v H1) : RO K cl n F π M H o Q' E := by
  cases o with
  | ok v M' => exact fun F' π' H' y => g v F' π' M' H' y (RV.trans r y h)
  | exc e M' => exact h
  | bad => exact h
theorem fk_slc {m : Md} {ca : E} {c1 c2 : Eo} {lo hi : Option Expr} {p2 : Pos} (ha : PE X a (tE X.K cl G W ca)) (hlo : OkO X cl G W c1 lo) (hhi : OkO X cl G W c2 hi) : PE X (.Subscript a (.Slice lo hi none p2) pos) (tE X.K cl G W (.slc m ca c1 c2)) := by
  refine PE.weak (pe_slice (sl_any (cl := cl) (m := m)) ha (po_eo hlo) (po_eo hhi)) fun σ H Q ⟨n, F, π, M, ρ, st, h⟩ => ?_
  simp only [ev] at h
  refine ⟨n, F, π, M, ρ, st, RV.bindV st.rel h fun v F1 π1 M1 H1 u x q z => ⟨n, F1, π1, M1, ρ, st.next x, RO.bindV x.rel z fun l F2 π2 M2 H2 x2 z2 => ⟨n, F2, π2, M2, ρ, (st.next x).next x2, RO.bindV x2.rel z2 fun h F3 π3 M3 H3 x3 z3 => ?_⟩⟩⟩
  exact ⟨n, F3, π3, M3, v, _, x3.rel, (((st.next x).next x2).next x3).le, (q.mono x2.fsub x2.pre).mono x3.fsub x3.pre, z3⟩
/-! ### calls -/
def spF (K : PySem.W.Frag) (cl : Cl) (run : Nat → List Val → Mem → Out Val) : Sp := fun vs H Q E => ∃ n F π M as, Rel K cl F π M H ∧ n ≤ M.length ∧ IsVs K cl F π vs as ∧ RV K cl n F π M H (run n as M) Q E
/-- what is known of a def -/
structure FnFact (X : Cx) (cl : Cl) (lv : Nat) (x : Str) (dv : List D) (g : FnI) : Prop where
  ex : ∃ (f : Addr) (fd : FuncData) (ps : List Str) (k : Nat) (ds : List Value) (dvs : List V), X.mg x = some (.ref f) ∧ PySem.W.keepIn X.K (.ref f) = true ∧ FnG X.prog X.w X.K X.mg X.base k f fd ps (spF X.K cl g.run) ∧ k ≤ lv ∧
    Binds X.K fd ps ds ∧ dv.mapM litV = some dvs ∧ Vals dvs ds
theorem isVs_lit {K : PySem.W.Frag} {F : Hp} {π : List Addr} : ∀ {dv : List D} {dvs : List V}, dv.mapM litV = some dvs → IsVs K cl F π dvs (dv.map Val.d)
  | [], dvs, e => by
    have : dvs = [] := by simpa using e.symm
    subst this; exact .nil
  | d :: dv, dvs, e => by
    obtain ⟨y, r, e1, e2, rfl⟩ := mapM_cons_some e
    exact .cons (litV_ok e1) (isVs_lit e2)
theorem call_read {cs : Es} {f : Nat} {dv : List D} {g : FnI} {dvs : List V} {σ : L2.St} {H : Hp} {Q : VK} (hG : G.fn f = some g) (hl : dv.mapM litV = some dvs) (h : tE X.K cl G W (.call f dv cs) σ H Q) :
    (tEs X.K cl G W cs) σ H fun vs H1 => spF X.K cl g.run (vs ++ dvs) H1 Q (WE W σ) := by
  have h : tV X.K cl W (fun n ρ M => ev G n ρ M (.call f dv cs)) σ H Q := h
  simp only [ev, hG] at h
  have h2 := tVs.one h
  obtain ⟨n, F, π, M, ρ, st, hh⟩ := h2
  refine ⟨n, F, π, M, ρ, st, ?_⟩
  dsimp only at hh ⊢
  cases e1 : evs G n ρ M cs with
  | bad => rw [e1] at hh; exact hh
  | exc x M1 => rw [e1] at hh; exact hh
  | ok v M1 =>
    rw [e1] at hh
    intro F1 π1 H1 u nx q
    obtain ⟨n', F2, π2, M2, as, r, hn, q2, z⟩ := hh F1 π1 H1 u nx q
    exact ⟨n', F2, π2, M2, as ++ dv.map Val.d, r, hn, paired_append q2 (isVs_lit hl), z⟩
theorem fk_call0 {x : Str} {p : Pos} {f : Nat} {dv : List D} {g : FnI} {lv : Nat} (hG : G.fn f = some g) (ff : FnFact X cl lv x dv g) (hr : Rm2 lv X.A) (tk : Takes X W) (hg : Gl X x) (hdb : (x == ("__debug__" : Str)) = false) :
    PE X (.Call (.Name x p) [] [] pos) (tE X.K cl G W (.call f dv .nil)) := by
  obtain ⟨fa, fd, ps, k, ds, dvs, hm, hk, F, hkl, hb, hl, hd⟩ := ff.ex
  refine ⟨fun pins s σ H Q I h => ?_⟩
  obtain ⟨n, F', π, M, ρ, st, hh⟩ := call_read hG hl h
  refine wpAny_Call_Name_kw (ld_glob I hg hm ?_ hdb)
  refine PySem.W.callWith_K0 I.kIn hk ?_
  simp only [evs] at hh
  exact run_fng (us := []) (vs := []) (E := WE W) F (hr.mono hkl) hb hd (passAt tk σ) I .nil (hh F' π H [] (Nxt.refl st.rel) .nil)
theorem fk_call {x : Str} {p : Pos} {e : Expr} {es : List Expr} {cs : Es} {f : Nat} {dv : List D} {g : FnI} {lv : Nat} (hG : G.fn f = some g) (ff : FnFact X cl lv x dv g) (hr : Rm2 lv X.A) (tk : Takes X W) (hg : Gl X x) (hdb : (x == ("__debug__" : Str)) = false)
    (ha : PA X (e :: es) (tEs X.K cl G W cs)) (hst : starEach (e :: es) X.env = (false, eval e X.env) :: starEach es X.env) (hpl : (backTo pos (starEach es X.env)).any (·.1) = false) :
    PE X (.Call (.Name x p) (e :: es) [] pos) (tE X.K cl G W (.call f dv cs)) := by
  obtain ⟨fa, fd, ps, k, ds, dvs, hm, hk, F, hkl, hb, hl, hd⟩ := ff.ex
  refine ⟨fun pins s σ H Q I h => ?_⟩
  refine wpAny_Call_Name_kw (ld_glob I hg hm ?_ hdb)
  refine PySem.W.callWith_K (h₀ := X.base) I.ok.mod.kin hk (thn (ha.run pos pins s σ H _ I (call_read hG hl h)) fun us s1 ⟨vs, H1, I1, r, q⟩ => ⟨I1.kIn, ?_⟩) hst hpl
  exact run_fng (E := WE W) F (hr.mono hkl) hb hd (passAt tk σ) I1 r q
/-! ### built-ins -/
def Bt.nm : Bt → Str
  | .len => "len" | .int => "int" | .list => "list" | .tuple => "tuple" | .all => "all" | .sum => "sum" | .max1 => "max" | .min1 => "min" | .max2 => "max" | .min2 => "min" | .repr => "repr" | .str => "str" | .lenset => "len" | .sset => "sorted"
def rBlt (K : PySem.W.Frag) (cl : Cl) (m : Md) (b : Bt) : List V → Hp → VK → Prop := fun xs H Q => ∃ n F π M as E, Rel K cl F π M H ∧ n ≤ M.length ∧ IsVs K cl F π xs as ∧ RV K cl n F π M H (bltV m b M as) Q E
theorem len_ok {K : PySem.W.Frag} {F : Hp} {π : List Addr} {M : Mem} {H : Hp} {v : V} {w : Val} {n : Nat} (r : Rel K cl F π M H) (h : IsV K cl F π v w) (e : lenV M w = some n) : LenV K v H n := by
  have hl := lim_eq
  have seq : ∀ {w : Val}, IsV K cl F π v w → (seqOf M w).map List.length = some n → LenV K v H n := fun {w} h e => by
    obtain ⟨vs, e1, e2⟩ := Option.map_eq_some_iff.mp e
    obtain ⟨p, xs, rfl, hp, h2⟩ := seqOf_ok r h e1
    rcases hp with hp | hp
    · exact .inl ⟨xs, hp, by rw [h2.length]; exact e2.symm⟩
    · exact .inr ⟨xs, hp, by rw [h2.length]; exact e2.symm⟩
  unfold lenV at e
  split at e
  · cases h
    split at e
    · cases e
      exact ⟨by rw [← hl]; assumption, rfl⟩
    · cases e
  · exact seq h e
theorem listD_ok {K : PySem.W.Frag} {F : Hp} {π : List Addr} {M : Mem} {H : Hp} {v : V} {w : Val} {ds : List D} (r : Rel K cl F π M H) (h : IsV K cl F π v w) (e : listD M w = some ds) : ∃ a xs, v = .ref a ∧ SqL K H a xs ∧ IsDs K F xs ds := by
  unfold listD at e
  cases e1 : lstOf M w with
  | none => rw [e1] at e; cases e
  | some vs =>
    rw [e1] at e
    obtain ⟨a, xs, ex, h1, h2⟩ := lstOf_ok r h e1
    exact ⟨a, xs, ex, h1, isDs_of_V h2 e⟩
theorem intsOk {K : PySem.W.Frag} {F : Hp} : ∀ {xs : List V} {ds : List D} {ns : List Int}, IsDs K F xs ds → intsL ds = some ns → xs = ns.map V.int
  | [], [], ns, _, e => by cases e; rfl
  | [], _ :: _, _, h, _ => by simp only [IsDs] at h
  | _ :: _, [], _, h, _ => by simp only [IsDs] at h
  | x :: xs, d :: ds, ns, h, e => by
    simp only [IsDs] at h
    cases d with
    | int i =>
      simp only [intsL, Option.map_eq_some_iff] at e
      obtain ⟨r, e1, rfl⟩ := e
      have hx : x = .int i := h.1
      rw [hx, intsOk h.2 e1]; rfl
    | none => cases e
    | bool _ => cases e
    | str _ => cases e
    | list _ => cases e
    | tuple _ => cases e
    | dict _ => cases e
theorem bools_ok {K : PySem.W.Frag} {F : Hp} : ∀ {xs : List V} {ds : List D} {ns : List Bool}, IsDs K F xs ds → boolsL ds = some ns → xs = ns.map V.bl
  | [], [], ns, _, e => by cases e; rfl
  | [], _ :: _, _, h, _ => by simp only [IsDs] at h
  | _ :: _, [], _, h, _ => by simp only [IsDs] at h
  | x :: xs, d :: ds, ns, h, e => by
    simp only [IsDs] at h
    cases d with
    | bool i =>
      simp only [boolsL, Option.map_eq_some_iff] at e
      obtain ⟨r, e1, rfl⟩ := e
      have hx : x = .bl i := h.1
      rw [hx, bools_ok h.2 e1]; rfl
    | none => cases e
    | int _ => cases e
    | str _ => cases e
    | list _ => cases e
    | tuple _ => cases e
    | dict _ => cases e
theorem maxL_mem : ∀ (i : Int) (r : List Int), maxL (i :: r) ∈ i :: r ∧ ∀ y ∈ i :: r, y ≤ maxL (i :: r)
  | i, [] => by simp [maxL]
  | i, j :: r => by
    obtain ⟨h1, h2⟩ := maxL_mem j r
    have e : maxL (i :: j :: r) = max i (maxL (j :: r)) := rfl
    rw [e]
    constructor
    · rcases Int.le_total i (maxL (j :: r)) with h | h
      · rw [Int.max_eq_right h]; exact List.mem_cons_of_mem _ h1
      · rw [Int.max_eq_left h]; exact List.mem_cons_self
    · intro y hy
      rcases List.mem_cons.mp hy with rfl | hy
      · exact Int.le_max_left _ _
      · exact Int.le_trans (h2 y hy) (Int.le_max_right _ _)
theorem minL_mem : ∀ (i : Int) (r : List Int), minL (i :: r) ∈ i :: r ∧ ∀ y ∈ i :: r, minL (i :: r) ≤ y
  | i, [] => by simp [minL]
  | i, j :: r => by
    obtain ⟨h1, h2⟩ := minL_mem j r
    have e : minL (i :: j :: r) = min i (minL (j :: r)) := rfl
    rw [e]
    constructor
    · rcases Int.le_total i (minL (j :: r)) with h | h
      · rw [Int.min_eq_left h]; exact List.mem_cons_self
      · rw [Int.min_eq_right h]; exact List.mem_cons_of_mem _ h1
    · intro y hy
      rcases List.mem_cons.mp hy with rfl | hy
      · exact Int.min_le_left _ _
      · exact Int.le_trans (Int.min_le_right _ _) (h2 y hy)
theorem vals_one {α β : Type} {R : α → β → Prop} {xs : List α} {b : β} (h : Paired R xs [b]) : ∃ a, xs = [a] ∧ R a b := by
  cases h with
  | cons a t => cases t; exact ⟨_, rfl, a⟩
theorem vals_two {α β : Type} {R : α → β → Prop} {xs : List α} {b c : β} (h : Paired R xs [b, c]) : ∃ a d, xs = [a, d] ∧ R a b ∧ R d c := by
  cases h with
  | cons a t => cases t with
    | cons a2 t2 => cases t2; exact ⟨_, _, rfl, a, a2⟩
theorem blt_len {m : Md} : CallR X (.builtin "len") (rBlt X.K cl m .len) := by
  intro pins s σ H xs us Q I r0 ⟨n, F, π, M, as, E, r, hn, hx, h⟩
  match as, hx, h with
  | [w], hx, h =>
    obtain ⟨v, rfl, hv⟩ := vals_one hx
    simp only [bltV] at h
    cases e : lenV M w with
    | none => rw [e] at h; exact h.elim
    | some k => rw [e] at h; exact call_len pins s σ H _ us Q I r0 ⟨v, k, rfl, len_ok r hv e, RV.here r h rfl⟩
  | [], _, h => exact h.elim
  | _ :: _ :: _, _, h => exact h.elim
theorem oneI_ok {K : PySem.W.Frag} {F : Hp} {π : List Addr} {xs : List V} {as : List Val} {i : Int} (h : IsVs K cl F π xs as) (e : oneI as = some i) : xs = [.int i] ∨ ∃ b : Bool, xs = [.bl b] ∧ i = if b then 1 else 0 := by
  unfold oneI at e
  split at e
  · cases e
    obtain ⟨v, rfl, hv⟩ := vals_one h
    cases hv; exact .inl rfl
  · cases e
    obtain ⟨v, rfl, hv⟩ := vals_one h
    cases hv; exact .inr ⟨_, rfl, rfl⟩
  · cases e
theorem twoI_ok {K : PySem.W.Frag} {F : Hp} {π : List Addr} {xs : List V} {as : List Val} {i j : Int} (h : IsVs K cl F π xs as) (e : twoI as = some (i, j)) : xs = [.int i, .int j] := by
  unfold twoI at e
  split at e
  · cases e
    obtain ⟨v, v2, rfl, hv, hv2⟩ := vals_two h
    cases hv; cases hv2; rfl
  · cases e
theorem blt_int {m : Md} : CallR X (.type "int") (rBlt X.K cl m .int) := by
  intro pins s σ H xs us Q I r0 ⟨n, F, π, M, as, E, r, hn, hx, h⟩
  simp only [bltV] at h
  cases e : oneI as with
  | none => rw [e] at h; exact h.elim
  | some i =>
    rw [e] at h
    rcases oneI_ok hx e with rfl | ⟨b, rfl, rfl⟩
    · exact call_int1 pins s σ H _ us Q I r0 (.inl ⟨i, rfl, RV.here r h rfl⟩)
    · exact call_int1 pins s σ H _ us Q I r0 (.inr ⟨b, rfl, RV.here r h rfl⟩)
theorem blt_list {m : Md} : CallR X (.type "list") (rBlt X.K cl m .list) := by
  intro pins s σ H xs us Q I r0 ⟨n, F, π, M, as, E, r, hn, hx, h⟩
  match as, hx, h with
  | [w], hx, h =>
    obtain ⟨v, rfl, hv⟩ := vals_one hx
    simp only [bltV] at h
    cases e : seqOf M w with
    | none => rw [e] at h; exact h.elim
    | some vs =>
      rw [e] at h
      obtain ⟨p, ys, rfl, hp, h2⟩ := seqOf_ok r hv e
      exact call_list_of pins s σ H _ us Q I r0 ⟨p, ys, rfl, hp, fun l hl => mkL_ok r hn h h2 hl⟩
  | [], _, h => exact h.elim
  | _ :: _ :: _, _, h => exact h.elim
theorem vals_signs {x : Str} {acc : Array Value} (h : ItemsOf (SignAt x) acc x.cps.size) : Vals (x.cps.toList.map fun c => V.str ⟨#[c]⟩) acc.toList := by
  obtain ⟨h1, h2⟩ := h
  have key : ∀ (l : List Nat) (m : List Value) (i : Nat), l.length = m.length → (∀ (j : Nat) (v : Value), m[j]? = some v → ∃ (c : Nat) (u : Tok), l[j]? = some c ∧ v = Value.str ⟨#[c]⟩ u) → Vals (l.map fun c => V.str ⟨#[c]⟩) m := by
    intro l
    induction l with
    | nil => intro m i hl _; cases m with
      | nil => exact .nil
      | cons => simp at hl
    | cons c l ih =>
      intro m i hl hh
      cases m with
      | nil => simp at hl
      | cons v m =>
        obtain ⟨c', u, e1, e2⟩ := hh 0 v rfl
        cases e1
        exact .cons ⟨u, e2⟩ (ih m i (by simpa using hl) fun j v hj => by simpa using hh (j + 1) v (by simpa using hj))
  refine key _ _ 0 (by simp [h1]) fun j v hj => ?_
  obtain ⟨c, u, e1, e2⟩ := h2 j v (by simpa using hj)
  exact ⟨c, u, by simpa using e1, e2⟩
theorem call_tupleS (hc : X.calm = true) : CallR X (.type "tuple") (fun xs H Q => ∃ x, xs = [.str x] ∧ x.length ≤ lim ∧ ∀ l (o : Obj), o.dict = none → H l = none → Q (.ref l) (upd H l (.frz o (.tup (x.cps.toList.map fun c => .str ⟨#[c]⟩))))) := by
  intro pins s σ H xs us Q I r ⟨x, ex, hz, q⟩
  subst ex
  obtain ⟨u, rfl, t, rfl⟩ := vals1 r
  refine PySem.call_tuple_str (I.ok.hd hc) x t (fun h' tk acc kp hacc => ?_) (by rw [← lim_eq]; exact hz)
  have I1 : Inv X pins σ H { s with heap := h', toks := tk } := I.kept (t' := tk) kp
  have rv := vals_signs hacc
  have I2 := Fk.Inv.laidT (s := { s with heap := h', toks := tk }) (h' := h'.push { cls := .type "tuple", data := .seq acc.toList.toArray }) (a := h'.objs.size) (t' := tk) I1 (fun b o e => Heap.get?_push_of_some _ e) (Nat.le_refl _) (by
    have hz' : x.cps.size ≤ lim := hz
    have := lim_eq
    simp only [List.length_map, Array.length_toList]; omega) rv (Heap.get?_push_size _ rfl)
  exact ⟨.ref h'.objs.size, _, I2, rfl, q _ _ rfl (I1.hok.fresh (Nat.le_refl _))⟩
theorem isDs_signs {K : PySem.W.Frag} {F : Hp} : ∀ l : List Nat, IsDs K F (l.map fun c => V.str ⟨#[c]⟩) (l.map sgn)
  | [] => by simp only [List.map_nil, IsDs]
  | c :: l => by simp only [List.map_cons, IsDs]; exact ⟨rfl, isDs_signs l⟩
theorem blt_tuple {m : Md} (hc : X.calm = true) : CallR X (.type "tuple") (rBlt X.K cl m .tuple) := by
  intro pins s σ H xs us Q I r0 ⟨n, F, π, M, as, E, r, hn, hx, h⟩
  match as, hx, h with
  | [w], hx, h =>
    obtain ⟨v, rfl, hv⟩ := vals_one hx
    by_cases hw : ∃ x, w = .d (.str x)
    · obtain ⟨x, rfl⟩ := hw
      have hv : v = .str x := hv
      subst hv
      simp only [bltV, tupOf] at h
      by_cases hz : x.length ≤ lim
      · rw [if_pos hz] at h
        refine call_tupleS hc pins s σ H _ us Q I r0 ⟨x, rfl, hz, fun l o hd hl => RV.newD r h _ hl ?_⟩
        simp only [IsV, IsD]
        exact ⟨l, _, rfl, .inl ⟨o, hd, upd_same⟩, isDs_signs _⟩
      · rw [if_neg hz] at h
        exact h.elim
    have et : tupOf M w = dataOf M w := by
      cases w with
      | d y => cases y <;> first | rfl | exact absurd ⟨_, rfl⟩ hw
      | p k => rfl
      | x c fs => rfl
    simp only [bltV, et, dataOf] at h
    cases e1 : lstOf M w with
    | some vs =>
      have es : seqOf M w = some vs := by
        cases w with
        | d x => cases x <;> first | exact e1 | cases e1
        | p k =>
          simp only [lstOf] at e1
          simp only [seqOf]
          cases hM : M[k]? with
          | none => rw [hM] at e1; cases e1
          | some c => rw [hM] at e1; cases c <;> first | exact e1 | cases e1
        | x c fs => cases e1
      rw [es] at h
      simp only [Option.bind_some] at h
      cases e2 : allD vs with
      | none => rw [e2] at h; exact h.elim
      | some ds =>
        rw [e2] at h
        obtain ⟨p, ys, rfl, hp, h2⟩ := lstOf_ok r hv e1
        refine call_tupleZ pins s σ H _ us Q I r0 ⟨p, ys, rfl, .inl ⟨hp, fun l o hd hl => RV.newD r h _ hl ?_⟩⟩
        simp only [IsV, IsD]
        exact ⟨l, ys, rfl, .inl ⟨o, hd, upd_same⟩, IsDs.sub (hsub_upd (hsub_none r.sub hl)) _ _ (isDs_of_V h2 e2)⟩
    | none =>
      cases w with
      | d x =>
        cases x with
        | tuple ds =>
          simp only [seqOf, Option.bind_some, allD_map] at h
          have hv' := hv
          simp only [IsV, IsD] at hv'
          obtain ⟨p, ys, rfl, h1, h2⟩ := hv'
          exact call_tupleZ pins s σ H _ us Q I r0 ⟨p, ys, rfl, .inr ⟨h1.sq r.sub, RV.here r h hv⟩⟩
        | list ds => cases e1
        | none => exact h.elim
        | bool _ => exact h.elim
        | int _ => exact h.elim
        | str _ => exact h.elim
        | dict _ => exact h.elim
      | p k =>
        obtain ⟨p, h1, rfl⟩ := hv
        simp only [lstOf] at e1
        simp only [seqOf] at h
        cases hM : M[k]? with
        | none => rw [hM] at h; exact h.elim
        | some c =>
          rw [hM] at h e1
          cases c with
          | ro ws =>
            simp only [Option.bind_some] at h
            cases e2 : allD ws with
            | none => rw [e2] at h; exact h.elim
            | some ds =>
              rw [e2] at h
              obtain ⟨⟨o', ys, g1, g2⟩, _⟩ := r.cell k _ _ hM h1 rfl
              refine call_tupleZ pins s σ H _ us Q I r0 ⟨p, ys, rfl, .inl ⟨.inl (.inr ⟨o', g1⟩), fun l o hd hl => RV.newD r h _ hl ?_⟩⟩
              simp only [IsV, IsD]
              exact ⟨l, ys, rfl, .inl ⟨o, hd, upd_same⟩, IsDs.sub (hsub_upd (hsub_none r.sub hl)) _ _ (isDs_of_V g2 e2)⟩
          | lst _ => cases e1
          | dead => exact h.elim
          | dict _ => exact h.elim
          | ins _ _ => exact h.elim
      | x c fs => exact h.elim
  | [], _, h => exact h.elim
  | _ :: _ :: _, _, h => exact h.elim
theorem blt_all {m : Md} (hc : X.calm = true) : CallR X (.builtin "all") (rBlt X.K cl m .all) := by
  intro pins s σ H xs us Q I r0 ⟨n, F, π, M, as, E, r, hn, hx, h⟩
  match as, hx, h with
  | [w], hx, h =>
    obtain ⟨v, rfl, hv⟩ := vals_one hx
    simp only [bltV] at h
    cases e : listD M w with
    | none => rw [e] at h; exact h.elim
    | some ds =>
      rw [e] at h
      simp only [Option.bind_some] at h
      cases e2 : boolsL ds with
      | none => rw [e2] at h; exact h.elim
      | some bs =>
        rw [e2] at h
        obtain ⟨a, ys, rfl, h1, h2⟩ := listD_ok r hv e
        exact cr_all hc pins s σ H _ us Q I r0 ⟨a, bs, rfl, by rw [← bools_ok h2 e2]; exact h1, RV.here r h rfl⟩
  | [], _, h => exact h.elim
  | _ :: _ :: _, _, h => exact h.elim
theorem blt_sum {m : Md} (hc : X.calm = true) : CallR X (.builtin "sum") (rBlt X.K cl m .sum) := by
  intro pins s σ H xs us Q I r0 ⟨n, F, π, M, as, E, r, hn, hx, h⟩
  match as, hx, h with
  | [w], hx, h =>
    obtain ⟨v, rfl, hv⟩ := vals_one hx
    simp only [bltV] at h
    cases e : listD M w with
    | none => rw [e] at h; exact h.elim
    | some ds =>
      rw [e] at h
      simp only [Option.bind_some] at h
      cases e2 : intsL ds with
      | none => rw [e2] at h; exact h.elim
      | some bs =>
        rw [e2] at h
        obtain ⟨a, ys, rfl, h1, h2⟩ := listD_ok r hv e
        exact cr_sum hc pins s σ H _ us Q I r0 ⟨a, bs, rfl, by rw [← intsOk h2 e2]; exact h1, RV.here r h rfl⟩
  | [], _, h => exact h.elim
  | _ :: _ :: _, _, h => exact h.elim
theorem blt_max1 {m : Md} (hc : X.calm = true) : CallR X (.builtin "max") (rBlt X.K cl m .max1) := by
  intro pins s σ H xs us Q I r0 ⟨n, F, π, M, as, E, r, hn, hx, h⟩
  match as, hx, h with
  | [w], hx, h =>
    obtain ⟨v, rfl, hv⟩ := vals_one hx
    simp only [bltV] at h
    cases e : listD M w with
    | none => rw [e] at h; exact h.elim
    | some ds =>
      rw [e] at h
      simp only [Option.bind_some] at h
      cases e2 : intsL ds with
      | none => rw [e2] at h; exact h.elim
      | some bs =>
        rw [e2] at h
        cases bs with
        | nil => exact h.elim
        | cons i bs =>
          obtain ⟨a, ys, rfl, h1, h2⟩ := listD_ok r hv e
          refine cr_max hc pins s σ H _ us Q I r0 ⟨a, i :: bs, rfl, by rw [← intsOk h2 e2]; exact h1, by simp, fun k hk hle => ?_⟩
          obtain ⟨g1, g2⟩ := maxL_mem i bs
          have : k = maxL (i :: bs) := Int.le_antisymm (g2 k hk) (hle _ g1)
          rw [this]
          exact RV.here r h rfl
  | [], _, h => exact h.elim
  | _ :: _ :: _, _, h => exact h.elim
theorem blt_min1 {m : Md} (hc : X.calm = true) : CallR X (.builtin "min") (rBlt X.K cl m .min1) := by
  intro pins s σ H xs us Q I r0 ⟨n, F, π, M, as, E, r, hn, hx, h⟩
  match as, hx, h with
  | [w], hx, h =>
    obtain ⟨v, rfl, hv⟩ := vals_one hx
    simp only [bltV] at h
    cases e : listD M w with
    | none => rw [e] at h; exact h.elim
    | some ds =>
      rw [e] at h
      simp only [Option.bind_some] at h
      cases e2 : intsL ds with
      | none => rw [e2] at h; exact h.elim
      | some bs =>
        rw [e2] at h
        cases bs with
        | nil => exact h.elim
        | cons i bs =>
          obtain ⟨a, ys, rfl, h1, h2⟩ := listD_ok r hv e
          refine cr_min hc pins s σ H _ us Q I r0 ⟨a, i :: bs, rfl, by rw [← intsOk h2 e2]; exact h1, by simp, fun k hk hle => ?_⟩
          obtain ⟨g1, g2⟩ := minL_mem i bs
          have : k = minL (i :: bs) := Int.le_antisymm (hle _ g1) (g2 k hk)
          rw [this]
          exact RV.here r h rfl
  | [], _, h => exact h.elim
  | _ :: _ :: _, _, h => exact h.elim
theorem blt_max2 {m : Md} (hc : X.calm = true) : CallR X (.builtin "max") (rBlt X.K cl m .max2) := by
  intro pins s σ H xs us Q I r0 ⟨n, F, π, M, as, E, r, hn, hx, h⟩
  simp only [bltV] at h
  cases e : twoI as with
  | none => rw [e] at h; exact h.elim
  | some ij =>
    obtain ⟨i, j⟩ := ij
    rw [e] at h
    have := twoI_ok hx e
    subst this
    exact call_max2 hc pins s σ H _ us Q I r0 ⟨i, j, rfl, RV.here r h rfl⟩
theorem blt_min2 {m : Md} (hc : X.calm = true) : CallR X (.builtin "min") (rBlt X.K cl m .min2) := by
  intro pins s σ H xs us Q I r0 ⟨n, F, π, M, as, E, r, hn, hx, h⟩
  simp only [bltV] at h
  cases e : twoI as with
  | none => rw [e] at h; exact h.elim
  | some ij =>
    obtain ⟨i, j⟩ := ij
    rw [e] at h
    have := twoI_ok hx e
    subst this
    exact call_min2 hc pins s σ H _ us Q I r0 ⟨i, j, rfl, RV.here r h rfl⟩
/-- str(x): a text, a number, what lists and tuples show -/
theorem blt_str {m : Md} (hg : X.A.guards = some []) (hu : X.A.units + 70 < cLine) : CallR X (.type "str") (rBlt X.K cl m .str) := by
  intro pins s σ H xs us Q I r0 ⟨n, F, π, M, as, E, r, hn, hx, h⟩
  unfold bltV at h
  split at h <;> rename_i heq <;> first | (cases heq; done) | skip
  · obtain ⟨v, rfl, hv⟩ := vals_one hx
    have hv : v = .str _ := hv
    subst hv
    exact SkE.call_str_str pins s σ H _ us Q I r0 ⟨_, rfl, RV.here r h rfl⟩
  · obtain ⟨v, rfl, hv⟩ := vals_one hx
    have hv : v = .int _ := hv
    subst hv
    split at h
    · rename_i hz
      exact call_str_int pins s σ H _ us Q I r0 ⟨_, rfl, hz, RV.here r h rfl⟩
    · exact h.elim
  · obtain ⟨v, rfl, hv⟩ := vals_one hx
    split at h
    · rename_i d hd
      split at h
      · rename_i c
        simp only [Bool.and_eq_true, decide_eq_true_eq, Bool.not_eq_true'] at c
        obtain ⟨⟨⟨⟨c1, c2⟩, c3⟩, c4⟩, c5⟩ := c
        obtain ⟨u, rfl, ru⟩ := vals1 r0
        obtain ⟨as, rd⟩ := Dp.reads I d v u (rd_ok r 3 v _ d hv hd) ru
        have q := RV.here r h (u := .str d.shown) rfl
        have fin : (∃ a, u = .ref a) → wpAny (model X.prog X.w) X.A (PySem.call (.type "str") [u]) (EP X pins σ Q) X.xe s := fun ⟨a, e⟩ => by
          subst e
          refine str_of_reads rd c2 (fun z => by rw [c3] at z; cases z) hg (by omega) (fun _ _ e => e) (fun h' u tk hk => ?_) (by rw [← lim_eq]; exact c5)
          exact ⟨.str _, H, I.kept hk, ⟨_, rfl⟩, q⟩
        cases d with
        | none =>
          cases rd
          exact PySem.P.str_of_none ⟨.str _, H, I.tok _, ⟨_, rfl⟩, by rw [PyData.shown] at q; exact q⟩
        | bool b =>
          cases rd
          refine PySem.P.str_of_bool ⟨.str _, H, I.tok _, ⟨_, rfl⟩, ?_⟩
          rw [PyData.shown] at q
          exact q
        | list ys => exact fin (by cases rd; exact ⟨_, rfl⟩)
        | tuple ys => exact fin (by cases rd; exact ⟨_, rfl⟩)
        | int i => cases c1
        | str x => cases c1
        | dict kv => cases c1
      · exact h.elim
    · exact h.elim
  · exact h.elim
/-- repr(x) of data -/
theorem blt_repr {m : Md} (hg : X.A.guards = some []) (hu : X.A.units + 70 < cLine) : CallR X (.builtin "repr") (rBlt X.K cl m .repr) := by
  intro pins s σ H xs us Q I r0 ⟨n, F, π, M, as, E, r, hn, hx, h⟩
  unfold bltV at h
  split at h <;> rename_i heq <;> first | (cases heq; done) | skip
  · obtain ⟨v, rfl, hv⟩ := vals_one hx
    split at h
    · rename_i d hd
      split at h
      · rename_i c
        simp only [Bool.and_eq_true, decide_eq_true_eq, Bool.not_eq_true'] at c
        obtain ⟨⟨⟨c2, c3⟩, c4⟩, c5⟩ := c
        obtain ⟨u, rfl, ru⟩ := vals1 r0
        obtain ⟨as, rd⟩ := Dp.reads I d v u (rd_ok r 3 v _ d hv hd) ru
        have q := RV.here r h (u := .str d.shown) rfl
        cases d with
        | none =>
          cases rd
          exact PySem.P.repr_of_none ⟨.str _, H, I.tok _, ⟨_, rfl⟩, by rw [PyData.shown] at q; exact q⟩
        | bool b =>
          cases rd
          refine PySem.P.repr_of_bool ⟨.str _, H, I.tok _, ⟨_, rfl⟩, ?_⟩
          rw [PyData.shown] at q
          exact q
        | int i =>
          cases rd
          rw [PyData.showable, decide_eq_true_eq] at c2
          exact PySem.P.repr_of_int c2 ⟨.str _, H, I.tok _, ⟨_, rfl⟩, by rw [PyData.shown] at q; exact q⟩
        | str x =>
          cases rd
          refine PySem.P.repr_of_str ⟨.str _, H, I.tok _, ⟨_, rfl⟩, by rw [PyData.shown] at q; exact q⟩ ?_
          rw [PyData.shown] at c5
          rw [← lim_eq]; exact c5
        | dict kv => cases c3
        | list ys =>
          have href : ∃ a, u = .ref a := by cases rd; exact ⟨_, rfl⟩
          obtain ⟨a, rfl⟩ := href
          refine repr_of_reads' rd c2 (fun z => by rw [c3] at z; cases z) hg (by omega) (fun _ _ e => e) (fun h' u tk hk => ?_) (by rw [← lim_eq]; exact c5)
          exact ⟨.str _, H, I.kept hk, ⟨_, rfl⟩, q⟩
        | tuple ys =>
          have href : ∃ a, u = .ref a := by cases rd; exact ⟨_, rfl⟩
          obtain ⟨a, rfl⟩ := href
          refine repr_of_reads' rd c2 (fun z => by rw [c3] at z; cases z) hg (by omega) (fun _ _ e => e) (fun h' u tk hk => ?_) (by rw [← lim_eq]; exact c5)
          exact ⟨.str _, H, I.kept hk, ⟨_, rfl⟩, q⟩
      · exact h.elim
    · exact h.elim
  · exact h.elim
theorem blt_read {K : PySem.W.Frag} {m : Md} {b : Bt} {cs : Es} {σ : L2.St} {H : Hp} {Q : VK} (h : tE K cl G W (.blt b m cs) σ H Q) : (tEs K cl G W cs) σ H fun vs H1 => rBlt K cl m b vs H1 Q := by
  have h : tV K cl W (fun n ρ M => ev G n ρ M (.blt b m cs)) σ H Q := h
  simp only [ev] at h
  obtain ⟨n, F, π, M, ρ, st, hh⟩ := tVs.one h
  refine ⟨n, F, π, M, ρ, st, ?_⟩
  dsimp only at hh ⊢
  cases e1 : evs G n ρ M cs with
  | bad => rw [e1] at hh; exact hh
  | exc x M1 => rw [e1] at hh; exact hh
  | ok v M1 =>
    rw [e1] at hh
    intro F1 π1 H1 u nx q
    obtain ⟨n', F2, π2, M2, as, r, hn, q2, z⟩ := hh F1 π1 H1 u nx q
    exact ⟨n', F2, π2, M2, as, _, r, hn, q2, z⟩
theorem fk_bltB {x : Str} {id : String} {p : Pos} {es : List Expr} {cs : Es} {m : Md} {bt : Bt} (hc : CallR X (.builtin id) (rBlt X.K cl m bt)) (hg : Gl X x) (hm : X.mg x = none) (hv : bootBuiltins x = some (.builtin id)) (ha : PA X (e :: es) (tEs X.K cl G W cs)) (hn : x ≠ "__name__") (hdb : (x == ("__debug__" : Str)) = false)
    (he : starEach (e :: es) X.env = (false, eval e X.env) :: starEach es X.env) (hpl : (backTo pos (starEach es X.env)).any (·.1) = false) : PE X (.Call (.Name x p) (e :: es) [] pos) (tE X.K cl G W (.blt bt m cs)) :=
  PE.weak (pe_callB hc hg hm hv ha hn hdb he hpl) fun σ H Q h => blt_read h
theorem fk_bltT {x : Str} {T : String} {p : Pos} {es : List Expr} {cs : Es} {m : Md} {bt : Bt} (hc : CallR X (.type T) (rBlt X.K cl m bt)) (hg : Gl X x) (hm : X.mg x = none) (hv : bootBuiltins x = some (.type T)) (ha : PA X (e :: es) (tEs X.K cl G W cs)) (hn : x ≠ "__name__") (hdb : (x == ("__debug__" : Str)) = false)
    (he : starEach (e :: es) X.env = (false, eval e X.env) :: starEach es X.env) (hpl : (backTo pos (starEach es X.env)).any (·.1) = false) : PE X (.Call (.Name x p) (e :: es) [] pos) (tE X.K cl G W (.blt bt m cs)) :=
  PE.weak (pe_callTy hc hg hm hv ha hn hdb he hpl) fun σ H Q h => blt_read h
end
end Fk

/-! FkExp3: lists lent by value, methods, isinstance, fields. -/
namespace Fk
open PySem PySem.Spec PyProof.Rows L2
/-! ### lists lent by value -/
section
variable {K : PySem.W.Frag} {cl : Cl} {n : Nat} {F F1 F2 : Hp} {π π2 : List Addr} {M M2 : Mem} {H H2 : Hp}
open Classical in
/-- the lists of the cells, frozen -/
noncomputable def lentF (F : Hp) (π : List Addr) (M : Mem) (H : Hp) : Hp := fun a => if ∃ (k : Nat) (vs : List Val), M[k]? = some (.lst vs) ∧ π[k]? = some a then H a else F a
theorem lent_cell (r : Rel K cl F π M H) {k : Nat} {vs : List Val} {a : Addr} (h1 : M[k]? = some (.lst vs)) (h2 : π[k]? = some a) : lentF F π M H a = H a := if_pos ⟨k, vs, h1, h2⟩
theorem lent_sub (r : Rel K cl F π M H) : HSub F (lentF F π M H) := fun a o e => by
  unfold lentF
  split
  · rename_i h
    obtain ⟨k, vs, h1, h2⟩ := h
    have := (r.cell k _ a h1 h2 rfl).2
    rw [this] at e; cases e
  · exact e
theorem lent_le (r : Rel K cl F π M H) : HSub (lentF F π M H) H := fun a o e => by
  unfold lentF at e
  split at e
  · exact e
  · exact r.sub _ _ e
theorem lent_rel (r : Rel K cl F π M H) : Rel K cl (lentF F π M H) π (M.map fun _ => .dead) H where
  sub := lent_le r
  len := by rw [List.length_map]; exact r.len
  cell := fun k c a h1 _ h3 => by
    rw [List.getElem?_map] at h1
    cases e : M[k]? with
    | none => rw [e] at h1; cases h1
    | some c' => rw [e] at h1; cases h1; cases h3
  inj := fun j k c c' a h1 _ h3 _ _ _ => by
    rw [List.getElem?_map] at h1
    cases e : M[j]? with
    | none => rw [e] at h1; cases h1
    | some c' => rw [e] at h1; cases h1; cases h3
theorem lent_dead {a : Addr} : ¬ Live π (M.map fun _ => Cell.dead) a := fun ⟨k, c, h1, h2, _⟩ => by
  rw [List.getElem?_map] at h1
  cases e : M[k]? with
  | none => rw [e] at h1; cases h1
  | some c' => rw [e] at h1; cases h1; cases h2
theorem isDs_mapM {L : Hp} {rdf : Val → Option D} (hf : ∀ v w d, IsV K cl F π v w → rdf w = some d → IsD K L v d) : ∀ {xs : List V} {vs : List Val} {ds : List D}, IsVs K cl F π xs vs → vs.mapM rdf = some ds → IsDs K L xs ds
  | _, _, ds, .nil, e => by
    have : ds = [] := by simpa using e.symm
    subst this; simp only [IsDs]
  | _, _, ds, .cons (b := w) h t, e => by
    obtain ⟨y, r, e1, e2, rfl⟩ := mapM_cons_some e
    simp only [IsDs]
    exact ⟨hf _ _ _ h e1, isDs_mapM hf t e2⟩
theorem rd_lent (r : Rel K cl F π M H) : ∀ (k : Nat) (v : V) (w : Val) (d : D), IsV K cl F π v w → rd k M w = some d → IsD K (lentF F π M H) v d
  | k, v, .d x, d, h, e => by
    have : some x = some d := by
      rw [← e]; cases k <;> rfl
    cases this
    exact IsD.sub (lent_sub r) _ _ h
  | k, _, .x _ _, _, _, e => by
    cases k <;> simp [rd] at e
  | 0, _, .p _, _, _, e => by cases e
  | k + 1, v, .p j, d, h, e => by
    obtain ⟨a, h1, rfl⟩ := h
    simp only [rd] at e
    cases hM : M[j]? with
    | none => rw [hM] at e; cases e
    | some c =>
      rw [hM] at e
      cases c with
      | lst ws =>
        simp only [Option.map_eq_some_iff] at e
        obtain ⟨ds, e1, rfl⟩ := e
        obtain ⟨⟨xs, g1, g2⟩, _⟩ := r.cell j _ a hM h1 rfl
        simp only [IsD]
        exact ⟨a, xs, rfl, .inl (.inl (by rw [lent_cell r hM h1]; exact g1)), isDs_mapM (fun v w d h e => rd_lent r k v w d h e) g2 e1⟩
      | ro ws => cases e
      | dead => cases e
      | dict _ => cases e
      | ins _ _ => cases e
theorem view_ok (r : Rel K cl F π M H) {v : V} {w w' : Val} (h : IsV K cl F π v w) (e : viewV M w = some w') : IsV K cl (lentF F π M H) π v w' := by
  cases w with
  | d x => cases e; exact h.mono (lent_sub r) (pre_refl π)
  | x c fs => cases e; exact h.mono (lent_sub r) (pre_refl π)
  | p k =>
    simp only [viewV, Option.map_eq_some_iff] at e
    obtain ⟨d, e1, rfl⟩ := e
    exact rd_lent r 3 _ _ _ h e1
theorem views_ok (r : Rel K cl F π M H) : ∀ {xs : List V} {vs ws : List Val}, IsVs K cl F π xs vs → vs.mapM (viewV M) = some ws → IsVs K cl (lentF F π M H) π xs ws
  | _, _, ws, .nil, e => by
    have : ws = [] := by simpa using e.symm
    subst this; exact .nil
  | _, _, ws, .cons h t, e => by
    obtain ⟨y, q, e1, e2, rfl⟩ := mapM_cons_some e
    exact .cons (view_ok r h e1) (views_ok r t e2)
/-- the lists given back -/
def backF (F F2 : Hp) : Hp := fun a => match F2 a with
  | some (.lst _) => F a
  | o => o
theorem back_sub (s : HSub F F2) : HSub F (backF F F2) := fun a o e => by
  unfold backF
  rw [s a o e]
  cases o <;> first | exact e | rfl
theorem back_of {a : Addr} {o : HO} (h : F2 a = some o) (hn : ∀ xs, o ≠ .lst xs) : backF F F2 a = some o := by
  unfold backF
  rw [h]
  cases o <;> first | exact absurd rfl (hn _) | rfl
mutual
theorem isD_back : ∀ (d : D) (v : V), noL d = true → IsD K F2 v d → IsD K (backF F F2) v d
  | .none, _, _, h => h
  | .bool _, _, _, h => h
  | .int _, _, _, h => h
  | .str _, _, _, h => h
  | .list _, _, e, _ => by cases e
  | .tuple ds, v, e, h => by
    simp only [IsD] at h ⊢
    obtain ⟨a, xs, rfl, h1, h2⟩ := h
    refine ⟨a, xs, rfl, ?_, isDs_back ds xs e h2⟩
    rcases h1 with ⟨o, d, h1⟩ | h1
    · exact .inl ⟨o, d, back_of h1 fun _ z => nomatch z⟩
    · exact .inr h1
  | .dict _, _, _, h => by simp only [IsD] at h
theorem isDs_back : ∀ (ds : List D) (vs : List V), noLs ds = true → IsDs K F2 vs ds → IsDs K (backF F F2) vs ds
  | [], [], _, _ => by simp only [IsDs]
  | [], _ :: _, _, h => by simp only [IsDs] at h
  | _ :: _, [], _, h => by simp only [IsDs] at h
  | d :: ds, v :: vs, e, h => by
    simp only [IsDs] at h ⊢
    obtain ⟨e1, e2⟩ := Bool.and_eq_true_iff.mp (show (noL d && noLs ds) = true from e)
    exact ⟨isD_back d v e1 h.1, isDs_back ds vs e2 h.2⟩
end
theorem fsD_back : ∀ {fs' : List (Str × V)} {fs : List (Str × D)}, (fs.all fun q => noL q.2) = true → FsD K F2 fs' fs → FsD K (backF F F2) fs' fs
  | _, _, _, .nil => .nil
  | _, _, e, .cons a t => by
    obtain ⟨e1, e2⟩ := Bool.and_eq_true_iff.mp (show (_ && _) = true from e)
    exact .cons ⟨a.1, isD_back _ _ e1 a.2⟩ (fsD_back e2 t)
theorem ownD_back {d : Option Addr} {fs : List (Str × D)} (e : (fs.all fun q => noL q.2) = true) (h : OwnD K F2 d fs) : OwnD K (backF F F2) d fs := by
  cases d with
  | none => exact h
  | some dd =>
    obtain ⟨h0, fs', h1, h2⟩ := h
    exact ⟨h0, fs', back_of h1 (fun _ z => nomatch z), fsD_back e h2⟩
theorem isV_back {v : V} {w : Val} (e : w.noL = true) (h : IsV K cl F2 π2 v w) : IsV K cl (backF F F2) π v w := by
  cases w with
  | d x => exact isD_back x v e h
  | p k => cases e
  | x c fs =>
    obtain ⟨a, d, rfl, h1, h2⟩ := h
    exact ⟨a, d, rfl, back_of h1 (fun _ z => nomatch z), ownD_back e h2.1, h2.2⟩
theorem lend_nxt (r : Rel K cl F π M H) (x : Nxt K cl 0 (lentF F π M H) π (M.map fun _ => .dead) H F2 π2 M2 H2) : Nxt K cl n F π M H (backF F F2) π M H2 := by
  have s2 : HSub F F2 := (lent_sub r).trans x.fsub
  have key : ∀ (k : Nat) (c : Cell) (a : Addr), M[k]? = some c → π[k]? = some a → isDead c = false → backF F F2 a = none := fun k c a h1 h2 h3 => by
    obtain ⟨c1, c2⟩ := r.cell k c a h1 h2 h3
    obtain ⟨o, ho⟩ := c1.there h3
    unfold backF
    cases e : F2 a with
    | none => rfl
    | some u =>
      rcases x.fnew a u e with q | q | q
      · have q' := lent_le r a u q
        unfold lentF at q
        split at q
        · rename_i h
          obtain ⟨j, vs, g1, g2⟩ := h
          obtain ⟨⟨xs, g3, _⟩, _⟩ := r.cell j _ a g1 g2 rfl
          rw [g3] at q'; cases q'
          exact c2
        · rw [c2] at q; cases q
      · rw [ho] at q; cases q
      · exact (lent_dead q).elim
  exact {
    rel := {
      sub := fun a o e => by
        unfold backF at e
        cases q : F2 a with
        | none => rw [q] at e; cases e
        | some u =>
          rw [q] at e
          cases u with
          | lst xs => exact x.rel.sub _ _ (s2 _ _ e)
          | _ => exact x.rel.sub _ _ (by rw [q]; exact e)
      len := r.len
      cell := fun k c a h1 h2 h3 => ⟨(r.cell k c a h1 h2 h3).1.mono (back_sub s2) (pre_refl π) fun o q => x.fr a o q lent_dead, key k c a h1 h2 h3⟩
      inj := r.inj }
    fsub := back_sub s2
    pre := pre_refl π
    fr := fun a o e _ => x.fr a o e lent_dead
    new := fun k a hk e => by
      have := (List.getElem?_eq_some_iff.mp e).1
      rw [r.len] at this; omega
    kd := fun k c c' h h' => by rw [h] at h'; cases h'; rfl
    wf := fun _ _ w => w
    fnew := fun a o e => by
      unfold backF at e
      cases q : F2 a with
      | none => rw [q] at e; cases e
      | some u =>
        rw [q] at e
        have gen : (∀ xs, u ≠ .lst xs) → F a = some o ∨ H a = none ∨ Live π M a := fun hu => by
          rcases x.fnew a u q with g | g | g
          · unfold lentF at g
            split at g
            · rename_i h
              obtain ⟨j, vs, g1, g2⟩ := h
              exact .inr (.inr ⟨j, _, g1, rfl, g2⟩)
            · refine .inl ?_
              cases u with
              | lst xs => exact absurd rfl (hu xs)
              | _ => cases e; exact g
          · exact .inr (.inl g)
          · exact (lent_dead g).elim
        cases u with
        | lst xs => exact .inl e
        | _ => exact gen fun _ z => nomatch z }
theorem lend_rv (r : Rel K cl F π M H) {o : Out Val} {Q : VK} {E : XK} (h : RV K cl n F π M H (lend M o) Q E) : RV K cl 0 (lentF F π M H) π (M.map fun _ => .dead) H o Q E := by
  cases o with
  | bad => exact h
  | ok v M2 =>
    simp only [lend] at h
    split at h
    · rename_i e
      exact fun F2 π2 H2 u x q => h _ π H2 u (lend_nxt r x) (isV_back e q)
    · exact h.elim
  | exc e M2 =>
    simp only [lend] at h
    split at h
    · rename_i e'
      exact fun F2 π2 H2 c d x q => h _ π H2 c d (lend_nxt r x) ⟨q.1, ownD_back e' q.2.1, q.2.2⟩
    · exact h.elim
end
section
variable {X : Cx} {cl : Cl} {G : Gam} {W : WX} {e a b : Expr} {pos : Pos}
theorem callB_read {cs : Es} {f : Nat} {dv : List D} {g : FnI} {dvs : List V} {σ : L2.St} {H : Hp} {Q : VK} (hG : G.fn f = some g) (hl : dv.mapM litV = some dvs) (h : tE X.K cl G W (.callB f dv cs) σ H Q) :
    (tEs X.K cl G W cs) σ H fun vs H1 => spF X.K cl g.run (vs ++ dvs) H1 Q (WE W σ) := by
  have h : tV X.K cl W (fun n ρ M => ev G n ρ M (.callB f dv cs)) σ H Q := h
  simp only [ev, hG] at h
  have h2 := tVs.one h
  obtain ⟨n, F, π, M, ρ, st, hh⟩ := h2
  refine ⟨n, F, π, M, ρ, st, ?_⟩
  dsimp only at hh ⊢
  cases e1 : evs G n ρ M cs with
  | bad => rw [e1] at hh; exact hh
  | exc x M1 => rw [e1] at hh; exact hh
  | ok v M1 =>
    rw [e1] at hh
    intro F1 π1 H1 u nx q
    obtain ⟨n', F2, π2, M2, as, r, hn, q2, z⟩ := hh F1 π1 H1 u nx q
    dsimp only at z
    cases ev : as.mapM (viewV M2) with
    | none => rw [ev] at z; exact z.elim
    | some ws =>
      rw [ev] at z
      exact ⟨0, lentF F2 π2 M2 H1, π2, _, ws ++ dv.map Val.d, lent_rel r, Nat.zero_le _, paired_append (views_ok r q2 ev) (isVs_lit hl), lend_rv r z⟩
theorem fk_callB {x : Str} {p : Pos} {e : Expr} {es : List Expr} {cs : Es} {f : Nat} {dv : List D} {g : FnI} {lv : Nat} (hG : G.fn f = some g) (ff : FnFact X cl lv x dv g) (hr : Rm2 lv X.A) (tk : Takes X W) (hg : Gl X x) (hdb : (x == ("__debug__" : Str)) = false)
    (ha : PA X (e :: es) (tEs X.K cl G W cs)) (hst : starEach (e :: es) X.env = (false, eval e X.env) :: starEach es X.env) (hpl : (backTo pos (starEach es X.env)).any (·.1) = false) :
    PE X (.Call (.Name x p) (e :: es) [] pos) (tE X.K cl G W (.callB f dv cs)) := by
  obtain ⟨fa, fd, ps, k, ds, dvs, hm, hk, F, hkl, hb, hl, hd⟩ := ff.ex
  refine ⟨fun pins s σ H Q I h => ?_⟩
  refine wpAny_Call_Name_kw (ld_glob I hg hm ?_ hdb)
  refine PySem.W.callWith_K (h₀ := X.base) I.ok.mod.kin hk (thn (ha.run pos pins s σ H _ I (callB_read hG hl h)) fun us s1 ⟨vs, H1, I1, r, q⟩ => ⟨I1.kIn, ?_⟩) hst hpl
  exact run_fng (E := WE W) F (hr.mono hkl) hb hd (passAt tk σ) I1 r q
/-! ### methods of built-in types -/
/-- x is of the built-in type T, without a dict -/
def IsT (X : Cx) (T : String) (x : V) (H : Hp) : Prop := ∀ (pins : List (Addr × Obj)) (σ : L2.St) (s : Shared) (v : Value), Inv X pins σ H s → RelV x v → s.TypeIs v T ∧ ∀ a, v = .ref a → ∃ ob, s.heap.get? a = some ob ∧ ob.dict = none
/-- the method's call, by values -/
def RunM (X : Cx) (id : String) (x : V) (xs : List V) (H : Hp) (Q : VK) : Prop := ∀ (pins : List (Addr × Obj)) (σ : L2.St) (s : Shared) (v : Value) (us : List Value), Inv X pins σ H s → RelV x v → Vals xs us →
  wpAny (model X.prog X.w) X.A (call (.builtin id) (v :: us)) (EP X pins σ Q) X.xe s
/-- what a type must say of a method -/
structure Mth (T : String) (name : Str) (id : String) : Prop where
  pa : PlainAttrs T
  slot : Slot T name id
  ty : typeOf (.builtin id) = pure (.type "method_descriptor")
theorem pe_any0 {o : Expr} {name : Str} {apos cpos : Pos} {to : TE} (ho : PE X o to) (hbase : attributeBase o name X.env (eval o X.env) = eval o X.env) (hline : (apos.endLine == cpos.line) = true) :
    PE X (.Call (.Attribute o name apos) [] [] cpos) (fun σ H Q => to σ H fun x H1 => ∃ T id, Mth T name id ∧ IsT X T x H1 ∧ RunM X id x [] H1 Q) := by
  refine ⟨fun pins s σ H Q I h => ?_⟩
  refine wpAny_Call_method0_late hbase hline (thn (ho.run pins s σ H _ I h) fun v s1 ⟨x, H1, I1, r1, T, id, mt, ty, q1⟩ => ?_)
  obtain ⟨h1, h2⟩ := ty pins σ s1 v I1 r1
  exact ⟨T, id, mt.pa, mt.slot, mt.ty, h1, h2, Calls.callWith_builtin rfl (PySem.evalArgs_none (q1 pins σ s1 v [] I1 r1 .nil))⟩
theorem pe_anyM {o e : Expr} {es : List Expr} {name : Str} {apos cpos : Pos} {to : TE} {t : TA} (ho : PE X o to) (ha : PA X (e :: es) t) (hbase : attributeBase o name X.env (eval o X.env) = eval o X.env)
    (hfew : ((backTo cpos (starEach (e :: es) X.env)).all (fun x => !x.1) && (backToKw cpos (keywordEach [] X.env)).all (fun x => x.1.isSome) && decide ((e :: es).length + ([] : List Keyword).length + (if ([] : List Keyword).isEmpty then 0 else 1) < 30)) = true)
    (hline : (apos.endLine == cpos.line) = true) (hs : starEach (e :: es) X.env = (false, eval e X.env) :: starEach es X.env) (hplain : (backTo cpos (starEach es X.env)).any (·.1) = false) :
    PE X (.Call (.Attribute o name apos) (e :: es) [] cpos) (fun σ H Q => to σ H fun x H1 => ∃ T id, Mth T name id ∧ IsT X T x H1 ∧ t σ H1 fun xs H2 => RunM X id x xs H2 Q) := by
  refine ⟨fun pins s σ H Q I h => ?_⟩
  refine wpAny_Call_method_late hbase hfew hline rfl (thn (ho.run pins s σ H _ I h) fun v s1 ⟨x, H1, I1, r1, T, id, mt, ty, q1⟩ => ?_)
  obtain ⟨h1, h2⟩ := ty pins σ s1 v I1 r1
  refine ⟨T, id, mt.pa, mt.slot, mt.ty, h1, h2, ?_⟩
  have hA := ha.run cpos pins s1 σ H1 _ I1 q1
  rw [hs] at hA ⊢
  refine Calls.callWith_builtin (by show (false || (backTo cpos (starEach es X.env)).any (·.1)) = false; rw [hplain] <;> rfl) (Calls.evalArgs_plain ?_)
  exact thn hA fun us s2 ⟨vs, H2, I2, r2, q2⟩ => q2 pins σ s2 v us I2 r1 r2
theorem isT_list {a : Addr} {xs : List V} {H : Hp} (h : SqL X.K H a xs) : IsT X "list" (.ref a) H := fun pins σ s v I r => tyV_is I r (.inl ⟨rfl, xs, h⟩)
theorem isT_str {x : Str} {H : Hp} : IsT X "str" (.str x) H := fun pins σ s v I r => tyV_is I r rfl
theorem isT_tup {F : Hp} {a : Addr} {xs : List V} {H : Hp} (s : HSub F H) (h : TupD X.K F a xs) : IsT X "tuple" (.ref a) H := fun pins σ st v I r => by
  cases r
  rcases h with ⟨o, d, h⟩ | ⟨o, its, n, h1, d, h2, h3, h4, h5⟩
  · have ok : st.heap.get? a = some o ∧ ObjOk X.prog X.w H st.heap a (.tup xs) := I.hok a _ (s _ _ h)
    obtain ⟨e, _, its, _, o', e', hc, _⟩ := ok
    rw [e] at e'; cases e'
    exact ⟨⟨o, e, hc⟩, fun b eb => by cases eb; exact ⟨o, e, d⟩⟩
  · have e := I.kIn a o h1
    exact ⟨⟨o, e, h2⟩, fun b eb => by cases eb; exact ⟨o, e, d⟩⟩
def Bm.nm : Bm → Str
  | .append => "append" | .index => "index" | .insert => "insert" | .pop0 => "pop" | .pop1 => "pop" | .clear => "clear" | .reverse => "reverse" | .count => "count" | .get1 => "get" | .get2 => "get" | .split => "split" | .join => "join" | .upper => "upper"
theorem mth_append : Mth "list" "append" "list.append" := ⟨PySem.F.plainAttrs_list, PySem.F.slot_list_append, PySem.F.type_list_append⟩
theorem mth_insert : Mth "list" "insert" "list.insert" := ⟨PySem.F.plainAttrs_list, PySem.F.slot_list_insert, PySem.F.type_list_insert⟩
theorem mth_pop : Mth "list" "pop" "list.pop" := ⟨PySem.F.plainAttrs_list, PySem.F.slot_list_pop, PySem.F.type_list_pop⟩
theorem mth_clear : Mth "list" "clear" "list.clear" := ⟨PySem.F.plainAttrs_list, PySem.F.slot_list_clear, PySem.F.type_list_clear⟩
theorem mth_reverse : Mth "list" "reverse" "list.reverse" := ⟨PySem.F.plainAttrs_list, PySem.F.slot_list_reverse, PySem.F.type_list_reverse⟩
theorem mth_count : Mth "list" "count" "list.count" := ⟨PySem.F.plainAttrs_list, PySem.F.slot_list_count, PySem.F.type_list_count⟩
theorem mth_index : Mth "list" "index" "list.index" := ⟨PySem.F.plainAttrs_list, PySem.F.slot_list_index, PySem.F.type_list_index⟩
theorem mth_indexT : Mth "tuple" "index" "tuple.index" := ⟨PySem.F.plainAttrs_tuple, PySem.F.slot_tuple_index, PySem.F.type_tuple_index⟩
def Rt.nm : Rt → String
  | .list => "list" | .tuple => "tuple" | .str => "str" | .dict => "dict"
theorem isT_dict (wp : Wp cl X) {F H : Hp} {π : List Addr} {M : Mem} {k : Nat} {a : Addr} {kvs : List (D × Val)} (r : Rel X.K cl F π M H) (hM : M[k]? = some (.dict kvs)) (hk : π[k]? = some a) : IsT X "dict" (.ref a) H := fun pins σ st v I rv => by
  cases rv
  obtain ⟨o, g1, g2⟩ := dct_exact I r wp hM hk
  exact ⟨⟨o, g1, g2.1⟩, fun b eb => by cases eb; exact ⟨o, g1, g2.2.1⟩⟩
theorem recv_ok (wp : Wp cl X) {F : Hp} {π : List Addr} {M : Mem} {H : Hp} {v : V} {w : Val} {t : Rt} (r : Rel X.K cl F π M H) (h : IsV X.K cl F π v w) (e : recvT M w = some t) : IsT X t.nm v H := by
  cases w with
  | d x =>
    cases x with
    | list ds =>
      cases e
      simp only [IsV, IsD] at h
      obtain ⟨a, xs, rfl, h1, _⟩ := h
      exact isT_list (sqL_sub r.sub h1)
    | tuple ds =>
      cases e
      simp only [IsV, IsD] at h
      obtain ⟨a, xs, rfl, h1, _⟩ := h
      exact isT_tup r.sub h1
    | str y => cases e; cases h; exact isT_str
    | none => cases e
    | bool _ => cases e
    | int _ => cases e
    | dict _ => cases e
  | p k =>
    obtain ⟨a, h1, rfl⟩ := h
    simp only [recvT] at e
    split at e
    · rename_i vs hM
      cases e
      obtain ⟨⟨xs, g1, _⟩, _⟩ := r.cell k _ a hM h1 rfl
      exact isT_list (.inl (.inl g1))
    · rename_i kvs hM
      cases e
      exact isT_dict wp r hM h1
    · cases e
  | x c fs => cases e
theorem isT_stay (wp : Wp cl X) {n : Nat} {F1 F2 : Hp} {π1 π2 : List Addr} {M1 M2 : Mem} {H1 H2 : Hp} {u : V} {v : Val} {t : Rt} (x2 : Nxt X.K cl n F1 π1 M1 H1 F2 π2 M2 H2) (r1 : Rel X.K cl F1 π1 M1 H1) (q : IsV X.K cl F1 π1 u v) (er : recvT M1 v = some t) : IsT X t.nm u H2 := by
  refine recv_ok wp x2.rel (q.mono x2.fsub x2.pre) ?_
  cases v with
  | d y => cases y <;> first | exact er | cases er
  | x c fs => cases er
  | p k =>
    have kd : ∀ c c', M1[k]? = some c → M2[k]? = some c' → c'.kind = c.kind := fun c c' => x2.kd k c c'
    simp only [recvT] at er ⊢
    have hk : ∀ c, M1[k]? = some c → ∃ c', M2[k]? = some c' := fun c hc => by
      have h1 := (List.getElem?_eq_some_iff.mp hc).1
      exact ⟨_, List.getElem?_eq_getElem (Nat.lt_of_lt_of_le h1 (x2.le r1))⟩
    split at er
    · rename_i vs hM
      obtain ⟨c', h'⟩ := hk _ hM
      have := kd _ _ hM h'
      rw [h']
      cases c' <;> first | exact er | cases this
    · rename_i vs hM
      obtain ⟨c', h'⟩ := hk _ hM
      have := kd _ _ hM h'
      rw [h']
      cases c' <;> first | exact er | cases this
    · cases er
/-- a method, by what it does to values -/
def BmFact (X : Cx) (cl : Cl) (b : Bm) : Prop := ∀ t, mtOk b t = true → ∃ id, Mth t.nm b.nm id ∧ ∀ (n : Nat) (F : Hp) (π : List Addr) (M : Mem) (H : Hp) (x : V) (xs : List V) (w : Val) (ws : List Val) (Q : VK) (E : XK), Rel X.K cl F π M H → n ≤ M.length → IsV X.K cl F π x w → IsVs X.K cl F π xs ws → RV X.K cl n F π M H (bmV .v n b M w ws) Q E → IsT X t.nm x H →
  RunM X id x xs H Q
theorem bm_read (wp : Wp cl X) {b : Bm} {ca : E} {cs : Es} {σ : L2.St} {H : Hp} {Q : VK} (hm : BmFact X cl b) (h : tE X.K cl G W (.bm b ca cs) σ H Q) :
    (tE X.K cl G W ca) σ H fun x H1 => ∃ T id, Mth T b.nm id ∧ IsT X T x H1 ∧ (tEs X.K cl G W cs) σ H1 fun xs H2 => RunM X id x xs H2 Q := by
  obtain ⟨n, F, π, M, ρ, st, h⟩ := h
  simp only [ev] at h
  refine ⟨n, F, π, M, ρ, st, RV.bindV st.rel h fun v F1 π1 M1 H1 u x q z => ?_⟩
  cases er : recvT M1 v with
  | none => rw [er] at z; exact z.elim
  | some t =>
    rw [er] at z
    dsimp only at z
    by_cases hmt : mtOk b t = true
    · rw [if_pos hmt] at z
      obtain ⟨id, mth, run⟩ := hm t hmt
      refine ⟨t.nm, id, mth, recv_ok wp x.rel q er, n, F1, π1, M1, ρ, st.next x, RVs.bindV x.rel z fun ws F2 π2 M2 H2 us x2 q2 z2 => ?_⟩
      refine run n F2 π2 M2 H2 u us v ws Q _ x2.rel ((st.next x).next x2).le (q.mono x2.fsub x2.pre) q2 z2 ?_
      -- the type stays: a tuple's, a text's by the value; a list's, a dict's object is still one
      exact isT_stay wp x2 x.rel q er
    · rw [if_neg hmt] at z; exact z.elim
theorem bm_append : BmFact X cl .append := by
  intro t ht
  cases t <;> first | cases ht | skip
  refine ⟨_, mth_append, fun n F π M H x xs w ws Q E r hn hx hxs h _ pins σ s v us I rx rxs => ?_⟩
  have hl := lim_eq
  unfold bmV at h
  split at h <;> rename_i heq <;> first | cases heq | skip
  · rename_i k a
    obtain ⟨p, h1, rfl⟩ := hx
    obtain ⟨y, rfl, hy⟩ := vals_one hxs
    split at h
    · rename_i vs hM
      split at h
      · rename_i c
        obtain ⟨⟨xs, g1, g2⟩, _⟩ := r.cell k _ p hM h1 rfl
        refine mt_append pins s σ H _ _ v us Q I rx rxs ⟨p, xs, y, rfl, rfl, g1, by rw [g2.length, ← hl]; exact c.1, ?_⟩
        refine h F π _ .non (Nxt.setC r hM rfl rfl h1 (fun b o nb e => by rw [upd_ne nb]; exact e) ⟨_, upd_same, paired_append g2 (.cons hy .nil)⟩ ?_) rfl
        cases a with
        | p j => exact .inr (of_decide_eq_true c.2)
        | d z => exact .inl fun j hj => by simpa [Cell.ptrs, Val.ptrs] using hj
        | x c fs => exact .inl fun j hj => by simpa [Cell.ptrs, Val.ptrs] using hj
      · exact h.elim
    · exact h.elim
  · exact h.elim
theorem ptrs_set {vs ws : List Val} (h : ∀ v ∈ ws, v ∈ vs) : ∀ j ∈ (Cell.lst ws).ptrs, j ∈ (Cell.lst vs).ptrs := fun j hj => by
  simp only [Cell.ptrs, List.mem_flatMap] at hj ⊢
  obtain ⟨v, hv, h1⟩ := hj
  exact ⟨v, h v hv, h1⟩
theorem ptrs_put {vs ws : List Val} {n k : Nat} {a : Val} (hm : mayPut n k a = true) (h : ∀ v ∈ ws, v ∈ vs ∨ v = a) : (∀ j ∈ (Cell.lst ws).ptrs, j ∈ (Cell.lst vs).ptrs) ∨ n ≤ k := by
  by_cases hk : n ≤ k
  · exact .inr hk
  refine .inl fun j hj => ?_
  simp only [Cell.ptrs, List.mem_flatMap] at hj ⊢
  obtain ⟨v, hv, h1⟩ := hj
  rcases h v hv with g | rfl
  · exact ⟨v, g, h1⟩
  · cases v with
    | d z => cases h1
    | x c fs => cases h1
    | p q => simp [mayPut] at hm; omega
theorem paired_take {α β : Type} {R : α → β → Prop} {l : List α} {m : List β} (h : Paired R l m) (n : Nat) : Paired R (l.take n) (m.take n) := by
  induction h generalizing n with
  | nil => simp; exact .nil
  | cons a t ih => cases n with
    | zero => exact .nil
    | succ n => exact .cons a (ih n)
theorem paired_drop {α β : Type} {R : α → β → Prop} {l : List α} {m : List β} (h : Paired R l m) (n : Nat) : Paired R (l.drop n) (m.drop n) := by
  induction h generalizing n with
  | nil => simp; exact .nil
  | cons a t ih => cases n with
    | zero => exact .cons a t
    | succ n => exact ih n
theorem paired_reverse {α β : Type} {R : α → β → Prop} {l : List α} {m : List β} (h : Paired R l m) : Paired R l.reverse m.reverse := by
  induction h with
  | nil => exact .nil
  | cons a t ih => rw [List.reverse_cons, List.reverse_cons]; exact paired_append ih (.cons a .nil)
theorem paired_erase {α β : Type} {R : α → β → Prop} {l : List α} {m : List β} (h : Paired R l m) (n : Nat) : Paired R (l.eraseIdx n) (m.eraseIdx n) := by
  induction h generalizing n with
  | nil => simp; exact .nil
  | cons a t ih => cases n with
    | zero => exact t
    | succ n => exact .cons a (ih n)
theorem paired_dropLast {α β : Type} {R : α → β → Prop} {l : List α} {m : List β} (h : Paired R l m) : Paired R l.dropLast m.dropLast := by
  rw [List.dropLast_eq_take, List.dropLast_eq_take, h.length]
  exact paired_take h _
theorem bm_insert : BmFact X cl .insert := by
  intro t ht
  cases t <;> first | cases ht | skip
  refine ⟨_, mth_insert, fun n F π M H x xs w ws Q E r hn hx hxs h _ pins σ s v us I rx rxs => ?_⟩
  have hl := lim_eq
  unfold bmV at h
  split at h <;> rename_i heq <;> first | cases heq | skip
  · rename_i k i a
    obtain ⟨p, h1, rfl⟩ := hx
    obtain ⟨y0, y, rfl, hy0, hy⟩ := vals_two hxs
    cases hy0
    split at h
    · rename_i vs hM
      split at h
      · rename_i c
        obtain ⟨⟨xs, g1, g2⟩, _⟩ := r.cell k _ p hM h1 rfl
        refine mt_insert pins s σ H _ _ v us Q I rx rxs ⟨p, xs, i, y, rfl, rfl, g1, by rw [g2.length, ← hl]; exact c.1, c.2.1, c.2.2.1, ?_⟩
        refine h F π _ .non (Nxt.setC r hM rfl rfl h1 (fun b o nb e => by rw [upd_ne nb]; exact e) ⟨_, upd_same, paired_append (paired_append (paired_take g2 _) (.cons hy .nil)) (paired_drop g2 _)⟩ (ptrs_put c.2.2.2 fun z hz => ?_)) rfl
        rcases List.mem_append.mp hz with hz | hz
        · rcases List.mem_append.mp hz with hz | hz
          · exact .inl (List.mem_of_mem_take hz)
          · exact .inr (by simpa using hz)
        · exact .inl (List.mem_of_mem_drop hz)
      · exact h.elim
    · exact h.elim
  · exact h.elim
theorem bm_clear : BmFact X cl .clear := by
  intro t ht
  cases t <;> first | cases ht | skip
  refine ⟨_, mth_clear, fun n F π M H x xs w ws Q E r hn hx hxs h _ pins σ s v us I rx rxs => ?_⟩
  unfold bmV at h
  split at h <;> rename_i heq <;> first | cases heq | skip
  · rename_i k
    obtain ⟨p, h1, rfl⟩ := hx
    cases hxs
    split at h
    · rename_i vs hM
      obtain ⟨⟨xs, g1, g2⟩, _⟩ := r.cell k _ p hM h1 rfl
      refine mt_clear pins s σ H _ _ v us Q I rx rxs ⟨p, xs, rfl, rfl, g1, ?_⟩
      exact h F π _ .non (Nxt.setC r hM rfl rfl h1 (fun b o nb e => by rw [upd_ne nb]; exact e) ⟨_, upd_same, .nil⟩ (.inl (ptrs_set fun z hz => by cases hz))) rfl
    · exact h.elim
  · exact h.elim
theorem bm_reverse : BmFact X cl .reverse := by
  intro t ht
  cases t <;> first | cases ht | skip
  refine ⟨_, mth_reverse, fun n F π M H x xs w ws Q E r hn hx hxs h _ pins σ s v us I rx rxs => ?_⟩
  unfold bmV at h
  split at h <;> rename_i heq <;> first | cases heq | skip
  · rename_i k
    obtain ⟨p, h1, rfl⟩ := hx
    cases hxs
    split at h
    · rename_i vs hM
      obtain ⟨⟨xs, g1, g2⟩, _⟩ := r.cell k _ p hM h1 rfl
      refine mt_reverse pins s σ H _ _ v us Q I rx rxs ⟨p, xs, rfl, rfl, g1, ?_⟩
      exact h F π _ .non (Nxt.setC r hM rfl rfl h1 (fun b o nb e => by rw [upd_ne nb]; exact e) ⟨_, upd_same, paired_reverse g2⟩ (.inl (ptrs_set fun z hz => by simpa using hz))) rfl
    · exact h.elim
  · exact h.elim
theorem bm_pop0 : BmFact X cl .pop0 := by
  intro t ht
  cases t <;> first | cases ht | skip
  refine ⟨_, mth_pop, fun n F π M H x xs w ws Q E r hn hx hxs h _ pins σ s v us I rx rxs => ?_⟩
  unfold bmV at h
  split at h <;> rename_i heq <;> first | cases heq | skip
  · rename_i k
    obtain ⟨p, h1, rfl⟩ := hx
    cases hxs
    split at h
    · rename_i vs hM
      obtain ⟨⟨xs, g1, g2⟩, _⟩ := r.cell k _ p hM h1 rfl
      cases el : vs.getLast? with
      | none => rw [el] at h; exact h.elim
      | some a =>
        rw [el] at h
        have el' : vs[vs.length - 1]? = some a := by rw [← List.getLast?_eq_getElem?]; exact el
        obtain ⟨y, hy, hya⟩ := paired_at g2 el'
        refine mt_pop pins s σ H _ _ v us Q I rx rxs ⟨p, xs, y, rfl, rfl, g1, by rw [g2.length]; exact hy, ?_⟩
        exact h F π _ y (Nxt.setC r hM rfl rfl h1 (fun b o nb e => by rw [upd_ne nb]; exact e) ⟨_, upd_same, paired_dropLast g2⟩ (.inl (ptrs_set fun z hz => (List.dropLast_sublist _).subset hz))) hya
    · exact h.elim
  · exact h.elim
theorem seq_ix {n : Nat} {i : Int} {j : Nat} (h : Fk.ixN n i = some j) : seqIndex? i n = some j := (ixN_seq (show L2.ixN n i = some j from h)).1
theorem bm_pop1 : BmFact X cl .pop1 := by
  intro t ht
  cases t <;> first | cases ht | skip
  refine ⟨_, mth_pop, fun n F π M H x xs w ws Q E r hn hx hxs h _ pins σ s v us I rx rxs => ?_⟩
  unfold bmV at h
  split at h <;> rename_i heq <;> first | cases heq | skip
  · rename_i k i
    obtain ⟨p, h1, rfl⟩ := hx
    obtain ⟨y0, rfl, hy0⟩ := vals_one hxs
    cases hy0
    split at h
    · rename_i vs hM
      obtain ⟨⟨xs, g1, g2⟩, _⟩ := r.cell k _ p hM h1 rfl
      cases ei : Fk.ixN vs.length i with
      | none => rw [ei] at h; exact h.elim
      | some j =>
        rw [ei] at h
        simp only [Option.bind_some] at h
        cases ej : vs[j]? with
        | none => rw [ej] at h; exact h.elim
        | some a =>
          rw [ej] at h
          simp only [Option.map_some] at h
          split at h
          · rename_i c
            obtain ⟨y, hy, hya⟩ := paired_at g2 ej
            refine mt_popAt pins s σ H _ _ v us Q I rx rxs ⟨p, xs, i, j, y, rfl, rfl, g1, c.1, c.2, seq_ix (by rw [g2.length]; exact ei), hy, ?_⟩
            exact h F π _ y (Nxt.setC r hM rfl rfl h1 (fun b o nb e => by rw [upd_ne nb]; exact e) ⟨_, upd_same, paired_erase g2 _⟩ (.inl (ptrs_set fun z hz => List.mem_of_mem_eraseIdx hz))) hya
          · exact h.elim
    · exact h.elim
  · exact h.elim
/-- a list's items, as == asks them -/
theorem find_split {p : D → Bool} : ∀ {xs : List D} {j : Nat}, xs.findIdx? p = some j → ∃ z, xs[j]? = some z ∧ p z = true ∧ ∀ (m : Nat) (z' : D), m < j → xs[m]? = some z' → p z' = false
  | [], _, h => by simp at h
  | x :: xs, j, h => by
    rw [List.findIdx?_cons] at h
    split at h
    · rename_i hp
      cases h
      exact ⟨x, rfl, hp, fun m _ hm => absurd hm (Nat.not_lt_zero _)⟩
    · rename_i hp
      cases e : xs.findIdx? p with
      | none => rw [e] at h; cases h
      | some i =>
        rw [e] at h; cases h
        obtain ⟨z, h1, h2, h3⟩ := find_split e
        refine ⟨z, by simpa using h1, h2, fun m z' hm hz => ?_⟩
        cases m with
        | zero => simp at hz; subst hz; simpa using hp
        | succ m => exact h3 m z' (Nat.lt_of_succ_lt_succ hm) (by simpa using hz)
theorem data_ok {F : Hp} {π : List Addr} {M : Mem} {H : Hp} {v : V} {w : Val} {ds : List D} (r : Rel X.K cl F π M H) (h : IsV X.K cl F π v w) (e : dataOf M w = some ds) : (∃ a xs, v = .ref a ∧ SqL X.K H a xs ∧ IsDs X.K F xs ds) ∨ (∃ a xs, v = .ref a ∧ TupD X.K F a xs ∧ IsDs X.K F xs ds ∧ w = .d (.tuple ds)) := by
  unfold dataOf at e
  cases e1 : seqOf M w with
  | none => rw [e1] at e; cases e
  | some vs =>
    rw [e1] at e
    cases w with
    | d y =>
      cases y with
      | list es =>
        simp only [seqOf, Option.some.injEq] at e1; subst e1
        simp only [Option.bind_some, allD_map, Option.some.injEq] at e; subst e
        simp only [IsV, IsD] at h
        obtain ⟨a, xs, rfl, h1, h2⟩ := h
        exact .inl ⟨a, xs, rfl, sqL_sub r.sub h1, h2⟩
      | tuple es =>
        simp only [seqOf, Option.some.injEq] at e1; subst e1
        simp only [Option.bind_some, allD_map, Option.some.injEq] at e; subst e
        simp only [IsV, IsD] at h
        obtain ⟨a, xs, rfl, h1, h2⟩ := h
        exact .inr ⟨a, xs, rfl, h1, h2, rfl⟩
      | none => cases e1
      | bool _ => cases e1
      | int _ => cases e1
      | str _ => cases e1
      | dict _ => cases e1
    | p k =>
      obtain ⟨a, h1, rfl⟩ := h
      simp only [seqOf] at e1
      cases hM : M[k]? with
      | none => rw [hM] at e1; cases e1
      | some c =>
        rw [hM] at e1
        cases c with
        | lst ws =>
          cases e1
          obtain ⟨⟨xs, g1, g2⟩, _⟩ := r.cell k _ a hM h1 rfl
          exact .inl ⟨a, xs, rfl, .inl (.inl g1), isDs_of_V g2 e⟩
        | ro ws =>
          cases e1
          obtain ⟨⟨o, xs, g1, g2⟩, _⟩ := r.cell k _ a hM h1 rfl
          exact .inl ⟨a, xs, rfl, .inl (.inr ⟨o, g1⟩), isDs_of_V g2 e⟩
        | dead => cases e1
        | dict _ => cases e1
        | ins _ _ => cases e1
    | x c fs => cases e1
theorem bm_index (hu : X.A.units + 65 < cLine) : BmFact X cl .index := by
  intro t ht
  have key : ∀ (n : Nat) (F : Hp) (π : List Addr) (M : Mem) (H : Hp) (x : V) (xs : List V) (w : Val) (ws : List Val) (Q : VK) (E : XK), Rel X.K cl F π M H → IsV X.K cl F π x w → IsVs X.K cl F π xs ws → RV X.K cl n F π M H (bmV .v n .index M w ws) Q E →
      ∃ z ds y j, ws = [.d z] ∧ xs = [y] ∧ IsD X.K F y z ∧ dataOf M w = some ds ∧ shp z = true ∧ shp (.list ds) = true ∧ ds.findIdx? (fun z' => PyData.eqv z' z) = some j ∧ Q (.int (j : Nat)) H := fun n F π M H x xs w ws Q E r hx hxs h => by
    unfold bmV at h
    split at h <;> rename_i heq <;> first | cases heq | skip
    · rename_i z
      obtain ⟨y, rfl, hy⟩ := vals_one hxs
      split at h
      · rename_i ds hd
        split at h
        · rename_i c
          obtain ⟨s1, s2⟩ := Bool.and_eq_true_iff.mp c
          split at h
          · rename_i j ej
            exact ⟨z, ds, y, j, rfl, rfl, hy, hd, s1, s2, ej, RV.here r h rfl⟩
          · exact h.elim
        · exact h.elim
      · exact h.elim
    · exact h.elim
  cases t with
  | list =>
    refine ⟨_, mth_index, fun n F π M H x xs w ws Q E r hn hx hxs h tx pins σ s v us I rx rxs => ?_⟩
    obtain ⟨z, ds, y, j, rfl, rfl, hy, hd, s1, s2, ej, q⟩ := key n F π M H x xs w ws Q E r hx hxs h
    obtain ⟨zj, f1, f2, f3⟩ := find_split ej
    rcases data_ok r hx hd with ⟨a, xs, rfl, h1, h2⟩ | ⟨a, xs, rfl, h1, h2, _⟩
    · exact mt_indexD hu pins s σ H _ _ v us Q I rx rxs ⟨a, y, z, ds, j, zj, rfl, rfl, .lst h1 (dps_of r.sub _ _ h2), dp_of r.sub _ _ hy, s2, s1, f1, f2, f3, q⟩
    · -- a tuple is no list
      exfalso
      cases rx
      obtain ⟨⟨o, ho, hc⟩, _⟩ := tx pins σ s _ I rfl
      obtain ⟨⟨o2, ho2, hc2⟩, _⟩ := isT_tup r.sub h1 pins σ s _ I rfl
      rw [ho] at ho2; cases ho2
      rw [hc] at hc2
      exact absurd hc2 (by decide)
  | tuple =>
    refine ⟨_, mth_indexT, fun n F π M H x xs w ws Q E r hn hx hxs h tx pins σ s v us I rx rxs => ?_⟩
    obtain ⟨z, ds, y, j, rfl, rfl, hy, hd, s1, s2, ej, q⟩ := key n F π M H x xs w ws Q E r hx hxs h
    obtain ⟨zj, f1, f2, f3⟩ := find_split ej
    rcases data_ok r hx hd with ⟨a, xs, rfl, h1, h2⟩ | ⟨a, xs, rfl, h1, h2, _⟩
    · exfalso
      cases rx
      obtain ⟨⟨o, ho, hc⟩, _⟩ := tx pins σ s _ I rfl
      obtain ⟨⟨o2, ho2, hc2⟩, _⟩ := isT_list h1 pins σ s _ I rfl
      rw [ho] at ho2; cases ho2
      rw [hc] at hc2
      exact absurd hc2 (by decide)
    · cases rx
      cases rxs with
      | cons ry rt =>
        rename_i uy ut
        cases rt
        obtain ⟨its, rv, ⟨⟨cls, dd, data, sls⟩, ho, hc, nn, hdt⟩, hlen⟩ := I.tuple (h1.sq r.sub)
        simp only at hc hdt
        subst hc hdt
        obtain ⟨as, ra⟩ := Dp.readsAll I ds _ its (dps_of r.sub _ _ h2) rv
        obtain ⟨bs, rb⟩ := Dp.reads I z y uy (dp_of r.sub _ _ hy) ry
        have hcl : PyData.canLayAll0 ds = true := SeqAt.canLay_of_shaped (d := .list ds) s2
        have hmap : its.map (SeqAt.readOf s.heap) = ds := SeqAt.readsAll_map ds its as hcl ra
        have hroom := room_in_shaped (xs := ds) s1 hu
        obtain ⟨hjd, _⟩ := List.getElem?_eq_some_iff.mp f1
        have hil : its.length = ds.length := by rw [← hmap, List.length_map]
        have hj : j < its.toArray.size := by simpa [hil] using hjd
        have at_ : ∀ (m : Nat) (hm : m < its.toArray.size) (z' : D), ds[m]? = some z' → SeqAt.readOf s.heap its.toArray[m] = z' := fun m hm z' hz' => by
          have hml : m < its.length := by simpa using hm
          rw [← hmap, List.getElem?_map, List.getElem?_eq_getElem hml] at hz'
          simpa using hz'
        have eqs := SeqAt.items_eqAt (vs := its.toArray) (show ReadsAll s.heap its.toArray.toList ds as from ra) rb hcl (SeqAt.canLay_of_shaped s1) hroom
        refine call_meets PySem.F.slot_tuple_index ⟨_, ho, rfl⟩ PySem.F.entry_tuple_index (PySem.F.args_tuple_index_2 _ _)
          (SeqAt.tuple_index2_found a its.toArray nn dd sls uy (fun m => if hm : m < its.toArray.size then PyData.eqv (SeqAt.readOf s.heap its.toArray[m]) z else false) j hj (Nat.zero_le _) hj ?_ ?_) ⟨ho, fun m hm => ?_, ?_⟩
        · rw [dif_pos hj, at_ j hj zj f1]
          exact f2
        · intro m hm _ hmj
          rw [dif_pos hm]
          have hmd : m < ds.length := by rw [← hil]; simpa using hm
          rw [at_ m hm _ (List.getElem?_eq_getElem hmd)]
          exact f3 m _ hmj (List.getElem?_eq_getElem hmd)
        · rw [dif_pos hm]
          exact eqs _ (Array.getElem_mem hm)
        · exact ⟨.int (j : Nat), H, I.tok _, ⟨_, rfl⟩, q⟩
  | str => cases ht
  | dict => cases ht
theorem bm_count (hu : X.A.units + 65 < cLine) : BmFact X cl .count := by
  intro t ht
  cases t <;> first | cases ht | skip
  refine ⟨_, mth_count, fun n F π M H x xs w ws Q E r hn hx hxs h tx pins σ s v us I rx rxs => ?_⟩
  unfold bmV at h
  split at h <;> rename_i heq <;> first | cases heq | skip
  · rename_i z
    obtain ⟨y, rfl, hy⟩ := vals_one hxs
    split at h
    · rename_i ds hd
      split at h
      · rename_i c
        obtain ⟨s1, s2⟩ := Bool.and_eq_true_iff.mp c
        have q := RV.here r h (u := .int ((ds.filter fun z' => PyData.eqv z' z).length : Nat)) rfl
        rcases data_ok r hx hd with ⟨a, xs, rfl, h1, h2⟩ | ⟨a, xs, rfl, h1, h2, _⟩
        · cases rx
          cases rxs with
          | cons ry rt =>
            rename_i uy ut
            cases rt
            obtain ⟨its, rv, ⟨⟨cls, dd, data, sls⟩, nn, ho, hc, hdn, hdt⟩, hlen⟩ := I.list h1
            simp only at hc hdt
            subst hc hdt
            obtain ⟨as, ra⟩ := Dp.readsAll I ds _ its (dps_of r.sub _ _ h2) rv
            obtain ⟨bs, rb⟩ := Dp.reads I z y uy (dp_of r.sub _ _ hy) ry
            have hcl : PyData.canLayAll0 ds = true := SeqAt.canLay_of_shaped (d := .list ds) s2
            have hmap : its.map (SeqAt.readOf s.heap) = ds := SeqAt.readsAll_map ds its as hcl ra
            have hroom := room_in_shaped (xs := ds) s1 hu
            have eqs := SeqAt.items_eqAt (vs := its.toArray) (show ReadsAll s.heap its.toArray.toList ds as from ra) rb hcl (SeqAt.canLay_of_shaped s1) hroom
            refine call_meets PySem.F.slot_list_count ⟨_, ho, rfl⟩ PySem.F.entry_list_count (PySem.F.args_list_count_2 _ _)
              (SeqAt.list_countAt a its.toArray nn dd sls uy (fun u => PyData.eqv (SeqAt.readOf s.heap u) z)) ⟨ho, eqs, ?_⟩
            have ec : its.toArray.toList.countP (fun u => PyData.eqv (SeqAt.readOf s.heap u) z) = (ds.filter fun z' => PyData.eqv z' z).length := by
              rw [← hmap, ← List.countP_eq_length_filter, List.countP_map]
              rfl
            rw [ec]
            exact ⟨.int _, H, I.tok _, ⟨_, rfl⟩, q⟩
        · exfalso
          cases rx
          obtain ⟨⟨o, ho, hc⟩, _⟩ := tx pins σ s _ I rfl
          obtain ⟨⟨o2, ho2, hc2⟩, _⟩ := isT_tup r.sub h1 pins σ s _ I rfl
          rw [ho] at ho2; cases ho2
          rw [hc] at hc2
          exact absurd hc2 (by decide)
      · exact h.elim
    · exact h.elim
  · exact h.elim
theorem mth_get : Mth "dict" "get" "dict.get" := ⟨PySem.F.plainAttrs_dict, PySem.F.slot_dict_get, PySem.F.type_dict_get⟩
theorem bm_get1 (hu : X.A.units + 65 < cLine) (wp : Wp cl X) : BmFact X cl .get1 := by
  intro t ht
  cases t <;> first | cases ht | skip
  refine ⟨_, mth_get, fun n F π M H x xs w ws Q E r hn hx hxs h _ pins σ s v us I rx rxs => ?_⟩
  unfold bmV at h
  split at h <;> rename_i heq <;> first | cases heq | skip
  · rename_i k d
    obtain ⟨p, h1, rfl⟩ := hx
    obtain ⟨y, rfl, hy⟩ := vals_one hxs
    cases rx
    cases rxs with
    | cons ry rt =>
      cases rt
      split at h
      · rename_i kvs hM
        split at h
        · rename_i ok
          exact dct_get1 hu I (asked I r wp hM h1 hy ry ok) ry fun z w' s' I' rz iz => ⟨z, H, I', rz, RV.here r h iz⟩
        · exact h.elim
      · exact h.elim
  · exact h.elim
theorem bm_get2 (hu : X.A.units + 65 < cLine) (wp : Wp cl X) : BmFact X cl .get2 := by
  intro t ht
  cases t <;> first | cases ht | skip
  refine ⟨_, mth_get, fun n F π M H x xs w ws Q E r hn hx hxs h _ pins σ s v us I rx rxs => ?_⟩
  unfold bmV at h
  split at h <;> rename_i heq <;> first | cases heq | skip
  · rename_i k d a
    obtain ⟨p, h1, rfl⟩ := hx
    obtain ⟨y, z, rfl, hy, hz⟩ := vals_two hxs
    cases rx
    cases rxs with
    | cons ry rt =>
      cases rt with
      | cons rz rt =>
        cases rt
        split at h
        · rename_i kvs hM
          split at h
          · rename_i ok
            exact dct_get2 hu I (asked I r wp hM h1 hy ry ok) ry rz hz fun z w' s' I' rz iz => ⟨z, H, I', rz, RV.here r h iz⟩
          · exact h.elim
        · exact h.elim
  · exact h.elim
theorem mth_split : Mth "str" "split" "str.split" := ⟨PySem.F.plainAttrs_str, PySem.F.slot_str_split, PySem.F.type_str_split⟩
theorem mth_join : Mth "str" "join" "str.join" := ⟨PySem.F.plainAttrs_str, PySem.F.slot_str_join, PySem.F.type_str_join⟩
theorem bm_split : BmFact X cl .split := by
  intro t ht
  cases t <;> first | (cases ht; done) | skip
  refine ⟨_, mth_split, fun n F π M H x xs w ws Q E r hn hx hxs h _ pins σ s v us I rx rxs => ?_⟩
  have hl := lim_eq
  unfold bmV at h
  split at h <;> rename_i heq <;> first | (cases heq; done) | skip
  · rename_i a b
    have hx : x = .str a := hx
    subst hx
    obtain ⟨y, rfl, hy⟩ := vals_one hxs
    have hy : y = .str b := hy
    subst hy
    split at h
    · rename_i c
      refine mt_split pins s σ H _ _ v us Q I rx rxs ⟨a, b, rfl, rfl, by simp; omega, by rw [← hl]; exact c.2, fun p hp => ?_⟩
      refine RV.newD r h _ hp ?_
      simp only [IsV, IsD]
      refine ⟨p, _, rfl, .inl (.inl upd_same), ?_⟩
      have gen : ∀ (F2 : Hp) (zs : List Str), IsDs X.K F2 (zs.map V.str) (zs.map PyData.str) := fun F2 zs => by
        induction zs with
        | nil => simp only [List.map_nil, IsDs]
        | cons z zs ih => simp only [List.map_cons, IsDs]; exact ⟨rfl, ih⟩
      exact gen _ _
    · exact h.elim
  · exact h.elim
theorem mth_upper : Mth "str" "upper" "str.upper" := ⟨PySem.F.plainAttrs_str, PySem.F.slot_str_upper, PySem.F.type_str_upper⟩
theorem bm_upper : BmFact X cl .upper := by
  intro t ht
  cases t <;> first | (cases ht; done) | skip
  refine ⟨_, mth_upper, fun n F π M H x xs w ws Q E r hn hx hxs h _ pins σ s v us I rx rxs => ?_⟩
  have hl := lim_eq
  unfold bmV at h
  split at h <;> rename_i heq <;> first | (cases heq; done) | skip
  · rename_i a
    have hx : x = .str a := hx
    subst hx
    cases hxs
    cases rxs
    obtain ⟨tk, rfl⟩ := rx
    split at h
    · rename_i c
      refine PySem.SC.upper (PyProof.Rows.short24 (by have := PyProof.Rows.len_upper a; have : lim = 16777216 := rfl; omega)) ?_
      exact ⟨.str (Txt.upper a), H, I.tok _, ⟨_, rfl⟩, RV.here r h rfl⟩
    · exact h.elim
  · exact h.elim
theorem texts_ok {F : Hp} : ∀ {xs : List V} {ds : List D} {ys : List Str}, IsDs X.K F xs ds → textsL ds = some ys → xs = ys.map V.str
  | [], [], ys, _, e => by
    simp only [textsL, Option.some.injEq] at e; subst e; rfl
  | [], _ :: _, _, h, _ => by simp only [IsDs] at h
  | _ :: _, [], _, h, _ => by simp only [IsDs] at h
  | x :: xs, d :: ds, ys, h, e => by
    simp only [IsDs] at h
    cases d with
    | str s =>
      simp only [textsL] at e
      cases q : textsL ds with
      | none => rw [q] at e; cases e
      | some zs =>
        rw [q] at e
        simp only [Option.map_some, Option.some.injEq] at e
        subst e
        have h1 : x = .str s := h.1
        rw [h1, texts_ok h.2 q]; rfl
    | none => cases e
    | bool _ => cases e
    | int _ => cases e
    | list _ => cases e
    | tuple _ => cases e
    | dict _ => cases e
theorem bm_join : BmFact X cl .join := by
  intro t ht
  cases t <;> first | (cases ht; done) | skip
  refine ⟨_, mth_join, fun n F π M H x xs w ws Q E r hn hx hxs h _ pins σ s v us I rx rxs => ?_⟩
  have hl := lim_eq
  unfold bmV at h
  split at h <;> rename_i heq <;> first | (cases heq; done) | skip
  · rename_i a v0
    have hx : x = .str a := hx
    subst hx
    obtain ⟨y, rfl, hy⟩ := vals_one hxs
    cases ed : dataOf M v0 with
    | none => rw [ed] at h; exact h.elim
    | some ds =>
      rw [ed] at h
      simp only [Option.bind_some] at h
      cases et : textsL ds with
      | none => rw [et] at h; exact h.elim
      | some ys =>
        rw [et] at h
        dsimp only at h
        split at h
        · rename_i c
          have q := RV.here r h (u := .str (Txt.join a ys)) rfl
          rcases data_ok r hy ed with ⟨p, zs, rfl, h1, h2⟩ | ⟨p, zs, rfl, h1, h2, _⟩
          · exact mt_join pins s σ H _ _ v us Q I rx rxs ⟨a, p, ys, rfl, rfl, .inl (by rw [← texts_ok h2 et]; exact h1), c, q⟩
          · exact mt_join pins s σ H _ _ v us Q I rx rxs ⟨a, p, ys, rfl, rfl, .inr (by rw [← texts_ok h2 et]; exact h1.sq r.sub), c, q⟩
        · exact h.elim
  · exact h.elim
end
end Fk

/-! FkStm: readings of statements. -/
namespace Fk
open PySem PySem.Spec PyProof.Rows L2
section
variable (K : PySem.W.Frag) (cl : Cl)
def RS (n : Nat) (F : Hp) (π : List Addr) (M : Mem) (H : Hp) (o : OutS) (D : Ends) (W : WX) : Prop := match o with
  | .nx ρ' M' => ∀ F' π' H' σ', Nxt K cl n F π M H F' π' M' H' → Slt K cl F' π' σ' ρ' → D.nx σ' H'
  | .rt v M' => ∀ F' π' H' u, Nxt K cl n F π M H F' π' M' H' → IsV K cl F' π' u v → D.rt u H'
  | .ex e ρ' M' => ∀ F' π' H' σ' cls d, Nxt K cl n F π M H F' π' M' H' → Slt K cl F' π' σ' ρ' → IsE K cl F' cls d e → W cls d σ' H'
  | .bad => False
def tSt (W : WX) (f : Nat → Slots → Mem → OutS) : TS := fun D σ H => ∃ n F π M ρ, Sta K cl n F π M ρ σ H ∧ RS K cl n F π M H (f n ρ M) D W
abbrev tS (G : Gam) (W : WX) (c : S) : TS := tSt K cl W fun n ρ M => evS G n ρ M c
abbrev tSs (G : Gam) (W : WX) (c : Ss) : TS := tSt K cl W fun n ρ M => evSs G n ρ M c
end
section
variable {K : PySem.W.Frag} {cl : Cl} {n n' L : Nat} {F F' F1 : Hp} {π π' π1 : List Addr} {M M' M1 : Mem} {H H' H1 : Hp} {ρ ρ' : Slots} {σ σ' : L2.St} {W : WX} {D : Ends}
theorem Nxt.base (x : Nxt K cl n' F π M H F' π' M' H') (h : n ≤ n') : Nxt K cl n F π M H F' π' M' H' :=
  ⟨x.rel, x.fsub, x.pre, x.fr, x.new, x.kd, fun m hm => x.wf m (Nat.le_trans hm h), x.fnew⟩
theorem RS.trans (r : Rel K cl F π M H) (x : Nxt K cl n F π M H F1 π1 M1 H1) {o : OutS} (h : RS K cl n F π M H o D W) : RS K cl n F1 π1 M1 H1 o D W := by
  cases o with
  | nx ρ' M' => exact fun F' π' H' s y q => h F' π' H' s (x.trans r y) q
  | rt v M' => exact fun F' π' H' u y q => h F' π' H' u (x.trans r y) q
  | ex e ρ' M' => exact fun F' π' H' s c d y q z => h F' π' H' s c d (x.trans r y) q z
  | bad => exact h
theorem RS.base {o : OutS} (h : RS K cl n F π M H o D W) (hn : n ≤ n') : RS K cl n' F π M H o D W := by
  cases o with
  | nx ρ' M' => exact fun F' π' H' s y q => h F' π' H' s (y.base hn) q
  | rt v M' => exact fun F' π' H' u y q => h F' π' H' u (y.base hn) q
  | ex e ρ' M' => exact fun F' π' H' s c d y q z => h F' π' H' s c d (y.base hn) q z
  | bad => exact h
theorem RV.bindS (st : Sta K cl n F π M ρ σ H) {o : Out Val} {f : Val → Mem → OutS} {Q' : VK} (h : RS K cl n F π M H (o.toS ρ f) D W)
    (g : ∀ v F1 π1 M1 H1 u, Nxt K cl n F π M H F1 π1 M1 H1 → IsV K cl F1 π1 u v → RS K cl n F1 π1 M1 H1 (f v M1) D W → Q' u H1) : RV K cl n F π M H o Q' (atW W σ) := by
  cases o with
  | ok v M' => exact fun F' π' H' u y q => g v F' π' M' H' u y q (RS.trans st.rel y h)
  | exc e M' => exact fun F' π' H' c d y q => h F' π' H' σ c d y (st.sl.mono y.fsub y.pre) q
  | bad => exact h
theorem RVs.bindS (st : Sta K cl n F π M ρ σ H) {o : Out (List Val)} {f : List Val → Mem → OutS} {Q' : List V → Hp → Prop} (h : RS K cl n F π M H (o.toS ρ f) D W)
    (g : ∀ v F1 π1 M1 H1 u, Nxt K cl n F π M H F1 π1 M1 H1 → IsVs K cl F1 π1 u v → RS K cl n F1 π1 M1 H1 (f v M1) D W → Q' u H1) : RVs K cl n F π M H o Q' (atW W σ) := by
  cases o with
  | ok v M' => exact fun F' π' H' u y q => g v F' π' M' H' u y q (RS.trans st.rel y h)
  | exc e M' => exact fun F' π' H' c d y q => h F' π' H' σ c d y (st.sl.mono y.fsub y.pre) q
  | bad => exact h
theorem RB.bindS (st : Sta K cl n F π M ρ σ H) {o : Out Bool} {f : Bool → Mem → OutS} {Q' : Bool → Hp → Prop} (h : RS K cl n F π M H (o.toS ρ f) D W)
    (g : ∀ v F1 π1 M1 H1, Nxt K cl n F π M H F1 π1 M1 H1 → RS K cl n F1 π1 M1 H1 (f v M1) D W → Q' v H1) : RB K cl n F π M H o Q' (atW W σ) := by
  cases o with
  | ok v M' => exact fun F' π' H' y => g v F' π' M' H' y (RS.trans st.rel y h)
  | exc e M' => exact fun F' π' H' c d y q => h F' π' H' σ c d y (st.sl.mono y.fsub y.pre) q
  | bad => exact h
theorem RS.seq (st : Sta K cl n F π M ρ σ H) {o : OutS} {f : Slots → Mem → OutS} (h : RS K cl n F π M H (o.seq f) D W) {N : L2.St → Hp → Prop}
    (g : ∀ ρ' F1 π1 M1 H1 σ', Nxt K cl n F π M H F1 π1 M1 H1 → Slt K cl F1 π1 σ' ρ' → RS K cl n F1 π1 M1 H1 (f ρ' M1) D W → N σ' H1) : RS K cl n F π M H o { D with nx := N } W := by
  cases o with
  | nx ρ' M' => exact fun F' π' H' s y q => g ρ' F' π' M' H' s y q (RS.trans st.rel y h)
  | rt v M' => exact h
  | ex e ρ' M' => exact h
  | bad => exact h
/-- a fresh list's cells all name cells -/
theorem Rel.wf (r : Rel K cl F π M H) : Wf M.length M := fun k c hk hc j hj => by
  by_cases hd : isDead c = true
  · cases c <;> first | (cases hd; done) | (cases hj; done)
  · have hp : k < π.length := by rw [r.len]; exact hk
    have hpk : π[k]? = some π[k] := List.getElem?_eq_getElem hp
    have one : ∀ {v : V} {w : Val}, IsV K cl F π v w → j ∈ w.ptrs → j < M.length := fun {v w} h hm => by
      cases w with
      | d _ => cases hm
      | x _ _ => cases hm
      | p i =>
        obtain ⟨a, e, _⟩ := h
        have : j = i := by simpa [Val.ptrs] using hm
        subst this
        rw [← r.len]; exact (List.getElem?_eq_some_iff.mp e).1
    have many : ∀ {xs : List V} {ws : List Val}, IsVs K cl F π xs ws → j ∈ ws.flatMap Val.ptrs → j < M.length := fun {xs ws} h hm => by
      obtain ⟨w, hw, hm⟩ := List.mem_flatMap.mp hm
      obtain ⟨i, hi⟩ := List.getElem?_of_mem hw
      obtain ⟨a, _, ha⟩ := paired_at h hi
      exact one ha hm
    obtain ⟨ok, _⟩ := r.cell k c _ hc hpk (by simpa using hd)
    cases c with
    | dead => cases hj
    | ro vs => obtain ⟨o, xs, _, h⟩ := ok; exact many h hj
    | lst vs => obtain ⟨xs, _, h⟩ := ok; exact many h hj
    | dict kvs =>
      obtain ⟨q, hq, hm⟩ := List.mem_flatMap.mp hj
      obtain ⟨i, hi⟩ := List.getElem?_of_mem hq
      rcases ok with ⟨ks, _, h⟩ | ⟨_, L, _, h⟩
      · obtain ⟨a, _, ha⟩ := paired_at h hi
        exact one ha.2 hm
      · obtain ⟨a, _, ha⟩ := paired_at h hi
        exact one ha.2.2.2 hm
    | ins c fs =>
      obtain ⟨dx, fs', _, h⟩ := ok
      obtain ⟨q, hq, hm⟩ := List.mem_flatMap.mp hj
      obtain ⟨i, hi⟩ := List.getElem?_of_mem hq
      obtain ⟨a, _, ha⟩ := paired_at h hi
      exact one ha.2 hm
theorem take_get {α : Type} {xs : List α} {n i : Nat} (h : i < n) : (xs.take n)[i]? = xs[i]? := by
  rw [List.getElem?_take, if_pos h]
theorem take_none {α : Type} {xs : List α} {n i : Nat} (h : ¬ i < n) : (xs.take n)[i]? = none := by
  rw [List.getElem?_take, if_neg h]
/-- a value that names only the first L cells -/
theorem IsV.cut {v : V} {w : Val} (h : IsV K cl F π v w) (hj : ∀ j ∈ w.ptrs, j < L) : IsV K cl F (π.take L) v w := by
  cases w with
  | d _ => exact h
  | x _ _ => exact h
  | p i =>
    obtain ⟨a, e, q⟩ := h
    exact ⟨a, by rw [take_get (hj i (by simp [Val.ptrs]))]; exact e, q⟩
theorem paired_mem {α β : Type} {R S : α → β → Prop} : ∀ {l : List α} {m : List β}, Paired R l m → (∀ a b, b ∈ m → R a b → S a b) → Paired S l m
  | _, _, .nil, _ => .nil
  | _, _, .cons a t, h => .cons (h _ _ List.mem_cons_self a) (paired_mem t fun a b hb => h a b (List.mem_cons_of_mem _ hb))
theorem CellOk.cut {a : Addr} {c : Cell} (h : CellOk K cl F π H a c) (hj : ∀ j ∈ c.ptrs, j < L) : CellOk K cl F (π.take L) H a c := by
  have many : ∀ {xs : List V} {ws : List Val}, IsVs K cl F π xs ws → (∀ j ∈ ws.flatMap Val.ptrs, j < L) → IsVs K cl F (π.take L) xs ws := fun {xs ws} h hm =>
    paired_mem h fun a b hb z => z.cut fun j hj => hm j (List.mem_flatMap.mpr ⟨b, hb, hj⟩)
  cases c with
  | dead => trivial
  | ro vs => obtain ⟨o, xs, h1, h2⟩ := h; exact ⟨o, xs, h1, many h2 hj⟩
  | lst vs => obtain ⟨xs, h1, h2⟩ := h; exact ⟨xs, h1, many h2 hj⟩
  | dict kvs =>
    rcases h with ⟨ks, h1, h2⟩ | ⟨h0, L, h1, h2⟩
    · exact .inl ⟨ks, h1, paired_mem h2 fun a b hb z => ⟨z.1, z.2.cut fun j hj' => hj j (List.mem_flatMap.mpr ⟨b, hb, hj'⟩)⟩⟩
    · exact .inr ⟨h0, L, h1, paired_mem h2 fun a b hb z => ⟨z.1, z.2.1, z.2.2.1, z.2.2.2.cut fun j hj' => hj j (List.mem_flatMap.mpr ⟨b, hb, hj'⟩)⟩⟩
  | ins c fs =>
    obtain ⟨dx, fs', h1, h2⟩ := h
    exact ⟨dx, fs', h1, paired_mem h2 fun a b hb z => ⟨z.1, z.2.cut fun j hj' => hj j (List.mem_flatMap.mpr ⟨b, hb, hj'⟩)⟩⟩
theorem Rel.cut (r : Rel K cl F π M H) (hw : Wf L M) (hl : L ≤ M.length) : Rel K cl F (π.take L) (M.take L) H where
  sub := r.sub
  len := by rw [List.length_take, List.length_take, r.len]
  cell := fun k c a h1 h2 h3 => by
    by_cases hk : k < L
    · rw [take_get hk] at h1 h2
      obtain ⟨q1, q2⟩ := r.cell k c a h1 h2 h3
      exact ⟨q1.cut (hw k c hk h1), q2⟩
    · rw [take_none hk] at h1; cases h1
  inj := fun j k c c' a h1 h2 h3 h4 h5 h6 => by
    by_cases hj : j < L
    · by_cases hk : k < L
      · rw [take_get hj] at h1 h5
        rw [take_get hk] at h2 h6
        exact r.inj j k c c' a h1 h2 h3 h4 h5 h6
      · rw [take_none hk] at h2; cases h2
    · rw [take_none hj] at h1; cases h1
/-- the younger cells forgotten -/
theorem Nxt.cut (r : Rel K cl F π M H) (x : Nxt K cl n F π M H F' π' M' H') (hw : Wf M.length M') : Nxt K cl n F π M H F' π (M'.take M.length) H' := by
  obtain ⟨t, e⟩ := x.pre
  have hl := x.le r
  have hp : π'.take M.length = π := by rw [e, ← r.len, List.take_append_of_le_length (Nat.le_refl _), List.take_length]
  have rr := x.rel.cut hw hl
  rw [hp] at rr
  exact {
    rel := rr
    fsub := x.fsub
    pre := pre_refl π
    fr := x.fr
    new := fun k a hk q => by
      have := (List.getElem?_eq_some_iff.mp q).1
      rw [r.len] at this; omega
    kd := fun k c c' h h' => by
      by_cases hk : k < M.length
      · rw [take_get hk] at h'; exact x.kd k c c' h h'
      · rw [take_none hk] at h'; cases h'
    wf := fun m hm w k c hk hc => by
      by_cases hk' : k < M.length
      · rw [take_get hk'] at hc; exact x.wf m hm w k c hk hc
      · rw [take_none hk'] at hc; cases hc
    fnew := x.fnew }
theorem Slt.cut (s : Slt K cl F π σ ρ) : Slt K cl F (π.take L) σ (ρ.map (dangle L)) where
  len := by rw [List.length_map, s.len]
  at_ := fun i v e => by
    rw [List.getElem?_map] at e
    cases q : ρ[i]? with
    | none => rw [q] at e; cases e
    | some o =>
      rw [q] at e
      simp only [Option.map_some, Option.some.injEq] at e
      have go : o = some v ∧ ∀ j ∈ v.ptrs, j < L := by
        cases o with
        | none => cases e
        | some w =>
          cases w with
          | d _ => simp only [dangle, Option.some.injEq] at e; subst e; exact ⟨rfl, fun j hj => by cases hj⟩
          | x _ _ => simp only [dangle, Option.some.injEq] at e; subst e; exact ⟨rfl, fun j hj => by cases hj⟩
          | p k =>
            simp only [dangle] at e
            split at e
            · rename_i hk
              cases e
              exact ⟨rfl, fun j hj => by
                have : j = k := by simpa [Val.ptrs] using hj
                rw [this]; exact hk⟩
            · cases e
      obtain ⟨rfl, hv⟩ := go
      obtain ⟨u, a, b⟩ := s.at_ i v q
      exact ⟨u, a, b.cut hv⟩
/-! ### the readings -/
variable {G : Gam}
theorem set_read {i : Nat} {c : E} (h : tS K cl G W (.set i c) D σ H) : tE K cl G W c σ H fun x H1 => gName i x σ H1 D.nx := by
  obtain ⟨n, F, π, M, ρ, st, h⟩ := h
  simp only [evS] at h
  exact ⟨n, F, π, M, ρ, st, RV.bindS st h fun v F1 π1 M1 H1 u x q z => z F1 π1 H1 _ (Nxt.refl x.rel) ((st.next x).sl.set q)⟩
theorem expr_read {c : E} (h : tS K cl G W (.expr c) D σ H) : tE K cl G W c σ H fun _ H1 => D.nx σ H1 := by
  obtain ⟨n, F, π, M, ρ, st, h⟩ := h
  simp only [evS] at h
  exact ⟨n, F, π, M, ρ, st, RV.bindS st h fun v F1 π1 M1 H1 u x q z => z F1 π1 H1 _ (Nxt.refl x.rel) (st.next x).sl⟩
theorem ret_read {c : E} (h : tS K cl G W (.ret c) D σ H) : tE K cl G W c σ H D.rt := by
  obtain ⟨n, F, π, M, ρ, st, h⟩ := h
  simp only [evS] at h
  exact ⟨n, F, π, M, ρ, st, RV.bindS st h fun v F1 π1 M1 H1 u x q z => z F1 π1 H1 _ (Nxt.refl x.rel) q⟩
theorem iff_read {c : T} {a b : Ss} (h : tS K cl G W (.iff c a b) D σ H) : tT K cl G W c σ H fun t H1 => if t = true then tSs K cl G W a D σ H1 else tSs K cl G W b D σ H1 := by
  obtain ⟨n, F, π, M, ρ, st, h⟩ := h
  simp only [evS] at h
  refine ⟨n, F, π, M, ρ, st, RB.bindS st h fun t F1 π1 M1 H1 x z => ?_⟩
  cases t with
  | true => exact ⟨n, F1, π1, M1, ρ, st.next x, by simpa using z⟩
  | false => exact ⟨n, F1, π1, M1, ρ, st.next x, by simpa using z⟩
theorem cons_read {s : S} {ss : Ss} (h : tSs K cl G W (.cons s ss) D σ H) : tS K cl G W s { D with nx := tSs K cl G W ss D } σ H := by
  obtain ⟨n, F, π, M, ρ, st, h⟩ := h
  simp only [evSs] at h
  exact ⟨n, F, π, M, ρ, st, RS.seq st h fun ρ' F1 π1 M1 H1 σ' x s z => ⟨n, F1, π1, M1, ρ', ⟨x.rel, (st.next x).le, s⟩, z⟩⟩
theorem setT_read {is : List Nat} {c : E} (h : tS K cl G W (.setT is c) D σ H) : tE K cl G W c σ H fun x H1 => gTup K is.length (gNames is) x σ H1 D.nx := by
  obtain ⟨n, F, π, M, ρ, st, h⟩ := h
  simp only [evS] at h
  refine ⟨n, F, π, M, ρ, st, RV.bindS st h fun v F1 π1 M1 H1 u x q z => ?_⟩
  cases ea : asg (.tup is) (.v v) ρ with
  | none => rw [ea] at z; exact z.elim
  | some ρ' =>
    rw [ea] at z
    exact gT_ok (tg := .tup is) (w := .v v) x.rel ea (st.next x).sl q fun σ' s _ => z F1 π1 H1 _ (Nxt.refl x.rel) s
theorem aug_read {i : Nat} {o : BOp} {c : E} (h : tS K cl G W (.aug i o c) D σ H) : ∃ x : Int, σ[i]? = some (some (.int x)) ∧ tE K cl G W c σ H fun y H1 => ∃ k : Int, y = .int k ∧ ((o = .add ∧ D.nx (σ.set i (some (.int (x + k)))) H1) ∨ (o = .sub ∧ D.nx (σ.set i (some (.int (x - k)))) H1)) := by
  obtain ⟨n, F, π, M, ρ, st, h⟩ := h
  simp only [evS] at h
  split at h
  · rename_i x e
    obtain ⟨u, e1, q⟩ := st.sl.at_ i _ e
    have q : u = .int x := q
    subst q
    refine ⟨x, e1, n, F, π, M, ρ, st, RV.bindS st h fun v F1 π1 M1 H1 u x q z => ?_⟩
    split at z
    · exact ⟨_, q, .inl ⟨rfl, z F1 π1 H1 _ (Nxt.refl x.rel) ((st.next x).sl.set (v := .int _) rfl)⟩⟩
    · exact ⟨_, q, .inr ⟨rfl, z F1 π1 H1 _ (Nxt.refl x.rel) ((st.next x).sl.set (v := .int _) rfl)⟩⟩
    · exact z.elim
  · exact h.elim
end
end Fk

/-! FkStm2: loops. -/
namespace Fk
open PySem PySem.Spec PyProof.Rows L2
section
variable {K : PySem.W.Frag} {cl : Cl} {n n' L : Nat} {F F' F1 : Hp} {π π' π1 : List Addr} {M M' M1 : Mem} {H H' H1 : Hp} {ρ ρ' : Slots} {σ σ' : L2.St} {W : WX} {D : Ends} {G : Gam}
theorem RI.bindS (st : Sta K cl n F π M ρ σ H) {o : Out (List Itm × Option Nat)} {f : List Itm × Option Nat → Mem → OutS} {R : It → Hp → Prop} (h : RS K cl n F π M H (o.toS ρ f) D W)
    (g : ∀ ig F1 π1 M1 H1 J, Nxt K cl n F π M H F1 π1 M1 H1 → ig.1.length ≤ sizeLine → Walks K cl F1 π1 ig.2 M1 J ig.1 → RS K cl n F1 π1 M1 H1 (f ig M1) D W → R J H1) : RI K cl n F π M H o R (atW W σ) := by
  cases o with
  | ok v M' => exact fun F' π' H' J y hs hw => g v F' π' M' H' J y hs hw (RS.trans st.rel y h)
  | exc e M' => exact fun F' π' H' c d y q => h F' π' H' σ c d y (st.sl.mono y.fsub y.pre) q
  | bad => exact h
theorem guardS_ok {g : Option Nat} {M0 M1 : Mem} {o : OutS} (h : RS K cl n F π M H (guardS g M0 M1 o) D W) : Kept g M0 M1 ∧ RS K cl n F π M H o D W := by
  cases g with
  | none => exact ⟨trivial, h⟩
  | some j =>
    unfold guardS at h
    dsimp only at h
    split at h
    · rename_i e
      exact ⟨e, h⟩
    · exact h.elim
/-- where a turn's body stands -/
abbrev gnd (tr : Bool) (L n : Nat) : Nat := if tr = true then L else n
/-- what a turn leaves -/
theorem turn_end {tr : Bool} {F0 F2 F5 : Hp} {π0 π2 π5 : List Addr} {M0 M2 M5 : Mem} {H0 H2 H5 : Hp} {ρ5 : Slots} {σ5 : L2.St} (r0 : Rel K cl F0 π0 M0 H0) (hn : n ≤ M0.length) (x : Nxt K cl n F0 π0 M0 H0 F2 π2 M2 H2) (ht : tr = true → M2.length = M0.length ∧ π2 = π0)
    (y : Nxt K cl (gnd tr M0.length n) F2 π2 M2 H2 F5 π5 M5 H5) (s : Slt K cl F5 π5 σ5 ρ5) :
    ∃ π6, Nxt K cl n F0 π0 M0 H0 F5 π6 (cutM tr M0.length M5) H5 ∧ Slt K cl F5 π6 σ5 (cutS tr M0.length ρ5) ∧ (tr = true → (cutM tr M0.length M5).length = M0.length ∧ π6 = π0) := by
  cases tr with
  | false => exact ⟨π5, Nxt.trans r0 x y, s, fun h => by cases h⟩
  | true =>
    obtain ⟨hl, rfl⟩ := ht rfl
    have y' : Nxt K cl M0.length F2 π2 M2 H2 F5 π5 M5 H5 := y
    have z := Nxt.trans r0 x (y'.base hn)
    have w : Wf M0.length M5 := y'.wf _ (Nat.le_refl _) (by
      have := x.rel.wf
      rw [hl] at this; exact this)
    have hle := z.le r0
    refine ⟨π2, z.cut r0 w, ?_, fun _ => ⟨by simp only [cutM_t, List.length_take]; omega, rfl⟩⟩
    have c := s.cut (L := M0.length)
    obtain ⟨t, e⟩ := y.pre
    have hp : π5.take M0.length = π2 := by rw [e, ← r0.len, List.take_append_of_le_length (Nat.le_refl _), List.take_length]
    rw [hp] at c
    exact c
theorem gnd_le {tr : Bool} {L m : Nat} (hn : n ≤ L) (h : L ≤ m) : gnd tr L n ≤ m := by
  unfold gnd; split <;> omega
theorem gnd_ge {tr : Bool} (hn : n ≤ L) : n ≤ gnd tr L n := by
  unfold gnd; split <;> omega
theorem kept_cut {g : Option Nat} {tr : Bool} {M0 M1 M5 : Mem} (hl : tr = true → M1.length = M0.length) (h : Kept g M1 M5) : Kept g M1 (cutM tr M0.length M5) := by
  cases g with
  | none => trivial
  | some k =>
    cases tr with
    | false => exact h
    | true =>
      show (M5.take M0.length)[k]? = M1[k]?
      have h : M5[k]? = M1[k]? := h
      by_cases hk : k < M0.length
      · rw [take_get hk]; exact h
      · rw [take_none hk, List.getElem?_eq_none (by rw [hl rfl]; omega)]
theorem fr_read {tr : Bool} {tg : Tg} {ci : I} {b : Ss} (h : tS K cl G W (.fr tr tg ci b) D σ H) : tFor (tIt K cl G W ci) (gT K tg) (tSs K cl G W b) D σ H := by
  obtain ⟨n, F, π, M, ρ, st, h⟩ := h
  simp only [evS] at h
  refine ⟨n, F, π, M, ρ, st, RI.bindS st h fun ig F0 π0 M0 H0 J nx hsz hw hr => ?_⟩
  obtain ⟨items, g⟩ := ig
  have r0 := nx.rel
  have hn0 := (st.next nx).le
  dsimp only at hr hw hsz
  refine ⟨fun i k σ2 H2 => k = items.length - i ∧ i ≤ items.length ∧ ∃ F2 π2 M2 ρ2, Nxt K cl n F0 π0 M0 H0 F2 π2 M2 H2 ∧ (tr = true → M2.length = M0.length ∧ π2 = π0) ∧ Slt K cl F2 π2 σ2 ρ2 ∧ Kept g M0 M2 ∧
      RS K cl n F0 π0 M0 H0 (foldS g tr M0.length (turnS tg fun ρ' M' => evSs G (gnd tr M0.length n) ρ' M' b) (items.drop i) ρ2 M2) D W, ⟨items.length, rfl, Nat.zero_le _, F0, π0, M0, ρ, Nxt.refl r0, fun _ => ⟨rfl, rfl⟩, (st.next nx).sl, ?_, by rw [List.drop_zero]; exact hr⟩, ?_⟩
  · cases g <;> first | trivial | rfl
  rintro i k σ2 H2 ⟨rfl, hi, F2, π2, M2, ρ2, nx2, ht, s2, kp, hr⟩
  have r2 := nx2.rel
  have hn2 : n ≤ M2.length := Nat.le_trans hn0 (nx2.le r0)
  obtain ⟨stop, go⟩ := hw n F2 π2 M2 H2 r2 hn2 nx2.fsub nx2.pre kp i
  by_cases hlt : i < items.length
  · obtain ⟨v, hvi⟩ : ∃ v, items[i]? = some v := ⟨_, List.getElem?_eq_getElem hlt⟩
    obtain ⟨hgo, hy⟩ := go v hvi
    have hdrop : items.drop i = v :: items.drop (i + 1) := by
      rw [List.drop_eq_getElem_cons hlt]
      have : items[i] = v := by
        rw [List.getElem?_eq_getElem hlt] at hvi; exact Option.some.inj hvi
      rw [this]
    rw [hdrop] at hr
    simp only [foldS, turnS] at hr
    refine .inr ⟨hgo, fun σ' H' => (∃ k', k' = items.length - (i + 1) ∧ i + 1 ≤ items.length ∧ ∃ F2 π2 M2 ρ2, Nxt K cl n F0 π0 M0 H0 F2 π2 M2 H' ∧ (tr = true → M2.length = M0.length ∧ π2 = π0) ∧ Slt K cl F2 π2 σ' ρ2 ∧ Kept g M0 M2 ∧
      RS K cl n F0 π0 M0 H0 (foldS g tr M0.length (turnS tg fun ρ' M' => evSs G (gnd tr M0.length n) ρ' M' b) (items.drop (i + 1)) ρ2 M2) D W), fun σ' H' hh => ?_, fun x H' hx => ?_⟩
    · obtain ⟨k', hk', rest⟩ := hh
      exact ⟨k', by omega, hk', rest⟩
    · obtain ⟨F3, nx3, hxv⟩ := hy x H' hx
      cases ea : asg tg v ρ2 with
      | none => rw [ea] at hr; exact hr.elim
      | some ρ' =>
        rw [ea] at hr
        dsimp only at hr
        have r3 := nx3.rel
        have nx13 := Nxt.trans r0 nx2 nx3
        refine gT_ok r3 ea (s2.mono nx3.fsub nx3.pre) hxv fun σ3 s3 _ => ?_
        refine ⟨gnd tr M0.length n, F3, π2, M2, ρ', ⟨r3, gnd_le hn0 (nx2.le r0), s3⟩, ?_⟩
        dsimp only
        cases eb : evSs G (gnd tr M0.length n) ρ' M2 b with
        | bad => rw [eb] at hr; exact hr.elim
        | rt w M5 =>
          rw [eb] at hr
          exact fun F5 π5 H5 u y q => hr F5 π5 H5 u (Nxt.trans r0 nx13 (y.base (gnd_ge hn0))) q
        | ex e ρ5 M5 =>
          rw [eb] at hr
          exact fun F5 π5 H5 σ5 c d y q z => hr F5 π5 H5 σ5 c d (Nxt.trans r0 nx13 (y.base (gnd_ge hn0))) q z
        | nx ρ5 M5 =>
          rw [eb] at hr
          obtain ⟨kg, hr⟩ := guardS_ok hr
          intro F5 π5 H5 σ5 y s5
          obtain ⟨π6, z1, z2, z3⟩ := turn_end r0 hn0 nx13 ht y s5
          exact ⟨_, rfl, hlt, F5, π6, _, _, z1, z3, z2, kp.trans (kept_cut (fun h => (ht h).1) kg), hr⟩
  · have e : i = items.length := by omega
    subst e
    refine .inl ⟨stop (Nat.le_refl _), ?_⟩
    rw [List.drop_length] at hr
    simp only [foldS] at hr
    exact hr F2 π2 H2 σ2 nx2 s2
theorem whl_read {tr : Bool} {c : T} {b : Ss} (h : tS K cl G W (.whl tr c b) D σ H) : tWhile (tT K cl G W c) (tSs K cl G W b) D σ H := by
  obtain ⟨n, F, π, M, ρ, st, h⟩ := h
  simp only [evS] at h
  have hx : ∃ k0, RS K cl n F π M H (whlF tr M.length (fun ρ' M' => evT G (gnd tr M.length n) ρ' M' c) (fun ρ' M' => evSs G (gnd tr M.length n) ρ' M' b) k0 ρ M) D W := by
    unfold whlO at h
    by_cases hx : ∃ k, whlF tr M.length (fun ρ' M' => evT G (if tr = true then M.length else n) ρ' M' c) (fun ρ' M' => evSs G (if tr = true then M.length else n) ρ' M' b) k ρ M ≠ .bad
    · rw [dif_pos hx] at h
      exact ⟨_, h⟩
    · rw [dif_neg hx] at h
      exact h.elim
  clear h
  obtain ⟨k0, h⟩ := hx
  · skip
    have r0 := st.rel
    have hn0 := st.le
    refine ⟨fun k σ2 H2 => ∃ F2 π2 M2 ρ2, Nxt K cl n F π M H F2 π2 M2 H2 ∧ (tr = true → M2.length = M.length ∧ π2 = π) ∧ Slt K cl F2 π2 σ2 ρ2 ∧
      RS K cl n F π M H (whlF tr M.length (fun ρ' M' => evT G (gnd tr M.length n) ρ' M' c) (fun ρ' M' => evSs G (gnd tr M.length n) ρ' M' b) k ρ2 M2) D W, ⟨k0, F, π, M, ρ, Nxt.refl r0, fun _ => ⟨rfl, rfl⟩, st.sl, h⟩, ?_⟩
    rintro k σ2 H2 ⟨F2, π2, M2, ρ2, nx2, ht, s2, hr⟩
    have r2 := nx2.rel
    cases k with
    | zero => exact hr.elim
    | succ k =>
      simp only [whlF] at hr
      have st2 : Sta K cl (gnd tr M.length n) F2 π2 M2 ρ2 σ2 H2 := ⟨r2, gnd_le hn0 (nx2.le r0), s2⟩
      have hr2 : RS K cl (gnd tr M.length n) F2 π2 M2 H2 _ D W := RS.base (RS.trans r0 nx2 hr) (gnd_ge hn0)
      refine ⟨gnd tr M.length n, F2, π2, M2, ρ2, st2, ?_⟩
      dsimp only
      cases et : evT G (gnd tr M.length n) ρ2 M2 c with
      | bad => rw [et] at hr; exact hr.elim
      | exc e M' =>
        rw [et] at hr2
        exact fun F' π' H' c d y q => hr2 F' π' H' σ2 c d y (s2.mono y.fsub y.pre) q
      | ok t M3 =>
        rw [et] at hr
        simp only [Out.toS_ok] at hr
        intro F3 π3 H3 nx3
        have nx13 := Nxt.trans r0 nx2 (nx3.base (gnd_ge hn0))
        have s3 := s2.mono nx3.fsub nx3.pre
        cases t with
        | false =>
          simp only [Bool.false_eq_true, if_false] at hr ⊢
          exact hr F3 π3 H3 σ2 nx13 s3
        | true =>
          simp only [if_true] at hr ⊢
          refine ⟨fun σ' H' => ∃ F2 π2 M2 ρ2, Nxt K cl n F π M H F2 π2 M2 H' ∧ (tr = true → M2.length = M.length ∧ π2 = π) ∧ Slt K cl F2 π2 σ' ρ2 ∧
      RS K cl n F π M H (whlF tr M.length (fun ρ' M' => evT G (gnd tr M.length n) ρ' M' c) (fun ρ' M' => evSs G (gnd tr M.length n) ρ' M' b) k ρ2 M2) D W, fun σ' H' hh => ⟨k, Nat.lt_succ_self _, hh⟩, ?_⟩
          refine ⟨gnd tr M.length n, F3, π3, M3, ρ2, ⟨nx3.rel, Nat.le_trans st2.le (nx3.le r2), s3⟩, ?_⟩
          dsimp only
          cases eb : evSs G (gnd tr M.length n) ρ2 M3 b with
          | bad => rw [eb] at hr; exact hr.elim
          | rt w M5 =>
            rw [eb] at hr
            exact fun F5 π5 H5 u y q => hr F5 π5 H5 u (Nxt.trans r0 nx13 (y.base (gnd_ge hn0))) q
          | ex e ρ5 M5 =>
            rw [eb] at hr
            exact fun F5 π5 H5 σ5 c d y q z => hr F5 π5 H5 σ5 c d (Nxt.trans r0 nx13 (y.base (gnd_ge hn0))) q z
          | nx ρ5 M5 =>
            rw [eb] at hr
            intro F5 π5 H5 σ5 y s5
            obtain ⟨π6, z1, z2, z3⟩ := turn_end r0 hn0 nx2 ht (Nxt.trans r2 nx3 y) s5
            exact ⟨F5, π6, _, _, z1, z3, z2, hr⟩
theorem raise_read {c : Nat} {e : E} (kc : Kc K cl c) (h : tS K cl G W (.raise c e) D σ H) : tE K cl G W e σ H fun _ H1 => W (.ref (cl c)) none σ H1 := by
  obtain ⟨n, F, π, M, ρ, st, h⟩ := h
  simp only [evS] at h
  exact ⟨n, F, π, M, ρ, st, RV.bindS st h fun v F1 π1 M1 H1 u x q z => z F1 π1 H1 σ _ none (Nxt.refl x.rel) (st.next x).sl ⟨rfl, rfl, kc⟩⟩
theorem paired_set {α β : Type} {R : α → β → Prop} {l : List α} {m : List β} (h : Paired R l m) {a : α} {b : β} (r : R a b) (i : Nat) : Paired R (l.set i a) (m.set i b) := by
  induction h generalizing i with
  | nil => exact .nil
  | cons x t ih => cases i with
    | zero => exact .cons r t
    | succ i => exact .cons x (ih i)
theorem setIx_read {X : Cx} (hK : X.K = K) {a b c : E} (h : tS K cl G W (.setIx a b c) D σ H) : tE K cl G W c σ H fun x H1 => tE K cl G W a σ H1 fun o H2 => tE K cl G W b σ H2 fun i H3 => rSetA X cl o i x H3 fun H4 => D.nx σ H4 := by
  obtain ⟨n, F, π, M, ρ, st, h⟩ := h
  simp only [evS] at h
  refine ⟨n, F, π, M, ρ, st, RV.bindS st h fun v F1 π1 M1 H1 u x q z => ?_⟩
  have st1 := st.next x
  refine ⟨n, F1, π1, M1, ρ, st1, RV.bindS st1 z fun v2 F2 π2 M2 H2 u2 x2 q2 z => ?_⟩
  have st2 := st1.next x2
  refine ⟨n, F2, π2, M2, ρ, st2, RV.bindS st2 z fun v3 F3 π3 M3 H3 u3 x3 q3 z => ?_⟩
  have st3 := st2.next x3
  replace q := (q.mono x2.fsub x2.pre).mono x3.fsub x3.pre
  replace q2 := q2.mono x3.fsub x3.pre
  subst hK
  unfold setIxV at z
  split at z
  · rename_i M' e
    have dct : ∀ {k : Nat} {kvs : List (PyData × Val)} {d : PyData}, M3[k]? = some (.dict kvs) → (if (dkOk kvs d = true ∧ kvs.length < lim) ∧ mayPut n k v = true then some (M3.set k (.dict (kPut d v kvs))) else none) = some M' → IsV X.K cl F3 π3 u2 (.p k) → IsV X.K cl F3 π3 u3 (.d d) →
        rSetA X cl u2 u3 u H3 fun H4 => D.nx σ H4 := fun {k kvs d} hM e q2 q3 => by
      split at e
      · rename_i hc
        cases e
        obtain ⟨p, h1, rfl⟩ := q2
        refine .inr ⟨F3, π3, M3, k, p, kvs, d, v, rfl, x3.rel, hM, h1, q3, hc.1.1, hc.1.2, q, fun H' hk hc' => ?_⟩
        refine z F3 π3 H' σ (Nxt.setC x3.rel hM rfl rfl h1 hk hc' ?_) st3.sl
        have hp : ∀ j ∈ (Cell.dict (kPut d v kvs)).ptrs, j ∈ (Cell.dict kvs).ptrs ∨ j ∈ v.ptrs := fun j hj => by
          obtain ⟨q, hq, hj⟩ := List.mem_flatMap.mp hj
          rcases kPut_mem hq with e | e
          · rw [e] at hj; exact .inr hj
          · exact .inl (List.mem_flatMap.mpr ⟨q, e, hj⟩)
        cases v with
        | p i => exact .inr (of_decide_eq_true hc.2)
        | d y => exact .inl fun j hj => (hp j hj).elim id fun h => nomatch h
        | x c fs => exact .inl fun j hj => (hp j hj).elim id fun h => nomatch h
      · cases e
    split at e
    · rename_i k i
      split at e
      · rename_i vs hM
        split at e
        · rename_i j hj
          split at e
          · rename_i hm
            cases e
            obtain ⟨p, h1, rfl⟩ := q2
            have q4 : u3 = .int i := q3
            subst q4
            obtain ⟨⟨xs, g1, g2⟩, _⟩ := x3.rel.cell k _ p hM h1 rfl
            refine .inl ⟨p, xs, i, j, rfl, rfl, g1, (by rw [g2.length]; exact hj), ?_⟩
            exact z F3 π3 _ σ (Nxt.setC x3.rel hM rfl rfl h1 (fun b o nb e => by rw [upd_ne nb]; exact e) ⟨_, upd_same, paired_set g2 q j⟩ (ptrs_put hm fun w hw => (List.mem_or_eq_of_mem_set hw))) (st3.sl)
          · cases e
        · cases e
      · rename_i kvs hM
        exact dct hM (d := .int i) (by simp only [Bool.and_eq_true, decide_eq_true_eq] at e ⊢; exact e) q2 q3
      · cases e
    · rename_i k d
      split at e
      · rename_i kvs hM
        exact dct hM (by simp only [Bool.and_eq_true, decide_eq_true_eq] at e ⊢; exact e) q2 q3
      · cases e
    · cases e
  · exact z.elim
end
end Fk

/-! FkRun: a def's run. -/
namespace Fk
open PySem PySem.Spec PyProof.Rows L2
theorem kill_get : ∀ (L : Nat) (M : Mem) (k : Nat), (kill L M)[k]? = if k < L then (M[k]?).map fun _ => .dead else M[k]?
  | 0, M, k => by simp [kill]
  | L + 1, [], k => by simp [kill]
  | L + 1, c :: M, 0 => by simp [kill]
  | L + 1, c :: M, k + 1 => by
    simp only [kill, List.getElem?_cons_succ, kill_get L M k, Nat.add_lt_add_iff_right]
theorem kill_len : ∀ (L : Nat) (M : Mem), (kill L M).length = M.length
  | 0, M => rfl
  | L + 1, [] => rfl
  | L + 1, c :: M => by simp [kill, kill_len L M]
section
variable {K : PySem.W.Frag} {cl : Cl} {n n' L : Nat} {F F' F1 : Hp} {π π' π1 : List Addr} {M M' M1 : Mem} {H H' H1 : Hp} {ρ ρ' : Slots} {σ σ' : L2.St} {W : WX} {D : Ends} {G : Gam}
theorem kill_live {k : Nat} {c : Cell} (h : (kill L M)[k]? = some c) (hd : isDead c = false) : M[k]? = some c ∧ L ≤ k := by
  rw [kill_get] at h
  split at h
  · cases e : M[k]? with
    | none => rw [e] at h; cases h
    | some c' => rw [e] at h; cases h; cases hd
  · rename_i hk
    exact ⟨h, by omega⟩
theorem Rel.kill (r : Rel K cl F π M H) : Rel K cl F π (kill L M) H where
  sub := r.sub
  len := by rw [kill_len, r.len]
  cell := fun k c a h1 h2 h3 => r.cell k c a (kill_live h1 h3).1 h2 h3
  inj := fun j k c c' a h1 h2 h3 h4 h5 h6 => r.inj j k c c' a (kill_live h1 h3).1 (kill_live h2 h4).1 h3 h4 h5 h6
/-- the younger lists frozen, the younger cells forgotten -/
theorem Nxt.frz (r : Rel K cl F π M H) (x : Nxt K cl n F π M H F' π' M' H') (hw : Wf M.length M') : Nxt K cl n F π M H (lentF F' π' (kill M.length M') H') π (M'.take M.length) H' := by
  have y := x.cut r hw
  have rk : Rel K cl F' π' (kill M.length M') H' := x.rel.kill
  have s1 := lent_sub rk
  have old : ∀ (k : Nat) (c : Cell) (a : Addr), (M'.take M.length)[k]? = some c → π[k]? = some a → isDead c = false → lentF F' π' (kill M.length M') H' a = none := fun k c a h1 h2 h3 => by
    have hk : k < M.length := by
      by_cases hk : k < M.length
      · exact hk
      · rw [take_none hk] at h1; cases h1
    rw [take_get hk] at h1
    obtain ⟨t, e⟩ := x.pre
    have hp : π'[k]? = some a := by rw [e]; exact pre_get h2
    unfold lentF
    split
    · rename_i h
      obtain ⟨j, vs, g1, g2⟩ := h
      obtain ⟨g3, g4⟩ := kill_live g1 rfl
      have := x.rel.inj j k _ c a g3 h1 rfl h3 g2 hp
      omega
    · exact (x.rel.cell k c a h1 hp h3).2
  exact {
    rel := {
      sub := lent_le rk
      len := y.rel.len
      cell := fun k c a h1 h2 h3 => ⟨(y.rel.cell k c a h1 h2 h3).1.mono s1 (pre_refl π) fun _ q => q, old k c a h1 h2 h3⟩
      inj := y.rel.inj }
    fsub := y.fsub.trans s1
    pre := y.pre
    fr := y.fr
    new := y.new
    kd := y.kd
    wf := y.wf
    fnew := fun a o e => by
      unfold lentF at e
      split at e
      · rename_i h
        obtain ⟨j, vs, g1, g2⟩ := h
        exact .inr (.inl (x.new j a (kill_live g1 rfl).2 g2))
      · exact y.fnew a o e }
theorem slt_start {vs : List V} {as : List Val} {N : List Str} {ar : Nat} (h : IsVs K cl F π vs as) (hl : vs.length = ar) : Slt K cl F π (L2.start N vs) (as.map some ++ List.replicate (N.length - ar) none) where
  len := by
    unfold L2.start
    rw [List.length_append, List.length_append, List.length_map, List.length_map, List.length_replicate, List.length_replicate, h.length, ← hl, h.length]
  at_ := fun i v e => by
    unfold L2.start
    by_cases hi : i < as.length
    · rw [List.getElem?_append_left (by simpa using hi), List.getElem?_map] at e
      cases q : as[i]? with
      | none => rw [q] at e; cases e
      | some w =>
        rw [q] at e
        simp only [Option.map_some, Option.some.injEq] at e
        subst e
        obtain ⟨a, ha, hr⟩ := paired_at h q
        refine ⟨a, ?_, hr⟩
        rw [List.getElem?_append_left (by simpa [h.length] using hi), List.getElem?_map, ha]
        rfl
    · rw [List.getElem?_append_right (by simpa using hi), List.getElem?_replicate] at e
      split at e <;> cases e
theorem end_ok {m : Rm} {o : OutS} {Q : VK} {E : XK} (r : Rel K cl F π M H) (hn : n ≤ M.length) (h : RV K cl n F π M H (endF m M.length o) Q E) : RS K cl (Fk.base m n M.length) F π M H o { nx := fun _ H' => Q .non H', rt := Q } (fun c d _ H => E c d H) := by
  have wf : ∀ {F' : Hp} {π' : List Addr} {M' : Mem} {H' : Hp}, m ≠ .keep → Nxt K cl (Fk.base m n M.length) F π M H F' π' M' H' → Wf M.length M' ∧ Nxt K cl n F π M H F' π' M' H' := fun {F' π' M' H'} hm x => by
    have hb : Fk.base m n M.length = M.length := by cases m <;> first | rfl | exact absurd rfl hm
    rw [hb] at x
    exact ⟨x.wf _ (Nat.le_refl _) r.wf, x.base hn⟩
  -- a value is given
  have give : ∀ (v : Val) (M' : Mem), RV K cl n F π M H (giveV m M.length v M') Q E → ∀ F' π' H' u, Nxt K cl (Fk.base m n M.length) F π M H F' π' M' H' → IsV K cl F' π' u v → Q u H' := fun v M' h F' π' H' u x q => by
    have old : ∀ k, v = .p k → k < M.length → IsV K cl F' π u (.p k) := fun k hv hk => by
      subst hv
      obtain ⟨a, e, q⟩ := q
      obtain ⟨t, e1⟩ := x.pre
      rw [e1, List.getElem?_append_left (by rw [r.len]; exact hk)] at e
      exact ⟨a, e, q⟩
    cases m with
    | keep => exact h F' π' H' u x q
    | frz =>
      obtain ⟨w, y⟩ := wf (by intro z; cases z) x
      cases v with
      | d z => exact h F' π H' u (y.cut r w) q
      | x c fs => exact h F' π H' u (y.cut r w) q
      | p k =>
        simp only [giveV] at h
        split at h
        · rename_i hk
          exact h F' π H' u (y.cut r w) (old k rfl hk)
        · rename_i hk
          cases er : rd 3 (Fk.kill M.length M') (.p k) with
          | none => rw [er] at h; exact h.elim
          | some d =>
            rw [er] at h
            exact h _ π H' u (y.frz r w) (rd_lent x.rel.kill 3 u (.p k) d q er)
    | cell =>
      obtain ⟨w, y⟩ := wf (by intro z; cases z) x
      cases v with
      | d z => exact h F' π H' u (y.cut r w) q
      | x c fs => exact h F' π H' u (y.cut r w) q
      | p k =>
        simp only [giveV] at h
        split at h
        · rename_i hk
          exact h F' π H' u (y.cut r w) (old k rfl hk)
        · rename_i hk
          cases eM : M'[k]? with
          | none => rw [eM] at h; exact h.elim
          | some c =>
            rw [eM] at h
            cases c with
            | lst vs =>
              dsimp only at h
              split at h
              · rename_i hall
                obtain ⟨a, e, rfl⟩ := q
                obtain ⟨ok, fa⟩ := x.rel.cell k _ a eM e rfl
                have hp : ∀ j ∈ (Cell.lst vs).ptrs, j < M.length := fun j hj => by
                  simp only [Cell.ptrs, List.mem_flatMap] at hj
                  obtain ⟨v, hv, h1⟩ := hj
                  have := List.all_eq_true.mp hall v hv
                  cases v with
                  | d _ => cases h1
                  | x _ _ => cases h1
                  | p i =>
                    have e : j = i := by simpa [Val.ptrs] using h1
                    subst e
                    simpa using this
                obtain ⟨t, e1⟩ := x.pre
                have okc := ok.cut hp
                have ht : π'.take M.length = π := by rw [e1, ← r.len, List.take_append_of_le_length (Nat.le_refl _), List.take_length]
                rw [ht] at okc
                have pv : Priv F' π (M'.take M.length) a := ⟨fa, fun ⟨j, c, g1, g2, g3⟩ => by
                  have hj : j < M.length := by
                    by_cases hj : j < M.length
                    · exact hj
                    · rw [take_none hj] at g1; cases g1
                  rw [take_get hj] at g1
                  have := x.rel.inj j k c _ a g1 eM g2 rfl (by rw [e1]; exact pre_get g3) e
                  omega⟩
                refine h F' (π ++ [a]) H' (.ref a) (Nxt.privC r (y.cut r w) hn pv (x.new k a (by omega) e) (okc.mono (.refl _) ⟨[a], rfl⟩ fun _ q => q) rfl) ⟨a, ?_, rfl⟩
                rw [← r.len, List.getElem?_append_right (Nat.le_refl _), Nat.sub_self]; rfl
              · exact h.elim
            | dead => exact h.elim
            | ro _ => exact h.elim
            | dict _ => exact h.elim
            | ins _ _ => exact h.elim
  cases o with
  | bad => exact h
  | nx ρ' M' => exact fun F' π' H' σ' x s => give (.d .none) M' h F' π' H' .non x rfl
  | rt v M' => exact fun F' π' H' u x q => give v M' h F' π' H' u x q
  | ex e ρ' M' =>
    intro F' π' H' σ' c d x s q
    cases m with
    | keep => exact h F' π' H' c d x q
    | frz => obtain ⟨w, y⟩ := wf (by intro z; cases z) x; exact h F' π H' c d (y.cut r w) q
    | cell => obtain ⟨w, y⟩ := wf (by intro z; cases z) x; exact h F' π H' c d (y.cut r w) q
theorem run_read {m : Rm} {b : Ss} {N : List Str} {ar : Nat} {vs : List V} {Q : VK} {E : XK} (h : spF K cl (runF G m ar (N.length - ar) b).run vs H Q E) : tSs K cl G (fun c d _ H => E c d H) b { nx := fun _ H' => Q .non H', rt := Q } (L2.start N vs) H := by
  obtain ⟨n, F, π, M, as, r, hn, hv, h⟩ := h
  simp only [runF] at h
  split at h
  · rename_i hl
    have hb : Fk.base m n M.length ≤ M.length := by cases m <;> first | exact hn | exact Nat.le_refl _
    exact ⟨Fk.base m n M.length, F, π, M, _, ⟨r, hb, slt_start hv (hv.length.trans hl)⟩, end_ok r hn h⟩
  · exact h.elim
theorem spF_len {m : Rm} {b : Ss} {sl ar : Nat} {vs : List V} {Q : VK} {E : XK} (h : spF K cl (runF G m ar sl b).run vs H Q E) : vs.length = ar := by
  obtain ⟨n, F, π, M, as, r, hn, hv, h⟩ := h
  simp only [runF] at h
  split at h
  · rename_i hl
    exact hv.length.trans hl
  · exact h.elim
end
/-! ### what a law's module knows -/
section
variable {P : Program} {w : World} {K : PySem.W.Frag} {mg : Str → Option Value} {base : Heap} {cl : Cl} {G : Gam} {x qual : Str} {params : Arguments} {body : List Stmt} {scope : Scope} {dvs : List V} {f : Addr} {fd : FuncData} {N ps : List Str} {k : Nat} {m : Rm} {b : Ss}
theorem fn_ok (F : FunD K x qual params body scope dvs [] f fd) (S : FnScope N ps scope)
    (hbody : ∀ (cdv : Value) (A : Around) (outer : List Env) (s : Shared) (H : Hp) (E : XK), Rm2 k (A.deeper (envOfC qual scope s.heap.objs.size f cdv)) →
      PSs (cxOf (L2.CX P w) P w K mg base N qual scope f cdv A outer s H E) body (tSs K cl G (fun c d _ H => E c d H) b)) :
    FnG P w K mg base (k + 1) f fd ps (spF K cl (runF G m ps.length (N.length - ps.length) b).run) := by
  obtain ⟨oc, od, dV, kV, doc, pm, an, cdv, ct, osl, rfl, hK, hC, _, _⟩ := F.ex
  exact fng_of hK hC S (fun vs H Q E h => spF_len h) fun A outer s H vs Q E hr h => ⟨_, hbody cdv A outer s H E hr, run_read h⟩
end
end Fk

/-! FkIsi: isinstance, comprehensions as values. -/
namespace Fk
open PySem PySem.Spec PyProof.Rows L2
def Ty.nm : Ty → String
  | .bool => "bool" | .int => "int" | .str => "str" | .list => "list" | .tuple => "tuple" | .dict => "dict" | .valueError => "ValueError" | .cls _ => ""
def Ty.plain : Ty → Bool
  | .bool | .int | .str | .list | .tuple => true
  | _ => false
def Ty.isBool : Ty → Bool
  | .bool => true
  | .int => true
  | _ => false
def Ty.isInt : Ty → Bool
  | .int => true
  | _ => false
def Ty.isStr : Ty → Bool
  | .str => true
  | _ => false
def Ty.isList : Ty → Bool
  | .list => true
  | _ => false
def Ty.isTuple : Ty → Bool
  | .tuple => true
  | _ => false
section
variable {X : Cx} {cl : Cl} {G : Gam} {W : WX} {e a b : Expr} {pos : Pos}
theorem kb_none {t : Ty} (h : t.plain = true) : kitB "NoneType" t.nm = some false := by
  cases t <;> first | (cases h; done) | decide +kernel
theorem kb_bool {t : Ty} (h : t.plain = true) : kitB "bool" t.nm = some t.isBool := by
  cases t <;> first | (cases h; done) | decide +kernel
theorem kb_int {t : Ty} (h : t.plain = true) : kitB "int" t.nm = some t.isInt := by
  cases t <;> first | (cases h; done) | decide +kernel
theorem kb_str {t : Ty} (h : t.plain = true) : kitB "str" t.nm = some t.isStr := by
  cases t <;> first | (cases h; done) | decide +kernel
theorem kb_list {t : Ty} (h : t.plain = true) : kitB "list" t.nm = some t.isList := by
  cases t <;> first | (cases h; done) | decide +kernel
theorem kb_tuple {t : Ty} (h : t.plain = true) : kitB "tuple" t.nm = some t.isTuple := by
  cases t <;> first | (cases h; done) | decide +kernel
/-- the type of a value, and what isinstance tells -/
theorem isi_ok {K : PySem.W.Frag} {F : Hp} {π : List Addr} {M : Mem} {H : Hp} {v : V} {w : Val} {t : Ty} {r : Bool} (R : Rel K cl F π M H) (h : IsV K cl F π v w) (ht : t.plain = true) (e : isiV subC M w t = some r) :
    ∃ ty, TyX K H v ty ∧ PySem.W.kitOne K ty (.type t.nm) = some r := by
  cases w with
  | d x =>
    cases x with
    | none =>
      have hv : v = .non := h
      subst hv
      refine ⟨_, .base .non, kit_ty (Eq.trans (kb_none ht) ?_)⟩
      cases t <;> first | (cases ht; done) | exact e
    | bool b =>
      have hv : v = .bl b := h
      subst hv
      refine ⟨_, .base (.bl b), kit_ty (Eq.trans (kb_bool ht) ?_)⟩
      cases t <;> first | (cases ht; done) | exact e
    | int i =>
      have hv : v = .int i := h
      subst hv
      refine ⟨_, .base (.int i), kit_ty (Eq.trans (kb_int ht) ?_)⟩
      cases t <;> first | (cases ht; done) | exact e
    | str s =>
      have hv : v = .str s := h
      subst hv
      refine ⟨_, .base (.str s), kit_ty (Eq.trans (kb_str ht) ?_)⟩
      cases t <;> first | (cases ht; done) | exact e
    | list xs =>
      simp only [IsV, IsD] at h
      obtain ⟨a, ys, rfl, h1, h2⟩ := h
      have e : some t.isList = some r := by cases t <;> first | (cases ht; done) | exact e
      rcases h1 with (h1 | ⟨o, h1⟩) | ⟨o, its, n, h1, hc, _⟩
      · exact ⟨_, .base (.lst (R.sub _ _ h1)), kit_ty ((kb_list ht).trans e)⟩
      · exact ⟨_, .base (.frz (R.sub _ _ h1)), kit_ty ((kb_list ht).trans e)⟩
      · exact ⟨_, .kList h1 hc, kit_ty ((kb_list ht).trans e)⟩
    | tuple xs =>
      simp only [IsV, IsD] at h
      obtain ⟨a, ys, rfl, h1, h2⟩ := h
      rcases h1 with ⟨o, _, h1⟩ | ⟨o, its, n, h1, _, hc, _⟩
      · refine ⟨_, .fTuple (R.sub _ _ h1), kit_ty (Eq.trans (kb_tuple ht) ?_)⟩
        cases t <;> first | (cases ht; done) | exact e
      · refine ⟨_, .kTuple h1 hc, kit_ty (Eq.trans (kb_tuple ht) ?_)⟩
        cases t <;> first | (cases ht; done) | exact e
    | dict _ => simp only [IsV, IsD] at h
  | x c fs => cases t <;> first | (cases ht; done) | (cases e; done)
  | p k =>
    obtain ⟨a, h1, rfl⟩ := h
    simp only [isiV] at e
    cases hM : M[k]? with
    | none => rw [hM] at e; cases e
    | some c =>
      rw [hM] at e
      cases c with
      | lst vs =>
        obtain ⟨⟨xs, g1, g2⟩, _⟩ := R.cell k _ a hM h1 rfl
        refine ⟨_, .base (.lst g1), kit_ty (Eq.trans (kb_list ht) ?_)⟩
        cases t <;> first | (cases ht; done) | exact e
      | ins c fs => cases e
      | dead => cases e
      | ro _ => cases e
      | dict _ => cases e
theorem pe_tyName {x : Str} {T : String} (hg : Gl X x) (hm : X.mg x = none) (hv : bootBuiltins x = some (.type T)) (hn : x ≠ "__name__") (hdb : (x == ("__debug__" : Str)) = false) : PE X (.Name x pos) (tC (.ty T)) :=
  ⟨fun pins s σ H Q I h => ld_blt I hg hm hv ⟨.ty T, H, I, rfl, h⟩ hn hdb⟩
theorem fk_isi1 {ca : E} {t : Ty} {x f : Str} {p p2 : Pos} (ht : t.plain = true) (hg : Gl X f) (hf : f = "isinstance") (hm : X.mg f = none) (ha : PE X a (tE X.K cl G W ca)) (hgx : Gl X x) (hmx : X.mg x = none) (hv : bootBuiltins x = some (.type t.nm)) (hn : x ≠ "__name__") (hdb : (x == ("__debug__" : Str)) = false)
    (hst : starEach [a, .Name x p2] X.env = (false, eval a X.env) :: starEach [.Name x p2] X.env) : PE X (.Call (.Name f p) [a, .Name x p2] [] pos) (tE X.K cl G W (.isi ca [t])) := by
  subst hf
  refine PE.weak (pe_callB (call_isi (X := X)) hg hm boot_isinstance (pa_cons ha (pa_cons (pe_tyName hgx hmx hv hn hdb) pa_nil rfl) hst) (by decide) (by decide) hst rfl) fun σ H Q ⟨n, F, π, M, ρ, s, h⟩ => ?_
  simp only [ev] at h
  refine ⟨n, F, π, M, ρ, s, RV.bindV s.rel h fun w F1 π1 M1 H1 u x q z => ?_⟩
  simp only [List.map_cons, List.map_nil] at z
  cases ei : isiV subC M1 w t with
  | none => rw [ei] at z; exact z.elim
  | some r =>
    rw [ei] at z
    obtain ⟨ty, h1, h2⟩ := isi_ok x.rel q ht ei
    refine ⟨u, .ty t.nm, ty, .type t.nm, r, rfl, .ty _, h1, h2, RV.here x.rel z ?_⟩
    show (.bl r : V) = .bl _
    simp
/-- isinstance of an error that is kept as a value -/
def rIsX (K : PySem.W.Frag) : List V → Hp → VK → Prop := fun xs H Q => ∃ (a C : Addr) (c : V) (cv : Value) (b : Bool), xs = [.ref a, c] ∧ H a = some (.ext (Exn a C none)) ∧ ExcC K C ∧ ClsV c cv ∧ PySem.W.kitOne K (.ref C) cv = some b ∧ Q (.bl b) H
theorem call_isX : CallR X (.builtin "isinstance") (rIsX X.K) := by
  intro pins s σ H xs us Q I r h
  obtain ⟨a, D, c, cv, b, rfl, ha, C, hcv, e, q⟩ := h
  obtain ⟨u1, u2, rfl, r1, r2⟩ := vals2 r
  cases (show u1 = Value.ref a from r1)
  have ec := hcv.eq r2
  subst ec
  obtain ⟨⟨oe, vs, hget, h1, h2, hv⟩, _⟩ := (show ObjOk X.prog X.w H s.heap a (.ext (Exn a D none)) from I.hok a _ ha)
  have J : PySem.W.InstAt s.heap a oe D none := by
    obtain ⟨oc, od, oda, osl⟩ := oe
    dsimp only at h1 h2 hv
    subst h1 h2 hv
    exact ⟨hget, rfl, rfl, trivial⟩
  exact PySem.W.kia_one (PySem.W.handS_kitx_exc C.hg C.hk C.hs C.hd C.ha C.hn C.ht C.hm) I.kIn J e (fun z => nomatch z) fun tk => ⟨.bl b, H, I.tok tk, rfl, q⟩
theorem isx_ok {K : PySem.W.Frag} {F : Hp} {π : List Addr} {M : Mem} {H : Hp} {v : V} {w : Val} {t : Ty} {r : Bool} (R : Rel K cl F π M H) (h : IsV K cl F π v w) {cv : Value} (ht : (∃ c', t = .cls c' ∧ cl c' ≠ 0 ∧ cv = .ref (cl c')) ∨ (t = .valueError ∧ cv = .type "ValueError")) (e : isiV subC M w t = some r) :
    ∃ a C, v = .ref a ∧ H a = some (.ext (Exn a C none)) ∧ ExcC K C ∧ PySem.W.kitOne K (.ref C) cv = some r := by
  cases w with
  | d x => rcases ht with ⟨c', rfl, _, _⟩ | ⟨rfl, _⟩ <;> cases x <;> cases e
  | p k =>
    simp only [isiV] at e
    split at e <;> rcases ht with ⟨c', rfl, _, _⟩ | ⟨rfl, _⟩ <;> cases e
  | x c fs =>
    obtain ⟨a, d, rfl, h1, h2, h3⟩ := h
    have hd : fs.isEmpty = true → d = none := fun z => by
      cases d with
      | none => rfl
      | some dd =>
        obtain ⟨hne, _⟩ := h2
        exact absurd (List.isEmpty_iff.mp z) hne
    rcases ht with ⟨c', rfl, hc, rfl⟩ | ⟨rfl, rfl⟩
    · simp only [isiV] at e
      split at e
      · rename_i z
        cases e
        rw [hd z] at h1
        exact ⟨a, cl c, rfl, R.sub _ _ h1, h3.ex, h3.one c' hc⟩
      · cases e
    · simp only [isiV] at e
      split at e
      · rename_i z
        cases e
        rw [hd z] at h1
        exact ⟨a, cl c, rfl, R.sub _ _ h1, h3.ex, h3.ve⟩
      · cases e
theorem fk_isiX {ca : E} {t : Ty} {x f : Str} {p p2 : Pos} {c : V} {cv : Value} (ht : (∃ c', t = .cls c' ∧ cl c' ≠ 0 ∧ cv = .ref (cl c')) ∨ (t = .valueError ∧ cv = .type "ValueError")) (hcv : ClsV c cv) (hg : Gl X f) (hf : f = "isinstance") (hm : X.mg f = none) (ha : PE X a (tE X.K cl G W ca)) (hx : PE X (.Name x p2) (tC c))
    (hst : starEach [a, .Name x p2] X.env = (false, eval a X.env) :: starEach [.Name x p2] X.env) : PE X (.Call (.Name f p) [a, .Name x p2] [] pos) (tE X.K cl G W (.isi ca [t])) := by
  subst hf
  refine PE.weak (pe_callB (call_isX (X := X)) hg hm boot_isinstance (pa_cons ha (pa_cons hx pa_nil rfl) hst) (by decide) (by decide) hst rfl) fun σ H Q ⟨n, F, π, M, ρ, s, h⟩ => ?_
  simp only [ev] at h
  refine ⟨n, F, π, M, ρ, s, RV.bindV s.rel h fun w F1 π1 M1 H1 u x q z => ?_⟩
  simp only [List.map_cons, List.map_nil] at z
  cases ei : isiV subC M1 w t with
  | none => rw [ei] at z; exact z.elim
  | some r =>
    rw [ei] at z
    obtain ⟨a, C, e1, h1, h2, h3⟩ := isx_ok x.rel q ht ei
    subst e1
    refine ⟨a, C, c, cv, r, rfl, h1, h2, hcv, h3, RV.here x.rel z ?_⟩
    show (.bl r : V) = .bl _
    simp
theorem pe_clsName {x : Str} {C : Addr} (hg : Gl X x) (hm : X.mg x = some (.ref C)) (hdb : (x == ("__debug__" : Str)) = false) : PE X (.Name x pos) (tC (.ref C)) :=
  ⟨fun pins s σ H Q I h => ld_glob I hg hm ⟨.ref C, H, I, rfl, h⟩ hdb⟩
end
end Fk

/-! FkSset: sorted(set(ints)), len(set(..)). -/
namespace Fk
open PySem PySem.Spec PyProof.Rows L2
/-- a set with nothing in it, its order told by the ledger -/
abbrev mtSet (w : World) : Obj := ⟨.type "set", none, .set #[] 0 (.fresh 0 0 (!w.params.followText "set-order")), #[]⟩
section
variable {P : Program} {w : World} {A : Around} {E : Value → Shared → Prop} {s : Shared}
/-- the heap with the new set -/
abbrev withSet (w : World) (h : Heap) : Heap := h.push (mtSet w)
/-- what the set's update leaves -/
def Upd1 (w : World) (s : Shared) (ns : List Int) (s' : Shared) : Prop := ∃ h' tk c, s' = { s with heap := h', toks := tk } ∧ SetR w h' s.heap.objs.size (fun j => decide (j ∈ ns)) c ∧
  c ≤ ns.length ∧ ∀ b o, s.heap.get? b = some o → h'.get? b = some o
theorem upd_of_moved {it : Obj} {ns : List Int} {c : Nat} {s' : Shared} (hm : Moved [s.heap.objs.size, (withSet w s.heap).objs.size] (fun g g' => g' = g) { s with heap := (withSet w s.heap).push it } s') (hc : c ≤ ns.length)
    (hS : SetR w s'.heap s.heap.objs.size (fun j => decide (j ∈ ns)) c) : Upd1 w s ns s' := by
  obtain ⟨h', g2, d', tk', os'⟩ := s'
  have a1 : g2 = s.gens := hm.gens
  have a2 : d' = s.drawn := hm.drawn
  have a3 : os' = s.os := hm.os
  subst a1 a2 a3
  refine ⟨h', tk', c, rfl, hS, hc, fun b o e => ?_⟩
  have lt := Heap.lt_size e
  refine hm.heap b o ?_ (Heap.get?_push_of_some _ (Heap.get?_push_of_some _ e))
  have z : (withSet w s.heap).objs.size = s.heap.objs.size + 1 := Heap.size_push ..
  rw [z]
  simp only [List.mem_cons, List.not_mem_nil, or_false, not_or]
  exact ⟨Nat.ne_of_lt lt, Nat.ne_of_lt (Nat.lt_succ_of_lt lt)⟩
set_option maxRecDepth 100000 in
set_option maxHeartbeats 3200000 in
theorem set_ints {l : Addr} {items : Array Value} (ns : List Int) {Q : Value → Shared → Prop} (calm : A.handled = none) (isl : s.heap.IsList l items) (hint : IntsAre items.toList ns) (few : ns.length + 1 < scanBound)
    (fin : ∀ s', Upd1 w s ns s' → Q (.ref s.heap.objs.size) s') : wpAny (model P w) A (call (.type "set") [.ref l]) Q E s := by
  have cnt : items.size = ns.length := by
    rw [← Array.length_toList]
    exact hint.length
  have F0 := F.called_set
  obtain ⟨c, tl, mro⟩ := F0.mro
  have f1 := F0.made
  have f2 := F0.sub
  have f3 := F0.notType
  have f4 := F0.canCreate
  have f5 := F.typeCall_set_1 (.ref l)
  refine wpAny_call (codeAny_of_tree ?_)
  show wpAny _ _ (callAny (.type "set") _) _ _ _
  refine wpAny_pure ⟨Code.quiet_builtin _ (by decide +kernel), ?_⟩
  refine codeAny_builtin F.entry_type_call ?_
  rw [Around.under_plain (weight_type_call_type "set" [.ref l] []) rfl]
  repeat (any_goals (first | assumption | wp_step))
  refine codeAny_mono (code_set_led1 (.ref l) (E := E) (Q₁ := fun ob s1 => ob = .ref s.heap.objs.size ∧ s1 = { s with heap := withSet w s.heap }) ⟨rfl, rfl⟩) fun r s1 hr => ?_
  match r, hr with
  | .error e, hr => exact hr
  | .ok .next, hr => exact hr.elim
  | .ok .brk, hr => exact hr.elim
  | .ok .cont, hr => exact hr.elim
  | .ok (.ret ob), hr =>
    obtain ⟨rfl, rfl⟩ := hr
    have gS : (withSet w s.heap).get? s.heap.objs.size = some (mtSet w) := Heap.get?_push_size _ rfl
    have tS : Shared.TypeIs { s with heap := withSet w s.heap } (.ref s.heap.objs.size) "set" := ⟨_, gS, rfl⟩
    have f6 := F0.init.lookup
    have f7 := F0.init.bind (.ref s.heap.objs.size)
    repeat (any_goals (first | assumption | wp_step))
    refine codeAny_mono (codeAny_call_builtin (R := wants (fun r s2 => r = .none ∧ Upd1 w s ns s2) E) F0.init.plain F.entry_set_init (check_set_init_1 tS ?_)) fun r2 s2 hr2 => ?_
    · obtain ⟨⟨oc, od, odt, osl⟩, gl, e1, nl, e2⟩ := isl
      simp only at e1 e2
      subst e1 e2
      have gl' : (withSet w s.heap).get? l = some ⟨.type "list", od, .seq items nl, osl⟩ := Heap.get?_push_of_some _ gl
      have f8 := F.sub_list_set
      have f9 := F.sub_list_frozenset
      have f10 : (Value.type "list" == Value.type "dict") = false := by decide
      have isl' : (withSet w s.heap).IsList l items := ⟨_, gl', rfl, nl, rfl⟩
      unfold Builtin.«set.__init__» noKeywords Builtin.Frozenset.updateFrom
      generalize hPI : pyIter = PI
      wp_walk
      subst hPI
      refine wpAny_pyIter_list isl' (wpAny_bind (wpAny_runValue ?_))
      have ll : l < s.heap.objs.size := Heap.lt_size gl
      have z : (withSet w s.heap).objs.size = s.heap.objs.size + 1 := Heap.size_push ..
      have n1 : l ≠ (withSet w s.heap).objs.size := by
        rw [z]; exact Nat.ne_of_lt (Nat.lt_succ_of_lt ll)
      have n2 : s.heap.objs.size ∉ [(withSet w s.heap).objs.size, l] := by
        rw [z]
        simp only [List.mem_cons, List.not_mem_nil, or_false, not_or]
        exact ⟨Nat.ne_of_lt (Nat.lt_succ_self _), Nat.ne_of_gt ll⟩
      have at_ : ∀ (i : Nat) (v : Value), items[i]? = some v → ∃ k t, ns[i]? = some k ∧ v = .int k t := fun i v hv => by
        obtain ⟨hi, _⟩ := Array.getElem?_eq_some_iff.mp hv
        obtain ⟨t, e⟩ := IntsAre.int_at hint i v (by rw [Array.getElem?_toList]; exact hv)
        have hi' : i < ns.length := by omega
        exact ⟨ns[i], t, List.getElem?_eq_getElem hi', by rw [e, List.getD_eq_getElem?_getD, List.getElem?_eq_getElem hi'] <;> rfl⟩
      have calm3 : A.in1.in1.in1.handled = none := by simp [calm]
      refine set_update_ints ((Walks.list calm3 _ l n1 items).toS) s.heap.objs.size n2 ns cnt few at_ items.size 0 _ (Nat.sub_zero _) (Nat.zero_le _)
        ⟨⟨_, Heap.get?_push_size _ rfl, rfl, rfl⟩, isl'.push _⟩ ⟨0, Nat.le_refl 0, setR_new_at (Heap.get?_push_of_some _ gS)⟩ fun s' c' hm hc hS => ?_
      show wpAny _ _ _ _ _ _
      refine wpAny_pure ?_
      show wpAny _ _ (ret Value.none) _ _ _
      exact wpAny_pure ⟨rfl, upd_of_moved hm (by omega) hS⟩
    · match r2, hr2 with
      | .error e, hr2 => exact hr2
      | .ok .next, hr2 => exact hr2.elim
      | .ok .brk, hr2 => exact hr2.elim
      | .ok .cont, hr2 => exact hr2.elim
      | .ok (.ret r), hr2 =>
        obtain ⟨rfl, u⟩ := hr2
        have u' := u
        obtain ⟨h', tk, c', rfl, _⟩ := u'
        repeat (any_goals (first | assumption | wp_step))
        exact fin _ u
end
section
variable {X : Cx}
/-- set(xs) of a list of ints, then sorted -/
theorem cr_setI (hc : X.calm = true) : CallR X (.type "set") (fun xs H Q => ∃ (l : Addr) (ns : List Int), xs = [V.ref l] ∧ SqL X.K H l (ns.map V.int) ∧ ns.length < 63 ∧
    ∀ p c, H p = none → c ≤ ns.length → Q (.ref p) (upd H p (SetO X.w p (fun j => decide (j ∈ ns)) c))) := by
  intro pins s σ H xs us Q I r h
  obtain ⟨l, ns, rfl, hl, hf, q⟩ := h
  rw [Vals.ref1 r]
  obtain ⟨its, rv, pl, hz⟩ := I.list hl
  refine set_ints (P := X.prog) ns (I.ok.hd hc) pl.isList (by simpa using RZ.intsAre_vals rv) (by unfold scanBound; omega) fun s' u => ?_
  obtain ⟨h', tk, c, rfl, R, hcl, k⟩ := u
  exact ⟨.ref s.heap.objs.size, upd H s.heap.objs.size (SetO X.w s.heap.objs.size (fun j => decide (j ∈ ns)) c), I.laid (t' := tk) k (Nat.le_refl _) (setO_new R), rfl, q _ c (I.hok.fresh (Nat.le_refl _)) hcl⟩
end
end Fk
namespace Fk
open PySem PySem.Spec PyProof.Rows L2
/-! ### each once -/
section
variable {α : Type} [DecidableEq α]
def dd : List α → List α
  | [] => []
  | x :: r => if x ∈ r then dd r else x :: dd r
theorem mem_dd {x : α} : ∀ {l : List α}, x ∈ dd l ↔ x ∈ l
  | [] => by simp [dd]
  | y :: r => by
    unfold dd
    split
    · rename_i h
      rw [mem_dd, List.mem_cons]
      exact ⟨.inr, fun h' => h'.elim (fun e => e ▸ h) id⟩
    · rw [List.mem_cons, List.mem_cons, mem_dd]
theorem nodup_dd : ∀ l : List α, (dd l).Nodup
  | [] => .nil
  | y :: r => by
    unfold dd
    split
    · exact nodup_dd r
    · rename_i h
      exact List.nodup_cons.mpr ⟨fun z => h (mem_dd.mp z), nodup_dd r⟩
theorem nub_map {f : α → D} (hf : ∀ a b, PyData.eqv (f a) (f b) = decide (a = b)) : ∀ l : List α, nub (l.map f) = (dd l).map f
  | [] => rfl
  | x :: r => by
    have e : inD (f x) (r.map f) = decide (x ∈ r) := by
      rw [Bool.eq_iff_iff]
      simp only [inD, List.any_map, List.any_eq_true, Function.comp_apply, hf, decide_eq_true_eq]
      exact ⟨fun ⟨z, h1, h2⟩ => h2 ▸ h1, fun h => ⟨x, h, rfl⟩⟩
    rw [List.map_cons, nub, e, dd, nub_map hf r]
    by_cases h : x ∈ r <;> simp [h]
/-- two ways to say how many there are -/
theorem len_same {l m : List α} (hl : l.Nodup) (hm : m.Nodup) (h : ∀ x, x ∈ l ↔ x ∈ m) : l.length = m.length := ((List.perm_ext_iff_of_nodup hl hm).mpr h).length_eq
end
theorem dd_of {α : Type} [DecidableEq α] {l : List α} (h : l.Nodup) : dd l = l := by
  induction l with
  | nil => rfl
  | cons x r ih =>
    rw [List.nodup_cons] at h
    rw [dd, if_neg h.1, ih h.2]
theorem dd_len {α : Type} [DecidableEq α] : ∀ l : List α, (dd l).length ≤ l.length
  | [] => Nat.le_refl _
  | x :: r => by
    have := dd_len r
    unfold dd
    split <;> simp <;> omega
theorem dd_iff {α : Type} [DecidableEq α] : ∀ {l : List α}, (dd l).length = l.length ↔ l.Nodup
  | [] => by simp [dd]
  | x :: r => by
    have a := dd_len r
    have b := dd_iff (l := r)
    unfold dd
    rw [List.nodup_cons]
    split
    · rename_i h; simp [h]; omega
    · rename_i h; simp [h, b]
theorem eqv_ints : ∀ a b : List Int, PyData.eqvAll (a.map .int) (b.map .int) = decide (a = b)
  | [], [] => by simp [PyData.eqvAll]
  | [], _ :: _ => by simp [PyData.eqvAll]
  | _ :: _, [] => by simp [PyData.eqvAll]
  | x :: a, y :: b => by
    simp only [List.map_cons, PyData.eqvAll, eqv_ints a b, PyData.eqv]
    rw [Bool.eq_iff_iff]; simp
def tupI (k : List Int) : D := .tuple (k.map .int)
theorem eqv_tupI (a b : List Int) : PyData.eqv (tupI a) (tupI b) = decide (a = b) := by
  simp only [tupI, PyData.eqv]; exact eqv_ints a b
theorem eqv_intD (a b : Int) : PyData.eqv (.int a) (.int b) = decide (a = b) := by
  simp only [PyData.eqv]; rw [Bool.eq_iff_iff]; simp
theorem intsL_map : ∀ {ds : List D} {ns : List Int}, intsL ds = some ns → ds = ns.map .int
  | [], ns, h => by cases h; rfl
  | d :: ds, ns, h => by
    cases d with
    | int i =>
      simp only [intsL, Option.map_eq_some_iff] at h
      obtain ⟨r, h1, rfl⟩ := h
      rw [intsL_map h1]; rfl
    | _ => cases h
theorem tupsI_map : ∀ {ds : List D} {ks : List (List Int)}, tupsI ds = some ks → ds = ks.map tupI
  | [], ks, h => by cases h; rfl
  | d :: ds, ks, h => by
    cases d with
    | tuple xs =>
      simp only [tupsI, Option.bind_eq_some_iff, Option.map_eq_some_iff] at h
      obtain ⟨k, h1, r, h2, rfl⟩ := h
      rw [tupsI_map h2, intsL_map h1]; rfl
    | _ => cases h
theorem met_nodup : ∀ (l acc : List Int), acc.Nodup → (l.foldl step_dedup acc).Nodup ∧ ∀ k, k ∈ l.foldl step_dedup acc ↔ k ∈ acc ∨ k ∈ l
  | [], acc, h => ⟨h, fun k => by simp⟩
  | x :: r, acc, h => by
    rw [List.foldl_cons]
    have e : step_dedup acc x = if acc.any (· == x) then acc else acc ++ [x] := rfl
    by_cases c : acc.any (· == x) = true
    · rw [e, if_pos c]
      have hx : x ∈ acc := by
        obtain ⟨z, h1, h2⟩ := List.any_eq_true.mp c
        have : z = x := by simpa using h2
        exact this ▸ h1
      obtain ⟨a, b⟩ := met_nodup r acc h
      refine ⟨a, fun k => ?_⟩
      rw [b, List.mem_cons]
      constructor
      · rintro (h | h) <;> simp [h]
      · rintro (h | h | h)
        · exact .inl h
        · exact .inl (h ▸ hx)
        · exact .inr h
    · rw [e, if_neg c]
      have hx : x ∉ acc := fun hx => c (List.any_eq_true.mpr ⟨x, hx, by simp⟩)
      have hn : (acc ++ [x]).Nodup := List.nodup_append.mpr ⟨h, by simp, fun a ha b hb => by
        simp at hb; subst hb; exact fun e => hx (e ▸ ha)⟩
      obtain ⟨a, b⟩ := met_nodup r _ hn
      refine ⟨a, fun k => ?_⟩
      rw [b, List.mem_append, List.mem_singleton, List.mem_cons, or_assoc]
theorem met_len (ns : List Int) : (firstMet (fun i => ns.getD i 0) ns.length).length = (dd ns).length := by
  have e : (List.range ns.length).map (fun i => ns.getD i 0) = ns := by
    apply List.ext_getElem (by simp)
    intro i h1 h2
    simp [List.getD_eq_getElem?_getD, List.getElem?_eq_getElem h2]
  unfold firstMet
  rw [e]
  obtain ⟨a, b⟩ := met_nodup ns [] .nil
  exact len_same a (nodup_dd ns) fun x => by rw [b, mem_dd]; simp
section
variable {X : Cx} {cl : Cl} {G : Gam} {W : WX} {a : Expr} {p p2 q pos : Pos}
theorem tups_addrs {K : PySem.W.Frag} {F H : Hp} (sub : HSub F H) : ∀ {xs : List V} {ks : List (List Int)}, IsDs K F xs (ks.map tupI) → ∃ L : List (Addr × List Int), xs = (L.map fun p => V.ref p.1) ∧ L.map (·.2) = ks ∧ ∀ p ∈ L, SqT K H p.1 (p.2.map V.int)
  | [], [], _ => ⟨[], rfl, rfl, fun _ h => nomatch h⟩
  | [], _ :: _, h => by simp only [List.map_cons, IsDs] at h
  | _ :: _, [], h => by simp only [List.map_nil, IsDs] at h
  | x :: xs, k :: ks, h => by
    simp only [List.map_cons, IsDs, tupI, IsD] at h
    obtain ⟨⟨b, vs, rfl, h1, h2⟩, h3⟩ := h
    obtain ⟨L, e1, e2, h4⟩ := tups_addrs sub h3
    have e : vs = k.map V.int := by
      refine intsOk h2 ?_
      clear h2 h1 h3 h4 e2
      induction k with
      | nil => rfl
      | cons i k ih => simp [intsL, ih]
    subst e
    refine ⟨(b, k) :: L, by rw [e1]; rfl, by rw [← e2]; rfl, fun p hp => ?_⟩
    rcases List.mem_cons.mp hp with rfl | hp
    · exact h1.sq sub
    · exact h4 p hp
/-- len(set(xs)) -/
theorem pe_lenS {ta : TE} (hu : X.A.units + 65 < cLine) (hc : X.calm = true) (hg : Gl X "len") (hm : X.mg "len" = none) (hg2 : Gl X "set") (hm2 : X.mg "set" = none) (ha : PE X a ta) (na : starEach [a] X.env = (false, eval a X.env) :: starEach [] X.env) :
    PE X (.Call (.Name "len" p) [.Call (.Name "set" p2) [a] [] q] [] pos) fun σ H Q => ta σ H fun x H1 => ∃ (l : Addr) (F : Hp) (ds : List D) (xs : List V), x = .ref l ∧ SqL X.K H1 l xs ∧ HSub F H1 ∧ IsDs X.K F xs ds ∧ lsOk ds = true ∧ Q (.int (nub ds).length) H1 := by
  refine ⟨fun pins s σ H Q I h => ?_⟩
  refine Call_ (ld_blt I hg hm boot_len (PyProof.Rows.callWith_builtin1 (PyProof.Rows.args_cons ?_ rfl) rfl rfl))
  refine Call_ (ld_blt I hg2 hm2 boot_set (PyProof.Rows.callWith_type1 (PyProof.Rows.args_cons (thn (ha.run pins s σ H _ I h) fun v s1 hx => PyProof.Rows.args_nil ?_) na) na rfl))
  obtain ⟨x, H1, I1, r1, l, F, ds, xs, rfl, hq, sub, hd, hl, q1⟩ := hx
  cases r1
  obtain ⟨its, r, pl, hz⟩ := I1.list hq
  have fin : ∀ (h' : Heap) (tk n : Nat) (o : Obj) (es : Array (Int × Value)) (ep : Nat) (t : SetTable) (b : Addr), (∀ b o, s1.heap.get? b = some o → h'.get? b = some o) → h'.get? b = some o → o.ExactSet → o.data = .set es ep t → t.fits es.size = true → es.size = (nub ds).length → (nub ds).length ≤ 4000 →
      wpAny (model X.prog X.w) X.A (call (.builtin "len") [.ref b]) (EP X pins σ Q) X.xe { s1 with heap := h', toks := tk } := fun h' tk n o es ep t b k ho hex hdt hf hn hb => by
    have I2 : Inv X pins σ H1 { s1 with heap := h', toks := tk } := I1.kept k
    exact call_len_set ho hex hdt hf (by rw [hn]; omega) ⟨.int (nub ds).length, H1, I2.tok _, ⟨_, by rw [hn]⟩, q1⟩
  simp only [lsOk, Bool.or_eq_true, Bool.and_eq_true, decide_eq_true_eq, Option.isSome_iff_exists] at hl
  rcases hl with ⟨⟨ns, hi⟩, hl⟩ | ⟨⟨ks, hi⟩, hl⟩
  · have e := intsOk hd hi
    subst e
    have e2 := intsL_map hi
    subst e2
    rw [List.length_map] at hl
    have hlen : its.toArray.size = ns.length := by rw [List.size_toArray, ← r.length, List.length_map]
    refine call_set_list (I1.ok.hd hc) pl.isList (by simpa using RZ.intsAre_vals r) (by rw [hlen]; unfold scanBound; omega) fun h' tk hS hk => PyProof.Rows.args_nil ?_
    rw [hlen] at hS
    obtain ⟨o, es, ep, t, ho, hex, hdt, _, _, _, hf, hn⟩ := hS
    have en : (nub (ns.map PyData.int)).length = (dd ns).length := by rw [nub_map eqv_intD, List.length_map]
    rw [met_len, ← en] at hn
    exact fin h' tk 0 o es ep t _ (fun b o e => hk b o (Heap.lt_size e) e) ho hex hdt hf hn (by rw [en]; have := dd_len ns; omega)
  · have e2 := tupsI_map hi
    subst e2
    rw [List.length_map] at hl
    obtain ⟨L, e1, e2, h4⟩ := tups_addrs sub hd
    subst e1
    have hL : L.length = ks.length := by rw [← e2, List.length_map]
    refine call_set_tups (P := X.prog) (w := X.w) L (I1.ok.hd hc) pl.isList (by simpa using refs_of_vals r) (fun p hp => I1.isT (h4 p hp)) (by omega) (by omega) fun h' tk L2 es ep t R g k => PyProof.Rows.args_nil ?_
    obtain ⟨o, ho, hex, hdt⟩ := R.ob
    have en : (nub (ks.map tupI)).length = (dd ks).length := by rw [nub_map eqv_tupI, List.length_map]
    have hn : es.size = (nub (ks.map tupI)).length := by
      rw [SetTR.size (s := { s1 with heap := h', toks := tk }) R, en, ← List.length_map (f := (·.2)) (as := L2)]
      refine len_same R.nd (nodup_dd ks) fun z => ?_
      rw [mem_dd, ← e2]
      constructor
      · intro hz
        obtain ⟨p, hp, rfl⟩ := List.mem_map.mp hz
        exact List.mem_map_of_mem (List.mem_of_mem_take (g.sub p hp))
      · intro hz
        obtain ⟨p, hp, rfl⟩ := List.mem_map.mp hz
        exact g.all p (by rw [List.take_length]; exact hp)
    exact fin h' tk 0 o es ep t _ k ho hex hdt (SetTR.fits (s := { s1 with heap := h', toks := tk }) R) hn (by rw [en]; have := dd_len ks; omega)
theorem fk_lenset {m : Md} {c : E} (hu : X.A.units + 65 < cLine) (hc : X.calm = true) (hg : Gl X "len") (hm : X.mg "len" = none) (hg2 : Gl X "set") (hm2 : X.mg "set" = none) (ha : PE X a (tE X.K cl G W c)) (na : starEach [a] X.env = (false, eval a X.env) :: starEach [] X.env) :
    PE X (.Call (.Name "len" p) [.Call (.Name "set" p2) [a] [] q] [] pos) (tE X.K cl G W (.blt .lenset m (.cons c .nil))) := by
  refine PE.weak (pe_lenS hu hc hg hm hg2 hm2 ha na) fun σ H Q ⟨n, F, π, M, ρ, s, h⟩ => ?_
  simp only [ev, evs] at h
  refine ⟨n, F, π, M, ρ, s, ?_⟩
  dsimp only
  cases e : ev G n ρ M c with
  | bad => rw [e] at h; exact h.elim
  | exc x M1 => rw [e] at h; exact h
  | ok v M1 =>
    rw [e] at h
    simp only [Out.bind_ok, bltV] at h
    intro F1 π1 H1 u x qv
    cases el : listD M1 v with
    | none => rw [el] at h; exact h.elim
    | some ds =>
      rw [el] at h
      dsimp only at h
      split at h
      · rename_i hl
        obtain ⟨l, xs, rfl, h1, h2⟩ := listD_ok x.rel qv el
        exact ⟨l, F1, ds, xs, rfl, h1, x.rel.sub, h2, hl, h F1 π1 H1 (.int _) x rfl⟩
      · exact h.elim
theorem fk_sset {m : Md} {c : E} (hc : X.calm = true) (hg : Gl X "sorted") (hm : X.mg "sorted" = none) (hg2 : Gl X "set") (hm2 : X.mg "set" = none) (ha : PE X a (tE X.K cl G W c)) (na : starEach [a] X.env = (false, eval a X.env) :: starEach [] X.env) :
    PE X (.Call (.Name "sorted" p) [.Call (.Name "set" p2) [a] [] q] [] pos) (tE X.K cl G W (.blt .sset m (.cons c .nil))) := by
  refine PE.weak (pe_callB (cr_sortedSet hc) hg hm (by decide +kernel) (pa_cons (pe_callTy (cr_setI hc) hg2 hm2 (by decide +kernel) (pa_cons ha pa_nil na) (by decide) (by decide) na (by rfl)) pa_nil rfl) (by decide) (by decide) rfl rfl) fun σ H Q ⟨n, F, π, M, ρ, s, h⟩ => ?_
  simp only [ev, evs] at h
  refine ⟨n, F, π, M, ρ, s, ?_⟩
  dsimp only
  cases e : ev G n ρ M c with
  | bad => rw [e] at h; exact h.elim
  | exc x M1 => rw [e] at h; exact h
  | ok v M1 =>
    rw [e] at h
    simp only [Out.bind_ok, bltV] at h
    intro F1 π1 H1 u x qv
    cases el : listD M1 v with
    | none => rw [el] at h; exact h.elim
    | some ds =>
      rw [el] at h
      simp only [Option.bind_some] at h
      cases ei : intsL ds with
      | none => rw [ei] at h; exact h.elim
      | some ns =>
        rw [ei] at h
        dsimp only at h
        split at h
        · rename_i hl
          obtain ⟨l, xs, rfl, h1, h2⟩ := listD_ok x.rel qv el
          have e3 := intsOk h2 ei
          subst e3
          refine ⟨l, ns, rfl, h1, hl, fun p k hp hk => ⟨p, _, k, rfl, upd_same, by omega, fun out p' ho hmem hlen hp' => ?_⟩⟩
          have y : Nxt X.K cl n F1 π1 M1 H1 F1 π1 M1 (upd H1 p (SetO X.w p (fun j => decide (j ∈ ns)) k)) := Nxt.newP x.rel _ hp
          have eo : out = srt ns := srt_of ho fun z => by rw [hmem]; simp
          refine mkL_ok y.rel (Nat.le_trans s.le (Nat.le_trans (x.le s.rel) (y.le x.rel))) (RV.trans s.rel (Nxt.trans s.rel x y) h) ?_ hp'
          rw [eo]
          generalize srt ns = zs
          induction zs with
          | nil => exact .nil
          | cons z zs ih => exact .cons rfl ih
        · exact h.elim
end
end Fk

/-! FkChk: code checked against the text. -/
namespace Fk
open PySem PySem.Spec PyProof.Rows L2
mutual
def deq : D → D → Bool
  | .none, .none => true
  | .bool a, .bool b => a == b
  | .int a, .int b => decide (a = b)
  | .str a, .str b => decide (a = b)
  | .list a, .list b => deqs a b
  | .tuple a, .tuple b => deqs a b
  | _, _ => false
def deqs : List D → List D → Bool
  | [], [] => true
  | a :: r, b :: s => deq a b && deqs r s
  | _, _ => false
end
mutual
theorem deq_ok : ∀ {a b : D}, deq a b = true → a = b
  | .none, .none, _ => rfl
  | .bool a, .bool b, h => by simp only [deq, beq_iff_eq] at h; rw [h]
  | .int a, .int b, h => by simp only [deq, decide_eq_true_eq] at h; rw [h]
  | .str a, .str b, h => by simp only [deq, decide_eq_true_eq] at h; rw [h]
  | .list a, .list b, h => by simp only [deq] at h; rw [deqs_ok h]
  | .tuple a, .tuple b, h => by simp only [deq] at h; rw [deqs_ok h]
theorem deqs_ok : ∀ {a b : List D}, deqs a b = true → a = b
  | [], [], _ => rfl
  | a :: r, b :: s, h => by
    simp only [deqs, Bool.and_eq_true] at h
    rw [deq_ok h.1, deqs_ok h.2]
end
structure Fn where
  name : Str
  ix : Nat
  dv : List D
structure Tab where
  fns : List Fn
  cons : List (Str × D)
  free : List Str
  exs : List (Str × Nat)
  clss : List (Str × Nat)
/-- a block: its scope; for a comprehension's, the scope as written -/
structure Bl where
  sc : Scope
  oc : Option Scope
def isVis (sc : Scope) (x : Str) : Bool := match sc.names.lookup x with
  | some .local => true
  | some .cell => true
  | some .free => true
  | _ => false
def okNm (x : Str) : Bool := !(x == ("__debug__" : Str)) && !(x == ("__classdict__" : Str)) && !(decide (x = ("__name__" : Str)))
def isGl (sc : Scope) (x : Str) : Bool := (match sc.names.lookup x with
  | some .globalImplicit => true
  | _ => false) && okNm x
def isTg (b : Bl) (x : Str) : Bool := match b.sc.names.lookup x with
  | some .local => true
  | some .cell => (match b.oc with
    | none => true
    | some o => (match o.names.lookup x with
      | some .cell => true
      | _ => false))
  | _ => false
def isLoc (b : Bl) (x : Str) : Bool := match b.sc.names.lookup x with
  | some .local => true
  | _ => false
def nst : Expr → Bool
  | .Starred .. => false
  | _ => true
def nset : Expr → Bool
  | .Set .. => false
  | _ => true
def nslice : Expr → Bool
  | .Slice .. => false
  | _ => true
def ncomp : Expr → Bool
  | .ListComp .. => false
  | .SetComp .. => false
  | .DictComp .. => false
  | _ => true
def ntup : Expr → Bool
  | .Tuple .. => false
  | .List .. => false
  | _ => true
def isTup : Expr → Bool
  | .Tuple .. => true
  | _ => false
def plainT : Expr → Bool
  | .UnaryOp .. => false
  | .BoolOp .. => false
  | .IfExp .. => false
  | .Compare .. => false
  | _ => true
def nsup : Expr → Bool
  | .Call _ (_ :: _) _ _ => true
  | .Call .. => false
  | _ => true
def Es.len : Es → Nat
  | .nil => 0
  | .cons _ es => es.len + 1
inductive J where
  | e (b : Bl) (c : E) (x : Expr) | es (b : Bl) (c : Es) (x : List Expr) | o (b : Bl) (c : Eo) (x : Option Expr)
  | t (b : Bl) (c : T) (x : Expr) | w (b : Bl) (c : T) (x : Expr) | to (b : Bl) (c : To) (x : List Expr) | i (b : Bl) (c : I) (g x : Expr)
  | s (b : Bl) (c : S) (x : Stmt) | ss (b : Bl) (c : Ss) (x : List Stmt)
section
variable (tb : Tab) (N : List Str) (r : J → Bool)
def chTs (b : Bl) : List Nat → List Expr → Bool
  | [], [] => true
  | i :: is, .Name y _ :: xs => decide (N[i]? = some y) && isTg b y && chTs b is xs
  | _, _ => false
def chTg (b : Bl) (tg : Tg) (x : Expr) : Bool := match tg with
  | .one i => (match x with
    | .Name y _ => decide (N[i]? = some y) && isTg b y
    | _ => false)
  | .tup is => (match x with
    | .Tuple xs _ _ => chTs N b is xs
    | _ => false)
def isFn (x : Str) (f : Nat) (dv : List D) : Bool := tb.fns.any fun g => decide (g.name = x) && decide (g.ix = f) && deqs g.dv dv
def isFree (x : Str) : Bool := tb.free.any fun y => decide (y = x)
def bltOk : Bt → Bool
  | .lenset => false
  | .sset => false
  | _ => true
def bmOk : Bm → Bool
  | .append | .index | .insert | .pop0 | .pop1 | .clear | .reverse | .count | .split | .join | .upper | .get1 | .get2 => true
def chLc (b : Bl) (vs : List Nat) (tg : Tg) (it : I) (t : To) (c : E) (x : Expr) : Bool := match x with
  | .ListComp elt [⟨g, iter, ifs, 0⟩] scope _ => blkC N b.sc scope (vs.map fun i => (N.getD i (default : Str), i)) && nset iter && tg.slots.all (fun i => decide (i ∈ vs)) && chTg N ⟨relS scope b.sc, some scope⟩ tg g && r (.i b it g iter) && r (.to ⟨relS scope b.sc, some scope⟩ t ifs) && r (.e ⟨relS scope b.sc, some scope⟩ c elt)
  | _ => false
def chLc2 (b : Bl) (vs vs1 : List Nat) (tg : Tg) (it : I) (t : To) (tg1 : Tg) (it1 : I) (t1 : To) (c : E) (x : Expr) : Bool := match x with
  | .ListComp elt [⟨g, iter, ifs, 0⟩, ⟨g1, iter1, ifs1, 0⟩] scope _ => blkC N b.sc scope (vs.map fun i => (N.getD i (default : Str), i)) && nset iter && nset iter1 && tg.slots.all (fun i => decide (i ∈ vs)) && tg1.slots.all (fun i => decide (i ∈ vs1)) && vs1.all (fun i => decide (i ∈ vs)) && chTg N ⟨relS scope b.sc, some scope⟩ tg g && chTg N ⟨relS scope b.sc, some scope⟩ tg1 g1 && r (.i b it g iter) && r (.to ⟨relS scope b.sc, some scope⟩ t ifs) && r (.i ⟨relS scope b.sc, some scope⟩ it1 g1 iter1) && r (.to ⟨relS scope b.sc, some scope⟩ t1 ifs1) && r (.e ⟨relS scope b.sc, some scope⟩ c elt)
  | _ => false
def chBlt (b : Bl) (bt : Bt) (es : Es) (x : Expr) : Bool := match x with
  | .Call (.Name y _) xs [] _ => bltOk bt && decide (y = bt.nm) && isFree tb y && isGl b.sc y && xs.all nst && !xs.isEmpty && r (.es b es xs)
  | _ => false
def chSet (b : Bl) (o : String) (es : Es) (x : Expr) : Bool := match x with
  | .Call (.Name y _) [.Call (.Name z _) [w] [] _] [] _ => decide (y = (o : Str)) && decide (z = ("set" : Str)) && isFree tb y && isFree tb z && isGl b.sc y && isGl b.sc z && nst w && (match es with
    | .cons c .nil => r (.e b c w)
    | _ => false)
  | _ => false
def chE (b : Bl) (c : E) (x : Expr) : Bool := match c with
  | .var i => (match x with
    | .Name y _ => decide (N[i]? = some y) && isVis b.sc y && okNm y
    | _ => false)
  | .con z d => (match x with
    | .Name y _ => decide (z = y) && isGl b.sc y && tb.cons.any (fun p => decide (p.1 = y) && deq p.2 d)
    | _ => false)
  | .lit d => (match x with
    | .Constant k _ _ => litC k d
    | _ => false)
  | .tup es => (match x with
    | .Tuple xs _ _ => decide (xs.length ≤ 1000) && decide (es.len = xs.length) && r (.es b es xs)
    | _ => false)
  | .lst m es => (match x with
    | .List xs _ => decide (xs.length ≤ 1000) && decide (es.len = xs.length) && r (.es b es xs)
    | _ => false)
  | .bin o m a1 b1 => (match x with
    | .BinOp x1 op x2 _ => decide (op = bop o) && r (.e b a1 x1) && r (.e b b1 x2)
    | _ => false)
  | .neg a => (match x with
    | .UnaryOp .USub y _ => r (.e b a y)
    | _ => false)
  | .cmp o a1 b1 => (match x with
    | .Compare x1 [op] [x2] _ => decide (op = cop o) && nset x2 && r (.e b a1 x1) && r (.e b b1 x2)
    | _ => false)
  | .and a1 b1 => (match x with
    | .BoolOp .And (y :: z :: l) p => r (.e b a1 y) && r (.e b b1 (.BoolOp .And (z :: l) p))
    | _ => false)
  | .or a1 b1 => (match x with
    | .BoolOp .Or (y :: z :: l) p => r (.e b a1 y) && r (.e b b1 (.BoolOp .Or (z :: l) p))
    | _ => false)
  | .not a => (match x with
    | .UnaryOp .Not y _ => r (.e b a y)
    | _ => false)
  | .ite t a1 b1 => (match x with
    | .IfExp y x1 x2 _ => r (.t b t y) && r (.e b a1 x1) && r (.e b b1 x2)
    | _ => false)
  | .idx a1 b1 => (match x with
    | .Subscript x1 x2 _ => nslice x2 && r (.e b a1 x1) && r (.e b b1 x2)
    | _ => false)
  | .slc m a lo hi => (match x with
    | .Subscript x1 (.Slice l h none _) _ => r (.e b a x1) && r (.o b lo l) && r (.o b hi h)
    | _ => false)
  | .call f dv es => (match x with
    | .Call (.Name y _) xs [] _ => isFn tb y f dv && isGl b.sc y && xs.all nst && decide (es.len = xs.length) && r (.es b es xs)
    | _ => false)
  | .callB f dv es => (match x with
    | .Call (.Name y _) xs [] _ => isFn tb y f dv && isGl b.sc y && xs.all nst && !xs.isEmpty && r (.es b es xs)
    | _ => false)
  | .blt .lenset m es => chSet tb r b "len" es x
  | .blt .sset m es => chSet tb r b "sorted" es x
  | .blt bt m es => chBlt tb r b bt es x
  | .bm bb a es => (match x with
    | .Call (.Attribute o y ap) xs [] p => bmOk bb && decide (y = bb.nm) && nsup o && (ap.endLine == p.line) && decide (xs.length < 30) && decide (es.len = xs.length) && xs.all nst && r (.e b a o) && r (.es b es xs)
    | _ => false)
  | .isi a ts => (match ts with
    | [t] => (match x with
      | .Call (.Name f _) [y, .Name z _] [] _ => decide (f = ("isinstance" : Str)) && isFree tb f && isGl b.sc f && isGl b.sc z && nst y && r (.e b a y) && (match t with
        | .cls c => tb.clss.any (fun p => decide (p.1 = z) && decide (p.2 = c))
        | .valueError => decide (z = ("ValueError" : Str)) && isFree tb z
        | _ => t.plain && decide (z = (t.nm : Str)) && isFree tb z)
      | _ => false)
    | _ => false)
  | .fld _ _ => false
  | .rev m a => (match x with
    | .Subscript x1 (.Slice none none (some (.UnaryOp .USub (.Constant (.int 1) _ _) _)) _) _ => r (.e b a x1)
    | _ => false)
  | .dct => (match x with
    | .Dict [] [] _ => true
    | _ => false)
  | .lc m vs tg it t e => chLc N r b vs tg it t e x
  | .lc2 m vs vs1 tg it t tg1 it1 t1 e => chLc2 N r b vs vs1 tg it t tg1 it1 t1 e x
def chE1 (b : Bl) (c : E) (x : Expr) : Bool := match x with
  | .BoolOp _ [y] _ => r (.e b c y)
  | _ => chE tb N r b c x
def chEs (b : Bl) (c : Es) (x : List Expr) : Bool := match c with
  | .nil => x.isEmpty
  | .cons e es => (match x with
    | y :: ys => nst y && r (.e b e y) && r (.es b es ys)
    | [] => false)
def chO (b : Bl) (c : Eo) (x : Option Expr) : Bool := match c with
  | .no => x.isNone
  | .some e => (match x with
    | some y => r (.e b e y)
    | none => false)
def chT (b : Bl) (c : T) (x : Expr) : Bool := match x with
  | .BoolOp _ _ _ => r (.w b c x)
  | .UnaryOp .Not y _ => (match c with
    | .not a => r (.t b a y)
    | _ => false)
  | .Compare x1 [op] [x2] _ => (match c with
    | .val (.cmp o a1 b1) => decide (op = cop o) && nset x2 && r (.e b a1 x1) && r (.e b b1 x2)
    | _ => false)
  | _ => (match c with
    | .val e => plainT x && r (.e b e x)
    | _ => false)
def chW (b : Bl) (c : T) (x : Expr) : Bool := match x with
  | .BoolOp .And [y] _ => r (.t b c y)
  | .BoolOp .Or [y] _ => r (.t b c y)
  | .BoolOp .And (y :: z :: l) p => (match c with
    | .and a1 b1 => r (.t b a1 y) && r (.w b b1 (.BoolOp .And (z :: l) p))
    | _ => false)
  | .BoolOp .Or (y :: z :: l) p => (match c with
    | .or a1 b1 => r (.t b a1 y) && r (.w b b1 (.BoolOp .Or (z :: l) p))
    | _ => false)
  | _ => false
def chTo (b : Bl) (c : To) (x : List Expr) : Bool := match c with
  | .no => x.isEmpty
  | .some t => (match x with
    | [y] => r (.t b t y)
    | _ => false)
def chI (b : Bl) (c : I) (g x : Expr) : Bool := match c with
  | .seq e => r (.e b e x)
  | .rng1 a => (match x with
    | .Call (.Name y _) [x1] [] _ => decide (y = ("range" : Str)) && isFree tb y && isGl b.sc y && nst x1 && r (.e b a x1)
    | _ => false)
  | .rng2 a1 b1 => (match x with
    | .Call (.Name y _) [x1, x2] [] _ => decide (y = ("range" : Str)) && isFree tb y && isGl b.sc y && nst x1 && nst x2 && r (.e b a1 x1) && r (.e b b1 x2)
    | _ => false)
  | .rngD _ _ => false
  | .enm a => (match x with
    | .Call (.Name y _) [x1] [] _ => decide (y = ("enumerate" : Str)) && isFree tb y && isGl b.sc y && nst x1 && isTup g && r (.e b a x1)
    | _ => false)
  | .zip a1 b1 => (match x with
    | .Call (.Name y _) [x1, x2] [] _ => decide (y = ("zip" : Str)) && isFree tb y && isGl b.sc y && nst x1 && nst x2 && isTup g && r (.e b a1 x1) && r (.e b b1 x2)
    | _ => false)
/-- a comprehension is stored in a name that is a cell: no swap -/
def swC (b : Bl) (y : Str) (z : Expr) : Bool := match z with
  | .ListComp .. => (match b.sc.names.lookup y with | some .cell => true | _ => false)
  | _ => false
def chS (b : Bl) (c : S) (x : Stmt) : Bool := match c with
  | .expr e => (match x with
    | .Expr y _ => ncomp y && r (.e b e y)
    | _ => false)
  | .set i e => (match x with
    | .Assign [.Name y py] z _ => decide (N[i]? = some y) && isTg b y && (((ncomp z || swC b y z) && r (.e b e z)) || (match e with
      | .lc m vs tg it t c => (match z with
        | .ListComp elt gs scope pos => (match b.sc.kind with | .function => true | _ => false) && (match b.sc.names.lookup y with | some .local => true | _ => false) && (py.line == pos.line) && !(scope.names.any fun (n, k) => n == y && (k == .local || k == .cell)) && chLc N r b vs tg it t c z
        | _ => false)
      | .lc2 m vs vs1 tg it t tg1 it1 t1 c => (match z with
        | .ListComp elt gs scope pos => (match b.sc.kind with | .function => true | _ => false) && (match b.sc.names.lookup y with | some .local => true | _ => false) && (py.line == pos.line) && !(scope.names.any fun (n, k) => n == y && (k == .local || k == .cell)) && chLc2 N r b vs vs1 tg it t tg1 it1 t1 c z
        | _ => false)
      | _ => false))
    | _ => false)
  | .setT is e => (match x with
    | .Assign [.Tuple xs _ _] z _ => ncomp z && ntup z && chTs N b is xs && r (.e b e z)
    | _ => false)
  | .par _ _ => false
  | .setIx a1 b1 e => (match x with
    | .Assign [.Subscript x1 x2 _] z _ => ncomp z && nslice x2 && r (.e b a1 x1) && r (.e b b1 x2) && r (.e b e z)
    | _ => false)
  | .setF _ _ _ => false
  | .aug i o e => (match x with
    | .AugAssign (.Name y _) op z _ => decide (N[i]? = some y) && isTg b y && decide (op = bop o) && (match o with | .add => true | .sub => true | _ => false) && r (.e b e z)
    | _ => false)
  | .iff t s1 s2 => (match x with
    | .If y l1 l2 _ => r (.t b t y) && r (.ss b s1 l1) && r (.ss b s2 l2)
    | _ => false)
  | .whl tr t s1 => (match x with
    | .While y l1 [] _ => r (.t b t y) && r (.ss b s1 l1)
    | _ => false)
  | .fr tr tg it s1 => (match x with
    | .For g y l1 [] _ => nset y && chTg N b tg g && r (.i b it g y) && r (.ss b s1 l1)
    | _ => false)
  | .ret e => (match x with
    | .Return (some y) _ => r (.e b e y)
    | _ => false)
  | .retN => (match x with
    | .Return none _ => true
    | _ => false)
  | .raise cc e => (match x with
    | .Raise (some (.Call (.Name y _) [z] [] _)) none _ => isGl b.sc y && nst z && tb.exs.any (fun p => decide (p.1 = y) && decide (p.2 = cc)) && r (.e b e z)
    | _ => false)
  | .pass => (match x with
    | .Pass _ => true
    | _ => false)
  | .never => true
  | .tryK c i j s1 => (match x with
    | .Try body [.ExceptHandler (some (.Name x np)) (some n) [.Assign [.Name y py] (.Name n2 p2) sp] pos'] [] [] pos => b.oc.isNone && tb.clss.any (fun p => decide (p.1 = x) && decide (p.2 = c)) && isGl b.sc x && decide (N[i]? = some n) && decide (N[j]? = some y) && decide (n2 = n) && decide (i ≠ j) && isLoc b n && isLoc b y && okNm n && r (.ss b s1 body)
    | _ => false)
def chSs (b : Bl) (c : Ss) (x : List Stmt) : Bool := match c with
  | .nil => x.isEmpty
  | .cons s ss => (match x with
    | y :: ys => r (.s b s y) && r (.ss b ss ys)
    | [] => false)
def stp : J → Bool
  | .e b c x => chE1 tb N r b c x
  | .es b c x => chEs r b c x
  | .o b c x => chO r b c x
  | .t b c x => chT r b c x
  | .w b c x => chW r b c x
  | .to b c x => chTo r b c x
  | .i b c g x => chI tb r b c g x
  | .s b c x => chS tb N r b c x
  | .ss b c x => chSs r b c x
end
def chk (tb : Tab) (N : List Str) : Nat → J → Bool
  | 0, _ => false
  | k + 1, j => stp tb N (chk tb N k) j
/-! ### what stands around -/
def ExFact (X : Cx) (cl : Cl) (y : Str) (c : Nat) : Prop := ∃ (B newId initId : String) (bmB : List Value), ExcBaseFacts B newId initId bmB ∧ PySem.W.excIn X.K (cl c) bmB newId = true ∧ X.mg y = some (.ref (cl c)) ∧ PySem.W.keepIn X.K (.ref (cl c)) = true ∧ Raises X (.ref (cl c)) ∧ Kc X.K cl c
structure Good (cl : Cl) (G : Gam) (tb : Tab) (N : List Str) (lv : Nat) (X : Cx) (W : WX) (b : Bl) : Prop where
  calm : X.calm = true
  wp : Wp cl X
  hN : X.N = N
  nd : N.Nodup
  sc : X.env.scope = b.sc
  fn : match b.oc with | none => ∀ x, X.fn x = true | some o => ∀ x, X.fn x = (o.names.lookup x == some .cell)
  rm : Rm2 lv X.A
  tk : Takes X W
  pas : PassesOwn (model X.prog X.w) X.A X.env X.xe
  fns : ∀ e ∈ tb.fns, ∃ g, G.fn e.ix = some g ∧ FnFact X cl lv e.name e.dv g
  cons : ∀ e ∈ tb.cons, ∃ v u, X.mg e.1 = some u ∧ RelV v u ∧ ∀ F : Hp, IsD X.K F v e.2
  free : ∀ x ∈ tb.free, X.mg x = none
  exs : ∀ e ∈ tb.exs, ExFact X cl e.1 e.2
  clss : ∀ e ∈ tb.clss, X.mg e.1 = some (.ref (cl e.2)) ∧ cl e.2 ≠ 0
  top : b.oc = none → X.ex = [] ∧ X.stack = X.env :: X.outer ∧ X.env.frame = some X.env.locals
def Snd (cl : Cl) (G : Gam) (tb : Tab) (N : List Str) (lv : Nat) (j : J) : Prop := ∀ (X : Cx) (W : WX), match j with
  | .e b c x => Good cl G tb N lv X W b → PE X x (tE X.K cl G W c)
  | .es b c x => Good cl G tb N lv X W b → PA X x (tEs X.K cl G W c)
  | .o b c x => Good cl G tb N lv X W b → OkO X cl G W c x
  | .t b c x => Good cl G tb N lv X W b → PT X x (tT X.K cl G W c)
  | .w b c x => Good cl G tb N lv X W b → PW X x (tT X.K cl G W c)
  | .to b c x => Good cl G tb N lv X W b → PTs X x (tTo X.K cl G W c)
  | .i b c g x => Good cl G tb N lv X W b → PI X g x (tIt X.K cl G W c)
  | .s b c x => Good cl G tb N lv X W b → PS X x (tS X.K cl G W c)
  | .ss b c x => Good cl G tb N lv X W b → PSs X x (tSs X.K cl G W c)
end Fk

/-! FkLc2: comprehensions with two clauses. -/
namespace Fk
open PySem PySem.Spec PyProof.Rows L2
section
variable {K : PySem.W.Frag} {cl : Cl} {n : Nat} {F F' F1 : Hp} {π π' π1 : List Addr} {M M' M1 : Mem} {H H' H1 : Hp} {ρ ρ' : Slots} {σ σ' : L2.St} {W : WX}
theorem guard_rv2 {α : Type} {g : Option Nat} {M0 M1 : Mem} {o : Out α} {k : α → Mem → Out Val} {Q : VK} {E : XK} (h : RV K cl n F π M H ((guard g M0 M1 o).okk k) Q E) : Kept g M0 M1 ∧ RV K cl n F π M H (o.okk k) Q E := by
  cases g with
  | none => exact ⟨trivial, h⟩
  | some j =>
    unfold guard at h
    dsimp only at h
    split at h
    · rename_i e
      exact ⟨e, h⟩
    · exact h.elim
theorem foldC2_cons {g : Option Nat} {f : Itm → List Val → Mem → Out (List Val)} {x : Itm} {r : List Itm} {acc : List Val} {M : Mem} : foldC2 g f (x :: r) acc M = (f x acc M).okk fun acc' M' => guard g M M' (foldC2 g f r acc' M') := rfl
/-- the second clause's loop: from inner base 0, over the outer base b -/
theorem fold_rd {G : Gam} {vs : List Nat} {tg : Tg} {t : To} {c : E} {Q : VK} {E0 : XK} {D : Addr} {Fb F0 : Hp} {πb π0 : List Addr} {Mb M0 : Mem} {Hb H0 : Hp} {J : It} {items : List Itm} {g : Option Nat} {k : List Val → Mem → Out Val} {acc0 : List V} {accV0 : List Val} {Nx : Hp → Prop} (hv : ∀ i ∈ tg.slots, i ∈ vs)
    (r1 : Rel K cl Fb πb Mb Hb) (hn1 : n ≤ Mb.length) (hD : Hb D = none) (hw : Walks K cl F0 π0 g M0 J items) (sl0 : Slt K cl F0 π0 σ ρ) (nx0 : Nxt K cl n Fb πb Mb Hb F0 π0 M0 H0) (pv0 : Priv F0 π0 M0 D) (hD0 : H0 D = some (.lst acc0)) (ha0 : IsVs K cl F0 π0 acc0 accV0) (hl0 : acc0.length + items.length ≤ sizeLine)
    (hr : RV K cl n Fb πb Mb Hb ((foldC g (stepC ρ vs tg (fun ρ M => evoT G n ρ M t) (fun ρ M => ev G n ρ M c)) items accV0 M0).okk k) Q E0)
    (hNx : ∀ F2 π2 M2 H2 acc accV, Nxt K cl n Fb πb Mb Hb F2 π2 M2 H2 → Priv F2 π2 M2 D → H2 D = some (.lst acc) → IsVs K cl F2 π2 acc accV → RV K cl n Fb πb Mb Hb (k accV M2) Q E0 → Nx H2) :
    ∃ W1 : Nat → Nat → Hp → Prop, (∃ m, W1 0 m H0) ∧ ∀ i m H, W1 i m H → (J.stop i H ∧ Nx H) ∨ (J.go i H ∧ ∃ Nx1 : Hp → Prop, (∀ H', Nx1 H' → ∃ m', m' < m ∧ W1 (i + 1) m' H') ∧ ∀ x H', J.yld i H x H' → gT K tg x (L2.wipe σ vs) H' fun σ2 H2 => L2.wipe σ2 vs = L2.wipe σ vs ∧ tTo K cl G Wno t σ2 H2 fun b H3 =>
      if b = true then tE K cl G Wno c σ2 H3 fun y H4 => ∃ acc, H4 D = some (.lst acc) ∧ acc.length < sizeLine ∧ Nx1 (upd H4 D (.lst (acc ++ [y]))) else Nx1 H3) := by
  refine ⟨fun i k' H => k' = items.length - i ∧ i ≤ items.length ∧ ∃ F2 π2 M2 accV acc, Nxt K cl n Fb πb Mb Hb F2 π2 M2 H ∧ HSub F0 F2 ∧ (∃ t, π2 = π0 ++ t) ∧ Priv F2 π2 M2 D ∧ H D = some (.lst acc) ∧ IsVs K cl F2 π2 acc accV ∧ acc.length ≤ acc0.length + i ∧ Kept g M0 M2 ∧
      RV K cl n Fb πb Mb Hb ((foldC g (stepC ρ vs tg (fun ρ M => evoT G n ρ M t) (fun ρ M => ev G n ρ M c)) (items.drop i) accV M2).okk k) Q E0, ⟨items.length, rfl, Nat.zero_le _, F0, π0, M0, accV0, acc0, nx0, .refl _, ⟨[], by simp⟩, pv0, hD0, ha0, by omega, by cases g <;> first | trivial | rfl, by simpa using hr⟩, ?_⟩
  rintro i k' H2 ⟨rfl, hi, F2, π2, M2, accV, acc, nx2, sub2, pre2, pv, hDl, hacc, hlen, kp, hr⟩
  have r2 := nx2.rel
  have hn2 : n ≤ M2.length := Nat.le_trans hn1 (nx2.le r1)
  obtain ⟨stop, go⟩ := hw n F2 π2 M2 H2 r2 hn2 sub2 pre2 kp i
  by_cases hlt : i < items.length
  · obtain ⟨v, hvi⟩ : ∃ v, items[i]? = some v := ⟨_, List.getElem?_eq_getElem hlt⟩
    obtain ⟨hgo, hy⟩ := go v hvi
    have hdrop : items.drop i = v :: items.drop (i + 1) := by
      rw [List.drop_eq_getElem_cons hlt]
      have : items[i] = v := by
        rw [List.getElem?_eq_getElem hlt] at hvi; exact Option.some.inj hvi
      rw [this]
    rw [hdrop, foldC_cons] at hr
    have hs : stepC ρ vs tg (fun ρ M => evoT G n ρ M t) (fun ρ M => ev G n ρ M c) v M2 = (match asg tg v (wipeS ρ vs) with
      | some ρ' => (evoT G n ρ' M2 t).bind fun b M => if b then (ev G n ρ' M c).bind fun y M => .ok (some y) M else .ok none M
      | none => .bad) := rfl
    rw [hs] at hr
    refine .inr ⟨hgo, fun H' => (∃ k', k' = items.length - (i + 1) ∧ i + 1 ≤ items.length ∧ ∃ F2 π2 M2 accV acc, Nxt K cl n Fb πb Mb Hb F2 π2 M2 H' ∧ HSub F0 F2 ∧ (∃ t, π2 = π0 ++ t) ∧ Priv F2 π2 M2 D ∧ H' D = some (.lst acc) ∧ IsVs K cl F2 π2 acc accV ∧ acc.length ≤ acc0.length + (i + 1) ∧ Kept g M0 M2 ∧
      RV K cl n Fb πb Mb Hb ((foldC g (stepC ρ vs tg (fun ρ M => evoT G n ρ M t) (fun ρ M => ev G n ρ M c)) (items.drop (i + 1)) accV M2).okk k) Q E0), fun H' hh => ?_, fun x H' hx => ?_⟩
    · obtain ⟨k', hk', rest⟩ := hh
      exact ⟨k', by omega, hk', rest⟩
    · obtain ⟨F3, nx3, hxv⟩ := hy x H' hx
      cases ea : asg tg v (wipeS ρ vs) with
      | none => rw [ea] at hr; exact hr.elim
      | some ρ' =>
        rw [ea] at hr
        dsimp only at hr
        have r3 := nx3.rel
        have nx13 := Nxt.trans r1 nx2 nx3
        have pv3 := Priv.next nx3 pv ⟨_, hDl⟩ r2
        have hD3 : H' D = some (.lst acc) := nx3.fr D _ hDl pv.2
        have sl : Slt K cl F3 π2 (L2.wipe σ vs) (wipeS ρ vs) := (sl0.mono (sub2.trans nx3.fsub) pre2).wipe vs
        refine gT_ok r3 ea sl hxv fun σ2 s2 hw2 => ⟨?_, ?_⟩
        · rw [hw2 vs hv]
          apply List.ext_getElem?
          intro j
          rw [wipe_get, wipe_get, wipe_length]
          by_cases hj : j ∈ vs
          · rw [if_pos hj, if_pos hj]
          · rw [if_neg hj, if_neg hj]
        · refine ⟨n, F3, π2, M2, ρ', ⟨r3, hn2, s2⟩, ?_⟩
          dsimp only
          cases et : evoT G n ρ' M2 t with
          | bad => rw [et] at hr; exact hr.elim
          | exc e M' => rw [et] at hr; exact hr.elim
          | ok b M3 =>
            rw [et] at hr
            simp only [Out.bind_ok] at hr
            intro F4 π4 H4 nx4
            have r4 := nx4.rel
            have nx14 := Nxt.trans r1 nx13 nx4
            have pv4 := Priv.next nx4 pv3 ⟨_, hD3⟩ r3
            have hD4 : H4 D = some (.lst acc) := nx4.fr D _ hD3 pv3.2
            have pre4 : ∃ t, π4 = π0 ++ t := by
              obtain ⟨a, rfl⟩ := nx4.pre
              obtain ⟨b, rfl⟩ := pre2
              exact ⟨b ++ a, by simp⟩
            have sub4 : HSub F0 F4 := (sub2.trans nx3.fsub).trans nx4.fsub
            cases b with
            | false =>
              simp only [Bool.false_eq_true, if_false] at hr ⊢
              obtain ⟨kg, hr⟩ := guard_rv2 hr
              simp only [Option.toList, List.append_nil] at hr
              exact ⟨_, rfl, hlt, F4, π4, M3, accV, acc, nx14, sub4, pre4, pv4, hD4, hacc.mono (nx3.fsub.trans nx4.fsub) nx4.pre, by omega, kp.trans kg, hr⟩
            | true =>
              simp only [if_true] at hr ⊢
              refine ⟨n, F4, π4, M3, ρ', ⟨r4, Nat.le_trans hn2 (nx4.le r3), s2.mono nx4.fsub nx4.pre⟩, ?_⟩
              dsimp only
              cases ee : ev G n ρ' M3 c with
              | bad => rw [ee] at hr; exact hr.elim
              | exc e M' => rw [ee] at hr; exact hr.elim
              | ok y M5 =>
                rw [ee] at hr
                simp only [Out.bind_ok] at hr
                obtain ⟨kg, hr⟩ := guard_rv2 hr
                intro F5 π5 H5 u nx5 hu
                have nx15 := Nxt.trans r1 nx14 nx5
                have pv5 := Priv.next nx5 pv4 ⟨_, hD4⟩ r4
                have hD5 : H5 D = some (.lst acc) := nx5.fr D _ hD4 pv4.2
                have pre5 : ∃ t, π5 = π0 ++ t := by
                  obtain ⟨a, rfl⟩ := nx5.pre
                  obtain ⟨b, rfl⟩ := pre4
                  exact ⟨b ++ a, by simp⟩
                refine ⟨acc, hD5, by omega, _, rfl, hlt, F5, π5, M5, accV ++ [y], acc ++ [u], Nxt.privUpd _ nx15 pv5 hD, sub4.trans nx5.fsub, pre5, pv5, upd_same, ?_, by rw [List.length_append]; simp; omega, kp.trans kg, by simpa using hr⟩
                exact paired_append (hacc.mono ((nx3.fsub.trans nx4.fsub).trans nx5.fsub) (by
                  obtain ⟨a, rfl⟩ := nx4.pre
                  obtain ⟨b, rfl⟩ := nx5.pre
                  exact ⟨a ++ b, by simp⟩)) (.cons hu .nil)
  · have e : i = items.length := by omega
    subst e
    rw [List.drop_length] at hr
    exact .inl ⟨stop (Nat.le_refl _), hNx F2 π2 M2 H2 acc accV nx2 pv hDl hacc hr⟩
theorem okk_okk {α β γ : Type} (o : Out α) (f : α → Mem → Out β) (k : β → Mem → Out γ) : (o.okk f).okk k = o.okk fun a M => (f a M).okk k := by cases o <;> rfl
/-- the reading of a comprehension with two clauses -/
theorem lc2_read {G : Gam} {m : Md} {vs vs1 : List Nat} {tg tg1 : Tg} {ci ci1 : I} {t t1 : To} {c : E} {Q : VK} (hv : ∀ i ∈ tg.slots, i ∈ vs) (hv1 : ∀ i ∈ tg1.slots, i ∈ vs1) (h : tE K cl G W (.lc2 m vs vs1 tg ci t tg1 ci1 t1 c) σ H Q) :
    tLc2 (tIt K cl G W ci) (gT K tg) (tTo K cl G Wno t) (tIt K cl G Wno ci1) (gT K tg1) (tTo K cl G Wno t1) (tE K cl G Wno c) vs vs1 σ H Q := by
  obtain ⟨n, F, π, M, ρ, st, h⟩ := h
  simp only [ev] at h
  refine ⟨n, F, π, M, ρ, st, ?_⟩
  cases ei : evI G n ρ M ci with
  | bad => rw [ei] at h; exact h.elim
  | exc e M' => rw [ei] at h; exact h
  | ok ig M1 =>
    rw [ei] at h
    simp only [Out.bind_ok] at h
    obtain ⟨items, g⟩ := ig
    intro F1 π1 H1 J nx hsz hw D hD
    have r1 := nx.rel
    have h := RV.trans st.rel nx h
    have hn1 := (st.next nx).le
    dsimp only at h hw hsz
    generalize hf : stepC2 ρ vs vs1 tg tg1 (fun ρ M => evoT G n ρ M t) (fun ρ M => evI G n ρ M ci1) (fun ρ M => evoT G n ρ M t1) (fun ρ M => ev G n ρ M c) = f at h
    have h : RV K cl n F1 π1 M1 H1 ((foldC2 g f items [] M1).okk fun vs M => mkL m vs M) Q (atW W σ) := by
      have hx : ∀ (items : List Itm) (acc : List Val) (M : Mem) (e : Exc) (M' : Mem), foldC2 g f items acc M ≠ .exc e M' := by
        intro items
        induction items with
        | nil => intro acc M e M' q; cases q
        | cons x r ih =>
          intro acc M e M' q
          rw [foldC2_cons] at q
          cases e1 : f x acc M with
          | bad => rw [e1] at q; cases q
          | exc e2 M2 => rw [e1] at q; cases q
          | ok a M2 =>
            rw [e1] at q
            simp only [Out.okk_ok] at q
            cases g with
            | none => exact ih _ _ _ _ q
            | some j =>
              unfold guard at q
              dsimp only at q
              split at q
              · exact ih _ _ _ _ q
              · cases q
      cases e1 : foldC2 g f items [] M1 with
      | bad => rw [e1] at h; exact h.elim
      | exc e M' => exact absurd e1 (hx _ _ _ _ _)
      | ok a M' => rw [e1] at h; exact h
    refine ⟨fun i k H => k = items.length - i ∧ i ≤ items.length ∧ ∃ F2 π2 M2 accV acc, Nxt K cl n F1 π1 M1 H1 F2 π2 M2 H ∧ Priv F2 π2 M2 D ∧ H D = some (.lst acc) ∧ IsVs K cl F2 π2 acc accV ∧ Kept g M1 M2 ∧
      RV K cl n F1 π1 M1 H1 ((foldC2 g f (items.drop i) accV M2).okk fun vs M => mkL m vs M) Q (atW W σ), ⟨items.length, rfl, Nat.zero_le _, F1, π1, M1, [], [], ?_, ?_, upd_same, .nil, ?_, by simpa using h⟩, ?_⟩
    · exact Nxt.privUpd _ (Nxt.refl r1) ⟨hsub_none r1.sub hD, r1.nlive hD⟩ hD
    · exact ⟨hsub_none r1.sub hD, r1.nlive hD⟩
    · cases g <;> first | trivial | rfl
    · rintro i k H2 ⟨rfl, hi, F2, π2, M2, accV, acc, nx2, pv, hDl, hacc, kp, hr⟩
      have r2 := nx2.rel
      have hn2 : n ≤ M2.length := Nat.le_trans hn1 (nx2.le r1)
      obtain ⟨stop, go⟩ := hw n F2 π2 M2 H2 r2 hn2 nx2.fsub nx2.pre kp i
      by_cases hlt : i < items.length
      · obtain ⟨v, hvi⟩ : ∃ v, items[i]? = some v := ⟨_, List.getElem?_eq_getElem hlt⟩
        obtain ⟨hgo, hy⟩ := go v hvi
        have hdrop : items.drop i = v :: items.drop (i + 1) := by
          rw [List.drop_eq_getElem_cons hlt]
          have : items[i] = v := by
            rw [List.getElem?_eq_getElem hlt] at hvi; exact Option.some.inj hvi
          rw [this]
        rw [hdrop, foldC2_cons] at hr
        have hs : f v accV M2 = (match asg tg v (wipeS ρ vs) with
          | some ρ' => (evoT G n ρ' M2 t).okk fun b M => if b then (evI G n ρ' M ci1).okk fun ig M => if accV.length + ig.1.length ≤ lim then foldC ig.2 (stepC ρ' vs1 tg1 (fun ρ M => evoT G n ρ M t1) (fun ρ M => ev G n ρ M c)) ig.1 accV M else .bad else .ok accV M
          | none => .bad) := by rw [← hf]; rfl
        rw [hs] at hr
        refine .inr ⟨hgo, fun H' => (∃ k', k' = items.length - (i + 1) ∧ i + 1 ≤ items.length ∧ ∃ F2 π2 M2 accV acc, Nxt K cl n F1 π1 M1 H1 F2 π2 M2 H' ∧ Priv F2 π2 M2 D ∧ H' D = some (.lst acc) ∧ IsVs K cl F2 π2 acc accV ∧ Kept g M1 M2 ∧
      RV K cl n F1 π1 M1 H1 ((foldC2 g f (items.drop (i + 1)) accV M2).okk fun vs M => mkL m vs M) Q (atW W σ)), fun H' hh => ?_, fun x H' hx => ?_⟩
        · obtain ⟨k', hk', rest⟩ := hh
          exact ⟨k', by omega, hk', rest⟩
        · obtain ⟨F3, nx3, hxv⟩ := hy x H' hx
          cases ea : asg tg v (wipeS ρ vs) with
          | none => rw [ea] at hr; exact hr.elim
          | some ρ' =>
            rw [ea] at hr
            dsimp only at hr
            have r3 := nx3.rel
            have nx13 := Nxt.trans r1 nx2 nx3
            have pv3 := Priv.next nx3 pv ⟨_, hDl⟩ r2
            have hD3 : H' D = some (.lst acc) := nx3.fr D _ hDl pv.2
            have sl : Slt K cl F3 π2 (L2.wipe σ vs) (wipeS ρ vs) := ((st.sl.mono (nx.fsub) nx.pre).mono nx13.fsub nx13.pre).wipe vs
            refine gT_ok r3 ea sl hxv fun σ2 s2 hw2 => ⟨?_, ?_⟩
            · rw [hw2 vs hv]
              apply List.ext_getElem?
              intro j
              rw [wipe_get, wipe_get, wipe_length]
              by_cases hj : j ∈ vs
              · rw [if_pos hj, if_pos hj]
              · rw [if_neg hj, if_neg hj]
            · refine ⟨n, F3, π2, M2, ρ', ⟨r3, hn2, s2⟩, ?_⟩
              dsimp only
              cases et : evoT G n ρ' M2 t with
              | bad => rw [et] at hr; exact hr.elim
              | exc e M' => rw [et] at hr; exact hr.elim
              | ok b M3 =>
                rw [et] at hr
                simp only [Out.okk_ok] at hr
                intro F4 π4 H4 nx4
                have r4 := nx4.rel
                have nx14 := Nxt.trans r1 nx13 nx4
                have pv4 := Priv.next nx4 pv3 ⟨_, hD3⟩ r3
                have hD4 : H4 D = some (.lst acc) := nx4.fr D _ hD3 pv3.2
                cases b with
                | false =>
                  simp only [Bool.false_eq_true, if_false, Out.okk_ok] at hr ⊢
                  obtain ⟨kg, hr⟩ := guard_rv2 hr
                  exact ⟨_, rfl, hlt, F4, π4, M3, accV, acc, nx14, pv4, hD4, hacc.mono (nx3.fsub.trans nx4.fsub) nx4.pre, kp.trans kg, hr⟩
                | true =>
                  simp only [if_true] at hr ⊢
                  refine ⟨n, F4, π4, M3, ρ', ⟨r4, Nat.le_trans hn2 (nx4.le r3), s2.mono nx4.fsub nx4.pre⟩, ?_⟩
                  cases e1 : evI G n ρ' M3 ci1 with
                  | bad => rw [e1] at hr; exact hr.elim
                  | exc e M' => rw [e1] at hr; exact hr.elim
                  | ok ig1 M5 =>
                    rw [e1] at hr
                    simp only [Out.okk_ok] at hr
                    intro F5 π5 H5 J1 nx5 hsz1 hw1
                    have r5 := nx5.rel
                    have nx15 := Nxt.trans r1 nx14 nx5
                    have pv5 := Priv.next nx5 pv4 ⟨_, hD4⟩ r4
                    have hD5 : H5 D = some (.lst acc) := nx5.fr D _ hD4 pv4.2
                    have hacc5 : IsVs K cl F5 π5 acc accV := (hacc.mono (nx3.fsub.trans nx4.fsub) nx4.pre).mono nx5.fsub nx5.pre
                    split at hr
                    · rename_i hlim
                      rw [okk_okk] at hr
                      have hlV : acc.length = accV.length := hacc.length
                      refine fold_rd hv1 r1 hn1 hD hw1 ((s2.mono nx4.fsub nx4.pre).mono nx5.fsub nx5.pre) nx15 pv5 hD5 hacc5 (by rw [hlV]; exact hlim) hr fun F6 π6 M6 H6 acc6 accV6 nx6 pv6 hD6 ha6 hr6 => ?_
                      obtain ⟨kg, hr6⟩ := guard_rv2 hr6
                      exact ⟨_, rfl, hlt, F6, π6, M6, accV6, acc6, nx6, pv6, hD6, ha6, kp.trans kg, hr6⟩
                    · exact hr.elim
      · have e : i = items.length := by omega
        subst e
        refine .inl ⟨stop (Nat.le_refl _), ?_⟩
        rw [List.drop_length] at hr
        simp only [foldC2, Out.okk_ok] at hr
        cases m with
        | v =>
          simp only [mkL] at hr
          cases ed : allD accV with
          | none => rw [ed] at hr; exact hr.elim
          | some ds =>
            rw [ed] at hr
            refine hr _ _ _ _ (Nxt.privF nx2 pv hD hDl) ?_
            simp only [IsV, IsD]
            exact ⟨D, acc, rfl, .inl (.inl upd_same), IsDs.sub (hsub_upd pv.1) _ _ (isDs_of_V hacc ed)⟩
        | c =>
          refine hr _ _ _ _ (Nxt.privC r1 nx2 hn1 pv hD ⟨acc, hDl, hacc.mono (.refl _) ⟨[D], rfl⟩⟩ rfl) ⟨D, ?_, rfl⟩
          rw [← r2.len, List.getElem?_append_right (Nat.le_refl _), Nat.sub_self]; rfl
end
end Fk

/-! FkSnd: what the checker passes is read rightly. -/
namespace Fk
open PySem PySem.Spec PyProof.Rows L2
section
variable {X : Cx} {cl : Cl} {G : Gam} {tb : Tab} {N : List Str} {lv : Nat} {W : WX} {b : Bl} {r : J → Bool}
theorem isVis_ok {sc : Scope} {x : Str} (h : isVis sc x = true) : Vis sc x := by
  unfold isVis at h
  split at h
  · rename_i e; exact .inl e
  · rename_i e; exact .inr (.inl e)
  · rename_i e; exact .inr (.inr e)
  · cases h
theorem okNm_ok {x : Str} (h : okNm x = true) : (x == ("__debug__" : Str)) = false ∧ (x == ("__classdict__" : Str)) = false ∧ x ≠ ("__name__" : Str) := by
  simp only [okNm, Bool.and_eq_true, Bool.not_eq_true', decide_eq_false_iff_not] at h
  exact ⟨h.1.1, h.1.2, h.2⟩
theorem gl_ok (g : Good cl G tb N lv X W b) {x : Str} (h : isGl b.sc x = true) : Gl X x ∧ (x == ("__debug__" : Str)) = false ∧ x ≠ ("__name__" : Str) := by
  unfold isGl at h
  obtain ⟨h1, h2⟩ := Bool.and_eq_true_iff.mp h
  obtain ⟨q1, q2, q3⟩ := okNm_ok h2
  refine ⟨?_, q1, q3⟩
  split at h1
  · rename_i e
    show X.env.scope.names.lookup x = _
    rw [g.sc]; exact e
  · cases h1
theorem isTg_ok (g : Good cl G tb N lv X W b) {x : Str} (h : isTg b x = true) : Loc X.env.scope x ∧ (X.fn x = true ∨ X.env.scope.names.lookup x = some .local) := by
  unfold isTg at h
  split at h
  · rename_i e
    have e' : X.env.scope.names.lookup x = some .local := by rw [g.sc]; exact e
    exact ⟨.inl e', .inr e'⟩
  · rename_i e
    have e' : X.env.scope.names.lookup x = some .cell := by rw [g.sc]; exact e
    have hf := g.fn
    refine ⟨.inr e', .inl ?_⟩
    cases ho : b.oc with
    | none => rw [ho] at hf; exact hf x
    | some o =>
      rw [ho] at hf h
      rw [hf x]
      dsimp only at h
      split at h
      · rename_i e2; rw [e2]; rfl
      · cases h
  · cases h
theorem nst_ok {e : Expr} (h : nst e = true) (rest : List Expr) (env : Env) : starEach (e :: rest) env = (false, eval e env) :: starEach rest env := by
  cases e <;> first | rfl | cases h
theorem nsts_ok {xs : List Expr} (h : xs.all nst = true) (pos : Pos) (env : Env) : (backTo pos (starEach xs env)).any (·.1) = false := by
  induction xs with
  | nil => rfl
  | cons x xs ih =>
    simp only [List.all_cons, Bool.and_eq_true] at h
    rw [nst_ok h.1]
    have := ih h.2
    simpa [backTo] using this
theorem ncomp_ok {e : Expr} (h : ncomp e = true) (tg : Option Expr) (l : Nat) (env : Env) : swapsWith e tg l env = pure false := by
  cases e <;> first | rfl | cases h
theorem nset_fold {e : Expr} (h : nset e = true) (env : Env) (x : Value) : foldedSetIterable e env x = pure x := by
  cases e <;> first | rfl | cases h
theorem nset_mark {e : Expr} (h : nset e = true) (op : CmpOp) : behindInMarks op e = false := by
  cases e <;> first | rfl | cases h
theorem plainT_ok {e : Expr} (h : plainT e = true) (env : Env) (whole : Sem Value) : isTrue e env whole = (do let v ← whole; standAt e.pos; holding [v] (truthy v)) := by
  cases e <;> first | rfl | cases h
theorem nslice_ok {e : Expr} (h : nslice e = true) : PlainIx e := by
  intro o i
  cases e <;> first | rfl | cases h
theorem nsup_ok {e : Expr} (h : nsup e = true) (a : Str) (env : Env) (whole : Sem Value) : attributeBase e a env whole = whole := by
  cases e <;> first | rfl | skip
  rename_i f args kws pos
  cases args with
  | nil => cases h
  | cons x r => cases f <;> rfl
theorem fn_ok' (g : Good cl G tb N lv X W b) {x : Str} {f : Nat} {dv : List D} (h : isFn tb x f dv = true) : ∃ i, G.fn f = some i ∧ FnFact X cl lv x dv i := by
  unfold isFn at h
  obtain ⟨e, he, hq⟩ := List.any_eq_true.mp h
  simp only [Bool.and_eq_true, decide_eq_true_eq] at hq
  obtain ⟨⟨h1, h2⟩, h3⟩ := hq
  have h3 := deqs_ok h3
  subst h1 h2 h3
  exact g.fns e he
theorem free_ok (g : Good cl G tb N lv X W b) {x : Str} (h : isFree tb x = true) : X.mg x = none := by
  unfold isFree at h
  obtain ⟨e, he, hq⟩ := List.any_eq_true.mp h
  simp only [decide_eq_true_eq] at hq
  subst hq
  exact g.free e he
theorem Good.hu (g : Good cl G tb N lv X W b) : X.A.units + 65 < cLine := by
  have := g.rm.room.un
  omega
theorem Good.hu70 (g : Good cl G tb N lv X W b) : X.A.units + 70 < cLine := by
  have := g.rm.room.un
  omega
theorem evs_len {G : Gam} {n : Nat} {ρ : Slots} : ∀ {es : Es} {M M' : Mem} {vs : List Val}, evs G n ρ M es = .ok vs M' → vs.length = es.len
  | .nil, M, M', vs, h => by
    simp only [evs] at h; cases h; rfl
  | .cons e es, M, M', vs, h => by
    simp only [evs] at h
    cases e1 : ev G n ρ M e with
    | bad => rw [e1] at h; cases h
    | exc _ _ => rw [e1] at h; cases h
    | ok v M1 =>
      rw [e1] at h
      simp only [Out.bind_ok] at h
      cases e2 : evs G n ρ M1 es with
      | bad => rw [e2] at h; cases h
      | exc _ _ => rw [e2] at h; cases h
      | ok ws M2 =>
        rw [e2] at h
        simp only [Out.bind_ok] at h
        cases h
        simp only [List.length_cons, Es.len, evs_len e2]
theorem sz1000 {n : Nat} (h : n ≤ 1000) : n ≤ sizeLine := by
  rw [sizeLine_eq]; omega
/-! ### targets -/
theorem chTs_ok (g : Good cl G tb N lv X W b) : ∀ {is : List Nat} {xs : List Expr}, chTs N b is xs = true → PGs X xs (gNames is) ∧ (assignEach xs X.env).length = is.length ∧ (assignEach xs X.env).findIdx? (·.1) = none
  | [], [], _ => ⟨pgs_nil, rfl, rfl⟩
  | [], _ :: _, h => by cases h
  | _ :: _, [], h => by cases h
  | i :: is, x :: xs, h => by
    cases x <;> first | (cases h; done) | skip
    rename_i y p
    simp only [chTs, Bool.and_eq_true, decide_eq_true_eq] at h
    obtain ⟨⟨h1, h2⟩, h3⟩ := h
    obtain ⟨t1, t2⟩ := isTg_ok g h2
    obtain ⟨q1, q2, q3⟩ := chTs_ok g h3
    refine ⟨pgs_cons (pg_name (by rw [g.hN]; exact g.nd) (by rw [g.hN]; exact h1) t1 t2) q1 rfl, ?_, ?_⟩
    · show (assignEach xs X.env).length + 1 = _
      rw [q2]; rfl
    · show List.findIdx? (·.1) ((false, _) :: assignEach xs X.env) = none
      rw [List.findIdx?_cons, q3]; rfl
theorem chTg_ok (g : Good cl G tb N lv X W b) {tg : Tg} {x : Expr} (h : chTg N b tg x = true) : PG X x (gT X.K tg) := by
  cases tg with
  | one i =>
    cases x <;> first | (cases h; done) | skip
    simp only [chTg, Bool.and_eq_true, decide_eq_true_eq] at h
    obtain ⟨t1, t2⟩ := isTg_ok g h.2
    exact pg_name (by rw [g.hN]; exact g.nd) (by rw [g.hN]; exact h.1) t1 t2
  | tup is =>
    cases x <;> first | (cases h; done) | skip
    simp only [chTg] at h
    obtain ⟨q1, q2, q3⟩ := chTs_ok g h
    exact pg_tup g.calm q1 q2 q3
/-! ### blocks -/
theorem Good.blk (g : Good cl G tb N lv X W b) (s : Shared) (H : Hp) (scope : Scope) (C : Addr) (ce : List (Str × Addr)) (fp : List Addr) : Good cl G tb N lv (X.blk s H scope (compEnvC scope ce C X.env) fp) Wno ⟨relS scope b.sc, some scope⟩ where
  calm := g.calm
  wp := ⟨g.wp.p, g.wp.w⟩
  hN := g.hN
  nd := g.nd
  sc := by rw [← g.sc]; rfl
  fn := fun _ => rfl
  rm := g.rm
  tk := takes0
  pas := PassesOwn.never
  fns := fun e he => let ⟨i, h1, h2⟩ := g.fns e he; ⟨i, h1, ⟨h2.ex⟩⟩
  cons := g.cons
  free := g.free
  exs := g.exs
  clss := g.clss
  top := fun h => nomatch h
/-- the body of a try -/
theorem Good.tr (g : Good cl G tb N lv X W b) (pn : List (Addr × Obj)) (xe : Value → Shared → Prop) (W' : WX) (tk : Takes (X.tr pn xe) W') (pas : PassesOwn (model X.prog X.w) X.A X.env xe) : Good cl G tb N lv (X.tr pn xe) W' b where
  calm := g.calm
  wp := ⟨g.wp.p, g.wp.w⟩
  hN := g.hN
  nd := g.nd
  sc := g.sc
  fn := g.fn
  rm := g.rm
  tk := tk
  pas := pas
  fns := fun e he => let ⟨i, h1, h2⟩ := g.fns e he; ⟨i, h1, ⟨h2.ex⟩⟩
  cons := g.cons
  free := g.free
  exs := g.exs
  clss := g.clss
  top := g.top
theorem loc_ok (g : Good cl G tb N lv X W b) {x : Str} (h : isLoc b x = true) : X.env.kindOf x = some .local := by
  unfold isLoc at h
  show X.env.scope.names.lookup x = _
  rw [g.sc]
  split at h
  · assumption
  · cases h
/-! ### expressions -/
theorem blt_any (g : Good cl G tb N lv X W b) {bt : Bt} {m : Md} {y : Str} {e : Expr} {es : List Expr} {cs : Es} {p pos : Pos} (ho : bltOk bt = true) (hy : y = bt.nm) (hm : X.mg y = none) (hg : Gl X y) (ha : PA X (e :: es) (tEs X.K cl G W cs)) (hn : y ≠ "__name__") (hdb : (y == ("__debug__" : Str)) = false)
    (he : starEach (e :: es) X.env = (false, eval e X.env) :: starEach es X.env) (hpl : (backTo pos (starEach es X.env)).any (·.1) = false) : PE X (.Call (.Name y p) (e :: es) [] pos) (tE X.K cl G W (.blt bt m cs)) := by
  subst hy
  cases bt <;> first | (cases ho; done) | skip
  · exact fk_bltB (blt_len) hg hm boot_len ha hn hdb he hpl
  · exact fk_bltT (blt_int) hg hm (by decide +kernel) ha hn hdb he hpl
  · exact fk_bltT (blt_list) hg hm (by decide +kernel) ha hn hdb he hpl
  · exact fk_bltT (blt_tuple g.calm) hg hm (by decide +kernel) ha hn hdb he hpl
  · exact fk_bltB (blt_all g.calm) hg hm (by decide +kernel) ha hn hdb he hpl
  · exact fk_bltB (blt_sum g.calm) hg hm (by decide +kernel) ha hn hdb he hpl
  · exact fk_bltB (blt_max1 g.calm) hg hm (by decide +kernel) ha hn hdb he hpl
  · exact fk_bltB (blt_min1 g.calm) hg hm (by decide +kernel) ha hn hdb he hpl
  · exact fk_bltB (blt_max2 g.calm) hg hm (by decide +kernel) ha hn hdb he hpl
  · exact fk_bltB (blt_min2 g.calm) hg hm (by decide +kernel) ha hn hdb he hpl
  · exact fk_bltB (blt_repr g.rm.gd g.hu70) hg hm (by decide +kernel) ha hn hdb he hpl
  · exact fk_bltT (blt_str g.rm.gd g.hu70) hg hm (by decide +kernel) ha hn hdb he hpl
theorem bm_any (g : Good cl G tb N lv X W b) {bb : Bm} (ho : bmOk bb = true) : BmFact X cl bb := by
  cases bb <;> first | (cases ho; done) | skip
  · exact bm_append
  · exact bm_index g.hu
  · exact bm_insert
  · exact bm_pop0
  · exact bm_pop1
  · exact bm_clear
  · exact bm_reverse
  · exact bm_count g.hu
  · exact bm_get1 g.hu g.wp
  · exact bm_get2 g.hu g.wp
  · exact bm_split
  · exact bm_join
  · exact bm_upper
theorem boot_ty {t : Ty} (h : t.plain = true) : bootBuiltins (t.nm : Str) = some (.type t.nm) := by
  cases t <;> first | (cases h; done) | decide +kernel
theorem boot_VE : bootBuiltins ("ValueError" : Str) = some (.type "ValueError") := by decide +kernel
theorem nstsl {xs : List Expr} (h : xs.all nst = true) (pos : Pos) (env : Env) : (backTo pos (starEach xs env)).all (fun x => !x.1) = true := by
  induction xs with
  | nil => rfl
  | cons x xs ih =>
    simp only [List.all_cons, Bool.and_eq_true] at h
    rw [nst_ok h.1]
    have := ih h.2
    simpa [backTo] using this
theorem nil_only {σ : L2.St} {H : Hp} {P : List V → Hp → Prop} (h : tEs X.K cl G W .nil σ H P) : P [] H := by
  obtain ⟨n, F, π, M, ρ, st, h⟩ := h
  simp only [evs] at h
  exact h F π H [] (Nxt.refl st.rel) .nil
theorem snd_lc (hr : ∀ j, r j = true → Snd cl G tb N lv j) {vs : List Nat} {tg : Tg} {it : I} {t : To} {c : E} {x : Expr} (h : chLc N r b vs tg it t c x = true) (g : Good cl G tb N lv X W b) :
    ∃ elt gx iter ifs scope pos, x = .ListComp elt [⟨gx, iter, ifs, 0⟩] scope pos ∧ BlkOk X.N X.env.scope scope (vs.map fun i => (N.getD i (default : Str), i)) ∧ (∀ y, foldedSetIterable iter X.env y = pure y) ∧ (∀ i ∈ tg.slots, i ∈ vs) ∧ PI X gx iter (tIt X.K cl G W it) ∧
      ∀ (s : Shared) (H : Hp) (C : Addr) (ce : List (Str × Addr)) (fp : List Addr), PG (X.blk s H scope (compEnvC scope ce C X.env) fp) gx (gT X.K tg) ∧ PTs (X.blk s H scope (compEnvC scope ce C X.env) fp) ifs (tTo X.K cl G Wno t) ∧ PE (X.blk s H scope (compEnvC scope ce C X.env) fp) elt (tE X.K cl G Wno c) := by
  unfold chLc at h
  split at h
  · rename_i elt gx iter ifs scope pos
    simp only [Bool.and_eq_true, List.all_eq_true, decide_eq_true_eq] at h
    obtain ⟨⟨⟨⟨⟨⟨h1, h2⟩, h3⟩, h4⟩, h5⟩, h6⟩, h7⟩ := h
    refine ⟨elt, gx, iter, ifs, scope, pos, rfl, by rw [g.hN, g.sc]; exact blkOk_by h1, fun y => nset_fold h2 _ _, h3, hr _ h5 X W g, fun s H C ce fp => ?_⟩
    have gb := g.blk s H scope C ce fp
    exact ⟨chTg_ok gb h4, hr _ h6 _ _ gb, hr _ h7 _ _ gb⟩
  · cases h
theorem snd_lc2 (hr : ∀ j, r j = true → Snd cl G tb N lv j) {vs vs1 : List Nat} {tg tg1 : Tg} {it it1 : I} {t t1 : To} {c : E} {x : Expr} (h : chLc2 N r b vs vs1 tg it t tg1 it1 t1 c x = true) (g : Good cl G tb N lv X W b) :
    ∃ elt gx iter ifs gx1 iter1 ifs1 scope pos, x = .ListComp elt [⟨gx, iter, ifs, 0⟩, ⟨gx1, iter1, ifs1, 0⟩] scope pos ∧ BlkOk X.N X.env.scope scope (vs.map fun i => (N.getD i (default : Str), i)) ∧ (∀ y, foldedSetIterable iter X.env y = pure y) ∧ (∀ env y, foldedSetIterable iter1 env y = pure y) ∧ (∀ i ∈ tg.slots, i ∈ vs) ∧ (∀ i ∈ tg1.slots, i ∈ vs1) ∧ (∀ i ∈ vs1, i ∈ vs) ∧ PI X gx iter (tIt X.K cl G W it) ∧
      ∀ (s : Shared) (H : Hp) (C : Addr) (ce : List (Str × Addr)) (fp : List Addr), PG (X.blk s H scope (compEnvC scope ce C X.env) fp) gx (gT X.K tg) ∧ PTs (X.blk s H scope (compEnvC scope ce C X.env) fp) ifs (tTo X.K cl G Wno t) ∧ PI (X.blk s H scope (compEnvC scope ce C X.env) fp) gx1 iter1 (tIt X.K cl G Wno it1) ∧
        PG (X.blk s H scope (compEnvC scope ce C X.env) fp) gx1 (gT X.K tg1) ∧ PTs (X.blk s H scope (compEnvC scope ce C X.env) fp) ifs1 (tTo X.K cl G Wno t1) ∧ PE (X.blk s H scope (compEnvC scope ce C X.env) fp) elt (tE X.K cl G Wno c) := by
  unfold chLc2 at h
  split at h
  · rename_i elt gx iter ifs gx1 iter1 ifs1 scope pos
    simp only [Bool.and_eq_true, List.all_eq_true, decide_eq_true_eq] at h
    obtain ⟨⟨⟨⟨⟨⟨⟨⟨⟨⟨⟨⟨h1, h2⟩, h2'⟩, h3⟩, h3'⟩, h3''⟩, h4⟩, h4'⟩, h5⟩, h6⟩, h5'⟩, h6'⟩, h7⟩ := h
    refine ⟨elt, gx, iter, ifs, gx1, iter1, ifs1, scope, pos, rfl, by rw [g.hN, g.sc]; exact blkOk_by h1, fun y => nset_fold h2 _ _, fun env y => nset_fold h2' _ _, h3, h3', h3'', hr _ h5 X W g, fun s H C ce fp => ?_⟩
    have gb := g.blk s H scope C ce fp
    exact ⟨chTg_ok gb h4, hr _ h6 _ _ gb, hr _ h5' _ _ gb, chTg_ok gb h4', hr _ h6' _ _ gb, hr _ h7 _ _ gb⟩
  · cases h
theorem own_vs (vs : List Nat) : (vs.map fun i => (N.getD i (default : Str), i)).map (·.2) = vs := by
  rw [List.map_map]
  exact (List.map_congr_left fun _ _ => rfl).trans (List.map_id _)
theorem snd_set (hr : ∀ j, r j = true → Snd cl G tb N lv j) {o : String} {es : Es} {x : Expr} (h : chSet tb r b o es x = true) (g : Good cl G tb N lv X W b) :
    ∃ (z : Str) (w : Expr) (c : E) (p p2 q pos : Pos), x = .Call (.Name (o : Str) p) [.Call (.Name "set" p2) [w] [] q] [] pos ∧ es = .cons c .nil ∧ Gl X (o : Str) ∧ Gl X "set" ∧ X.mg (o : Str) = none ∧ X.mg "set" = none ∧ PE X w (tE X.K cl G W c) ∧ starEach [w] X.env = (false, eval w X.env) :: starEach [] X.env := by
  unfold chSet at h
  split at h
  · rename_i y p z p2 w q pos
    simp only [Bool.and_eq_true, decide_eq_true_eq] at h
    obtain ⟨⟨⟨⟨⟨⟨⟨rfl, rfl⟩, h3⟩, h4⟩, h5⟩, h6⟩, h7⟩, h8⟩ := h
    split at h8
    · rename_i c
      exact ⟨o, w, c, p, p2, q, pos, rfl, rfl, (gl_ok g h5).1, (gl_ok g h6).1, free_ok g h3, free_ok g h4, hr _ h8 X W g, nst_ok h7 _ _⟩
    · cases h8
  · cases h
theorem snd_e (hr : ∀ j, r j = true → Snd cl G tb N lv j) {c : E} {x : Expr} (h : chE tb N r b c x = true) (g : Good cl G tb N lv X W b) : PE X x (tE X.K cl G W c) := by
  cases c with
  | var i =>
    cases x <;> first | (cases h; done) | skip
    simp only [chE, Bool.and_eq_true, decide_eq_true_eq] at h
    obtain ⟨⟨h1, h2⟩, h3⟩ := h
    obtain ⟨q1, q2, q3⟩ := okNm_ok h3
    exact fk_var (by rw [g.hN]; exact h1) (by rw [g.sc]; exact isVis_ok h2) q1 q2
  | con z d =>
    cases x <;> first | (cases h; done) | skip
    rename_i y p
    simp only [chE, Bool.and_eq_true, decide_eq_true_eq] at h
    obtain ⟨⟨rfl, h2⟩, h3⟩ := h
    obtain ⟨e, he, hq⟩ := List.any_eq_true.mp h3
    simp only [Bool.and_eq_true, decide_eq_true_eq] at hq
    obtain ⟨q1, q2⟩ := hq
    have q2 := deq_ok q2
    obtain ⟨g1, g2, g3⟩ := gl_ok g h2
    obtain ⟨v, u, m1, m2, m3⟩ := g.cons e he
    rw [q1] at m1
    rw [q2] at m3
    exact fk_con g1 m1 m2 m3 g2
  | lit d =>
    cases x <;> first | (cases h; done) | skip
    exact fk_const h
  | tup es =>
    cases x <;> first | (cases h; done) | skip
    simp only [chE, Bool.and_eq_true, decide_eq_true_eq] at h
    obtain ⟨⟨h1, h2⟩, h3⟩ := h
    exact fk_tup (sz1000 h1) (hr _ h3 X W g) fun n ρ M vs M' q => (evs_len q).trans h2
  | lst m es =>
    cases x <;> first | (cases h; done) | skip
    simp only [chE, Bool.and_eq_true, decide_eq_true_eq] at h
    obtain ⟨⟨h1, h2⟩, h3⟩ := h
    exact fk_lst (sz1000 h1) (hr _ h3 X W g) fun n ρ M vs M' q => (evs_len q).trans h2
  | bin o m a1 b1 =>
    cases x <;> first | (cases h; done) | skip
    simp only [chE, Bool.and_eq_true, decide_eq_true_eq] at h
    obtain ⟨⟨rfl, h2⟩, h3⟩ := h
    exact fk_bin (hr _ h2 X W g) (hr _ h3 X W g)
  | neg a =>
    cases x <;> first | (cases h; done) | skip
    rename_i op y p
    cases op <;> first | (cases h; done) | skip
    exact fk_neg (hr _ h X W g)
  | cmp o a1 b1 =>
    simp only [chE] at h
    split at h
    · simp only [Bool.and_eq_true, decide_eq_true_eq] at h
      obtain ⟨⟨⟨rfl, h2⟩, h3⟩, h4⟩ := h
      exact fk_cmp g.hu g.wp (hr _ h3 X W g) (hr _ h4 X W g) (nset_mark h2 _)
    · cases h
  | and a1 b1 =>
    simp only [chE] at h
    split at h
    · simp only [Bool.and_eq_true] at h
      exact fk_and (hr _ h.1 X W g) (hr _ h.2 X W g)
    · cases h
  | or a1 b1 =>
    simp only [chE] at h
    split at h
    · simp only [Bool.and_eq_true] at h
      exact fk_or (hr _ h.1 X W g) (hr _ h.2 X W g)
    · cases h
  | not a =>
    cases x <;> first | (cases h; done) | skip
    rename_i op y p
    cases op <;> first | (cases h; done) | skip
    exact fk_not (hr _ h X W g)
  | ite t a1 b1 =>
    cases x <;> first | (cases h; done) | skip
    simp only [chE, Bool.and_eq_true] at h
    exact fk_ite (hr _ h.1.1 X W g) (hr _ h.1.2 X W g) (hr _ h.2 X W g)
  | idx a1 b1 =>
    cases x <;> first | (cases h; done) | skip
    simp only [chE, Bool.and_eq_true] at h
    exact fk_idx g.hu g.wp (hr _ h.1.2 X W g) (hr _ h.2 X W g) (nslice_ok h.1.1)
  | slc m a lo hi =>
    simp only [chE] at h
    split at h
    · simp only [Bool.and_eq_true] at h
      exact fk_slc (hr _ h.1.1 X W g) (hr _ h.1.2 X W g) (hr _ h.2 X W g)
    · cases h
  | call f dv es =>
    simp only [chE] at h
    split at h
    · rename_i y p xs pos
      simp only [Bool.and_eq_true, decide_eq_true_eq] at h
      obtain ⟨⟨⟨⟨h1, h2⟩, h3⟩, h5⟩, h4⟩ := h
      obtain ⟨i, g1, g2⟩ := fn_ok' g h1
      obtain ⟨q1, q2, q3⟩ := gl_ok g h2
      have ha := hr _ h4 X W g
      cases xs with
      | nil =>
        cases es with
        | nil => exact fk_call0 g1 g2 g.rm g.tk q1 q2
        | cons e es => cases h5
      | cons x0 xs =>
        simp only [List.all_cons, Bool.and_eq_true] at h3
        exact fk_call g1 g2 g.rm g.tk q1 q2 ha (nst_ok h3.1 _ _) (nsts_ok h3.2 _ _)
    · cases h
  | callB f dv es =>
    simp only [chE] at h
    split at h
    · rename_i y p xs pos
      simp only [Bool.and_eq_true] at h
      obtain ⟨⟨⟨⟨h1, h2⟩, h3⟩, h5⟩, h4⟩ := h
      obtain ⟨i, g1, g2⟩ := fn_ok' g h1
      obtain ⟨q1, q2, q3⟩ := gl_ok g h2
      have ha := hr _ h4 X W g
      cases xs with
      | nil => cases h5
      | cons x0 xs =>
        simp only [List.all_cons, Bool.and_eq_true] at h3
        exact fk_callB g1 g2 g.rm g.tk q1 q2 ha (nst_ok h3.1 _ _) (nsts_ok h3.2 _ _)
    · cases h
  | blt bt m es =>
   have old : chBlt tb r b bt es x = true → PE X x (tE X.K cl G W (.blt bt m es)) := fun h => by
    unfold chBlt at h
    split at h
    · rename_i y p xs pos _
      simp only [Bool.and_eq_true, decide_eq_true_eq] at h
      obtain ⟨⟨⟨⟨⟨⟨h1, h2⟩, h3⟩, h4⟩, h5⟩, h6⟩, h7⟩ := h
      obtain ⟨q1, q2, q3⟩ := gl_ok g h4
      have ha := hr _ h7 X W g
      cases xs with
      | nil => cases h6
      | cons x0 xs =>
        simp only [List.all_cons, Bool.and_eq_true] at h5
        exact blt_any g h1 h2 (free_ok g h3) q1 ha q3 q2 (nst_ok h5.1 _ _) (nsts_ok h5.2 _ _)
    · cases h
   cases bt <;> first | exact old h | skip
   · obtain ⟨z, w, c, p, p2, q, pos, rfl, rfl, g1, g2, m1, m2, hw, na⟩ := snd_set hr h g
     exact fk_lenset g.hu g.calm g1 m1 g2 m2 hw na
   · obtain ⟨z, w, c, p, p2, q, pos, rfl, rfl, g1, g2, m1, m2, hw, na⟩ := snd_set hr h g
     exact fk_sset g.calm g1 m1 g2 m2 hw na
  | bm bb a es =>
    simp only [chE] at h
    split at h
    · rename_i o y ap xs pos
      simp only [Bool.and_eq_true, decide_eq_true_eq] at h
      obtain ⟨⟨⟨⟨⟨⟨⟨⟨h1, rfl⟩, h3⟩, h4⟩, h5⟩, h9⟩, h6⟩, h7⟩, h8⟩ := h
      have ho := hr _ h7 X W g
      have ha := hr _ h8 X W g
      have hb := bm_any g h1
      cases xs with
      | nil =>
        cases es with
        | cons e es => cases h9
        | nil =>
        refine PE.weak (pe_any0 ho (nsup_ok h3 _ _ _) h4) fun σ H Q h => ?_
        obtain ⟨n, F, π, M, ρ, st, hh⟩ := bm_read g.wp hb h
        refine ⟨n, F, π, M, ρ, st, hh.imp fun x H1 q => ?_⟩
        obtain ⟨T, id, m1, m2, m3⟩ := q
        exact ⟨T, id, m1, m2, nil_only m3⟩
      | cons x0 xs =>
        have h6' := h6
        simp only [List.all_cons, Bool.and_eq_true] at h6
        refine PE.weak (pe_anyM ho ha (nsup_ok h3 _ _ _) ?_ h4 (nst_ok h6.1 _ _) (nsts_ok h6.2 _ _)) fun σ H Q h => bm_read g.wp hb h
        rw [nstsl h6']
        simpa [backToKw, keywordEach] using h5
    · cases h
  | isi a ts =>
    simp only [chE] at h
    split at h
    · rename_i t
      split at h
      · simp only [Bool.and_eq_true, decide_eq_true_eq] at h
        obtain ⟨⟨⟨⟨⟨⟨rfl, h4⟩, h6⟩, h7⟩, h8⟩, h9⟩, h10⟩ := h
        obtain ⟨q1, q2, q3⟩ := gl_ok g h6
        obtain ⟨p1, p2, p3⟩ := gl_ok g h7
        split at h10
        · rename_i c
          obtain ⟨cx, hcx, hq⟩ := List.any_eq_true.mp h10
          simp only [Bool.and_eq_true, decide_eq_true_eq] at hq
          obtain ⟨e1, e2⟩ := hq
          obtain ⟨k1, k2⟩ := g.clss cx hcx
          rw [e1, e2] at k1
          rw [e2] at k2
          exact fk_isiX (.inl ⟨c, rfl, k2, rfl⟩) (.own _) q1 rfl (free_ok g h4) (hr _ h9 X W g) (pe_clsName p1 k1 p2) (nst_ok h8 _ _)
        · simp only [Bool.and_eq_true, decide_eq_true_eq] at h10
          obtain ⟨rfl, h5⟩ := h10
          exact fk_isiX (.inr ⟨rfl, rfl⟩) (.ty _) q1 rfl (free_ok g h4) (hr _ h9 X W g) (pe_tyName p1 (free_ok g h5) boot_VE p3 p2) (nst_ok h8 _ _)
        · simp only [Bool.and_eq_true, decide_eq_true_eq] at h10
          obtain ⟨⟨h2, rfl⟩, h5⟩ := h10
          exact fk_isi1 h2 q1 rfl (free_ok g h4) (hr _ h9 X W g) p1 (free_ok g h5) (boot_ty h2) p3 p2 (nst_ok h8 _ _)
      · cases h
    · cases h
  | fld a f => cases h
  | rev m a =>
    simp only [chE] at h
    split at h
    · exact fk_rev (hr _ h X W g)
    · cases h
  | dct =>
    cases x <;> first | (cases h; done) | skip
    rename_i ks vs pos
    cases ks <;> cases vs <;> first | (cases h; done) | skip
    refine PE.weak pe_dnewK fun σ H Q ⟨n, F, π, M, ρ, s, h⟩ => ?_
    simp only [ev] at h
    exact fun p hp => dct_new s.rel s.le h hp
  | lc m vs tg it t c =>
    obtain ⟨elt, gx, iter, ifs, scope, pos, rfl, ok, fo, hv, pi, bl⟩ := snd_lc hr h g
    refine PE.weak (pe_lc g.calm (by rw [g.hN]; exact g.nd) pi ok (fun s H C ce fp => (bl s H C ce fp).1) (fun s H C ce fp => (bl s H C ce fp).2.1) (fun s H C ce fp => (bl s H C ce fp).2.2) fo) fun σ H Q h => ?_
    rw [own_vs]
    exact lc_read hv h
  | lc2 m vs vs1 tg it t tg1 it1 t1 c =>
    obtain ⟨elt, gx, iter, ifs, gx1, iter1, ifs1, scope, pos, rfl, ok, fo, fo1, hv, hv1, hvv, pi, bl⟩ := snd_lc2 hr h g
    refine PE.weak (pe_lc2 (vs1 := vs1) g.calm (by rw [g.hN]; exact g.nd) pi ok (by rw [own_vs]; exact hvv) (fun s H C ce fp => (bl s H C ce fp).1) (fun s H C ce fp => (bl s H C ce fp).2.1) (fun s H C ce fp => (bl s H C ce fp).2.2.1) (fun s H C ce fp => (bl s H C ce fp).2.2.2.1) (fun s H C ce fp => (bl s H C ce fp).2.2.2.2.1) (fun s H C ce fp => (bl s H C ce fp).2.2.2.2.2) fo fo1) fun σ H Q h => ?_
    rw [own_vs]
    exact lc2_read hv hv1 h
theorem snd_e1 (hr : ∀ j, r j = true → Snd cl G tb N lv j) {c : E} {x : Expr} (h : chE1 tb N r b c x = true) (g : Good cl G tb N lv X W b) : PE X x (tE X.K cl G W c) := by
  unfold chE1 at h
  split at h
  · exact fk_one (hr _ h X W g)
  · exact snd_e hr h g
theorem snd_es (hr : ∀ j, r j = true → Snd cl G tb N lv j) {c : Es} {x : List Expr} (h : chEs r b c x = true) (g : Good cl G tb N lv X W b) : PA X x (tEs X.K cl G W c) := by
  cases c with
  | nil =>
    cases x with
    | nil => exact fk_nil
    | cons _ _ => cases h
  | cons e es =>
    cases x with
    | nil => cases h
    | cons y ys =>
      simp only [chEs, Bool.and_eq_true] at h
      exact fk_cons (hr _ h.1.2 X W g) (hr _ h.2 X W g) (nst_ok h.1.1 _ _)
theorem snd_o (hr : ∀ j, r j = true → Snd cl G tb N lv j) {c : Eo} {x : Option Expr} (h : chO r b c x = true) (g : Good cl G tb N lv X W b) : OkO X cl G W c x := by
  cases c with
  | no =>
    cases x with
    | none => trivial
    | some _ => cases h
  | some e =>
    cases x with
    | none => cases h
    | some y => exact hr _ h X W g
theorem snd_w (hr : ∀ j, r j = true → Snd cl G tb N lv j) {c : T} {x : Expr} (h : chW r b c x = true) (g : Good cl G tb N lv X W b) : PW X x (tT X.K cl G W c) := by
  unfold chW at h
  split at h
  · exact fk_tAnd1 (hr _ h X W g)
  · exact fk_tOr1 (hr _ h X W g)
  · split at h
    · simp only [Bool.and_eq_true] at h
      exact fk_tAnd (hr _ h.1 X W g) (hr _ h.2 X W g)
    · cases h
  · split at h
    · simp only [Bool.and_eq_true] at h
      exact fk_tOr (hr _ h.1 X W g) (hr _ h.2 X W g)
    · cases h
  · cases h
theorem snd_t (hr : ∀ j, r j = true → Snd cl G tb N lv j) {c : T} {x : Expr} (h : chT r b c x = true) (g : Good cl G tb N lv X W b) : PT X x (tT X.K cl G W c) := by
  unfold chT at h
  split at h
  · exact (hr _ h X W g).pt
  · split at h
    · exact fk_tNot (hr _ h X W g)
    · cases h
  · split at h
    · simp only [Bool.and_eq_true, decide_eq_true_eq] at h
      obtain ⟨⟨⟨rfl, h2⟩, h3⟩, h4⟩ := h
      exact fk_valC g.hu g.wp (hr _ h3 X W g) (hr _ h4 X W g) (nset_mark h2 _)
    · cases h
  · split at h
    · simp only [Bool.and_eq_true] at h
      exact fk_val (hr _ h.2 X W g) fun w => plainT_ok h.1 _ w
    · cases h
theorem snd_to (hr : ∀ j, r j = true → Snd cl G tb N lv j) {c : To} {x : List Expr} (h : chTo r b c x = true) (g : Good cl G tb N lv X W b) : PTs X x (tTo X.K cl G W c) := by
  cases c with
  | no =>
    cases x with
    | cons _ _ => cases h
    | nil =>
      refine ⟨fun pins s σ H Q I ⟨n, F, π, M, ρ, st, h⟩ => pts_nil.run pins s σ H Q I ?_⟩
      simp only [evoT] at h
      exact h F π H (Nxt.refl st.rel)
  | some t =>
    match x, h with
    | [y], h => exact pts_one (hr _ h X W g)
theorem snd_i (hr : ∀ j, r j = true → Snd cl G tb N lv j) {c : I} {gx x : Expr} (h : chI tb r b c gx x = true) (g : Good cl G tb N lv X W b) : PI X gx x (tIt X.K cl G W c) := by
  cases c with
  | seq e => exact fi_seq (hr _ h X W g)
  | rng1 a =>
    simp only [chI] at h
    split at h
    · simp only [Bool.and_eq_true, decide_eq_true_eq] at h
      obtain ⟨⟨⟨⟨rfl, h2⟩, h3⟩, h4⟩, h5⟩ := h
      exact fi_rng1 (gl_ok g h3).1 (free_ok g h2) (hr _ h5 X W g) (nst_ok h4 _ _)
    · cases h
  | rng2 a1 b1 =>
    simp only [chI] at h
    split at h
    · simp only [Bool.and_eq_true, decide_eq_true_eq] at h
      obtain ⟨⟨⟨⟨⟨⟨rfl, h2⟩, h3⟩, h4⟩, h5⟩, h6⟩, h7⟩ := h
      exact fi_rng2 (gl_ok g h3).1 (free_ok g h2) (hr _ h6 X W g) (hr _ h7 X W g) (by rw [nst_ok h4, nst_ok h5]; rfl) (nst_ok h5 _ _)
    · cases h
  | rngD _ _ => cases h
  | enm a =>
    simp only [chI] at h
    split at h
    · simp only [Bool.and_eq_true, decide_eq_true_eq] at h
      obtain ⟨⟨⟨⟨⟨rfl, h2⟩, h3⟩, h4⟩, h5⟩, h6⟩ := h
      cases gx <;> first | (cases h5; done) | skip
      exact fi_enm (gl_ok g h3).1 (free_ok g h2) (hr _ h6 X W g) (nst_ok h4 _ _)
    · cases h
  | zip a1 b1 =>
    simp only [chI] at h
    split at h
    · simp only [Bool.and_eq_true, decide_eq_true_eq] at h
      obtain ⟨⟨⟨⟨⟨⟨⟨rfl, h2⟩, h3⟩, h4⟩, h5⟩, h6⟩, h7⟩, h8⟩ := h
      cases gx <;> first | (cases h6; done) | skip
      exact fi_zip (gl_ok g h3).1 (free_ok g h2) (hr _ h7 X W g) (hr _ h8 X W g) (nst_ok h4 _ _) (nst_ok h5 _ _)
    · cases h
end
end Fk

/-! FkTry: try: body, except X as e: y = e; the error is kept as a value. -/
namespace Fk
open PySem PySem.Spec PyProof.Rows L2
section
variable {X : Cx} {pins : List (Addr × Obj)} {σ : L2.St} {H : Hp} {s : Shared}
/-- an object that the heap has, and that wasn't there at the entry, is tracked from now on -/
theorem Inv.adopt (I : Inv X pins σ H s) {a : Addr} {o : HO} (na : H a = none) (fr : X.s_0.heap.get? a = none) (new : ObjOk X.prog X.w (upd H a o) s.heap a o) (hp : ∀ p ∈ X.pn ++ pins, p.1 ≠ a) (hL : a ≠ X.env.locals) (hc : ∀ x c, X.env.cells.lookup x = some c → c ≠ a) : Inv X pins σ (upd H a o) s where
  ok := I.ok
  os := I.os
  bare := I.bare
  base := {
    keep := I.base.keep
    slot := I.base.slot
    free := fun b u q n hx => by rw [upd_ne (fun z => by rw [z, fr] at q; cases q)]; exact I.base.free b u q n hx
    there := I.base.there
    tups := fun b xs q => by have := I.base.tups b xs q; rw [upd_ne (ne_of_none this na)]; exact this
    frzs := fun b u xs q => by have := I.base.frzs b u xs q; rw [upd_ne (ne_of_none this na)]; exact this
    tbls := fun b ps q => by
      obtain ⟨m, e⟩ := I.base.tbls b ps q
      exact ⟨m, by rw [upd_ne (ne_of_none e na)]; exact e⟩ }
  loc := I.loc
  cell := I.cell
  free := by rw [upd_ne (Ne.symm hL)]; exact I.free
  freeC := fun x c e => by rw [upd_ne (hc x c e)]; exact I.freeC x c e
  pin := fun p hm => by
    obtain ⟨h1, h2, h3⟩ := I.pin p hm
    exact ⟨h1, by rw [upd_ne (hp p hm)]; exact h2, h3⟩
  hok := I.hok.laidN (fun _ _ q => q) na new
  len := I.len
theorem exn_ok {P : Program} {w : World} {H : Hp} {h : Heap} {a C : Addr} {d : Option Addr} {oe : Obj} {vs : Array Value} (e : h.get? a = some oe) (z : Zc (.ref C) d oe) (hd : oe.data = .fields vs) : ObjOk P w H h a (.ext (Exn a C d)) :=
  ⟨⟨oe, vs, e, z.1, z.2, hd⟩, ⟨oe, e⟩, fun _ _ ⟨o, v, q, r⟩ k => ⟨o, v, k o q, r⟩⟩
/-- what the clause wishes of an error of the body: it is kept in slot j -/
def wKeep (K : PySem.W.Frag) (c : Value) (i j : Nat) (Wout : WX) (D : Ends) : WX := fun cls d σ H =>
  ∃ b C, cls = .ref C ∧ PySem.W.exmOne K cls c = some b ∧ (b = true → ∀ a, H a = none → D.nx (((σ.set i (some (.ref a))).set j (some (.ref a))).set i none) (upd H a (.ext (Exn a C d)))) ∧ (b = false → Wout cls d σ H)
end
section
variable {X : Cx} {x n y : Str} {c : Value} {i j : Nat} {body : List Stmt} {np pos pos' py p2 sp : Pos} {tb : WX → TS} {Wout : WX}
theorem ps_try_keep (hex : X.ex = []) (hs : X.stack = X.env :: X.outer) (hf : X.env.frame = some X.env.locals) (hN : X.N.Nodup) (hi : X.N[i]? = some n) (hj : X.N[j]? = some y) (hij : i ≠ j) (hln : X.env.kindOf n = some .local) (hly : X.env.kindOf y = some .local) (hc : Names X x c) (tk : Takes X Wout)
    (hnn : (n == ("__debug__" : Str)) = false) (hn2 : (n == ("__classdict__" : Str)) = false) (hn3 : n ≠ "__name__")
    (hb : ∀ (W : WX) (pn : List (Addr × Obj)) (xe : Value → Shared → Prop), Takes (X.tr pn xe) W → PassesOwn (model X.prog X.w) X.A X.env xe → PSs (X.tr pn xe) body (tb W)) :
    PS X (.Try body [.ExceptHandler (some (.Name x np)) (some n) [.Assign [.Name y py] (.Name n p2) sp] pos'] [] [] pos) (fun D σ H => tb (wKeep X.K c i j Wout D) D σ H) := by
  refine ⟨fun pins s σ H D I h => ?_⟩
  have ok := I.ok
  have hfr : X.A.frames = some (X.env :: X.outer) := by rw [ok.frames, hs]
  have hloc : Loc X.env.scope n := .inl hln
  refine wpAny_Try_except ?_
  refine wpAny_mono ((hb (wKeep X.K c i j Wout D) (X.pn ++ pins) (fun e s₁ => wpAny (model X.prog X.w) X.A (noteFrame e X.env) (fun _ s₂ => wpAny (model X.prog X.w) X.A (setFlight e none) (fun _ s₃ =>
    wpAny (model X.prog X.w) X.A (handleBy e X.env [.ExceptHandler (some (.Name x np)) (some n) [.Assign [.Name y py] (.Name n p2) sp] pos']) (SP X pins D) X.xe s₃) X.xe s₂) X.xe s₁) (fun u s' xx => ?_) PassesOwn.looking).run [] s σ H D (I.toTry _) h) (fun f s1 hsp => ?_) (fun e s1 he => he)
  · obtain ⟨a, B, sI, pins', σ', H', cls, d, rfl, J', nb, up, sky, na, os, ag, b, C, rfl, hb1, hyes, hno⟩ := xx
    have J : Inv X pins σ' H' sI := J'.ofTry ok
    have sky' : Sky B (X.env :: X.outer) a (Zc (.ref C) d) X.env.locals s'.heap := by rw [← hs]; exact sky
    show wpAny (model X.prog X.w) X.A (noteFrame (.ref a) X.env) _ _ _
    refine Sky.land Zc.steady hfr hf sky' fun h3 fl3 up3 => ?_
    have J3 : Inv X pins σ' H' { s' with heap := h3 } := J.landed nb fl3.1 (up.trans up3) os ag
    obtain ⟨oe3, vs3, he3, hz3, hd3⟩ := fl3.there
    have notFr : ∀ {h : Heap} {o : Obj} {vs : Array Value}, h.FunFrames B (X.env :: X.outer) → h.get? a = some o → o.data = .fields vs → a ∉ frs (X.env :: X.outer) := fun {h o vs} ff e dd hm => by
      obtain ⟨_, o', e', hnf⟩ := ff.mem hm
      rw [e] at e'; cases e'
      exact hnf _ dd
    have nfr := notFr fl3.2.2.1 he3 hd3
    have nL : a ≠ X.env.locals := fun z => nfr (List.mem_filterMap.mpr ⟨X.env, List.mem_cons_self, by rw [hf, z]⟩)
    have nF : a ∉ X.fs := fun hm => by
      obtain ⟨e, he, q⟩ := List.mem_filterMap.mp hm
      exact nfr (List.mem_filterMap.mpr ⟨e, List.mem_cons_of_mem _ he, q⟩)
    -- it wasn't there ahead
    have nI : sI.heap.get? a = none := by
      cases e : sI.heap.get? a with
      | none => rfl
      | some o =>
        have := nb a o e (by rw [hs]; exact nfr)
        rw [fl3.2.1] at this; cases this
    have n0 : X.s_0.heap.get? a = none := by
      cases e : X.s_0.heap.get? a with
      | none => rfl
      | some o =>
        obtain ⟨o', q⟩ := J.base.there a o e (by rw [hex]; exact fun z => nomatch z)
        rw [nI] at q; cases q
    have S3 := J3.suite he3 hd3 na nL nF
    refine wpAny_handleBy_cons (codeAny_handlers_test ?_) (by intro q; cases q)
    have LT : PySem.W.Looks (model X.prog X.w) h3 (typeOf (.ref a)) (.ref C) := fun A Q E s k q => wpAny_typeOf_ref (k _ _ he3) (by rw [hz3.1]; exact q)
    have LM := PySem.W.exm_one (M := model X.prog X.w) (J3.kIn) LT hb1
    have test : ∀ {Q : Value → Shared → Prop} {E : Value → Shared → Prop}, Q c { s' with heap := h3 } → wpAny (model X.prog X.w) (X.A.mark (some (.ref a))) (eval (.Name x np) X.env) Q E { s' with heap := h3 } := fun {Q E} q => by
      obtain ⟨hg, hdbg, hm | ⟨hm, hv, hnn⟩⟩ := hc
      · exact ld_glob (X := X.suite a ((a, oe3) :: (X.pn ++ pins))) S3 hg hm q hdbg
      · exact ld_blt (X := X.suite a ((a, oe3) :: (X.pn ++ pins))) S3 hg hm hv q hnn hdbg
    refine test (LM.here ?_)
    cases b with
    | true =>
      refine codeAny_handlers_suite_as ?_
      refine HandSPX.lands_againZ fl3 fun h4 fl4 up4 => ?_
      have J4 : Inv X pins σ' H' { s' with heap := h4 } := J.landed nb fl4.1 ((up.trans up3).trans up4) os ag
      obtain ⟨oe4, vs4, he4, hz4, hd4⟩ := fl4.there
      have S4 := J4.suite he4 hd4 na nL nF
      refine store_ok (X := X.suite a ((a, oe4) :: (X.pn ++ pins))) (v := .ref a) S4 hN hi hloc rfl (fun s5 S5 => ?_) (.inr hln)
      have hset : PSs (X.suite a ((a, oe4) :: (X.pn ++ pins))) [.Assign [.Name y py] (.Name n p2) sp] (tAsg (tVar i) (gName j)) :=
        pss_one (ps_set hN hj (.inl hly) (pe_var hi (.inl hln) hnn hn2) rfl (.inr hly))
      have hil : i < σ'.length := by rw [J.len]; exact (List.getElem?_eq_some_iff.mp hi).1
      refine wpAny_mono (hset.run [] s5 _ H' { nx := fun σ6 H6 => σ6 = (σ'.set i (some (.ref a))).set j (some (.ref a)) ∧ H6 = H', rt := fun _ _ => False, bk := fun _ _ => False, ct := fun _ _ => False } S5 ⟨.ref a, by rw [List.getElem?_set_self hil], rfl, rfl⟩) (fun f s6 hsp => ?_) (fun _ _ z => False.elim z)
      cases f with
      | next =>
        obtain ⟨σ6, H6, S6, rfl, rfl⟩ := hsp
        refine gone_ok (X := X.suite a ((a, oe4) :: (X.pn ++ pins))) S6 hN hi hln fun s7 J7 => ?_
        have pa := J7.pin (a, oe4) (by simp)
        have aj : Inv X pins (((σ'.set i (some (.ref a))).set j (some (.ref a))).set i none) (upd H6 a (.ext (Exn a C d))) s7 := by
          have J7' := J7.unsuite ok
          refine Fk.Inv.adopt J7' na n0 (exn_ok pa.1 hz4 hd4) (fun p hm e => ?_) nL (fun x c hc e => ?_)
          · have := (J.pin p hm).1
            rw [e, nI] at this; cases this
          · obtain ⟨v, o, ho, _⟩ := J.cell x c hc
            rw [e, nI] at ho; cases ho
        exact ⟨_, _, aj, hyes rfl a na⟩
      | brk => obtain ⟨σ6, H6, S6, q6⟩ := hsp; exact q6.elim
      | cont => obtain ⟨σ6, H6, S6, q6⟩ := hsp; exact q6.elim
      | ret u => obtain ⟨v6, σ6, H6, S6, r6, q6⟩ := hsp; exact q6.elim
    | false =>
      show wpAny _ X.A (handleBy (.ref a) X.env []) _ _ _
      refine wpAny_handleBy_nil ?_
      obtain ⟨k1, k2, k3, oe, vs, T, oT, ts', he, hz, hd, h1, hr⟩ := id fl3
      unfold PySem.passOn
      refine wpAny_bind (wpAny_field he hd h1 ?_)
      rw [if_neg (show ¬ ((Value.ref T == Value.none) = true) from by simp)]
      have fin : wpAny (model X.prog X.w) X.A (setFlight (.ref a) X.env.frame) (fun _ s4 => wpAny (model X.prog X.w) X.A (throw (.ref a) : Sem Flow) (SP X pins D) X.xe s4) X.xe { s' with heap := h3 } := by
        rw [hf]
        refine HandSPX.setFlight_upZ fl3 fun h4 hh4 up4 => wpAny_throw (tk _ _ ?_)
        exact ⟨a, B, sI, pins, σ', H', .ref C, d, rfl, J, nb, (up.trans up3).trans up4, .inr (.inr (by rw [hs]; exact hh4)), na, os, ag, hno rfl⟩
      first
        | exact wpAny_bind (wpAny_pure (wpAny_bind fin))
        | exact wpAny_bind fin
  · cases f with
    | next =>
      obtain ⟨σ', H', J', q⟩ := hsp
      exact wpAny_execs_nil ⟨σ', H', J'.ofTry ok, q⟩
    | brk =>
      obtain ⟨σ', H', J', q⟩ := hsp
      exact ⟨σ', H', J'.ofTry ok, q⟩
    | cont =>
      obtain ⟨σ', H', J', q⟩ := hsp
      exact ⟨σ', H', J'.ofTry ok, q⟩
    | ret u =>
      obtain ⟨v, σ', H', J', r, q⟩ := hsp
      exact ⟨v, σ', H', J'.ofTry ok, r, q⟩
end
section
variable {K : PySem.W.Frag} {cl : Cl} {n : Nat} {F F' F1 : Hp} {π π' π1 : List Addr} {M M' M1 : Mem} {H H' H1 : Hp} {ρ ρ' : Slots} {σ σ' : L2.St} {W : WX} {D : Ends} {G : Gam}
theorem Slt.setX (s : Slt K cl F π σ ρ) {i : Nat} {x : Option V} : Slt K cl F π (σ.set i x) (ρ.set i none) where
  len := by rw [List.length_set, List.length_set, s.len]
  at_ := fun j z e => by
    rw [List.getElem?_set] at e
    by_cases hij : i = j
    · subst hij
      rw [if_pos rfl] at e
      split at e <;> cases e
    · rw [if_neg hij] at e
      obtain ⟨u, a, b⟩ := s.at_ j z e
      exact ⟨u, by rw [List.getElem?_set, if_neg hij]; exact a, b⟩
theorem try_read {c i j : Nat} {b : Ss} (hc : cl c ≠ 0) (h : tS K cl G W (.tryK c i j b) D σ H) : tSs K cl G (wKeep K (.ref (cl c)) i j W D) b D σ H := by
  obtain ⟨n, F, π, M, ρ, st, h⟩ := h
  simp only [evS] at h
  refine ⟨n, F, π, M, ρ, st, ?_⟩
  dsimp only
  cases e : evSs G n ρ M b with
  | nx ρ' M' => rw [e] at h; exact h
  | rt v M' => rw [e] at h; exact h
  | bad => rw [e] at h; exact h.elim
  | ex x ρ' M' =>
    rw [e] at h
    dsimp only at h
    intro F' π' H' σ' cls d nx sl ie
    obtain ⟨i1, i2, i3⟩ := ie
    subst i1
    refine ⟨subC x.cls c, cl x.cls, rfl, i3.exm c hc, fun hb a na => ?_, fun hb => ?_⟩
    · rw [if_pos hb] at h
      have nn := Nxt.newF (n := n) nx.rel (.ext (Exn a (cl x.cls) d)) na
      have sl' := sl.mono nn.fsub nn.pre
      have hv : IsV K cl (upd F' a (.ext (Exn a (cl x.cls) d))) π' (.ref a) (.x x.cls x.fs) := ⟨a, d, rfl, upd_same, i2.sub nn.fsub, i3⟩
      exact h _ _ _ _ (Nxt.trans st.rel nx nn) (Slt.setN (Slt.set (Slt.setX sl') hv))
    · rw [if_neg (by rw [hb]; decide)] at h
      exact h F' π' H' σ' _ d nx sl ⟨rfl, i2, i3⟩
end
end Fk

/-! FkSnd2: statements; the checker as a whole. -/
namespace Fk
open PySem PySem.Spec PyProof.Rows L2
section
variable {X : Cx} {cl : Cl} {G : Gam} {tb : Tab} {N : List Str} {lv : Nat} {W : WX} {b : Bl} {r : J → Bool}
theorem PS.weak {st : Stmt} {t t' : TS} (h : PS X st t) (i : ∀ D σ H, t' D σ H → t D σ H) : PS X st t' := ⟨fun pins s σ H D I q => h.run pins s σ H D I (i D σ H q)⟩
theorem PSs.weak {st : List Stmt} {t t' : TS} (h : PSs X st t) (i : ∀ D σ H, t' D σ H → t D σ H) : PSs X st t' := ⟨fun pins s σ H D I q => h.run pins s σ H D I (i D σ H q)⟩
theorem ip_of {o : BOp} (h : o = .add ∨ o = .sub) : PIp X (bop o) (fun x y H Q => ∃ i j, x = .int i ∧ y = .int j ∧ ((o = .add ∧ Q (.int (i + j)) H) ∨ (o = .sub ∧ Q (.int (i - j)) H))) := by
  rcases h with rfl | rfl
  · intro pins s σ H x y v u Q I r1 r2 h
    obtain ⟨i, j, rfl, rfl, h⟩ := h
    rcases h with ⟨_, q⟩ | ⟨e, _⟩
    · exact ip_add pins s σ H _ _ v u Q I r1 r2 ⟨i, j, rfl, rfl, q⟩
    · cases e
  · intro pins s σ H x y v u Q I r1 r2 h
    obtain ⟨i, j, rfl, rfl, h⟩ := h
    rcases h with ⟨e, _⟩ | ⟨_, q⟩
    · cases e
    · exact ip_sub pins s σ H _ _ v u Q I r1 r2 ⟨i, j, rfl, rfl, q⟩
theorem swC_ok {cl : Cl} {G : Gam} {tb : Tab} {N : List Str} {lv : Nat} {X : Cx} {W : WX} {b : Bl} (g : Good cl G tb N lv X W b) {y : Str} {z : Expr} {py : Pos} {l : Nat} (h : swC b y z = true) : swapsWith z (some (.Name y py)) l X.env = pure false := by
  unfold swC at h
  split at h
  · split at h
    · rename_i e
      have ky : X.env.kindOf y = some .cell := by
        show X.env.scope.names.lookup y = _
        rw [g.sc]; exact e
      unfold swapsWith
      have e2 : (some NameKind.cell == some NameKind.local) = false := rfl
      simp only [ky, e2, Bool.and_false, Bool.false_and]
    · cases h
  · cases h
theorem sole_ok {t z : Expr} {l : Nat} {env : Env} (h : ncomp z = true) : swapsWithSole [t] z l env = pure false := ncomp_ok h _ _ _
theorem snd_s (hr : ∀ j, r j = true → Snd cl G tb N lv j) {c : S} {x : Stmt} (h : chS tb N r b c x = true) (g : Good cl G tb N lv X W b) : PS X x (tS X.K cl G W c) := by
  have nd : X.N.Nodup := by rw [g.hN]; exact g.nd
  cases c with
  | expr e =>
    simp only [chS] at h
    split at h
    · simp only [Bool.and_eq_true] at h
      exact PS.weak (ps_expr (hr _ h.2 X W g) (ncomp_ok h.1 _ _ _)) fun D σ H q => expr_read q
    · cases h
  | set i e =>
    simp only [chS] at h
    split at h
    · rename_i y py z pos
      simp only [Bool.and_eq_true, Bool.or_eq_true, decide_eq_true_eq] at h
      obtain ⟨⟨h1, h2⟩, h3⟩ := h
      obtain ⟨t1, t2⟩ := isTg_ok g h2
      have hi : X.N[i]? = some y := by rw [g.hN]; exact h1
      rcases h3 with ⟨h3, h4⟩ | h3
      · rcases h3 with h3 | h3
        · exact PS.weak (ps_set nd hi t1 (hr _ h4 X W g) (ncomp_ok h3 _ _ _) t2) fun D σ H q => set_read q
        · exact PS.weak (ps_set nd hi t1 (hr _ h4 X W g) (swC_ok g h3) t2) fun D σ H q => set_read q
      · split at h3
        · rename_i m vs tg it t c
          split at h3
          · rename_i elt gs scope zpos
            simp only [Bool.and_eq_true] at h3
            obtain ⟨⟨⟨⟨k1, k2⟩, k3⟩, k4⟩, k5⟩ := h3
            obtain ⟨elt', gx, iter, ifs, scope', pos', e0, ok, fo, hv, pi, bl⟩ := snd_lc hr k5 g
            cases e0
            have hk : X.env.scope.kind = .function := by
              rw [g.sc]
              split at k1
              · assumption
              · cases k1
            have hl : X.env.scope.names.lookup y = some .local := by
              rw [g.sc]
              split at k2
              · assumption
              · cases k2
            refine PS.weak (ps_setLc g.calm nd hi hl (sw_true hk hl k3 (by simpa using k4)) pi ok (fun s H C ce fp => (bl s H C ce fp).1) (fun s H C ce fp => (bl s H C ce fp).2.1) (fun s H C ce fp => (bl s H C ce fp).2.2) fo) fun D σ H q => ?_
            rw [own_vs]
            exact lc_read hv (set_read q)
          · cases h3
        · rename_i m vs vs1 tg it t tg1 it1 t1 c
          split at h3
          · rename_i elt gs scope zpos
            simp only [Bool.and_eq_true] at h3
            obtain ⟨⟨⟨⟨k1, k2⟩, k3⟩, k4⟩, k5⟩ := h3
            obtain ⟨elt', gx, iter, ifs, gx1, iter1, ifs1, scope', pos', e0, ok, fo, fo1, hv, hv1, hvv, pi, bl⟩ := snd_lc2 hr k5 g
            cases e0
            have hk : X.env.scope.kind = .function := by
              rw [g.sc]
              split at k1
              · assumption
              · cases k1
            have hl : X.env.scope.names.lookup y = some .local := by
              rw [g.sc]
              split at k2
              · assumption
              · cases k2
            refine PS.weak (ps_setLc2 (vs1 := vs1) g.calm nd hi hl (sw_true hk hl k3 (by simpa using k4)) pi ok (by rw [own_vs]; exact hvv) (fun s H C ce fp => (bl s H C ce fp).1) (fun s H C ce fp => (bl s H C ce fp).2.1) (fun s H C ce fp => (bl s H C ce fp).2.2.1) (fun s H C ce fp => (bl s H C ce fp).2.2.2.1) (fun s H C ce fp => (bl s H C ce fp).2.2.2.2.1) (fun s H C ce fp => (bl s H C ce fp).2.2.2.2.2) fo fo1) fun D σ H q => ?_
            rw [own_vs]
            exact lc2_read hv hv1 (set_read q)
          · cases h3
        · cases h3
    · cases h
  | setT is e =>
    simp only [chS] at h
    split at h
    · rename_i xs k tpos z pos
      simp only [Bool.and_eq_true] at h
      obtain ⟨⟨⟨h1, h2⟩, h3⟩, h4⟩ := h
      obtain ⟨q1, q2, q3⟩ := chTs_ok g h3
      refine PS.weak (ps_asg (hr _ h4 X W g) (pg_tup (n := is.length) g.calm q1 q2 q3) (sole_ok h1) (by cases z <;> first | rfl | cases h2) rfl) fun D σ H q => setT_read q
    · cases h
  | par is es => cases h
  | setIx a1 b1 e =>
    simp only [chS] at h
    split at h
    · rename_i x1 x2 sp z pos
      simp only [Bool.and_eq_true] at h
      obtain ⟨⟨⟨⟨h1, h2⟩, h3⟩, h4⟩, h5⟩ := h
      refine PS.weak (ps_asg (hr _ h5 X W g) (pg_sub (hr _ h3 X W g) (hr _ h4 X W g) (set_any g.hu g.wp) (by intro v; cases x2 <;> first | rfl | cases h2)) (sole_ok h1) rfl rfl) fun D σ H q => setIx_read (X := X) rfl q
    · cases h
  | setF a f e => cases h
  | aug i o e =>
    simp only [chS] at h
    split at h
    · rename_i y p op z pos
      simp only [Bool.and_eq_true, decide_eq_true_eq] at h
      obtain ⟨⟨⟨⟨h1, h2⟩, rfl⟩, h3⟩, h4⟩ := h
      obtain ⟨t1, t2⟩ := isTg_ok g h2
      have hi : X.N[i]? = some y := by rw [g.hN]; exact h1
      have ho : o = .add ∨ o = .sub := by cases o <;> first | exact .inl rfl | exact .inr rfl | cases h3
      refine PS.weak (ps_aug nd hi t1 (hr _ h4 X W g) (ip_of ho) t2) fun D σ H q => ?_
      obtain ⟨x, e1, q⟩ := aug_read q
      refine ⟨.int x, e1, q.imp fun y H1 q => ?_⟩
      obtain ⟨k, rfl, q⟩ := q
      exact ⟨x, k, rfl, rfl, q⟩
    · cases h
  | iff t s1 s2 =>
    simp only [chS] at h
    split at h
    · simp only [Bool.and_eq_true] at h
      exact PS.weak (ps_if (hr _ h.1.1 X W g) (hr _ h.1.2 X W g) (hr _ h.2 X W g)) fun D σ H q => iff_read q
    · cases h
  | whl tr t s1 =>
    simp only [chS] at h
    split at h
    · simp only [Bool.and_eq_true] at h
      exact PS.weak (ps_while g.pas (hr _ h.1 X W g) (hr _ h.2 X W g)) fun D σ H q => whl_read q
    · cases h
  | fr tr tg it s1 =>
    simp only [chS] at h
    split at h
    · simp only [Bool.and_eq_true] at h
      obtain ⟨⟨⟨h1, h2⟩, h3⟩, h4⟩ := h
      exact PS.weak (ps_for g.pas g.calm (hr _ h3 X W g) (chTg_ok g h2) (hr _ h4 X W g) fun x => nset_fold h1 _ _) fun D σ H q => fr_read q
    · cases h
  | ret e =>
    simp only [chS] at h
    split at h
    · exact PS.weak (ps_ret (hr _ h X W g)) fun D σ H q => ret_read q
    · cases h
  | retN =>
    simp only [chS] at h
    split at h
    · refine PS.weak ps_retN fun D σ H ⟨n, F, π, M, ρ, st, q⟩ => ?_
      simp only [evS] at q
      exact q F π H .non (Nxt.refl st.rel) rfl
    · cases h
  | raise cc e =>
    simp only [chS] at h
    split at h
    · simp only [Bool.and_eq_true] at h
      obtain ⟨⟨⟨h1, h2⟩, h3⟩, h4⟩ := h
      obtain ⟨g1, g2, g3⟩ := gl_ok g h1
      obtain ⟨ex, he, hq⟩ := List.any_eq_true.mp h3
      simp only [Bool.and_eq_true, decide_eq_true_eq] at hq
      obtain ⟨q1, q2⟩ := hq
      have xf := g.exs ex he
      rw [q1, q2] at xf
      obtain ⟨B, newId, initId, bmB, F, k1, k2, k3, k4, kc⟩ := xf
      exact PS.weak (ps_raise g.calm g.tk (SkE.pmk_own1 F k1 k2 k3 k4 g1 (hr _ h4 X W g) (nst_ok h2 _ _) g2)) fun D σ H q => raise_read kc q
    · cases h
  | pass =>
    simp only [chS] at h
    split at h
    · refine PS.weak ps_pass fun D σ H ⟨n, F, π, M, ρ, st, q⟩ => ?_
      simp only [evS] at q
      exact q F π H σ (Nxt.refl st.rel) st.sl
    · cases h
  | never =>
    refine PS.weak ps_never fun D σ H ⟨n, F, π, M, ρ, st, q⟩ => ?_
    simp only [evS] at q
    exact q
  | tryK c i j s1 =>
    simp only [chS] at h
    split at h
    · rename_i body x np n y py n2 p2 sp pos' pos
      simp only [Bool.and_eq_true, decide_eq_true_eq] at h
      obtain ⟨⟨⟨⟨⟨⟨⟨⟨⟨⟨h1, h2⟩, h3⟩, h4⟩, h5⟩, rfl⟩, h7⟩, h8⟩, h9⟩, h10⟩, h11⟩ := h
      obtain ⟨cx, hcx, hq⟩ := List.any_eq_true.mp h2
      simp only [Bool.and_eq_true, decide_eq_true_eq] at hq
      obtain ⟨e1, e2⟩ := hq
      obtain ⟨k1, k2⟩ := g.clss cx hcx
      rw [e1, e2] at k1
      rw [e2] at k2
      obtain ⟨p1, p2', p3⟩ := gl_ok g h3
      obtain ⟨q1, q2, q3⟩ := okNm_ok h10
      have ho : b.oc = none := by
        cases hb : b.oc with
        | none => rfl
        | some o => rw [hb] at h1; cases h1
      obtain ⟨t1, t2, t3⟩ := g.top ho
      exact PS.weak (ps_try_keep (tb := fun W => tSs X.K cl G W s1) t1 t2 t3 nd (by rw [g.hN]; exact h4) (by rw [g.hN]; exact h5) h7 (loc_ok g h8) (loc_ok g h9) ⟨p1, p2', .inl k1⟩ g.tk q1 q2 q3 (fun W' pn xe tk pas => hr _ h11 (X.tr pn xe) W' (g.tr pn xe W' tk pas))) fun D σ H q => try_read k2 q
    · cases h
theorem snd_ss (hr : ∀ j, r j = true → Snd cl G tb N lv j) {c : Ss} {x : List Stmt} (h : chSs r b c x = true) (g : Good cl G tb N lv X W b) : PSs X x (tSs X.K cl G W c) := by
  cases c with
  | nil =>
    cases x with
    | cons _ _ => cases h
    | nil =>
      refine PSs.weak pss_nil fun D σ H ⟨n, F, π, M, ρ, st, q⟩ => ?_
      simp only [evSs] at q
      exact q F π H σ (Nxt.refl st.rel) st.sl
  | cons s ss =>
    cases x with
    | nil => cases h
    | cons y ys =>
      simp only [chSs, Bool.and_eq_true] at h
      exact PSs.weak (pss_cons (hr _ h.1 X W g) (hr _ h.2 X W g)) fun D σ H q => cons_read q
end
theorem chk_ok {cl : Cl} {G : Gam} {tb : Tab} {N : List Str} {lv : Nat} : ∀ (k : Nat) (j : J), chk tb N k j = true → Snd cl G tb N lv j
  | 0, _, h => by cases h
  | k + 1, j, h => by
    have hr := chk_ok (cl := cl) (G := G) (tb := tb) (N := N) (lv := lv) k
    have h : stp tb N (chk tb N k) j = true := h
    intro X W
    cases j with
    | e b c x => exact fun g => snd_e1 hr h g
    | es b c x => exact fun g => snd_es hr h g
    | o b c x => exact fun g => snd_o hr h g
    | t b c x => exact fun g => snd_t hr h g
    | w b c x => exact fun g => snd_w hr h g
    | to b c x => exact fun g => snd_to hr h g
    | i b c gx x => exact fun g => snd_i hr h g
    | s b c x => exact fun g => snd_s hr h g
    | ss b c x => exact fun g => snd_ss hr h g
end Fk

/-! FkMod: a module's defs, one behind another; the law's end. -/
namespace Fk
open PySem PySem.Spec PyProof.Rows L2
/-- the defs that a def calls, by their numbers -/
def gf (l : List (Nat × FnI)) : Gam := ⟨fun i => l.lookup i, subC⟩
section
variable (P : Program) (w : World) (K : PySem.W.Frag) (mg : Str → Option Value) (base : Heap) (cl : Cl)
structure MFact (lv : Nat) (x : Str) (dv : List D) (g : FnI) : Prop where
  ex : ∃ (f : Addr) (fd : FuncData) (ps : List Str) (k : Nat) (ds : List Value) (dvs : List V), mg x = some (.ref f) ∧ PySem.W.keepIn K (.ref f) = true ∧ FnG P w K mg base k f fd ps (spF K cl g.run) ∧ k ≤ lv ∧
    Binds K fd ps ds ∧ dv.mapM litV = some dvs ∧ Vals dvs ds
/-- what the module's names stand for -/
structure Env1 (tb : Tab) : Prop where
  wp : cl.P = P ∧ cl.w = w
  cons : ∀ e ∈ tb.cons, ∃ v u, mg e.1 = some u ∧ RelV v u ∧ ∀ F : Hp, IsD K F v e.2
  free : ∀ x ∈ tb.free, mg x = none
  exs : ∀ e ∈ tb.exs, ∃ (B newId initId : String) (bmB : List Value), ExcBaseFacts B newId initId bmB ∧ PySem.W.excIn K (cl e.2) bmB newId = true ∧ mg e.1 = some (.ref (cl e.2)) ∧ PySem.W.keepIn K (.ref (cl e.2)) = true ∧
    PySem.W.subIn K (.ref (cl e.2)) (.type "BaseException") = some true ∧ PySem.W.typeIn K (.ref (cl e.2)) = some (.type "type") ∧ Kc K cl e.2
  clss : ∀ e ∈ tb.clss, mg e.1 = some (.ref (cl e.2)) ∧ cl e.2 ≠ 0
/-- what a def needs of those that it calls -/
def Facts (k : Nat) (fns : List Fn) (G : Gam) : Prop := ∀ e ∈ fns, ∃ g, G.fn e.ix = some g ∧ MFact P w K mg base cl k e.name e.dv g
end
section
variable {P : Program} {w : World} {K : PySem.W.Frag} {mg : Str → Option Value} {base : Heap} {cl : Cl} {tb : Tab} {k : Nat} {G : Gam}
theorem MFact.mono {j lv : Nat} {x : Str} {dv : List D} {g : FnI} (h : MFact P w K mg base cl j x dv g) (hj : j ≤ lv) : MFact P w K mg base cl lv x dv g := by
  obtain ⟨f, fd, ps, k, ds, dvs, a1, a2, a3, a4, a5⟩ := h.ex
  exact ⟨f, fd, ps, k, ds, dvs, a1, a2, a3, Nat.le_trans a4 hj, a5⟩
theorem facts_nil : Facts P w K mg base cl k [] G := fun e he => by cases he
theorem facts_cons {j : Nat} {fns : List Fn} {x : Str} {ix : Nat} {dv : List D} {g : FnI} (hg : MFact P w K mg base cl j x dv g) (hj : j ≤ k) (e : G.fn ix = some g) (h : Facts P w K mg base cl k fns G) : Facts P w K mg base cl k (⟨x, ix, dv⟩ :: fns) G := fun e he => by
  rcases List.mem_cons.mp he with rfl | he
  · exact ⟨g, e, hg.mono hj⟩
  · exact h e he
/-- a def's fact from those that it calls and the check of its code -/
theorem def_g {x qual : Str} {params : Arguments} {body : List Stmt} {scope : Scope} {f : Addr} {fd : FuncData} {N ps : List Str} {m : Rm} {b : Ss} {fuel : Nat} (en : Env1 P w K mg cl tb) (h : Facts P w K mg base cl k tb.fns G)
    (F : FunD K x qual params body scope [] [] f fd) (S : FnScope N ps scope) (hc : chk tb N fuel (.ss ⟨scope, none⟩ b body) = true) :
    FnG P w K mg base (k + 1) f fd ps (spF K cl (runF G m ps.length (N.length - ps.length) b).run) := by
  refine fn_ok F S fun cdv A outer s H E rm => ?_
  refine chk_ok (cl := cl) (G := G) (lv := k) fuel _ hc _ _ ?_
  exact {
    calm := rfl
    wp := ⟨en.wp.1, en.wp.2⟩
    hN := rfl
    nd := S.nd
    sc := rfl
    fn := fun _ => rfl
    rm := rm
    tk := takes_of rfl rfl rfl rfl
    pas := passes_of rfl
    fns := fun e he => let ⟨g, g1, g2⟩ := h e he; ⟨g, g1, ⟨g2.ex⟩⟩
    cons := en.cons
    free := en.free
    exs := fun e he => let ⟨B, n, i, bm, q1, q2, q3, q4, q5, q6, q7⟩ := en.exs e he; ⟨B, n, i, bm, q1, q2, q3, q4, raises_own q5 q6, q7⟩
    clss := en.clss
    top := fun _ => ⟨rfl, rfl, rfl⟩ }
theorem def_fact {x qual : Str} {params : Arguments} {body : List Stmt} {scope : Scope} {f : Addr} {fd : FuncData} {N ps : List Str} {m : Rm} {b : Ss} {fuel : Nat} (en : Env1 P w K mg cl tb) (h : Facts P w K mg base cl k tb.fns G)
    (F : FunD K x qual params body scope [] [] f fd) (S : FnScope N ps scope) (hx : mg x = some (.ref f)) (hb : Binds K fd ps []) (hc : chk tb N fuel (.ss ⟨scope, none⟩ b body) = true) :
    MFact P w K mg base cl (k + 1) x [] (runF G m ps.length (N.length - ps.length) b) :=
  ⟨f, fd, ps, k + 1, [], [], hx, F.kp, def_g en h F S hc, Nat.le_refl _, hb, rfl, .nil⟩
theorem cx_no {H : Hp} {s s' : Shared} {e : Value} (z : L2.CX P w [] H s (fun _ _ _ => False) e s') : False := by
  obtain ⟨_, _, _, _, _, _, _, _, _, _, _, _, z⟩ := z
  exact z
/-- the law's promise -/
theorem law_sp {H : Hp} {a : Addr} {ns : List Int} {g : FnI} (ho : Only H) (hs : SqL K H a (ns.map V.int)) (hg : g.run 0 [.d (.list (ns.map .int))] [] = .ok (.d (.bool true)) []) : spF K cl g.run [.ref a] H (fun v _ => v = .bl true) fun _ _ _ => False := by
  refine ⟨0, H, [], [], [.d (.list (ns.map .int))], ⟨.refl _, rfl, fun k c a h => by simp at h, fun j k c c' a h => by simp at h⟩, Nat.zero_le _, .cons ?_ .nil, ?_⟩
  · simp only [IsV, IsD]
    refine ⟨a, _, rfl, hs, ?_⟩
    generalize ns = zs
    clear hs hg ns
    induction zs with
    | nil => simp only [List.map_nil, IsDs]
    | cons z zs ih => simp only [List.map_cons, IsDs]; exact ⟨rfl, ih⟩
  · rw [hg]
    exact fun F' π' H' u _ q => q
end
end Fk

/-! FkEval: the evaluators' equations, for simp; loops. -/
namespace Fk
open PySem
section
variable {G : Gam} {n : Nat} {ρ : Slots} {M : Mem}
@[simp] theorem ev_var (i : Nat) : ev G n ρ M (.var i) = (match ρ[i]? with | some (some v) => .ok v M | _ => .bad) := (rfl)
@[simp] theorem ev_con (x : Str) (d : D) : ev G n ρ M (.con x d) = .ok (.d d) M := (rfl)
@[simp] theorem ev_lit (d : D) : ev G n ρ M (.lit d) = .ok (.d d) M := (rfl)
@[simp] theorem ev_tup (es : Es) : ev G n ρ M (.tup es) = (evs G n ρ M es).bind fun vs M => (match allD vs with | some ds => .ok (.d (.tuple ds)) M | none => .bad) := (rfl)
@[simp] theorem ev_lst (m : Md) (es : Es) : ev G n ρ M (.lst m es) = (evs G n ρ M es).bind fun vs M => mkL m vs M := (rfl)
@[simp] theorem ev_bin (o : BOp) (m : Md) (a b : E) : ev G n ρ M (.bin o m a b) = (ev G n ρ M a).bind fun x M => (ev G n ρ M b).bind fun y M => binV m o M x y := (rfl)
@[simp] theorem ev_neg (a : E) : ev G n ρ M (.neg a) = (ev G n ρ M a).bind fun x M => (match x with | .d (.int i) => .ok (.d (.int (-i))) M | _ => .bad) := (rfl)
@[simp] theorem ev_cmp (o : COp) (a b : E) : ev G n ρ M (.cmp o a b) = (ev G n ρ M a).bind fun x M => (ev G n ρ M b).bind fun y M => (match cmpV o M x y with | some t => .ok (.d (.bool t)) M | none => .bad) := (rfl)
@[simp] theorem ev_and (a b : E) : ev G n ρ M (.and a b) = (ev G n ρ M a).bind fun x M => (match x with | .d (.bool true) => ev G n ρ M b | .d (.bool false) => .ok (.d (.bool false)) M | _ => .bad) := (rfl)
@[simp] theorem ev_or (a b : E) : ev G n ρ M (.or a b) = (ev G n ρ M a).bind fun x M => (match x with | .d (.bool true) => .ok (.d (.bool true)) M | .d (.bool false) => ev G n ρ M b | _ => .bad) := (rfl)
@[simp] theorem ev_not (a : E) : ev G n ρ M (.not a) = (ev G n ρ M a).bind fun x M => (match x with | .d (.bool t) => .ok (.d (.bool !t)) M | _ => .bad) := (rfl)
@[simp] theorem ev_ite (c : T) (a b : E) : ev G n ρ M (.ite c a b) = (evT G n ρ M c).bind fun t M => if t then ev G n ρ M a else ev G n ρ M b := (rfl)
@[simp] theorem ev_idx (a b : E) : ev G n ρ M (.idx a b) = (ev G n ρ M a).bind fun x M => (ev G n ρ M b).bind fun y M => Out.of (idxV M x y) M := (rfl)
@[simp] theorem ev_rev (m : Md) (a : E) : ev G n ρ M (.rev m a) = (ev G n ρ M a).bind fun x M => revV m M x := (rfl)
@[simp] theorem ev_dct : ev G n ρ M .dct = .ok (.p M.length) (M ++ [.dict []]) := (rfl)
@[simp] theorem ev_slc (m : Md) (a : E) (lo hi : Eo) : ev G n ρ M (.slc m a lo hi) = (ev G n ρ M a).bind fun x M => (evo G n ρ M lo).bind fun l M => (evo G n ρ M hi).bind fun h M => slcV m M x l h := (rfl)
@[simp] theorem ev_call (f : Nat) (dv : List D) (es : Es) : ev G n ρ M (.call f dv es) = (evs G n ρ M es).bind fun vs M => (match G.fn f with | some g => g.run n (vs ++ dv.map Val.d) M | none => .bad) := (rfl)
@[simp] theorem ev_callB (f : Nat) (dv : List D) (es : Es) : ev G n ρ M (.callB f dv es) = (evs G n ρ M es).bind fun vs M => (match G.fn f, vs.mapM (viewV M) with | some g, some vs => lend M (g.run 0 (vs ++ dv.map Val.d) (M.map fun _ => .dead)) | _, _ => .bad) := (rfl)
@[simp] theorem ev_blt (b : Bt) (m : Md) (es : Es) : ev G n ρ M (.blt b m es) = (evs G n ρ M es).bind fun vs M => bltV m b M vs := (rfl)
@[simp] theorem ev_bm (b : Bm) (a : E) (es : Es) : ev G n ρ M (.bm b a es) = (ev G n ρ M a).bind fun x M => (match recvT M x with | some t => if mtOk b t then (evs G n ρ M es).bind fun vs M => bmV .v n b M x vs else .bad | none => .bad) := (rfl)
@[simp] theorem ev_isi (a : E) (ts : List Ty) : ev G n ρ M (.isi a ts) = (ev G n ρ M a).bind fun x M => (match (ts.map (isiV subC M x)).mapM id with | some bs => .ok (.d (.bool (bs.any id))) M | none => .bad) := (rfl)
@[simp] theorem ev_lc (m : Md) (vs : List Nat) (tg : Tg) (it : I) (t : To) (e : E) : ev G n ρ M (.lc m vs tg it t e) = (evI G n ρ M it).bind fun ig M => (foldC ig.2 (stepC ρ vs tg (fun ρ M => evoT G n ρ M t) (fun ρ M => ev G n ρ M e)) ig.1 [] M).bind fun vs M => mkL m vs M := (rfl)
@[simp] theorem ev_lc2 (m : Md) (vs vs1 : List Nat) (tg : Tg) (it : I) (t : To) (tg1 : Tg) (it1 : I) (t1 : To) (e : E) : ev G n ρ M (.lc2 m vs vs1 tg it t tg1 it1 t1 e) = (evI G n ρ M it).bind fun ig M => (foldC2 ig.2 (stepC2 ρ vs vs1 tg tg1 (fun ρ M => evoT G n ρ M t) (fun ρ M => evI G n ρ M it1) (fun ρ M => evoT G n ρ M t1) (fun ρ M => ev G n ρ M e)) ig.1 [] M).bind fun vs M => mkL m vs M := (rfl)
@[simp] theorem evs_nil : evs G n ρ M .nil = .ok [] M := (rfl)
@[simp] theorem evs_cons (e : E) (es : Es) : evs G n ρ M (.cons e es) = (ev G n ρ M e).bind fun v M => (evs G n ρ M es).bind fun vs M => .ok (v :: vs) M := (rfl)
@[simp] theorem evo_no : evo G n ρ M .no = .ok none M := (rfl)
@[simp] theorem evo_some (e : E) : evo G n ρ M (.some e) = (ev G n ρ M e).bind fun v M => (match v with | .d (.int i) => .ok (some i) M | _ => .bad) := (rfl)
@[simp] theorem evoT_no : evoT G n ρ M .no = .ok true M := (rfl)
@[simp] theorem evoT_some (e : T) : evoT G n ρ M (.some e) = evT G n ρ M e := (rfl)
@[simp] theorem evT_and (a b : T) : evT G n ρ M (.and a b) = (evT G n ρ M a).bind fun t M => if t then evT G n ρ M b else .ok false M := (rfl)
@[simp] theorem evT_or (a b : T) : evT G n ρ M (.or a b) = (evT G n ρ M a).bind fun t M => if t then .ok true M else evT G n ρ M b := (rfl)
@[simp] theorem evT_not (a : T) : evT G n ρ M (.not a) = (evT G n ρ M a).bind fun t M => .ok (!t) M := (rfl)
@[simp] theorem evT_val (e : E) : evT G n ρ M (.val e) = (ev G n ρ M e).bind fun x M => Out.of (truthV M x) M := (rfl)
@[simp] theorem evI_seq (e : E) : evI G n ρ M (.seq e) = (ev G n ρ M e).bind fun v M => Out.of ((itemsOf M v).map fun xs => (xs.map Itm.v, gdOf v)) M := (rfl)
@[simp] theorem evI_rng1 (a : E) : evI G n ρ M (.rng1 a) = (ev G n ρ M a).bind fun x M => Out.of ((rng1V x).map fun xs => (xs, none)) M := (rfl)
@[simp] theorem evI_rng2 (a b : E) : evI G n ρ M (.rng2 a b) = (ev G n ρ M a).bind fun x M => (ev G n ρ M b).bind fun y M => Out.of ((rng2V x y).map fun xs => (xs, none)) M := (rfl)
@[simp] theorem evI_zip (a b : E) : evI G n ρ M (.zip a b) = (ev G n ρ M a).bind fun x M => (ev G n ρ M b).bind fun y M => (match x, y with
    | .d (.list xs), .d (.list ys) => if xs.length ≤ lim then .ok (zips xs ys, none) M else .bad
    | .d (.tuple xs), .d (.tuple ys) => if xs.length ≤ lim then .ok (zips xs ys, none) M else .bad
    | _, _ => .bad) := (rfl)
@[simp] theorem evI_enm (e : E) : evI G n ρ M (.enm e) = (ev G n ρ M e).bind fun v M => Out.of (((lstOf M v).bind idxs).map fun xs => (xs, gdOf v)) M := (rfl)
@[simp] theorem evS_expr (e : E) : evS G n ρ M (.expr e) = (ev G n ρ M e).toS ρ fun _ M => .nx ρ M := (rfl)
@[simp] theorem evS_set (i : Nat) (e : E) : evS G n ρ M (.set i e) = (ev G n ρ M e).toS ρ fun v M => .nx (ρ.set i (some v)) M := (rfl)
@[simp] theorem evS_setT (is : List Nat) (e : E) : evS G n ρ M (.setT is e) = (ev G n ρ M e).toS ρ fun v M => (match asg (.tup is) (.v v) ρ with | some ρ' => .nx ρ' M | none => .bad) := (rfl)
@[simp] theorem evS_par (is : List Nat) (es : Es) : evS G n ρ M (.par is es) = (evs G n ρ M es).toS ρ fun vs M => if vs.length = is.length then .nx (setAllV is vs ρ) M else .bad := (rfl)
@[simp] theorem evS_setIx (a b e : E) : evS G n ρ M (.setIx a b e) = (ev G n ρ M e).toS ρ fun v M => (ev G n ρ M a).toS ρ fun x M => (ev G n ρ M b).toS ρ fun y M => (match setIxV M n x y v with | some M' => .nx ρ M' | none => .bad) := (rfl)
@[simp] theorem evS_aug (i : Nat) (o : BOp) (e : E) : evS G n ρ M (.aug i o e) = (match ρ[i]? with
    | some (some (.d (.int x))) => (ev G n ρ M e).toS ρ fun v M => match o, v with
      | .add, .d (.int y) => .nx (ρ.set i (some (.d (.int (x + y))))) M
      | .sub, .d (.int y) => .nx (ρ.set i (some (.d (.int (x - y))))) M
      | _, _ => .bad
    | _ => .bad) := (rfl)
@[simp] theorem evS_iff (c : T) (a b : Ss) : evS G n ρ M (.iff c a b) = (evT G n ρ M c).toS ρ fun t M => if t then evSs G n ρ M a else evSs G n ρ M b := (rfl)
@[simp] theorem evS_whl (tr : Bool) (c : T) (b : Ss) : evS G n ρ M (.whl tr c b) = whlO fun k => whlF tr M.length (fun ρ' M' => evT G (if tr then M.length else n) ρ' M' c) (fun ρ' M' => evSs G (if tr then M.length else n) ρ' M' b) k ρ M := (rfl)
@[simp] theorem evS_fr (tr : Bool) (tg : Tg) (it : I) (b : Ss) : evS G n ρ M (.fr tr tg it b) = (evI G n ρ M it).toS ρ fun ig M => foldS ig.2 tr M.length (turnS tg fun ρ' M' => evSs G (if tr then M.length else n) ρ' M' b) ig.1 ρ M := (rfl)
@[simp] theorem evS_tryK (c i j : Nat) (b : Ss) : evS G n ρ M (.tryK c i j b) = (match evSs G n ρ M b with | .ex e ρ' M' => if subC e.cls c then .nx (((ρ'.set i none).set j (some (.x e.cls e.fs))).set i none) M' else .ex e ρ' M' | o => o) := (rfl)
@[simp] theorem evS_ret (e : E) : evS G n ρ M (.ret e) = (ev G n ρ M e).toS ρ fun v M => .rt v M := (rfl)
@[simp] theorem evS_retN : evS G n ρ M .retN = .rt (.d .none) M := (rfl)
@[simp] theorem evS_raise (c : Nat) (e : E) : evS G n ρ M (.raise c e) = (ev G n ρ M e).toS ρ fun v M => .ex ⟨c, []⟩ ρ M := (rfl)
@[simp] theorem evS_pass : evS G n ρ M .pass = .nx ρ M := (rfl)
@[simp] theorem evSs_nil : evSs G n ρ M .nil = .nx ρ M := (rfl)
@[simp] theorem evSs_cons (s : S) (ss : Ss) : evSs G n ρ M (.cons s ss) = (evS G n ρ M s).seq fun ρ M => evSs G n ρ M ss := (rfl)
end
@[simp] theorem dangle_d (L : Nat) (x : D) : dangle L (some (.d x)) = some (.d x) := (rfl)
@[simp] theorem dangle_n (L : Nat) : dangle L none = none := (rfl)
theorem dangle_p {L k : Nat} (h : k < L) : dangle L (some (.p k)) = some (.p k) := if_pos h
theorem dangle_q {L k : Nat} (h : L ≤ k) : dangle L (some (.p k)) = none := if_neg (by omega)
/-! ### a def's run -/
@[simp] theorem base_frz (n L : Nat) : base .frz n L = L := (rfl)
@[simp] theorem base_cell (n L : Nat) : base .cell n L = L := (rfl)
@[simp] theorem base_keep (n L : Nat) : base .keep n L = n := (rfl)
@[simp] theorem endF_nx (m : Rm) (L : Nat) (ρ : Slots) (M : Mem) : endF m L (.nx ρ M) = giveV m L (.d .none) M := (rfl)
@[simp] theorem endF_rt (m : Rm) (L : Nat) (v : Val) (M : Mem) : endF m L (.rt v M) = giveV m L v M := (rfl)
@[simp] theorem endF_ex (L : Nat) (e : Exc) (ρ : Slots) (M : Mem) : endF .frz L (.ex e ρ M) = .exc e (M.take L) := (rfl)
@[simp] theorem giveV_keep (L : Nat) (v : Val) (M : Mem) : giveV .keep L v M = .ok v M := by cases v <;> rfl
@[simp] theorem giveV_frzd (L : Nat) (d : D) (M : Mem) : giveV .frz L (.d d) M = .ok (.d d) (M.take L) := (rfl)
@[simp] theorem giveV_celld (L : Nat) (d : D) (M : Mem) : giveV .cell L (.d d) M = .ok (.d d) (M.take L) := (rfl)
@[simp] theorem run_of (G : Gam) (m : Rm) (ar sl : Nat) (b : Ss) (n : Nat) (as : List Val) (M : Mem) : (runF G m ar sl b).run n as M = if as.length = ar then endF m M.length (evSs G (base m n M.length) (as.map some ++ List.replicate sl none) M b) else .bad := (rfl)
/-! ### memory -/
theorem get_lt {M : Mem} {p : Nat} {c : Cell} (h : M[p]? = some c) : p < M.length := (List.getElem?_eq_some_iff.mp h).1
@[simp] theorem take_set {M : Mem} {p : Nat} {c : Cell} : (M.set p c).take M.length = M.set p c := List.take_of_length_le (by simp)
@[simp] theorem take_set_app {M X : Mem} {p : Nat} {c : Cell} : (M.set p c ++ X).take M.length = M.set p c := by
  rw [List.take_append_of_le_length (by simp), take_set]
@[simp] theorem get_new {M : Mem} {c : Cell} : (M ++ [c])[M.length]? = some c := by simp
@[simp] theorem set_new {M : Mem} {c d : Cell} : (M ++ [c]).set M.length d = M ++ [d] := by simp
theorem get_old {M X : Mem} {p : Nat} {c : Cell} (h : M[p]? = some c) : (M ++ X)[p]? = some c := by rw [List.getElem?_append_left (get_lt h)]; exact h
theorem set_old {M X : Mem} {p : Nat} {c d : Cell} (h : M[p]? = some c) : (M ++ X).set p d = M.set p d ++ X := by rw [List.set_append_left _ _ (get_lt h)]
theorem get_set {M : Mem} {p : Nat} {c d : Cell} (h : M[p]? = some c) : (M.set p d)[p]? = some d := by rw [List.getElem?_set_self (get_lt h)]
/-- a list that a def made and gives by value -/
theorem giveV_new {M : Mem} {vs : List Val} {ds : List D} (h : vs.mapM (rd 2 (kill M.length (M ++ [.lst vs]))) = some ds) : giveV .frz M.length (.p M.length) (M ++ [.lst vs]) = .ok (.d (.list ds)) M := by
  have e : (kill M.length (M ++ [Cell.lst vs]))[M.length]? = some (.lst vs) := by rw [kill_get]; simp
  simp [giveV, rd, e, h]
theorem mapM_rd {k : Nat} {M : Mem} : ∀ (ds : List D), (ds.map Val.d).mapM (rd k M) = some ds
  | [] => rfl
  | x :: r => by
    have e : rd k M (.d x) = some x := by cases k <;> rfl
    rw [List.map_cons, List.mapM_cons, e, mapM_rd r]; rfl
@[simp] theorem mapM_rdc {k : Nat} {M : Mem} (ds : List D) : ds.mapM (rd k M ∘ Val.d) = some ds := by
  have h := mapM_rd (k := k) (M := M) ds
  rwa [List.mapM_map] at h
@[simp] theorem giveV_newd {M : Mem} (ds : List D) : giveV .frz M.length (.p M.length) (M ++ [.lst (ds.map Val.d)]) = .ok (.d (.list ds)) M := giveV_new (mapM_rd ds)
@[simp] theorem giveV_celln {M : Mem} (ds : List D) : giveV .cell M.length (.p M.length) (M ++ [.lst (ds.map Val.d)]) = .ok (.p M.length) (M ++ [.lst (ds.map Val.d)]) := by
  have e : (ds.map Val.d).all (fun v => match v with | .p j => decide (j < M.length) | _ => true) = true := by simp
  simp [giveV]
theorem giveV_cellr {L r : Nat} {X : Mem} {ds : List D} (hr : L ≤ r) (h : X[r]? = some (.lst (ds.map Val.d))) : giveV .cell L (.p r) X = .ok (.p L) (X.take L ++ [.lst (ds.map Val.d)]) := by
  have e : (ds.map Val.d).all (fun v => match v with | .p j => decide (j < L) | _ => true) = true := by simp
  have h2 : ¬ r < L := by omega
  simp [giveV, h2, h]
theorem giveV_frzr {L r : Nat} {X : Mem} {ds : List D} (hr : L ≤ r) (h : X[r]? = some (.lst (ds.map Val.d))) : giveV .frz L (.p r) X = .ok (.d (.list ds)) (X.take L) := by
  have h2 : ¬ r < L := by omega
  have e : (kill L X)[r]? = some (.lst (ds.map Val.d)) := by rw [kill_get, if_neg h2]; exact h
  simp [giveV, h2, rd, e]
@[simp] theorem rd_d (k : Nat) (M : Mem) (x : D) : rd k M (.d x) = some x := by cases k <;> rfl
@[simp] theorem rdv_d (M : Mem) (x : D) : rdv M (.d x) = some x := rfl
theorem rdv_l {M : Mem} {p : Nat} {ds : List D} (h : M[p]? = some (.lst (ds.map Val.d))) : rdv M (.p p) = some (.list ds) := by
  simp [rdv, rd, h]
theorem rd_l {M : Mem} {p k : Nat} {ds : List D} (h : M[p]? = some (.lst (ds.map Val.d))) : rd (k + 1) M (.p p) = some (.list ds) := by
  simp [rd, h]
/-! ### loops -/
def OutS.nxP (o : OutS) (P : Slots → Mem → Prop) : Prop := match o with | .nx ρ M => P ρ M | _ => False
@[simp] theorem nxP_nx (ρ : Slots) (M : Mem) (P : Slots → Mem → Prop) : (OutS.nx ρ M).nxP P = P ρ M := (rfl)
@[simp] theorem nxP_ite (c : Prop) [Decidable c] (a b : OutS) (P : Slots → Mem → Prop) : (if c then a else b).nxP P = if c then a.nxP P else b.nxP P := by split <;> rfl
theorem nxP_ok {o : OutS} {P : Slots → Mem → Prop} (h : o.nxP P) : ∃ ρ M, o = .nx ρ M ∧ P ρ M := by
  cases o <;> first | exact ⟨_, _, rfl, h⟩ | cases h
/-- runs on, is left with a value, or raises -/
def OutS.anyP (o : OutS) (P : Slots → Mem → Prop) (R : Val → Mem → Prop) (X : Exc → Mem → Prop) : Prop := match o with | .nx ρ M => P ρ M | .rt v M => R v M | .ex e _ M => X e M | .bad => False
@[simp] theorem anyP_nx (ρ : Slots) (M : Mem) (P : Slots → Mem → Prop) (R : Val → Mem → Prop) (X : Exc → Mem → Prop) : (OutS.nx ρ M).anyP P R X = P ρ M := (rfl)
@[simp] theorem anyP_rt (v : Val) (M : Mem) (P : Slots → Mem → Prop) (R : Val → Mem → Prop) (X : Exc → Mem → Prop) : (OutS.rt v M).anyP P R X = R v M := (rfl)
@[simp] theorem anyP_ex (e : Exc) (ρ : Slots) (M : Mem) (P : Slots → Mem → Prop) (R : Val → Mem → Prop) (X : Exc → Mem → Prop) : (OutS.ex e ρ M).anyP P R X = X e M := (rfl)
@[simp] theorem anyP_ite (c : Prop) [Decidable c] (a b : OutS) (P : Slots → Mem → Prop) (R : Val → Mem → Prop) (X : Exc → Mem → Prop) : (if c then a else b).anyP P R X = if c then a.anyP P R X else b.anyP P R X := by split <;> rfl
theorem anyP_ok {o : OutS} {P : Slots → Mem → Prop} {R : Val → Mem → Prop} {X : Exc → Mem → Prop} (h : o.anyP P R X) : (∃ ρ M, o = .nx ρ M ∧ P ρ M) ∨ (∃ v M, o = .rt v M ∧ R v M) ∨ (∃ e ρ M, o = .ex e ρ M ∧ X e M) := by
  cases o with
  | nx ρ M => exact .inl ⟨_, _, rfl, h⟩
  | rt v M => exact .inr (.inl ⟨_, _, rfl, h⟩)
  | ex e ρ M => exact .inr (.inr ⟨_, _, _, rfl, h⟩)
  | bad => cases h
def Out.okP {α : Type} (o : Out α) (P : α → Mem → Prop) : Prop := match o with | .ok a M => P a M | _ => False
@[simp] theorem okP_ok {α : Type} (a : α) (M : Mem) (P : α → Mem → Prop) : (Out.ok a M).okP P = P a M := (rfl)
@[simp] theorem okP_ite {α : Type} (c : Prop) [Decidable c] (a b : Out α) (P : α → Mem → Prop) : (if c then a else b).okP P = if c then a.okP P else b.okP P := by split <;> rfl
theorem okP_ok' {α : Type} {o : Out α} {P : α → Mem → Prop} (h : o.okP P) : ∃ a M, o = .ok a M ∧ P a M := by
  cases o <;> first | exact ⟨_, _, rfl, h⟩ | cases h
/-- a comprehension whose turns change nothing -/
theorem foldC_pure {α : Type} {g : Option Nat} {f : Itm → Mem → Out (Option Val)} {M : Mem} {enc : α → Itm} (p : α → Bool) (v : α → Val) : ∀ (xs : List α) (acc : List Val), (∀ x ∈ xs, f (enc x) M = .ok (if p x then some (v x) else none) M) → foldC g f (xs.map enc) acc M = .ok (acc ++ (xs.filter p).map v) M
  | [], acc, _ => by simp [foldC]
  | x :: r, acc, h => by
    have hg : ∀ a : Out (List Val), guard g M M a = a := fun a => by cases g <;> simp [guard]
    simp only [List.map_cons, foldC, h x List.mem_cons_self, hg]
    rw [foldC_pure p v r _ fun y hy => h y (List.mem_cons_of_mem _ hy)]
    cases hp : p x <;> simp [List.filter_cons, hp]
theorem foldC_map {α : Type} {g : Option Nat} {f : Itm → Mem → Out (Option Val)} {M : Mem} {enc : α → Itm} {o : Out (List Val)} {xs : List α} {acc : List Val} (e : foldC g f (xs.map enc) acc M = o) (v : α → Val) (h : ∀ x ∈ xs, f (enc x) M = .ok (some (v x)) M) : o = .ok (acc ++ xs.map v) M := by
  rw [← e, foldC_pure (fun _ => true) v xs acc fun x hx => by simpa using h x hx, List.filter_eq_self.mpr fun _ _ => rfl]
theorem foldC_filter {α : Type} {g : Option Nat} {f : Itm → Mem → Out (Option Val)} {M : Mem} {enc : α → Itm} {o : Out (List Val)} {xs : List α} {acc : List Val} (e : foldC g f (xs.map enc) acc M = o) (p : α → Bool) (v : α → Val) (h : ∀ x ∈ xs, f (enc x) M = .ok (if p x then some (v x) else none) M) : o = .ok (acc ++ (xs.filter p).map v) M := by
  rw [← e, foldC_pure p v xs acc h]
/-- a comprehension by its invariant -/
theorem foldC_inv {g : Option Nat} {f : Itm → Mem → Out (Option Val)} (I : List Itm → List Val → Mem → Prop) : ∀ (items : List Itm) (done : List Itm) (acc : List Val) (M : Mem) {o : Out (List Val)}, foldC g f items acc M = o → I done acc M →
    (∀ pre x post acc M, done ++ items = pre ++ x :: post → I pre acc M → ∃ v M', f x M = .ok v M' ∧ (∀ k, g = some k → M'[k]? = M[k]?) ∧ I (pre ++ [x]) (acc ++ v.toList) M') → ∃ vs M', o = .ok vs M' ∧ I (done ++ items) vs M'
  | [], done, acc, M, o, e, h, _ => ⟨acc, M, by rw [← e]; rfl, by simpa using h⟩
  | x :: r, done, acc, M, o, e, h, hs => by
    obtain ⟨v, M', e1, e2, h'⟩ := hs done x r acc M rfl h
    have hg : ∀ a : Out (List Val), guard g M M' a = a := fun a => by
      cases g with
      | none => rfl
      | some k => simp [guard, e2 k rfl]
    simp only [foldC, e1, hg] at e
    have := foldC_inv I r (done ++ [x]) _ M' e h' fun pre y post acc M hp => hs pre y post acc M (by simpa using hp)
    simpa using this
/-- a for by its invariant: it runs to its end -/
theorem foldS_inv {g : Option Nat} {tr : Bool} {L : Nat} {f : Itm → Slots → Mem → OutS} (I : List Itm → Slots → Mem → Prop) : ∀ (items done : List Itm) (ρ : Slots) (M : Mem) {o : OutS}, foldS g tr L f items ρ M = o → I done ρ M →
    (∀ pre x post ρ M, done ++ items = pre ++ x :: post → I pre ρ M → ∃ ρ' M', f x ρ M = .nx ρ' M' ∧ (∀ k, g = some k → M'[k]? = M[k]?) ∧ I (pre ++ [x]) (cutS tr L ρ') (cutM tr L M')) → ∃ ρ' M', o = .nx ρ' M' ∧ I (done ++ items) ρ' M'
  | [], done, ρ, M, o, e, h, _ => ⟨ρ, M, by rw [← e]; rfl, by simpa using h⟩
  | x :: r, done, ρ, M, o, e, h, hs => by
    obtain ⟨ρ', M', e1, e2, h'⟩ := hs done x r ρ M rfl h
    have hg : ∀ a : OutS, guardS g M M' a = a := fun a => by
      cases g with
      | none => rfl
      | some k => simp [guardS, e2 k rfl]
    simp only [foldS, e1, hg] at e
    have := foldS_inv I r (done ++ [x]) _ _ e h' fun pre y post ρ M hp => hs pre y post ρ M (by simpa using hp)
    simpa using this
/-- a for over encoded items, by an invariant over what was taken -/
theorem for_inv {α : Type} {enc : α → Itm} {g : Option Nat} {tr : Bool} {L : Nat} {f : Itm → Slots → Mem → OutS} (I : List α → Slots → Mem → Prop) : ∀ (items done : List α) (ρ : Slots) (M : Mem) {o : OutS}, foldS g tr L f (items.map enc) ρ M = o → I done ρ M →
    (∀ pre x post ρ M, done ++ items = pre ++ x :: post → I pre ρ M → ∃ ρ' M', f (enc x) ρ M = .nx ρ' M' ∧ (∀ k, g = some k → M'[k]? = M[k]?) ∧ I (pre ++ [x]) (cutS tr L ρ') (cutM tr L M')) → ∃ ρ' M', o = .nx ρ' M' ∧ I (done ++ items) ρ' M'
  | [], done, ρ, M, o, e, h, _ => ⟨ρ, M, by rw [← e]; rfl, by simpa using h⟩
  | x :: r, done, ρ, M, o, e, h, hs => by
    obtain ⟨ρ', M', e1, e2, h'⟩ := hs done x r ρ M rfl h
    have hg : ∀ a : OutS, guardS g M M' a = a := fun a => by
      cases g with
      | none => rfl
      | some k => simp [guardS, e2 k rfl]
    simp only [List.map_cons, foldS, e1, hg] at e
    have := for_inv I r (done ++ [x]) _ _ e h' fun pre y post ρ M hp => hs pre y post ρ M (by simpa using hp)
    simpa using this
/-- a for over a range, by an invariant over the number of turns -/
theorem for_rng {enc : Nat → Itm} {g : Option Nat} {tr : Bool} {L m : Nat} {f : Itm → Slots → Mem → OutS} {ρ : Slots} {M : Mem} {o : OutS} (e : foldS g tr L f ((List.range m).map enc) ρ M = o) (I : Nat → Slots → Mem → Prop) (h0 : I 0 ρ M)
    (hs : ∀ i ρ M, i < m → I i ρ M → (f (enc i) ρ M).nxP fun ρ' M' => (∀ k, g = some k → M'[k]? = M[k]?) ∧ I (i + 1) (cutS tr L ρ') (cutM tr L M')) : ∃ ρ' M', o = .nx ρ' M' ∧ I m ρ' M' := by
  obtain ⟨ρ', M', e1, h⟩ := for_inv (fun pre => I pre.length) (List.range m) [] ρ M e h0 (fun pre x post ρ M hx h => by
    have hl : (List.range m)[pre.length]? = some x := by rw [show List.range m = pre ++ x :: post from hx]; simp
    obtain ⟨h1, h2⟩ := List.getElem?_eq_some_iff.mp hl
    rw [List.getElem_range] at h2
    subst h2
    obtain ⟨ρ', M', q1, q2, q3⟩ := nxP_ok (hs _ ρ M (by simpa using h1) h)
    exact ⟨ρ', M', q1, q2, by simpa using q3⟩)
  exact ⟨ρ', M', e1, by simpa using h⟩
/-- a for over a list, by an invariant over the part taken -/
theorem for_lst {α : Type} {enc : α → Itm} {g : Option Nat} {tr : Bool} {L : Nat} {f : Itm → Slots → Mem → OutS} {xs : List α} {ρ : Slots} {M : Mem} {o : OutS} (e : foldS g tr L f (xs.map enc) ρ M = o) (I : List α → Slots → Mem → Prop) (h0 : I [] ρ M)
    (hs : ∀ pre x post ρ M, xs = pre ++ x :: post → I pre ρ M → (f (enc x) ρ M).nxP fun ρ' M' => (∀ k, g = some k → M'[k]? = M[k]?) ∧ I (pre ++ [x]) (cutS tr L ρ') (cutM tr L M')) : ∃ ρ' M', o = .nx ρ' M' ∧ I xs ρ' M' := by
  simpa using for_inv I xs [] ρ M e h0 (fun pre x post ρ M hx h => nxP_ok (hs pre x post ρ M (by simpa using hx) h))
/-- comprehensions that give data -/
theorem lc_map {α : Type} {g : Option Nat} {f : Itm → Mem → Out (Option Val)} {M : Mem} {enc : α → Itm} {o : Out (List Val)} {xs : List α} (e : foldC g f (xs.map enc) [] M = o) (v : α → D) (h : ∀ x ∈ xs, f (enc x) M = .ok (some (.d (v x))) M) : o = .ok (xs.map fun x => .d (v x)) M := by
  simpa using foldC_map e (fun x => .d (v x)) h
theorem lc_flt {α : Type} {g : Option Nat} {f : Itm → Mem → Out (Option Val)} {M : Mem} {enc : α → Itm} {o : Out (List Val)} {xs : List α} (e : foldC g f (xs.map enc) [] M = o) (p : α → Bool) (v : α → D) (h : ∀ x ∈ xs, f (enc x) M = .ok (if p x then some (.d (v x)) else none) M) : o = .ok ((xs.filter p).map fun x => .d (v x)) M := by
  simpa using foldC_filter e p (fun x => .d (v x)) h
/-- a comprehension by its invariant -/
theorem lc_inv {α : Type} {enc : α → Itm} {g : Option Nat} {f : Itm → Mem → Out (Option Val)} {xs : List α} {M : Mem} {o : Out (List Val)} (e : foldC g f (xs.map enc) [] M = o) (I : List α → List Val → Mem → Prop) (h0 : I [] [] M)
    (hs : ∀ pre x post acc M, xs = pre ++ x :: post → I pre acc M → (f (enc x) M).okP fun v M' => (∀ k, g = some k → M'[k]? = M[k]?) ∧ I (pre ++ [x]) (acc ++ v.toList) M') : ∃ vs M', o = .ok vs M' ∧ I xs vs M' := by
  have key : ∀ (items done : List α) (acc : List Val) (M : Mem), done ++ items = xs → I done acc M → ∃ vs M', foldC g f (items.map enc) acc M = .ok vs M' ∧ I xs vs M' := by
    intro items
    induction items with
    | nil => intro done acc M h1 h2; simp at h1; subst h1; exact ⟨acc, M, rfl, h2⟩
    | cons x r ih =>
      intro done acc M h1 h2
      obtain ⟨v, M', e1, e2, h'⟩ := okP_ok' (hs done x r acc M h1.symm h2)
      have hg : ∀ a : Out (List Val), guard g M M' a = a := fun a => by
        cases g with
        | none => rfl
        | some k => simp [guard, e2 k rfl]
      simp only [List.map_cons, foldC, e1, hg]
      exact ih (done ++ [x]) _ _ (by simpa using h1) h'
  obtain ⟨vs, M', e1, h⟩ := key xs [] [] M rfl h0
  exact ⟨vs, M', by rw [← e, e1], h⟩
/-- a for that may be left: by an invariant over the part taken, and what holds when it is left -/
theorem for_any {α : Type} {enc : α → Itm} {g : Option Nat} {tr : Bool} {L : Nat} {f : Itm → Slots → Mem → OutS} {xs : List α} {ρ : Slots} {M : Mem} {o : OutS} (e : foldS g tr L f (xs.map enc) ρ M = o) (I : List α → Slots → Mem → Prop) (R : Val → Mem → Prop) (X : Exc → Mem → Prop) (h0 : I [] ρ M)
    (hs : ∀ pre x post ρ M, xs = pre ++ x :: post → I pre ρ M → (f (enc x) ρ M).anyP (fun ρ' M' => (∀ k, g = some k → M'[k]? = M[k]?) ∧ I (pre ++ [x]) (cutS tr L ρ') (cutM tr L M')) R X) : o.anyP (I xs) R X := by
  have key : ∀ (items done : List α) (ρ : Slots) (M : Mem), done ++ items = xs → I done ρ M → (foldS g tr L f (items.map enc) ρ M).anyP (I xs) R X := by
    intro items
    induction items with
    | nil => intro done ρ M h1 h2; simp at h1; subst h1; exact h2
    | cons x r ih =>
      intro done ρ M h1 h2
      rcases anyP_ok (hs done x r ρ M h1.symm h2) with ⟨ρ', M', e1, e2, h'⟩ | ⟨v, M', e1, h'⟩ | ⟨ee, ρ', M', e1, h'⟩
      · have hg : ∀ a : OutS, guardS g M M' a = a := fun a => by
          cases g with
          | none => rfl
          | some k => simp [guardS, e2 k rfl]
        simp only [List.map_cons, foldS, e1, hg]
        exact ih (done ++ [x]) _ _ (by simpa using h1) h'
      · simp only [List.map_cons, foldS, e1]; exact h'
      · simp only [List.map_cons, foldS, e1]; exact h'
  rw [← e]
  exact key xs [] ρ M rfl h0
/-- a while by its invariant and measure -/
theorem whl_inv {tr : Bool} {L : Nat} {c : Slots → Mem → Out Bool} {b : Slots → Mem → OutS} (I : Nat → Slots → Mem → Prop) (hs : ∀ m ρ M, I m ρ M → ∃ t M', c ρ M = .ok t M' ∧ (t = true → ∃ ρ' M'' m', b ρ M' = .nx ρ' M'' ∧ m' < m ∧ I m' (cutS tr L ρ') (cutM tr L M'')) ∧ (t = false → I 0 ρ M')) : ∀ (m : Nat) (ρ : Slots) (M : Mem), I m ρ M → ∃ k ρ' M', whlF tr L c b k ρ M = .nx ρ' M' ∧ I 0 ρ' M' ∧ True
  | m, ρ, M, h => by
    obtain ⟨t, M', e1, h1, h2⟩ := hs m ρ M h
    cases t with
    | false => exact ⟨1, ρ, M', by simp [whlF, e1], h2 rfl, trivial⟩
    | true =>
      obtain ⟨ρ', M'', m', e2, hm, h3⟩ := h1 rfl
      obtain ⟨k, ρ2, M2, e3, h4⟩ := whl_inv I hs m' _ _ h3
      exact ⟨k + 1, ρ2, M2, by simp [whlF, e1, e2, e3], h4⟩
  termination_by m => m
/-- a comprehension with two clauses whose turns change nothing -/
theorem foldC2_pure {α : Type} {g : Option Nat} {f : Itm → List Val → Mem → Out (List Val)} {M : Mem} {enc : α → Itm} (v : α → List Val) : ∀ (xs pre : List α) (all : List α), all = pre ++ xs → (∀ pre x post, all = pre ++ x :: post → f (enc x) (pre.flatMap v) M = .ok (pre.flatMap v ++ v x) M) →
    foldC2 g f (xs.map enc) (pre.flatMap v) M = .ok (all.flatMap v) M
  | [], pre, all, e, h => by rw [e]; simp [foldC2]
  | x :: r, pre, all, e, h => by
    have hg : ∀ a : Out (List Val), guard g M M a = a := fun a => by cases g <;> simp [guard]
    simp only [List.map_cons, foldC2, h pre x r e, Out.okk, hg]
    have e2 : pre.flatMap v ++ v x = (pre ++ [x]).flatMap v := by simp
    rw [e2]
    exact foldC2_pure v r (pre ++ [x]) all (by rw [e]; simp) h
theorem lc2_map {α : Type} {g : Option Nat} {f : Itm → List Val → Mem → Out (List Val)} {M : Mem} {enc : α → Itm} {o : Out (List Val)} {xs : List α} (e : foldC2 g f (xs.map enc) [] M = o) (v : α → List Val) (h : ∀ pre x post, xs = pre ++ x :: post → f (enc x) (pre.flatMap v) M = .ok (pre.flatMap v ++ v x) M) : o = .ok (xs.flatMap v) M := by
  rw [← e]
  exact foldC2_pure v xs [] xs rfl h
end Fk

/-! FkVals: operations on values, for simp. -/
namespace Fk
open PySem
/-- a text's signs -/
def chars (s : Str) : List Nat := s.cps.toList
section
variable {M : Mem} {m : Md} {n : Nat}
@[simp] theorem isN_none : (Val.d .none).isN = true := (rfl)
@[simp] theorem isN_bool (b : Bool) : (Val.d (.bool b)).isN = false := (rfl)
@[simp] theorem isN_int (b : Int) : (Val.d (.int b)).isN = false := (rfl)
@[simp] theorem isN_str (b : Str) : (Val.d (.str b)).isN = false := (rfl)
@[simp] theorem isN_list (b : List D) : (Val.d (.list b)).isN = false := (rfl)
@[simp] theorem isN_tuple (b : List D) : (Val.d (.tuple b)).isN = false := (rfl)
@[simp] theorem isN_p (k : Nat) : (Val.p k).isN = false := (rfl)
@[simp] theorem isN_x (k : Nat) (fs : List (Str × D)) : (Val.x k fs).isN = false := (rfl)
@[simp] theorem truth_none : truthV M (.d .none) = some false := (rfl)
@[simp] theorem truth_bool (b : Bool) : truthV M (.d (.bool b)) = some b := (rfl)
@[simp] theorem truth_int (b : Int) : truthV M (.d (.int b)) = some (b != 0) := (rfl)
@[simp] theorem truth_list (b : List D) : truthV M (.d (.list b)) = some (!b.isEmpty) := (rfl)
@[simp] theorem truth_tuple (b : List D) : truthV M (.d (.tuple b)) = some (!b.isEmpty) := (rfl)
@[simp] theorem seq_list (xs : List D) : seqOf M (.d (.list xs)) = some (xs.map .d) := (rfl)
@[simp] theorem seq_tuple (xs : List D) : seqOf M (.d (.tuple xs)) = some (xs.map .d) := (rfl)
@[simp] theorem seq_none : seqOf M (.d .none) = none := (rfl)
@[simp] theorem lst_list (xs : List D) : lstOf M (.d (.list xs)) = some (xs.map .d) := (rfl)
theorem seq_p {p : Nat} {vs : List Val} (h : M[p]? = some (.lst vs)) : seqOf M (.p p) = some vs := by simp [seqOf, h]
theorem lst_p {p : Nat} {vs : List Val} (h : M[p]? = some (.lst vs)) : lstOf M (.p p) = some vs := by simp [lstOf, h]
@[simp] theorem len_list (xs : List D) : lenV M (.d (.list xs)) = some xs.length := by simp [lenV]
@[simp] theorem len_tuple (xs : List D) : lenV M (.d (.tuple xs)) = some xs.length := by simp [lenV]
theorem len_str {s : Str} (h : s.length ≤ lim) : lenV M (.d (.str s)) = some s.length := by simp [lenV, h]
theorem len_p {p : Nat} {vs : List Val} (h : M[p]? = some (.lst vs)) : lenV M (.p p) = some vs.length := by simp [lenV, h, seqOf]
@[simp] theorem b_len (v : Val) : bltV m .len M [v] = (match lenV M v with | some n => .ok (.d (.int n)) M | none => .bad) := (rfl)
@[simp] theorem b_int1 (i : Int) : bltV m .int M [.d (.int i)] = .ok (.d (.int i)) M := (rfl)
@[simp] theorem b_intb (b : Bool) : bltV m .int M [.d (.bool b)] = .ok (.d (.int (if b then 1 else 0))) M := (rfl)
@[simp] theorem b_list (v : Val) : bltV m .list M [v] = (match seqOf M v with | some xs => mkL m xs M | none => .bad) := (rfl)
@[simp] theorem data_list (xs : List D) : dataOf M (.d (.list xs)) = some xs := by simp [dataOf]
@[simp] theorem data_tuple (xs : List D) : dataOf M (.d (.tuple xs)) = some xs := by simp [dataOf]
theorem data_p {p : Nat} {xs : List D} (h : M[p]? = some (.lst (xs.map .d))) : dataOf M (.p p) = some xs := by simp [dataOf, seqOf, h]
@[simp] theorem listD_list (xs : List D) : listD M (.d (.list xs)) = some xs := by simp [listD]
theorem listD_p {p : Nat} {xs : List D} (h : M[p]? = some (.lst (xs.map .d))) : listD M (.p p) = some xs := by simp [listD, lstOf, h]
@[simp] theorem tup_list (xs : List D) : tupOf M (.d (.list xs)) = some xs := data_list xs
@[simp] theorem tup_tuple (xs : List D) : tupOf M (.d (.tuple xs)) = some xs := data_tuple xs
@[simp] theorem tup_p (k : Nat) : tupOf M (.p k) = dataOf M (.p k) := (rfl)
theorem tup_str {s : Str} (h : s.length ≤ lim) : tupOf M (.d (.str s)) = some (s.cps.toList.map sgn) := by
  show (if _ then _ else _) = _
  rw [if_pos h]
@[simp] theorem b_tuple (v : Val) : bltV m .tuple M [v] = (match tupOf M v with | some xs => .ok (.d (.tuple xs)) M | none => .bad) := (rfl)
@[simp] theorem b_all (v : Val) : bltV m .all M [v] = (match (listD M v).bind boolsL with | some bs => .ok (.d (.bool (bs.all id))) M | none => .bad) := (rfl)
@[simp] theorem b_sum (v : Val) : bltV m .sum M [v] = (match (listD M v).bind intsL with | some ns => .ok (.d (.int ns.sum)) M | none => .bad) := (rfl)
@[simp] theorem b_max1 (v : Val) : bltV m .max1 M [v] = (match (listD M v).bind intsL with | some (i :: r) => .ok (.d (.int (maxL (i :: r)))) M | _ => .bad) := (rfl)
@[simp] theorem b_min1 (v : Val) : bltV m .min1 M [v] = (match (listD M v).bind intsL with | some (i :: r) => .ok (.d (.int (minL (i :: r)))) M | _ => .bad) := (rfl)
@[simp] theorem b_max2 (i j : Int) : bltV m .max2 M [.d (.int i), .d (.int j)] = .ok (.d (.int (if j > i then j else i))) M := (rfl)
@[simp] theorem b_min2 (i j : Int) : bltV m .min2 M [.d (.int i), .d (.int j)] = .ok (.d (.int (if j < i then j else i))) M := (rfl)
@[simp] theorem b_strs (s : Str) : bltV m .str M [.d (.str s)] = .ok (.d (.str s)) M := (rfl)
@[simp] theorem b_strn : bltV m .str M [.d .none] = .ok (.d (.str "None")) M := by
  have h : (decide ((("None" : Str)).length ≤ lim)) = true := by decide +kernel
  show (if isDisp .none && PyData.showable .none && !PyData.hasDict .none && decide (PyData.depth .none ≤ 64) && decide ((PyData.shown .none).length ≤ lim) then Out.ok (Val.d (.str (PyData.shown .none))) M else Out.bad) = _
  rw [show PyData.shown .none = ("None" : Str) from by rw [PyData.shown]]
  rw [if_pos (by rw [h]; simp [isDisp, PyData.showable, PyData.hasDict, PyData.depth])]
@[simp] theorem b_strb (b : Bool) : bltV m .str M [.d (.bool b)] = .ok (.d (.str (if b then "True" else "False"))) M := by
  have h : ∀ b : Bool, (decide (((if b then "True" else "False" : Str)).length ≤ lim)) = true := by decide +kernel
  show (if isDisp (.bool b) && PyData.showable (.bool b) && !PyData.hasDict (.bool b) && decide (PyData.depth (.bool b) ≤ 64) && decide ((PyData.shown (.bool b)).length ≤ lim) then Out.ok (Val.d (.str (PyData.shown (.bool b)))) M else Out.bad) = _
  rw [show PyData.shown (.bool b) = (if b then "True" else "False" : Str) from by rw [PyData.shown]]
  rw [if_pos (by rw [h]; simp [isDisp, PyData.showable, PyData.hasDict, PyData.depth])]
/-- str() may be asked -/
def shw (d : D) : Bool := isDisp d && d.showable && !d.hasDict && decide (d.depth ≤ 64) && decide (d.shown.length ≤ lim)
theorem b_strl {xs : List D} (h : shw (.list xs) = true) : bltV m .str M [.d (.list xs)] = .ok (.d (.str (PyData.shown (.list xs)))) M := by
  show (match rdv M (.d (.list xs)) with | some d => if shw d = true then Out.ok (Val.d (.str d.shown)) M else Out.bad | none => Out.bad) = _
  simp [h]
theorem b_strt {xs : List D} (h : shw (.tuple xs) = true) : bltV m .str M [.d (.tuple xs)] = .ok (.d (.str (PyData.shown (.tuple xs)))) M := by
  show (match rdv M (.d (.tuple xs)) with | some d => if shw d = true then Out.ok (Val.d (.str d.shown)) M else Out.bad | none => Out.bad) = _
  simp [h]
@[simp] theorem bools_map {α : Type} (f : α → Bool) : ∀ xs : List α, boolsL (xs.map fun x => .bool (f x)) = some (xs.map f)
  | [] => rfl
  | x :: r => by simp [boolsL, bools_map f r]
@[simp] theorem ints_map {α : Type} (f : α → Int) : ∀ xs : List α, intsL (xs.map fun x => .int (f x)) = some (xs.map f)
  | [] => rfl
  | x :: r => by simp [intsL, ints_map f r]
@[simp] theorem texts_map {α : Type} (f : α → Str) : ∀ xs : List α, textsL (xs.map fun x => .str (f x)) = some (xs.map f)
  | [] => rfl
  | x :: r => by simp [textsL, texts_map f r]
@[simp] theorem ints_map' (xs : List Int) : intsL (xs.map PyData.int) = some xs := by simpa using ints_map id xs
@[simp] theorem texts_map' (xs : List Str) : textsL (xs.map PyData.str) = some xs := by simpa using texts_map id xs
@[simp] theorem bools_map' (xs : List Bool) : boolsL (xs.map PyData.bool) = some xs := by simpa using bools_map id xs
@[simp] theorem bools_mapc {α : Type} (f : α → Bool) (xs : List α) : boolsL (xs.map (PyData.bool ∘ f)) = some (xs.map f) := bools_map f xs
@[simp] theorem ints_mapc {α : Type} (f : α → Int) (xs : List α) : intsL (xs.map (PyData.int ∘ f)) = some (xs.map f) := ints_map f xs
@[simp] theorem texts_mapc {α : Type} (f : α → Str) (xs : List α) : textsL (xs.map (PyData.str ∘ f)) = some (xs.map f) := texts_map f xs
theorem isi_pl {sub : Nat → Nat → Bool} {p : Nat} {vs : List Val} (h : M[p]? = some (.lst vs)) : isiV sub M (.p p) .list = some true := by simp [isiV, h]
@[simp] theorem lend_d (M' : Mem) (x : D) : lend M (.ok (.d x) M') = if noL x then .ok (.d x) M else .bad := (rfl)
@[simp] theorem noL_none : noL .none = true := (rfl)
@[simp] theorem noL_bool (b : Bool) : noL (.bool b) = true := (rfl)
@[simp] theorem noL_int (b : Int) : noL (.int b) = true := (rfl)
@[simp] theorem noL_str (b : Str) : noL (.str b) = true := (rfl)
@[simp] theorem noL_tuple (b : List D) : noL (.tuple b) = noLs b := (rfl)
@[simp] theorem noLs_nil : noLs [] = true := (rfl)
@[simp] theorem noLs_cons (x : D) (b : List D) : noLs (x :: b) = (noL x && noLs b) := (rfl)
/-! operations -/
@[simp] theorem allD_nil : allD [] = some [] := (rfl)
@[simp] theorem allD_cons (x : D) (r : List Val) : allD (.d x :: r) = (allD r).map (x :: ·) := (rfl)

@[simp] theorem bin_addi (i j : Int) : binV m .add M (.d (.int i)) (.d (.int j)) = .ok (.d (.int (i + j))) M := (rfl)
@[simp] theorem bin_subi (i j : Int) : binV m .sub M (.d (.int i)) (.d (.int j)) = .ok (.d (.int (i - j))) M := (rfl)
theorem bin_muli {i j : Int} (h : mulOk i j = true) : binV m .mul M (.d (.int i)) (.d (.int j)) = .ok (.d (.int (i * j))) M := by
  show (if mulOk i j = true then _ else _) = _
  rw [if_pos h]
theorem bin_modi {i j : Int} (h : 0 < j) : binV m .mod M (.d (.int i)) (.d (.int j)) = .ok (.d (.int (i % j))) M := by
  show (if 0 < j then _ else _) = _
  rw [if_pos h]
theorem bin_fdvi {i j : Int} (h : 0 < j) (h2 : j < 1073741824) : binV m .fdv M (.d (.int i)) (.d (.int j)) = .ok (.d (.int (i / j))) M := by
  show (if 0 < j ∧ j < 1073741824 then _ else _) = _
  rw [if_pos ⟨h, h2⟩]
theorem bin_adds {x y : Str} (h : x.length + y.length ≤ lim) : binV m .add M (.d (.str x)) (.d (.str y)) = .ok (.d (.str (x ++ y))) M := by
  show (if _ then _ else _) = _
  rw [if_pos h]
theorem bin_addt {x y : List D} (h : x.length + y.length ≤ lim) : binV m .add M (.d (.tuple x)) (.d (.tuple y)) = .ok (.d (.tuple (x ++ y))) M := by
  show (if _ then _ else _) = _
  rw [if_pos h]
theorem bin_addl {x y : List D} (h : x.length + y.length ≤ lim) : binV .v .add M (.d (.list x)) (.d (.list y)) = .ok (.d (.list (x ++ y))) M := by
  show (if (x.map Val.d).length + (y.map Val.d).length ≤ lim then mkL .v (x.map Val.d ++ y.map Val.d) M else _) = _
  rw [if_pos (by simpa using h), ← List.map_append]
  simp only [mkL, allD_map]
theorem bin_addlc {x y : List D} (h : x.length + y.length ≤ lim) : binV .c .add M (.d (.list x)) (.d (.list y)) = .ok (.p M.length) (M ++ [.lst ((x ++ y).map .d)]) := by
  show (if (x.map Val.d).length + (y.map Val.d).length ≤ lim then mkL .c (x.map Val.d ++ y.map Val.d) M else _) = _
  rw [if_pos (by simpa using h), ← List.map_append]
  rfl
@[simp] theorem mkL_v (ds : List D) : mkL .v (ds.map .d) M = .ok (.d (.list ds)) M := by simp [mkL]
@[simp] theorem mkL_vm {α : Type} (f : α → D) (xs : List α) : mkL .v (xs.map fun x => Val.d (f x)) M = .ok (.d (.list (xs.map f))) M := by
  rw [show (xs.map fun x => Val.d (f x)) = (xs.map f).map Val.d by simp, mkL_v]
@[simp] theorem mkL_vc {α : Type} (f : α → D) (xs : List α) : mkL .v (xs.map (Val.d ∘ f)) M = .ok (.d (.list (xs.map f))) M := mkL_vm f xs
@[simp] theorem mkL_v0 : mkL .v [] M = .ok (.d (.list [])) M := (rfl)
@[simp] theorem mkL_v1 (a : D) : mkL .v [.d a] M = .ok (.d (.list [a])) M := (rfl)
@[simp] theorem mkL_vcc (a b : D) (r : List Val) : mkL .v (.d a :: .d b :: r) M = (match allD (.d a :: .d b :: r) with | some ds => .ok (.d (.list ds)) M | none => .bad) := (rfl)
@[simp] theorem mkL_c (vs : List Val) : mkL .c vs M = .ok (.p M.length) (M ++ [.lst vs]) := (rfl)
@[simp] theorem cmp_lt (i j : Int) : cmpV .lt M (.d (.int i)) (.d (.int j)) = some (decide (i < j)) := (rfl)
@[simp] theorem cmp_le (i j : Int) : cmpV .le M (.d (.int i)) (.d (.int j)) = some (decide (i ≤ j)) := (rfl)
@[simp] theorem cmp_gt (i j : Int) : cmpV .gt M (.d (.int i)) (.d (.int j)) = some (decide (j < i)) := (rfl)
@[simp] theorem cmp_ge (i j : Int) : cmpV .ge M (.d (.int i)) (.d (.int j)) = some (decide (j ≤ i)) := (rfl)
@[simp] theorem cmp_isb (x t : Bool) : cmpV .isnone M (.d (.bool x)) (.d (.bool t)) = some (x == t) := (rfl)
@[simp] theorem cmp_isntb (x t : Bool) : cmpV .notnone M (.d (.bool x)) (.d (.bool t)) = some (!(x == t)) := (rfl)
@[simp] theorem cmp_isnone (a : Val) : cmpV .isnone M a (.d .none) = some a.isN := (rfl)
@[simp] theorem cmp_notnone (a : Val) : cmpV .notnone M a (.d .none) = some (!a.isN) := (rfl)
theorem cmp_eq {x y : D} (h1 : shp x = true) (h2 : shp y = true) : cmpV .eq M (.d x) (.d y) = some (PyData.eqv x y) := by
  show (if (shp x && shp y) = true then _ else _) = _
  rw [if_pos (by simp [h1, h2])]
theorem cmp_ne {x y : D} (h1 : shp x = true) (h2 : shp y = true) : cmpV .ne M (.d x) (.d y) = some (!PyData.eqv x y) := by
  show (if (shp x && shp y) = true then _ else _) = _
  rw [if_pos (by simp [h1, h2])]
@[simp] theorem cmp_eqi (i j : Int) : cmpV .eq M (.d (.int i)) (.d (.int j)) = some (i == j) := by rw [cmp_eq rfl rfl]; rfl
@[simp] theorem cmp_nei (i j : Int) : cmpV .ne M (.d (.int i)) (.d (.int j)) = some (!(i == j)) := by rw [cmp_ne rfl rfl]; rfl
theorem cmp_ne_pd {p : Nat} {ds : List D} {y : D} (h : M[p]? = some (.lst (ds.map .d))) (h1 : shp (.list ds) = true) (h2 : shp y = true) : cmpV .ne M (.p p) (.d y) = some (!PyData.eqv (.list ds) y) := by
  unfold cmpV
  simp only [rdv_l h, rdv_d]
  rw [if_pos (by simp [h1, h2])]
theorem cmp_eq_pd {p : Nat} {ds : List D} {y : D} (h : M[p]? = some (.lst (ds.map .d))) (h1 : shp (.list ds) = true) (h2 : shp y = true) : cmpV .eq M (.p p) (.d y) = some (PyData.eqv (.list ds) y) := by
  unfold cmpV
  simp only [rdv_l h, rdv_d]
  rw [if_pos (by simp [h1, h2])]
theorem b_strp {p : Nat} {ds : List D} (h : M[p]? = some (.lst (ds.map .d))) (hs : shw (.list ds) = true) : bltV m .str M [.p p] = .ok (.d (.str (PyData.shown (.list ds)))) M := by
  show (match rdv M (.p p) with | some d => if shw d = true then Out.ok (Val.d (.str d.shown)) M else Out.bad | none => Out.bad) = _
  simp only [rdv_l h, hs, if_true]
@[simp] theorem cmp_in (a b : Val) : cmpV .isin M a b = cmpV.memV M a b := (rfl)
@[simp] theorem cmp_notin (a b : Val) : cmpV .notin M a b = (cmpV.memV M a b).map (!·) := (rfl)
theorem mem_list {x : D} {ys : List D} (h1 : shp x = true) (h2 : shp (.list ys) = true) : cmpV.memV M (.d x) (.d (.list ys)) = some (inD x ys) := by
  show (if (shp x && shp (.list ys)) = true then _ else _) = _
  rw [if_pos (by simp [h1, h2])]
theorem mem_tuple {x : D} {ys : List D} (h1 : shp x = true) (h2 : shp (.tuple ys) = true) : cmpV.memV M (.d x) (.d (.tuple ys)) = some (inD x ys) := by
  show (if (shp x && shp (.tuple ys)) = true then _ else _) = _
  rw [if_pos (by simp [h1, h2])]
theorem mem_p {p : Nat} {x : D} {ys : List D} (h : M[p]? = some (.lst (ys.map .d))) (h1 : shp x = true) (h2 : shp (.list ys) = true) : cmpV.memV M (.d x) (.p p) = some (inD x ys) := by
  have e := rdv_l h
  unfold cmpV.memV
  simp only [h, e]
  rw [if_pos (by simp [h1, h2])]
theorem mem_chr (c : Nat) (y : Str) : cmpV.memV M (.d (sgn c)) (.d (.str y)) = some (decide (c ∈ chars y)) := (rfl)
@[simp] theorem idx_list (xs : List D) (i : Int) : idxV M (.d (.list xs)) (.d (.int i)) = (ixN xs.length i).bind fun j => (xs[j]?).map .d := by simp [idxV]
@[simp] theorem idx_tuple (xs : List D) (i : Int) : idxV M (.d (.tuple xs)) (.d (.int i)) = (ixN xs.length i).bind fun j => (xs[j]?).map .d := by simp [idxV]
theorem idx_str {s : Str} (i : Int) (h : s.length ≤ lim) : idxV M (.d (.str s)) (.d (.int i)) = (ixN s.length i).bind fun j => ((chars s)[j]?).map fun c => .d (sgn c) := by
  unfold chars
  show (if _ then _ else _) = _
  rw [if_pos h]
theorem idx_p {p : Nat} {vs : List Val} {i : Int} (h : M[p]? = some (.lst vs)) : idxV M (.p p) (.d (.int i)) = (ixN vs.length i).bind fun j => vs[j]? := by simp [idxV, h, seqOf]
theorem ixN_pos {n : Nat} {i : Int} (h0 : 0 ≤ i) (h1 : i < n) : ixN n i = some i.toNat := by simp [ixN, h0, h1]
theorem ixN_nat {n i : Nat} (h1 : i < n) : ixN n (i : Int) = some i := by rw [ixN_pos (by omega) (by omega)]; simp
@[simp] theorem slc_tuple (xs : List D) (lo hi : Option Int) : slcV m M (.d (.tuple xs)) lo hi = .ok (.d (.tuple (cut xs lo hi))) M := (rfl)
@[simp] theorem slc_list (xs : List D) (lo hi : Option Int) : slcV .v M (.d (.list xs)) lo hi = .ok (.d (.list (cut xs lo hi))) M := by
  have e : cut (xs.map Val.d) lo hi = (cut xs lo hi).map Val.d := by simp [cut, List.map_drop, List.map_take]
  show mkL .v (cut (xs.map Val.d) lo hi) M = _
  rw [e, mkL_v]
theorem slc_str {s : Str} {lo hi : Option Int} (h : s.length ≤ lim) : slcV m M (.d (.str s)) lo hi = .ok (.d (.str ⟨(cut (chars s) lo hi).toArray⟩)) M := by
  unfold chars
  show (if _ then _ else _) = _
  rw [if_pos h]
@[simp] theorem cut_all {α : Type} (xs : List α) : cut xs none none = xs := by simp [cut, sIx]
theorem sIx_nn {n d : Nat} {k : Int} (h : 0 ≤ k) : sIx n d (some k) = min k.toNat n := by
  simp only [sIx]; rw [if_neg (by omega)]
@[simp] theorem cut_from {α : Type} (xs : List α) {k : Int} (h : 0 ≤ k) : cut xs (some k) none = xs.drop k.toNat := by
  simp only [cut, sIx_nn h]
  simp only [sIx]
  rcases Nat.le_total k.toNat xs.length with h | h
  · rw [Nat.min_eq_left h, List.take_of_length_le (by simp)]
  · rw [Nat.min_eq_right h, List.drop_eq_nil_of_le h]; simp
@[simp] theorem cut_to {α : Type} (xs : List α) {k : Int} (h : 0 ≤ k) : cut xs none (some k) = xs.take k.toNat := by
  simp only [cut, sIx_nn h]
  simp only [sIx, List.drop_zero, Nat.sub_zero]
  rcases Nat.le_total k.toNat xs.length with h | h
  · rw [Nat.min_eq_left h]
  · rw [Nat.min_eq_right h, List.take_length, List.take_of_length_le h]
@[simp] theorem cut_mid {α : Type} (xs : List α) {j k : Int} (h0 : 0 ≤ j) (h : 0 ≤ k) : cut xs (some j) (some k) = (xs.take k.toNat).drop j.toNat := by
  simp only [cut, sIx_nn h, sIx_nn h0]
  generalize j.toNat = j
  generalize k.toNat = k
  apply List.ext_getElem?
  intro i
  simp only [List.getElem?_take, List.getElem?_drop]
  by_cases h1 : j ≤ xs.length
  · rw [Nat.min_eq_left h1]
    by_cases h3 : j + i < xs.length
    · by_cases h2 : j + i < k
      · rw [if_pos (by omega), if_pos h2]
      · rw [if_neg (by omega), if_neg h2]
    · have : xs[j + i]? = none := List.getElem?_eq_none_iff.mpr (by omega)
      rw [this]; split <;> split <;> rfl
  · have e2 : xs[j + i]? = none := List.getElem?_eq_none_iff.mpr (by omega)
    rw [e2, if_neg (by omega)]; split <;> rfl
theorem cut_neg1 {α : Type} (xs : List α) : cut xs none (some (-1)) = xs.dropLast := by
  simp only [cut, sIx, List.drop_zero, Nat.sub_zero]
  rw [if_pos (by decide), List.dropLast_eq_take]
  congr 1
  omega
theorem idxs_z {ds : List D} (h : ds.length ≤ lim) : idxs (ds.map Val.d) = some (ds.zipIdx.map fun q => Itm.t [.int (q.2 : Int), q.1]) := by
  have key : ∀ (ds : List D) (k : Nat), (List.range' k ds.length).zipWith (fun (i : Nat) x => Itm.t [.int (i : Int), x]) ds = (ds.zipIdx k).map fun q => Itm.t [.int (q.2 : Int), q.1] := by
    intro ds
    induction ds with
    | nil => intro k; rfl
    | cons d r ih => intro k; simp [List.range'_succ, ih (k + 1)]
  simp only [idxs, allD_map, Option.bind_some, if_pos h]
  rw [← key ds 0, List.range_eq_range']
@[simp] theorem items_list (xs : List D) : itemsOf M (.d (.list xs)) = some (xs.map .d) := by simp [itemsOf]
@[simp] theorem items_tuple (xs : List D) : itemsOf M (.d (.tuple xs)) = some (xs.map .d) := by simp [itemsOf]
theorem items_str {s : Str} (h : s.length ≤ lim) : itemsOf M (.d (.str s)) = some ((chars s).map fun c => .d (sgn c)) := by simp [itemsOf, h, chars]
theorem items_p {p : Nat} {vs : List Val} (h : M[p]? = some (.lst vs)) : itemsOf M (.p p) = some vs := by simp [itemsOf, seqOf, h]
@[simp] theorem gd_d (x : D) : gdOf (.d x) = none := (rfl)
@[simp] theorem gd_p (k : Nat) : gdOf (.p k) = some k := (rfl)
@[simp] theorem recv_list (xs : List D) : recvT M (.d (.list xs)) = some .list := (rfl)
@[simp] theorem recv_tuple (xs : List D) : recvT M (.d (.tuple xs)) = some .tuple := (rfl)
@[simp] theorem recv_str (s : Str) : recvT M (.d (.str s)) = some .str := (rfl)
theorem recv_p {p : Nat} {vs : List Val} (h : M[p]? = some (.lst vs)) : recvT M (.p p) = some .list := by simp [recvT, h]
@[simp] theorem mt_append : mtOk .append .list = true := (rfl)
@[simp] theorem mt_insert : mtOk .insert .list = true := (rfl)
@[simp] theorem mt_pop0 : mtOk .pop0 .list = true := (rfl)
@[simp] theorem mt_pop1 : mtOk .pop1 .list = true := (rfl)
@[simp] theorem mt_clear : mtOk .clear .list = true := (rfl)
@[simp] theorem mt_reverse : mtOk .reverse .list = true := (rfl)
@[simp] theorem mt_count : mtOk .count .list = true := (rfl)
@[simp] theorem mt_index : mtOk .index .list = true := (rfl)
@[simp] theorem mt_indext : mtOk .index .tuple = true := (rfl)
@[simp] theorem mt_split : mtOk .split .str = true := (rfl)
@[simp] theorem mt_join : mtOk .join .str = true := (rfl)
@[simp] theorem mt_upper : mtOk .upper .str = true := (rfl)
@[simp] theorem mt_get1 : mtOk .get1 .dict = true := (rfl)
@[simp] theorem mt_get2 : mtOk .get2 .dict = true := (rfl)
@[simp] theorem mayPut_d (n k : Nat) (x : D) : mayPut n k (.d x) = true := (rfl)
theorem m_append {p : Nat} {vs : List Val} {a : Val} (h : M[p]? = some (.lst vs)) (hl : vs.length < lim) (ha : mayPut n p a = true) : bmV m n .append M (.p p) [a] = .ok (.d .none) (M.set p (.lst (vs ++ [a]))) := by simp [bmV, h, hl, ha]
theorem m_insert {p : Nat} {vs : List Val} {a : Val} {i : Int} (h : M[p]? = some (.lst vs)) (hl : vs.length < lim) (h0 : 0 ≤ i) (h1 : i < 2 ^ 63) (ha : mayPut n p a = true) : bmV m n .insert M (.p p) [.d (.int i), a] = .ok (.d .none) (M.set p (.lst (vs.take i.toNat ++ [a] ++ vs.drop i.toNat))) := by
  simp only [bmV, h]
  rw [if_pos ⟨hl, h0, h1, ha⟩]
theorem m_clear {p : Nat} {vs : List Val} (h : M[p]? = some (.lst vs)) : bmV m n .clear M (.p p) [] = .ok (.d .none) (M.set p (.lst [])) := by simp [bmV, h]
theorem m_reverse {p : Nat} {vs : List Val} (h : M[p]? = some (.lst vs)) : bmV m n .reverse M (.p p) [] = .ok (.d .none) (M.set p (.lst vs.reverse)) := by simp [bmV, h]
theorem m_split {a b : Str} (hb : 0 < b.length) (ha : a.length + 2 ≤ lim) : bmV m n .split M (.d (.str a)) [.d (.str b)] = .ok (.d (.list ((Txt.split a b).map .str))) M := by
  simp only [bmV]
  rw [if_pos ⟨hb, ha⟩]
theorem m_upper {a : Str} (h : 3 * a.length ≤ lim) : bmV m n .upper M (.d (.str a)) [] = .ok (.d (.str (Txt.upper a))) M := by
  simp [bmV, h]
theorem m_join {a : Str} {v : Val} {ds : List D} {ys : List Str} (hv : dataOf M v = some ds) (hd : textsL ds = some ys) (hl : (ys.map (·.length)).sum + ys.length * a.length ≤ lim) : bmV m n .join M (.d (.str a)) [v] = .ok (.d (.str (Txt.join a ys))) M := by
  simp only [bmV, hv, Option.bind_some, hd]
  rw [if_pos hl]
@[simp] theorem asg_one (i : Nat) (x : Val) (ρ : Slots) : asg (.one i) (.v x) ρ = some (ρ.set i (some x)) := (rfl)
@[simp] theorem asg_tup (is : List Nat) (ds : List D) (ρ : Slots) : asg (.tup is) (.v (.d (.tuple ds))) ρ = if ds.length = is.length then some (setAll is ds ρ) else none := (rfl)
@[simp] theorem asg_t (is : List Nat) (ds : List D) (ρ : Slots) : asg (.tup is) (.t ds) ρ = if ds.length = is.length then some (setAll is ds ρ) else none := (rfl)
@[simp] theorem setAll_nil (ds : List D) (ρ : Slots) : setAll [] ds ρ = ρ := by cases ds <;> (rfl)
@[simp] theorem setAll_cons (i : Nat) (is : List Nat) (d : D) (ds : List D) (ρ : Slots) : setAll (i :: is) (d :: ds) ρ = setAll is ds (ρ.set i (some (.d d))) := (rfl)
@[simp] theorem wipe_nil (ρ : Slots) : wipeS ρ [] = ρ := (rfl)
@[simp] theorem wipe_cons (ρ : Slots) (v : Nat) (vs : List Nat) : wipeS ρ (v :: vs) = (wipeS ρ vs).set v none := (rfl)
@[simp] theorem turnS_one (i : Nat) (f : Slots → Mem → OutS) (x : Val) (ρ : Slots) : turnS (.one i) f (.v x) ρ M = f (ρ.set i (some x)) M := (rfl)
@[simp] theorem turnS_tup (is : List Nat) (f : Slots → Mem → OutS) (ds : List D) (ρ : Slots) : turnS (.tup is) f (.v (.d (.tuple ds))) ρ M = if ds.length = is.length then f (setAll is ds ρ) M else .bad := by
  simp only [turnS, asg_tup]; split <;> simp_all
@[simp] theorem turnS_t (is : List Nat) (f : Slots → Mem → OutS) (ds : List D) (ρ : Slots) : turnS (.tup is) f (.t ds) ρ M = if ds.length = is.length then f (setAll is ds ρ) M else .bad := by
  simp only [turnS, asg_t]; split <;> simp_all
@[simp] theorem stepC_one (ρ : Slots) (vs : List Nat) (i : Nat) (tF : Slots → Mem → Out Bool) (eF : Slots → Mem → Out Val) (x : Val) : stepC ρ vs (.one i) tF eF (.v x) M = (tF ((wipeS ρ vs).set i (some x)) M).bind fun b M => if b then (eF ((wipeS ρ vs).set i (some x)) M).bind fun y M => .ok (some y) M else .ok none M := (rfl)
@[simp] theorem stepC_tup (ρ : Slots) (vs is : List Nat) (tF : Slots → Mem → Out Bool) (eF : Slots → Mem → Out Val) (ds : List D) (h : ds.length = is.length) : stepC ρ vs (.tup is) tF eF (.v (.d (.tuple ds))) M = (tF (setAll is ds (wipeS ρ vs)) M).bind fun b M => if b then (eF (setAll is ds (wipeS ρ vs)) M).bind fun y M => .ok (some y) M else .ok none M := by
  simp [stepC, h]
@[simp] theorem stepC_t (ρ : Slots) (vs is : List Nat) (tF : Slots → Mem → Out Bool) (eF : Slots → Mem → Out Val) (ds : List D) (h : ds.length = is.length) : stepC ρ vs (.tup is) tF eF (.t ds) M = (tF (setAll is ds (wipeS ρ vs)) M).bind fun b M => if b then (eF (setAll is ds (wipeS ρ vs)) M).bind fun y M => .ok (some y) M else .ok none M := by
  simp [stepC, h]
theorem rng1_ok {j : Int} (h0 : -(2 ^ 62) ≤ j) (h1 : j ≤ lim) : rng1V (.d (.int j)) = some ((List.range j.toNat).map fun (i : Nat) => Itm.v (.d (.int (i : Int)))) := by
  have e : ∀ i : Nat, (0 : Int) + i = i := fun i => by omega
  simp only [rng1V, if_pos (And.intro h0 h1), e]
theorem rng1_nat {j : Nat} (h1 : j ≤ lim) : rng1V (.d (.int (j : Int))) = some ((List.range j).map fun (i : Nat) => Itm.v (.d (.int (i : Int)))) := by
  rw [rng1_ok (by omega) (by omega)]; simp
theorem idxs_ok {ds : List D} (h : ds.length ≤ lim) : idxs (ds.map Val.d) = some ((List.range ds.length).zipWith (fun (i : Nat) x => Itm.t [.int i, x]) ds) := by
  simp [idxs, h]
@[simp] theorem view_d (x : D) : viewV M (.d x) = some (.d x) := (rfl)
theorem view_p {p : Nat} {ds : List D} (h : M[p]? = some (.lst (ds.map .d))) : viewV M (.p p) = some (.d (.list ds)) := by
  show (rdv M (.p p)).map Val.d = _
  rw [rdv_l h]; rfl
end
@[simp] theorem rev_t {m : Md} {M : Mem} (xs : List D) : revV m M (.d (.tuple xs)) = .ok (.d (.tuple xs.reverse)) M := (rfl)
@[simp] theorem rev_l {M : Mem} (xs : List D) : revV .v M (.d (.list xs)) = .ok (.d (.list xs.reverse)) M := by
  have e : (xs.map Val.d).reverse = xs.reverse.map Val.d := by rw [List.map_reverse]
  show (match allD (xs.map Val.d).reverse with | some ds => Out.ok (Val.d (.list ds)) M | none => .bad) = _
  rw [e, allD_map]
theorem bin_rept {m : Md} {M : Mem} {xs : List D} {k : Int} (h : xs ≠ []) (h1 : 2 ≤ k) (h2 : k ≤ 1000) (h3 : xs.length ≤ 1000) : binV m .mul M (.d (.tuple xs)) (.d (.int k)) = .ok (.d (.tuple (List.replicate k.toNat xs).flatten)) M := by
  have : xs.isEmpty = false := by cases xs <;> simp_all
  simp [binV, this, h1, h2, h3]
/-! ### dicts, sets -/
theorem in_dct {M : Mem} {p : Nat} {kvs : List (D × Val)} {x : D} (h : M[p]? = some (.dict kvs)) (ok : dkOk kvs x = true) : cmpV .isin M (.d x) (.p p) = some (kLook x kvs).isSome := by
  simp [cmpV, cmpV.memV, h, ok]
theorem notin_dct {M : Mem} {p : Nat} {kvs : List (D × Val)} {x : D} (h : M[p]? = some (.dict kvs)) (ok : dkOk kvs x = true) : cmpV .notin M (.d x) (.p p) = some (!(kLook x kvs).isSome) := by
  simp [cmpV, cmpV.memV, h, ok]
theorem idx_dct {M : Mem} {p : Nat} {kvs : List (D × Val)} {x : D} (h : M[p]? = some (.dict kvs)) (ok : dkOk kvs x = true) : idxV M (.p p) (.d x) = kLook x kvs := by
  simp [idxV, h, ok]
theorem set_dct {M : Mem} {n p : Nat} {kvs : List (D × Val)} {x : D} {v : Val} (h : M[p]? = some (.dict kvs)) (ok : dkOk kvs x = true) (hl : kvs.length < lim) (hm : mayPut n p v = true) : setIxV M n (.p p) (.d x) v = some (M.set p (.dict (kPut x v kvs))) := by
  cases x <;> simp [setIxV, h, ok, hl, hm]
@[simp] theorem b_lenset {m : Md} {M : Mem} (v : Val) : bltV m .lenset M [v] = (match listD M v with | some ds => if lsOk ds then .ok (.d (.int (nub ds).length)) M else .bad | none => .bad) := (rfl)
theorem b_sset {m : Md} {M : Mem} {ns : List Int} (h : ns.length < 63) : bltV .v .sset M [.d (.list (ns.map .int))] = .ok (.d (.list ((srt ns).map .int))) M := by
  have e : intsL (ns.map PyData.int) = some ns := by
    clear h
    induction ns with
    | nil => rfl
    | cons x r ih => simp [intsL, ih]
  have e2 : (srt ns).map (fun i => Val.d (.int i)) = ((srt ns).map PyData.int).map Val.d := by simp
  have a1 : listD M (.d (.list (ns.map .int))) = some (ns.map .int) := allD_map _
  simp only [bltV, a1, Option.bind_some, e, h, if_true, mkL, e2, allD_map]
end Fk

/-! FkFit: sizes of data, equality of data, texts. -/
namespace Fk
open PySem
/-- small enough, to a depth -/
def Fit : Nat → D → Prop
  | _, .none => True
  | _, .bool _ => True
  | _, .int _ => True
  | _, .str s => PyData.strOk s = true ∧ s.length ≤ lim
  | n + 1, .list xs => xs.length ≤ lim ∧ ∀ x ∈ xs, Fit n x
  | n + 1, .tuple xs => xs.length ≤ lim ∧ ∀ x ∈ xs, Fit n x
  | _, _ => False
@[simp] theorem fit_none (n : Nat) : Fit n .none := by cases n <;> trivial
@[simp] theorem fit_bool (n : Nat) (b : Bool) : Fit n (.bool b) := by cases n <;> trivial
@[simp] theorem fit_int (n : Nat) (b : Int) : Fit n (.int b) := by cases n <;> trivial
theorem fit_str (n : Nat) (s : Str) : Fit n (.str s) ↔ PyData.strOk s = true ∧ s.length ≤ lim := by cases n <;> exact Iff.rfl
theorem fit_list (n : Nat) (xs : List D) : Fit (n + 1) (.list xs) ↔ xs.length ≤ lim ∧ ∀ x ∈ xs, Fit n x := Iff.rfl
theorem fit_tuple (n : Nat) (xs : List D) : Fit (n + 1) (.tuple xs) ↔ xs.length ≤ lim ∧ ∀ x ∈ xs, Fit n x := Iff.rfl
theorem Fit.up {n : Nat} : ∀ {m : Nat} {x : D}, Fit n x → n ≤ m → Fit m x := by
  induction n with
  | zero =>
    intro m x h hm
    cases x with
    | none => simp
    | bool b => simp
    | int i => simp
    | str s => exact (fit_str _ _).mpr ((fit_str _ _).mp h)
    | list xs => cases h
    | tuple xs => cases h
    | dict xs => cases h
  | succ n ih =>
    intro m x h hm
    obtain ⟨m, rfl⟩ : ∃ k, m = k + 1 := ⟨m - 1, by omega⟩
    cases x with
    | none => simp
    | bool b => simp
    | int i => simp
    | str s => exact (fit_str _ _).mpr ((fit_str _ _).mp h)
    | list xs => exact ⟨h.1, fun x hx => ih (h.2 x hx) (by omega)⟩
    | tuple xs => exact ⟨h.1, fun x hx => ih (h.2 x hx) (by omega)⟩
    | dict xs => cases h
theorem depthAll_le {n : Nat} : ∀ {xs : List D}, (∀ x ∈ xs, PyData.depth x ≤ n) → PyData.depthAll xs ≤ n
  | [], _ => Nat.zero_le _
  | x :: r, h => by
    rw [PyData.depthAll]
    exact Nat.max_le.mpr ⟨h x List.mem_cons_self, depthAll_le fun y hy => h y (List.mem_cons_of_mem _ hy)⟩
theorem canLayAll_of : ∀ {xs : List D}, (∀ x ∈ xs, PyData.canLay0 x = true) → PyData.canLayAll0 xs = true
  | [], _ => rfl
  | x :: r, h => by
    rw [PyData.canLayAll0, h x List.mem_cons_self, canLayAll_of fun y hy => h y (List.mem_cons_of_mem _ hy)]; rfl
theorem canLayAll_mem : ∀ {xs : List D}, PyData.canLayAll0 xs = true → ∀ x ∈ xs, PyData.canLay0 x = true
  | x :: r, h, y, hy => by
    rw [PyData.canLayAll0, Bool.and_eq_true] at h
    rcases List.mem_cons.mp hy with rfl | hy
    · exact h.1
    · exact canLayAll_mem h.2 y hy
theorem Fit.lay : ∀ {n : Nat} {x : D}, Fit n x → PyData.canLay0 x = true ∧ PyData.depth x ≤ n := by
  intro n
  induction n with
  | zero =>
    intro x h
    cases x with
    | none => exact ⟨rfl, Nat.le_refl _⟩
    | bool b => exact ⟨rfl, Nat.le_refl _⟩
    | int i => exact ⟨rfl, Nat.le_refl _⟩
    | str s => exact ⟨((fit_str _ _).mp h).1, Nat.le_refl _⟩
    | list xs => cases h
    | tuple xs => cases h
    | dict xs => cases h
  | succ n ih =>
    intro x h
    cases x with
    | none => exact ⟨rfl, Nat.zero_le _⟩
    | bool b => exact ⟨rfl, Nat.zero_le _⟩
    | int i => exact ⟨rfl, Nat.zero_le _⟩
    | str s => exact ⟨((fit_str _ _).mp h).1, Nat.zero_le _⟩
    | list xs =>
      refine ⟨?_, ?_⟩
      · rw [PyData.canLay0]; exact canLayAll_of fun x hx => (ih (h.2 x hx)).1
      · rw [PyData.depth]; exact Nat.succ_le_succ (depthAll_le fun x hx => (ih (h.2 x hx)).2)
    | tuple xs =>
      refine ⟨?_, ?_⟩
      · rw [PyData.canLay0]; exact canLayAll_of fun x hx => (ih (h.2 x hx)).1
      · rw [PyData.depth]; exact Nat.succ_le_succ (depthAll_le fun x hx => (ih (h.2 x hx)).2)
    | dict xs => cases h
theorem Fit.shp {n : Nat} {x : D} (h : Fit n x) (hn : n ≤ 64) : shp x = true := by
  obtain ⟨a, b⟩ := h.lay
  simp only [Fk.shp, a, Bool.true_and, decide_eq_true_eq]; omega
theorem shp_list {xs : List D} {n : Nat} (h : ∀ x ∈ xs, Fit n x) (hn : n < 64) : shp (.list xs) = true := by
  have a : PyData.canLay0 (.list xs) = true := by rw [PyData.canLay0]; exact canLayAll_of fun x hx => (h x hx).lay.1
  have b : PyData.depth (.list xs) ≤ n + 1 := by rw [PyData.depth]; exact Nat.succ_le_succ (depthAll_le fun x hx => (h x hx).lay.2)
  simp only [Fk.shp, a, Bool.true_and, decide_eq_true_eq]; omega
theorem shp_tuple {xs : List D} {n : Nat} (h : ∀ x ∈ xs, Fit n x) (hn : n < 64) : shp (.tuple xs) = true := by
  have a : PyData.canLay0 (.tuple xs) = true := by rw [PyData.canLay0]; exact canLayAll_of fun x hx => (h x hx).lay.1
  have b : PyData.depth (.tuple xs) ≤ n + 1 := by rw [PyData.depth]; exact Nat.succ_le_succ (depthAll_le fun x hx => (h x hx).lay.2)
  simp only [Fk.shp, a, Bool.true_and, decide_eq_true_eq]; omega
@[simp] theorem shp_str (s : Str) : shp (.str s) = PyData.strOk s := by
  simp [shp, PyData.canLay0, PyData.depth]
/-! ### equality -/
@[simp] theorem eqv_ss (a b : Str) : PyData.eqv (.str a) (.str b) = (a == b) := by rw [PyData.eqv]
@[simp] theorem eqv_ii (a b : Int) : PyData.eqv (.int a) (.int b) = (a == b) := by rw [PyData.eqv]
@[simp] theorem eqv_bb (a b : Bool) : PyData.eqv (.bool a) (.bool b) = (a == b) := by rw [PyData.eqv]
@[simp] theorem eqv_ll (a b : List D) : PyData.eqv (.list a) (.list b) = PyData.eqvAll a b := by rw [PyData.eqv]
@[simp] theorem eqv_tt (a b : List D) : PyData.eqv (.tuple a) (.tuple b) = PyData.eqvAll a b := by rw [PyData.eqv]
@[simp] theorem eqvAll_nn : PyData.eqvAll [] [] = true := by rw [PyData.eqvAll]
@[simp] theorem eqvAll_cc (x y : D) (a b : List D) : PyData.eqvAll (x :: a) (y :: b) = (PyData.eqv x y && PyData.eqvAll a b) := by rw [PyData.eqvAll]
@[simp] theorem eqvAll_nc (y : D) (b : List D) : PyData.eqvAll [] (y :: b) = false := by rw [PyData.eqvAll]
@[simp] theorem eqvAll_cn (y : D) (b : List D) : PyData.eqvAll (y :: b) [] = false := by rw [PyData.eqvAll]
mutual
theorem eqvR : ∀ d : D, PyData.canLay0 d = true → PyData.eqv d d = true
  | .none, _ => rfl
  | .bool b, _ => by simp
  | .int i, _ => by simp
  | .str x, _ => by simp
  | .list xs, h => by rw [eqv_ll]; exact eqvAllR xs (by rwa [PyData.canLay0] at h)
  | .tuple xs, h => by rw [eqv_tt]; exact eqvAllR xs (by rwa [PyData.canLay0] at h)
  | .dict _, h => by simp [PyData.canLay0] at h
theorem eqvAllR : ∀ xs : List D, PyData.canLayAll0 xs = true → PyData.eqvAll xs xs = true
  | [], _ => eqvAll_nn
  | x :: r, h => by
    rw [PyData.canLayAll0, Bool.and_eq_true] at h
    rw [eqvAll_cc, eqvR x h.1, eqvAllR r h.2]; rfl
end
theorem Fit.refl {n : Nat} {x : D} (h : Fit n x) : PyData.eqv x x = true := eqvR x h.lay.1
/-- no truths within: == is = -/
def NoB : Nat → D → Prop
  | _, .none => True
  | _, .bool _ => False
  | _, .int _ => True
  | _, .str _ => True
  | n + 1, .list xs => ∀ x ∈ xs, NoB n x
  | n + 1, .tuple xs => ∀ x ∈ xs, NoB n x
  | _, _ => False
theorem eqv_iff : ∀ {n : Nat} {x y : D}, NoB n x → NoB n y → (PyData.eqv x y = true ↔ x = y) := by
  intro n
  induction n with
  | zero =>
    intro x y hx hy
    cases x <;> cases y <;> simp_all [NoB, PyData.eqv]
  | succ n ih =>
    have all : ∀ xs ys : List D, (∀ x ∈ xs, NoB n x) → (∀ x ∈ ys, NoB n x) → (PyData.eqvAll xs ys = true ↔ xs = ys) := by
      intro xs
      induction xs with
      | nil => intro ys _ _; cases ys <;> simp
      | cons x r ihr =>
        intro ys hx hy
        cases ys with
        | nil => simp
        | cons y s =>
          rw [eqvAll_cc, Bool.and_eq_true, ih (hx x List.mem_cons_self) (hy y List.mem_cons_self), ihr s (fun z hz => hx z (List.mem_cons_of_mem _ hz)) (fun z hz => hy z (List.mem_cons_of_mem _ hz))]
          simp
    intro x y hx hy
    cases x with
    | list xs => cases y with
      | list ys => rw [eqv_ll, all xs ys hx hy]; simp
      | _ => simp_all [NoB, PyData.eqv]
    | tuple xs => cases y with
      | tuple ys => rw [eqv_tt, all xs ys hx hy]; simp
      | _ => simp_all [NoB, PyData.eqv]
    | _ => cases y <;> simp_all [NoB, PyData.eqv]
theorem inD_iff {n : Nat} {x : D} {xs : List D} (hx : NoB n x) (h : ∀ y ∈ xs, NoB n y) : inD x xs = true ↔ x ∈ xs := by
  simp only [inD, List.any_eq_true]
  constructor
  · rintro ⟨z, hz, e⟩; rw [eqv_iff (h z hz) hx] at e; exact e ▸ hz
  · intro hz; exact ⟨x, hz, (eqv_iff hx hx).mpr rfl⟩
/-- eqv of the same encoding -/
theorem inD_map {α : Type} [BEq α] (f : α → D) (h : ∀ a b, PyData.eqv (f a) (f b) = (a == b)) (x : α) (xs : List α) : inD (f x) (xs.map f) = xs.any (· == x) := by
  simp [inD, List.any_map, Function.comp_def, h]
theorem inD_str (x : Str) (xs : List Str) : inD (.str x) (xs.map .str) = decide (x ∈ xs) := by
  rw [inD_map .str eqv_ss, Bool.eq_iff_iff]; simp
/-! ### types -/
section
variable {sub : Nat → Nat → Bool} {M : Mem}
@[simp] theorem isi_str (s : Str) : isiV sub M (.d (.str s)) .str = some true := (rfl)
@[simp] theorem isi_list (s : List D) : isiV sub M (.d (.list s)) .list = some true := (rfl)
@[simp] theorem isi_tuple (s : List D) : isiV sub M (.d (.tuple s)) .tuple = some true := (rfl)
def isStrD : D → Bool | .str _ => true | _ => false
def isListD : D → Bool | .list _ => true | _ => false
def isTupleD : D → Bool | .tuple _ => true | _ => false
def isIntD : D → Bool | .int _ => true | .bool _ => true | _ => false
def isBoolD : D → Bool | .bool _ => true | _ => false
def isDictD : D → Bool | .dict _ => true | _ => false
theorem isi_strD {x : D} (h : isDictD x = false) : isiV sub M (.d x) .str = some (isStrD x) := by cases x <;> first | rfl | cases h
theorem isi_listD {x : D} (h : isDictD x = false) : isiV sub M (.d x) .list = some (isListD x) := by cases x <;> first | rfl | cases h
theorem isi_tupleD {x : D} (h : isDictD x = false) : isiV sub M (.d x) .tuple = some (isTupleD x) := by cases x <;> first | rfl | cases h
theorem isi_intD {x : D} (h : isDictD x = false) : isiV sub M (.d x) .int = some (isIntD x) := by cases x <;> first | rfl | cases h
theorem isi_boolD {x : D} (h : isDictD x = false) : isiV sub M (.d x) .bool = some (isBoolD x) := by cases x <;> first | rfl | cases h
theorem Fit.ndict {n : Nat} {x : D} (h : Fit n x) : isDictD x = false := by
  cases x with
  | dict k => cases n <;> cases h
  | _ => rfl
end
/-! ### texts -/
@[simp] theorem str_len_app (a b : Str) : (a ++ b).length = a.length + b.length := Str.length_append a b
@[simp] theorem chars_app (a b : Str) : chars (a ++ b) = chars a ++ chars b := by
  show (a.cps ++ b.cps).toList = _
  simp [chars]
theorem str_len (a : Str) : a.length = (chars a).length := by simp [Str.length, chars]
@[simp] theorem chars_len (a : Str) : (chars a).length = a.length := (str_len a).symm
theorem str_ext {a b : Str} (h : chars a = chars b) : a = b := by
  cases a; cases b; simp [chars] at h; simp [h]
@[simp] theorem strOk_of (s : String) : PyData.strOk (Str.ofString s) = true := by
  rw [Str.ofString_eq_toList]
  simp only [PyData.strOk, List.all_toArray, List.all_map, List.all_eq_true, Function.comp_def, decide_eq_true_eq]
  intro c _
  have h := c.valid
  simp only [UInt32.isValidChar, Nat.isValidChar] at h
  show c.val.toNat < _
  omega
def St (l : List Nat) : Str := ⟨l.toArray⟩
@[simp] theorem chars_St (l : List Nat) : chars (St l) = l := by simp [St, chars]
@[simp] theorem St_len (l : List Nat) : (St l).length = l.length := by simp [St, Str.length]
@[simp] theorem mk_St (l : List Nat) : (⟨l.toArray⟩ : Str) = St l := rfl
theorem St_of (a : Str) : St (chars a) = a := str_ext (by simp)
theorem sgn_St (c : Nat) : sgn c = .str (St [c]) := rfl
theorem strOk_iff (s : Str) : PyData.strOk s = true ↔ ∀ c ∈ chars s, c < 0x110000 := by
  simp only [PyData.strOk, Array.all_eq_true', decide_eq_true_eq, chars, Array.mem_toList_iff]
end Fk

/-! SpDict: dicts with keys of one type. -/
namespace Fk
open PySem
section
variable {α : Type} [DecidableEq α]
abbrev DL (α : Type) := List (α × Val)
def dkL (f : α → D) (L : DL α) : List (D × Val) := L.map fun q => (f q.1, q.2)
def lkL (L : DL α) (k : α) : Option Val := match L with
  | [] => none
  | q :: r => if q.1 = k then some q.2 else lkL r k
def putL (L : DL α) (k : α) (v : Val) : DL α := match L with
  | [] => [(k, v)]
  | q :: r => if q.1 = k then (q.1, v) :: r else q :: putL r k v
theorem kLook_L {f : α → D} (hf : ∀ a b, PyData.eqv (f a) (f b) = decide (a = b)) (k : α) : ∀ L : DL α, kLook (f k) (dkL f L) = lkL L k
  | [] => rfl
  | q :: r => by
    have e : dkL f (q :: r) = (f q.1, q.2) :: dkL f r := rfl
    rw [e, kLook, hf, kLook_L hf k r, lkL]
    by_cases h : q.1 = k <;> simp [h]
theorem kPut_L {f : α → D} (hf : ∀ a b, PyData.eqv (f a) (f b) = decide (a = b)) (k : α) (v : Val) : ∀ L : DL α, kPut (f k) v (dkL f L) = dkL f (putL L k v)
  | [] => rfl
  | q :: r => by
    have e : dkL f (q :: r) = (f q.1, q.2) :: dkL f r := rfl
    rw [e, kPut, hf, kPut_L hf k v r, putL]
    by_cases h : q.1 = k <;> simp [h, dkL]
theorem lk_put (L : DL α) (k j : α) (v : Val) : lkL (putL L k v) j = if k = j then some v else lkL L j := by
  induction L with
  | nil => simp [putL, lkL]
  | cons q r ih =>
    unfold putL
    by_cases h : q.1 = k
    · rw [if_pos h]
      simp only [lkL, h]
      by_cases e : k = j <;> simp [e]
    · rw [if_neg h]
      simp only [lkL, ih]
      by_cases e : q.1 = j
      · have : ¬ k = j := fun z => h (e.trans z.symm)
        simp [e, this]
      · simp [e]
theorem putL_len (L : DL α) (k : α) (v : Val) : (putL L k v).length ≤ L.length + 1 := by
  induction L with
  | nil => simp [putL]
  | cons q r ih => unfold putL; split <;> simp; omega
theorem dkL_len (f : α → D) (L : DL α) : (dkL f L).length = L.length := by simp [dkL]
theorem dk_tup {f : α → D} (hf : ∀ a, tupK (f a) = true) (L : DL α) (k : α) : dkOk (dkL f L) (f k) = true := by
  simp only [dkOk, hf, Bool.true_and, Bool.or_eq_true]
  refine .inr (List.all_eq_true.mpr fun q hq => ?_)
  obtain ⟨z, _, rfl⟩ := List.mem_map.mp hq
  exact hf z.1
theorem dk_plain {f : α → D} (hf : ∀ a, plainK (f a) = true) (L : DL α) (k : α) : dkOk (dkL f L) (f k) = true := by
  simp only [dkOk, hf, Bool.true_and, Bool.or_eq_true]
  refine .inl (List.all_eq_true.mpr fun q hq => ?_)
  obtain ⟨z, _, rfl⟩ := List.mem_map.mp hq
  exact hf z.1
end
theorem tupK_I (k : List Int) : tupK (tupI k) = true := by
  show keyableAll 6 (k.map .int) = true
  induction k with
  | nil => rfl
  | cons i r ih => simp only [List.map_cons, keyableAll, ih]; rfl
end Fk

namespace Fk
open PySem
/-- is_name -/
def b_is_name_0 : E := (.cmp .isin (.var 1) (.con "LETTERS" (.str "abcdefghijklmnopqrstuvwxyz")))
def c_is_name : Ss := (.cons (.iff (.or (.not (.val (.isi (.var 0) [.str]))) (.or (.val (.cmp .eq (.var 0) (.lit (.str "")))) (.val (.cmp .gt (.blt .len .v (.cons (.var 0) .nil)) (.con "LONGEST_NAME" (.int 8)))))) (.cons (.ret (.lit (.bool false)))
  .nil) .nil)
  (.cons (.ret (.blt .all .v (.cons (.lc .v [1] (.one 1) (.seq (.var 0)) .no b_is_name_0) .nil)))
  .nil))
noncomputable def G_is_name : Gam := gf []
noncomputable def F_is_name : FnI := runF G_is_name .frz 1 1 c_is_name

/-- are_unlike -/
def b_are_unlike_0 : E := (.cmp .notin (.idx (.var 0) (.var 1)) (.slc .v (.var 0) .no (.some (.var 1))))
def c_are_unlike : Ss := (.cons (.ret (.blt .all .v (.cons (.lc .v [1] (.one 1) (.rng1 (.blt .len .v (.cons (.var 0) .nil))) .no b_are_unlike_0) .nil)))
  .nil)
noncomputable def G_are_unlike : Gam := gf []
noncomputable def F_are_unlike : FnI := runF G_are_unlike .frz 1 1 c_are_unlike

/-- is_table -/
def b_is_table_0 : E := (.call 0 [] (.cons (.var 1) .nil))
def c_is_table : Ss := (.cons (.iff (.or (.not (.val (.isi (.var 0) [.tuple]))) (.or (.val (.cmp .ne (.blt .len .v (.cons (.var 0) .nil)) (.lit (.int 2)))) (.or (.not (.val (.call 0 [] (.cons (.idx (.var 0) (.lit (.int 0))) .nil)))) (.not (.val (.isi (.idx (.var 0) (.lit (.int 1))) [.tuple])))))) (.cons (.ret (.lit (.bool false)))
  .nil) .nil)
  (.cons (.iff (.or (.val (.cmp .lt (.blt .len .v (.cons (.idx (.var 0) (.lit (.int 1))) .nil)) (.lit (.int 1)))) (.val (.cmp .gt (.blt .len .v (.cons (.idx (.var 0) (.lit (.int 1))) .nil)) (.con "MOST_COLUMNS" (.int 5))))) (.cons (.ret (.lit (.bool false)))
  .nil) .nil)
  (.cons (.ret (.and (.blt .all .v (.cons (.lc .v [1] (.one 1) (.seq (.idx (.var 0) (.lit (.int 1)))) .no b_is_table_0) .nil)) (.call 1 [] (.cons (.idx (.var 0) (.lit (.int 1))) .nil))))
  .nil)))
noncomputable def G_is_table : Gam := gf [(1, F_are_unlike), (0, F_is_name)]
noncomputable def F_is_table : FnI := runF G_is_table .frz 1 1 c_is_table
@[simp] theorem g_is_table_are_unlike : G_is_table.fn 1 = some F_are_unlike := (rfl)
@[simp] theorem g_is_table_is_name : G_is_table.fn 0 = some F_is_name := (rfl)

/-- is_scheme -/
def b_is_scheme_0 : E := (.var 2)
def b_is_scheme_1 : E := (.blt .len .v (.cons (.var 3) .nil))
def b_is_scheme_2 : E := (.call 2 [] (.cons (.var 1) .nil))
def c_is_scheme : Ss := (.cons (.iff (.or (.not (.val (.isi (.var 0) [.list]))) (.or (.val (.cmp .lt (.blt .len .v (.cons (.var 0) .nil)) (.lit (.int 1)))) (.val (.cmp .gt (.blt .len .v (.cons (.var 0) .nil)) (.con "MOST_TABLES" (.int 3)))))) (.cons (.ret (.lit (.bool false)))
  .nil) .nil)
  (.cons (.iff (.not (.val (.blt .all .v (.cons (.lc .v [1] (.one 1) (.seq (.var 0)) .no b_is_scheme_2) .nil)))) (.cons (.ret (.lit (.bool false)))
  .nil) .nil)
  (.cons (.iff (.val (.cmp .gt (.blt .sum .v (.cons (.lc .v [2, 3] (.tup [2, 3]) (.seq (.var 0)) .no b_is_scheme_1) .nil)) (.con "MOST_IN_ALL" (.int 8)))) (.cons (.ret (.lit (.bool false)))
  .nil) .nil)
  (.cons (.ret (.call 1 [] (.cons (.lc .v [2, 3] (.tup [2, 3]) (.seq (.var 0)) .no b_is_scheme_0) .nil)))
  .nil))))
noncomputable def G_is_scheme : Gam := gf [(1, F_are_unlike), (2, F_is_table)]
noncomputable def F_is_scheme : FnI := runF G_is_scheme .frz 1 3 c_is_scheme
@[simp] theorem g_is_scheme_are_unlike : G_is_scheme.fn 1 = some F_are_unlike := (rfl)
@[simp] theorem g_is_scheme_is_table : G_is_scheme.fn 2 = some F_is_table := (rfl)

/-- look_at_scheme -/
def c_look_at_scheme : Ss := (.cons (.iff (.not (.val (.call 3 [] (.cons (.var 0) .nil)))) (.cons (.raise 1 (.lit (.str "not a scheme")))
  .nil) .nil)
  .nil)
noncomputable def G_look_at_scheme : Gam := gf [(3, F_is_scheme)]
noncomputable def F_look_at_scheme : FnI := runF G_look_at_scheme .frz 1 0 c_look_at_scheme
@[simp] theorem g_look_at_scheme_is_scheme : G_look_at_scheme.fn 3 = some F_is_scheme := (rfl)

/-- _law_mixed -/
def c_l_mixed : Ss := (.cons (.set 2 (.bin .mod .v (.blt .int .v (.cons (.bin .add .v (.bin .add .v (.bin .mul .v (.bin .mod .v (.blt .int .v (.cons (.var 0) .nil)) (.lit (.int 2147483647))) (.lit (.int 48271))) (.bin .mul .v (.var 1) (.lit (.int 69621)))) (.lit (.int 1048583))) .nil)) (.lit (.int 2147483629))))
  (.cons (.set 2 (.bin .mod .v (.blt .int .v (.cons (.bin .mul .v (.var 2) (.var 2)) .nil)) (.lit (.int 2147483587))))
  (.cons (.ret (.bin .mod .v (.blt .int .v (.cons (.bin .mul .v (.var 2) (.bin .add .v (.var 2) (.lit (.int 2)))) .nil)) (.lit (.int 2147483579))))
  .nil)))
noncomputable def G_l_mixed : Gam := gf []
noncomputable def F_l_mixed : FnI := runF G_l_mixed .frz 2 1 c_l_mixed

/-- _law_pile -/
def b_l_pile_0 : Ss := (.cons (.set 3 (.bin .add .v (.bin .mul .v (.var 3) (.lit (.int 2147483579))) (.call 5 [] (.cons (.var 2) (.cons (.bin .add .v (.bin .add .v (.bin .mul .v (.lit (.int 7)) (.var 1)) (.bin .mul .v (.lit (.int 100)) (.var 4))) (.bin .mul .v (.var 4) (.var 4))) .nil)))))
  .nil)
def c_l_pile : Ss := (.cons (.set 2 (.lit (.int 0)))
  (.cons (.iff (.val (.cmp .lt (.var 1) (.blt .len .v (.cons (.var 0) .nil)))) (.cons (.set 2 (.idx (.var 0) (.var 1)))
  .nil) .nil)
  (.cons (.iff (.val (.cmp .ge (.var 2) (.bin .pow .v (.lit (.int 10)) (.lit (.int 18))))) (.cons (.ret (.lst .c (.cons (.bin .mod .v (.blt .int .v (.cons (.bin .sub .v (.var 2) (.bin .pow .v (.lit (.int 10)) (.lit (.int 18)))) .nil)) (.bin .mul .v (.bin .mul .v (.bin .mul .v (.bin .pow .v (.lit (.int 10)) (.lit (.int 60))) (.bin .pow .v (.lit (.int 10)) (.lit (.int 60)))) (.bin .pow .v (.lit (.int 10)) (.lit (.int 60)))) (.bin .pow .v (.lit (.int 10)) (.lit (.int 60))))) .nil)))
  .nil) .nil)
  (.cons (.set 3 (.lit (.int 0)))
  (.cons (.fr true (.one 4) (.rng1 (.lit (.int 24))) b_l_pile_0)
  (.cons (.ret (.lst .c (.cons (.var 3) .nil)))
  .nil))))))
noncomputable def G_l_pile : Gam := gf [(5, F_l_mixed)]
noncomputable def F_l_pile : FnI := runF G_l_pile .cell 2 3 c_l_pile
@[simp] theorem g_l_pile_l_mixed : G_l_pile.fn 5 = some F_l_mixed := (rfl)

/-- _law_take -/
def c_l_take : Ss := (.cons (.set 2 (.bin .mod .v (.blt .int .v (.cons (.idx (.var 0) (.lit (.int 0))) .nil)) (.var 1)))
  (.cons (.setIx (.var 0) (.lit (.int 0)) (.bin .fdv .v (.idx (.var 0) (.lit (.int 0))) (.var 1)))
  (.cons (.ret (.var 2))
  .nil)))
noncomputable def G_l_take : Gam := gf []
noncomputable def F_l_take : FnI := runF G_l_take .frz 2 1 c_l_take

/-- _law_name -/
def b_l_name_0 : Ss := (.cons (.iff (.val (.cmp .isin (.var 3) (.var 1))) (.cons (.set 3 (.bin .add .v (.slc .v (.var 3) .no (.some (.lit (.int 7)))) (.var 5)))
  .nil) .nil)
  .nil)
def b_l_name_1 : Ss := (.cons (.set 3 (.bin .add .v (.var 3) (.idx (.var 2) (.call 7 [] (.cons (.var 0) (.cons (.lit (.int 26)) .nil))))))
  .nil)
def c_l_name : Ss := (.cons (.set 2 (.lit (.str "abcdefghijklmnopqrstuvwxyz")))
  (.cons (.set 3 (.lit (.str "")))
  (.cons (.fr true (.one 4) (.rng1 (.idx (.lst .v (.cons (.lit (.int 1)) (.cons (.lit (.int 1)) (.cons (.lit (.int 2)) (.cons (.lit (.int 2)) (.cons (.lit (.int 3)) (.cons (.lit (.int 4)) (.cons (.lit (.int 5)) (.cons (.lit (.int 6)) (.cons (.lit (.int 7)) (.cons (.lit (.int 8)) .nil))))))))))) (.call 7 [] (.cons (.var 0) (.cons (.lit (.int 10)) .nil))))) b_l_name_1)
  (.cons (.fr true (.one 5) (.seq (.var 2)) b_l_name_0)
  (.cons (.ret (.var 3))
  .nil)))))
noncomputable def G_l_name : Gam := gf [(7, F_l_take)]
noncomputable def F_l_name : FnI := runF G_l_name .frz 2 4 c_l_name
@[simp] theorem g_l_name_l_take : G_l_name.fn 7 = some F_l_take := (rfl)

/-- _law_scheme -/
def b_l_scheme_0 : E := (.var 10)
def b_l_scheme_1 : Ss := (.cons (.set 9 (.var 0))
  (.cons (.iff (.val (.cmp .eq (.var 2) (.lit (.int 1)))) (.cons (.set 9 (.lst .c (.cons (.bin .mul .v (.call 7 [] (.cons (.var 0) (.cons (.lit (.int 5)) .nil))) (.lit (.int 10))) .nil)))
  .nil) .nil)
  (.cons (.expr (.bm .append (.var 7) (.cons (.call 8 [] (.cons (.var 9) (.cons (.var 7) .nil))) .nil)))
  .nil)))
def b_l_scheme_2 : Ss := (.cons (.set 6 (.bin .add .v (.lit (.int 1)) (.call 7 [] (.cons (.var 0) (.cons (.blt .min2 .v (.cons (.lit (.int 5)) (.cons (.bin .add .v (.bin .add .v (.bin .sub .v (.var 3) (.var 1)) (.lit (.int 1))) (.var 5)) .nil))) .nil)))))
  (.cons (.set 3 (.bin .sub .v (.var 3) (.var 6)))
  (.cons (.set 7 (.lst .c .nil))
  (.cons (.fr true (.one 8) (.rng1 (.var 6)) b_l_scheme_1)
  (.cons (.expr (.bm .append (.var 4) (.cons (.tup (.cons (.call 8 [] (.cons (.var 0) (.cons (.lc .v [10, 11] (.tup [10, 11]) (.seq (.var 4)) .no b_l_scheme_0) .nil))) (.cons (.blt .tuple .v (.cons (.var 7) .nil)) .nil))) .nil)))
  .nil)))))
def c_l_scheme : Ss := (.cons (.set 1 (.bin .add .v (.lit (.int 1)) (.call 7 [] (.cons (.var 0) (.cons (.lit (.int 3)) .nil)))))
  (.cons (.set 2 (.call 7 [] (.cons (.var 0) (.cons (.lit (.int 2)) .nil))))
  (.cons (.set 3 (.lit (.int 8)))
  (.cons (.set 4 (.lst .c .nil))
  (.cons (.fr true (.one 5) (.rng1 (.var 1)) b_l_scheme_2)
  (.cons (.ret (.var 4))
  .nil))))))
noncomputable def G_l_scheme : Gam := gf [(8, F_l_name), (7, F_l_take)]
noncomputable def F_l_scheme : FnI := runF G_l_scheme .frz 1 11 c_l_scheme
@[simp] theorem g_l_scheme_l_name : G_l_scheme.fn 8 = some F_l_name := (rfl)
@[simp] theorem g_l_scheme_l_take : G_l_scheme.fn 7 = some F_l_take := (rfl)

/-- _law_pairs -/
def b_l_pairs_0 : E := (.tup (.cons (.var 2) (.cons (.var 4) .nil)))
def b_l_pairs_1 : Ss := (.cons (.set 1 (.bin .add .v (.var 1) (.lc .v [4] (.one 4) (.seq (.var 3)) .no b_l_pairs_0)))
  .nil)
def c_l_pairs : Ss := (.cons (.set 1 (.lst .v .nil))
  (.cons (.fr true (.tup [2, 3]) (.seq (.var 0)) b_l_pairs_1)
  (.cons (.ret (.var 1))
  .nil)))
noncomputable def G_l_pairs : Gam := gf []
noncomputable def F_l_pairs : FnI := runF G_l_pairs .frz 1 4 c_l_pairs

/-- _law_flags -/
def c_l_flags : Ss := (.cons (.set 1 (.lst .v (.cons (.isi (.var 0) [.cls 1]) (.cons (.isi (.var 0) [.cls 2]) (.cons (.isi (.var 0) [.cls 3]) .nil)))))
  (.cons (.set 1 (.bin .add .v (.var 1) (.lst .v (.cons (.isi (.var 0) [.cls 4]) (.cons (.isi (.var 0) [.cls 5]) (.cons (.isi (.var 0) [.cls 6]) .nil))))))
  (.cons (.set 1 (.bin .add .v (.var 1) (.lst .v (.cons (.isi (.var 0) [.cls 7]) (.cons (.isi (.var 0) [.cls 8]) (.cons (.isi (.var 0) [.cls 10]) .nil))))))
  (.cons (.set 1 (.bin .add .v (.var 1) (.lst .v (.cons (.isi (.var 0) [.cls 13]) (.cons (.isi (.var 0) [.cls 9]) (.cons (.isi (.var 0) [.cls 11]) .nil))))))
  (.cons (.ret (.bin .add .v (.var 1) (.lst .v (.cons (.isi (.var 0) [.cls 12]) (.cons (.isi (.var 0) [.cls 14]) .nil)))))
  .nil)))))
noncomputable def G_l_flags : Gam := gf []
noncomputable def F_l_flags : FnI := runF G_l_flags .frz 1 1 c_l_flags

/-- _law_error -/
def c_l_error : Ss := (.cons (.iff (.val (.cmp .isnone (.var 0) (.lit .none))) (.cons (.ret (.lit (.str "")))
  .nil) .nil)
  (.cons (.set 1 (.call 11 [] (.cons (.var 0) .nil)))
  (.cons (.iff (.or (.val (.cmp .ne (.bm .count (.var 1) (.cons (.lit (.bool true)) .nil)) (.lit (.int 1)))) (.or (.not (.val (.isi (.var 0) [.cls 0]))) (.not (.val (.isi (.var 0) [.valueError]))))) (.cons (.ret (.lit (.str "other")))
  .nil) .nil)
  (.cons (.set 2 (.lst .v (.cons (.lit (.str "scheme")) (.cons (.lit (.str "rules")) (.cons (.lit (.str "dependency")) (.cons (.lit (.str "database")) (.cons (.lit (.str "column")) (.cons (.lit (.str "kind")) (.cons (.lit (.str "not endless")) (.cons (.lit (.str "endless")) (.cons (.lit (.str "rule")) (.cons (.lit (.str "text")) .nil))))))))))))
  (.cons (.ret (.idx (.bin .add .v (.var 2) (.lst .v (.cons (.lit (.str "times")) (.cons (.lit (.str "sizes")) (.cons (.lit (.str "single")) (.cons (.lit (.str "broken")) .nil)))))) (.bm .index (.var 1) (.cons (.lit (.bool true)) .nil))))
  .nil)))))
noncomputable def G_l_error : Gam := gf [(11, F_l_flags)]
noncomputable def F_l_error : FnI := runF G_l_error .frz 1 2 c_l_error
@[simp] theorem g_l_error_l_flags : G_l_error.fn 11 = some F_l_flags := (rfl)

/-- columns_in -/
def b_columns_in_0 : Ss := (.cons (.iff (.val (.cmp .eq (.var 2) (.var 1))) (.cons (.ret (.var 3))
  .nil) .nil)
  .nil)
def c_columns_in : Ss := (.cons (.fr true (.tup [2, 3]) (.seq (.var 0)) b_columns_in_0)
  (.cons (.ret (.tup .nil))
  .nil))
noncomputable def G_columns_in : Gam := gf []
noncomputable def F_columns_in : FnI := runF G_columns_in .frz 2 2 c_columns_in

/-- are_columns -/
def b_are_columns_0 : E := (.cmp .lt (.bm .index (.var 3) (.cons (.idx (.var 2) (.var 4)) .nil)) (.bm .index (.var 3) (.cons (.idx (.var 2) (.bin .add .v (.var 4) (.lit (.int 1)))) .nil)))
def b_are_columns_1 : E := (.and (.isi (.var 5) [.str]) (.cmp .isin (.var 5) (.var 3)))
def c_are_columns : Ss := (.cons (.iff (.or (.not (.val (.isi (.var 1) [.str]))) (.or (.not (.val (.isi (.var 2) [.tuple]))) (.val (.cmp .eq (.blt .len .v (.cons (.var 2) .nil)) (.lit (.int 0)))))) (.cons (.ret (.lit (.bool false)))
  .nil) .nil)
  (.cons (.set 3 (.call 18 [] (.cons (.var 0) (.cons (.var 1) .nil))))
  (.cons (.iff (.not (.val (.blt .all .v (.cons (.lc .v [5] (.one 5) (.seq (.var 2)) .no b_are_columns_1) .nil)))) (.cons (.ret (.lit (.bool false)))
  .nil) .nil)
  (.cons (.ret (.blt .all .v (.cons (.lc .v [4] (.one 4) (.rng1 (.bin .sub .v (.blt .len .v (.cons (.var 2) .nil)) (.lit (.int 1)))) .no b_are_columns_0) .nil)))
  .nil))))
noncomputable def G_are_columns : Gam := gf [(18, F_columns_in)]
noncomputable def F_are_columns : FnI := runF G_are_columns .frz 3 3 c_are_columns
@[simp] theorem g_are_columns_columns_in : G_are_columns.fn 18 = some F_columns_in := (rfl)

/-- is_column -/
def c_is_column : Ss := (.cons (.ret (.call 19 [] (.cons (.var 0) (.cons (.var 1) (.cons (.tup (.cons (.var 2) .nil)) .nil)))))
  .nil)
noncomputable def G_is_column : Gam := gf [(19, F_are_columns)]
noncomputable def F_is_column : FnI := runF G_is_column .frz 3 0 c_is_column
@[simp] theorem g_is_column_are_columns : G_is_column.fn 19 = some F_are_columns := (rfl)

/-- is_right -/
def c_is_right : Ss := (.cons (.iff (.or (.not (.val (.isi (.var 1) [.tuple]))) (.or (.val (.cmp .notin (.blt .len .v (.cons (.var 1) .nil)) (.tup (.cons (.lit (.int 4)) (.cons (.lit (.int 5)) .nil))))) (.not (.val (.isi (.idx (.var 1) (.lit (.int 0))) [.str]))))) (.cons (.ret (.lit (.bool false)))
  .nil) .nil)
  (.cons (.iff (.and (.val (.cmp .eq (.idx (.var 1) (.lit (.int 0))) (.lit (.str "sets")))) (.val (.cmp .eq (.blt .len .v (.cons (.var 1) .nil)) (.lit (.int 4))))) (.cons (.ret (.and (.call 19 [] (.cons (.var 0) (.cons (.idx (.var 1) (.lit (.int 1))) (.cons (.idx (.var 1) (.lit (.int 2))) .nil)))) (.call 20 [] (.cons (.var 0) (.cons (.idx (.var 1) (.lit (.int 1))) (.cons (.idx (.var 1) (.lit (.int 3))) .nil))))))
  .nil) .nil)
  (.cons (.iff (.and (.val (.cmp .isin (.idx (.var 1) (.lit (.int 0))) (.tup (.cons (.lit (.str "within")) (.cons (.lit (.str "many")) .nil))))) (.val (.cmp .eq (.blt .len .v (.cons (.var 1) .nil)) (.lit (.int 5))))) (.cons (.ret (.and (.call 20 [] (.cons (.var 0) (.cons (.idx (.var 1) (.lit (.int 1))) (.cons (.idx (.var 1) (.lit (.int 2))) .nil)))) (.call 20 [] (.cons (.var 0) (.cons (.idx (.var 1) (.lit (.int 3))) (.cons (.idx (.var 1) (.lit (.int 4))) .nil))))))
  .nil) .nil)
  (.cons (.ret (.lit (.bool false)))
  .nil))))
noncomputable def G_is_right : Gam := gf [(20, F_is_column), (19, F_are_columns)]
noncomputable def F_is_right : FnI := runF G_is_right .frz 2 0 c_is_right
@[simp] theorem g_is_right_is_column : G_is_right.fn 20 = some F_is_column := (rfl)
@[simp] theorem g_is_right_are_columns : G_is_right.fn 19 = some F_are_columns := (rfl)

/-- _law_columns -/
def b_l_columns_0 : To := (.some (.val (.cmp .eq (.var 2) (.var 1))))
def b_l_columns_1 : E := (.var 3)
def c_l_columns : Ss := (.cons (.ret (.idx (.lc .v [2, 3] (.tup [2, 3]) (.seq (.var 0)) b_l_columns_0 b_l_columns_1) (.lit (.int 0))))
  .nil)
noncomputable def G_l_columns : Gam := gf []
noncomputable def F_l_columns : FnI := runF G_l_columns .frz 2 2 c_l_columns

/-- _law_dependency -/
def b_l_dependency_0 : To := (.some (.or (.val (.cmp .eq (.call 7 [] (.cons (.var 0) (.cons (.lit (.int 2)) .nil))) (.lit (.int 1)))) (.val (.cmp .eq (.var 7) (.idx (.var 4) (.lit (.int 1)))))))
def b_l_dependency_1 : E := (.var 7)
def c_l_dependency : Ss := (.cons (.set 2 (.call 10 [] (.cons (.var 1) .nil)))
  (.cons (.set 3 (.idx (.lst .v (.cons (.lit (.str "sets")) (.cons (.lit (.str "sets")) (.cons (.lit (.str "sets")) (.cons (.lit (.str "within")) (.cons (.lit (.str "within")) (.cons (.lit (.str "many")) (.cons (.lit (.str "sets")) (.cons (.lit (.str "within")) .nil))))))))) (.call 7 [] (.cons (.var 0) (.cons (.lit (.int 8)) .nil)))))
  (.cons (.set 4 (.idx (.var 2) (.call 7 [] (.cons (.var 0) (.cons (.blt .len .v (.cons (.var 2) .nil)) .nil)))))
  (.cons (.iff (.val (.cmp .ne (.var 3) (.lit (.str "sets")))) (.cons (.ret (.bin .add .v (.bin .add .v (.tup (.cons (.var 3) .nil)) (.var 4)) (.idx (.var 2) (.call 7 [] (.cons (.var 0) (.cons (.blt .len .v (.cons (.var 2) .nil)) .nil))))))
  .nil) .nil)
  (.cons (.set 5 (.call 23 [] (.cons (.var 1) (.cons (.idx (.var 4) (.lit (.int 0))) .nil))))
  (.cons (.set 6 (.tup (.cons (.idx (.var 4) (.lit (.int 1))) .nil)))
  (.cons (.iff (.val (.cmp .eq (.call 7 [] (.cons (.var 0) (.cons (.lit (.int 3)) .nil))) (.lit (.int 0)))) (.cons (.set 6 (.blt .tuple .v (.cons (.lc .v [7] (.one 7) (.seq (.var 5)) b_l_dependency_0 b_l_dependency_1) .nil)))
  .nil) .nil)
  (.cons (.ret (.tup (.cons (.lit (.str "sets")) (.cons (.idx (.var 4) (.lit (.int 0))) (.cons (.var 6) (.cons (.idx (.var 5) (.call 7 [] (.cons (.var 0) (.cons (.blt .len .v (.cons (.var 5) .nil)) .nil)))) .nil))))))
  .nil))))))))
noncomputable def G_l_dependency : Gam := gf [(7, F_l_take), (23, F_l_columns), (10, F_l_pairs)]
noncomputable def F_l_dependency : FnI := runF G_l_dependency .frz 2 6 c_l_dependency
@[simp] theorem g_l_dependency_l_take : G_l_dependency.fn 7 = some F_l_take := (rfl)
@[simp] theorem g_l_dependency_l_columns : G_l_dependency.fn 23 = some F_l_columns := (rfl)
@[simp] theorem g_l_dependency_l_pairs : G_l_dependency.fn 10 = some F_l_pairs := (rfl)

/-- _law_ring -/
def b_l_ring_0 : Ss := (.cons (.set 6 (.call 23 [] (.cons (.var 1) (.cons (.idx (.idx (.var 3) (.var 5)) (.lit (.int 0))) .nil))))
  (.cons (.set 7 (.idx (.var 6) (.call 7 [] (.cons (.var 0) (.cons (.blt .len .v (.cons (.var 6) .nil)) .nil)))))
  (.cons (.expr (.bm .append (.var 4) (.cons (.tup (.cons (.lit (.str "sets")) (.cons (.idx (.idx (.var 3) (.var 5)) (.lit (.int 0))) (.cons (.tup (.cons (.idx (.idx (.var 3) (.var 5)) (.lit (.int 1))) .nil)) (.cons (.var 7) .nil))))) .nil)))
  (.cons (.expr (.bm .append (.var 4) (.cons (.bin .add .v (.bin .add .v (.tup (.cons (.lit (.str "within")) .nil)) (.idx (.var 3) (.bin .mod .v (.blt .int .v (.cons (.bin .add .v (.var 5) (.lit (.int 1))) .nil)) (.blt .len .v (.cons (.var 3) .nil))))) (.tup (.cons (.idx (.idx (.var 3) (.var 5)) (.lit (.int 0))) (.cons (.var 7) .nil)))) .nil)))
  .nil))))
def b_l_ring_1 : E := (.idx (.var 2) (.call 7 [] (.cons (.var 0) (.cons (.blt .len .v (.cons (.var 2) .nil)) .nil))))
def c_l_ring : Ss := (.cons (.set 2 (.call 10 [] (.cons (.var 1) .nil)))
  (.cons (.set 3 (.lc .v [5] (.one 5) (.rng1 (.bin .add .v (.lit (.int 1)) (.call 7 [] (.cons (.var 0) (.cons (.lit (.int 3)) .nil))))) .no b_l_ring_1))
  (.cons (.set 4 (.lst .c .nil))
  (.cons (.fr true (.one 5) (.rng1 (.blt .len .v (.cons (.var 3) .nil))) b_l_ring_0)
  (.cons (.ret (.var 4))
  .nil)))))
noncomputable def G_l_ring : Gam := gf [(7, F_l_take), (23, F_l_columns), (10, F_l_pairs)]
noncomputable def F_l_ring : FnI := runF G_l_ring .cell 2 6 c_l_ring
@[simp] theorem g_l_ring_l_take : G_l_ring.fn 7 = some F_l_take := (rfl)
@[simp] theorem g_l_ring_l_columns : G_l_ring.fn 23 = some F_l_columns := (rfl)
@[simp] theorem g_l_ring_l_pairs : G_l_ring.fn 10 = some F_l_pairs := (rfl)

/-- _law_again -/
def b_l_again_0 : To := (.some (.val (.cmp .isin (.var 9) (.slc .v (.var 2) .no (.some (.lit (.int 2)))))))
def b_l_again_1 : E := (.var 9)
def b_l_again_2 : E := (.idx (.var 7) (.call 7 [] (.cons (.var 0) (.cons (.blt .len .v (.cons (.var 7) .nil)) .nil))))
def c_l_again : Ss := (.cons (.setT [6, 7] (.idx (.var 1) (.call 7 [] (.cons (.var 0) (.cons (.blt .len .v (.cons (.var 1) .nil)) .nil)))))
  (.cons (.set 2 (.lc .v [8] (.one 8) (.rng1 (.lit (.int 4))) .no b_l_again_2))
  (.cons (.set 3 (.blt .tuple .v (.cons (.lc .v [9] (.one 9) (.seq (.var 7)) b_l_again_0 b_l_again_1) .nil)))
  (.cons (.set 4 (.lst .v (.cons (.tup (.cons (.lit (.str "sets")) (.cons (.var 6) (.cons (.tup (.cons (.idx (.var 2) (.lit (.int 1))) .nil)) (.cons (.idx (.var 2) (.lit (.int 2))) .nil))))) (.cons (.tup (.cons (.lit (.str "within")) (.cons (.var 6) (.cons (.idx (.var 2) (.lit (.int 1))) (.cons (.var 6) (.cons (.idx (.var 2) (.lit (.int 2))) .nil)))))) .nil))))
  (.cons (.set 4 (.bin .add .v (.var 4) (.lst .v (.cons (.tup (.cons (.lit (.str "sets")) (.cons (.var 6) (.cons (.tup (.cons (.idx (.var 2) (.lit (.int 0))) .nil)) (.cons (.idx (.var 2) (.lit (.int 2))) .nil))))) (.cons (.tup (.cons (.lit (.str "sets")) (.cons (.var 6) (.cons (.var 3) (.cons (.idx (.var 2) (.lit (.int 3))) .nil))))) .nil)))))
  (.cons (.set 5 (.lst .v (.cons (.tup (.cons (.lit (.str "within")) (.cons (.var 6) (.cons (.idx (.var 2) (.lit (.int 0))) (.cons (.var 6) (.cons (.idx (.var 2) (.lit (.int 3))) .nil)))))) (.cons (.tup (.cons (.lit (.str "many")) (.cons (.var 6) (.cons (.idx (.var 2) (.lit (.int 3))) (.cons (.var 6) (.cons (.idx (.var 2) (.lit (.int 0))) .nil)))))) .nil))))
  (.cons (.ret (.bin .add .c (.var 4) (.lst .v (.cons (.idx (.var 5) (.call 7 [] (.cons (.var 0) (.cons (.lit (.int 2)) .nil)))) .nil))))
  .nil)))))))
noncomputable def G_l_again : Gam := gf [(7, F_l_take)]
noncomputable def F_l_again : FnI := runF G_l_again .cell 2 8 c_l_again
@[simp] theorem g_l_again_l_take : G_l_again.fn 7 = some F_l_take := (rfl)

/-- _law_long -/
def b_l_long_0 : Ss := (.cons (.set 6 (.lst .v (.cons (.bin .add .v (.bin .add .v (.tup (.cons (.lit (.str "many")) .nil)) (.idx (.var 2) (.var 5))) (.idx (.var 2) (.bin .add .v (.var 5) (.lit (.int 1))))) (.cons (.bin .add .v (.bin .add .v (.tup (.cons (.lit (.str "within")) .nil)) (.idx (.var 2) (.bin .add .v (.var 5) (.lit (.int 1))))) (.idx (.var 2) (.var 5))) .nil))))
  (.cons (.expr (.bm .append (.var 4) (.cons (.idx (.var 6) (.call 7 [] (.cons (.var 0) (.cons (.lit (.int 2)) .nil)))) .nil)))
  .nil))
def b_l_long_1 : Ss := (.cons (.expr (.bm .insert (.var 2) (.cons (.call 7 [] (.cons (.var 0) (.cons (.bin .add .v (.blt .len .v (.cons (.var 2) .nil)) (.lit (.int 1))) .nil))) (.cons (.var 3) .nil))))
  .nil)
def c_l_long : Ss := (.cons (.set 2 (.lst .c .nil))
  (.cons (.fr true (.one 3) (.seq (.call 10 [] (.cons (.var 1) .nil))) b_l_long_1)
  (.cons (.set 4 (.lst .c .nil))
  (.cons (.fr true (.one 5) (.rng1 (.blt .min2 .v (.cons (.lit (.int 6)) (.cons (.bin .sub .v (.blt .len .v (.cons (.var 2) .nil)) (.lit (.int 1))) .nil)))) b_l_long_0)
  (.cons (.ret (.var 4))
  .nil)))))
noncomputable def G_l_long : Gam := gf [(7, F_l_take), (10, F_l_pairs)]
noncomputable def F_l_long : FnI := runF G_l_long .cell 2 5 c_l_long
@[simp] theorem g_l_long_l_take : G_l_long.fn 7 = some F_l_take := (rfl)
@[simp] theorem g_l_long_l_pairs : G_l_long.fn 10 = some F_l_pairs := (rfl)
end Fk
namespace Fk
open PySem
/-- _law_rules -/
def b_l_rules_0 : Ss := (.cons (.expr (.bm .insert (.var 2) (.cons (.call 7 [] (.cons (.var 0) (.cons (.bin .add .v (.blt .len .v (.cons (.var 2) .nil)) (.lit (.int 1))) .nil))) (.cons (.call 24 [] (.cons (.var 0) (.cons (.var 1) .nil))) .nil))))
  .nil)
def c_l_rules : Ss := (.cons (.set 2 (.lst .c .nil))
  (.cons (.set 3 (.call 7 [] (.cons (.var 0) (.cons (.lit (.int 6)) .nil))))
  (.cons (.iff (.val (.cmp .lt (.var 3) (.lit (.int 2)))) (.cons (.set 2 (.call 37 [] (.cons (.var 0) (.cons (.var 1) .nil))))
  .nil) .nil)
  (.cons (.iff (.val (.cmp .eq (.var 3) (.lit (.int 2)))) (.cons (.set 2 (.call 38 [] (.cons (.var 0) (.cons (.var 1) .nil))))
  .nil) .nil)
  (.cons (.iff (.val (.cmp .eq (.var 3) (.lit (.int 3)))) (.cons (.set 2 (.call 39 [] (.cons (.var 0) (.cons (.var 1) .nil))))
  .nil) .nil)
  (.cons (.fr true (.one 4) (.rng1 (.idx (.lst .v (.cons (.lit (.int 0)) (.cons (.lit (.int 1)) (.cons (.lit (.int 2)) (.cons (.lit (.int 2)) (.cons (.lit (.int 3)) (.cons (.lit (.int 4)) (.cons (.lit (.int 5)) (.cons (.lit (.int 6)) .nil))))))))) (.call 7 [] (.cons (.var 0) (.cons (.lit (.int 8)) .nil))))) b_l_rules_0)
  (.cons (.ret (.var 2))
  .nil)))))))
noncomputable def G_l_rules : Gam := gf [(7, F_l_take), (24, F_l_dependency), (39, F_l_long), (38, F_l_again), (37, F_l_ring)]
noncomputable def F_l_rules : FnI := runF G_l_rules .frz 2 3 c_l_rules
@[simp] theorem g_l_rules_l_take : G_l_rules.fn 7 = some F_l_take := (rfl)
@[simp] theorem g_l_rules_l_dependency : G_l_rules.fn 24 = some F_l_dependency := (rfl)
@[simp] theorem g_l_rules_l_long : G_l_rules.fn 39 = some F_l_long := (rfl)
@[simp] theorem g_l_rules_l_again : G_l_rules.fn 38 = some F_l_again := (rfl)
@[simp] theorem g_l_rules_l_ring : G_l_rules.fn 37 = some F_l_ring := (rfl)

/-- _law_are_columns -/
def b_l_are_columns_0 : E := (.bm .index (.idx (.var 3) (.lit (.int 0))) (.cons (.var 5) .nil))
def b_l_are_columns_1 : E := (.and (.isi (.var 5) [.str]) (.cmp .isin (.var 5) (.idx (.var 3) (.lit (.int 0)))))
def b_l_are_columns_2 : To := (.some (.and (.val (.isi (.var 1) [.str])) (.val (.cmp .eq (.var 6) (.var 1)))))
def b_l_are_columns_3 : E := (.var 7)
def c_l_are_columns : Ss := (.cons (.set 3 (.lc .v [6, 7] (.tup [6, 7]) (.seq (.var 0)) b_l_are_columns_2 b_l_are_columns_3))
  (.cons (.iff (.or (.val (.cmp .eq (.var 3) (.lst .v .nil))) (.or (.not (.val (.isi (.var 2) [.tuple]))) (.val (.cmp .eq (.blt .len .v (.cons (.var 2) .nil)) (.lit (.int 0)))))) (.cons (.ret (.lit (.bool false)))
  .nil) .nil)
  (.cons (.iff (.not (.val (.blt .all .v (.cons (.lc .v [5] (.one 5) (.seq (.var 2)) .no b_l_are_columns_1) .nil)))) (.cons (.ret (.lit (.bool false)))
  .nil) .nil)
  (.cons (.set 4 (.lc .v [5] (.one 5) (.seq (.var 2)) .no b_l_are_columns_0))
  (.cons (.ret (.cmp .eq (.var 4) (.blt .sset .v (.cons (.var 4) .nil))))
  .nil)))))
noncomputable def G_l_are_columns : Gam := gf []
noncomputable def F_l_are_columns : FnI := runF G_l_are_columns .frz 3 5 c_l_are_columns

/-- _law_is_right -/
def c_l_is_right : Ss := (.cons (.iff (.or (.not (.val (.isi (.var 1) [.tuple]))) (.or (.val (.cmp .lt (.blt .len .v (.cons (.var 1) .nil)) (.lit (.int 4)))) (.not (.val (.isi (.idx (.var 1) (.lit (.int 0))) [.str]))))) (.cons (.ret (.lit (.bool false)))
  .nil) .nil)
  (.cons (.iff (.val (.cmp .eq (.idx (.var 1) (.lit (.int 0))) (.lit (.str "sets")))) (.cons (.iff (.val (.cmp .ne (.blt .len .v (.cons (.var 1) .nil)) (.lit (.int 4)))) (.cons (.ret (.lit (.bool false)))
  .nil) .nil)
  (.cons (.ret (.and (.call 63 [] (.cons (.var 0) (.cons (.idx (.var 1) (.lit (.int 1))) (.cons (.idx (.var 1) (.lit (.int 2))) .nil)))) (.call 63 [] (.cons (.var 0) (.cons (.idx (.var 1) (.lit (.int 1))) (.cons (.tup (.cons (.idx (.var 1) (.lit (.int 3))) .nil)) .nil))))))
  .nil)) .nil)
  (.cons (.iff (.or (.val (.cmp .notin (.idx (.var 1) (.lit (.int 0))) (.lst .v (.cons (.lit (.str "within")) (.cons (.lit (.str "many")) .nil))))) (.val (.cmp .ne (.blt .len .v (.cons (.var 1) .nil)) (.lit (.int 5))))) (.cons (.ret (.lit (.bool false)))
  .nil) .nil)
  (.cons (.ret (.and (.call 63 [] (.cons (.var 0) (.cons (.idx (.var 1) (.lit (.int 1))) (.cons (.tup (.cons (.idx (.var 1) (.lit (.int 2))) .nil)) .nil)))) (.call 63 [] (.cons (.var 0) (.cons (.idx (.var 1) (.lit (.int 3))) (.cons (.tup (.cons (.idx (.var 1) (.lit (.int 4))) .nil)) .nil))))))
  .nil))))
noncomputable def G_l_is_right : Gam := gf [(63, F_l_are_columns)]
noncomputable def F_l_is_right : FnI := runF G_l_is_right .frz 2 0 c_l_is_right
@[simp] theorem g_l_is_right_l_are_columns : G_l_is_right.fn 63 = some F_l_are_columns := (rfl)

/-- look_at_dependency -/
def c_look_at_dependency : Ss := (.cons (.iff (.not (.val (.call 21 [] (.cons (.var 0) (.cons (.var 1) .nil))))) (.cons (.raise 3 (.lit (.str "not a dependency of the scheme")))
  .nil) .nil)
  .nil)
noncomputable def G_look_at_dependency : Gam := gf [(21, F_is_right)]
noncomputable def F_look_at_dependency : FnI := runF G_look_at_dependency .frz 2 0 c_look_at_dependency
@[simp] theorem g_look_at_dependency_is_right : G_look_at_dependency.fn 21 = some F_is_right := (rfl)

/-- is_whole -/
def c_is_whole : Ss := (.cons (.ret (.and (.isi (.var 0) [.int]) (.not (.isi (.var 0) [.bool]))))
  .nil)
noncomputable def G_is_whole : Gam := gf []
noncomputable def F_is_whole : FnI := runF G_is_whole .frz 1 0 c_is_whole

/-- is_row -/
def b_is_row_0 : E := (.call 69 [] (.cons (.var 2) .nil))
def c_is_row : Ss := (.cons (.ret (.and (.isi (.var 0) [.tuple]) (.and (.cmp .eq (.blt .len .v (.cons (.var 0) .nil)) (.var 1)) (.blt .all .v (.cons (.lc .v [2] (.one 2) (.seq (.var 0)) .no b_is_row_0) .nil)))))
  .nil)
noncomputable def G_is_row : Gam := gf [(69, F_is_whole)]
noncomputable def F_is_row : FnI := runF G_is_row .frz 2 1 c_is_row
@[simp] theorem g_is_row_is_whole : G_is_row.fn 69 = some F_is_whole := (rfl)

/-- are_rows -/
def b_are_rows_0 : E := (.call 70 [] (.cons (.var 2) (.cons (.var 1) .nil)))
def c_are_rows : Ss := (.cons (.iff (.or (.not (.val (.isi (.var 0) [.list]))) (.not (.val (.blt .all .v (.cons (.lc .v [2] (.one 2) (.seq (.var 0)) .no b_are_rows_0) .nil))))) (.cons (.ret (.lit (.bool false)))
  .nil) .nil)
  (.cons (.ret (.cmp .eq (.blt .lenset .v (.cons (.var 0) .nil)) (.blt .len .v (.cons (.var 0) .nil))))
  .nil))
noncomputable def G_are_rows : Gam := gf [(70, F_is_row)]
noncomputable def F_are_rows : FnI := runF G_are_rows .frz 2 1 c_are_rows
@[simp] theorem g_are_rows_is_row : G_are_rows.fn 70 = some F_is_row := (rfl)

/-- is_right_database -/
def b_is_right_database_0 : E := (.call 71 [] (.cons (.var 2) (.cons (.blt .len .v (.cons (.idx (.var 3) (.lit (.int 1))) .nil)) .nil)))
def c_is_right_database : Ss := (.cons (.iff (.or (.not (.val (.isi (.var 1) [.list]))) (.val (.cmp .ne (.blt .len .v (.cons (.var 1) .nil)) (.blt .len .v (.cons (.var 0) .nil))))) (.cons (.ret (.lit (.bool false)))
  .nil) .nil)
  (.cons (.ret (.blt .all .v (.cons (.lc .v [2, 3] (.tup [2, 3]) (.zip (.var 1) (.var 0)) .no b_is_right_database_0) .nil)))
  .nil))
noncomputable def G_is_right_database : Gam := gf [(71, F_are_rows)]
noncomputable def F_is_right_database : FnI := runF G_is_right_database .frz 2 2 c_is_right_database
@[simp] theorem g_is_right_database_are_rows : G_is_right_database.fn 71 = some F_are_rows := (rfl)

/-- look_at_database -/
def c_look_at_database : Ss := (.cons (.iff (.not (.val (.call 72 [] (.cons (.var 0) (.cons (.var 1) .nil))))) (.cons (.raise 4 (.lit (.str "not a database of the scheme")))
  .nil) .nil)
  .nil)
noncomputable def G_look_at_database : Gam := gf [(72, F_is_right_database)]
noncomputable def F_look_at_database : FnI := runF G_look_at_database .frz 2 0 c_look_at_database
@[simp] theorem g_look_at_database_is_right_database : G_look_at_database.fn 72 = some F_is_right_database := (rfl)

/-- rows_in -/
def b_rows_in_0 : Ss := (.cons (.iff (.val (.cmp .eq (.idx (.var 3) (.lit (.int 0))) (.var 2))) (.cons (.ret (.var 4))
  .nil) .nil)
  .nil)
def c_rows_in : Ss := (.cons (.fr true (.tup [3, 4]) (.zip (.var 0) (.var 1)) b_rows_in_0)
  (.cons (.ret (.lst .v .nil))
  .nil))
noncomputable def G_rows_in : Gam := gf []
noncomputable def F_rows_in : FnI := runF G_rows_in .frz 3 2 c_rows_in

/-- values_in -/
def b_values_in_0 : E := (.idx (.var 5) (.var 4))
def c_values_in : Ss := (.cons (.set 4 (.bm .index (.call 18 [] (.cons (.var 0) (.cons (.var 2) .nil))) (.cons (.var 3) .nil)))
  (.cons (.ret (.lc .v [5] (.one 5) (.seq (.call 75 [] (.cons (.var 0) (.cons (.var 1) (.cons (.var 2) .nil))))) .no b_values_in_0))
  .nil))
noncomputable def G_values_in : Gam := gf [(75, F_rows_in), (18, F_columns_in)]
noncomputable def F_values_in : FnI := runF G_values_in .frz 4 2 c_values_in
@[simp] theorem g_values_in_rows_in : G_values_in.fn 75 = some F_rows_in := (rfl)
@[simp] theorem g_values_in_columns_in : G_values_in.fn 18 = some F_columns_in := (rfl)

/-- different -/
def c_different : Ss := (.cons (.ret (.blt .lenset .v (.cons (.var 0) .nil)))
  .nil)
noncomputable def G_different : Gam := gf []
noncomputable def F_different : FnI := runF G_different .frz 1 0 c_different

/-- value_count -/
def c_value_count : Ss := (.cons (.expr (.call 4 [] (.cons (.var 0) .nil)))
  (.cons (.expr (.call 74 [] (.cons (.var 0) (.cons (.var 1) .nil))))
  (.cons (.iff (.not (.val (.call 20 [] (.cons (.var 0) (.cons (.var 2) (.cons (.var 3) .nil)))))) (.cons (.raise 5 (.lit (.str "not a column")))
  .nil) .nil)
  (.cons (.ret (.call 77 [] (.cons (.call 76 [] (.cons (.var 0) (.cons (.var 1) (.cons (.var 2) (.cons (.var 3) .nil))))) .nil)))
  .nil))))
noncomputable def G_value_count : Gam := gf [(77, F_different), (76, F_values_in), (20, F_is_column), (74, F_look_at_database), (4, F_look_at_scheme)]
noncomputable def F_value_count : FnI := runF G_value_count .frz 4 0 c_value_count
@[simp] theorem g_value_count_different : G_value_count.fn 77 = some F_different := (rfl)
@[simp] theorem g_value_count_values_in : G_value_count.fn 76 = some F_values_in := (rfl)
@[simp] theorem g_value_count_is_column : G_value_count.fn 20 = some F_is_column := (rfl)
@[simp] theorem g_value_count_look_at_database : G_value_count.fn 74 = some F_look_at_database := (rfl)
@[simp] theorem g_value_count_look_at_scheme : G_value_count.fn 4 = some F_look_at_scheme := (rfl)

/-- broken_sets -/
def b_broken_sets_0 : E := (.idx (.var 14) (.var 17))
def b_broken_sets_1 : Ss := (.cons (.set 15 (.blt .tuple .v (.cons (.lc .v [17] (.one 17) (.seq (.var 4)) .no b_broken_sets_0) .nil)))
  (.cons (.iff (.val (.cmp .notin (.var 15) (.var 7))) (.cons (.setIx (.var 7) (.var 15) (.var 13))
  .nil) (.cons (.iff (.and (.val (.cmp .ne (.idx (.idx (.var 6) (.idx (.var 7) (.var 15))) (.var 5)) (.idx (.var 14) (.var 5)))) (.or (.val (.cmp .isnone (.var 8) (.lit .none))) (.val (.cmp .lt (.idx (.var 7) (.var 15)) (.idx (.var 8) (.lit (.int 0))))))) (.cons (.set 8 (.tup (.cons (.idx (.var 7) (.var 15)) (.cons (.var 13) .nil))))
  .nil) .nil)
  .nil))
  .nil))
def b_broken_sets_2 : E := (.bm .index (.var 3) (.cons (.var 16) .nil))
def c_broken_sets : Ss := (.cons (.setT [9, 10, 11, 12] (.var 2))
  (.cons (.set 3 (.call 18 [] (.cons (.var 0) (.cons (.var 10) .nil))))
  (.cons (.set 4 (.lc .v [16] (.one 16) (.seq (.var 11)) .no b_broken_sets_2))
  (.cons (.set 5 (.bm .index (.var 3) (.cons (.var 12) .nil)))
  (.cons (.set 6 (.call 75 [] (.cons (.var 0) (.cons (.var 1) (.cons (.var 10) .nil)))))
  (.cons (.set 7 .dct)
  (.cons (.set 8 (.lit .none))
  (.cons (.fr true (.tup [13, 14]) (.enm (.var 6)) b_broken_sets_1)
  (.cons (.ret (.var 8))
  .nil)))))))))
noncomputable def G_broken_sets : Gam := gf [(75, F_rows_in), (18, F_columns_in)]
noncomputable def F_broken_sets : FnI := runF G_broken_sets .frz 3 15 c_broken_sets
@[simp] theorem g_broken_sets_rows_in : G_broken_sets.fn 75 = some F_rows_in := (rfl)
@[simp] theorem g_broken_sets_columns_in : G_broken_sets.fn 18 = some F_columns_in := (rfl)
end Fk
/-! SpSch: what a scheme is. -/
namespace Fk
open PySem
def low (c : Nat) : Bool := decide (97 ≤ c) && decide (c ≤ 122)
def nm (s : Str) : Bool := decide (1 ≤ s.length) && decide (s.length ≤ 8) && (chars s).all low
def isName : D → Bool
  | .str s => nm s
  | _ => false
def unl (xs : List D) : Bool := (List.range xs.length).all fun k => !inD (xs.getD k .none) (xs.take k)
abbrev AZ : Str := "abcdefghijklmnopqrstuvwxyz"
theorem az_list : chars AZ = List.range' 97 26 := by decide +kernel
theorem az_len : AZ.length = 26 := by decide +kernel
theorem low_mem (c : Nat) : decide (c ∈ chars AZ) = low c := by
  rw [az_list, Bool.eq_iff_iff]
  rw [decide_eq_true_eq, List.mem_range'_1]
  simp [low]
  omega
theorem nm_len {s : Str} (h : nm s = true) : 1 ≤ s.length ∧ s.length ≤ 8 := by
  simp [nm] at h; omega
theorem nm_strOk {s : Str} (h : nm s = true) : PyData.strOk s = true := by
  simp only [nm, Bool.and_eq_true, List.all_eq_true] at h
  rw [strOk_iff]
  intro c hc
  have := h.2 c hc
  simp [low] at this ⊢; omega
theorem nm_fit {s : Str} (n : Nat) (h : nm s = true) : Fit n (.str s) := (fit_str _ _).mpr ⟨nm_strOk h, by have := nm_len h; unfold lim; omega⟩
theorem str_empty (s : Str) : (s == ("" : Str)) = decide (s.length = 0) := by
  rw [Bool.eq_iff_iff]
  simp only [beq_iff_eq, decide_eq_true_eq]
  constructor
  · rintro rfl; rfl
  · intro h
    apply str_ext
    rw [str_len] at h
    rw [List.length_eq_zero_iff.mp h]; rfl
theorem sp_is_name {n k : Nat} {M : Mem} {x : D} (h : Fit k x) (hk : k ≤ 60) : F_is_name.run n [.d x] M = .ok (.d (.bool (isName x))) M := by
  cases x with
  | str s =>
    have hl := ((fit_str _ _).mp h).2
    have hs := ((fit_str _ _).mp h).1
    by_cases h0 : s.length = 0
    · simp [F_is_name, c_is_name, List.replicate, cmp_eq, hs, str_empty, h0, isName, nm]
    · by_cases h8 : s.length ≤ 8
      · have h8' : ¬ (8 : Int) < s.length := by omega
        simp [F_is_name, c_is_name, List.replicate, cmp_eq, hs, str_empty, h0, h8', len_str hl, items_str hl]
        generalize hF : foldC _ _ _ _ _ = o
        cases lc_map hF (fun c => .bool (low c)) (by intro c hc; simp [b_is_name_0, mem_chr, low_mem])
        have h1 : 1 ≤ s.length := by omega
        simp [isName, nm, h1, h8, Function.comp_def]
      · have h8' : (8 : Int) < s.length := by omega
        simp [F_is_name, c_is_name, List.replicate, cmp_eq, hs, str_empty, h0, h8', len_str hl, isName, nm, h8]
  | dict kv => cases k <;> cases h
  | _ => simp [F_is_name, c_is_name, List.replicate, isiV, isName]
theorem inD_cons (x y : D) (r : List D) : inD x (y :: r) = (PyData.eqv y x || inD x r) := rfl
theorem getD_mem {xs : List D} {k : Nat} (h : k < xs.length) : xs.getD k .none ∈ xs := by
  rw [List.getD_eq_getElem?_getD, List.getElem?_eq_getElem h]; simp
theorem getD_some {xs : List D} {k : Nat} (h : k < xs.length) : xs[k]? = some (xs.getD k .none) := by
  rw [List.getD_eq_getElem?_getD, List.getElem?_eq_getElem h]; rfl
theorem sp_unl_l {n k : Nat} {M : Mem} {xs : List D} (h : Fit k (.list xs)) (hk : k ≤ 60) : F_are_unlike.run n [.d (.list xs)] M = .ok (.d (.bool (unl xs))) M := by
  obtain ⟨k, rfl⟩ : ∃ j, k = j + 1 := by cases k with | zero => cases h | succ j => exact ⟨j, rfl⟩
  simp [F_are_unlike, c_are_unlike, List.replicate, rng1_nat h.1]
  generalize hF : foldC _ _ _ _ _ = o
  cases lc_map hF (fun j => .bool (!inD (xs.getD j .none) (xs.take j))) (by
    intro j hj
    have hj := List.mem_range.mp hj
    have h1 : shp (xs.getD j .none) = true := (h.2 _ (getD_mem hj)).shp (by omega)
    have h2 : shp (.list (xs.take j)) = true := shp_list (fun x hx => h.2 x (List.mem_of_mem_take hx)) (by omega)
    simp only [stepC_one, b_are_unlike_0]
    simp [ixN_nat hj, getD_some hj, -List.getD_eq_getElem?_getD, mem_list h1 h2])
  simp [unl, Function.comp_def]
theorem sp_unl_t {n k : Nat} {M : Mem} {xs : List D} (h : Fit k (.tuple xs)) (hk : k ≤ 60) : F_are_unlike.run n [.d (.tuple xs)] M = .ok (.d (.bool (unl xs))) M := by
  obtain ⟨k, rfl⟩ : ∃ j, k = j + 1 := by cases k with | zero => cases h | succ j => exact ⟨j, rfl⟩
  simp [F_are_unlike, c_are_unlike, List.replicate, rng1_nat h.1]
  generalize hF : foldC _ _ _ _ _ = o
  cases lc_map hF (fun j => .bool (!inD (xs.getD j .none) (xs.take j))) (by
    intro j hj
    have hj := List.mem_range.mp hj
    have h1 : shp (xs.getD j .none) = true := (h.2 _ (getD_mem hj)).shp (by omega)
    have h2 : shp (.tuple (xs.take j)) = true := shp_tuple (fun x hx => h.2 x (List.mem_of_mem_take hx)) (by omega)
    simp only [stepC_one, b_are_unlike_0]
    simp [ixN_nat hj, getD_some hj, -List.getD_eq_getElem?_getD, mem_tuple h1 h2])
  simp [unl, Function.comp_def]
def isTable : D → Bool
  | .tuple [a, .tuple cs] => isName a && decide (1 ≤ cs.length) && decide (cs.length ≤ 5) && cs.all isName && unl cs
  | _ => false
theorem sp_is_table {n k : Nat} {M : Mem} {x : D} (h : Fit k x) (hk : k ≤ 60) : F_is_table.run n [.d x] M = .ok (.d (.bool (isTable x))) M := by
  cases x with
  | tuple xs =>
    obtain ⟨k, rfl⟩ : ∃ j, k = j + 1 := by cases k with | zero => cases h | succ j => exact ⟨j, rfl⟩
    by_cases hl : xs.length = 2
    · obtain ⟨a, b, rfl⟩ : ∃ a b, xs = [a, b] := by
        match xs, hl with
        | [a, b], _ => exact ⟨a, b, rfl⟩
      have ha := h.2 a (by simp)
      have hb := h.2 b (by simp)
      by_cases n1 : isName a = true
      · cases b with
        | tuple cs =>
          by_cases hc : 1 ≤ cs.length ∧ cs.length ≤ 5
          · have c1 : ¬ ((cs.length : Int) < 1) := by omega
            have c2 : ¬ ((5 : Int) < cs.length) := by omega
            have hs : ∀ c ∈ cs, Fit k c := fun c hc => by
              cases k with
              | zero => cases hb
              | succ j => exact (hb.2 c hc).up (by omega)
            simp [F_is_table, c_is_table, List.replicate, ixN, sp_is_name ha (by omega), n1, c1, c2]
            generalize hF : foldC _ _ _ _ _ = o
            cases lc_map hF (fun c => .bool (isName c)) (by
              intro c hc
              simp [b_is_table_0, sp_is_name (hs c hc) (by omega)])
            simp [Function.comp_def, List.all_map, isTable, n1, hc]
            cases he : cs.all isName <;> simp [he, sp_unl_t hb (by omega)]
          · by_cases c1 : (cs.length : Int) < 1
            · have : ¬ 1 ≤ cs.length := by omega
              simp [F_is_table, c_is_table, List.replicate, ixN, sp_is_name ha (by omega), n1, isTable, c1, this]
            · have c2 : (5 : Int) < cs.length := by omega
              have : ¬ cs.length ≤ 5 := by omega
              simp [F_is_table, c_is_table, List.replicate, ixN, sp_is_name ha (by omega), n1, isTable, c1, c2, this]
        | dict kv => cases k <;> cases hb
        | _ => simp [F_is_table, c_is_table, List.replicate, ixN, sp_is_name ha (by omega), n1, isTable, isiV]
      · simp [F_is_table, c_is_table, List.replicate, ixN, sp_is_name ha (by omega), n1, isTable]
        cases b <;> simp [n1]
    · have hl' : ((xs.length : Int) == 2) = false := by simp; omega
      simp [F_is_table, c_is_table, List.replicate, hl']
      unfold isTable
      split
      · rename_i e; cases e; simp at hl
      · rfl
  | dict kv => cases k <;> cases h
  | _ => simp [F_is_table, c_is_table, List.replicate, isiV, isTable]
def tabLen (t : D) : Nat := match t with | .tuple [_, .tuple cs] => cs.length | _ => 0
def tabName (t : D) : D := match t with | .tuple (a :: _) => a | _ => .none
def isScheme : D → Bool
  | .list ts => decide (1 ≤ ts.length) && decide (ts.length ≤ 3) && ts.all isTable && decide ((ts.map tabLen).sum ≤ 8) && unl (ts.map tabName)
  | _ => false
theorem isTable_ex {t : D} (h : isTable t = true) : ∃ a cs, t = .tuple [a, .tuple cs] ∧ isName a = true ∧ 1 ≤ cs.length ∧ cs.length ≤ 5 ∧ cs.all isName = true ∧ unl cs = true := by
  unfold isTable at h
  split at h
  · simp only [Bool.and_eq_true, decide_eq_true_eq] at h
    exact ⟨_, _, rfl, h.1.1.1.1, h.1.1.1.2, h.1.1.2, h.1.2, h.2⟩
  · cases h
theorem sum_cast : ∀ xs : List Nat, (xs.map fun (n : Nat) => (n : Int)).sum = (xs.sum : Nat)
  | [] => rfl
  | x :: r => by simp [sum_cast r]
theorem sp_is_scheme {n k : Nat} {M : Mem} {x : D} (h : Fit k x) (hk : k ≤ 60) : F_is_scheme.run n [.d x] M = .ok (.d (.bool (isScheme x))) M := by
  cases x with
  | list xs =>
    obtain ⟨k, rfl⟩ : ∃ j, k = j + 1 := by cases k with | zero => cases h | succ j => exact ⟨j, rfl⟩
    by_cases c1 : (xs.length : Int) < 1
    · have : ¬ 1 ≤ xs.length := by omega
      simp [F_is_scheme, c_is_scheme, List.replicate, c1, isScheme, this]
    · by_cases c2 : (3 : Int) < xs.length
      · have : ¬ xs.length ≤ 3 := by omega
        simp [F_is_scheme, c_is_scheme, List.replicate, c1, c2, isScheme, this]
      · have d1 : 1 ≤ xs.length := by omega
        have d2 : xs.length ≤ 3 := by omega
        simp [F_is_scheme, c_is_scheme, List.replicate, c1, c2]
        generalize hF : foldC _ _ _ _ _ = o
        cases lc_map hF (fun c => .bool (isTable c)) (by
          intro c hc
          simp [b_is_scheme_2, sp_is_table (h.2 c hc) (by omega)])
        clear hF
        by_cases ha : xs.all isTable = true
        · simp [Function.comp_def, List.all_map, ha]
          generalize hF : foldC _ _ _ _ _ = o
          have ht := List.all_eq_true.mp ha
          cases lc_map hF (fun c => .int (tabLen c)) (by
            intro c hc
            obtain ⟨a, cs, rfl, _⟩ := isTable_ex (ht c hc)
            simp [b_is_scheme_1, tabLen])
          clear hF
          by_cases h8 : (xs.map tabLen).sum ≤ 8
          · have h8' : ((8 : Int) < (xs.map fun x => (tabLen x : Int)).sum) = False := by
              have e := sum_cast (xs.map tabLen)
              rw [List.map_map] at e
              simp only [Function.comp_def] at e
              rw [e]; simp; omega
            simp [h8', Function.comp_def]
            generalize hF : foldC _ _ _ _ _ = o
            cases lc_map hF tabName (by
              intro c hc
              obtain ⟨a, cs, rfl, _⟩ := isTable_ex (ht c hc)
              simp [b_is_scheme_0, tabName])
            have hf : Fit (k + 1) (.list (xs.map tabName)) := by
              refine ⟨by simpa using h.1, fun y hy => ?_⟩
              obtain ⟨t, hm, rfl⟩ := List.mem_map.mp hy
              obtain ⟨a, cs, rfl, h1, _⟩ := isTable_ex (ht t hm)
              cases a <;> first | cases h1 | skip
              exact nm_fit k h1
            simp [sp_unl_l hf (by omega), isScheme, d1, d2, ha, h8]
          · have h8' : (8 : Int) < (xs.map fun x => (tabLen x : Int)).sum := by
              have e := sum_cast (xs.map tabLen)
              rw [List.map_map] at e
              simp only [Function.comp_def] at e
              rw [e]; omega
            simp [h8', Function.comp_def, isScheme, d1, d2, ha, h8]
        · simp [Function.comp_def, List.all_map, ha, isScheme, d1, d2]
  | dict kv => cases k <;> cases h
  | _ => simp [F_is_scheme, c_is_scheme, List.replicate, isiV, isScheme]
end Fk

/-! SpTake: digits of a pile. -/
namespace Fk
open PySem
theorem mulOk_r {i j : Int} (h1 : -(2 ^ 64) < j) (h2 : j < 2 ^ 64) : mulOk i j = true := by
  simp [mulOk]; omega
theorem mulOk_l {i j : Int} (h1 : -(2 ^ 64) < i) (h2 : i < 2 ^ 64) : mulOk i j = true := by
  simp [mulOk]; omega
/-- the pile's digit -/
theorem sp_take (n : Nat) (M : Mem) (p : Nat) (v s : Int) (hM : M[p]? = some (.lst [.d (.int v)])) (h0 : 0 < s) (h1 : s < 1073741824) : F_l_take.run n [.p p, .d (.int s)] M = .ok (.d (.int (v % s))) (M.set p (.lst [.d (.int (v / s))])) := by
  simp [F_l_take, c_l_take, idxV, hM, seqOf, ixN, bin_modi h0, bin_fdvi h0 h1, setIxV, mayPut, List.replicate]
theorem sp_mixed (n : Nat) (M : Mem) (c k : Int) : ∃ z : Int, F_l_mixed.run n [.d (.int c), .d (.int k)] M = .ok (.d (.int z)) M := by
  have m1 : ∀ x : Int, 0 ≤ x % 2147483629 ∧ x % 2147483629 < 2147483629 := fun x => ⟨Int.emod_nonneg _ (by decide), Int.emod_lt_of_pos _ (by decide)⟩
  have m2 : ∀ x : Int, 0 ≤ x % 2147483587 ∧ x % 2147483587 < 2147483587 := fun x => ⟨Int.emod_nonneg _ (by decide), Int.emod_lt_of_pos _ (by decide)⟩
  have h1 : ∀ x : Int, mulOk x 48271 = true := fun x => mulOk_r (by decide) (by decide)
  have h2 : ∀ x : Int, mulOk x 69621 = true := fun x => mulOk_r (by decide) (by decide)
  have h3 : ∀ x y : Int, mulOk (x % 2147483629) y = true := fun x y => mulOk_l (by have := m1 x; omega) (by have := m1 x; omega)
  have h4 : ∀ x y : Int, mulOk (x % 2147483587) y = true := fun x y => mulOk_l (by have := m2 x; omega) (by have := m2 x; omega)
  simp [F_l_mixed, c_l_mixed, bin_muli (h1 _), bin_muli (h2 _), bin_muli (h3 _ _), bin_muli (h4 _ _), bin_modi, List.replicate]
def ten60 : Int := 10 ^ 60
theorem pow18 {m : Md} {M : Mem} : binV m .pow M (.d (.int 10)) (.d (.int 18)) = .ok (.d (.int 1000000000000000000)) M := by simp [binV]
theorem pow60 {m : Md} {M : Mem} : binV m .pow M (.d (.int 10)) (.d (.int 60)) = .ok (.d (.int ten60)) M := by simp [binV, ten60]
theorem big1 : mulOk ten60 ten60 = true := by decide +kernel
theorem big2 : mulOk (ten60 * ten60) ten60 = true := by decide +kernel
theorem big3 : mulOk (ten60 * ten60 * ten60) ten60 = true := by decide +kernel
theorem big4 : 0 < ten60 * ten60 * ten60 * ten60 := by decide +kernel
theorem pile_loop (n : Nat) (M : Mem) (s : D) (k c : Int) : ∃ (v : Int) (o : Option Val), foldS none true M.length (turnS (.one 4) fun ρ' M' => evSs G_l_pile M.length ρ' M' b_l_pile_0) ((List.range 24).map fun (i : Nat) => Itm.v (.d (.int (i : Int)))) [some (.d s), some (.d (.int k)), some (.d (.int c)), some (.d (.int 0)), none] M = .nx [some (.d s), some (.d (.int k)), some (.d (.int c)), some (.d (.int v)), o] M := by
  generalize hF : foldS _ _ _ _ _ _ _ = o
  obtain ⟨ρ', M', rfl, rfl, z, o', rfl⟩ := for_rng hF (fun _ ρ M1 => M1 = M ∧ ∃ (z : Int) (o : Option Val), ρ = [some (.d s), some (.d (.int k)), some (.d (.int c)), some (.d (.int z)), o]) ⟨rfl, 0, none, rfl⟩ (by
    rintro x ρ M1 hx ⟨rfl, z, o, rfl⟩
    obtain ⟨z', hz⟩ := sp_mixed M1.length M1 c (7 * k + 100 * (x : Int) + (x : Int) * x)
    have h1 : mulOk z 2147483579 = true := mulOk_r (by decide) (by decide)
    have h2 : mulOk 7 k = true := mulOk_l (by decide) (by decide)
    have h3 : mulOk 100 (x : Int) = true := mulOk_l (by decide) (by decide)
    have h4 : mulOk (x : Int) (x : Int) = true := mulOk_l (by omega) (by omega)
    simp [turnS, asg, b_l_pile_0, bin_muli h1, bin_muli h2, bin_muli h3, bin_muli h4, hz])
  exact ⟨z, o', rfl⟩
theorem rng24 : rng1V (.d (.int 24)) = some ((List.range 24).map fun (i : Nat) => Itm.v (.d (.int (i : Int)))) := rng1_ok (j := 24) (by omega) (by unfold lim; omega)
theorem sp_pile (n : Nat) (M : Mem) (ns : List Int) (k : Int) (hk : 0 ≤ k) : ∃ v : Int, F_l_pile.run n [.d (.list (ns.map .int)), .d (.int k)] M = .ok (.p M.length) (M ++ [.lst [.d (.int v)]]) := by
  by_cases h : k < ns.length
  · obtain ⟨c, hc⟩ : ∃ c : Int, ns[k.toNat]? = some c := ⟨_, List.getElem?_eq_getElem (by omega)⟩
    obtain ⟨h', hc'⟩ := List.getElem?_eq_some_iff.mp hc
    by_cases h2 : (1000000000000000000 : Int) ≤ c
    · simp [F_l_pile, c_l_pile, h, ixN, hk, hc, hc', List.replicate, pow18, pow60, h2, bin_muli big1, bin_muli big2, bin_muli big3, bin_modi big4, giveV]
    · obtain ⟨z, o, e⟩ := pile_loop n M (.list (ns.map .int)) k c
      simp [F_l_pile, c_l_pile, h, ixN, hk, hc, hc', List.replicate, pow18, h2, rng24, e, giveV]
  · obtain ⟨z, o, e⟩ := pile_loop n M (.list (ns.map .int)) k 0
    simp [F_l_pile, c_l_pile, h, List.replicate, pow18, rng24, e, giveV]
end Fk

/-! SpScm: schemes as typed lists; names and schemes that a law draws. -/
namespace Fk
open PySem
abbrev Scm := List (Str × List Str)
def encT (t : Str × List Str) : D := .tuple [.str t.1, .tuple (t.2.map .str)]
def encS (s : Scm) : D := .list (s.map encT)
structure TabOk (t : Str × List Str) : Prop where
  n : nm t.1 = true
  l1 : 1 ≤ t.2.length
  l5 : t.2.length ≤ 5
  ns : ∀ c ∈ t.2, nm c = true
  nd : t.2.Nodup
structure ScmOk (s : Scm) : Prop where
  l1 : 1 ≤ s.length
  l3 : s.length ≤ 3
  ts : ∀ t ∈ s, TabOk t
  sum : (s.map fun t => t.2.length).sum ≤ 8
  nd : (s.map (·.1)).Nodup
theorem unl_str (xs : List Str) : unl (xs.map .str) = decide xs.Nodup := by
  have key : ∀ k < xs.length, inD ((xs.map PyData.str).getD k .none) ((xs.map PyData.str).take k) = decide (xs.getD k (St []) ∈ xs.take k) := by
    intro k hk
    rw [← List.map_take, ← inD_str]
    congr 1
    simp [List.getD_eq_getElem?_getD, List.getElem?_eq_getElem hk]
  rw [Bool.eq_iff_iff]
  simp only [unl, List.length_map, List.all_eq_true, List.mem_range, decide_eq_true_eq]
  rw [show (∀ k < xs.length, (!inD ((xs.map PyData.str).getD k .none) ((xs.map PyData.str).take k)) = true) ↔ ∀ k < xs.length, xs.getD k (St []) ∉ xs.take k from ⟨fun h k hk => by have := h k hk; rw [key k hk] at this; simpa using this, fun h k hk => by rw [key k hk]; simpa using h k hk⟩]
  clear key
  rw [List.nodup_iff_pairwise_ne, List.pairwise_iff_getElem]
  constructor
  · intro h i j hi hj hij e
    apply h j hj
    rw [List.getD_eq_getElem?_getD, List.getElem?_eq_getElem hj]
    simp only [Option.getD_some, ← e]
    exact List.mem_take_iff_getElem.mpr ⟨i, by omega, rfl⟩
  · intro h k hk hm
    obtain ⟨i, hi, e⟩ := List.mem_take_iff_getElem.mp hm
    rw [List.getD_eq_getElem?_getD, List.getElem?_eq_getElem hk] at e
    exact h i k (by omega) hk (by omega) (by simpa using e)
theorem isName_all (cs : List Str) : (cs.map PyData.str).all isName = true ↔ ∀ c ∈ cs, nm c = true := by
  simp [List.all_map, Function.comp_def, isName]
theorem isTable_enc (t : Str × List Str) : isTable (encT t) = true ↔ TabOk t := by
  simp only [encT, isTable, Bool.and_eq_true, decide_eq_true_eq, List.length_map, isName_all, unl_str]
  exact ⟨fun h => ⟨h.1.1.1.1, h.1.1.1.2, h.1.1.2, h.1.2, h.2⟩, fun h => ⟨⟨⟨⟨h.n, h.l1⟩, h.l5⟩, h.ns⟩, h.nd⟩⟩
theorem isScheme_enc (s : Scm) : isScheme (encS s) = true ↔ ScmOk s := by
  have e1 : (s.map encT).map tabLen = s.map fun t => t.2.length := by simp [Function.comp_def, encT, tabLen]
  have e2 : (s.map encT).map tabName = (s.map (·.1)).map .str := by simp [Function.comp_def, encT, tabName]
  have e3 : (s.map encT).all isTable = true ↔ ∀ t ∈ s, TabOk t := by simp [List.all_map, Function.comp_def, isTable_enc]
  simp only [encS, isScheme, Bool.and_eq_true, decide_eq_true_eq, List.length_map, e1, e2, e3, unl_str]
  exact ⟨fun h => ⟨h.1.1.1.1, h.1.1.1.2, h.1.1.2, h.1.2, h.2⟩, fun h => ⟨⟨⟨⟨h.l1, h.l3⟩, h.ts⟩, h.sum⟩, h.nd⟩⟩
theorem isStr_list : ∀ {cs : List D}, cs.all isName = true → ∃ ss : List Str, cs = ss.map .str
  | [], _ => ⟨[], rfl⟩
  | c :: r, h => by
    rw [List.all_cons, Bool.and_eq_true] at h
    obtain ⟨ss, e⟩ := isStr_list h.2
    cases c with
    | str s => exact ⟨s :: ss, by simp [e]⟩
    | _ => cases h.1
/-- what is a scheme is a typed one -/
theorem isScheme_ex {x : D} (h : isScheme x = true) : ∃ s : Scm, x = encS s ∧ ScmOk s := by
  cases x with
  | list ts =>
    have h' := h
    simp only [isScheme, Bool.and_eq_true, decide_eq_true_eq] at h
    have key : ∀ ts : List D, ts.all isTable = true → ∃ s : Scm, ts = s.map encT := by
      intro ts
      induction ts with
      | nil => exact fun _ => ⟨[], rfl⟩
      | cons t r ih =>
        intro h
        rw [List.all_cons, Bool.and_eq_true] at h
        obtain ⟨s, e⟩ := ih h.2
        obtain ⟨a, cs, rfl, h1, _, _, h2, _⟩ := isTable_ex h.1
        obtain ⟨ss, rfl⟩ := isStr_list h2
        cases a with
        | str n => exact ⟨(n, ss) :: s, by simp [e, encT]⟩
        | _ => cases h1
    obtain ⟨s, rfl⟩ := key ts h.1.1.2
    exact ⟨s, rfl, (isScheme_enc s).mp h'⟩
  | _ => cases h
theorem fit_tab {t : Str × List Str} (h : TabOk t) (n : Nat) : Fit (n + 2) (encT t) := by
  refine ⟨by simp [lim], fun x hx => ?_⟩
  simp at hx
  rcases hx with rfl | rfl
  · exact nm_fit _ h.n
  · refine ⟨by have := h.l5; simp [lim]; omega, fun y hy => ?_⟩
    obtain ⟨c, hc, rfl⟩ := List.mem_map.mp hy
    exact nm_fit _ (h.ns c hc)
theorem ScmOk.fit {s : Scm} (h : ScmOk s) (n : Nat) : Fit (n + 3) (encS s) := by
  refine ⟨by have := h.l3; simp [lim]; omega, fun x hx => ?_⟩
  obtain ⟨t, ht, rfl⟩ := List.mem_map.mp hx
  exact fit_tab (h.ts t ht) n
theorem ScmOk.shp {s : Scm} (h : ScmOk s) : shp (encS s) = true := (h.fit 0).shp (by omega)
theorem sp_is_scheme_ok {n : Nat} {M : Mem} {s : Scm} (h : ScmOk s) : F_is_scheme.run n [.d (encS s)] M = .ok (.d (.bool true)) M := by
  rw [sp_is_scheme (h.fit 0) (by omega), (isScheme_enc s).mpr h]
theorem sp_look_ok {n : Nat} {M : Mem} {s : Scm} (h : ScmOk s) : F_look_at_scheme.run n [.d (encS s)] M = .ok (.d .none) M := by
  simp [F_look_at_scheme, c_look_at_scheme, sp_is_scheme_ok h]
theorem sp_look_bad {n k : Nat} {M : Mem} {x : D} (h : Fit k x) (hk : k ≤ 60) (hx : isScheme x = false) : F_look_at_scheme.run n [.d x] M = .exc ⟨1, []⟩ M := by
  simp [F_look_at_scheme, c_look_at_scheme, sp_is_scheme h hk, hx]
theorem noB_S (s : Scm) : NoB 3 (encS s) := by
  intro x hx
  obtain ⟨t, ht, rfl⟩ := List.mem_map.mp hx
  intro y hy
  simp at hy
  rcases hy with rfl | rfl
  · trivial
  · intro z hz
    obtain ⟨c, hc, rfl⟩ := List.mem_map.mp hz
    trivial
theorem eqv_S (s t : Scm) : PyData.eqv (encS s) (encS t) = true ↔ encS s = encS t := eqv_iff (noB_S s) (noB_S t)
theorem str_inj {a b : List Str} (h : a.map PyData.str = b.map PyData.str) : a = b := by
  induction a generalizing b with
  | nil => cases b <;> simp_all
  | cons x r ih => cases b with
    | nil => simp at h
    | cons y s => simp at h; rw [h.1, ih h.2]
theorem encT_inj {s t : Str × List Str} (h : encT s = encT t) : s = t := by
  simp [encT] at h
  exact Prod.ext h.1 (str_inj h.2)
theorem encS_inj {s t : Scm} (h : encS s = encS t) : s = t := by
  simp only [encS, PyData.list.injEq] at h
  induction s generalizing t with
  | nil => cases t <;> simp_all
  | cons x r ih => cases t with
    | nil => simp at h
    | cons y s => simp only [List.map_cons, List.cons.injEq] at h; rw [encT_inj h.1, ih h.2]
end Fk

/-! SpName: names that a law draws. -/
namespace Fk
open PySem
/-- names in use, by value or in a cell apart from p -/
structure UsedV (M : Mem) (p : Nat) (u : Val) (us : List Str) : Prop where
  at_ : u = .d (.list (us.map .str)) ∨ ∃ q, u = .p q ∧ q ≠ p ∧ M[q]? = some (.lst ((us.map PyData.str).map .d))
  ok : ∀ w ∈ us, nm w = true
  len : us.length ≤ 25
theorem UsedV.set {M : Mem} {p : Nat} {u : Val} {us : List Str} (h : UsedV M p u us) (c : Cell) : UsedV (M.set p c) p u us := by
  refine ⟨?_, h.ok, h.len⟩
  rcases h.at_ with e | ⟨q, e1, e2, e3⟩
  · exact .inl e
  · exact .inr ⟨q, e1, e2, by rw [List.getElem?_set_ne (Ne.symm e2)]; exact e3⟩
theorem UsedV.mem {M : Mem} {p : Nat} {u : Val} {us : List Str} (h : UsedV M p u us) {w : Str} (hw : PyData.strOk w = true) : cmpV.memV M (.d (.str w)) u = some (decide (w ∈ us)) := by
  have h2 : shp (.list (us.map .str)) = true := shp_list (n := 0) (fun x hx => by
    obtain ⟨c, hc, rfl⟩ := List.mem_map.mp hx
    exact nm_fit _ (h.ok c hc)) (by omega)
  have h1 : shp (.str w) = true := by simpa using hw
  rcases h.at_ with e | ⟨q, e1, e2, e3⟩
  · rw [e, mem_list h1 h2, inD_str]
  · rw [e1, mem_p e3 h1 h2, inD_str]
theorem UsedV.dangle {M : Mem} {p : Nat} {u : Val} {us : List Str} (h : UsedV M p u us) : dangle M.length (some u) = some u := by
  rcases h.at_ with e | ⟨q, e1, e2, e3⟩
  · rw [e]; rfl
  · rw [e1]; exact dangle_p (get_lt e3)
theorem set_twice {M : Mem} {p : Nat} {c d : Cell} : (M.set p c).set p d = M.set p d := by simp
theorem name_loop1 (n : Nat) (M : Mem) (p : Nat) (v : Int) (u : Val) (us : List Str) (hM : M[p]? = some (.lst [.d (.int v)])) (hu : UsedV M p u us) (k : Nat) (hk : k ≤ 8) :
    ∃ (v' : Int) (w : Str) (o : Option Val), foldS none true M.length (turnS (.one 4) fun ρ' M' => evSs G_l_name M.length ρ' M' b_l_name_1) ((List.range k).map fun (i : Nat) => Itm.v (.d (.int (i : Int)))) [some (.p p), some u, some (.d (.str AZ)), some (.d (.str "")), none, none] M
      = .nx [some (.p p), some u, some (.d (.str AZ)), some (.d (.str w)), o, none] (M.set p (.lst [.d (.int v')])) ∧ w.length = k ∧ (chars w).all low = true ∧ ∀ L, dangle L o = o := by
  have hp := get_lt hM
  generalize hF : foldS _ _ _ _ _ _ _ = o
  obtain ⟨ρ', M', rfl, v', w, o', rfl, rfl, h1, h2, h3⟩ := for_rng hF (fun i ρ M1 => ∃ (v' : Int) (w : Str) (o : Option Val), ρ = [some (.p p), some u, some (.d (.str AZ)), some (.d (.str w)), o, none] ∧ M1 = M.set p (.lst [.d (.int v')]) ∧ w.length = i ∧ (chars w).all low = true ∧ ∀ L, dangle L o = o)
    ⟨v, "", none, rfl, by
      obtain ⟨h1, h2⟩ := List.getElem?_eq_some_iff.mp hM
      rw [← h2]; simp, rfl, rfl, fun _ => rfl⟩ (by
    rintro i ρ M1 hi ⟨v', w, o, rfl, rfl, h1, h2, _⟩
    have hM1 : (M.set p (.lst [.d (.int v')]))[p]? = some (.lst [.d (.int v')]) := get_set hM
    have hx0 : 0 ≤ v' % 26 := Int.emod_nonneg _ (by decide)
    have hx1 : v' % 26 < 26 := Int.emod_lt_of_pos _ (by decide)
    obtain ⟨c, hc1, hc2⟩ : ∃ c, (chars AZ)[(v' % 26).toNat]? = some c ∧ low c = true := by
      rw [az_list]
      refine ⟨97 + (v' % 26).toNat, ?_, ?_⟩
      · rw [List.getElem?_range']; simp; omega
      · simp [low]; omega
    have ha : w.length + (St [c]).length ≤ lim := by simp [h1]; unfold lim; omega
    have hs : sgn c = .str (St [c]) := rfl
    simp [b_l_name_1, sp_take _ _ _ _ _ hM1 (by decide : (0:Int) < 26) (by decide), idx_str _ (by rw [az_len]; decide), az_len, ixN_pos (n := 26) hx0 (by omega), hc1, hs, bin_adds ha, dangle_p hp, hu.dangle, take_set]
    simp at h2
    exact ⟨_, _, _, ⟨rfl, rfl⟩, rfl, by simp [h1], fun x hx => by simp at hx; exact hx.elim (h2 x) fun e => e ▸ hc2, fun _ => rfl⟩)
  exact ⟨v', w, o', rfl, h1, h2, h3⟩
theorem nodup_len {α : Type} [DecidableEq α] : ∀ (l us : List α), l.Nodup → (∀ t ∈ l, t ∈ us) → l.length ≤ us.length
  | [], _, _, _ => Nat.zero_le _
  | x :: r, us, h, hs => by
    rw [List.nodup_cons] at h
    have hx := hs x List.mem_cons_self
    have := nodup_len r (us.erase x) h.2 fun t ht => (List.mem_erase_of_ne (fun (e : t = x) => h.1 (by rw [← e]; exact ht))).mpr (hs t (List.mem_cons_of_mem _ ht))
    rw [List.length_erase_of_mem hx] at this
    have := List.length_pos_of_mem hx
    simp; omega
def key (w : Str) : Nat := if w.length < 8 then w.length else 8 + ((chars w).getLast?.getD 0)
structure Trd (us : List Str) (k : Nat) (w : Str) : Prop where
  ex : ∃ tried : List Str, tried.Nodup ∧ (∀ t ∈ tried, t ∈ us) ∧ tried.length + 1 = k ∧ (∀ t ∈ tried, key t < key w)
  last : w.length = 8 → (chars w).getLast?.getD 0 + 1 = 97 + k
theorem nm_next {w : Str} {c : Nat} (h : nm w = true) (hc : low c = true) : nm (St (((chars w).take 7) ++ [c])) = true := by
  simp only [nm, Bool.and_eq_true, decide_eq_true_eq, List.all_eq_true] at h ⊢
  have hl := str_len w
  refine ⟨⟨by simp, by simp; omega⟩, fun x hx => ?_⟩
  rw [chars_St] at hx
  rcases List.mem_append.mp hx with hx | hx
  · exact h.2 x (List.mem_of_mem_take hx)
  · simp at hx; subst hx; exact hc
theorem key_next {us : List Str} {w : Str} {k : Nat} (h : nm w = true) (hk : 0 < k) (ht : Trd us k w) (hw : w ∈ us) : Trd us (k + 1) (St ((chars w).take 7 ++ [97 + k])) := by
  obtain ⟨tried, t1, t2, t3, t4⟩ := ht.ex
  have hl := nm_len h
  have hc := str_len w
  have hlen : (St ((chars w).take 7 ++ [97 + k])).length = min 7 w.length + 1 := by simp
  have hlast : (chars (St ((chars w).take 7 ++ [97 + k]))).getLast?.getD 0 = 97 + k := by simp
  have hkey : key w < key (St ((chars w).take 7 ++ [97 + k])) := by
    unfold key
    rw [hlen, hlast]
    split
    · split <;> omega
    · have := ht.last (by omega)
      split <;> omega
  refine ⟨⟨w :: tried, ?_, ?_, by simp; omega, ?_⟩, fun _ => by rw [hlast]; omega⟩
  · rw [List.nodup_cons]
    exact ⟨fun hm => by have := t4 w hm; omega, t1⟩
  · intro t hm
    rcases List.mem_cons.mp hm with rfl | hm
    · exact hw
    · exact t2 t hm
  · intro t hm
    rcases List.mem_cons.mp hm with rfl | hm
    · exact hkey
    · have := t4 t hm; omega
theorem name_loop2 (n : Nat) (M : Mem) (p : Nat) (u : Val) (us : List Str) (hp : p < M.length) (hu : UsedV M p u us) (w : Str) (o4 : Option Val) (ho : dangle M.length o4 = o4) (hw : nm w = true) :
    ∃ (w' : Str) (o : Option Val), foldS none true M.length (turnS (.one 5) fun ρ' M' => evSs G_l_name M.length ρ' M' b_l_name_0) ((chars AZ).map fun c => Itm.v (.d (sgn c))) [some (.p p), some u, some (.d (.str AZ)), some (.d (.str w)), o4, none] M
      = .nx [some (.p p), some u, some (.d (.str AZ)), some (.d (.str w')), o4, o] M ∧ nm w' = true ∧ w' ∉ us := by
  generalize hF : foldS _ _ _ _ _ _ _ = o
  obtain ⟨ρ', M', rfl, rfl, w', o', rfl, h1, h2⟩ := for_lst hF (fun pre ρ M1 => M1 = M ∧ ∃ (w : Str) (o : Option Val), ρ = [some (.p p), some u, some (.d (.str AZ)), some (.d (.str w)), o4, o] ∧ nm w = true ∧ (w ∉ us ∨ pre.length = 0 ∨ (0 < pre.length ∧ Trd us pre.length w)))
    ⟨rfl, w, none, rfl, hw, .inr (.inl rfl)⟩ (by
    rintro pre c post ρ M1 hx ⟨rfl, w, o, rfl, h1, h2⟩
    have hc : c = 97 + pre.length := by
      have e : (chars AZ)[pre.length]? = some c := by rw [hx]; simp
      rw [az_list, List.getElem?_range'] at e
      · simpa using e.symm
      · apply Classical.byContradiction
        intro hn
        rw [List.getElem?_eq_none_iff.mpr (by simp; omega)] at e; cases e
    have hcl : pre.length < 26 := by
      have e : (chars AZ).length = pre.length + (1 + post.length) := by rw [hx]; simp; omega
      rw [az_list] at e; simp at e; omega
    have hlow : low c = true := by simp [low]; omega
    have hl := nm_len h1
    have hok := nm_strOk h1
    by_cases hm : w ∈ us
    · have hlen : (St ((chars w).take 7)).length + (St [c]).length ≤ lim := by simp; unfold lim; omega
      have e : St ((chars w).take 7) ++ St [c] = St ((chars w).take 7 ++ [c]) := str_ext (by simp)
      simp [b_l_name_0, hu.mem hok, hm, slc_str (s := w) (by unfold lim; omega), sgn_St, bin_adds hlen, dangle_p hp, hu.dangle, ho, e]
      refine ⟨nm_next h1 hlow, .inr ?_⟩
      subst hc
      rcases h2 with h2 | h2 | ⟨h2, h3⟩
      · exact absurd hm h2
      · have e0 : pre = [] := List.length_eq_zero_iff.mp h2
        subst e0
        exact ⟨⟨[], by simp, by simp, by simp, by simp⟩, fun _ => by simp⟩
      · exact key_next h1 h2 h3 hm
    · simp [b_l_name_0, hu.mem hok, hm, dangle_p hp, hu.dangle, ho, sgn_St, h1])
  refine ⟨w', o', rfl, h1, ?_⟩
  rw [az_list] at h2
  rcases h2 with h2 | h2 | ⟨_, h3⟩
  · exact h2
  · simp at h2
  · intro hm
    obtain ⟨tried, t1, t2, t3, t4⟩ := h3.ex
    have := nodup_len (w' :: tried) us (by
      rw [List.nodup_cons]
      exact ⟨fun h => by have := t4 _ h; omega, t1⟩) (fun t ht => by
      rcases List.mem_cons.mp ht with rfl | ht
      · exact hm
      · exact t2 t ht)
    have := hu.len
    simp at this t3
    simp_all
    omega
theorem ten_at {M : Mem} (x : Int) (h0 : 0 ≤ x) (h1 : x < 10) : ∃ k : Nat, 1 ≤ k ∧ k ≤ 8 ∧ idxV M (.d (.list [.int 1, .int 1, .int 2, .int 2, .int 3, .int 4, .int 5, .int 6, .int 7, .int 8])) (.d (.int x)) = some (.d (.int (k : Int))) := by
  have : x = 0 ∨ x = 1 ∨ x = 2 ∨ x = 3 ∨ x = 4 ∨ x = 5 ∨ x = 6 ∨ x = 7 ∨ x = 8 ∨ x = 9 := by omega
  rcases this with rfl | rfl | rfl | rfl | rfl | rfl | rfl | rfl | rfl | rfl
  · exact ⟨1, by decide, by decide, by simp [ixN]⟩
  · exact ⟨1, by decide, by decide, by simp [ixN]⟩
  · exact ⟨2, by decide, by decide, by simp [ixN]⟩
  · exact ⟨2, by decide, by decide, by simp [ixN]⟩
  · exact ⟨3, by decide, by decide, by simp [ixN]⟩
  · exact ⟨4, by decide, by decide, by simp [ixN]⟩
  · exact ⟨5, by decide, by decide, by simp [ixN]⟩
  · exact ⟨6, by decide, by decide, by simp [ixN]⟩
  · exact ⟨7, by decide, by decide, by simp [ixN]⟩
  · exact ⟨8, by decide, by decide, by simp [ixN]⟩
theorem sp_name (n : Nat) (M : Mem) (p : Nat) (v : Int) (u : Val) (us : List Str) (hM : M[p]? = some (.lst [.d (.int v)])) (hu : UsedV M p u us) :
    ∃ (v' : Int) (w : Str), F_l_name.run n [.p p, u] M = .ok (.d (.str w)) (M.set p (.lst [.d (.int v')])) ∧ nm w = true ∧ w ∉ us := by
  have hp := get_lt hM
  have hx0 : 0 ≤ v % 10 := Int.emod_nonneg _ (by decide)
  have hx1 : v % 10 < 10 := Int.emod_lt_of_pos _ (by decide)
  obtain ⟨k, k1, k8, hk⟩ := ten_at (M := M.set p (.lst [.d (.int (v / 10))])) (v % 10) hx0 hx1
  have hM2 : (M.set p (.lst [.d (.int (v / 10))]))[p]? = some (.lst [.d (.int (v / 10))]) := get_set hM
  obtain ⟨v2, w, o4, e1, h1, h2, h3⟩ := name_loop1 n _ p _ u us hM2 (hu.set _) k k8
  have hw : nm w = true := by simp [nm, h1, k1, k8]; simpa using h2
  obtain ⟨w', o5, e2, h4, h5⟩ := name_loop2 n (M.set p (.lst [.d (.int v2)])) p u us (by simpa using hp) (hu.set _) w o4 (h3 _) hw
  simp at e1 e2
  refine ⟨v2, w', ?_, h4, h5⟩
  simp [-idx_list, F_l_name, c_l_name, List.replicate, sp_take _ _ _ _ _ hM (by decide : (0:Int) < 10) (by decide), hk, rng1_nat (j := k) (by unfold lim; omega), items_str (s := AZ) (by rw [az_len]; decide), Function.comp_def, e1, e2]
end Fk

/-! SpScheme: schemes that a law draws. -/
namespace Fk
open PySem
theorem get0 {X r : Mem} {A : Cell} {L : Nat} (h : X.length = L) : (X ++ A :: r)[L]? = some A := by subst h; simp
theorem get1 {X r : Mem} {A B : Cell} {L : Nat} (h : X.length = L) : (X ++ A :: B :: r)[L + 1]? = some B := by subst h; simp [List.getElem?_append_right]
theorem get2 {X r : Mem} {A B C : Cell} {L : Nat} (h : X.length = L) : (X ++ A :: B :: C :: r)[L + 2]? = some C := by subst h; simp [List.getElem?_append_right]
theorem set0 {X r : Mem} {A A' : Cell} {L : Nat} (h : X.length = L) : (X ++ A :: r).set L A' = X ++ A' :: r := by subst h; simp
theorem set1 {X r : Mem} {A B B' : Cell} {L : Nat} (h : X.length = L) : (X ++ A :: B :: r).set (L + 1) B' = X ++ A :: B' :: r := by
  subst h; rw [List.set_append_right _ _ (by omega)]; simp
theorem set2 {X r : Mem} {A B C C' : Cell} {L : Nat} (h : X.length = L) : (X ++ A :: B :: C :: r).set (L + 2) C' = X ++ A :: B :: C' :: r := by
  subst h; rw [List.set_append_right _ _ (by omega)]; simp
theorem take0 {X r : Mem} {L : Nat} (h : X.length = L) : (X ++ r).take L = X := by subst h; simp
theorem take1 {X r : Mem} {A : Cell} {L : Nat} (h : X.length = L) : (X ++ A :: r).take (L + 1) = X ++ [A] := by
  rw [show X ++ A :: r = (X ++ [A]) ++ r by simp]; exact take0 (by simp [h])
theorem take2 {X r : Mem} {A B : Cell} {L : Nat} (h : X.length = L) : (X ++ A :: B :: r).take (L + 2) = X ++ [A, B] := by
  rw [show X ++ A :: B :: r = (X ++ [A, B]) ++ r by simp]; exact take0 (by simp [h])
def svs (cs : List Str) : List Val := (cs.map PyData.str).map .d
theorem svs_len (cs : List Str) : (svs cs).length = cs.length := by simp [svs]
theorem svs_add (cs : List Str) (w : Str) : svs cs ++ [.d (.str w)] = svs (cs ++ [w]) := by simp [svs]
theorem scheme_inner (M : Mem) (p : Nat) (v : Int) (A : Cell) (many alike left k size : Int) (hp : p < M.length) (o8 o9 : Option Val) (s : Nat) (hs : s ≤ 5) :
    ∃ (v' : Int) (cols : List Str) (o8' o9' : Option Val), foldS none true (M.length + 2) (turnS (.one 8) fun ρ' M' => evSs G_l_scheme (M.length + 2) ρ' M' b_l_scheme_1) ((List.range s).map fun (i : Nat) => Itm.v (.d (.int (i : Int))))
      [some (.p p), some (.d (.int many)), some (.d (.int alike)), some (.d (.int left)), some (.p M.length), some (.d (.int k)), some (.d (.int size)), some (.p (M.length + 1)), o8, o9, none, none] (M.set p (.lst [.d (.int v)]) ++ [A, .lst []])
      = .nx [some (.p p), some (.d (.int many)), some (.d (.int alike)), some (.d (.int left)), some (.p M.length), some (.d (.int k)), some (.d (.int size)), some (.p (M.length + 1)), o8', o9', none, none] (M.set p (.lst [.d (.int v')]) ++ [A, .lst (svs cols)])
      ∧ cols.length = s ∧ (∀ c ∈ cols, nm c = true) ∧ cols.Nodup := by
  generalize hF : foldS _ _ _ _ _ _ _ = o
  obtain ⟨ρ', M', rfl, v', cols, o8', o9', rfl, rfl, h1, h2, h3⟩ := for_rng hF (fun i ρ M1 => ∃ (v' : Int) (cols : List Str) (o8' o9' : Option Val),
      ρ = [some (.p p), some (.d (.int many)), some (.d (.int alike)), some (.d (.int left)), some (.p M.length), some (.d (.int k)), some (.d (.int size)), some (.p (M.length + 1)), o8', o9', none, none] ∧
      M1 = M.set p (.lst [.d (.int v')]) ++ [A, .lst (svs cols)] ∧ cols.length = i ∧ (∀ c ∈ cols, nm c = true) ∧ cols.Nodup)
    ⟨v, [], o8, o9, rfl, rfl, rfl, by simp, by simp⟩ (by
    rintro i ρ M1 hi ⟨v', cols, o8', o9', rfl, rfl, h1, h2, h3⟩
    have hL : (M.set p (.lst [.d (.int v')])).length = M.length := by simp
    have hg : (M.set p (.lst [.d (.int v')]) ++ [A, .lst (svs cols)])[p]? = some (.lst [.d (.int v')]) := get_old (by rw [List.getElem?_set_self hp])
    by_cases ha : alike = 1
    · have e1 := sp_take (M.length + 2) _ p v' 5 hg (by decide) (by decide)
      rw [set_old (by rw [List.getElem?_set_self hp])] at e1
      simp only [set_twice] at e1
      have hL2 : (M.set p (.lst [.d (.int (v' / 5))])).length = M.length := by simp
      obtain ⟨v2, w, e2, hw1, hw2⟩ := sp_name (M.length + 2) (M.set p (.lst [.d (.int (v' / 5))]) ++ [A, .lst (svs cols), .lst [.d (.int (v' % 5 * 10))]]) (M.length + 2) (v' % 5 * 10) (.p (M.length + 1)) cols (get2 hL2) ⟨.inr ⟨_, rfl, by omega, get1 hL2⟩, h2, by omega⟩
      rw [set2 hL2] at e2
      have hm : mulOk (v' % 5) 10 = true := mulOk_r (by decide) (by decide)
      have ap : ∀ a : Val, mayPut (M.length + 2) (M.length + 1) a = true → bmV .v (M.length + 2) .append (M.set p (.lst [.d (.int (v' / 5))]) ++ [A, .lst (svs cols), .lst [.d (.int v2)]]) (.p (M.length + 1)) [a] = .ok (.d .none) (M.set p (.lst [.d (.int (v' / 5))]) ++ [A, .lst (svs cols ++ [a]), .lst [.d (.int v2)]]) := fun a ha => by
        rw [m_append (get1 hL2) (by rw [svs_len]; unfold lim; omega) ha, set1 hL2]
      have d1 : dangle (M.length + 2) (some (.p p)) = some (.p p) := dangle_p (by omega)
      have d2 : dangle (M.length + 2) (some (.p M.length)) = some (.p M.length) := dangle_p (by omega)
      have d3 : dangle (M.length + 2) (some (.p (M.length + 1))) = some (.p (M.length + 1)) := dangle_p (by omega)
      simp [b_l_scheme_1, ha, e1, bin_muli hm, List.append_assoc, e2, recv_p (get1 hL2), ap, svs_add, take2 hL2, d1, d2, d3]
      exact ⟨_, cols ++ [w], rfl, by simp [h1], fun c hc => by
        rcases List.mem_append.mp hc with hc | hc
        · exact h2 c hc
        · simp at hc; exact hc ▸ hw1, List.nodup_append.mpr ⟨h3, by simp, fun a ha b hb => by simp at hb; subst hb; exact fun e => hw2 (e ▸ ha)⟩⟩
    · obtain ⟨v2, w, e2, hw1, hw2⟩ := sp_name (M.length + 2) (M.set p (.lst [.d (.int v')]) ++ [A, .lst (svs cols)]) p v' (.p (M.length + 1)) cols hg ⟨.inr ⟨_, rfl, by omega, get1 hL⟩, h2, by omega⟩
      rw [set_old (by rw [List.getElem?_set_self hp])] at e2
      simp only [set_twice] at e2
      have hL2 : (M.set p (.lst [.d (.int v2)])).length = M.length := by simp
      have ap : ∀ a : Val, mayPut (M.length + 2) (M.length + 1) a = true → bmV .v (M.length + 2) .append (M.set p (.lst [.d (.int v2)]) ++ [A, .lst (svs cols)]) (.p (M.length + 1)) [a] = .ok (.d .none) (M.set p (.lst [.d (.int v2)]) ++ [A, .lst (svs cols ++ [a])]) := fun a ha => by
        rw [m_append (get1 hL2) (by rw [svs_len]; unfold lim; omega) ha, set1 hL2]
      have d1 : dangle (M.length + 2) (some (.p p)) = some (.p p) := dangle_p (by omega)
      have d2 : dangle (M.length + 2) (some (.p M.length)) = some (.p M.length) := dangle_p (by omega)
      have d3 : dangle (M.length + 2) (some (.p (M.length + 1))) = some (.p (M.length + 1)) := dangle_p (by omega)
      simp [b_l_scheme_1, ha, List.append_assoc, e2, recv_p (get1 hL), ap, svs_add, take2 hL2, d1, d2, d3]
      exact ⟨_, cols ++ [w], rfl, by simp [h1], fun c hc => by
        rcases List.mem_append.mp hc with hc | hc
        · exact h2 c hc
        · simp at hc; exact hc ▸ hw1, List.nodup_append.mpr ⟨h3, by simp, fun a ha b hb => by simp at hb; subst hb; exact fun e => hw2 (e ▸ ha)⟩⟩)
  exact ⟨v', cols, o8', o9', rfl, h1, h2, h3⟩
def encTs (sch : Scm) : List Val := (sch.map encT).map .d
theorem encTs_len (s : Scm) : (encTs s).length = s.length := by simp [encTs]
theorem encTs_add (s : Scm) (t : Str × List Str) : encTs s ++ [.d (encT t)] = encTs (s ++ [t]) := by simp [encTs]
structure Part (i : Nat) (many left : Int) (sch : Scm) : Prop where
  len : sch.length = i
  ts : ∀ t ∈ sch, TabOk t
  nd : (sch.map (·.1)).Nodup
  sum : left = 8 - ((sch.map fun t => t.2.length).sum : Nat)
  left : many - i ≤ left
theorem scheme_outer (M : Mem) (p : Nat) (v : Int) (many alike : Int) (hp : p < M.length) (hm1 : 1 ≤ many) (hm3 : many ≤ 3) :
    ∃ (v' : Int) (sch : Scm) (left : Int) (o5 o6 o7 o8 o9 : Option Val), foldS none true (M.length + 1) (turnS (.one 5) fun ρ' M' => evSs G_l_scheme (M.length + 1) ρ' M' b_l_scheme_2) ((List.range many.toNat).map fun (i : Nat) => Itm.v (.d (.int (i : Int))))
      [some (.p p), some (.d (.int many)), some (.d (.int alike)), some (.d (.int 8)), some (.p M.length), none, none, none, none, none, none, none] (M.set p (.lst [.d (.int v)]) ++ [.lst []])
      = .nx [some (.p p), some (.d (.int many)), some (.d (.int alike)), some (.d (.int left)), some (.p M.length), o5, o6, o7, o8, o9, none, none] (M.set p (.lst [.d (.int v')]) ++ [.lst (encTs sch)])
      ∧ Part many.toNat many left sch := by
  generalize hF : foldS _ _ _ _ _ _ _ = o
  obtain ⟨ρ', M', rfl, v', sch, left, o5, o6, o7, o8, o9, rfl, rfl, hP⟩ := for_rng hF (fun i ρ M1 => ∃ (v' : Int) (sch : Scm) (left : Int) (o5 o6 o7 o8 o9 : Option Val),
      ρ = [some (.p p), some (.d (.int many)), some (.d (.int alike)), some (.d (.int left)), some (.p M.length), o5, o6, o7, o8, o9, none, none] ∧
      M1 = M.set p (.lst [.d (.int v')]) ++ [.lst (encTs sch)] ∧ Part i many left sch)
    ⟨v, [], 8, none, none, none, none, none, rfl, rfl, rfl, by simp, by simp, by simp, by omega⟩ (by
    rintro i ρ M1 hi ⟨v', sch, left, o5, o6, o7, o8, o9, rfl, rfl, hP⟩
    have hL : (M.set p (.lst [.d (.int v')])).length = M.length := by simp
    have hg : (M.set p (.lst [.d (.int v')]) ++ [.lst (encTs sch)])[p]? = some (.lst [.d (.int v')]) := get_old (by rw [List.getElem?_set_self hp])
    have hl := hP.left
    obtain ⟨sz, hsz, hsz1, hsz5, hszl⟩ : ∃ sz : Int, (if left - many + 1 + (i : Int) < 5 then left - many + 1 + (i : Int) else 5) = sz ∧ 1 ≤ sz ∧ sz ≤ 5 ∧ sz ≤ left - many + 1 + i := by
      refine ⟨_, rfl, ?_⟩
      split <;> omega
    have e1 := sp_take (M.length + 1) _ p v' sz hg (by omega) (by omega)
    rw [set_old (by rw [List.getElem?_set_self hp])] at e1
    simp only [set_twice] at e1
    have hr0 : 0 ≤ v' % sz := Int.emod_nonneg _ (by omega)
    have hr1 : v' % sz < sz := Int.emod_lt_of_pos _ (by omega)
    obtain ⟨v2, cols, o8', o9', e2, hc1, hc2, hc3⟩ := scheme_inner M p (v' / sz) (.lst (encTs sch)) many alike (left - (1 + v' % sz)) i (1 + v' % sz) hp o8 o9 (1 + v' % sz).toNat (by omega)
    have hL2 : (M.set p (.lst [.d (.int v2)])).length = M.length := by simp
    have hi2 : itemsOf (M.set p (.lst [.d (.int v2)]) ++ [.lst (encTs sch), .lst (svs cols)]) (.p M.length) = some (encTs sch) := items_p (get0 hL2)
    have hr : recvT (M.set p (.lst [.d (.int v2)]) ++ [.lst (encTs sch), .lst (svs cols)]) (.p M.length) = some .list := recv_p (get0 hL2)
    have hmp : (encTs sch).map Itm.v = sch.map fun t => Itm.v (.d (encT t)) := by simp [encTs, Function.comp_def]
    simp [b_l_scheme_2, hsz, e1, rng1_ok (j := 1 + v' % sz) (by omega) (by unfold lim; omega), e2, hr, hi2, hmp]
    generalize hF : foldC _ _ _ _ _ = o
    cases lc_map hF (fun t => .str t.1) (by
      intro t ht
      simp [b_l_scheme_0, encT])
    obtain ⟨v3, w, e3, hw1, hw2⟩ := sp_name (M.length + 1) (M.set p (.lst [.d (.int v2)]) ++ [.lst (encTs sch), .lst (svs cols)]) p v2 (.d (.list ((sch.map (·.1)).map .str))) (sch.map (·.1)) (get_old (by rw [List.getElem?_set_self hp])) ⟨.inl rfl, fun w hw => by
      obtain ⟨t, ht, rfl⟩ := List.mem_map.mp hw
      exact (hP.ts t ht).n, by simp [hP.len]; omega⟩
    rw [set_old (by rw [List.getElem?_set_self hp])] at e3
    simp only [set_twice, List.map_map, Function.comp_def] at e3
    have hL3 : (M.set p (.lst [.d (.int v3)])).length = M.length := by simp
    have hd : dataOf (M.set p (.lst [.d (.int v3)]) ++ [.lst (encTs sch), .lst (svs cols)]) (.p (M.length + 1)) = some (cols.map .str) := data_p (get1 hL3)
    have ap : ∀ a : Val, mayPut (M.length + 1) M.length a = true → bmV .v (M.length + 1) .append (M.set p (.lst [.d (.int v3)]) ++ [.lst (encTs sch), .lst (svs cols)]) (.p M.length) [a] = .ok (.d .none) (M.set p (.lst [.d (.int v3)]) ++ [.lst (encTs sch ++ [a]), .lst (svs cols)]) := fun a ha => by
      rw [m_append (get0 hL3) (by rw [encTs_len, hP.len]; unfold lim; omega) ha, set0 hL3]
    have hT : Val.d (.tuple [.str w, .tuple (cols.map .str)]) = .d (encT (w, cols)) := rfl
    have d1 : dangle (M.length + 1) (some (.p p)) = some (.p p) := dangle_p (by omega)
    have d2 : dangle (M.length + 1) (some (.p M.length)) = some (.p M.length) := dangle_p (by omega)
    simp [e3, hd, ap, hT, encTs_add, take1 hL3, d1, d2]
    refine ⟨_, _, ⟨rfl, rfl⟩, ?_, ?_, ?_, ?_, ?_⟩
    · simp [hP.len]
    · intro t ht
      rcases List.mem_append.mp ht with ht | ht
      · exact hP.ts t ht
      · simp at ht; subst ht
        exact ⟨hw1, by show 1 ≤ cols.length; omega, by show cols.length ≤ 5; omega, hc2, hc3⟩
    · rw [List.map_append, List.nodup_append]
      exact ⟨hP.nd, by simp, fun a ha b hb => by simp at hb; subst hb; exact fun e => hw2 (e ▸ ha)⟩
    · rw [List.map_append, List.sum_append]
      have := hP.sum
      simp [hc1]; omega
    · omega)
  exact ⟨v', sch, left, o5, o6, o7, o8, o9, rfl, hP⟩
theorem mapM_encTs (k : Nat) (M : Mem) (s : Scm) : (encTs s).mapM (rd k M) = some (s.map encT) := mapM_rd _
theorem giveV_encTs {M : Mem} {s : Scm} {X : Mem} (h : X.length = M.length) : giveV .frz M.length (.p M.length) (X ++ [.lst (encTs s)]) = .ok (.d (encS s)) X := by
  have := giveV_new (M := X) (vs := encTs s) (mapM_encTs _ _ s)
  rw [h] at this; exact this
theorem sp_scheme (n : Nat) (M : Mem) (p : Nat) (v : Int) (hM : M[p]? = some (.lst [.d (.int v)])) :
    ∃ (v' : Int) (s : Scm), F_l_scheme.run n [.p p] M = .ok (.d (encS s)) (M.set p (.lst [.d (.int v')])) ∧ ScmOk s := by
  have hp := get_lt hM
  have r1 : 0 ≤ v % 3 := Int.emod_nonneg _ (by decide)
  have r2 : v % 3 < 3 := Int.emod_lt_of_pos _ (by decide)
  have e1 := sp_take M.length M p v 3 hM (by decide) (by decide)
  have e2 := sp_take M.length _ p (v / 3) 2 (get_set hM (d := .lst [.d (.int (v / 3))])) (by decide) (by decide)
  simp only [set_twice] at e2
  obtain ⟨v', sch, left, o5, o6, o7, o8, o9, e3, hP⟩ := scheme_outer M p (v / 3 / 2) (1 + v % 3) (v / 3 % 2) hp (by omega) (by omega)
  have hL : (M.set p (.lst [.d (.int v')])).length = M.length := by simp
  refine ⟨v', sch, ?_, ?_⟩
  · simp [F_l_scheme, c_l_scheme, List.replicate, e1, e2, rng1_ok (j := 1 + v % 3) (by omega) (by unfold lim; omega), e3, giveV_encTs hL]
  · have := hP.len
    have := hP.sum
    have := hP.left
    exact ⟨by omega, by omega, hP.ts, by omega, hP.nd⟩
end Fk

/-! SpShow: data shown as texts: a bound on the length. -/
namespace Fk
open PySem
mutual
/-- a bound on a shown text's length -/
def wt : D → Nat
  | .none => 4
  | .bool _ => 5
  | .int _ => 1921
  | .str s => 10 * s.length + 2
  | .list xs => wts xs + 2
  | .tuple xs => wts xs + 3
  | .dict _ => 0
def wts : List D → Nat
  | [] => 0
  | x :: r => wt x + 2 + wts r
end
def lens (ts : List Str) : Nat := (ts.map fun t => t.length + 2).sum
theorem textFrom_up : ∀ (ts : List Str) (k : Nat) (a : Str), (textFrom k a ts).length ≤ a.length + lens ts
  | [], k, a => by simp [textFrom, lens]
  | t :: r, k, a => by
    have h := textFrom_up r (k + 1) (a ++ (if k > 0 then ", " else "" : String) ++ t)
    have e : (Str.ofString (if k > 0 then ", " else "")).length ≤ 2 := by split <;> decide
    rw [textFrom]
    simp only [str_len_app, lens, List.map_cons, List.sum_cons] at h ⊢
    omega
theorem join_up (ts : List Str) : (Str.join ", " ts).length ≤ lens ts := by
  have h := StrLaws.join_length_le ", " ts
  have e : (Str.ofString ", ").length = 2 := by decide
  rw [e] at h
  refine Nat.le_trans h ?_
  simp only [lens]
  clear h
  induction ts with
  | nil => simp
  | cons t r ih => simp at ih ⊢; omega
mutual
theorem shown_le : ∀ (n : Nat) (x : D), Fit n x → PyData.showable x = true → (PyData.shown x).length ≤ wt x
  | _, .none, _, _ => by rw [PyData.shown, wt]; decide
  | _, .bool b, _, _ => by rw [PyData.shown, wt]; cases b <;> decide
  | _, .int i, _, h => by
    rw [PyData.showable, decide_eq_true_eq] at h
    rw [PyData.shown, wt]
    exact PyProof.Rows.int_text_len_1921 h
  | _, .str s, h, _ => by
    rw [PyData.shown, wt]
    refine StrLaws.reprText_len s fun c hc => ?_
    have := (strOk_iff s).mp ((fit_str _ _).mp h).1 c hc
    omega
  | n + 1, .list xs, h, hs => by
    rw [PyData.showable] at hs
    have := shownAll_le n xs h.2 hs
    rw [PyData.shown, wt]
    unfold listText
    have e := textFrom_up (PyData.shownAll xs) 0 "["
    have e1 : (Str.ofString "[").length = 1 := by decide
    have e2 : (Str.ofString "]").length = 1 := by decide
    rw [str_len_app, e2]
    rw [e1] at e
    omega
  | n + 1, .tuple xs, h, hs => by
    rw [PyData.showable] at hs
    have := shownAll_le n xs h.2 hs
    rw [PyData.shown, wt]
    unfold tupleText
    have e := join_up (PyData.shownAll xs)
    have e1 : (Str.ofString "(").length = 1 := by decide
    have e2 : (Str.ofString (if (PyData.shownAll xs).length == 1 then ",)" else ")")).length ≤ 2 := by split <;> decide
    rw [str_len_app, str_len_app, e1]
    omega
  | 0, .list _, h, _ => by cases h
  | 0, .tuple _, h, _ => by cases h
  | 0, .dict _, h, _ => by cases h
  | n + 1, .dict _, h, _ => by cases h
theorem shownAll_le : ∀ (n : Nat) (xs : List D), (∀ x ∈ xs, Fit n x) → PyData.showableAll xs = true → lens (PyData.shownAll xs) ≤ wts xs
  | _, [], _, _ => by rw [PyData.shownAll, wts]; exact Nat.le_refl _
  | n, x :: r, h, hs => by
    rw [PyData.showableAll, Bool.and_eq_true] at hs
    have h1 := shown_le n x (h x List.mem_cons_self) hs.1
    have h2 := shownAll_le n r (fun y hy => h y (List.mem_cons_of_mem _ hy)) hs.2
    rw [PyData.shownAll, wts]
    simp only [lens, List.map_cons, List.sum_cons] at h2 ⊢
    omega
end
theorem shw_list {n : Nat} {xs : List D} (h : Fit n (.list xs)) (hn : n ≤ 64) (hs : PyData.showable (.list xs) = true) (hw : wt (.list xs) ≤ lim) : shw (.list xs) = true := by
  have a := shown_le n _ h hs
  have b := h.lay
  have c := PyData.hasDict_of_canLay _ b.1
  simp only [shw, isDisp, hs, c, Bool.true_and, Bool.not_false, Bool.and_eq_true, decide_eq_true_eq]
  exact ⟨by omega, by omega⟩
theorem shw_tuple {n : Nat} {xs : List D} (h : Fit n (.tuple xs)) (hn : n ≤ 64) (hs : PyData.showable (.tuple xs) = true) (hw : wt (.tuple xs) ≤ lim) : shw (.tuple xs) = true := by
  have a := shown_le n _ h hs
  have b := h.lay
  have c := PyData.hasDict_of_canLay _ b.1
  simp only [shw, isDisp, hs, c, Bool.true_and, Bool.not_false, Bool.and_eq_true, decide_eq_true_eq]
  exact ⟨by omega, by omega⟩
theorem showableAll_of : ∀ {xs : List D}, (∀ x ∈ xs, PyData.showable x = true) → PyData.showableAll xs = true
  | [], _ => rfl
  | x :: r, h => by rw [PyData.showableAll, h x List.mem_cons_self, showableAll_of fun y hy => h y (List.mem_cons_of_mem _ hy)]; rfl
theorem showable_l {xs : List D} (h : ∀ x ∈ xs, PyData.showable x = true) : PyData.showable (.list xs) = true := by rw [PyData.showable]; exact showableAll_of h
theorem showable_t {xs : List D} (h : ∀ x ∈ xs, PyData.showable x = true) : PyData.showable (.tuple xs) = true := by rw [PyData.showable]; exact showableAll_of h
theorem wts_le {b : Nat} : ∀ {xs : List D}, (∀ x ∈ xs, wt x ≤ b) → wts xs ≤ xs.length * (b + 2)
  | [], _ => by rw [wts]; omega
  | x :: r, h => by
    have h1 := h x List.mem_cons_self
    have h2 := wts_le fun y hy => h y (List.mem_cons_of_mem _ hy)
    rw [wts, List.length_cons, Nat.succ_mul]; omega
theorem wt_strs {cs : List Str} (h : ∀ c ∈ cs, nm c = true) : wts (cs.map .str) ≤ cs.length * 84 := by
  have := wts_le (b := 82) (xs := cs.map .str) fun x hx => by
    obtain ⟨c, hc, rfl⟩ := List.mem_map.mp hx
    have := nm_len (h c hc)
    rw [wt]; omega
  simpa using this
theorem wt_tab {t : Str × List Str} (h : TabOk t) : wt (encT t) ≤ 600 := by
  have h1 := wt_strs h.ns
  have h2 := nm_len h.n
  have h3 := h.l5
  simp only [encT, wt, wts]
  omega
theorem showable_T (t : Str × List Str) : PyData.showable (encT t) = true := showable_t fun x hx => by
  simp at hx
  rcases hx with rfl | rfl
  · rfl
  · exact showable_t fun y hy => by
      obtain ⟨c, hc, rfl⟩ := List.mem_map.mp hy
      rfl
theorem showable_S (s : Scm) : PyData.showable (encS s) = true := showable_l fun x hx => by
  obtain ⟨t, ht, rfl⟩ := List.mem_map.mp hx
  exact showable_T t
theorem wt_S {s : Scm} (h : ScmOk s) : wt (encS s) ≤ 2000 := by
  have := wts_le (b := 600) (xs := s.map encT) fun x hx => by
    obtain ⟨t, ht, rfl⟩ := List.mem_map.mp hx
    exact wt_tab (h.ts t ht)
  have := h.l3
  simp only [encS, wt, List.length_map] at *
  omega
theorem shw_S {s : Scm} (h : ScmOk s) : shw (encS s) = true := shw_list (h.fit 0) (by omega) (showable_S s) (by have := wt_S h; show wt (encS s) ≤ lim; unfold lim; omega)
theorem strOk_app (a b : Str) : PyData.strOk (a ++ b) = true ↔ PyData.strOk a = true ∧ PyData.strOk b = true := by
  simp only [strOk_iff, chars_app, List.mem_append]
  exact ⟨fun h => ⟨fun c hc => h c (.inl hc), fun c hc => h c (.inr hc)⟩, fun h c hc => hc.elim (h.1 c) (h.2 c)⟩
theorem char_small (d : Char) : d.toNat < 0x110000 := by
  have h := d.valid
  simp only [UInt32.isValidChar, Nat.isValidChar] at h
  show d.val.toNat < _
  omega
theorem reprChar_ok {q c : Nat} (hq : q < 0x110000) (hc : c < 0x110000) : ∀ d ∈ Builtin.Str.reprChar q c, d < 0x110000 := by
  intro d hd
  have hex : ∀ w, d ∈ (List.replicate (w - ((Nat.toDigits 16 c).map Char.toNat).length) 48 ++ (Nat.toDigits 16 c).map Char.toNat) → d < 0x110000 := fun w hm => by
    rcases List.mem_append.mp hm with hm | hm
    · rw [(List.mem_replicate.mp hm).2]; decide
    · obtain ⟨e, _, rfl⟩ := List.mem_map.mp hm
      exact char_small e
  unfold Builtin.Str.reprChar at hd
  dsimp only at hd
  repeat' split at hd
  all_goals first
    | (rcases List.mem_append.mp hd with hd | hd
       · simp at hd; omega
       · exact hex _ hd)
    | (simp at hd; omega)
theorem strOk_repr {x : Str} (h : PyData.strOk x = true) : PyData.strOk (reprText x) = true := by
  rw [strOk_iff] at h ⊢
  have hq : reprQuote x < 0x110000 := by unfold reprQuote; split <;> decide
  have key : ∀ (l : List Nat) (acc : Array Nat), (∀ c ∈ l, c < 0x110000) → (∀ c ∈ acc.toList, c < 0x110000) → ∀ c ∈ (l.foldl (fun out c => out ++ (Builtin.Str.reprChar (reprQuote x) c).toArray) acc).toList, c < 0x110000 := by
    intro l
    induction l with
    | nil => intro acc _ h2; exact h2
    | cons a r ih =>
      intro acc h1 h2
      refine ih _ (fun c hc => h1 c (List.mem_cons_of_mem _ hc)) fun c hc => ?_
      rw [Array.toList_append, List.mem_append] at hc
      rcases hc with hc | hc
      · exact h2 c hc
      · exact reprChar_ok hq (h1 a List.mem_cons_self) c (by simpa using hc)
  intro c hc
  unfold reprText chars at hc
  simp only [← Array.foldl_toList, Array.toList_push, List.mem_append, List.mem_singleton] at hc
  rcases hc with hc | hc
  · exact key _ _ (fun c hc => h c hc) (fun c hc => by simp at hc; omega) c hc
  · omega
theorem strOk_textFrom : ∀ (ts : List Str) (k : Nat) (a : Str), PyData.strOk a = true → (∀ t ∈ ts, PyData.strOk t = true) → PyData.strOk (textFrom k a ts) = true
  | [], k, a, h, _ => h
  | t :: r, k, a, h, hs => strOk_textFrom r (k + 1) _ ((strOk_app _ _).mpr ⟨(strOk_app _ _).mpr ⟨h, strOk_of _⟩, hs t List.mem_cons_self⟩) fun u hu => hs u (List.mem_cons_of_mem _ hu)
theorem strOk_join (y : Str) (hy : PyData.strOk y = true) : ∀ (ts : List Str), (∀ t ∈ ts, PyData.strOk t = true) → PyData.strOk (Str.join y ts) = true
  | [], _ => (strOk_iff _).mpr fun c hc => by
    rw [show chars (Str.join y []) = [] from rfl] at hc; cases hc
  | [x], h => h x (by simp)
  | x :: z :: r, h => (strOk_app _ _).mpr ⟨(strOk_app _ _).mpr ⟨h x (by simp), hy⟩, strOk_join y hy (z :: r) fun u hu => h u (List.mem_cons_of_mem _ hu)⟩
mutual
theorem strOk_shown : ∀ (n : Nat) (x : D), Fit n x → PyData.strOk (PyData.shown x) = true
  | _, .none, _ => by rw [PyData.shown]; exact strOk_of _
  | _, .bool b, _ => by rw [PyData.shown]; cases b <;> exact strOk_of _
  | _, .int i, _ => by rw [PyData.shown]; exact strOk_of _
  | _, .str s, h => by rw [PyData.shown]; exact strOk_repr ((fit_str _ _).mp h).1
  | n + 1, .list xs, h => by
    rw [PyData.shown]
    exact (strOk_app _ _).mpr ⟨strOk_textFrom _ _ _ (strOk_of _) (strOk_shownAll n xs h.2), strOk_of _⟩
  | n + 1, .tuple xs, h => by
    rw [PyData.shown]
    exact (strOk_app _ _).mpr ⟨(strOk_app _ _).mpr ⟨strOk_of _, strOk_join _ (strOk_of _) _ (strOk_shownAll n xs h.2)⟩, strOk_of _⟩
  | 0, .list _, h => by cases h
  | 0, .tuple _, h => by cases h
  | 0, .dict _, h => by cases h
  | n + 1, .dict _, h => by cases h
theorem strOk_shownAll : ∀ (n : Nat) (xs : List D), (∀ x ∈ xs, Fit n x) → ∀ t ∈ PyData.shownAll xs, PyData.strOk t = true
  | _, [], _, t, ht => by rw [PyData.shownAll] at ht; cases ht
  | n, x :: r, h, t, ht => by
    rw [PyData.shownAll] at ht
    rcases List.mem_cons.mp ht with rfl | ht
    · exact strOk_shown n x (h x List.mem_cons_self)
    · exact strOk_shownAll n r (fun y hy => h y (List.mem_cons_of_mem _ hy)) t ht
end
/-- a scheme shown -/
def shS (s : Scm) : Str := PyData.shown (encS s)
theorem str_S {m : Md} {M : Mem} {s : Scm} (h : ScmOk s) : bltV m .str M [.d (encS s)] = .ok (.d (.str (shS s))) M := b_strl (shw_S h)
theorem shp_shS {s : Scm} (h : ScmOk s) : shp (.str (shS s)) = true := by rw [shp_str]; exact strOk_shown _ _ (h.fit 0)
theorem items_S {M : Mem} (s : Scm) : itemsOf M (.d (encS s)) = some ((s.map encT).map .d) := items_list _
theorem len_S {M : Mem} (s : Scm) : lenV M (.d (encS s)) = some s.length := by rw [encS, len_list]; simp
end Fk

/-! SpDep: dependencies that a law draws. -/
namespace Fk
open PySem
inductive Dep where
  | sets (t : Str) (xs : List Str) (a : Str) | within (t c u d : Str) | many (t c u d : Str)
  deriving DecidableEq
def encD : Dep → D
  | .sets t xs a => .tuple [.str "sets", .str t, .tuple (xs.map .str), .str a]
  | .within t c u d => .tuple [.str "within", .str t, .str c, .str u, .str d]
  | .many t c u d => .tuple [.str "many", .str t, .str c, .str u, .str d]
def HasCol (s : Scm) (t c : Str) : Prop := ∃ cols, (t, cols) ∈ s ∧ c ∈ cols
def DepOk (s : Scm) : Dep → Prop
  | .sets t xs a => ∃ cols, (t, cols) ∈ s ∧ xs ≠ [] ∧ xs.Sublist cols ∧ a ∈ cols
  | .within t c u d => HasCol s t c ∧ HasCol s u d
  | .many t c u d => HasCol s t c ∧ HasCol s u d
def encP (q : Str × Str) : D := .tuple [.str q.1, .str q.2]
def pairsOf (s : Scm) : List (Str × Str) := s.flatMap fun t => t.2.map fun c => (t.1, c)
theorem pairs_len {s : Scm} (h : ScmOk s) : 1 ≤ (pairsOf s).length ∧ (pairsOf s).length ≤ 8 := by
  have e : (pairsOf s).length = (s.map fun t => t.2.length).sum := by simp [pairsOf, List.length_flatMap]
  have := h.sum
  refine ⟨?_, by omega⟩
  rw [e]
  cases s with
  | nil => have := h.l1; simp at this
  | cons t r => have := (h.ts t List.mem_cons_self).l1; simp; omega
theorem mem_pairs {s : Scm} {q : Str × Str} : q ∈ pairsOf s ↔ HasCol s q.1 q.2 := by
  simp only [pairsOf, List.mem_flatMap, List.mem_map, HasCol]
  constructor
  · rintro ⟨t, ht, c, hc, rfl⟩; exact ⟨t.2, ht, hc⟩
  · rintro ⟨cols, ht, hc⟩; exact ⟨_, ht, _, hc, rfl⟩
theorem ScmOk.nm1 {s : Scm} (h : ScmOk s) {t : Str} {cols : List Str} (ht : (t, cols) ∈ s) : nm t = true := (h.ts _ ht).n
theorem ScmOk.nm2 {s : Scm} (h : ScmOk s) {t : Str} {cols : List Str} (ht : (t, cols) ∈ s) {c : Str} (hc : c ∈ cols) : nm c = true := (h.ts _ ht).ns c hc
theorem HasCol.nms {s : Scm} (h : ScmOk s) {t c : Str} (hc : HasCol s t c) : nm t = true ∧ nm c = true := by
  obtain ⟨cols, h1, h2⟩ := hc
  exact ⟨h.nm1 h1, h.nm2 h1 h2⟩
theorem sp_takeP {n p : Nat} {M : Mem} {v s : Int} (hp : p < M.length) (h0 : 0 < s) (h1 : s < 1073741824) : F_l_take.run n [.p p, .d (.int s)] (M.set p (.lst [.d (.int v)])) = .ok (.d (.int (v % s))) (M.set p (.lst [.d (.int (v / s))])) := by
  rw [sp_take _ _ _ _ _ (List.getElem?_set_self hp) h0 h1, set_twice]
theorem pmem {M : Mem} {p : Nat} {v : Int} (hM : M[p]? = some (.lst [.d (.int v)])) : M = M.set p (.lst [.d (.int v)]) := by
  obtain ⟨h1, h2⟩ := List.getElem?_eq_some_iff.mp hM
  rw [← h2]; simp
theorem sp_pairs {n : Nat} {M : Mem} {s : Scm} (h : ScmOk s) : F_l_pairs.run n [.d (encS s)] M = .ok (.d (.list ((pairsOf s).map encP))) M := by
  have hl := (pairs_len h).2
  simp [F_l_pairs, c_l_pairs, List.replicate, items_S, Function.comp_def]
  generalize hF : foldS _ _ _ _ _ _ _ = o
  obtain ⟨ρ', M', rfl, rfl, o2, o3, rfl⟩ := for_lst hF (fun pre ρ M1 => M1 = M ∧ ∃ o2 o3 : Option Val, ρ = [some (.d (encS s)), some (.d (.list ((pairsOf pre).map encP))), o2, o3, none])
    ⟨rfl, none, none, rfl⟩ (by
    rintro pre t post ρ M1 hx ⟨rfl, o2, o3, rfl⟩
    have hT' : encT t = .tuple [.str t.1, .tuple (t.2.map .str)] := rfl
    have hl2 : ((pairsOf pre).map encP).length + (t.2.map fun c => encP (t.1, c)).length ≤ lim := by
      have e : pairsOf s = pairsOf pre ++ (t.2.map fun c => (t.1, c)) ++ pairsOf post := by rw [hx]; simp [pairsOf]
      rw [e] at hl
      simp at hl ⊢
      unfold lim; omega
    simp [b_l_pairs_1, hT', Function.comp_def]
    generalize hF : foldC _ _ _ _ _ = o
    cases lc_map hF (fun c => encP (t.1, c)) (by
      intro c hc
      simp [b_l_pairs_0, encP])
    simp [bin_addl hl2]
    simp [pairsOf, Function.comp_def])
  simp
theorem filter_name {s : Scm} (h : (s.map (·.1)).Nodup) {t : Str × List Str} (ht : t ∈ s) : (s.filter fun u => u.1 == t.1) = [t] := by
  induction s with
  | nil => cases ht
  | cons u r ih =>
    rw [List.map_cons, List.nodup_cons] at h
    rcases List.mem_cons.mp ht with rfl | ht
    · rw [List.filter_cons_of_pos (by simp)]
      rw [List.filter_eq_nil_iff.mpr]
      intro a ha he
      exact h.1 (List.mem_map.mpr ⟨a, ha, by simpa using he⟩)
    · rw [List.filter_cons_of_neg (by
        intro he
        exact h.1 (List.mem_map.mpr ⟨t, ht, by simpa using (beq_iff_eq.mp he).symm⟩))]
      exact ih h.2 ht
theorem sp_columns {n : Nat} {M : Mem} {s : Scm} (h : ScmOk s) {t : Str} {cols : List Str} (ht : (t, cols) ∈ s) : F_l_columns.run n [.d (encS s), .d (.str t)] M = .ok (.d (.tuple (cols.map .str))) M := by
  have hk := nm_strOk (h.nm1 ht)
  simp [F_l_columns, c_l_columns, List.replicate, items_S, Function.comp_def]
  generalize hF : foldC _ _ _ _ _ = o
  cases lc_flt hF (fun u => u.1 == t) (fun u => .tuple (u.2.map .str)) (by
    intro u hu
    have hT' : encT u = .tuple [.str u.1, .tuple (u.2.map .str)] := rfl
    have hk2 := nm_strOk (h.ts u hu).n
    by_cases he : u.1 = t
    · simp [b_l_columns_0, b_l_columns_1, hT', cmp_eq, hk, hk2, he]
    · simp [b_l_columns_0, b_l_columns_1, hT', cmp_eq, hk, hk2, he])
  rw [filter_name h.nd ht]
  simp [ixN]
theorem word_at {M : Mem} (x : Int) (h0 : 0 ≤ x) (h1 : x < 8) : ∃ w : Str, (w = "sets" ∨ w = "within" ∨ w = "many") ∧ idxV M (.d (.list [.str "sets", .str "sets", .str "sets", .str "within", .str "within", .str "many", .str "sets", .str "within"])) (.d (.int x)) = some (.d (.str w)) := by
  have : x = 0 ∨ x = 1 ∨ x = 2 ∨ x = 3 ∨ x = 4 ∨ x = 5 ∨ x = 6 ∨ x = 7 := by omega
  rcases this with rfl | rfl | rfl | rfl | rfl | rfl | rfl | rfl
  · exact ⟨_, .inl rfl, by simp [ixN]⟩
  · exact ⟨_, .inl rfl, by simp [ixN]⟩
  · exact ⟨_, .inl rfl, by simp [ixN]⟩
  · exact ⟨_, .inr (.inl rfl), by simp [ixN]⟩
  · exact ⟨_, .inr (.inl rfl), by simp [ixN]⟩
  · exact ⟨_, .inr (.inr rfl), by simp [ixN]⟩
  · exact ⟨_, .inl rfl, by simp [ixN]⟩
  · exact ⟨_, .inr (.inl rfl), by simp [ixN]⟩
theorem ws1 : (("within" : Str) == ("sets" : Str)) = false := by decide +kernel
theorem ws2 : (("many" : Str) == ("sets" : Str)) = false := by decide +kernel
/-- an item drawn of a list of data -/
theorem pick_l {M : Mem} {xs : List D} {i : Int} (h0 : 0 ≤ i) (h1 : i < xs.length) : ∃ x ∈ xs, idxV M (.d (.list xs)) (.d (.int i)) = some (.d x) := by
  refine ⟨xs[i.toNat]'(by omega), List.getElem_mem _, ?_⟩
  rw [idx_list, ixN_pos h0 h1]
  simp [List.getElem?_eq_getElem (show i.toNat < xs.length by omega)]
theorem pick_t {M : Mem} {xs : List D} {i : Int} (h0 : 0 ≤ i) (h1 : i < xs.length) : ∃ x ∈ xs, idxV M (.d (.tuple xs)) (.d (.int i)) = some (.d x) := by
  refine ⟨xs[i.toNat]'(by omega), List.getElem_mem _, ?_⟩
  rw [idx_tuple, ixN_pos h0 h1]
  simp [List.getElem?_eq_getElem (show i.toNat < xs.length by omega)]
theorem lim3 : 3 ≤ lim := by decide
theorem lim5 : 5 ≤ lim := by decide
theorem sp_dependency {n p : Nat} {M : Mem} {v : Int} {s : Scm} (hp : p < M.length) (h : ScmOk s) : ∃ (v' : Int) (d : Dep), F_l_dependency.run n [.p p, .d (encS s)] (M.set p (.lst [.d (.int v)])) = .ok (.d (encD d)) (M.set p (.lst [.d (.int v')])) ∧ DepOk s d := by
  have hl := pairs_len h
  have em : ∀ (x k : Int), 0 < k → 0 ≤ x % k ∧ x % k < k := fun x k hk => ⟨Int.emod_nonneg _ (by omega), Int.emod_lt_of_pos _ hk⟩
  obtain ⟨w, hw, ew⟩ := word_at (M := M.set p (.lst [.d (.int (v / 8))])) (v % 8) (em v 8 (by decide)).1 (em v 8 (by decide)).2
  have np : 0 < ((pairsOf s).length : Int) := by omega
  have np2 : ((pairsOf s).length : Int) < 1073741824 := by omega
  obtain ⟨one', h1, e1⟩ := pick_l (M := M.set p (.lst [.d (.int (v / 8 / (pairsOf s).length))])) (xs := (pairsOf s).map encP) (i := v / 8 % (pairsOf s).length) (em _ _ np).1 (by simpa using (em _ _ np).2)
  obtain ⟨one, ho, rfl⟩ := List.mem_map.mp h1
  by_cases hs : w = "sets"
  · subst hs
    obtain ⟨cols, htm, hcm⟩ := mem_pairs.mp ho
    have hcl := h.ts _ htm
    have hc1 : 1 ≤ cols.length := hcl.l1
    have hc5 : cols.length ≤ 5 := hcl.l5
    have nc : 0 < (cols.length : Int) := by omega
    have nc2 : (cols.length : Int) < 1073741824 := by omega
    have last : ∀ v3 : Int, ∃ a ∈ cols, idxV (M.set p (.lst [.d (.int (v3 / cols.length))])) (.d (.tuple (cols.map .str))) (.d (.int (v3 % cols.length))) = some (.d (.str a)) := fun v3 => by
      obtain ⟨a', h2, e2⟩ := pick_t (M := M.set p (.lst [.d (.int (v3 / cols.length))])) (xs := cols.map .str) (i := v3 % cols.length) (em _ _ nc).1 (by simpa using (em _ _ nc).2)
      obtain ⟨a, ha, rfl⟩ := List.mem_map.mp h2
      exact ⟨a, ha, e2⟩
    have ei0 : ∀ M : Mem, idxV M (.d (encP one)) (.d (.int 0)) = some (.d (.str one.1)) := fun M => by simp [encP, ixN]
    have ei1 : ∀ M : Mem, idxV M (.d (encP one)) (.d (.int 1)) = some (.d (.str one.2)) := fun M => by simp [encP, ixN]
    have hcs := sp_columns (n := M.length) (M := M.set p (.lst [.d (.int (v / 8 / (pairsOf s).length))])) h htm
    have hss : PyData.strOk (Str.ofString "sets") = true := strOk_of _
    by_cases h0 : v / 8 / (pairsOf s).length % 3 = 0
    · obtain ⟨v3, kept, ek, hk1, hk2⟩ : ∃ (v3 : Int) (kept : List Str), foldC none (stepC [some (.p p), some (.d (encS s)), some (.d (.list ((pairsOf s).map encP))), some (.d (.str "sets")), some (.d (encP one)), some (.d (.tuple (cols.map .str))), some (.d (.tuple [.str one.2])), none] [7] (.one 7) (fun ρ M' => evoT G_l_dependency M.length ρ M' b_l_dependency_0) fun ρ M' => ev G_l_dependency M.length ρ M' b_l_dependency_1)
          (cols.map fun c => Itm.v (.d (.str c))) [] (M.set p (.lst [.d (.int (v / 8 / (pairsOf s).length / 3))])) = .ok ((kept.map PyData.str).map .d) (M.set p (.lst [.d (.int v3)])) ∧ kept ≠ [] ∧ kept.Sublist cols := by
        generalize hF : foldC _ _ _ _ _ = o
        obtain ⟨vs, M', rfl, v3, kept, rfl, rfl, q1, q2⟩ := lc_inv hF (fun pre acc M1 => ∃ (v3 : Int) (kept : List Str), M1 = M.set p (.lst [.d (.int v3)]) ∧ acc = (kept.map PyData.str).map .d ∧ kept.Sublist pre ∧ (one.2 ∈ pre → one.2 ∈ kept))
          ⟨_, [], rfl, rfl, List.Sublist.refl _, by simp⟩ (by
          rintro pre c post acc M1 hx ⟨v3, kept, rfl, rfl, q1, q2⟩
          have hc : c ∈ cols := by rw [hx]; simp
          have k1 := nm_strOk (hcl.ns c hc)
          have k2 := nm_strOk (hcl.ns _ hcm)
          by_cases ht : v3 % 2 = 1
          · simp [b_l_dependency_0, b_l_dependency_1, sp_takeP hp, ht]
            exact ⟨⟨_, rfl⟩, kept ++ [c], by simp, List.Sublist.append q1 (List.Sublist.refl _), fun hm => by
              rcases hm with hm | hm
              · exact List.mem_append_left _ (q2 hm)
              · rw [hm]; simp⟩
          · by_cases he : c = one.2
            · simp [b_l_dependency_0, b_l_dependency_1, sp_takeP hp, ht, ei1, cmp_eq, k1, k2, he]
              exact ⟨⟨_, rfl⟩, kept ++ [one.2], by simp, List.Sublist.append q1 (List.Sublist.refl _), by simp⟩
            · simp [b_l_dependency_0, b_l_dependency_1, sp_takeP hp, ht, ei1, cmp_eq, k1, k2, he]
              exact ⟨⟨_, rfl⟩, kept, rfl, q1.trans (List.sublist_append_left _ _), fun hm => by
                rcases hm with hm | hm
                · exact q2 hm
                · exact absurd hm.symm he⟩)
        refine ⟨v3, kept, rfl, ?_, q1⟩
        intro e
        have := q2 hcm
        rw [e] at this; cases this
      obtain ⟨a, ha, e2⟩ := last v3
      refine ⟨v3 / cols.length, .sets one.1 kept a, ?_, cols, htm, hk1, hk2, ha⟩
      simp only [List.map_map, Function.comp_def] at ek
      simp [-idx_list, -idx_tuple, F_l_dependency, c_l_dependency, List.replicate, sp_pairs h, sp_takeP hp (by decide : (0 : Int) < 8) (by decide), sp_takeP hp (by decide : (0 : Int) < 3) (by decide), sp_takeP hp np np2, sp_takeP hp nc nc2, ew, e1, cmp_ne, hss, ei0, ei1, hcs, h0, Function.comp_def, ek, e2, encD]
    · obtain ⟨a, ha, e2⟩ := last (v / 8 / (pairsOf s).length / 3)
      refine ⟨v / 8 / (pairsOf s).length / 3 / cols.length, .sets one.1 [one.2] a, ?_, cols, htm, by simp, List.singleton_sublist.mpr hcm, ha⟩
      simp [-idx_list, -idx_tuple, F_l_dependency, c_l_dependency, List.replicate, sp_pairs h, sp_takeP hp (by decide : (0 : Int) < 8) (by decide), sp_takeP hp (by decide : (0 : Int) < 3) (by decide), sp_takeP hp np np2, sp_takeP hp nc nc2, ew, e1, cmp_ne, hss, ei0, ei1, hcs, h0, e2, encD]
  · have hne : (w == ("sets" : Str)) = false := by simpa using hs
    obtain ⟨two', h2, e2⟩ := pick_l (M := M.set p (.lst [.d (.int (v / 8 / (pairsOf s).length / (pairsOf s).length))])) (xs := (pairsOf s).map encP) (i := v / 8 / (pairsOf s).length % (pairsOf s).length) (em _ _ np).1 (by simpa using (em _ _ np).2)
    obtain ⟨two, ht, rfl⟩ := List.mem_map.mp h2
    have hd : ∃ d, encD d = .tuple [.str w, .str one.1, .str one.2, .str two.1, .str two.2] ∧ DepOk s d := by
      rcases hw with rfl | rfl | rfl
      · exact absurd rfl hs
      · exact ⟨.within one.1 one.2 two.1 two.2, rfl, mem_pairs.mp ho, mem_pairs.mp ht⟩
      · exact ⟨.many one.1 one.2 two.1 two.2, rfl, mem_pairs.mp ho, mem_pairs.mp ht⟩
    obtain ⟨d, ed, hd⟩ := hd
    have hwk : PyData.strOk w = true := by rcases hw with rfl | rfl | rfl <;> exact strOk_of _
    refine ⟨v / 8 / (pairsOf s).length / (pairsOf s).length, d, ?_, hd⟩
    rw [ed]
    simp [-idx_list, F_l_dependency, c_l_dependency, List.replicate, sp_pairs h, sp_takeP hp (by decide : (0 : Int) < 8) (by decide), sp_takeP hp np np2, ew, e1, cmp_ne, hwk, hne, e2, encP, bin_addt, lim3, lim5]
end Fk

/-! SpRight: what a dependency is. -/
namespace Fk
open PySem
def colsIn (s : Scm) (t : Str) : List Str := ((s.find? fun u => u.1 == t).map (·.2)).getD []
theorem colsIn_mem {s : Scm} (h : ScmOk s) {t : Str} {cols : List Str} (ht : (t, cols) ∈ s) : colsIn s t = cols := by
  unfold colsIn
  have hnd := h.nd
  clear h
  induction s with
  | nil => cases ht
  | cons u r ih =>
    rw [List.map_cons, List.nodup_cons] at hnd
    rcases List.mem_cons.mp ht with rfl | ht
    · simp
    · have : (u.1 == t) = false := by
        rw [beq_eq_false_iff_ne]; rintro rfl
        exact hnd.1 (List.mem_map.mpr ⟨_, ht, rfl⟩)
      rw [List.find?_cons_of_neg (by simp [this])]
      exact ih ht hnd.2
theorem colsIn_or {s : Scm} (h : ScmOk s) (t : Str) : colsIn s t = [] ∨ (t, colsIn s t) ∈ s := by
  unfold colsIn
  cases e : s.find? fun u => u.1 == t with
  | none => exact .inl rfl
  | some u =>
    have h1 := List.find?_some e
    have h2 := List.mem_of_find?_eq_some e
    have : u.1 = t := by simpa using h1
    subst this
    exact .inr h2
theorem sp_columns_in {n : Nat} {M : Mem} {s : Scm} {t : Str} (h : ScmOk s) (ht : PyData.strOk t = true) : F_columns_in.run n [.d (encS s), .d (.str t)] M = .ok (.d (.tuple ((colsIn s t).map .str))) M := by
  simp [F_columns_in, c_columns_in, List.replicate, items_S, Function.comp_def]
  generalize hF : foldS _ _ _ _ _ _ _ = o
  have key := for_any hF (fun pre ρ M1 => M1 = M ∧ (∃ o2 o3 : Option Val, ρ = [some (.d (encS s)), some (.d (.str t)), o2, o3]) ∧ ∀ u ∈ pre, u.1 ≠ t) (fun v M1 => M1 = M ∧ v = .d (.tuple ((colsIn s t).map .str))) (fun _ _ => False)
    ⟨rfl, ⟨none, none, rfl⟩, by simp⟩ (by
    rintro pre u post ρ M1 hx ⟨rfl, ⟨o2, o3, rfl⟩, hne⟩
    have hu : u ∈ s := by rw [hx]; simp
    have hT' : encT u = .tuple [.str u.1, .tuple (u.2.map .str)] := rfl
    have hk := nm_strOk (h.ts u hu).n
    by_cases he : u.1 = t
    · have : colsIn s t = u.2 := colsIn_mem h (by rw [← he]; exact hu)
      simp [b_columns_in_0, hT', cmp_eq, hk, ht, he, this]
    · simp [b_columns_in_0, hT', cmp_eq, hk, ht, he]
      exact fun a b hm => hm.elim (fun hm => hne _ hm) fun e => by rw [← e] at he; exact he)
  rcases anyP_ok key with ⟨ρ', M', rfl, rfl, ⟨o2, o3, rfl⟩, hne⟩ | ⟨v, M', rfl, rfl, rfl⟩ | ⟨e, ρ, M', rfl, q⟩
  · have : colsIn s t = [] := by
      unfold colsIn
      rw [List.find?_eq_none.mpr fun u hu => by simpa using hne u hu]; rfl
    simp [this]
  · simp
  · exact q.elim
theorem findIdx_str (c : Str) : ∀ (cols : List Str), c ∈ cols → (cols.map PyData.str).findIdx? (fun z => PyData.eqv z (.str c)) = some (cols.idxOf c)
  | x :: r, h => by
    rw [List.map_cons, List.findIdx?_cons, List.idxOf_cons, eqv_ss]
    by_cases e : x = c
    · simp [e]
    · have h' : c ∈ r := by
        rcases List.mem_cons.mp h with h | h
        · exact absurd h.symm e
        · exact h
      have e2 : (x == c) = false := by simpa using e
      simp [e2, findIdx_str c r h']
theorem m_index_t {M : Mem} {m : Md} {n : Nat} {cols : List Str} {c : Str} (hs : ∀ x ∈ cols, PyData.strOk x = true) (hc : c ∈ cols) : bmV m n .index M (.d (.tuple (cols.map .str))) [.d (.str c)] = .ok (.d (.int (cols.idxOf c : Int))) M := by
  have h1 : shp (.str c) = true := by simpa using hs c hc
  have h2 : shp (.list (cols.map .str)) = true := by
    have a : PyData.canLay0 (.list (cols.map .str)) = true := by rw [PyData.canLay0]; exact canLayAll_of fun x hx => by obtain ⟨y, hy, rfl⟩ := List.mem_map.mp hx; exact hs y hy
    have b : PyData.depth (.list (cols.map .str)) ≤ 1 := by rw [PyData.depth]; exact Nat.succ_le_succ (depthAll_le fun x hx => by obtain ⟨y, hy, rfl⟩ := List.mem_map.mp hx; exact Nat.le_refl _)
    simp only [Fk.shp, a, Bool.true_and, decide_eq_true_eq]; omega
  simp only [bmV, data_tuple, h1, h2, findIdx_str c cols hc, Bool.and_self, if_true]
def strIn (cols : List Str) : D → Bool
  | .str c => decide (c ∈ cols)
  | _ => false
def ixOf (cols : List Str) : D → Nat
  | .str c => cols.idxOf c
  | _ => 0
def incr (cols : List Str) (xs : List D) : Bool := (List.range (xs.length - 1)).all fun k => decide (ixOf cols (xs.getD k .none) < ixOf cols (xs.getD (k + 1) .none))
def areCols (s : Scm) : D → D → Bool
  | .str t, .tuple xs => decide (xs ≠ []) && xs.all (strIn (colsIn s t)) && incr (colsIn s t) xs
  | _, _ => false
theorem strIn_ex {cols : List Str} {x : D} (h : strIn cols x = true) : ∃ c, x = .str c ∧ c ∈ cols := by
  cases x with
  | str c => exact ⟨c, rfl, by simpa [strIn] using h⟩
  | _ => cases h
theorem sp_are_columns {n k : Nat} {M : Mem} {s : Scm} {a b : D} (h : ScmOk s) (ha : Fit k a) (hb : Fit k b) (hk : k ≤ 60) : F_are_columns.run n [.d (encS s), .d a, .d b] M = .ok (.d (.bool (areCols s a b))) M := by
  cases a with
  | str t =>
    have ht := ((fit_str _ _).mp ha).1
    cases b with
    | tuple xs =>
      obtain ⟨k, rfl⟩ : ∃ j, k = j + 1 := by cases k with | zero => cases hb | succ j => exact ⟨j, rfl⟩
      by_cases h0 : xs = []
      · subst h0
        simp [F_are_columns, c_are_columns, List.replicate, areCols]
      · have hl : ((xs.length : Int) == 0) = false := by
          have : xs.length ≠ 0 := fun e => h0 (List.length_eq_zero_iff.mp e)
          simp; omega
        have hcs : ∀ c ∈ colsIn s t, nm c = true := fun c hc => by
          rcases colsIn_or h t with e | e
          · rw [e] at hc; cases hc
          · exact h.nm2 e hc
        have hso : ∀ x ∈ colsIn s t, PyData.strOk x = true := fun x hx => nm_strOk (hcs x hx)
        have hst : shp (.tuple ((colsIn s t).map .str)) = true := shp_tuple (n := 0) (fun x hx => by obtain ⟨y, hy, rfl⟩ := List.mem_map.mp hx; exact nm_fit _ (hcs y hy)) (by omega)
        simp [F_are_columns, c_are_columns, List.replicate, hl, sp_columns_in h ht]
        generalize hF : foldC _ _ _ _ _ = o
        cases lc_map hF (fun x => .bool (strIn (colsIn s t) x)) (by
          intro x hx
          have hf := hb.2 x hx
          cases x with
          | str c => simp [b_are_columns_1, mem_tuple (x := .str c) (by simpa using ((fit_str _ _).mp hf).1) hst, inD_str, strIn]
          | dict kv => cases k <;> cases hf
          | _ => simp [b_are_columns_1, isiV, strIn])
        clear hF
        by_cases hall : xs.all (strIn (colsIn s t)) = true
        · have hm : (xs.length : Int) - 1 = ((xs.length - 1 : Nat) : Int) := by
            have : xs.length ≠ 0 := fun e => h0 (List.length_eq_zero_iff.mp e)
            omega
          have hlim := hb.1
          simp [Function.comp_def, List.all_map, hall, hm, rng1_nat (j := xs.length - 1) (by omega)]
          generalize hF : foldC _ _ _ _ _ = o
          cases lc_map hF (fun i => .bool (decide (ixOf (colsIn s t) (xs.getD i .none) < ixOf (colsIn s t) (xs.getD (i + 1) .none)))) (by
            intro i hi
            have hi := List.mem_range.mp hi
            have h1 : i < xs.length := by omega
            have h2 : i + 1 < xs.length := by omega
            obtain ⟨c, ec, mc⟩ := strIn_ex (List.all_eq_true.mp hall _ (getD_mem h1))
            obtain ⟨d, ed, md⟩ := strIn_ex (List.all_eq_true.mp hall _ (getD_mem h2))
            have e1 : idxV M (.d (.tuple xs)) (.d (.int (i : Int))) = some (.d (.str c)) := by rw [idx_tuple, ixN_nat h1]; simp [-List.getD_eq_getElem?_getD, getD_some h1, ec]
            have e2 : idxV M (.d (.tuple xs)) (.d (.int ((i : Int) + 1))) = some (.d (.str d)) := by rw [show ((i : Int) + 1) = ((i + 1 : Nat) : Int) by omega, idx_tuple, ixN_nat h2]; simp [-List.getD_eq_getElem?_getD, getD_some h2, ed]
            simp [-idx_tuple, -List.getD_eq_getElem?_getD, b_are_columns_0, e1, e2, m_index_t hso mc, m_index_t hso md, ec, ed, ixOf])
          simp [-List.getD_eq_getElem?_getD, areCols, h0, hall, incr, Function.comp_def, List.all_map]
        · simp [Function.comp_def, List.all_map, hall, areCols]
    | dict kv => cases k <;> cases hb
    | _ => simp [F_are_columns, c_are_columns, List.replicate, isiV, areCols]
  | dict kv => cases k <;> cases ha
  | _ => simp [F_are_columns, c_are_columns, List.replicate, isiV, areCols]
theorem sp_is_column {n k : Nat} {M : Mem} {s : Scm} {a b : D} (h : ScmOk s) (ha : Fit k a) (hb : Fit k b) (hk : k ≤ 59) : F_is_column.run n [.d (encS s), .d a, .d b] M = .ok (.d (.bool (areCols s a (.tuple [b])))) M := by
  have hb' : Fit (k + 1) (.tuple [b]) := ⟨by simp [lim], fun x hx => by simp at hx; exact hx ▸ hb⟩
  simp [F_is_column, c_is_column, List.replicate, sp_are_columns h (ha.up (Nat.le_succ k)) hb' (by omega)]
def isRight (s : Scm) : D → Bool
  | .tuple [.str w, a, b, c] => (w == "sets") && areCols s a b && areCols s a (.tuple [c])
  | .tuple [.str w, a, b, c, d] => (w == "within" || w == "many") && areCols s a (.tuple [b]) && areCols s c (.tuple [d])
  | _ => false
theorem isRight_len {s : Scm} {xs : List D} (h4 : xs.length ≠ 4) (h5 : xs.length ≠ 5) : isRight s (.tuple xs) = false := by
  unfold isRight
  split
  · rename_i e; cases e; simp at h4
  · rename_i e; cases e; simp at h5
  · rfl
theorem isRight_str {s : Scm} {x : D} {xs : List D} (h : isStrD x = false) : isRight s (.tuple (x :: xs)) = false := by
  unfold isRight
  split
  · rename_i e; cases e; cases h
  · rename_i e; cases e; cases h
  · rfl
theorem in_two {x a b : Str} : inD (.str x) [.str a, .str b] = (x == a || x == b) := by
  simp [inD, Bool.beq_eq_decide_eq, eq_comm]
theorem in_45 (n : Nat) : inD (.int n) [.int 4, .int 5] = (decide (n = 4) || decide (n = 5)) := by
  simp only [inD, List.any_cons, List.any_nil, eqv_ii, Bool.or_false]
  rw [Bool.eq_iff_iff]; simp; omega
theorem sp_is_right {n k : Nat} {M : Mem} {s : Scm} {x : D} (h : ScmOk s) (hx : Fit k x) (hk : k ≤ 58) : F_is_right.run n [.d (encS s), .d x] M = .ok (.d (.bool (isRight s x))) M := by
  have h45 : shp (.tuple [.int 4, .int 5]) = true := rfl
  have hwm : shp (.tuple [.str "within", .str "many"]) = true := by
    refine shp_tuple (n := 0) (fun y hy => ?_) (by omega)
    simp at hy
    rcases hy with rfl | rfl <;> exact (fit_str _ _).mpr ⟨strOk_of _, by decide⟩
  cases x with
  | tuple xs =>
    obtain ⟨k, rfl⟩ : ∃ j, k = j + 1 := by cases k with | zero => cases hx | succ j => exact ⟨j, rfl⟩
    by_cases hl : xs.length = 4 ∨ xs.length = 5
    · have hl45 : inD (.int (xs.length : Int)) [.int 4, .int 5] = true := by rw [in_45]; rcases hl with e | e <;> simp [e]
      obtain ⟨w, r, rfl⟩ : ∃ w r, xs = w :: r := by
        cases xs with
        | nil => simp at hl
        | cons w r => exact ⟨w, r, rfl⟩
      have h0 : ∀ M : Mem, idxV M (.d (.tuple (w :: r))) (.d (.int 0)) = some (.d w) := fun M => by simp [ixN]
      have hw := hx.2 w (by simp)
      cases w with
      | str w =>
        have hwk := ((fit_str _ _).mp hw).1
        rcases hl with hl | hl
        · obtain ⟨a, b, c, rfl⟩ : ∃ a b c, r = [a, b, c] := by
            match r, hl with
            | [a, b, c], _ => exact ⟨a, b, c, rfl⟩
          have ha := hx.2 a (by simp)
          have hb := hx.2 b (by simp)
          have hc := hx.2 c (by simp)
          have e4 : inD (.int 4) [.int 4, .int 5] = true := by decide
          by_cases hs : w = "sets"
          · cases h1 : areCols s a b <;> simp [F_is_right, c_is_right, ixN, cmp_eq, hwk, mem_tuple (x := .int 4) rfl h45, e4, hs, sp_are_columns h ha hb (by omega), sp_is_column h ha hc (by omega), isRight, h1]
          · have hs' : (w == ("sets" : Str)) = false := by simpa using hs
            cases hm : inD (.str w) [.str "within", .str "many"] <;> simp [F_is_right, c_is_right, ixN, cmp_eq, hwk, mem_tuple (x := .int 4) rfl h45, e4, hs', isRight, mem_tuple (x := .str w) (by simpa using hwk) hwm, hm]
        · obtain ⟨a, b, c, d, rfl⟩ : ∃ a b c d, r = [a, b, c, d] := by
            match r, hl with
            | [a, b, c, d], _ => exact ⟨a, b, c, d, rfl⟩
          have ha := hx.2 a (by simp)
          have hb := hx.2 b (by simp)
          have hc := hx.2 c (by simp)
          have hd := hx.2 d (by simp)
          have e5 : inD (.int 5) [.int 4, .int 5] = true := by decide
          have hm := in_two (x := w) (a := "within") (b := "many")
          cases hb2 : (w == ("within" : Str) || w == ("many" : Str)) <;> rw [hb2] at hm <;> cases hs : (w == ("sets" : Str)) <;> cases h1 : areCols s a (.tuple [b]) <;>
            simp [F_is_right, c_is_right, ixN, cmp_eq, hwk, mem_tuple (x := .int 5) rfl h45, e5, hs, mem_tuple (x := .str w) (by simpa using hwk) hwm, hm, sp_is_column h ha hb (by omega), sp_is_column h hc hd (by omega), isRight, h1, hb2]
      | dict kv => cases k <;> cases hw
      | _ =>
        rw [isRight_str rfl]
        simp only [List.length_cons, Int.natCast_add, Int.cast_ofNat_Int] at hl45
        simp [F_is_right, c_is_right, mem_tuple (x := .int _) rfl h45, hl45, h0, isiV]
    · have hl45 : inD (.int (xs.length : Int)) [.int 4, .int 5] = false := by rw [in_45]; simp; omega
      rw [isRight_len (by omega) (by omega)]
      simp [F_is_right, c_is_right, mem_tuple (x := .int _) rfl h45, hl45]
  | dict kv => cases k <;> cases hx
  | _ => simp [F_is_right, c_is_right, isiV, isRight]
end Fk

/-! SpRight2: dependencies of a scheme, typed. -/
namespace Fk
open PySem
theorem step_mono {α : Type} {f : α → Nat} {d : α} {xs : List α} (h : ∀ k, k + 1 < xs.length → f (xs.getD k d) < f (xs.getD (k + 1) d)) : xs.Pairwise fun a b => f a < f b := by
  have key : ∀ n i, i + n + 1 < xs.length → f (xs.getD i d) < f (xs.getD (i + n + 1) d) := by
    intro n
    induction n with
    | zero => intro i hi; exact h i hi
    | succ n ih => intro i hi; exact Nat.lt_trans (ih i (by omega)) (h (i + n + 1) hi)
  rw [List.pairwise_iff_getElem]
  intro i j hi hj hij
  have := key (j - i - 1) i (by omega)
  rw [show i + (j - i - 1) + 1 = j by omega] at this
  simpa [List.getD_eq_getElem?_getD, List.getElem?_eq_getElem hi, List.getElem?_eq_getElem hj] using this
theorem mono_sub : ∀ {cols ys : List Str}, cols.Nodup → (∀ y ∈ ys, y ∈ cols) → ys.Pairwise (fun a b => cols.idxOf a < cols.idxOf b) → ys.Sublist cols
  | [], ys, _, hm, _ => by
    cases ys with
    | nil => exact List.Sublist.refl _
    | cons y r => exact absurd (hm y List.mem_cons_self) (by simp)
  | c :: r, [], _, _, _ => List.nil_sublist _
  | c :: r, y :: zs, hn, hm, hp => by
    rw [List.nodup_cons] at hn
    have ix : ∀ z, z ≠ c → (c :: r).idxOf z = r.idxOf z + 1 := fun z hz => by
      rw [List.idxOf_cons]; simp [beq_eq_false_iff_ne.mpr (Ne.symm hz)]
    have i0 : (c :: r).idxOf c = 0 := by simp
    have hp' := hp
    rw [List.pairwise_cons] at hp
    have hz : ∀ z ∈ zs, z ≠ c := fun z hz e => by
      have := hp.1 z hz
      rw [e, i0] at this; omega
    have sub : ∀ ys : List Str, (∀ z ∈ ys, z ≠ c) → (∀ z ∈ ys, z ∈ c :: r) → ys.Pairwise (fun a b => (c :: r).idxOf a < (c :: r).idxOf b) → ys.Sublist r := fun ys h1 h2 h3 => by
      refine mono_sub hn.2 (fun z hz => ?_) (List.Pairwise.imp_of_mem (fun {a b} ha hb h => ?_) h3)
      · rcases List.mem_cons.mp (h2 z hz) with e | e
        · exact absurd e (h1 z hz)
        · exact e
      · rw [ix a (h1 a ha), ix b (h1 b hb)] at h; omega
    by_cases e : y = c
    · subst e
      exact (sub zs hz (fun z h => hm z (List.mem_cons_of_mem _ h)) hp.2).cons_cons _
    · refine (sub (y :: zs) (fun z h => ?_) hm hp').cons _
      rcases List.mem_cons.mp h with rfl | h
      · exact e
      · exact hz z h
theorem idx_pw : ∀ {cols : List Str}, cols.Nodup → cols.Pairwise fun a b => cols.idxOf a < cols.idxOf b
  | [], _ => .nil
  | c :: r, hn => by
    rw [List.nodup_cons] at hn
    have ix : ∀ z, z ≠ c → (c :: r).idxOf z = r.idxOf z + 1 := fun z hz => by
      rw [List.idxOf_cons]; simp [beq_eq_false_iff_ne.mpr (Ne.symm hz)]
    have i0 : (c :: r).idxOf c = 0 := by simp
    have ne : ∀ z ∈ r, z ≠ c := fun z hz e => hn.1 (e ▸ hz)
    rw [List.pairwise_cons]
    refine ⟨fun z hz => by rw [i0, ix z (ne z hz)]; omega, List.Pairwise.imp_of_mem (fun {a b} ha hb h => ?_) (idx_pw hn.2)⟩
    rw [ix a (ne a ha), ix b (ne b hb)]; omega
theorem incr_iff {cols ys : List Str} (hn : cols.Nodup) (hm : ∀ y ∈ ys, y ∈ cols) : incr cols (ys.map .str) = true ↔ ys.Sublist cols := by
  have e : ∀ k, k < ys.length → ixOf cols ((ys.map PyData.str).getD k .none) = cols.idxOf (ys.getD k (St [])) := fun k hk => by
    simp [List.getD_eq_getElem?_getD, List.getElem?_eq_getElem hk, ixOf]
  simp only [incr, List.all_eq_true, List.mem_range, List.length_map, decide_eq_true_eq]
  constructor
  · intro h
    refine mono_sub hn hm (step_mono (d := St []) fun k hk => ?_)
    have := h k (by omega)
    rwa [e k (by omega), e (k + 1) hk] at this
  · intro h k hk
    rw [e k (by omega), e (k + 1) (by omega)]
    have := List.pairwise_iff_getElem.mp ((idx_pw hn).sublist h) k (k + 1) (by omega) (by omega) (by omega)
    simpa [List.getD_eq_getElem?_getD, List.getElem?_eq_getElem (show k < ys.length by omega), List.getElem?_eq_getElem (show k + 1 < ys.length by omega)] using this
theorem colsIn_nd {s : Scm} (h : ScmOk s) (t : Str) : (colsIn s t).Nodup := by
  rcases colsIn_or h t with e | e
  · rw [e]; simp
  · exact (h.ts _ e).nd
theorem areCols_str {s : Scm} (h : ScmOk s) {t : Str} {ys : List Str} : areCols s (.str t) (.tuple (ys.map .str)) = true ↔ ys ≠ [] ∧ ys.Sublist (colsIn s t) := by
  have e1 : (ys.map PyData.str).all (strIn (colsIn s t)) = true ↔ ∀ y ∈ ys, y ∈ colsIn s t := by simp [strIn]
  simp only [areCols, Bool.and_eq_true, decide_eq_true_eq, e1, ne_eq, List.map_eq_nil_iff]
  constructor
  · rintro ⟨⟨h1, h2⟩, h3⟩
    exact ⟨h1, (incr_iff (colsIn_nd h t) h2).mp h3⟩
  · rintro ⟨h1, h2⟩
    have hm : ∀ y ∈ ys, y ∈ colsIn s t := fun y hy => h2.subset hy
    exact ⟨⟨h1, hm⟩, (incr_iff (colsIn_nd h t) hm).mpr h2⟩
theorem all_strIn_ex {cols : List Str} : ∀ {xs : List D}, xs.all (strIn cols) = true → ∃ ys : List Str, xs = ys.map .str
  | [], _ => ⟨[], rfl⟩
  | x :: r, h => by
    rw [List.all_cons, Bool.and_eq_true] at h
    obtain ⟨c, rfl, _⟩ := strIn_ex h.1
    obtain ⟨ys, rfl⟩ := all_strIn_ex h.2
    exact ⟨c :: ys, rfl⟩
theorem areCols_ex {s : Scm} (h : ScmOk s) {a b : D} (e : areCols s a b = true) : ∃ (t : Str) (cols ys : List Str), a = .str t ∧ b = .tuple (ys.map .str) ∧ (t, cols) ∈ s ∧ ys ≠ [] ∧ ys.Sublist cols := by
  have e' := e
  unfold areCols at e
  split at e
  · rename_i t xs
    simp only [Bool.and_eq_true] at e
    obtain ⟨ys, rfl⟩ := all_strIn_ex e.1.2
    obtain ⟨h1, h2⟩ := (areCols_str h).mp e'
    rcases colsIn_or h t with q | q
    · rw [q] at h2; exact absurd (List.sublist_nil.mp h2) h1
    · exact ⟨t, _, ys, rfl, rfl, q, h1, h2⟩
  · cases e
theorem col_iff {s : Scm} (h : ScmOk s) {t c : Str} : areCols s (.str t) (.tuple [.str c]) = true ↔ HasCol s t c := by
  rw [show PyData.tuple [.str c] = .tuple ([c].map .str) from rfl, areCols_str h, List.singleton_sublist]
  constructor
  · rintro ⟨_, h1⟩
    rcases colsIn_or h t with q | q
    · rw [q] at h1; cases h1
    · exact ⟨_, q, h1⟩
  · rintro ⟨cols, h1, h2⟩
    rw [colsIn_mem h h1]; exact ⟨by simp, h2⟩
theorem col_ex {s : Scm} (h : ScmOk s) {a b : D} (e : areCols s a (.tuple [b]) = true) : ∃ t c : Str, a = .str t ∧ b = .str c ∧ HasCol s t c := by
  obtain ⟨t, cols, ys, rfl, h2, h3, h4, h5⟩ := areCols_ex h e
  cases ys with
  | nil => exact absurd rfl h4
  | cons y r =>
    simp at h2
    obtain ⟨rfl, h6⟩ := h2
    subst h6
    exact ⟨t, y, rfl, rfl, cols, h3, List.singleton_sublist.mp h5⟩
/-- what a dependency of the scheme is -/
theorem isRight_iff {s : Scm} (h : ScmOk s) {x : D} : isRight s x = true ↔ ∃ d, x = encD d ∧ DepOk s d := by
  constructor
  · intro e
    unfold isRight at e
    split at e
    · simp only [Bool.and_eq_true, beq_iff_eq] at e
      obtain ⟨⟨rfl, e1⟩, e2⟩ := e
      obtain ⟨t, cols, ys, rfl, rfl, h3, h4, h5⟩ := areCols_ex h e1
      obtain ⟨t', c, q1, rfl, cols', h6, h7⟩ := col_ex h e2
      cases q1
      have := (colsIn_mem h h3).symm.trans (colsIn_mem h h6)
      subst this
      exact ⟨.sets t ys c, rfl, cols, h3, h4, h5, h7⟩
    · simp only [Bool.and_eq_true, Bool.or_eq_true, beq_iff_eq] at e
      obtain ⟨⟨hw, e1⟩, e2⟩ := e
      obtain ⟨t, c, rfl, rfl, h1⟩ := col_ex h e1
      obtain ⟨u, d, rfl, rfl, h2⟩ := col_ex h e2
      rcases hw with rfl | rfl
      · exact ⟨.within t c u d, rfl, h1, h2⟩
      · exact ⟨.many t c u d, rfl, h1, h2⟩
    · cases e
  · rintro ⟨d, rfl, hd⟩
    cases d with
    | sets t xs a =>
      obtain ⟨cols, h1, h2, h3, h4⟩ := hd
      have e1 : areCols s (.str t) (.tuple (xs.map .str)) = true := (areCols_str h).mpr ⟨h2, by rw [colsIn_mem h h1]; exact h3⟩
      have e2 : areCols s (.str t) (.tuple [.str a]) = true := (col_iff h).mpr ⟨cols, h1, h4⟩
      simp [encD, isRight, e1, e2]
    | within t c u d =>
      have e1 := (col_iff h).mpr hd.1
      have e2 := (col_iff h).mpr hd.2
      simp [encD, isRight, e1, e2]
    | many t c u d =>
      have e1 := (col_iff h).mpr hd.1
      have e2 := (col_iff h).mpr hd.2
      simp [encD, isRight, e1, e2]
theorem fit_strs {xs : List Str} (h : ∀ x ∈ xs, nm x = true) (hl : xs.length ≤ 100) (n : Nat) : Fit (n + 1) (.tuple (xs.map .str)) := by
  refine ⟨by simp; unfold lim; omega, fun y hy => ?_⟩
  obtain ⟨c, hc, rfl⟩ := List.mem_map.mp hy
  exact nm_fit _ (h c hc)
theorem fit_lit (n : Nat) (w : String) (h : w.length ≤ 100) : Fit n (.str (Str.ofString w)) := (fit_str _ _).mpr ⟨strOk_of _, by
  rw [Str.ofString_eq_toList]
  have e : w.toList.length ≤ 100 := h
  simp only [Str.length, List.size_toArray, List.length_map]
  unfold lim; omega⟩
theorem DepOk.fit {s : Scm} (h : ScmOk s) {d : Dep} (hd : DepOk s d) (n : Nat) : Fit (n + 2) (encD d) := by
  cases d with
  | sets t xs a =>
    obtain ⟨cols, h1, h2, h3, h4⟩ := hd
    refine ⟨by simp [lim], fun y hy => ?_⟩
    simp at hy
    rcases hy with rfl | rfl | rfl | rfl
    · exact fit_lit _ "sets" (by decide)
    · exact nm_fit _ (h.nm1 h1)
    · exact fit_strs (fun x hx => h.nm2 h1 (h3.subset hx)) (by have := h3.length_le; have := (h.ts _ h1).l5; simp at this; omega) _
    · exact nm_fit _ (h.nm2 h1 h4)
  | within t c u d =>
    have a := hd.1.nms h
    have b := hd.2.nms h
    refine ⟨by simp [lim], fun y hy => ?_⟩
    simp at hy
    rcases hy with rfl | rfl | rfl | rfl | rfl
    · exact fit_lit _ "within" (by decide)
    · exact nm_fit _ a.1
    · exact nm_fit _ a.2
    · exact nm_fit _ b.1
    · exact nm_fit _ b.2
  | many t c u d =>
    have a := hd.1.nms h
    have b := hd.2.nms h
    refine ⟨by simp [lim], fun y hy => ?_⟩
    simp at hy
    rcases hy with rfl | rfl | rfl | rfl | rfl
    · exact fit_lit _ "many" (by decide)
    · exact nm_fit _ a.1
    · exact nm_fit _ a.2
    · exact nm_fit _ b.1
    · exact nm_fit _ b.2
theorem sp_is_right_ok {n : Nat} {M : Mem} {s : Scm} {d : Dep} (h : ScmOk s) (hd : DepOk s d) : F_is_right.run n [.d (encS s), .d (encD d)] M = .ok (.d (.bool true)) M := by
  rw [sp_is_right h (hd.fit h 0) (by omega), (isRight_iff h).mpr ⟨d, rfl, hd⟩]
theorem noB_D (d : Dep) : NoB 2 (encD d) := by
  cases d with
  | sets t xs a =>
    intro y hy
    simp at hy
    rcases hy with rfl | rfl | rfl | rfl <;> first | trivial | skip
    intro z hz
    obtain ⟨c, hc, rfl⟩ := List.mem_map.mp hz
    trivial
  | within t c u d => intro y hy; simp at hy; rcases hy with rfl | rfl | rfl | rfl | rfl <;> trivial
  | many t c u d => intro y hy; simp at hy; rcases hy with rfl | rfl | rfl | rfl | rfl <;> trivial
theorem ww : (("within" : Str) = ("many" : Str)) = False := by
  have : (("within" : Str) == ("many" : Str)) = false := by decide +kernel
  simpa using this
theorem encD_inj {d e : Dep} (h : encD d = encD e) : d = e := by
  have w2 : (("many" : Str) = ("within" : Str)) = False := by simpa [eq_comm] using ww
  cases d <;> cases e <;> simp [encD, ww, w2] at h ⊢
  · exact ⟨h.1, str_inj h.2.1, h.2.2⟩
  · exact h
  · exact h
theorem eqv_D (d e : Dep) : PyData.eqv (encD d) (encD e) = decide (d = e) := by
  rw [Bool.eq_iff_iff, eqv_iff (noB_D d) (noB_D e), decide_eq_true_eq]
  exact ⟨encD_inj, fun h => by rw [h]⟩
end Fk

/-! SpPc: small things, their reprs. -/
namespace Fk
open PySem
/-- a bound on the text, by depth -/
def Bd : Nat → Nat
  | 0 => 2000
  | n + 1 => 10 * (Bd n + 2) + 3
/-- a piece of a bad scheme -/
structure Pc (n : Nat) (x : D) : Prop where
  f : Fit n x
  s : PyData.showable x = true
  w : wt x ≤ Bd n
theorem Bd_mono {n : Nat} : Bd n ≤ Bd (n + 1) := by rw [Bd]; omega
theorem pc_str {s : Str} (h : PyData.strOk s = true) (hl : s.length ≤ 100) : Pc 0 (.str s) := ⟨(fit_str _ _).mpr ⟨h, by unfold lim; omega⟩, rfl, by rw [wt, Bd]; omega⟩
theorem pc_nm {s : Str} (h : nm s = true) : Pc 0 (.str s) := pc_str (nm_strOk h) (by have := nm_len h; omega)
theorem pc_none : Pc 0 .none := ⟨trivial, rfl, by decide⟩
theorem pc_int0 : Pc 0 (.int 0) := ⟨trivial, by decide +kernel, by decide⟩
theorem Pc.up {n : Nat} {x : D} (h : Pc n x) : Pc (n + 1) x := ⟨h.f.up (by omega), h.s, Nat.le_trans h.w Bd_mono⟩
theorem pc_t {n : Nat} {xs : List D} (h : ∀ x ∈ xs, Pc n x) (hl : xs.length ≤ 10) : Pc (n + 1) (.tuple xs) := ⟨⟨by unfold lim; omega, fun x hx => (h x hx).f⟩, showable_t fun x hx => (h x hx).s, by
  have a := wts_le (b := Bd n) fun x hx => (h x hx).w
  have b : xs.length * (Bd n + 2) ≤ 10 * (Bd n + 2) := Nat.mul_le_mul_right _ hl
  rw [wt, Bd]; omega⟩
theorem pc_l {n : Nat} {xs : List D} (h : ∀ x ∈ xs, Pc n x) (hl : xs.length ≤ 10) : Pc (n + 1) (.list xs) := ⟨⟨by unfold lim; omega, fun x hx => (h x hx).f⟩, showable_l fun x hx => (h x hx).s, by
  have a := wts_le (b := Bd n) fun x hx => (h x hx).w
  have b : xs.length * (Bd n + 2) ≤ 10 * (Bd n + 2) := Nat.mul_le_mul_right _ hl
  rw [wt, Bd]; omega⟩
theorem Bd_le {n : Nat} (h : n ≤ 3) : Bd n ≤ lim := by
  match n, h with
  | 0, _ => decide +kernel
  | 1, _ => decide +kernel
  | 2, _ => decide +kernel
  | 3, _ => decide +kernel
theorem pc_bool (b : Bool) : Pc 0 (.bool b) := ⟨by simp, rfl, by rw [wt, Bd]; omega⟩
theorem pc_int {i : Int} (h : i.natAbs.log2 < 1920) : Pc 0 (.int i) := ⟨by simp, by rw [PyData.showable]; simpa using h, by rw [wt, Bd]; omega⟩
theorem Pc.le {n m : Nat} {x : D} (h : Pc n x) (hm : n ≤ m) : Pc m x := by
  induction hm with
  | refl => exact h
  | step _ ih => exact ih.up
theorem pc_S {s : Scm} (h : ScmOk s) : Pc 3 (encS s) := ⟨(h.fit 0).up (by omega), showable_S s, Nat.le_trans (wt_S h) (by decide +kernel)⟩
theorem pc_item_t {n : Nat} {xs : List D} (h : Pc (n + 1) (.tuple xs)) : ∀ x ∈ xs, Fit n x := h.f.2
def reps (d : D) : Bool := d.showable && !d.hasDict && decide (d.depth ≤ 64) && decide (d.shown.length ≤ lim)
theorem reps_w {n : Nat} {x : D} (h : Fit n x) (hn : n ≤ 64) (hs : PyData.showable x = true) (hw : wt x ≤ lim) : reps x = true := by
  have a := shown_le n _ h hs
  have b := h.lay
  have c := PyData.hasDict_of_canLay _ b.1
  simp only [reps, hs, c, Bool.true_and, Bool.not_false, Bool.and_eq_true, decide_eq_true_eq]
  exact ⟨by omega, by omega⟩
theorem reps_pc {n : Nat} {x : D} (h : Pc n x) (hn : n ≤ 3) : reps x = true := reps_w h.f (by omega) h.s (Nat.le_trans h.w (Bd_le hn))
/-- a scheme and a thing -/
theorem reps_two {n : Nat} {s : Scm} {x : D} (hs : ScmOk s) (h : Pc n x) (hn : n ≤ 3) : reps (.list [encS s, x]) = true := by
  have h3 : Pc 3 x := h.le hn
  have a := wt_S hs
  have b := h3.w
  have c : Bd 3 + 3000 ≤ lim := by decide +kernel
  refine reps_w (n := 5) ⟨by simp [lim], fun y hy => ?_⟩ (by omega) (showable_l fun y hy => ?_) ?_
  · simp at hy
    rcases hy with rfl | rfl
    · exact Fit.up (m := 4) (hs.fit 0) (by decide)
    · exact Fit.up (m := 4) h3.f (by decide)
  · simp at hy
    rcases hy with rfl | rfl
    · exact showable_S s
    · exact h3.s
  · simp only [wt, wts]; omega
theorem b_repr {m : Md} {M : Mem} {v : Val} {x : D} (hv : rdv M v = some x) (h : reps x = true) : bltV m .repr M [v] = .ok (.d (.str (PyData.shown x))) M := by
  have h' := h
  unfold reps at h'
  simp only [bltV, hv, h', if_true]
theorem b_reprd {m : Md} {M : Mem} {n : Nat} {x : D} (h : Pc n x) (hn : n ≤ 3) : bltV m .repr M [.d x] = .ok (.d (.str (PyData.shown x))) M := b_repr (rdv_d M x) (reps_pc h hn)
theorem shp_shown {n : Nat} {x : D} (h : Fit n x) : shp (.str (PyData.shown x)) = true := by rw [shp_str]; exact strOk_shown _ _ h
theorem fit_two {n : Nat} {s : Scm} {x : D} (hs : ScmOk s) (h : Fit n x) (hn : n ≤ 20) : Fit 21 (.list [encS s, x]) := ⟨by simp [lim], fun y hy => by
  simp at hy
  rcases hy with rfl | rfl
  · exact Fit.up (m := 20) (hs.fit 0) (by decide)
  · exact Fit.up (m := 20) h hn⟩
theorem pc_two {n : Nat} {a b : D} (ha : Pc n a) (hb : Pc n b) : Pc (n + 1) (.list [a, b]) := pc_l (by simpa using ⟨ha, hb⟩) (by simp)
end Fk

/-! SpErr: the laws' words for errors. -/
namespace Fk
open PySem
theorem isi_xc {M : Mem} (c d : Nat) : isiV subC M (.x c []) (.cls d) = some (subC c d) := rfl
theorem isi_xv {M : Mem} (c : Nat) : isiV subC M (.x c []) .valueError = some true := rfl
/-- an error's word -/
def errW : Nat → Str
  | 1 => "scheme" | 2 => "rules" | 3 => "dependency" | 4 => "database" | 5 => "column" | 6 => "kind" | 7 => "not endless" | 8 => "endless" | 9 => "times" | 10 => "rule" | 11 => "sizes" | 12 => "single" | 13 => "text" | 14 => "broken" | _ => "other"
def clsOrd : List Nat := [1, 2, 3, 4, 5, 6, 7, 8, 10, 13, 9, 11, 12, 14]
theorem add_ll {M : Mem} {x y : List D} (h : x.length + y.length ≤ 1000) : binV .v .add M (.d (.list x)) (.d (.list y)) = .ok (.d (.list (x ++ y))) M := bin_addl (by unfold lim; omega)
theorem sp_flags {n : Nat} {M : Mem} {c : Nat} : F_l_flags.run n [.x c []] M = .ok (.d (.list (clsOrd.map fun k => .bool (subC c k)))) M := by
  simp [F_l_flags, c_l_flags, List.replicate, isi_xc, add_ll, clsOrd]
theorem sp_error_none {n : Nat} {M : Mem} : F_l_error.run n [.d .none] M = .ok (.d (.str "")) M := by
  simp [F_l_error, c_l_error, List.replicate]
def bls (bs : List Bool) : List D := bs.map .bool
theorem bls_shp (bs : List Bool) : shp (.list (bls bs)) = true := by
  have a : PyData.canLayAll0 (bls bs) = true := by
    induction bs with
    | nil => rfl
    | cons b r ih => exact ih
  have b : PyData.depthAll (bls bs) = 0 := by
    clear a
    induction bs with
    | nil => rfl
    | cons b r ih => rw [bls, List.map_cons, PyData.depthAll]; simp only [bls] at ih; rw [ih]; rfl
  simp [shp, PyData.canLay0, PyData.depth, a, b]
theorem cnt_true (bs : List Bool) : ((bls bs).filter fun z => PyData.eqv z (.bool true)).length = bs.count true := by
  induction bs with
  | nil => rfl
  | cons b r ih => cases b <;> simp_all [bls, PyData.eqv]
theorem ix_true (bs : List Bool) : (bls bs).findIdx? (fun z => PyData.eqv z (.bool true)) = bs.findIdx? id := by
  induction bs with
  | nil => rfl
  | cons b r ih =>
    simp only [bls] at ih
    rw [bls, List.map_cons, List.findIdx?_cons, List.findIdx?_cons, ih]
    cases b <;> rfl
theorem count_t {M : Mem} {n : Nat} (bs : List Bool) : bmV .v n .count M (.d (.list (bls bs))) [.d (.bool true)] = .ok (.d (.int (bs.count true : Nat))) M := by
  have h : shp (.bool true) = true := rfl
  simp only [bmV, data_list, h, bls_shp, Bool.and_self, if_true, cnt_true]
theorem index_t {M : Mem} {n k : Nat} {bs : List Bool} (e : bs.findIdx? id = some k) : bmV .v n .index M (.d (.list (bls bs))) [.d (.bool true)] = .ok (.d (.int (k : Nat))) M := by
  have h : shp (.bool true) = true := rfl
  simp only [bmV, data_list, h, bls_shp, Bool.and_self, if_true, ix_true, e]
def kOf (c : Nat) : Nat := clsOrd.findIdx fun k => subC c k
theorem sp_error {n : Nat} {M : Mem} {c : Nat} (h0 : 1 ≤ c) (h1 : c ≤ 14) : F_l_error.run n [.x c []] M = .ok (.d (.str (errW c))) M := by
  have key : ∀ c, 1 ≤ c → c ≤ 14 → (clsOrd.map (subC c)).count true = 1 ∧ (clsOrd.map (subC c)).findIdx? id = some (kOf c) ∧ ∀ M : Mem, idxV M (.d (.list [.str "scheme", .str "rules", .str "dependency", .str "database", .str "column", .str "kind", .str "not endless", .str "endless", .str "rule", .str "text", .str "times", .str "sizes", .str "single", .str "broken"])) (.d (.int (kOf c : Nat))) = some (.d (.str (errW c))) := by
    intro c h0 h1
    have : c = 1 ∨ c = 2 ∨ c = 3 ∨ c = 4 ∨ c = 5 ∨ c = 6 ∨ c = 7 ∨ c = 8 ∨ c = 9 ∨ c = 10 ∨ c = 11 ∨ c = 12 ∨ c = 13 ∨ c = 14 := by omega
    rcases this with rfl | rfl | rfl | rfl | rfl | rfl | rfl | rfl | rfl | rfl | rfl | rfl | rfl | rfl <;>
      exact ⟨by decide, by decide, fun M => rfl⟩
  obtain ⟨k1, k2, k3⟩ := key c h0 h1
  have e : (clsOrd.map fun k => PyData.bool (subC c k)) = bls (clsOrd.map (subC c)) := by simp [bls]
  have z : subC c 0 = true := by simp [subC]; omega
  have c1 := fun (n : Nat) (M : Mem) => count_t (M := M) (n := n) (clsOrd.map (subC c))
  have c2 := fun (n : Nat) (M : Mem) => index_t (M := M) (n := n) k2
  rw [k1] at c1
  have r : ∀ M : Mem, recvT M (.d (.list (bls (clsOrd.map (subC c))))) = some .list := fun M => rfl
  have i1 : cmpV .ne M (.d (.int ((1 : Nat) : Int))) (.d (.int 1)) = some false := by rw [cmp_ne rfl rfl]; rfl
  simp [-idx_list, F_l_error, c_l_error, List.replicate, sp_flags, e, r, c1, c2, i1, isi_xc, isi_xv, z, add_ll, k3, Val.isN]
end Fk

/-! SpK03: a law's own judge of dependencies. -/
namespace Fk
open PySem
def Sm : D → Prop
  | .tuple xs => xs.length < 63
  | _ => True
theorem ints_shp (ns : List Int) : shp (.list (ns.map .int)) = true := by
  have a : PyData.canLayAll0 (ns.map .int) = true := by
    induction ns with
    | nil => rfl
    | cons b r ih => exact ih
  have b : PyData.depthAll (ns.map PyData.int) = 0 := by
    clear a
    induction ns with
    | nil => rfl
    | cons b r ih => rw [List.map_cons, PyData.depthAll, ih]; rfl
  simp [shp, PyData.canLay0, PyData.depth, a, b]
theorem eqv_il (a b : List Int) : PyData.eqv (.list (a.map .int)) (.list (b.map .int)) = decide (a = b) := by
  simp only [PyData.eqv]; exact eqv_ints a b
theorem areCols_none {s : Scm} {t : Str} {b : D} (h : colsIn s t = []) : areCols s (.str t) b = false := by
  unfold areCols
  split
  · rename_i u xs e
    cases e
    rw [h]
    cases xs with
    | nil => rfl
    | cons x r =>
      have : strIn [] x = false := by cases x <;> simp [strIn]
      simp [this]
  · rfl
theorem srt_incr {cols : List Str} {xs : List D} : decide ((xs.map fun x => ((ixOf cols x : Nat) : Int)) = srt (xs.map fun x => ((ixOf cols x : Nat) : Int))) = incr cols xs := by
  rw [Bool.eq_iff_iff, decide_eq_true_eq, eq_comm, srt_self]
  simp only [incr, List.all_eq_true, List.mem_range, decide_eq_true_eq]
  constructor
  · intro h k hk
    have := List.pairwise_iff_getElem.mp h k (k + 1) (by simp; omega) (by simp; omega) (by omega)
    simp at this
    simpa [List.getD_eq_getElem?_getD, List.getElem?_eq_getElem (show k < xs.length by omega), List.getElem?_eq_getElem (show k + 1 < xs.length by omega)] using this
  · intro h
    have := step_mono (f := ixOf cols) (d := .none) (xs := xs) fun k hk => h k (by omega)
    exact List.Pairwise.map _ (fun a b hab => by omega) this
theorem sp_l_are_columns {n k : Nat} {M : Mem} {s : Scm} {a b : D} (h : ScmOk s) (ha : Fit k a) (hb : Fit k b) (hk : k ≤ 60) (hsm : Sm b) : F_l_are_columns.run n [.d (encS s), .d a, .d b] M = .ok (.d (.bool (areCols s a b))) M := by
  have e0 : shp (.list []) = true := rfl
  have tF : ∀ (m : Nat) (ρ : Slots) (M : Mem), (∀ t, a ≠ .str t) → ρ[1]? = some (some (.d a)) → evoT G_l_are_columns m ρ M b_l_are_columns_2 = .ok false M := fun m ρ M hne hr => by
    cases a <;> first | exact absurd rfl (hne _) | skip
    all_goals first | (cases k <;> cases ha; done) | simp [b_l_are_columns_2, hr, isiV]
  cases a with
  | str t =>
    have ht := ((fit_str _ _).mp ha).1
    have cmp : ∀ (u : Str × List Str), u ∈ s → PyData.strOk u.1 = true := fun u hu => nm_strOk (h.ts u hu).n
    simp [F_l_are_columns, c_l_are_columns, List.replicate, items_S, Function.comp_def]
    generalize hF : foldC _ _ _ _ _ = o
    cases lc_flt hF (fun u => u.1 == t) (fun u => .tuple (u.2.map .str)) (by
      intro u hu
      have hT' : encT u = .tuple [.str u.1, .tuple (u.2.map .str)] := rfl
      by_cases he : u.1 = t
      · simp [b_l_are_columns_2, b_l_are_columns_3, hT', cmp_eq, ht, cmp u hu, he]
      · simp [b_l_are_columns_2, b_l_are_columns_3, hT', cmp_eq, ht, cmp u hu, he])
    clear hF
    rcases colsIn_or h t with hc | hc
    · have hn : (s.filter fun u => u.1 == t) = [] := by
        rw [List.filter_eq_nil_iff]
        intro u hu he
        have he : u.1 = t := by simpa using he
        subst he
        have := colsIn_mem h (t := u.1) (cols := u.2) hu
        rw [hc] at this
        have l1 := (h.ts u hu).l1
        rw [← this] at l1; simp at l1
      rw [hn, areCols_none hc]
      simp [cmp_eq e0 e0, PyData.eqv, PyData.eqvAll]
    · have hT := h.ts _ hc
      generalize hcols : colsIn s t = cols at hc hT
      have hn : (s.filter fun u => u.1 == t) = [(t, cols)] := filter_name h.nd hc
      have hso : ∀ x ∈ cols, PyData.strOk x = true := fun x hx => nm_strOk (hT.ns x hx)
      have hst : shp (.tuple (cols.map .str)) = true := shp_tuple (n := 0) (fun x hx => by obtain ⟨y, hy, rfl⟩ := List.mem_map.mp hx; exact nm_fit _ (hT.ns y hy)) (by omega)
      have hsl : shp (.list [.tuple (cols.map .str)]) = true := shp_list (n := 1) (fun x hx => by
        simp at hx; subst hx
        exact ⟨by have l5 : cols.length ≤ 5 := hT.l5; simp; unfold lim; omega, fun x hx => by obtain ⟨y, hy, rfl⟩ := List.mem_map.mp hx; exact nm_fit _ (hT.ns y hy)⟩) (by omega)
      have i0 : ∀ M : Mem, idxV M (.d (.list [.tuple (cols.map .str)])) (.d (.int 0)) = some (.d (.tuple (cols.map .str))) := fun M => by simp [ixN]
      have ne : PyData.eqv (.list [.tuple (cols.map .str)]) (.list []) = false := by simp [PyData.eqv, PyData.eqvAll]
      rw [hn]
      cases b with
      | tuple xs =>
        obtain ⟨k, rfl⟩ : ∃ j, k = j + 1 := by cases k with | zero => cases hb | succ j => exact ⟨j, rfl⟩
        have hsm : xs.length < 63 := hsm
        by_cases h0 : xs = []
        · subst h0
          simp [cmp_eq hsl e0, ne, areCols]
        · have hl : ((xs.length : Int) == 0) = false := by
            have : xs.length ≠ 0 := fun e => h0 (List.length_eq_zero_iff.mp e)
            simp; omega
          simp [-idx_list, cmp_eq hsl e0, ne, hl]
          generalize hF : foldC _ _ _ _ _ = o
          cases lc_map hF (fun x => .bool (strIn cols x)) (by
            intro x hx
            have hf := hb.2 x hx
            cases x with
            | str c => simp [-idx_list, b_l_are_columns_1, i0, mem_tuple (x := .str c) (by simpa using ((fit_str _ _).mp hf).1) hst, inD_str, strIn]
            | dict kv => cases k <;> cases hf
            | _ => simp [b_l_are_columns_1, isiV, strIn])
          clear hF
          by_cases hall : xs.all (strIn cols) = true
          · simp [Function.comp_def, List.all_map, hall]
            generalize hF : foldC _ _ _ _ _ = o
            cases lc_map hF (fun x => .int (ixOf cols x : Nat)) (by
              intro x hx
              obtain ⟨c, rfl, mc⟩ := strIn_ex (List.all_eq_true.mp hall _ hx)
              simp [-idx_list, b_l_are_columns_0, i0, m_index_t hso mc, ixOf])
            have hns : (xs.map fun x => ((ixOf cols x : Nat) : Int)).length < 63 := by simpa using hsm
            have e1 : (xs.map fun x => Val.d (.int (ixOf cols x : Nat))) = ((xs.map fun x => ((ixOf cols x : Nat) : Int)).map PyData.int).map Val.d := by simp
            have hi : decide ((xs.map fun x => ((ixOf cols x : Nat) : Int)) = srt (xs.map fun x => ((ixOf cols x : Nat) : Int))) = incr cols xs := srt_incr
            generalize (xs.map fun x => ((ixOf cols x : Nat) : Int)) = ns at hns e1 hi
            have e2 : mkL .v (xs.map fun x => Val.d (.int (ixOf cols x : Nat))) M = .ok (.d (.list (ns.map .int))) M := by rw [e1]; simp only [mkL, allD_map]
            simp [e2, b_sset (m := .v) hns, cmp_eq (ints_shp ns) (ints_shp (srt ns)), eqv_il, eqv_ints, hi, areCols, h0, hcols, hall]
          · simp [Function.comp_def, List.all_map, hall, areCols, hcols]
      | dict kv => cases k <;> cases hb
      | _ => simp [cmp_eq hsl e0, ne, isiV, areCols]
  | dict kv => cases k <;> cases ha
  | _ =>
    simp [F_l_are_columns, c_l_are_columns, List.replicate, items_S, Function.comp_def]
    generalize hF : foldC _ _ _ _ _ = o
    cases lc_flt hF (fun u => false) (fun u => .tuple (u.2.map .str)) (by
      intro u hu
      have hT' : encT u = .tuple [.str u.1, .tuple (u.2.map .str)] := rfl
      simp [b_l_are_columns_2, b_l_are_columns_3, hT', isiV])
    have hfil : s.filter (fun u => false) = [] := by simp
    simp [hfil, cmp_eq e0 e0, PyData.eqv, PyData.eqvAll, areCols]
def Sm2 : D → Prop
  | .tuple xs => xs.length < 63 ∧ ∀ y ∈ xs, Sm y
  | _ => True
theorem isRight_short {s : Scm} {xs : List D} (h : xs.length < 4) : isRight s (.tuple xs) = false := isRight_len (by omega) (by omega)
theorem sp_l_is_right {n k : Nat} {M : Mem} {s : Scm} {x : D} (h : ScmOk s) (hx : Fit k x) (hk : k ≤ 58) (hsm : Sm2 x) : F_l_is_right.run n [.d (encS s), .d x] M = .ok (.d (.bool (isRight s x))) M := by
  have hwm : shp (.list [.str "within", .str "many"]) = true := by
    refine shp_list (n := 0) (fun y hy => ?_) (by omega)
    simp at hy
    rcases hy with rfl | rfl <;> exact (fit_str _ _).mpr ⟨strOk_of _, by decide⟩
  cases x with
  | tuple xs =>
    obtain ⟨k, rfl⟩ : ∃ j, k = j + 1 := by cases k with | zero => cases hx | succ j => exact ⟨j, rfl⟩
    obtain ⟨hl63, hsm⟩ : xs.length < 63 ∧ ∀ y ∈ xs, Sm y := hsm
    have tup1 : ∀ {y : D}, Fit k y → Fit (k + 1) (.tuple [y]) := fun hy => ⟨by simp [lim], fun z hz => by simp at hz; exact hz ▸ hy⟩
    by_cases h4 : xs.length < 4
    · rw [isRight_short h4]
      have : ((xs.length : Int) < 4) := by omega
      simp [F_l_is_right, c_l_is_right, this]
    · have h4i : ¬ ((xs.length : Int) < 4) := by omega
      obtain ⟨w, r, rfl⟩ : ∃ w r, xs = w :: r := by
        cases xs with
        | nil => simp at h4
        | cons w r => exact ⟨w, r, rfl⟩
      have h0 : ∀ M : Mem, idxV M (.d (.tuple (w :: r))) (.d (.int 0)) = some (.d w) := fun M => by simp [ixN]
      have hw := hx.2 w (by simp)
      have e4 : cmpV .lt M (.d (.int (((w :: r).length : Nat) : Int))) (.d (.int 4)) = some false := by simp [cmpV]; simpa using h4i
      cases w with
      | str w =>
        have hwk := ((fit_str _ _).mp hw).1
        have hss : PyData.strOk (("sets" : Str)) = true := strOk_of _
        have c1 : ∀ M : Mem, cmpV .eq M (.d (.str w)) (.d (.str ("sets" : Str))) = some (w == ("sets" : Str)) := fun M => by rw [cmp_eq (by simpa using hwk) (by simpa using hss), eqv_ss]
        have nm_ : ∀ M : Mem, cmpV.memV M (.d (.str w)) (.d (.list [.str "within", .str "many"])) = some (w == ("within" : Str) || w == ("many" : Str)) := fun M => by rw [mem_list (by simpa using hwk) hwm, in_two]
        match r, hsm, hx, h4, hl63, h0, e4, h4i with
        | [a, b, c], hsm, hx, h4, hl63, h0, e4, h4i =>
          have ha := hx.2 a (by simp)
          have hb := hx.2 b (by simp)
          have hc := hx.2 c (by simp)
          have q1 := fun (n : Nat) (M : Mem) => sp_l_are_columns (n := n) (M := M) h ha hb (by omega) (hsm b (by simp))
          have q2 := fun (n : Nat) (M : Mem) => sp_l_are_columns (n := n) (M := M) h (ha.up (Nat.le_succ k)) (tup1 hc) (by omega) (by show 1 < 63; omega)
          cases hs : (w == ("sets" : Str)) <;> cases h1 : areCols s a b <;> simp [F_l_is_right, c_l_is_right, ixN, c1, nm_, hs, q1, q2, isRight, h1]
        | [a, b, c, d], hsm, hx, h4, hl63, h0, e4, h4i =>
          have ha := hx.2 a (by simp)
          have hb := hx.2 b (by simp)
          have hc := hx.2 c (by simp)
          have hd := hx.2 d (by simp)
          have q1 := fun (n : Nat) (M : Mem) => sp_l_are_columns (n := n) (M := M) h (ha.up (Nat.le_succ k)) (tup1 hb) (by omega) (by show 1 < 63; omega)
          have q2 := fun (n : Nat) (M : Mem) => sp_l_are_columns (n := n) (M := M) h (hc.up (Nat.le_succ k)) (tup1 hd) (by omega) (by show 1 < 63; omega)
          have wsx : (w == ("sets" : Str)) = true → (w == ("within" : Str) || w == ("many" : Str)) = false := fun e => by
            have e : w = ("sets" : Str) := by simpa using e
            subst e; decide +kernel
          cases hs : (w == ("sets" : Str)) <;> cases hb2 : (w == ("within" : Str) || w == ("many" : Str)) <;> cases h1 : areCols s a (.tuple [b]) <;>
            first
              | (rw [wsx hs] at hb2; cases hb2; done)
              | simp [F_l_is_right, c_l_is_right, ixN, c1, nm_, hs, hb2, q1, q2, isRight, h1]
        | a :: b :: c :: d :: e :: r, hsm, hx, h4, hl63, h0, e4, h4i =>
          rw [isRight_len (by simp) (by simp)]
          have l3 : ¬ ((r.length : Int) + 1 + 1 + 1 + 1 + 1 + 1 < 4) := by omega
          have l4 : ((r.length : Int) + 1 + 1 + 1 + 1 + 1 + 1 == 4) = false := by simp; omega
          have l5 : ((r.length : Int) + 1 + 1 + 1 + 1 + 1 + 1 == 5) = false := by simp; omega
          cases hs : (w == ("sets" : Str)) <;> cases hb2 : (w == ("within" : Str) || w == ("many" : Str)) <;> simp [-idx_tuple, F_l_is_right, c_l_is_right, h0, c1, nm_, hs, hb2, l3, l4, l5]
        | [], hsm, hx, h4, hl63, h0, e4, h4i => simp at h4
        | [a], hsm, hx, h4, hl63, h0, e4, h4i => simp at h4
        | [a, b], hsm, hx, h4, hl63, h0, e4, h4i => simp at h4
      | dict kv => cases k <;> cases hw
      | _ =>
        rw [isRight_str rfl]
        have l3 : ¬ ((r.length : Int) + 1 < 4) := by simp at h4i; omega
        simp [-idx_tuple, F_l_is_right, c_l_is_right, l3, h0, isiV]
  | dict kv => cases k <;> cases hx
  | _ => simp [F_l_is_right, c_l_is_right, isiV, isRight]
end Fk

namespace Fk
open PySem
/-- broken_within -/
def b_broken_within_0 : Ss := (.cons (.iff (.val (.cmp .notin (.var 4) (.var 3))) (.cons (.ret (.tup (.cons (.var 10) .nil)))
  .nil) .nil)
  .nil)
def b_broken_within_1 : Ss := (.cons (.setIx (.var 3) (.var 4) (.lit (.bool true)))
  .nil)
def c_broken_within : Ss := (.cons (.setT [5, 6, 7, 8, 9] (.var 2))
  (.cons (.set 3 .dct)
  (.cons (.fr true (.one 4) (.seq (.call 76 [] (.cons (.var 0) (.cons (.var 1) (.cons (.var 8) (.cons (.var 9) .nil)))))) b_broken_within_1)
  (.cons (.fr true (.tup [10, 4]) (.enm (.call 76 [] (.cons (.var 0) (.cons (.var 1) (.cons (.var 6) (.cons (.var 7) .nil)))))) b_broken_within_0)
  (.cons (.ret (.lit .none))
  .nil)))))
noncomputable def G_broken_within : Gam := gf [(76, F_values_in)]
noncomputable def F_broken_within : FnI := runF G_broken_within .frz 3 8 c_broken_within
@[simp] theorem g_broken_within_values_in : G_broken_within.fn 76 = some F_values_in := (rfl)

/-- broken_in -/
def c_broken_in : Ss := (.cons (.iff (.val (.cmp .eq (.idx (.var 2) (.lit (.int 0))) (.lit (.str "sets")))) (.cons (.ret (.call 79 [] (.cons (.var 0) (.cons (.var 1) (.cons (.var 2) .nil)))))
  .nil) .nil)
  (.cons (.iff (.val (.cmp .eq (.idx (.var 2) (.lit (.int 0))) (.lit (.str "within")))) (.cons (.ret (.call 80 [] (.cons (.var 0) (.cons (.var 1) (.cons (.var 2) .nil)))))
  .nil) .nil)
  (.cons (.setT [5, 6, 7, 8, 9] (.var 2))
  (.cons (.set 3 (.call 77 [] (.cons (.call 76 [] (.cons (.var 0) (.cons (.var 1) (.cons (.var 6) (.cons (.var 7) .nil))))) .nil)))
  (.cons (.set 4 (.call 77 [] (.cons (.call 76 [] (.cons (.var 0) (.cons (.var 1) (.cons (.var 8) (.cons (.var 9) .nil))))) .nil)))
  (.cons (.iff (.val (.cmp .lt (.var 3) (.var 4))) (.cons (.ret (.tup (.cons (.var 3) (.cons (.var 4) .nil))))
  .nil) .nil)
  (.cons (.ret (.lit .none))
  .nil)))))))
noncomputable def G_broken_in : Gam := gf [(77, F_different), (76, F_values_in), (80, F_broken_within), (79, F_broken_sets)]
noncomputable def F_broken_in : FnI := runF G_broken_in .frz 3 7 c_broken_in
@[simp] theorem g_broken_in_different : G_broken_in.fn 77 = some F_different := (rfl)
@[simp] theorem g_broken_in_values_in : G_broken_in.fn 76 = some F_values_in := (rfl)
@[simp] theorem g_broken_in_broken_within : G_broken_in.fn 80 = some F_broken_within := (rfl)
@[simp] theorem g_broken_in_broken_sets : G_broken_in.fn 79 = some F_broken_sets := (rfl)

/-- broken_by -/
def c_broken_by : Ss := (.cons (.expr (.call 4 [] (.cons (.var 0) .nil)))
  (.cons (.expr (.call 74 [] (.cons (.var 0) (.cons (.var 1) .nil))))
  (.cons (.expr (.call 68 [] (.cons (.var 0) (.cons (.var 2) .nil))))
  (.cons (.ret (.call 81 [] (.cons (.var 0) (.cons (.var 1) (.cons (.var 2) .nil)))))
  .nil))))
noncomputable def G_broken_by : Gam := gf [(81, F_broken_in), (68, F_look_at_dependency), (74, F_look_at_database), (4, F_look_at_scheme)]
noncomputable def F_broken_by : FnI := runF G_broken_by .frz 3 0 c_broken_by
@[simp] theorem g_broken_by_broken_in : G_broken_by.fn 81 = some F_broken_in := (rfl)
@[simp] theorem g_broken_by_look_at_dependency : G_broken_by.fn 68 = some F_look_at_dependency := (rfl)
@[simp] theorem g_broken_by_look_at_database : G_broken_by.fn 74 = some F_look_at_database := (rfl)
@[simp] theorem g_broken_by_look_at_scheme : G_broken_by.fn 4 = some F_look_at_scheme := (rfl)

/-- keeps -/
def c_keeps : Ss := (.cons (.ret (.cmp .isnone (.call 82 [] (.cons (.var 0) (.cons (.var 1) (.cons (.var 2) .nil)))) (.lit .none)))
  .nil)
noncomputable def G_keeps : Gam := gf [(82, F_broken_by)]
noncomputable def F_keeps : FnI := runF G_keeps .frz 3 0 c_keeps
@[simp] theorem g_keeps_broken_by : G_keeps.fn 82 = some F_broken_by := (rfl)

/-- _law_whole -/
def c_l_whole : Ss := (.cons (.ret (.and (.isi (.var 0) [.int]) (.not (.isi (.var 0) [.bool]))))
  .nil)
noncomputable def G_l_whole : Gam := gf []
noncomputable def F_l_whole : FnI := runF G_l_whole .frz 1 0 c_l_whole

/-- _law_places -/
def b_l_places_0 : E := (.bm .index (.var 3) (.cons (.var 4) .nil))
def c_l_places : Ss := (.cons (.set 3 (.call 23 [] (.cons (.var 0) (.cons (.var 1) .nil))))
  (.cons (.ret (.lc .v [4] (.one 4) (.seq (.var 2)) .no b_l_places_0))
  .nil))
noncomputable def G_l_places : Gam := gf [(23, F_l_columns)]
noncomputable def F_l_places : FnI := runF G_l_places .frz 3 2 c_l_places
@[simp] theorem g_l_places_l_columns : G_l_places.fn 23 = some F_l_columns := (rfl)

/-- _law_rows -/
def b_l_rows_0 : To := (.some (.val (.cmp .eq (.idx (.idx (.var 0) (.var 3)) (.lit (.int 0))) (.var 2))))
def b_l_rows_1 : E := (.idx (.var 1) (.var 3))
def c_l_rows : Ss := (.cons (.ret (.idx (.lc .v [3] (.one 3) (.rng1 (.blt .len .v (.cons (.var 0) .nil))) b_l_rows_0 b_l_rows_1) (.lit (.int 0))))
  .nil)
noncomputable def G_l_rows : Gam := gf []
noncomputable def F_l_rows : FnI := runF G_l_rows .frz 3 1 c_l_rows

/-- _law_first -/
def b_l_first_0 : To := (.some (.val (.cmp .ne (.idx (.idx (.var 5) (.var 6)) (.var 9)) (.idx (.idx (.var 5) (.var 7)) (.var 9)))))
def b_l_first_1 : E := (.var 9)
def b_l_first_2 : Ss := (.cons (.set 8 (.cmp .eq (.lc .v [9] (.one 9) (.seq (.var 3)) b_l_first_0 b_l_first_1) (.lst .v .nil)))
  (.cons (.iff (.and (.val (.var 8)) (.val (.cmp .ne (.idx (.idx (.var 5) (.var 6)) (.var 4)) (.idx (.idx (.var 5) (.var 7)) (.var 4))))) (.cons (.ret (.tup (.cons (.var 6) (.cons (.var 7) .nil))))
  .nil) .nil)
  .nil))
def b_l_first_3 : Ss := (.cons (.fr true (.one 7) (.rng2 (.bin .add .v (.var 6) (.lit (.int 1))) (.blt .len .v (.cons (.var 5) .nil))) b_l_first_2)
  .nil)
def c_l_first : Ss := (.cons (.set 3 (.call 92 [] (.cons (.var 0) (.cons (.idx (.var 2) (.lit (.int 1))) (.cons (.idx (.var 2) (.lit (.int 2))) .nil)))))
  (.cons (.set 4 (.idx (.call 92 [] (.cons (.var 0) (.cons (.idx (.var 2) (.lit (.int 1))) (.cons (.slc .v (.var 2) (.some (.lit (.int 3))) .no) .nil)))) (.lit (.int 0))))
  (.cons (.set 5 (.call 93 [] (.cons (.var 0) (.cons (.var 1) (.cons (.idx (.var 2) (.lit (.int 1))) .nil)))))
  (.cons (.fr true (.one 6) (.rng1 (.blt .len .v (.cons (.var 5) .nil))) b_l_first_3)
  (.cons (.ret (.lit .none))
  .nil)))))
noncomputable def G_l_first : Gam := gf [(93, F_l_rows), (92, F_l_places)]
noncomputable def F_l_first : FnI := runF G_l_first .frz 3 7 c_l_first
@[simp] theorem g_l_first_l_rows : G_l_first.fn 93 = some F_l_rows := (rfl)
@[simp] theorem g_l_first_l_places : G_l_first.fn 92 = some F_l_places := (rfl)

/-- _law_drawn -/
def b_l_drawn_0 : To := (.some (.val (.cmp .eq (.call 7 [] (.cons (.var 0) (.cons (.lit (.int 2)) .nil))) (.lit (.int 1)))))
def b_l_drawn_1 : E := (.var 5)
def c_l_drawn : Ss := (.cons (.setT [3, 4] (.idx (.var 1) (.call 7 [] (.cons (.var 0) (.cons (.blt .len .v (.cons (.var 1) .nil)) .nil)))))
  (.cons (.set 2 (.lc .v [5] (.one 5) (.seq (.var 4)) b_l_drawn_0 b_l_drawn_1))
  (.cons (.iff (.val (.cmp .eq (.var 2) (.lst .v .nil))) (.cons (.set 2 (.lst .v (.cons (.idx (.var 4) (.call 7 [] (.cons (.var 0) (.cons (.blt .len .v (.cons (.var 4) .nil)) .nil)))) .nil)))
  .nil) .nil)
  (.cons (.ret (.tup (.cons (.lit (.str "sets")) (.cons (.var 3) (.cons (.blt .tuple .v (.cons (.var 2) .nil)) (.cons (.idx (.var 4) (.call 7 [] (.cons (.var 0) (.cons (.blt .len .v (.cons (.var 4) .nil)) .nil)))) .nil))))))
  .nil))))
noncomputable def G_l_drawn : Gam := gf [(7, F_l_take)]
noncomputable def F_l_drawn : FnI := runF G_l_drawn .frz 2 4 c_l_drawn
@[simp] theorem g_l_drawn_l_take : G_l_drawn.fn 7 = some F_l_take := (rfl)

/-- _law_good -/
def b_l_good_v6_0 : E := (.call 86 [] (.cons (.var 8) .nil))
def b_l_good_v6_1 : Ss := (.cons (.set 6 (.call 83 [] (.cons (.var 0) (.cons (.var 1) (.cons (.var 2) .nil)))))
  (.cons (.iff (.or (.not (.val (.isi (.var 6) [.bool]))) (.val (.cmp .ne (.var 6) (.cmp .isnone (.var 4) (.lit .none))))) (.cons (.ret (.lit (.bool false)))
  .nil) .nil)
  (.cons (.set 7 (.call 82 [] (.cons (.var 0) (.cons (.var 1) (.cons (.var 2) .nil)))))
  (.cons (.iff (.or (.val (.cmp .ne (.var 7) (.var 4))) (.and (.val (.cmp .notnone (.var 4) (.lit .none))) (.not (.val (.isi (.var 7) [.tuple]))))) (.cons (.ret (.lit (.bool false)))
  .nil) .nil)
  (.cons (.iff (.and (.val (.cmp .notnone (.var 4) (.lit .none))) (.not (.val (.blt .all .v (.cons (.lc .v [8] (.one 8) (.seq (.var 7)) .no b_l_good_v6_0) .nil))))) (.cons (.ret (.lit (.bool false)))
  .nil) .nil)
  .nil)))))
def c_l_good_v6 : Ss := (.cons (.set 3 (.blt .repr .v (.cons (.lst .v (.cons (.var 0) (.cons (.var 1) .nil))) .nil)))
  (.cons (.set 4 (.call 94 [] (.cons (.var 0) (.cons (.var 1) (.cons (.var 2) .nil)))))
  (.cons (.fr true (.one 5) (.rng1 (.lit (.int 2))) b_l_good_v6_1)
  (.cons (.ret (.cmp .eq (.blt .repr .v (.cons (.lst .v (.cons (.var 0) (.cons (.var 1) .nil))) .nil)) (.var 3)))
  .nil))))
noncomputable def G_l_good_v6 : Gam := gf [(86, F_l_whole), (82, F_broken_by), (83, F_keeps), (94, F_l_first)]
noncomputable def F_l_good_v6 : FnI := runF G_l_good_v6 .frz 3 6 c_l_good_v6
@[simp] theorem g_l_good_v6_l_whole : G_l_good_v6.fn 86 = some F_l_whole := (rfl)
@[simp] theorem g_l_good_v6_broken_by : G_l_good_v6.fn 82 = some F_broken_by := (rfl)
@[simp] theorem g_l_good_v6_keeps : G_l_good_v6.fn 83 = some F_keeps := (rfl)
@[simp] theorem g_l_good_v6_l_first : G_l_good_v6.fn 94 = some F_l_first := (rfl)

/-- _law_listed -/
def b_l_listed_0 : E := (.idx (.var 5) (.bm .index (.idx (.idx (.var 0) (.var 4)) (.lit (.int 1))) (.cons (.var 3) .nil)))
def b_l_listed_1 : Ss := (.cons (.iff (.val (.cmp .eq (.idx (.idx (.var 0) (.var 4)) (.lit (.int 0))) (.var 2))) (.cons (.ret (.lc .v [5] (.one 5) (.seq (.idx (.var 1) (.var 4))) .no b_l_listed_0))
  .nil) .nil)
  .nil)
def c_l_listed : Ss := (.cons (.fr true (.one 4) (.rng1 (.blt .len .v (.cons (.var 0) .nil))) b_l_listed_1)
  (.cons (.ret (.lst .v .nil))
  .nil))
noncomputable def G_l_listed : Gam := gf []
noncomputable def F_l_listed : FnI := runF G_l_listed .frz 4 2 c_l_listed

/-- _law_count -/
def b_l_count_0 : To := (.some (.val (.cmp .notin (.idx (.var 0) (.var 1)) (.slc .v (.var 0) .no (.some (.var 1))))))
def b_l_count_1 : E := (.var 1)
def c_l_count : Ss := (.cons (.ret (.blt .len .v (.cons (.lc .v [1] (.one 1) (.rng1 (.blt .len .v (.cons (.var 0) .nil))) b_l_count_0 b_l_count_1) .nil)))
  .nil)
noncomputable def G_l_count : Gam := gf []
noncomputable def F_l_count : FnI := runF G_l_count .frz 1 1 c_l_count

/-- _law_due -/
def b_l_due_v2_0 : Ss := (.cons (.iff (.val (.cmp .notin (.idx (.var 3) (.var 5)) (.var 4))) (.cons (.ret (.tup (.cons (.var 5) .nil)))
  .nil) .nil)
  .nil)
def c_l_due_v2 : Ss := (.cons (.set 3 (.call 98 [] (.cons (.var 0) (.cons (.var 1) (.cons (.idx (.var 2) (.lit (.int 1))) (.cons (.idx (.var 2) (.lit (.int 2))) .nil))))))
  (.cons (.set 4 (.call 98 [] (.cons (.var 0) (.cons (.var 1) (.cons (.idx (.var 2) (.lit (.int 3))) (.cons (.idx (.var 2) (.lit (.int 4))) .nil))))))
  (.cons (.iff (.val (.cmp .eq (.idx (.var 2) (.lit (.int 0))) (.lit (.str "many")))) (.cons (.iff (.val (.cmp .ge (.call 99 [] (.cons (.var 3) .nil)) (.call 99 [] (.cons (.var 4) .nil)))) (.cons (.ret (.lit .none))
  .nil) .nil)
  (.cons (.ret (.tup (.cons (.call 99 [] (.cons (.var 3) .nil)) (.cons (.call 99 [] (.cons (.var 4) .nil)) .nil))))
  .nil)) .nil)
  (.cons (.fr true (.one 5) (.rng1 (.blt .len .v (.cons (.var 3) .nil))) b_l_due_v2_0)
  (.cons (.ret (.lit .none))
  .nil)))))
noncomputable def G_l_due_v2 : Gam := gf [(99, F_l_count), (98, F_l_listed)]
noncomputable def F_l_due_v2 : FnI := runF G_l_due_v2 .frz 3 3 c_l_due_v2
@[simp] theorem g_l_due_v2_l_count : G_l_due_v2.fn 99 = some F_l_count := (rfl)
@[simp] theorem g_l_due_v2_l_listed : G_l_due_v2.fn 98 = some F_l_listed := (rfl)

/-- _law_good -/
def b_l_good_v7_0 : E := (.call 86 [] (.cons (.var 10) .nil))
def b_l_good_v7_1 : Ss := (.cons (.set 8 (.call 83 [] (.cons (.var 0) (.cons (.var 1) (.cons (.var 2) .nil)))))
  (.cons (.iff (.or (.not (.val (.isi (.var 8) [.bool]))) (.val (.cmp .ne (.var 8) (.cmp .isnone (.var 4) (.lit .none))))) (.cons (.ret (.lit (.bool false)))
  .nil) .nil)
  (.cons (.set 9 (.call 82 [] (.cons (.var 0) (.cons (.var 1) (.cons (.var 2) .nil)))))
  (.cons (.iff (.or (.val (.cmp .ne (.var 9) (.var 4))) (.and (.val (.cmp .notnone (.var 4) (.lit .none))) (.not (.val (.isi (.var 9) [.tuple]))))) (.cons (.ret (.lit (.bool false)))
  .nil) .nil)
  (.cons (.iff (.and (.val (.cmp .notnone (.var 4) (.lit .none))) (.not (.val (.blt .all .v (.cons (.lc .v [10] (.one 10) (.seq (.var 9)) .no b_l_good_v7_0) .nil))))) (.cons (.ret (.lit (.bool false)))
  .nil) .nil)
  .nil)))))
def c_l_good_v7 : Ss := (.cons (.set 3 (.blt .repr .v (.cons (.lst .v (.cons (.var 0) (.cons (.var 1) .nil))) .nil)))
  (.cons (.set 4 (.call 100 [] (.cons (.var 0) (.cons (.var 1) (.cons (.var 2) .nil)))))
  (.cons (.fr true (.one 5) (.rng1 (.lit (.int 2))) b_l_good_v7_1)
  (.cons (.set 6 (.call 78 [] (.cons (.var 0) (.cons (.var 1) (.cons (.idx (.var 2) (.lit (.int 1))) (.cons (.idx (.var 2) (.lit (.int 2))) .nil))))))
  (.cons (.set 7 (.call 98 [] (.cons (.var 0) (.cons (.var 1) (.cons (.idx (.var 2) (.lit (.int 1))) (.cons (.idx (.var 2) (.lit (.int 2))) .nil))))))
  (.cons (.ret (.and (.call 86 [] (.cons (.var 6) .nil)) (.and (.cmp .eq (.var 6) (.call 99 [] (.cons (.var 7) .nil))) (.cmp .eq (.blt .repr .v (.cons (.lst .v (.cons (.var 0) (.cons (.var 1) .nil))) .nil)) (.var 3)))))
  .nil))))))
noncomputable def G_l_good_v7 : Gam := gf [(99, F_l_count), (86, F_l_whole), (98, F_l_listed), (78, F_value_count), (82, F_broken_by), (83, F_keeps), (100, F_l_due_v2)]
noncomputable def F_l_good_v7 : FnI := runF G_l_good_v7 .frz 3 8 c_l_good_v7
@[simp] theorem g_l_good_v7_l_count : G_l_good_v7.fn 99 = some F_l_count := (rfl)
@[simp] theorem g_l_good_v7_l_whole : G_l_good_v7.fn 86 = some F_l_whole := (rfl)
@[simp] theorem g_l_good_v7_l_listed : G_l_good_v7.fn 98 = some F_l_listed := (rfl)
@[simp] theorem g_l_good_v7_value_count : G_l_good_v7.fn 78 = some F_value_count := (rfl)
@[simp] theorem g_l_good_v7_broken_by : G_l_good_v7.fn 82 = some F_broken_by := (rfl)
@[simp] theorem g_l_good_v7_keeps : G_l_good_v7.fn 83 = some F_keeps := (rfl)
@[simp] theorem g_l_good_v7_l_due_v2 : G_l_good_v7.fn 100 = some F_l_due_v2 := (rfl)

end Fk
namespace Fk
open PySem
/-- _law_database -/
def b_l_database_v2_0 : E := (.bin .mul .v (.bin .sub .v (.call 7 [] (.cons (.var 0) (.cons (.lit (.int 4)) .nil))) (.lit (.int 1))) (.var 2))
def b_l_database_v2_1 : Ss := (.cons (.set 8 (.blt .tuple .v (.cons (.lc .v [9] (.one 9) (.seq (.var 5)) .no b_l_database_v2_0) .nil)))
  (.cons (.iff (.val (.cmp .notin (.var 8) (.var 6))) (.cons (.expr (.bm .append (.var 6) (.cons (.var 8) .nil)))
  .nil) .nil)
  .nil))
def b_l_database_v2_2 : Ss := (.cons (.set 6 (.lst .c .nil))
  (.cons (.fr true (.one 7) (.rng1 (.call 7 [] (.cons (.var 0) (.cons (.lit (.int 6)) .nil)))) b_l_database_v2_1)
  (.cons (.expr (.bm .append (.var 3) (.cons (.var 6) .nil)))
  .nil)))
def c_l_database_v2 : Ss := (.cons (.set 2 (.idx (.lst .v (.cons (.lit (.int 1)) (.cons (.lit (.int 1)) (.cons (.lit (.int 1)) (.cons (.bin .sub .v (.bin .pow .v (.lit (.int 10)) (.lit (.int 29))) (.lit (.int 7))) .nil))))) (.call 7 [] (.cons (.var 0) (.cons (.lit (.int 4)) .nil)))))
  (.cons (.set 3 (.lst .c .nil))
  (.cons (.fr false (.tup [4, 5]) (.seq (.var 1)) b_l_database_v2_2)
  (.cons (.ret (.var 3))
  .nil))))
noncomputable def G_l_database_v2 : Gam := gf [(7, F_l_take)]
noncomputable def F_l_database_v2 : FnI := runF G_l_database_v2 .frz 2 8 c_l_database_v2
@[simp] theorem g_l_database_v2_l_take : G_l_database_v2.fn 7 = some F_l_take := (rfl)

/-- law -/
def b_law_k06_v2_0 : E := (.bin .sub .v (.call 7 [] (.cons (.var 4) (.cons (.lit (.int 5)) .nil))) (.lit (.int 1)))
def b_law_k06_v2_1 : E := (.blt .list .c (.cons (.var 12) .nil))
def b_law_k06_v2_2 : Ss := (.cons (.set 6 (.idx (.var 3) (.call 7 [] (.cons (.var 4) (.cons (.blt .len .v (.cons (.var 3) .nil)) .nil)))))
  (.cons (.set 7 (.idx (.var 3) (.call 7 [] (.cons (.var 4) (.cons (.blt .len .v (.cons (.var 3) .nil)) .nil)))))
  (.cons (.set 8 (.bin .add .v (.bin .add .v (.tup (.cons (.idx (.lst .v (.cons (.lit (.str "within")) (.cons (.lit (.str "many")) .nil))) (.call 7 [] (.cons (.var 4) (.cons (.lit (.int 2)) .nil)))) .nil)) (.var 6)) (.var 7)))
  (.cons (.iff (.not (.val (.call 101 [] (.cons (.var 1) (.cons (.var 2) (.cons (.var 8) .nil)))))) (.cons (.ret (.lit (.bool false)))
  .nil) .nil)
  (.cons (.set 9 (.lc .c [12] (.one 12) (.seq (.var 2)) .no b_law_k06_v2_1))
  (.cons (.iff (.not (.val (.callB 101 [] (.cons (.var 1) (.cons (.var 9) (.cons (.var 8) .nil)))))) (.cons (.ret (.lit (.bool false)))
  .nil) .nil)
  (.cons (.set 10 (.call 7 [] (.cons (.var 4) (.cons (.blt .len .v (.cons (.var 9) .nil)) .nil))))
  (.cons (.set 11 (.blt .tuple .v (.cons (.lc .v [13] (.one 13) (.seq (.idx (.idx (.var 1) (.var 10)) (.lit (.int 1)))) .no b_law_k06_v2_0) .nil)))
  (.cons (.iff (.val (.cmp .notin (.var 11) (.idx (.var 9) (.var 10)))) (.cons (.expr (.bm .insert (.idx (.var 9) (.var 10)) (.cons (.call 7 [] (.cons (.var 4) (.cons (.bin .add .v (.blt .len .v (.cons (.idx (.var 9) (.var 10)) .nil)) (.lit (.int 1))) .nil))) (.cons (.var 11) .nil))))
  .nil) .nil)
  (.cons (.iff (.not (.val (.callB 101 [] (.cons (.var 1) (.cons (.var 9) (.cons (.var 8) .nil)))))) (.cons (.ret (.lit (.bool false)))
  .nil) .nil)
  .nil))))))))))
def c_law_k06_v2 : Ss := (.cons (.set 1 (.call 9 [] (.cons (.call 6 [] (.cons (.var 0) (.cons (.lit (.int 0)) .nil))) .nil)))
  (.cons (.set 2 (.call 121 [] (.cons (.call 6 [] (.cons (.var 0) (.cons (.lit (.int 3)) .nil))) (.cons (.var 1) .nil))))
  (.cons (.set 3 (.call 10 [] (.cons (.var 1) .nil)))
  (.cons (.set 4 (.call 6 [] (.cons (.var 0) (.cons (.lit (.int 2)) .nil))))
  (.cons (.fr true (.one 5) (.rng1 (.lit (.int 12))) b_law_k06_v2_2)
  (.cons (.ret (.lit (.bool true)))
  .nil))))))
noncomputable def G_law_k06_v2 : Gam := gf [(101, F_l_good_v7), (7, F_l_take), (6, F_l_pile), (10, F_l_pairs), (121, F_l_database_v2), (9, F_l_scheme)]
noncomputable def F_law_k06_v2 : FnI := runF G_law_k06_v2 .frz 1 13 c_law_k06_v2
@[simp] theorem g_law_k06_v2_l_good_v7 : G_law_k06_v2.fn 101 = some F_l_good_v7 := (rfl)
@[simp] theorem g_law_k06_v2_l_take : G_law_k06_v2.fn 7 = some F_l_take := (rfl)
@[simp] theorem g_law_k06_v2_l_pile : G_law_k06_v2.fn 6 = some F_l_pile := (rfl)
@[simp] theorem g_law_k06_v2_l_pairs : G_law_k06_v2.fn 10 = some F_l_pairs := (rfl)
@[simp] theorem g_law_k06_v2_l_database_v2 : G_law_k06_v2.fn 121 = some F_l_database_v2 := (rfl)
@[simp] theorem g_law_k06_v2_l_scheme : G_law_k06_v2.fn 9 = some F_l_scheme := (rfl)

end Fk
/-! SpDb: databases. -/
namespace Fk
open PySem
abbrev Rows := List (List Int)
abbrev Db := List Rows
def encRows (rows : Rows) : D := .list (rows.map tupI)
def encDb (db : Db) : D := .list (db.map encRows)
structure RowsOk (w : Nat) (rows : Rows) : Prop where
  w : ∀ r ∈ rows, r.length = w
  nd : rows.Nodup
  l : rows.length ≤ 10
  v : ∀ r ∈ rows, ∀ x ∈ r, x.natAbs.log2 < 1900
structure DbOk (s : Scm) (db : Db) : Prop where
  l : db.length = s.length
  r : ∀ (i : Nat) (t : Str × List Str) (rows : Rows), s[i]? = some t → db[i]? = some rows → RowsOk t.2.length rows
def isInt : D → Bool
  | .int _ => true
  | _ => false
def isRow (w : Nat) : D → Bool
  | .tuple xs => xs.length == w && xs.all isInt
  | _ => false
def isRows (w : Nat) : D → Bool
  | .list rs => rs.all (isRow w) && (nub rs).length == rs.length
  | _ => false
def isDb (s : Scm) : D → Bool
  | .list ts => ts.length == s.length && (ts.zip s).all fun q => isRows q.2.2.length q.1
  | _ => false
/-- few enough for a set -/
def Few : D → Prop
  | .list rs => rs.length < 64
  | _ => True
def Few2 : D → Prop
  | .list ts => ∀ t ∈ ts, Few t
  | _ => True
theorem sp_is_whole {n : Nat} {M : Mem} {x : D} (hx : ∀ kv, x ≠ .dict kv) : F_is_whole.run n [.d x] M = .ok (.d (.bool (isInt x))) M := by
  cases x with
  | dict kv => exact absurd rfl (hx kv)
  | _ => simp [F_is_whole, c_is_whole, List.replicate, isiV, isInt]
theorem fit_nodict {k : Nat} {x : D} (h : Fit k x) : ∀ kv, x ≠ .dict kv := fun kv e => by subst e; cases k <;> cases h
theorem sp_is_row {n k w : Nat} {M : Mem} {x : D} (hx : Fit k x) : F_is_row.run n [.d x, .d (.int (w : Int))] M = .ok (.d (.bool (isRow w x))) M := by
  cases x with
  | tuple xs =>
    obtain ⟨k, rfl⟩ : ∃ j, k = j + 1 := by cases k with | zero => cases hx | succ j => exact ⟨j, rfl⟩
    by_cases hl : xs.length = w
    · have e : ((xs.length : Int) == (w : Int)) = true := by simp; omega
      have e2 : (xs.length == w) = true := by simpa using hl
      simp [F_is_row, c_is_row, List.replicate, e]
      generalize hF : foldC _ _ _ _ _ = o
      cases lc_map hF (fun x => .bool (isInt x)) (by
        intro y hy
        simp [b_is_row_0, sp_is_whole (fit_nodict (hx.2 y hy))])
      simp [isRow, e2, Function.comp_def, List.all_map]
    · have e : ((xs.length : Int) == (w : Int)) = false := by simp; omega
      have e2 : (xs.length == w) = false := by simpa using hl
      simp [F_is_row, c_is_row, List.replicate, e, isRow, e2]
  | dict kv => cases k <;> cases hx
  | _ => simp [F_is_row, c_is_row, List.replicate, isiV, isRow]
theorem row_ints : ∀ {xs : List D}, xs.all isInt = true → ∃ k : List Int, xs = k.map .int
  | [], _ => ⟨[], rfl⟩
  | x :: r, h => by
    rw [List.all_cons, Bool.and_eq_true] at h
    obtain ⟨k, rfl⟩ := row_ints h.2
    cases x with
    | int i => exact ⟨i :: k, rfl⟩
    | _ => cases h.1
theorem isRow_ex {w : Nat} {x : D} (h : isRow w x = true) : ∃ k, x = tupI k ∧ k.length = w := by
  cases x with
  | tuple xs =>
    simp only [isRow, Bool.and_eq_true, beq_iff_eq] at h
    obtain ⟨k, rfl⟩ := row_ints h.2
    exact ⟨k, rfl, by simpa using h.1⟩
  | _ => cases h
theorem rows_ex {w : Nat} : ∀ {rs : List D}, rs.all (isRow w) = true → ∃ rows : Rows, rs = rows.map tupI ∧ ∀ r ∈ rows, r.length = w
  | [], _ => ⟨[], rfl, by simp⟩
  | x :: r, h => by
    rw [List.all_cons, Bool.and_eq_true] at h
    obtain ⟨rows, rfl, h2⟩ := rows_ex h.2
    obtain ⟨k, rfl, h1⟩ := isRow_ex h.1
    exact ⟨k :: rows, rfl, by simpa using ⟨h1, h2⟩⟩
theorem tupsI_some (rows : Rows) : tupsI (rows.map tupI) = some rows := by
  have hI : ∀ k : List Int, intsL (k.map .int) = some k := fun k => by
    induction k with
    | nil => rfl
    | cons i r ih => simp [intsL, ih]
  induction rows with
  | nil => rfl
  | cons k r ih => simp [tupsI, tupI, hI]; simpa [tupI] using ih
theorem lsOk_rows {rows : Rows} (h : rows.length < 64) : lsOk (rows.map tupI) = true := by
  simp [lsOk, tupsI_some, h]
theorem nub_rows (rows : Rows) : (nub (rows.map tupI)).length = (dd rows).length := by rw [nub_map eqv_tupI, List.length_map]
theorem sp_are_rows {n k w : Nat} {M : Mem} {x : D} (hx : Fit k x) (hf : Few x) : F_are_rows.run n [.d x, .d (.int (w : Int))] M = .ok (.d (.bool (isRows w x))) M := by
  cases x with
  | list rs =>
    obtain ⟨k, rfl⟩ : ∃ j, k = j + 1 := by cases k with | zero => cases hx | succ j => exact ⟨j, rfl⟩
    simp [F_are_rows, c_are_rows, List.replicate]
    generalize hF : foldC _ _ _ _ _ = o
    cases lc_map hF (fun x => .bool (isRow w x)) (by
      intro y hy
      simp [b_are_rows_0, sp_is_row (hx.2 y hy)])
    by_cases ha : rs.all (isRow w) = true
    · obtain ⟨rows, rfl, hw⟩ := rows_ex ha
      have hl : rows.length < 64 := by simpa [Few] using hf
      have l1 : listD M (.d (.list (rows.map tupI))) = some (rows.map tupI) := allD_map _
      have e : (((nub (rows.map tupI)).length : Int) == (rows.length : Int)) = ((nub (rows.map tupI)).length == rows.length) := by
        rw [Bool.eq_iff_iff]; simp; omega
      simp only [List.all_map, Function.comp_def] at ha
      simp [isRows, Function.comp_def, List.all_map, ha, l1, lsOk_rows hl, e]
    · simp [isRows, Function.comp_def, List.all_map, ha]
  | dict kv => cases k <;> cases hx
  | _ => simp [F_are_rows, c_are_rows, List.replicate, isiV, isRows]
theorem zips_map (xs ys : List D) : zips xs ys = (xs.zip ys).map fun q => Itm.t [q.1, q.2] := by
  unfold zips
  rw [List.zip, List.map_zipWith]
theorem zips_S (ts : List D) (s : Scm) : zips ts (s.map encT) = (ts.zip s).map fun q => Itm.t [q.1, encT q.2] := by
  rw [zips_map, List.zip_map_right, List.map_map]; rfl
theorem zip_at {G : Gam} {n : Nat} {ρ : Slots} {M : Mem} {a b : E} {xs ys : List D} (ha : ev G n ρ M a = .ok (.d (.list xs)) M) (hb : ev G n ρ M b = .ok (.d (.list ys)) M) (hl : xs.length ≤ lim) : evI G n ρ M (.zip a b) = .ok (zips xs ys, none) M := by
  simp only [evI_zip, ha, hb, Out.bind_ok, hl, if_true]
theorem sp_is_right_database {n k : Nat} {M : Mem} {s : Scm} {x : D} (h : ScmOk s) (hx : Fit k x) (hf : Few2 x) : F_is_right_database.run n [.d (encS s), .d x] M = .ok (.d (.bool (isDb s x))) M := by
  have hs3 := h.l3
  cases x with
  | list ts =>
    obtain ⟨k, rfl⟩ : ∃ j, k = j + 1 := by cases k with | zero => cases hx | succ j => exact ⟨j, rfl⟩
    have hf : ∀ t ∈ ts, Few t := hf
    by_cases hl : ts.length = s.length
    · have e : ((ts.length : Int) == (s.length : Int)) = true := by simp; omega
      have e2 : (ts.length == s.length) = true := by simpa using hl
      have lS : ∀ M : Mem, lenV M (.d (encS s)) = some s.length := fun M => len_S s
      have hlim : ts.length ≤ lim := by unfold lim; omega
      have z : evI G_is_right_database M.length [some (.d (encS s)), some (.d (.list ts)), none, none] M (.zip (.var 1) (.var 0)) = Out.ok ((ts.zip s).map fun q : D × (Str × List Str) => Itm.t [q.1, encT q.2], (none : Option Nat)) M := by
        rw [← zips_S]
        exact zip_at (by simp) (by simp [encS]) hlim
      simp [-evI_zip, F_is_right_database, c_is_right_database, List.replicate, lS, e, z]
      generalize hF : foldC _ _ _ _ _ = o
      cases lc_map hF (fun q => .bool (isRows q.2.2.length q.1)) (by
        rintro ⟨y, t⟩ hq
        have hy : y ∈ ts := (List.of_mem_zip hq).1
        have i1 : ∀ M : Mem, idxV M (.d (encT t)) (.d (.int 1)) = some (.d (.tuple (t.2.map .str))) := fun M => by
          show idxV M (.d (.tuple [.str t.1, .tuple (t.2.map .str)])) _ = _
          simp [ixN]
        simp [b_is_right_database_0, i1, sp_are_rows (hx.2 y hy) (hf y hy)])
      simp [isDb, e2, Function.comp_def, List.all_map]
    · have e : ((ts.length : Int) == (s.length : Int)) = false := by simp; omega
      have e2 : (ts.length == s.length) = false := by simpa using hl
      have lS : ∀ M : Mem, lenV M (.d (encS s)) = some s.length := fun M => len_S s
      simp [F_is_right_database, c_is_right_database, List.replicate, lS, e, isDb, e2]
  | dict kv => cases k <;> cases hx
  | _ => simp [F_is_right_database, c_is_right_database, List.replicate, isiV, isDb]
/-- a typed database is one -/
theorem rowsOk_is {w : Nat} {rows : Rows} (h : RowsOk w rows) : isRows w (encRows rows) = true := by
  have hw := h.w
  simp only [isRows, encRows, Bool.and_eq_true, List.all_map, List.all_eq_true, Function.comp_apply, beq_iff_eq]
  refine ⟨fun r hr => ?_, by rw [nub_rows, dd_of h.nd, List.length_map]⟩
  simp only [tupI, isRow, Bool.and_eq_true, beq_iff_eq, List.length_map, List.all_map, List.all_eq_true]
  exact ⟨hw r hr, fun _ _ => rfl⟩
theorem dbOk_is {s : Scm} {db : Db} (h : DbOk s db) : isDb s (encDb db) = true := by
  simp only [isDb, encDb, Bool.and_eq_true, beq_iff_eq, List.length_map, List.all_eq_true]
  refine ⟨h.l, ?_⟩
  rintro ⟨x, t⟩ hq
  obtain ⟨i, hi⟩ := List.getElem?_of_mem hq
  rw [List.getElem?_zip_eq_some] at hi
  obtain ⟨h1, h2⟩ := hi
  rw [List.getElem?_map, Option.map_eq_some_iff] at h1
  obtain ⟨rows, h3, rfl⟩ := h1
  exact rowsOk_is (h.r i t rows h2 h3)
theorem fit_row {r : List Int} (hl : r.length ≤ 100) (n : Nat) : Fit (n + 1) (tupI r) := ⟨by simp; unfold lim; omega, fun x hx => by
  obtain ⟨i, _, rfl⟩ := List.mem_map.mp hx
  simp⟩
theorem DbOk.cols {s : Scm} {db : Db} (hs : ScmOk s) (h : DbOk s db) {rows : Rows} (hr : rows ∈ db) : ∃ t ∈ s, RowsOk t.2.length rows ∧ t.2.length ≤ 5 := by
  obtain ⟨i, hi⟩ := List.getElem?_of_mem hr
  have hlt : i < s.length := by rw [← h.l]; exact (List.getElem?_eq_some_iff.mp hi).1
  have ht := List.getElem?_eq_getElem hlt
  exact ⟨s[i], List.getElem_mem hlt, h.r i _ rows ht hi, (hs.ts _ (List.getElem_mem hlt)).l5⟩
theorem fit_rows {s : Scm} {db : Db} (hs : ScmOk s) (h : DbOk s db) {rows : Rows} (hr : rows ∈ db) (n : Nat) : Fit (n + 2) (encRows rows) := by
  obtain ⟨t, ht, ok, h5⟩ := h.cols hs hr
  refine ⟨by have := ok.l; simp; unfold lim; omega, fun x hx => ?_⟩
  obtain ⟨r, hr', rfl⟩ := List.mem_map.mp hx
  exact fit_row (by have := ok.w r hr'; omega) n
theorem DbOk.fit {s : Scm} {db : Db} (hs : ScmOk s) (h : DbOk s db) (n : Nat) : Fit (n + 3) (encDb db) := by
  have := hs.l3
  have hl := h.l
  refine ⟨by simp; unfold lim; omega, fun x hx => ?_⟩
  obtain ⟨rows, hr, rfl⟩ := List.mem_map.mp hx
  exact fit_rows hs h hr n
theorem DbOk.few {s : Scm} {db : Db} (hs : ScmOk s) (h : DbOk s db) : Few2 (encDb db) := fun x hx => by
  obtain ⟨rows, hr, rfl⟩ := List.mem_map.mp hx
  obtain ⟨t, ht, ok, h5⟩ := h.cols hs hr
  have := ok.l
  show (rows.map tupI).length < 64
  simp; omega
theorem sp_look_at_database {n : Nat} {M : Mem} {s : Scm} {db : Db} (hs : ScmOk s) (h : DbOk s db) : F_look_at_database.run n [.d (encS s), .d (encDb db)] M = .ok (.d .none) M := by
  simp [F_look_at_database, c_look_at_database, List.replicate, sp_is_right_database hs (h.fit hs 0) (h.few hs), dbOk_is h]
theorem sp_look_at_dependency {n : Nat} {M : Mem} {s : Scm} {d : Dep} (hs : ScmOk s) (hd : DepOk s d) : F_look_at_dependency.run n [.d (encS s), .d (encD d)] M = .ok (.d .none) M := by
  simp [F_look_at_dependency, c_look_at_dependency, List.replicate, sp_is_right_ok hs hd]
/-! ### rows and values -/
def rowsIn (s : Scm) (db : Db) (t : Str) : Rows := (((s.zip db).find? fun q => q.1.1 == t).map (·.2)).getD []
theorem rowsIn_at {s : Scm} {db : Db} (hs : ScmOk s) (h : DbOk s db) {t : Str} {cols : List Str} (ht : (t, cols) ∈ s) : ∃ i : Nat, s[i]? = some (t, cols) ∧ db[i]? = some (rowsIn s db t) := by
  obtain ⟨i, hi⟩ := List.getElem?_of_mem ht
  have hlt : i < db.length := by rw [h.l]; exact (List.getElem?_eq_some_iff.mp hi).1
  refine ⟨i, hi, ?_⟩
  have key : ∀ (s : Scm) (db : Db) (i : Nat), (s.map (·.1)).Nodup → s[i]? = some (t, cols) → (hlt : i < db.length) → ((((s.zip db).find? fun q => q.1.1 == t).map (·.2)).getD []) = db[i] := by
    intro s
    induction s with
    | nil => intro db i _ h; simp at h
    | cons u r ih =>
      intro db i hn hi hlt
      cases db with
      | nil => simp at hlt
      | cons d rd =>
        rw [List.map_cons, List.nodup_cons] at hn
        cases i with
        | zero =>
          simp at hi; subst hi
          simp
        | succ i =>
          have hi' : r[i]? = some (t, cols) := by simpa using hi
          have hm : t ∈ r.map (·.1) := List.mem_map.mpr ⟨_, List.mem_of_getElem? hi', rfl⟩
          have hne : (u.1 == t) = false := by
            rw [beq_eq_false_iff_ne]; rintro rfl; exact hn.1 hm
          have := ih rd i hn.2 hi' (by simpa using hlt)
          simp only [List.zip_cons_cons, List.find?_cons, hne, List.getElem_cons_succ]
          exact this
  rw [List.getElem?_eq_getElem hlt]
  exact congrArg some (key s db i hs.nd hi hlt).symm
theorem rowsIn_ok {s : Scm} {db : Db} (hs : ScmOk s) (h : DbOk s db) {t : Str} {cols : List Str} (ht : (t, cols) ∈ s) : RowsOk cols.length (rowsIn s db t) := by
  obtain ⟨i, h1, h2⟩ := rowsIn_at hs h ht
  exact h.r i _ _ h1 h2
theorem sp_rows_in {n : Nat} {M : Mem} {s : Scm} {db : Db} {t : Str} {cols : List Str} (hs : ScmOk s) (h : DbOk s db) (ht : (t, cols) ∈ s) : F_rows_in.run n [.d (encS s), .d (encDb db), .d (.str t)] M = .ok (.d (encRows (rowsIn s db t))) M := by
  have hk := nm_strOk (hs.nm1 ht)
  have hs3 := hs.l3
  have z : evI G_rows_in M.length [some (.d (encS s)), some (.d (encDb db)), some (.d (.str t)), none, none] M (.zip (.var 0) (.var 1)) = Out.ok ((s.zip db).map fun q : (Str × List Str) × Rows => Itm.t [encT q.1, encRows q.2], (none : Option Nat)) M := by
    have e : zips (s.map encT) (db.map encRows) = (s.zip db).map fun q : (Str × List Str) × Rows => Itm.t [encT q.1, encRows q.2] := by rw [zips_map, List.zip_map, List.map_map]; rfl
    rw [← e]
    exact zip_at (by simp [encS]) (by simp [encDb]) (by simp; unfold lim; omega)
  simp [-evI_zip, F_rows_in, c_rows_in, List.replicate, z]
  generalize hF : foldS _ _ _ _ _ _ _ = o
  have key := for_any hF (fun pre ρ M1 => M1 = M ∧ (∃ o3 o4 : Option Val, ρ = [some (.d (encS s)), some (.d (encDb db)), some (.d (.str t)), o3, o4]) ∧ ∀ q ∈ pre, q.1.1 ≠ t) (fun v M1 => M1 = M ∧ v = .d (encRows (rowsIn s db t))) (fun _ _ => False)
    ⟨rfl, ⟨none, none, rfl⟩, by simp⟩ (by
    rintro pre ⟨u, rows⟩ post ρ M1 hx ⟨rfl, ⟨o3, o4, rfl⟩, hne⟩
    have hu : u ∈ s := (List.of_mem_zip (show (u, rows) ∈ s.zip db by rw [hx]; simp)).1
    have hT' : encT u = .tuple [.str u.1, .tuple (u.2.map .str)] := rfl
    have hk2 := nm_strOk (hs.ts u hu).n
    by_cases he : u.1 = t
    · have : rowsIn s db t = rows := by
        unfold rowsIn
        rw [hx, List.find?_append, List.find?_eq_none.mpr fun q hq => by simpa using hne q hq]
        simp [he]
      simp [b_rows_in_0, hT', ixN, cmp_eq, hk, hk2, he, this]
    · simp [b_rows_in_0, hT', ixN, cmp_eq, hk, hk2, he]
      intro a b c hm
      rcases hm with hm | hm
      · exact fun e => hne _ hm e
      · rintro rfl; exact he (by rw [← hm.1])) 
  rcases anyP_ok key with ⟨ρ', M', rfl, rfl, ⟨o3, o4, rfl⟩, hne⟩ | ⟨v, M', rfl, rfl, rfl⟩ | ⟨e, ρ, M', rfl, q⟩
  · exfalso
    obtain ⟨i, h1, h2⟩ := rowsIn_at hs h ht
    exact hne ((t, cols), rowsIn s db t) (List.mem_of_getElem? (List.getElem?_zip_eq_some.mpr ⟨h1, h2⟩)) rfl
  · simp
  · exact q.elim
def valsIn (s : Scm) (db : Db) (t c : Str) : List Int := (rowsIn s db t).map fun r => r.getD ((colsIn s t).idxOf c) 0
theorem idx_row {M : Mem} {r : List Int} {i : Nat} (h : i < r.length) : idxV M (.d (tupI r)) (.d (.int (i : Int))) = some (.d (.int (r.getD i 0))) := by
  show idxV M (.d (.tuple (r.map .int))) _ = _
  rw [idx_tuple, ixN_nat (by simpa using h)]
  simp [List.getD_eq_getElem?_getD, List.getElem?_eq_getElem h]
theorem index_col {M : Mem} {n : Nat} {s : Scm} {t : Str} {cols : List Str} (hs : ScmOk s) (ht : (t, cols) ∈ s) {c : Str} (hc : c ∈ cols) : bmV .v n .index M (.d (.tuple (cols.map .str))) [.d (.str c)] = .ok (.d (.int (cols.idxOf c : Nat))) M :=
  m_index_t (fun x hx => nm_strOk (hs.nm2 ht hx)) hc
theorem items_rows {M : Mem} (rows : Rows) : itemsOf M (.d (encRows rows)) = some ((rows.map tupI).map .d) := items_list _
theorem sp_values_in {n : Nat} {M : Mem} {s : Scm} {db : Db} {t c : Str} (hs : ScmOk s) (h : DbOk s db) (hc : HasCol s t c) : F_values_in.run n [.d (encS s), .d (encDb db), .d (.str t), .d (.str c)] M = .ok (.d (.list ((valsIn s db t c).map .int))) M := by
  obtain ⟨cols, ht, hm⟩ := hc
  have hk := nm_strOk (hs.nm1 ht)
  have e0 : colsIn s t = cols := colsIn_mem hs ht
  have ok := rowsIn_ok hs h ht
  have ix := fun (n : Nat) (M : Mem) => index_col (n := n) (M := M) hs ht hm
  have hlt : cols.idxOf c < cols.length := List.idxOf_lt_length_iff.mpr hm
  simp [F_values_in, c_values_in, List.replicate, sp_columns_in hs hk, e0, ix, sp_rows_in hs h ht, items_rows, Function.comp_def]
  generalize hF : foldC _ _ _ _ _ = o
  cases lc_map hF (fun r : List Int => .int (r.getD (cols.idxOf c) 0)) (by
    intro r hr
    simp [-idx_tuple, b_values_in_0, idx_row (show cols.idxOf c < r.length by rw [ok.w r hr]; exact hlt)])
  simp [valsIn, e0]
theorem sp_different {n : Nat} {M : Mem} {vs : List Int} (hl : vs.length ≤ 4000) : F_different.run n [.d (.list (vs.map .int))] M = .ok (.d (.int (dd vs).length)) M := by
  have e : intsL (vs.map PyData.int) = some vs := by
    clear hl
    induction vs with
    | nil => rfl
    | cons x r ih => simp [intsL, ih]
  have l1 : listD M (.d (.list (vs.map .int))) = some (vs.map .int) := allD_map _
  have l2 : lsOk (vs.map PyData.int) = true := by simp [lsOk, e, hl]
  have l3 : (nub (vs.map PyData.int)).length = (dd vs).length := by rw [nub_map eqv_intD, List.length_map]
  simp [F_different, c_different, List.replicate, l1, l2, l3]
/-! ### broken -/
/-- what shows it -/
def encO : Option (Nat × Nat) → D
  | none => .none
  | some (i, j) => .tuple [.int i, .int j]
def brkWithin (s : Scm) (db : Db) (t c u d : Str) : Option Nat := (valsIn s db t c).findIdx? fun v => !(decide (v ∈ valsIn s db u d))
def encW : Option Nat → D
  | none => .none
  | some i => .tuple [.int i]
theorem valsIn_len {s : Scm} {db : Db} (hs : ScmOk s) (h : DbOk s db) {t c : Str} (hc : HasCol s t c) : (valsIn s db t c).length ≤ 10 := by
  obtain ⟨cols, ht, hm⟩ := hc
  have := (rowsIn_ok hs h ht).l
  simpa [valsIn] using this
theorem zipIdx_split {α : Type} {vs : List α} {pre post : List (α × Nat)} {v : α} {j : Nat} (h : vs.zipIdx = pre ++ (v, j) :: post) : vs = pre.map (·.1) ++ v :: post.map (·.1) ∧ j = pre.length := by
  constructor
  · have := congrArg (List.map (·.1)) h
    simpa using this
  · have h1 : vs.zipIdx[pre.length]? = some (v, j) := by rw [h]; simp
    rw [List.getElem?_zipIdx] at h1
    cases e : vs[pre.length]? with
    | none => rw [e] at h1; cases h1
    | some x => rw [e] at h1; simp at h1; exact h1.2.symm
theorem idxs_map {α : Type} {f : α → D} {xs : List α} (hl : xs.length ≤ lim) : idxs (xs.map fun x => Val.d (f x)) = some (xs.zipIdx.map fun q => Itm.t [.int (q.2 : Int), f q.1]) := by
  rw [show (xs.map fun x => Val.d (f x)) = (xs.map f).map Val.d by simp, idxs_z (by simpa using hl), List.zipIdx_map, List.map_map]
  rfl
theorem take_L {M : Mem} {c : Cell} : (M ++ [c]).take (M.length + 1) = M ++ [c] := List.take_of_length_le (by simp)
theorem sp_broken_within {n : Nat} {M : Mem} {s : Scm} {db : Db} {t c u d : Str} (hs : ScmOk s) (h : DbOk s db) (h1 : HasCol s t c) (h2 : HasCol s u d) : F_broken_within.run n [.d (encS s), .d (encDb db), .d (encD (.within t c u d))] M = .ok (.d (encW (brkWithin s db t c u d))) M := by
  have l1 := valsIn_len hs h h1
  have l2 := valsIn_len hs h h2
  have v1 := fun (n : Nat) (M : Mem) => sp_values_in (n := n) (M := M) hs h h1
  have v2 := fun (n : Nat) (M : Mem) => sp_values_in (n := n) (M := M) hs h h2
  have hlim : (valsIn s db t c).length ≤ lim := by unfold lim; omega
  have gd : ∀ (kvs : List (D × Val)), (M ++ [Cell.dict kvs])[M.length]? = some (.dict kvs) := fun kvs => get0 rfl
  have hpl : ∀ a : Int, plainK (.int a) = true := fun a => rfl
  have dg : dangle (M.length + 1) (some (.p M.length)) = some (.p M.length) := dangle_p (by omega)
  simp [F_broken_within, c_broken_within, List.replicate, encD, v1, v2, Function.comp_def, idxs_map hlim]
  generalize hF : foldS _ _ _ _ _ _ _ = o
  obtain ⟨ρ', M', rfl, o4, o10, rfl, L, rfl, hLl, hL⟩ := for_lst hF (fun pre ρ M1 => ∃ o4 o10 : Option Val, ρ = [some (.d (encS s)), some (.d (encDb db)), some (.d (.tuple [.str "within", .str t, .str c, .str u, .str d])), some (.p M.length), o4, some (.d (.str "within")), some (.d (.str t)), some (.d (.str c)), some (.d (.str u)), some (.d (.str d)), o10] ∧
      ∃ L : DL Int, M1 = M ++ [.dict (dkL .int L)] ∧ L.length ≤ pre.length ∧ ∀ v, (lkL L v).isSome = true ↔ v ∈ pre)
    ⟨none, none, rfl, [], rfl, by simp, by simp [lkL]⟩ (by
    rintro pre v post ρ M1 hx ⟨o4, o10, rfl, L, rfl, hLl, hL⟩
    have hpre : pre.length ≤ 10 := by
      have := congrArg List.length hx
      simp at this; omega
    have st := fun n : Nat => set_dct (n := n) (v := .d (.bool true)) (gd (dkL .int L)) (dk_plain hpl L v) (by rw [dkL_len]; unfold lim; omega) rfl
    rw [kPut_L eqv_intD] at st
    have e : ∀ c c' : Cell, (M ++ [c]).set M.length c' = M ++ [c'] := fun c c' => set0 rfl
    have d4 : ∀ x : D, dangle (M.length + 1) (some (.d x)) = some (.d x) := fun x => rfl
    simp [b_broken_within_1, st, e, take_L, dg]
    refine ⟨_, rfl, by have := putL_len L v (.d (.bool true)); omega, fun x => ?_⟩
    rw [lk_put]
    by_cases q : v = x
    · simp [q]
    · simp [q, hL, eq_comm])
  have dk : ∀ x : Int, dkOk (dkL PyData.int L) (.int x) = true := fun x => dk_plain hpl L x
  have ni : ∀ x : Int, cmpV.memV (M ++ [.dict (dkL PyData.int L)]) (.d (.int x)) (.p M.length) = some (decide (x ∈ valsIn s db u d)) := fun x => by
    have := in_dct (gd (dkL .int L)) (dk x)
    rw [kLook_L eqv_intD] at this
    rw [show cmpV.memV (M ++ [.dict (dkL PyData.int L)]) (.d (.int x)) (.p M.length) = some (lkL L x).isSome from this]
    congr 1
    rw [Bool.eq_iff_iff, hL, decide_eq_true_eq]
  simp [v1, Function.comp_def, idxs_map hlim]
  generalize hF : foldS _ _ _ _ _ _ _ = o
  have key := for_any hF (fun pre ρ M1 => M1 = M ++ [.dict (dkL .int L)] ∧ (∃ o4 o10 : Option Val, ρ = [some (.d (encS s)), some (.d (encDb db)), some (.d (.tuple [.str "within", .str t, .str c, .str u, .str d])), some (.p M.length), o4, some (.d (.str "within")), some (.d (.str t)), some (.d (.str c)), some (.d (.str u)), some (.d (.str d)), o10]) ∧ ∀ q ∈ pre, q.1 ∈ valsIn s db u d)
    (fun v M1 => M1 = M ++ [.dict (dkL .int L)] ∧ v = .d (encW (brkWithin s db t c u d))) (fun _ _ => False) ⟨rfl, ⟨o4, o10, rfl⟩, by simp⟩ (by
    rintro pre ⟨x, j⟩ post ρ M1 hx ⟨rfl, ⟨o4, o10, rfl⟩, hall⟩
    obtain ⟨e1, e2⟩ := zipIdx_split hx
    by_cases hm : x ∈ valsIn s db u d
    · simp [b_broken_within_0, ni, hm, take_L, dg]
      rintro a b (hab | ⟨rfl, _⟩)
      · exact hall (a, b) hab
      · exact hm
    · have e3 : brkWithin s db t c u d = some j := by
        unfold brkWithin
        rw [e1, e2, List.findIdx?_append, List.findIdx?_eq_none_iff.mpr fun y hy => by
          obtain ⟨q, hq, rfl⟩ := List.mem_map.mp hy
          simpa using hall q hq, List.findIdx?_cons]
        simp [hm]
      simp [b_broken_within_0, ni, hm, allD, e3, encW])
  rcases anyP_ok key with ⟨ρ', M', rfl, rfl, ⟨o4, o10, rfl⟩, hall⟩ | ⟨v, M', rfl, rfl, rfl⟩ | ⟨e, ρ, M', rfl, q⟩
  · have e3 : brkWithin s db t c u d = none := by
      unfold brkWithin
      rw [List.findIdx?_eq_none_iff]
      intro y hy
      obtain ⟨i, hi⟩ := List.getElem?_of_mem hy
      have : (y, i) ∈ (valsIn s db t c).zipIdx := List.mem_of_getElem? (i := i) (by rw [List.getElem?_zipIdx, hi]; simp)
      simpa using hall _ this
    simp [e3, encW]
  · simp
  · exact q.elim
end Fk

/-! SpBest: the first two rows that are not alike. -/
namespace Fk
open PySem
abbrev Prs := List (List Int × Int)
def Cf (P : Prs) (i j : Nat) : Prop := i < j ∧ ∃ k v w, P[i]? = some (k, v) ∧ P[j]? = some (k, w) ∧ v ≠ w
def IsBest (P : Prs) : Option (Nat × Nat) → Prop
  | none => ∀ i j, ¬ Cf P i j
  | some (i, j) => Cf P i j ∧ ∀ i' j', Cf P i' j' → i < i' ∨ (i = i' ∧ j ≤ j')
theorem best_uniq {P : Prs} : ∀ {o o' : Option (Nat × Nat)}, IsBest P o → IsBest P o' → o = o'
  | none, none, _, _ => rfl
  | none, some (i, j), h, h' => absurd h'.1 (h i j)
  | some (i, j), none, h, h' => absurd h.1 (h' i j)
  | some (i, j), some (i', j'), h, h' => by
    have a := h.2 i' j' h'.1
    have b := h'.2 i j h.1
    have : i = i' ∧ j = j' := by omega
    rw [this.1, this.2]
def firstOf (P : Prs) (k : List Int) : Option Nat := P.findIdx? fun q => q.1 == k
def later (o : Option (Nat × Nat)) (i : Nat) : Bool := match o with
  | none => true
  | some q => decide (i < q.1)
def nextB (P : Prs) (o : Option (Nat × Nat)) (q : List Int × Int) : Option (Nat × Nat) := match firstOf P q.1 with
  | none => o
  | some i => if (P.getD i ([], 0)).2 ≠ q.2 ∧ later o i = true then some (i, P.length) else o
theorem first_some {P : Prs} {k : List Int} {i : Nat} (h : firstOf P k = some i) : ∃ v, P[i]? = some (k, v) ∧ ∀ i' v', i' < i → P[i']? ≠ some (k, v') := by
  obtain ⟨hi, h1, h2⟩ := List.findIdx?_eq_some_iff_getElem.mp h
  have e : P[i].1 = k := by simpa using h1
  refine ⟨P[i].2, by rw [List.getElem?_eq_getElem hi, ← e], fun i' v' hlt he => ?_⟩
  obtain ⟨hi', he'⟩ := List.getElem?_eq_some_iff.mp he
  have := h2 i' hlt
  rw [he'] at this
  simp at this
theorem first_none {P : Prs} {k : List Int} (h : firstOf P k = none) : ∀ (i : Nat) (v : Int), P[i]? ≠ some (k, v) := fun i v he => by
  have := List.findIdx?_eq_none_iff.mp h (k, v) (List.mem_of_getElem? he)
  simp at this
theorem first_le {P : Prs} {k : List Int} {i i' : Nat} {v' : Int} (h : firstOf P k = some i) (he : P[i']? = some (k, v')) : i ≤ i' := by
  obtain ⟨_, _, h2⟩ := first_some h
  rcases Nat.lt_or_ge i' i with hlt | hge
  · exact absurd he (h2 i' v' hlt)
  · exact hge
theorem cf_snoc {P : Prs} {q : List Int × Int} {i j : Nat} : Cf (P ++ [q]) i j ↔ Cf P i j ∨ (j = P.length ∧ ∃ v, P[i]? = some (q.1, v) ∧ v ≠ q.2) := by
  constructor
  · rintro ⟨hij, k, v, w, h1, h2, hne⟩
    have hj : j < (P ++ [q]).length := (List.getElem?_eq_some_iff.mp h2).1
    rw [List.length_append, List.length_singleton] at hj
    by_cases e : j < P.length
    · rw [List.getElem?_append_left e] at h2
      rw [List.getElem?_append_left (by omega)] at h1
      exact .inl ⟨hij, k, v, w, h1, h2, hne⟩
    · have e : j = P.length := by omega
      subst e
      rw [List.getElem?_append_right (Nat.le_refl _)] at h2
      simp at h2
      subst h2
      rw [List.getElem?_append_left hij] at h1
      exact .inr ⟨rfl, v, h1, hne⟩
  · rintro (⟨hij, k, v, w, h1, h2, hne⟩ | ⟨rfl, v, h1, hne⟩)
    · have l1 := (List.getElem?_eq_some_iff.mp h1).1
      have l2 := (List.getElem?_eq_some_iff.mp h2).1
      exact ⟨hij, k, v, w, by rw [List.getElem?_append_left l1]; exact h1, by rw [List.getElem?_append_left l2]; exact h2, hne⟩
    · have l1 := (List.getElem?_eq_some_iff.mp h1).1
      exact ⟨l1, q.1, v, q.2, by rw [List.getElem?_append_left l1]; exact h1, by simp, hne⟩
theorem best_next {P : Prs} {o : Option (Nat × Nat)} {q : List Int × Int} (h : IsBest P o) : IsBest (P ++ [q]) (nextB P o q) := by
  unfold nextB
  split
  · rename_i hf
    have hn : ∀ i j, Cf (P ++ [q]) i j ↔ Cf P i j := fun i j => by
      rw [cf_snoc]
      constructor
      · rintro (h | ⟨_, v, h1, _⟩)
        · exact h
        · exact absurd h1 (first_none hf i v)
      · exact .inl
    cases o with
    | none => exact fun i j hc => h i j ((hn i j).mp hc)
    | some p => exact ⟨(hn _ _).mpr h.1, fun i' j' hc => h.2 i' j' ((hn i' j').mp hc)⟩
  · rename_i i0 hf
    obtain ⟨v0, h0, hmin⟩ := first_some hf
    have l0 := (List.getElem?_eq_some_iff.mp h0).1
    have e0 : (P.getD i0 ([], 0)).2 = v0 := by simp [List.getD_eq_getElem?_getD, h0]
    rw [e0]
    split
    · rename_i hc
      refine ⟨cf_snoc.mpr (.inr ⟨rfl, v0, h0, hc.1⟩), fun i' j' hcf => ?_⟩
      rcases cf_snoc.mp hcf with hcf | ⟨rfl, v, h1, _⟩
      · left
        cases o with
        | none => exact absurd hcf (h i' j')
        | some p =>
          have := hc.2
          simp only [later, decide_eq_true_eq] at this
          have := h.2 i' j' hcf
          omega
      · have := first_le hf h1
        omega
    · rename_i hc
      have old : ∀ i j, (j = P.length ∧ ∃ v, P[i]? = some (q.1, v) ∧ v ≠ q.2) → ∃ a b, o = some (a, b) ∧ (a < i ∨ (a = i ∧ b ≤ j)) := by
        rintro i j ⟨rfl, v, h1, hne⟩
        have hi := first_le hf h1
        have li := (List.getElem?_eq_some_iff.mp h1).1
        by_cases hv : v0 = q.2
        · have hne0 : i0 ≠ i := fun e => by
            subst e
            rw [h0] at h1; cases h1
            exact hne hv
          have cf : Cf P i0 i := ⟨by omega, q.1, v0, v, h0, h1, fun e => hne (e ▸ hv)⟩
          cases o with
          | none => exact absurd cf (h i0 i)
          | some p =>
            have := h.2 i0 i cf
            exact ⟨p.1, p.2, rfl, by omega⟩
        · have hl : ¬ later o i0 = true := fun z => hc ⟨hv, z⟩
          cases o with
          | none => exact absurd rfl hl
          | some p =>
            simp only [later, decide_eq_true_eq] at hl
            obtain ⟨⟨hpq, k, a, b, _, hb, _⟩, _⟩ := h
            have lb := (List.getElem?_eq_some_iff.mp hb).1
            exact ⟨p.1, p.2, rfl, by omega⟩
      cases o with
      | none =>
        intro i j hcf
        rcases cf_snoc.mp hcf with hcf | hcf
        · exact h i j hcf
        · obtain ⟨a, b, e, _⟩ := old i j hcf
          cases e
      | some p =>
        refine ⟨cf_snoc.mpr (.inl h.1), fun i' j' hcf => ?_⟩
        rcases cf_snoc.mp hcf with hcf | hcf
        · exact h.2 i' j' hcf
        · obtain ⟨a, b, e, hab⟩ := old i' j' hcf
          cases e
          exact hab
def bestAux : Prs → Prs → Option (Nat × Nat) → Option (Nat × Nat)
  | [], _, o => o
  | q :: r, P, o => bestAux r (P ++ [q]) (nextB P o q)
def bestOf (P : Prs) : Option (Nat × Nat) := bestAux P [] none
theorem bestAux_snoc (q : List Int × Int) : ∀ (r P : Prs) (o : Option (Nat × Nat)), bestAux (r ++ [q]) P o = nextB (P ++ r) (bestAux r P o) q
  | [], P, o => by simp [bestAux]
  | x :: r, P, o => by
    simp only [List.cons_append, bestAux]
    rw [bestAux_snoc q r]
    simp
theorem bestOf_snoc (P : Prs) (q : List Int × Int) : bestOf (P ++ [q]) = nextB P (bestOf P) q := by
  simp [bestOf, bestAux_snoc]
theorem best_is (P : Prs) : IsBest P (bestOf P) := by
  have key : ∀ (r P : Prs) (o : Option (Nat × Nat)), IsBest P o → IsBest (P ++ r) (bestAux r P o) := by
    intro r
    induction r with
    | nil => intro P o h; simpa [bestAux] using h
    | cons q r ih =>
      intro P o h
      have := ih _ _ (best_next (q := q) h)
      simpa [bestAux] using this
  simpa [bestOf] using key P [] none (by rintro i j ⟨_, k, v, w, h, _⟩; simp at h)
theorem firstOf_snoc (P : Prs) (q : List Int × Int) (k : List Int) : firstOf (P ++ [q]) k = match firstOf P k with
    | some i => some i
    | none => if q.1 = k then some P.length else none := by
  unfold firstOf
  rw [List.findIdx?_append]
  cases h : P.findIdx? fun q => q.1 == k with
  | some i => simp
  | none =>
    by_cases e : q.1 = k <;> simp [List.findIdx?_cons, e]
/-! ### the program's way -/
def keyOf (cols : List Str) (xs : List Str) (r : List Int) : List Int := xs.map fun x => r.getD (cols.idxOf x) 0
def prsOf (s : Scm) (db : Db) (t : Str) (xs : List Str) (a : Str) : Prs := (rowsIn s db t).map fun r => (keyOf (colsIn s t) xs r, r.getD ((colsIn s t).idxOf a) 0)
def brkSets (s : Scm) (db : Db) (t : Str) (xs : List Str) (a : Str) : Option (Nat × Nat) := bestOf (prsOf s db t xs a)
theorem sp_broken_sets {n : Nat} {M : Mem} {s : Scm} {db : Db} {t a : Str} {xs : List Str} (hs : ScmOk s) (h : DbOk s db) (hd : DepOk s (.sets t xs a)) : F_broken_sets.run n [.d (encS s), .d (encDb db), .d (encD (.sets t xs a))] M = .ok (.d (encO (brkSets s db t xs a))) M := by
  obtain ⟨cols, ht, hx0, hxs, ha⟩ := hd
  have hk := nm_strOk (hs.nm1 ht)
  have e0 : colsIn s t = cols := colsIn_mem hs ht
  have ok := rowsIn_ok hs h ht
  have l5 : cols.length ≤ 5 := (hs.ts _ ht).l5
  have ix := fun (c : Str) (hc : c ∈ cols) (n : Nat) (M : Mem) => index_col (n := n) (M := M) hs ht hc
  have lt := fun (c : Str) (hc : c ∈ cols) => (List.idxOf_lt_length_iff.mpr hc : cols.idxOf c < cols.length)
  have hxl := hxs.length_le
  have rl := ok.l
  generalize hrows : rowsIn s db t = rows at ok rl
  have hlim : rows.length ≤ lim := by unfold lim; omega
  have rec1 : ∀ M : Mem, recvT M (.d (.tuple (cols.map .str))) = some .tuple := fun M => rfl
  simp [F_broken_sets, c_broken_sets, List.replicate, encD, sp_columns_in hs hk, e0]
  generalize hF : foldC _ _ _ _ _ = o
  cases lc_map hF (fun x : Str => .int (cols.idxOf x : Nat)) (by
    intro x hx
    simp [b_broken_sets_2, ix x (hxs.subset hx)])
  clear hF
  have ixa := ix a ha
  have gd : ∀ (kvs : List (D × Val)), (M ++ [Cell.dict kvs])[M.length]? = some (.dict kvs) := fun kvs => get0 rfl
  have dg : dangle (M.length + 1) (some (.p M.length)) = some (.p M.length) := dangle_p (by omega)
  simp [ixa, sp_rows_in hs h ht, hrows]
  rw [show lstOf (M ++ [Cell.dict []]) (.d (encRows rows)) = some (rows.map fun r => Val.d (tupI r)) by
    show some ((rows.map tupI).map Val.d) = _
    simp]
  simp [idxs_map hlim]
  generalize hF : foldS _ _ _ _ _ _ _ = o
  let f := fun r : List Int => (keyOf cols xs r, r.getD (cols.idxOf a) 0)
  obtain ⟨ρ', M', rfl, o13, o14, o15, rfl, L, rfl, hLl, hL⟩ := for_lst hF (fun pre ρ M1 => ∃ o13 o14 o15 : Option Val, ρ = [some (.d (encS s)), some (.d (encDb db)), some (.d (.tuple [.str "sets", .str t, .tuple (xs.map .str), .str a])), some (.d (.tuple (cols.map .str))), some (.d (.list (xs.map fun x => .int (cols.idxOf x : Nat)))), some (.d (.int (cols.idxOf a : Nat))), some (.d (encRows rows)), some (.p M.length),
      some (.d (encO (bestOf (pre.map fun q => f q.1)))), some (.d (.str "sets")), some (.d (.str t)), some (.d (.tuple (xs.map .str))), some (.d (.str a)), o13, o14, o15, none, none] ∧
      ∃ L : DL (List Int), M1 = M ++ [.dict (dkL tupI L)] ∧ L.length ≤ pre.length ∧ ∀ k, lkL L k = (firstOf (pre.map fun q => f q.1) k).map fun i => .d (.int (i : Nat)))
    ⟨none, none, none, rfl, [], rfl, by simp, by simp [lkL, firstOf]⟩ (by
    rintro pre ⟨r, j⟩ post ρ M1 hx ⟨o13, o14, o15, rfl, L, rfl, hLl, hL⟩
    obtain ⟨e1, e2⟩ := zipIdx_split hx
    have hr : r ∈ rows := by rw [e1]; simp
    have hrl : r.length = cols.length := ok.w r hr
    have hpre : pre.length ≤ 10 := by
      have := congrArg List.length hx
      simp at this; omega
    have hP : ∀ i : Nat, i < pre.length → rows[i]? = (pre.map (·.1))[i]? := fun i hi => by
      rw [e1, List.getElem?_append_left (by simpa using hi)]
    have hPf : (pre.map fun q => f q.1) = (pre.map (·.1)).map f := by simp
    generalize hpr : pre.map (·.1) = pr at hP hPf e1
    have hprl : pr.length = pre.length := by rw [← hpr]; simp
    have hbest : bestOf ((pre.map fun q => f q.1) ++ [f r]) = nextB (pr.map f) (bestOf (pr.map f)) (f r) := by
      rw [hPf]
      exact bestOf_snoc _ _
    have hfirst : ∀ k, firstOf ((pre.map fun q => f q.1) ++ [f r]) k = match firstOf (pr.map f) k with | some i => some i | none => if keyOf cols xs r = k then some j else none := fun k => by
      rw [hPf]
      have := firstOf_snoc (pr.map f) (f r) k
      rw [List.length_map, hprl, ← e2] at this
      exact this
    rw [hPf] at hL ⊢
    have dk : ∀ k, dkOk (dkL tupI L) (tupI k) = true := fun k => dk_tup tupK_I L k
    have ni : ∀ k, cmpV.memV (M ++ [.dict (dkL tupI L)]) (.d (tupI k)) (.p M.length) = some (firstOf (pr.map f) k).isSome := fun k => by
      have := in_dct (gd (dkL tupI L)) (dk k)
      rw [kLook_L eqv_tupI, hL] at this
      rw [show cmpV.memV (M ++ [.dict (dkL tupI L)]) (.d (tupI k)) (.p M.length) = some ((firstOf (pr.map f) k).map fun i => Val.d (.int (i : Nat))).isSome from this]
      simp
    have gi : ∀ k i, firstOf (pr.map f) k = some i → idxV (M ++ [.dict (dkL tupI L)]) (.p M.length) (.d (tupI k)) = some (.d (.int (i : Nat))) := fun k i hi => by
      rw [idx_dct (gd _) (dk k), kLook_L eqv_tupI, hL, hi]; rfl
    have ilast : ∀ (M : Mem) (q : List Int), q.length = cols.length → idxV M (.d (tupI q)) (.d (.int (cols.idxOf a : Nat))) = some (.d (.int (q.getD (cols.idxOf a) 0))) := fun M q hq => idx_row (by rw [hq]; exact lt a ha)
    simp [-idx_tuple, b_broken_sets_1]
    generalize hC : foldC _ _ _ _ _ = o
    cases lc_map hC (fun x : Str => .int (r.getD (cols.idxOf x) 0)) (by
      intro x hx'
      simp [-idx_tuple, b_broken_sets_0, idx_row (show cols.idxOf x < r.length by rw [hrl]; exact lt x (hxs.subset hx'))])
    have hkey : (PyData.tuple (xs.map fun x => .int (r.getD (cols.idxOf x) 0))) = tupI (keyOf cols xs r) := by simp [tupI, keyOf]
    cases hf : firstOf (pr.map f) (keyOf cols xs r) with
    | none =>
      have st := fun n : Nat => set_dct (n := n) (v := .d (.int (j : Nat))) (gd (dkL tupI L)) (dk (keyOf cols xs r)) (by rw [dkL_len]; unfold lim; omega) rfl
      rw [kPut_L eqv_tupI] at st
      have e : ∀ c c' : Cell, (M ++ [c]).set M.length c' = M ++ [c'] := fun c c' => set0 rfl
      have hnb : nextB (pr.map f) (bestOf (pr.map f)) (f r) = bestOf (pr.map f) := by
        unfold nextB
        rw [show firstOf (pr.map f) (f r).1 = none from hf]
      simp [-idx_tuple, -List.getD_eq_getElem?_getD, hkey, ni, hf, st, e, take_L, dg, hbest, hnb]
      refine ⟨_, rfl, by have := putL_len L (keyOf cols xs r) (.d (.int (j : Nat))); omega, fun k => ?_⟩
      rw [lk_put, hfirst, hL]
      by_cases q : keyOf cols xs r = k
      · rw [if_pos q, ← q, hf]; simp
      · rw [if_neg q]
        cases hfk : firstOf (pr.map f) k <;> simp [q]
    | some i =>
      obtain ⟨v0, h0, hmin⟩ := first_some hf
      have hi : i < pr.length := by
        have := (List.getElem?_eq_some_iff.mp h0).1
        simpa using this
      rw [List.getElem?_map, List.getElem?_eq_getElem hi] at h0
      simp only [Option.map_some, Option.some.injEq] at h0
      have hq : pr[i] ∈ rows := by rw [e1]; exact List.mem_append_left _ (List.getElem_mem hi)
      have hql : pr[i].length = cols.length := ok.w _ hq
      have hv0 : pr[i].getD (cols.idxOf a) 0 = v0 := congrArg Prod.snd h0
      have irow : ∀ M : Mem, idxV M (.d (encRows rows)) (.d (.int (i : Nat))) = some (.d (tupI pr[i])) := fun M => by
        have hi' : i < rows.length := by rw [e1]; simp; omega
        have : rows[i] = pr[i] := by
          have := hP i (by omega)
          rw [List.getElem?_eq_getElem hi', List.getElem?_eq_getElem hi] at this
          exact Option.some.inj this
        show idxV M (.d (.list (rows.map tupI))) _ = _
        rw [idx_list, ixN_nat (by simpa using hi')]
        simp [List.getElem?_eq_getElem hi', this]
      have hgD : ((pr.map f).getD i ([], 0)).2 = v0 := by
        rw [List.getD_eq_getElem?_getD, List.getElem?_map, List.getElem?_eq_getElem hi]
        exact hv0
      have hnb : nextB (pr.map f) (bestOf (pr.map f)) (f r) = if v0 ≠ r.getD (cols.idxOf a) 0 ∧ later (bestOf (pr.map f)) i = true then some (i, j) else bestOf (pr.map f) := by
        unfold nextB
        rw [show firstOf (pr.map f) (f r).1 = some i from hf]
        simp only [hgD, List.length_map, hprl, ← e2]
        rfl
      have hLl' : L.length ≤ pre.length + 1 := by omega
      have fin : ∀ k, lkL L k = (firstOf ((pre.map fun q => f q.1) ++ [f r]) k).map fun i => .d (.int (i : Nat)) := fun k => by
        rw [hfirst, hL]
        by_cases q : keyOf cols xs r = k
        · rw [← q, hf]
        · cases hfk : firstOf (pr.map f) k <;> simp [q]
      generalize hbo : bestOf (pr.map f) = bo at hbest hnb
      have iv := ilast
      have iq := fun M : Mem => ilast M _ hql
      have ir := fun M : Mem => ilast M _ hrl
      rw [hv0] at iq
      generalize r.getD (cols.idxOf a) 0 = vr at hnb ir
      by_cases hv : v0 = vr
      · have hnb' : nextB (pr.map f) bo (f r) = bo := by rw [hnb, if_neg (fun z => z.1 hv)]
        simp [-idx_tuple, -List.getD_eq_getElem?_getD, hkey, ni, hf, gi _ _ hf, irow, iq, ir, hv, take_L, dg, hbest, hnb']
        exact ⟨L, rfl, hLl', fin⟩
      · cases bo with
        | none =>
          have hnb' : nextB (pr.map f) none (f r) = some (i, j) := by rw [hnb, if_pos ⟨hv, rfl⟩]
          simp [-idx_tuple, -List.getD_eq_getElem?_getD, hkey, ni, hf, gi _ _ hf, irow, iq, ir, hv, take_L, dg, hbest, hnb', encO, allD]
          exact ⟨L, rfl, hLl', fin⟩
        | some p =>
          by_cases hlt : i < p.1
          · have hnb' : nextB (pr.map f) (some p) (f r) = some (i, j) := by rw [hnb, if_pos ⟨hv, by simp [later, hlt]⟩]
            simp [-List.getD_eq_getElem?_getD, hkey, ni, hf, gi _ _ hf, irow, iq, ir, hv, take_L, dg, hbest, hnb', encO, allD, ixN, hlt]
            exact ⟨L, rfl, hLl', fin⟩
          · have hnb' : nextB (pr.map f) (some p) (f r) = some p := by rw [hnb, if_neg (fun z => hlt (by simpa [later] using z.2))]
            simp [-List.getD_eq_getElem?_getD, hkey, ni, hf, gi _ _ hf, irow, iq, ir, hv, take_L, dg, hbest, hnb', encO, allD, ixN, hlt]
            exact ⟨L, rfl, hLl', fin⟩)
  have hfst : (rows.zipIdx.map fun q => f q.1) = rows.map f := by
    rw [show (fun q : List Int × Nat => f q.1) = f ∘ Prod.fst from rfl, ← List.map_map, List.zipIdx_map_fst]
  simp [brkSets, prsOf, e0, hrows, hfst]
  rfl
end Fk

/-! SpKeeps: what a database keeps. -/
namespace Fk
open PySem
def encM (a b : Nat) : D := if a < b then .tuple [.int a, .int b] else .none
def cnt (s : Scm) (db : Db) (t c : Str) : Nat := (dd (valsIn s db t c)).length
def brkD (s : Scm) (db : Db) : Dep → D
  | .sets t xs a => encO (brkSets s db t xs a)
  | .within t c u d => encW (brkWithin s db t c u d)
  | .many t c u d => encM (cnt s db t c) (cnt s db u d)
def kept (s : Scm) (db : Db) (d : Dep) : Bool := (Val.d (brkD s db d)).isN
theorem wS : (("within" : Str) == ("sets" : Str)) = false ∧ (("many" : Str) == ("sets" : Str)) = false ∧ (("many" : Str) == ("within" : Str)) = false := by decide +kernel
theorem sp_broken_in {n : Nat} {M : Mem} {s : Scm} {db : Db} {d : Dep} (hs : ScmOk s) (h : DbOk s db) (hd : DepOk s d) : F_broken_in.run n [.d (encS s), .d (encDb db), .d (encD d)] M = .ok (.d (brkD s db d)) M := by
  have z : ∀ w : String, shp (.str (Str.ofString w)) = true := fun w => by simpa using strOk_of w
  cases d with
  | sets t xs a =>
    have e := fun (n : Nat) (M : Mem) => sp_broken_sets (n := n) (M := M) hs h hd
    simp only [encD] at e
    simp [F_broken_in, c_broken_in, List.replicate, encD, ixN, cmp_eq, z, e, brkD]
  | within t c u d =>
    have e := fun (n : Nat) (M : Mem) => sp_broken_within (n := n) (M := M) hs h hd.1 hd.2
    simp only [encD] at e
    simp [F_broken_in, c_broken_in, List.replicate, encD, ixN, cmp_eq, z, wS, e, brkD]
  | many t c u d =>
    have v1 := fun (n : Nat) (M : Mem) => sp_values_in (n := n) (M := M) hs h hd.1
    have v2 := fun (n : Nat) (M : Mem) => sp_values_in (n := n) (M := M) hs h hd.2
    have d1 := fun (n : Nat) (M : Mem) => sp_different (n := n) (M := M) (vs := valsIn s db t c) (by have := valsIn_len hs h hd.1; omega)
    have d2 := fun (n : Nat) (M : Mem) => sp_different (n := n) (M := M) (vs := valsIn s db u d) (by have := valsIn_len hs h hd.2; omega)
    by_cases hlt : (dd (valsIn s db t c)).length < (dd (valsIn s db u d)).length
    · simp [F_broken_in, c_broken_in, List.replicate, encD, ixN, cmp_eq, z, wS, v1, v2, d1, d2, brkD, encM, cnt, hlt, allD]
    · simp [F_broken_in, c_broken_in, List.replicate, encD, ixN, cmp_eq, z, wS, v1, v2, d1, d2, brkD, encM, cnt, hlt, allD]
theorem sp_broken_by {n : Nat} {M : Mem} {s : Scm} {db : Db} {d : Dep} (hs : ScmOk s) (h : DbOk s db) (hd : DepOk s d) : F_broken_by.run n [.d (encS s), .d (encDb db), .d (encD d)] M = .ok (.d (brkD s db d)) M := by
  simp [F_broken_by, c_broken_by, List.replicate, sp_look_ok hs, sp_look_at_database hs h, sp_look_at_dependency hs hd, sp_broken_in hs h hd]
theorem sp_keeps {n : Nat} {M : Mem} {s : Scm} {db : Db} {d : Dep} (hs : ScmOk s) (h : DbOk s db) (hd : DepOk s d) : F_keeps.run n [.d (encS s), .d (encDb db), .d (encD d)] M = .ok (.d (.bool (kept s db d))) M := by
  simp [F_keeps, c_keeps, List.replicate, sp_broken_by hs h hd, kept]
theorem sp_value_count {n : Nat} {M : Mem} {s : Scm} {db : Db} {t c : Str} (hs : ScmOk s) (h : DbOk s db) (hc : HasCol s t c) : F_value_count.run n [.d (encS s), .d (encDb db), .d (.str t), .d (.str c)] M = .ok (.d (.int (cnt s db t c))) M := by
  have a := hc.nms hs
  have ic := fun (n : Nat) (M : Mem) => sp_is_column (n := n) (k := 0) (M := M) (a := .str t) (b := .str c) hs (nm_fit 0 a.1) (nm_fit 0 a.2) (by omega)
  have d1 := fun (n : Nat) (M : Mem) => sp_different (n := n) (M := M) (vs := valsIn s db t c) (by have := valsIn_len hs h hc; omega)
  simp [F_value_count, c_value_count, List.replicate, sp_look_ok hs, sp_look_at_database hs h, ic, (col_iff hs).mpr hc, sp_values_in hs h hc, d1, cnt]
theorem fitB : ∀ s db d, ∃ x, brkD s db d = x := fun s db d => ⟨_, rfl⟩
theorem brkD_fit (s : Scm) (db : Db) (d : Dep) : Fit 1 (brkD s db d) := by
  have t2 : ∀ i j : Int, Fit 1 (.tuple [.int i, .int j]) := fun i j => ⟨by simp [lim], by simp⟩
  cases d with
  | sets t xs a => show Fit 1 (encO _); cases brkSets s db t xs a <;> first | trivial | exact t2 _ _
  | within t c u d => show Fit 1 (encW _); cases brkWithin s db t c u d <;> first | trivial | exact ⟨by simp [lim], by simp⟩
  | many t c u d => show Fit 1 (encM _ _); unfold encM; split <;> first | trivial | exact t2 _ _
end Fk

/-! SpRules: rules that a law draws. -/
namespace Fk
open PySem
def encDs (ds : List Dep) : List Val := (ds.map encD).map .d
theorem encDs_len (ds : List Dep) : (encDs ds).length = ds.length := by simp [encDs]
theorem encDs_add (ds : List Dep) (d : Dep) : encDs ds ++ [.d (encD d)] = encDs (ds ++ [d]) := by simp [encDs]
theorem em (x k : Int) (hk : 0 < k) : 0 ≤ x % k ∧ x % k < k := ⟨Int.emod_nonneg _ (by omega), Int.emod_lt_of_pos _ hk⟩
theorem take_setn {M X : Mem} {p L : Nat} {c : Cell} (h : L = M.length) : (M.set p c ++ X).take L = M.set p c := by
  subst h; exact take_set_app
/-- a pair drawn -/
theorem pick_p {M : Mem} {s : Scm} (h : ScmOk s) (v : Int) : ∃ q ∈ pairsOf s, idxV M (.d (.list ((pairsOf s).map encP))) (.d (.int (v % (pairsOf s).length))) = some (.d (encP q)) := by
  have hl := pairs_len h
  have := em v (pairsOf s).length (by omega)
  obtain ⟨x, h1, e1⟩ := pick_l (M := M) (xs := (pairsOf s).map encP) (i := v % (pairsOf s).length) this.1 (by simpa using this.2)
  obtain ⟨q, hq, rfl⟩ := List.mem_map.mp h1
  exact ⟨q, hq, e1⟩
theorem pick_c {M : Mem} {cols : List Str} (h : 1 ≤ cols.length) (v : Int) : ∃ c ∈ cols, idxV M (.d (.tuple (cols.map .str))) (.d (.int (v % cols.length))) = some (.d (.str c)) := by
  have := em v cols.length (by omega)
  obtain ⟨x, h1, e1⟩ := pick_t (M := M) (xs := cols.map .str) (i := v % cols.length) this.1 (by simpa using this.2)
  obtain ⟨q, hq, rfl⟩ := List.mem_map.mp h1
  exact ⟨q, hq, e1⟩
theorem encP_0 (M : Mem) (q : Str × Str) : idxV M (.d (encP q)) (.d (.int 0)) = some (.d (.str q.1)) := by simp [encP, ixN]
theorem encP_1 (M : Mem) (q : Str × Str) : idxV M (.d (encP q)) (.d (.int 1)) = some (.d (.str q.2)) := by simp [encP, ixN]
theorem add_pp {M : Mem} (w : Str) (q : Str × Str) : binV .v .add M (.d (.tuple [.str w])) (.d (encP q)) = .ok (.d (.tuple [.str w, .str q.1, .str q.2])) M := bin_addt (x := [.str w]) (y := [.str q.1, .str q.2]) lim3
theorem add_ppp {M : Mem} (w a b : Str) (q : Str × Str) : binV .v .add M (.d (.tuple [.str w, .str a, .str b])) (.d (encP q)) = .ok (.d (.tuple [.str w, .str a, .str b, .str q.1, .str q.2])) M := bin_addt (x := [.str w, .str a, .str b]) (y := [.str q.1, .str q.2]) lim5
theorem sp_takeA {n p : Nat} {M X : Mem} {v s : Int} (hp : p < M.length) (h0 : 0 < s) (h1 : s < 1073741824) : F_l_take.run n [.p p, .d (.int s)] (M.set p (.lst [.d (.int v)]) ++ X) = .ok (.d (.int (v % s))) (M.set p (.lst [.d (.int (v / s))]) ++ X) := by
  rw [sp_take _ _ _ _ _ (get_old (List.getElem?_set_self hp)) h0 h1, set_old (List.getElem?_set_self hp), set_twice]
theorem idx_hs {M : Mem} {hs : List (Str × Str)} {i : Nat} (hi : i < hs.length) : idxV M (.d (.list (hs.map encP))) (.d (.int (i : Int))) = some (.d (encP hs[i])) := by
  rw [idx_list, ixN_nat (by simpa using hi)]; simp [hi]
theorem add_pt {M : Mem} (w : Str) (a b c d : Str) : binV .v .add M (.d (.tuple [.str w, .str a, .str b])) (.d (.tuple [.str c, .str d])) = .ok (.d (.tuple [.str w, .str a, .str b, .str c, .str d])) M := bin_addt (x := [.str w, .str a, .str b]) (y := [.str c, .str d]) lim5
theorem ap_Ds {n : Nat} {X : Mem} {L : Nat} {ds : List Dep} {d : Dep} (hL : X.length = L) (hl : ds.length ≤ 100) : bmV .v n .append (X ++ [.lst (encDs ds)]) (.p L) [.d (encD d)] = .ok (.d .none) (X ++ [.lst (encDs (ds ++ [d]))]) := by
  rw [m_append (get0 hL) (by rw [encDs_len]; exact by unfold lim; omega) rfl, set0 hL, encDs_add]
theorem giveV_Ds {L : Nat} {X : Mem} {ds : List Dep} (hL : X.length = L) : giveV .cell L (.p L) (X ++ [.lst (encDs ds)]) = .ok (.p L) (X ++ [.lst (encDs ds)]) := by
  have hg := giveV_cellr (L := L) (r := L) (X := X ++ [.lst (encDs ds)]) (ds := ds.map encD) (Nat.le_refl _) (get0 hL)
  rwa [take0 hL] at hg
theorem lt_lim {n : Nat} (h : n ≤ 100) : n < lim := by unfold lim; omega
theorem sp_ring {n p : Nat} {M : Mem} {v : Int} {s : Scm} (hp : p < M.length) (h : ScmOk s) : ∃ (v' : Int) (ds : List Dep), F_l_ring.run n [.p p, .d (encS s)] (M.set p (.lst [.d (.int v)])) = .ok (.p M.length) (M.set p (.lst [.d (.int v')]) ++ [.lst (encDs ds)]) ∧ (∀ d ∈ ds, DepOk s d) ∧ ds.length ≤ 6 := by
  have hl := pairs_len h
  have np : 0 < ((pairsOf s).length : Int) := by omega
  have np2 : ((pairsOf s).length : Int) < 1073741824 := by omega
  have r3 := em v 3 (by decide)
  obtain ⟨k, hk⟩ : ∃ k : Nat, 1 + v % 3 = (k : Int) := ⟨(1 + v % 3).toNat, by omega⟩
  have hk1 : 1 ≤ k := by omega
  have hk3 : k ≤ 3 := by omega
  have hr : rng1V (.d (.int (k : Int))) = some ((List.range k).map fun (i : Nat) => Itm.v (.d (.int (i : Int)))) := rng1_nat (by unfold lim; omega)
  obtain ⟨v2, hs, e1, hh1, hh2⟩ : ∃ (v2 : Int) (hs : List (Str × Str)), foldC none (stepC [some (.p p), some (.d (encS s)), some (.d (.list ((pairsOf s).map encP))), none, none, none, none, none] [5] (.one 5) (fun ρ M' => .ok true M') fun ρ M' => ev G_l_ring M.length ρ M' b_l_ring_1) ((List.range k).map fun (i : Nat) => Itm.v (.d (.int (i : Int)))) [] (M.set p (.lst [.d (.int (v / 3))]))
      = .ok ((hs.map encP).map .d) (M.set p (.lst [.d (.int v2)])) ∧ hs.length = k ∧ ∀ q ∈ hs, q ∈ pairsOf s := by
    generalize hF : foldC _ _ _ _ _ = o
    obtain ⟨vs, M', rfl, v2, hs, rfl, rfl, q1, q2⟩ := lc_inv hF (fun pre acc M1 => ∃ (v3 : Int) (hs : List (Str × Str)), M1 = M.set p (.lst [.d (.int v3)]) ∧ acc = (hs.map encP).map .d ∧ hs.length = pre.length ∧ ∀ q ∈ hs, q ∈ pairsOf s)
      ⟨_, [], rfl, rfl, rfl, by simp⟩ (by
      rintro pre i post acc M1 hx ⟨v3, hs, rfl, rfl, q1, q2⟩
      obtain ⟨q, hq, eq⟩ := pick_p (M := M.set p (.lst [.d (.int (v3 / (pairsOf s).length))])) h v3
      simp [-idx_list, b_l_ring_1, sp_takeP hp np np2, eq]
      exact ⟨⟨_, rfl⟩, hs ++ [q], by simp, by simp [q1], fun a b hm => by
        rcases List.mem_append.mp hm with hm | hm
        · exact q2 _ hm
        · have := List.mem_singleton.mp hm; rw [this]; exact hq⟩)
    exact ⟨v2, hs, rfl, by simpa using q1, q2⟩
  have hsl : ((hs.length : Nat) : Int) = (k : Int) := by omega
  have hr2 : rng1V (.d (.int (hs.length : Int))) = some ((List.range hs.length).map fun (i : Nat) => Itm.v (.d (.int (i : Int)))) := rng1_nat (by unfold lim; omega)
  obtain ⟨v3, ds, o5, o6, o7, e2, hd1, hd2⟩ : ∃ (v3 : Int) (ds : List Dep) (o5 o6 o7 : Option Val), foldS none true (M.length + 1) (turnS (.one 5) fun ρ' M' => evSs G_l_ring (M.length + 1) ρ' M' b_l_ring_0) ((List.range hs.length).map fun (i : Nat) => Itm.v (.d (.int (i : Int)))) [some (.p p), some (.d (encS s)), some (.d (.list ((pairsOf s).map encP))), some (.d (.list (hs.map encP))), some (.p M.length), none, none, none] (M.set p (.lst [.d (.int v2)]) ++ [.lst []])
      = .nx [some (.p p), some (.d (encS s)), some (.d (.list ((pairsOf s).map encP))), some (.d (.list (hs.map encP))), some (.p M.length), o5, o6, o7] (M.set p (.lst [.d (.int v3)]) ++ [.lst (encDs ds)]) ∧ (∀ d ∈ ds, DepOk s d) ∧ ds.length ≤ 6 := by
    generalize hF : foldS _ _ _ _ _ _ _ = o
    obtain ⟨ρ', M', rfl, v3, ds, o5, o6, o7, rfl, rfl, q1, q2⟩ := for_rng hF (fun i ρ M1 => ∃ (v3 : Int) (ds : List Dep) (o5 o6 o7 : Option Val), ρ = [some (.p p), some (.d (encS s)), some (.d (.list ((pairsOf s).map encP))), some (.d (.list (hs.map encP))), some (.p M.length), o5, o6, o7] ∧ M1 = M.set p (.lst [.d (.int v3)]) ++ [.lst (encDs ds)] ∧ (∀ d ∈ ds, DepOk s d) ∧ ds.length = 2 * i)
      ⟨v2, [], none, none, none, rfl, rfl, by simp, rfl⟩ (by
      rintro i ρ M1 hi ⟨v3, ds, o5, o6, o7, rfl, rfl, q1, q2⟩
      have hq := hh2 _ (List.getElem_mem hi)
      generalize hqe : hs[i] = q at hq
      have hix := idx_hs (M := M.set p (.lst [.d (.int v3)]) ++ [.lst (encDs ds)]) hi
      obtain ⟨cols, c1, c2⟩ := mem_pairs.mp hq
      have hcl := h.ts _ c1
      have hc1 : 1 ≤ cols.length := hcl.l1
      have hc5 : cols.length ≤ 5 := hcl.l5
      have nc : 0 < (cols.length : Int) := by omega
      have nc2 : (cols.length : Int) < 1073741824 := by omega
      obtain ⟨a, ha, ea⟩ := pick_c (M := M.set p (.lst [.d (.int (v3 / cols.length))]) ++ [.lst (encDs ds)]) hc1 v3
      have hL : (M.set p (.lst [.d (.int (v3 / cols.length))])).length = M.length := by simp
      have km : (0 : Int) < k := by omega
      have hj0 : 0 ≤ ((i : Int) + 1) % k ∧ ((i : Int) + 1) % k < k := em _ _ (by omega)
      obtain ⟨j, hj, hje⟩ : ∃ j : Nat, ((i : Int) + 1) % k = (j : Int) ∧ j < hs.length := ⟨(((i : Int) + 1) % k).toNat, by omega, by omega⟩
      have hix0 : ∀ M : Mem, idxV M (.d (.list (hs.map encP))) (.d (.int (i : Int))) = some (.d (encP q)) := fun M => by rw [idx_hs hi, hqe]
      have hjx : ∀ M : Mem, idxV M (.d (.list (hs.map encP))) (.d (.int (j : Int))) = some (.d (encP hs[j])) := fun M => idx_hs hje
      have d1 : Val.d (.tuple [.str "sets", .str q.1, .tuple [.str q.2], .str a]) = .d (encD (.sets q.1 [q.2] a)) := rfl
      have d2 : Val.d (.tuple [.str "within", .str hs[j].1, .str hs[j].2, .str q.1, .str a]) = .d (encD (.within hs[j].1 hs[j].2 q.1 a)) := rfl
      have g1 : dangle (M.length + 1) (some (.p p)) = some (.p p) := dangle_p (by omega)
      have g2 : dangle (M.length + 1) (some (.p M.length)) = some (.p M.length) := dangle_p (by omega)
      have hcs := sp_columns (n := M.length + 1) (M := M.set p (.lst [.d (.int v3)]) ++ [.lst (encDs ds)]) h c1
      have hrc : ∀ ds : List Dep, recvT (M.set p (.lst [.d (.int (v3 / cols.length))]) ++ [.lst (encDs ds)]) (.p M.length) = some .list := fun ds => recv_p (get0 hL)
      have ka : ∀ ds d, ds.length ≤ 100 → bmV .v (M.length + 1) .append (M.set p (.lst [.d (.int (v3 / cols.length))]) ++ [.lst (encDs ds)]) (.p M.length) [.d (encD d)] = .ok (.d .none) (M.set p (.lst [.d (.int (v3 / cols.length))]) ++ [.lst (encDs (ds ++ [d]))]) := fun ds d hl => ap_Ds hL hl
      have kb := ka ds (.sets q.1 [q.2] a) (by omega)
      have kb2 := ka (ds ++ [.sets q.1 [q.2] a]) (.within hs[j].1 hs[j].2 q.1 a) (by simp; omega)
      simp [-idx_list, -idx_tuple, b_l_ring_0, hix0, encP_0, encP_1, hcs, sp_takeA hp nc nc2, ea, hrc, d1, kb, hsl, bin_modi km, hj, hjx, add_pp, add_pt, d2, kb2, g1, g2, take1 hL]
      exact ⟨_, _, ⟨rfl, rfl⟩, fun d hd => by
        simp only [List.append_assoc, List.mem_append, List.mem_cons, List.not_mem_nil, or_false, List.cons_append, List.nil_append] at hd
        rcases hd with hd | rfl | rfl
        · exact q1 d hd
        · exact ⟨cols, c1, by simp, List.singleton_sublist.mpr c2, ha⟩
        · exact ⟨mem_pairs.mp (hh2 _ (List.getElem_mem hje)), ⟨cols, c1, ha⟩⟩, by simp; omega⟩)
    exact ⟨v3, ds, o5, o6, o7, rfl, q1, by omega⟩
  refine ⟨v3, ds, ?_, hd1, hd2⟩
  have hL : (M.set p (.lst [.d (.int v3)])).length = M.length := by simp
  have hg : giveV .cell M.length (.p M.length) (M.set p (.lst [.d (.int v3)]) ++ [.lst (encDs ds)]) = .ok (.p M.length) (M.set p (.lst [.d (.int v3)]) ++ [.lst (encDs ds)]) := giveV_Ds hL
  simp only [List.map_map, Function.comp_def] at e1
  simp [F_l_ring, c_l_ring, List.replicate, sp_pairs h, sp_takeP hp (by decide : (0 : Int) < 3) (by decide), hk, hr, Function.comp_def, e1, hr2, e2, hg]
theorem pick_s {M : Mem} {s : Scm} (h : ScmOk s) (v : Int) : ∃ t ∈ s, idxV M (.d (encS s)) (.d (.int (v % s.length))) = some (.d (encT t)) := by
  have := em v s.length (by have := h.l1; omega)
  obtain ⟨x, h1, e1⟩ := pick_l (M := M) (xs := s.map encT) (i := v % s.length) this.1 (by simpa using this.2)
  obtain ⟨q, hq, rfl⟩ := List.mem_map.mp h1
  exact ⟨q, hq, e1⟩
theorem sp_again {n p : Nat} {M : Mem} {v : Int} {s : Scm} (hp : p < M.length) (h : ScmOk s) : ∃ (v' : Int) (ds : List Dep), F_l_again.run n [.p p, .d (encS s)] (M.set p (.lst [.d (.int v)])) = .ok (.p M.length) (M.set p (.lst [.d (.int v')]) ++ [.lst (encDs ds)]) ∧ (∀ d ∈ ds, DepOk s d) ∧ ds.length ≤ 6 := by
  have hs1 := h.l1
  have hs3 := h.l3
  have ns : 0 < (s.length : Int) := by omega
  have ns2 : (s.length : Int) < 1073741824 := by omega
  obtain ⟨⟨t, cols⟩, ht, et⟩ := pick_s (M := M.set p (.lst [.d (.int (v / s.length))])) h v
  have hcl := h.ts _ ht
  have hc1 : 1 ≤ cols.length := hcl.l1
  have hc5 : cols.length ≤ 5 := hcl.l5
  have nc : 0 < (cols.length : Int) := by omega
  have nc2 : (cols.length : Int) < 1073741824 := by omega
  have hr : rng1V (.d (.int 4)) = some ((List.range 4).map fun (i : Nat) => Itm.v (.d (.int (i : Int)))) := rng1_ok (j := 4) (by omega) (by unfold lim; omega)
  have hT' : encT (t, cols) = .tuple [.str t, .tuple (cols.map .str)] := rfl
  obtain ⟨v2, cs, e1, hh1, hh2⟩ : ∃ (v2 : Int) (cs : List Str), foldC none (stepC [some (.p p), some (.d (encS s)), none, none, none, none, some (.d (.str t)), some (.d (.tuple (cols.map .str))), none, none] [8] (.one 8) (fun ρ M' => .ok true M') fun ρ M' => ev G_l_again M.length ρ M' b_l_again_2) ((List.range 4).map fun (i : Nat) => Itm.v (.d (.int (i : Int)))) [] (M.set p (.lst [.d (.int (v / s.length))]))
      = .ok ((cs.map PyData.str).map .d) (M.set p (.lst [.d (.int v2)])) ∧ cs.length = 4 ∧ ∀ q ∈ cs, q ∈ cols := by
    generalize hF : foldC _ _ _ _ _ = o
    obtain ⟨vs, M', rfl, v2, hs, rfl, rfl, q1, q2⟩ := lc_inv hF (fun pre acc M1 => ∃ (v3 : Int) (hs : List Str), M1 = M.set p (.lst [.d (.int v3)]) ∧ acc = (hs.map PyData.str).map .d ∧ hs.length = pre.length ∧ ∀ q ∈ hs, q ∈ cols)
      ⟨_, [], rfl, rfl, rfl, by simp⟩ (by
      rintro pre i post acc M1 hx ⟨v3, hs, rfl, rfl, q1, q2⟩
      obtain ⟨q, hq, eq⟩ := pick_c (M := M.set p (.lst [.d (.int (v3 / cols.length))])) hc1 v3
      simp [-idx_tuple, b_l_again_2, sp_takeP hp nc nc2, eq]
      exact ⟨⟨_, rfl⟩, hs ++ [q], by simp, by simp [q1], fun a hm => by
        rcases List.mem_append.mp hm with hm | hm
        · exact q2 _ hm
        · have := List.mem_singleton.mp hm; rw [this]; exact hq⟩)
    exact ⟨v2, hs, rfl, by simpa using q1, q2⟩
  obtain ⟨a, b, c, d, rfl⟩ : ∃ a b c d, cs = [a, b, c, d] := by
    match cs, hh1 with
    | [a, b, c, d], _ => exact ⟨a, b, c, d, rfl⟩
  have ma : a ∈ cols := hh2 a (by simp)
  have mb : b ∈ cols := hh2 b (by simp)
  have mc : c ∈ cols := hh2 c (by simp)
  have md : d ∈ cols := hh2 d (by simp)
  have sk : ∀ x ∈ cols, shp (.str x) = true := fun x hx => by rw [shp_str]; exact nm_strOk (hcl.ns x hx)
  have sl : shp (.list [.str a, .str b]) = true := shp_list (n := 0) (fun x hx => by
    simp at hx
    rcases hx with rfl | rfl
    · exact nm_fit _ (hcl.ns a ma)
    · exact nm_fit _ (hcl.ns b mb)) (by omega)
  have hin : ∀ x : Str, inD (.str x) [.str a, .str b] = decide (x ∈ [a, b]) := fun x => inD_str x [a, b]
  obtain ⟨kept, e2, hk1, hk2⟩ : ∃ kept : List Str, (foldC none (stepC [some (.p p), some (.d (encS s)), some (.d (.list [.str a, .str b, .str c, .str d])), none, none, none, some (.d (.str t)), some (.d (.tuple (cols.map .str))), none, none] [9] (.one 9) (fun ρ M' => evoT G_l_again M.length ρ M' b_l_again_0) fun ρ M' => ev G_l_again M.length ρ M' b_l_again_1) (cols.map fun c => Itm.v (.d (.str c))) [] (M.set p (.lst [.d (.int v2)])) : Out (List Val))
      = .ok (kept.map fun c => Val.d (.str c)) (M.set p (.lst [.d (.int v2)])) ∧ kept ≠ [] ∧ kept.Sublist cols := by
    generalize hF : foldC _ _ _ _ _ = o
    cases lc_flt hF (fun x => decide (x ∈ [a, b])) (fun x => .str x) (by
      intro x hx
      by_cases hm : x ∈ [a, b]
      · simp [b_l_again_0, b_l_again_1, mem_list (sk x hx) sl, hin, hm]
      · simp [b_l_again_0, b_l_again_1, mem_list (sk x hx) sl, hin, hm])
    have hne : (cols.filter fun x => decide (x ∈ [a, b])) ≠ [] := fun e => by
      have : a ∈ cols.filter fun x => decide (x ∈ [a, b]) := List.mem_filter.mpr ⟨ma, by simp⟩
      rw [e] at this; cases this
    exact ⟨_, rfl, hne, List.filter_sublist⟩
  have l2 := em v2 2 (by decide)
  have D1 : PyData.tuple [.str "sets", .str t, .tuple [.str b], .str c] = encD (.sets t [b] c) := rfl
  have D2 : PyData.tuple [.str "within", .str t, .str b, .str t, .str c] = encD (.within t b t c) := rfl
  have D3 : PyData.tuple [.str "sets", .str t, .tuple [.str a], .str c] = encD (.sets t [a] c) := rfl
  have D4 : PyData.tuple [.str "sets", .str t, .tuple (kept.map .str), .str d] = encD (.sets t kept d) := rfl
  have l4 : [encD (.sets t [b] c), encD (.within t b t c)].length + [encD (.sets t [a] c), encD (.sets t kept d)].length ≤ lim := by show 4 ≤ lim; decide
  have hx : HasCol s t a ∧ HasCol s t b ∧ HasCol s t c ∧ HasCol s t d := ⟨⟨cols, ht, ma⟩, ⟨cols, ht, mb⟩, ⟨cols, ht, mc⟩, ⟨cols, ht, md⟩⟩
  have fin : ∀ e : Dep, DepOk s e → (∀ d' ∈ [Dep.sets t [b] c, .within t b t c, .sets t [a] c, .sets t kept d, e], DepOk s d') := fun e he x hx' => by
    simp only [List.mem_cons, List.not_mem_nil, or_false] at hx'
    rcases hx' with rfl | rfl | rfl | rfl | rfl
    · exact ⟨cols, ht, by simp, List.singleton_sublist.mpr mb, mc⟩
    · exact ⟨hx.2.1, hx.2.2.1⟩
    · exact ⟨cols, ht, by simp, List.singleton_sublist.mpr ma, mc⟩
    · exact ⟨cols, ht, hk1, hk2, md⟩
    · exact he
  have hL : (M.set p (.lst [.d (.int (v2 / 2))])).length = M.length := by simp
  have l5 : ∀ e : D, [encD (.sets t [b] c), encD (.within t b t c), encD (.sets t [a] c), encD (.sets t kept d)].length + [e].length ≤ lim := fun e => by show 5 ≤ lim; decide
  have E1 : PyData.tuple [.str "within", .str t, .str a, .str t, .str d] = encD (.within t a t d) := rfl
  have E2 : PyData.tuple [.str "many", .str t, .str d, .str t, .str a] = encD (.many t d t a) := rfl
  have hg : ∀ ds : List Dep, giveV .cell M.length (.p M.length) (M.set p (.lst [.d (.int (v2 / 2))]) ++ [.lst ((ds.map encD).map .d)]) = .ok (.p M.length) (M.set p (.lst [.d (.int (v2 / 2))]) ++ [.lst (encDs ds)]) := fun ds => giveV_Ds hL
  simp only [List.map_map, Function.comp_def] at e1
  have e1' := e1
  simp only [List.map_cons, List.map_nil] at e1'
  rcases (show v2 % 2 = 0 ∨ v2 % 2 = 1 by omega) with h0 | h0
  · refine ⟨v2 / 2, [.sets t [b] c, .within t b t c, .sets t [a] c, .sets t kept d, .within t a t d], ?_, fin _ ⟨hx.1, hx.2.2.2⟩, by simp⟩
    simp [F_l_again, c_l_again, List.replicate, len_S, sp_takeP hp ns ns2, et, hT', hr, e1', Function.comp_def, e2, ixN, D1, D2, D3, D4, bin_addl l4, sp_takeP hp (by decide : (0 : Int) < 2) (by decide), h0, E1, E2, bin_addlc (l5 _)]
    exact hg [.sets t [b] c, .within t b t c, .sets t [a] c, .sets t kept d, .within t a t d]
  · refine ⟨v2 / 2, [.sets t [b] c, .within t b t c, .sets t [a] c, .sets t kept d, .many t d t a], ?_, fin _ ⟨hx.2.2.2, hx.1⟩, by simp⟩
    simp [F_l_again, c_l_again, List.replicate, len_S, sp_takeP hp ns ns2, et, hT', hr, e1', Function.comp_def, e2, ixN, D1, D2, D3, D4, bin_addl l4, sp_takeP hp (by decide : (0 : Int) < 2) (by decide), h0, E1, E2, bin_addlc (l5 _)]
    exact hg [.sets t [b] c, .within t b t c, .sets t [a] c, .sets t kept d, .many t d t a]
def encPs (ps : List (Str × Str)) : List Val := (ps.map encP).map .d
theorem encPs_len (ps : List (Str × Str)) : (encPs ps).length = ps.length := by simp [encPs]
theorem encPs_ins (ps : List (Str × Str)) (q : Str × Str) (i : Nat) : (encPs ps).take i ++ Val.d (encP q) :: (encPs ps).drop i = encPs (ps.take i ++ q :: ps.drop i) := by simp [encPs, List.map_take, List.map_drop]
theorem encDs_ins (ps : List Dep) (q : Dep) (i : Nat) : (encDs ps).take i ++ Val.d (encD q) :: (encDs ps).drop i = encDs (ps.take i ++ q :: ps.drop i) := by simp [encDs, List.map_take, List.map_drop]
theorem mem_ins {α : Type} {ps : List α} {q x : α} {i : Nat} (h : x ∈ ps.take i ++ q :: ps.drop i) : x = q ∨ x ∈ ps := by
  rcases List.mem_append.mp h with h | h
  · exact .inr (List.mem_of_mem_take h)
  · rcases List.mem_cons.mp h with h | h
    · exact .inl h
    · exact .inr (List.mem_of_mem_drop h)
theorem len_ins {α : Type} {ps : List α} {q : α} {i : Nat} : (ps.take i ++ q :: ps.drop i).length = ps.length + 1 := by simp; omega
theorem sp_long {n p : Nat} {M : Mem} {v : Int} {s : Scm} (hp : p < M.length) (h : ScmOk s) : ∃ (v' : Int) (ds : List Dep), F_l_long.run n [.p p, .d (encS s)] (M.set p (.lst [.d (.int v)])) = .ok (.p M.length) (M.set p (.lst [.d (.int v')]) ++ [.lst (encDs ds)]) ∧ (∀ d ∈ ds, DepOk s d) ∧ ds.length ≤ 6 := by
  have hl := pairs_len h
  have g1 : dangle (M.length + 1) (some (.p p)) = some (.p p) := dangle_p (by omega)
  have g2 : dangle (M.length + 1) (some (.p M.length)) = some (.p M.length) := dangle_p (by omega)
  obtain ⟨v2, ord, o3, e1, ho1, ho2⟩ : ∃ (v2 : Int) (ord : List (Str × Str)) (o3 : Option Val), foldS none true (M.length + 1) (turnS (.one 3) fun ρ' M' => evSs G_l_long (M.length + 1) ρ' M' b_l_long_1) ((pairsOf s).map fun q => Itm.v (.d (encP q))) [some (.p p), some (.d (encS s)), some (.p M.length), none, none, none, none] (M.set p (.lst [.d (.int v)]) ++ [.lst []])
      = .nx [some (.p p), some (.d (encS s)), some (.p M.length), o3, none, none, none] (M.set p (.lst [.d (.int v2)]) ++ [.lst (encPs ord)]) ∧ ord.length = (pairsOf s).length ∧ ∀ q ∈ ord, q ∈ pairsOf s := by
    generalize hF : foldS _ _ _ _ _ _ _ = o
    obtain ⟨ρ', M', rfl, v2, ord, o3, rfl, rfl, q1, q2⟩ := for_lst hF (fun pre ρ M1 => ∃ (v2 : Int) (ord : List (Str × Str)) (o3 : Option Val), ρ = [some (.p p), some (.d (encS s)), some (.p M.length), o3, none, none, none] ∧ M1 = M.set p (.lst [.d (.int v2)]) ++ [.lst (encPs ord)] ∧ ord.length = pre.length ∧ ∀ q ∈ ord, q ∈ pairsOf s)
      ⟨v, [], none, rfl, rfl, rfl, by simp⟩ (by
      rintro pre q post ρ M1 hx ⟨v2, ord, o3, rfl, rfl, q1, q2⟩
      have hq : q ∈ pairsOf s := by rw [hx]; simp
      have hpl : pre.length ≤ 8 := by rw [hx] at hl; simp at hl; omega
      have nl : 0 < ((ord.length : Int) + 1) := by omega
      have r1 := em v2 (ord.length + 1) nl
      obtain ⟨j, hj⟩ : ∃ j : Nat, v2 % ((ord.length : Int) + 1) = (j : Int) := ⟨(v2 % ((ord.length : Int) + 1)).toNat, by omega⟩
      have hL0 : (M.set p (.lst [.d (.int v2)])).length = M.length := by simp
      have hL : (M.set p (.lst [.d (.int (v2 / ((ord.length : Int) + 1)))])).length = M.length := by simp
      have ins : bmV .v (M.length + 1) .insert (M.set p (.lst [.d (.int (v2 / ((ord.length : Int) + 1)))]) ++ [.lst (encPs ord)]) (.p M.length) [.d (.int (j : Int)), .d (encP q)] = .ok (.d .none) (M.set p (.lst [.d (.int (v2 / ((ord.length : Int) + 1)))]) ++ [.lst (encPs (ord.take j ++ q :: ord.drop j))]) := by
        rw [m_insert (get0 hL) (by rw [encPs_len]; exact by unfold lim; omega) (by omega) (by omega) rfl, set0 hL]
        simp only [Int.toNat_natCast, List.append_assoc, List.cons_append, List.nil_append, encPs_ins]
      have hlen := len_p (vs := encPs ord) (get0 (r := []) hL0)
      rw [encPs_len] at hlen
      have htk : F_l_take.run (M.length + 1) [.p p, .d (.int ((ord.length : Int) + 1))] (M.set p (.lst [.d (.int v2)]) ++ [.lst (encPs ord)]) = _ := sp_takeA hp nl (by omega)
      rw [hj] at htk
      simp [b_l_long_1, recv_p (get0 hL0), hlen, htk, ins, g1, g2, take1 hL]
      exact ⟨_, _, ⟨rfl, rfl⟩, by rw [len_ins, q1], fun a b hm => by
        rcases mem_ins hm with hm | hm
        · rw [hm]; exact hq
        · exact q2 _ hm⟩)
    exact ⟨v2, ord, o3, rfl, q1, q2⟩
  obtain ⟨k, hk, hk6⟩ : ∃ k : Nat, (if (ord.length : Int) - 1 < 6 then (ord.length : Int) - 1 else 6) = (k : Int) ∧ k ≤ 6 ∧ k + 1 ≤ ord.length := by
    split
    · exact ⟨ord.length - 1, by omega, by omega, by omega⟩
    · exact ⟨6, rfl, by omega, by omega⟩
  have hr : rng1V (.d (.int (k : Int))) = some ((List.range k).map fun (i : Nat) => Itm.v (.d (.int (i : Int)))) := rng1_nat (by unfold lim; omega)
  have g3 : dangle (M.length + 2) (some (.p p)) = some (.p p) := dangle_p (by omega)
  have g4 : dangle (M.length + 2) (some (.p M.length)) = some (.p M.length) := dangle_p (by omega)
  have g5 : dangle (M.length + 2) (some (.p (M.length + 1))) = some (.p (M.length + 1)) := dangle_p (by omega)
  obtain ⟨v3, ds, o3', o5, o6, e2, hd1, hd2⟩ : ∃ (v3 : Int) (ds : List Dep) (o3' o5 o6 : Option Val), foldS none true (M.length + 2) (turnS (.one 5) fun ρ' M' => evSs G_l_long (M.length + 2) ρ' M' b_l_long_0) ((List.range k).map fun (i : Nat) => Itm.v (.d (.int (i : Int)))) [some (.p p), some (.d (encS s)), some (.p M.length), o3, some (.p (M.length + 1)), none, none] (M.set p (.lst [.d (.int v2)]) ++ [.lst (encPs ord), .lst []])
      = .nx [some (.p p), some (.d (encS s)), some (.p M.length), o3', some (.p (M.length + 1)), o5, o6] (M.set p (.lst [.d (.int v3)]) ++ [.lst (encPs ord), .lst (encDs ds)]) ∧ (∀ d ∈ ds, DepOk s d) ∧ ds.length = k := by
    generalize hF : foldS _ _ _ _ _ _ _ = o
    obtain ⟨ρ', M', rfl, v3, ds, o3', o5, o6, rfl, rfl, q1, q2⟩ := for_rng hF (fun i ρ M1 => ∃ (v3 : Int) (ds : List Dep) (o3' o5 o6 : Option Val), ρ = [some (.p p), some (.d (encS s)), some (.p M.length), o3', some (.p (M.length + 1)), o5, o6] ∧ M1 = M.set p (.lst [.d (.int v3)]) ++ [.lst (encPs ord), .lst (encDs ds)] ∧ (∀ d ∈ ds, DepOk s d) ∧ ds.length = i)
      ⟨v2, [], o3, none, none, rfl, rfl, by simp, rfl⟩ (by
      rintro i ρ M1 hi ⟨v3, ds, o3', o5, o6, rfl, rfl, q1, q2⟩
      have hi1 : i < ord.length := by omega
      have hi2 : i + 1 < ord.length := by omega
      have ha := ho2 _ (List.getElem_mem hi1)
      have hb := ho2 _ (List.getElem_mem hi2)
      generalize hea : ord[i] = qa at ha
      generalize heb : ord[i + 1] = qb at hb
      have hL0 : (M.set p (.lst [.d (.int v3)])).length = M.length := by simp
      have hL : (M.set p (.lst [.d (.int (v3 / 2))])).length = M.length := by simp
      have ia : idxV (M.set p (.lst [.d (.int v3)]) ++ [.lst (encPs ord), .lst (encDs ds)]) (.p M.length) (.d (.int (i : Int))) = some (.d (encP qa)) := by
        rw [idx_p (get0 hL0), ixN_nat (by rw [encPs_len]; exact hi1), ← hea]
        simp [encPs, hi1]
      have ib : idxV (M.set p (.lst [.d (.int v3)]) ++ [.lst (encPs ord), .lst (encDs ds)]) (.p M.length) (.d (.int ((i : Int) + 1))) = some (.d (encP qb)) := by
        rw [show ((i : Int) + 1) = ((i + 1 : Nat) : Int) by omega, idx_p (get0 hL0), ixN_nat (by rw [encPs_len]; exact hi2), ← heb]
        simp [encPs, hi2]
      have r2 := em v3 2 (by decide)
      have htk : F_l_take.run (M.length + 2) [.p p, .d (.int 2)] (M.set p (.lst [.d (.int v3)]) ++ [.lst (encPs ord), .lst (encDs ds)]) = _ := sp_takeA hp (by decide) (by decide)
      have D1 : PyData.tuple [.str "many", .str qa.1, .str qa.2, .str qb.1, .str qb.2] = encD (.many qa.1 qa.2 qb.1 qb.2) := rfl
      have D2 : PyData.tuple [.str "within", .str qb.1, .str qb.2, .str qa.1, .str qa.2] = encD (.within qb.1 qb.2 qa.1 qa.2) := rfl
      have ap : ∀ d : Dep, bmV .v (M.length + 2) .append (M.set p (.lst [.d (.int (v3 / 2))]) ++ [.lst (encPs ord), .lst (encDs ds)]) (.p (M.length + 1)) [.d (encD d)] = .ok (.d .none) (M.set p (.lst [.d (.int (v3 / 2))]) ++ [.lst (encPs ord), .lst (encDs (ds ++ [d]))]) := fun d => by
        rw [m_append (get1 hL) (by rw [encDs_len]; exact by unfold lim; omega) rfl, set1 hL, encDs_add]
      rcases (show v3 % 2 = 0 ∨ v3 % 2 = 1 by omega) with h0 | h0
      · rw [h0] at htk
        simp [b_l_long_0, ia, ib, add_pp, add_ppp, D1, D2, htk, recv_p (get1 hL0), ixN, ap, g3, g4, g5, take2 hL]
        exact ⟨_, ds ++ [.many qa.1 qa.2 qb.1 qb.2], rfl, fun d hd => by
          rcases List.mem_append.mp hd with hd | hd
          · exact q1 d hd
          · rw [List.mem_singleton.mp hd]; exact ⟨mem_pairs.mp ha, mem_pairs.mp hb⟩, by simp [q2]⟩
      · rw [h0] at htk
        simp [b_l_long_0, ia, ib, add_pp, add_ppp, D1, D2, htk, recv_p (get1 hL0), ixN, ap, g3, g4, g5, take2 hL]
        exact ⟨_, ds ++ [.within qb.1 qb.2 qa.1 qa.2], rfl, fun d hd => by
          rcases List.mem_append.mp hd with hd | hd
          · exact q1 d hd
          · rw [List.mem_singleton.mp hd]; exact ⟨mem_pairs.mp hb, mem_pairs.mp ha⟩, by simp [q2]⟩)
    exact ⟨v3, ds, o3', o5, o6, rfl, q1, q2⟩
  refine ⟨v3, ds, ?_, hd1, by omega⟩
  have hL2 : (M.set p (.lst [.d (.int v2)])).length = M.length := by simp
  have hL3 : (M.set p (.lst [.d (.int v3)])).length = M.length := by simp
  have hlen := len_p (vs := encPs ord) (get0 (r := [.lst []]) hL2)
  rw [encPs_len] at hlen
  have hg := giveV_cellr (L := M.length) (r := M.length + 1) (ds := ds.map encD) (by omega) (get1 (r := []) (A := .lst (encPs ord)) hL3)
  rw [take0 hL3] at hg
  simp [F_l_long, c_l_long, List.replicate, sp_pairs h, Function.comp_def, e1, hlen, hk, hr, e2]
  exact hg
theorem setA {N Y : Mem} {p : Nat} {c : Cell} (hp : p < N.length) : (N ++ Y).set p c = N.set p c ++ Y := List.set_append_left _ _ hp
theorem eight_at {M : Mem} (x : Int) (h0 : 0 ≤ x) (h1 : x < 8) : ∃ k : Nat, k ≤ 6 ∧ idxV M (.d (.list [.int 0, .int 1, .int 2, .int 2, .int 3, .int 4, .int 5, .int 6])) (.d (.int x)) = some (.d (.int (k : Int))) := by
  have : x = 0 ∨ x = 1 ∨ x = 2 ∨ x = 3 ∨ x = 4 ∨ x = 5 ∨ x = 6 ∨ x = 7 := by omega
  rcases this with rfl | rfl | rfl | rfl | rfl | rfl | rfl | rfl
  · exact ⟨0, by decide, by simp [ixN]⟩
  · exact ⟨1, by decide, by simp [ixN]⟩
  · exact ⟨2, by decide, by simp [ixN]⟩
  · exact ⟨2, by decide, by simp [ixN]⟩
  · exact ⟨3, by decide, by simp [ixN]⟩
  · exact ⟨4, by decide, by simp [ixN]⟩
  · exact ⟨5, by decide, by simp [ixN]⟩
  · exact ⟨6, by decide, by simp [ixN]⟩
theorem rules_loop {N : Mem} {p : Nat} {v way : Int} {s : Scm} {ds : List Dep} {k : Nat} (hp : p < N.length) (h : ScmOk s) (hds : ∀ d ∈ ds, DepOk s d) (hl6 : ds.length ≤ 6) (hk : k ≤ 6) :
    ∃ (v' : Int) (ds' : List Dep) (o4 : Option Val), foldS none true (N.length + 1) (turnS (.one 4) fun ρ' M' => evSs G_l_rules (N.length + 1) ρ' M' b_l_rules_0) ((List.range k).map fun (i : Nat) => Itm.v (.d (.int (i : Int)))) [some (.p p), some (.d (encS s)), some (.p N.length), some (.d (.int way)), none] (N.set p (.lst [.d (.int v)]) ++ [.lst (encDs ds)])
      = .nx [some (.p p), some (.d (encS s)), some (.p N.length), some (.d (.int way)), o4] (N.set p (.lst [.d (.int v')]) ++ [.lst (encDs ds')]) ∧ (∀ d ∈ ds', DepOk s d) ∧ ds'.length = ds.length + k := by
  have g1 : dangle (N.length + 1) (some (.p p)) = some (.p p) := dangle_p (by omega)
  have g2 : dangle (N.length + 1) (some (.p N.length)) = some (.p N.length) := dangle_p (by omega)
  generalize hF : foldS _ _ _ _ _ _ _ = o
  obtain ⟨ρ', M', rfl, v2, ds2, o4, rfl, rfl, q1, q2⟩ := for_rng hF (fun i ρ M1 => ∃ (v2 : Int) (ds2 : List Dep) (o4 : Option Val), ρ = [some (.p p), some (.d (encS s)), some (.p N.length), some (.d (.int way)), o4] ∧ M1 = N.set p (.lst [.d (.int v2)]) ++ [.lst (encDs ds2)] ∧ (∀ d ∈ ds2, DepOk s d) ∧ ds2.length = ds.length + i)
    ⟨v, ds, none, rfl, rfl, hds, rfl⟩ (by
    rintro i ρ M1 hi ⟨v2, ds2, o4, rfl, rfl, q1, q2⟩
    have nl : 0 < ((ds2.length : Int) + 1) := by omega
    have r1 := em v2 (ds2.length + 1) nl
    obtain ⟨j, hj⟩ : ∃ j : Nat, v2 % ((ds2.length : Int) + 1) = (j : Int) := ⟨(v2 % ((ds2.length : Int) + 1)).toNat, by omega⟩
    have hL0 : (N.set p (.lst [.d (.int v2)])).length = N.length := by simp
    have hlen := len_p (vs := encDs ds2) (get0 (r := []) hL0)
    rw [encDs_len] at hlen
    have htk : F_l_take.run (N.length + 1) [.p p, .d (.int ((ds2.length : Int) + 1))] (N.set p (.lst [.d (.int v2)]) ++ [.lst (encDs ds2)]) = _ := sp_takeA hp nl (by omega)
    rw [hj] at htk
    obtain ⟨v3, d, e, hd⟩ := sp_dependency (n := N.length + 1) (p := p) (M := N ++ [.lst (encDs ds2)]) (v := v2 / ((ds2.length : Int) + 1)) (by simp; omega) h
    rw [setA hp, setA hp] at e
    have hL : (N.set p (.lst [.d (.int v3)])).length = N.length := by simp
    have ins : bmV .v (N.length + 1) .insert (N.set p (.lst [.d (.int v3)]) ++ [.lst (encDs ds2)]) (.p N.length) [.d (.int (j : Int)), .d (encD d)] = .ok (.d .none) (N.set p (.lst [.d (.int v3)]) ++ [.lst (encDs (ds2.take j ++ d :: ds2.drop j))]) := by
      rw [m_insert (get0 hL) (by rw [encDs_len]; exact by unfold lim; omega) (by omega) (by omega) rfl, set0 hL]
      simp only [Int.toNat_natCast, List.append_assoc, List.cons_append, List.nil_append, encDs_ins]
    simp [b_l_rules_0, recv_p (get0 hL0), hlen, htk, e, ins, g1, g2, take1 hL]
    exact ⟨_, _, ⟨rfl, rfl⟩, fun x hm => by
      rcases mem_ins hm with hm | hm
      · rw [hm]; exact hd
      · exact q1 _ hm, by rw [len_ins, q2]; omega⟩)
  exact ⟨v2, ds2, o4, rfl, q1, q2⟩
theorem sp_rules {n p : Nat} {M : Mem} {v : Int} {s : Scm} (hp : p < M.length) (h : ScmOk s) : ∃ (v' : Int) (ds : List Dep), F_l_rules.run n [.p p, .d (encS s)] (M.set p (.lst [.d (.int v)])) = .ok (.d (.list (ds.map encD))) (M.set p (.lst [.d (.int v')])) ∧ (∀ d ∈ ds, DepOk s d) ∧ ds.length ≤ 12 := by
  have r6 := em v 6 (by decide)
  have htk : F_l_take.run M.length [.p p, .d (.int 6)] (M.set p (.lst [.d (.int v)]) ++ [.lst []]) = _ := sp_takeA hp (by decide) (by decide)
  have hp1 : p < (M ++ [Cell.lst []]).length := by simp; omega
  have hL1 : (M ++ [Cell.lst []]).length = M.length + 1 := by simp
  -- behind the first part
  have fin : ∀ (A : Mem) (v2 : Int) (ds : List Dep) (way : Int), (∀ d ∈ ds, DepOk s d) → ds.length ≤ 6 → ∃ (v' : Int) (ds' : List Dep), endF .frz M.length (evSs G_l_rules M.length [some (.p p), some (.d (encS s)), some (.p (M ++ A).length), some (.d (.int way)), none] ((M ++ A).set p (.lst [.d (.int v2)]) ++ [.lst (encDs ds)])
      (.cons (.fr true (.one 4) (.rng1 (.idx (.lst .v (.cons (.lit (.int 0)) (.cons (.lit (.int 1)) (.cons (.lit (.int 2)) (.cons (.lit (.int 2)) (.cons (.lit (.int 3)) (.cons (.lit (.int 4)) (.cons (.lit (.int 5)) (.cons (.lit (.int 6)) .nil))))))))) (.call 7 [] (.cons (.var 0) (.cons (.lit (.int 8)) .nil))))) b_l_rules_0)
      (.cons (.ret (.var 2)) .nil))) = .ok (.d (.list (ds'.map encD))) (M.set p (.lst [.d (.int v')])) ∧ (∀ d ∈ ds', DepOk s d) ∧ ds'.length ≤ 12 := by
    intro A v2 ds way hds hl
    have hpA : p < (M ++ A).length := by simp; omega
    have htk2 : F_l_take.run M.length [.p p, .d (.int 8)] ((M ++ A).set p (.lst [.d (.int v2)]) ++ [.lst (encDs ds)]) = _ := sp_takeA hpA (by decide) (by decide)
    obtain ⟨k, hk6, hk⟩ := eight_at (M := (M ++ A).set p (.lst [.d (.int (v2 / 8))]) ++ [.lst (encDs ds)]) (v2 % 8) (em v2 8 (by decide)).1 (em v2 8 (by decide)).2
    have hr : rng1V (.d (.int (k : Int))) = some ((List.range k).map fun (i : Nat) => Itm.v (.d (.int (i : Int)))) := rng1_nat (by unfold lim; omega)
    obtain ⟨v3, ds3, o4, e, h1, h2⟩ := rules_loop (N := M ++ A) (p := p) (v := v2 / 8) (way := way) (k := k) hpA h hds hl hk6
    refine ⟨v3, ds3, ?_, h1, by omega⟩
    have hLA : ((M ++ A).set p (.lst [.d (.int v3)])).length = (M ++ A).length := by simp
    have hg := giveV_frzr (L := M.length) (r := (M ++ A).length) (ds := ds3.map encD) (by simp) (get0 (r := []) hLA)
    have ht : ((M ++ A).set p (.lst [.d (.int v3)]) ++ [Cell.lst ((ds3.map encD).map .d)]).take M.length = M.set p (.lst [.d (.int v3)]) := by
      rw [setA hp, List.append_assoc]; exact take0 (by simp)
    rw [ht] at hg
    have hLr : ((M ++ A).set p (.lst [.d (.int (v2 / 8))]) ++ [Cell.lst (encDs ds)]).length = (M ++ A).length + 1 := by simp
    simp [-idx_list, -List.length_append, htk2, hk, hr, hLr, e]
    exact hg
  have ns : ∀ b : Bool, (if b = true then true else true) = true := fun b => by cases b <;> rfl
  by_cases w1 : v % 6 < 2
  · obtain ⟨v1, ds, e, hd, hl⟩ := sp_ring (n := M.length) (M := M ++ [.lst []]) (v := v / 6) hp1 h
    rw [setA hp] at e
    obtain ⟨v', ds', e2, h1, h2⟩ := fin [.lst []] v1 ds (v % 6) hd hl
    refine ⟨v', ds', ?_, h1, h2⟩
    have w2 : ¬ v % 6 = 2 := by omega
    have w3 : ¬ v % 6 = 3 := by omega
    rw [← e2]
    simp [-idx_list, F_l_rules, c_l_rules, List.replicate, htk, w1, w2, w3, e]
  · by_cases w2 : v % 6 = 2
    · obtain ⟨v1, ds, e, hd, hl⟩ := sp_again (n := M.length) (M := M ++ [.lst []]) (v := v / 6) hp1 h
      rw [setA hp] at e
      obtain ⟨v', ds', e2, h1, h2⟩ := fin [.lst []] v1 ds (v % 6) hd hl
      refine ⟨v', ds', ?_, h1, h2⟩
      rw [← e2]
      simp [-idx_list, F_l_rules, c_l_rules, List.replicate, htk, w2, e]
    · by_cases w3 : v % 6 = 3
      · obtain ⟨v1, ds, e, hd, hl⟩ := sp_long (n := M.length) (M := M ++ [.lst []]) (v := v / 6) hp1 h
        rw [setA hp] at e
        obtain ⟨v', ds', e2, h1, h2⟩ := fin [.lst []] v1 ds (v % 6) hd hl
        refine ⟨v', ds', ?_, h1, h2⟩
        rw [← e2]
        simp [-idx_list, F_l_rules, c_l_rules, List.replicate, htk, w3, e]
      · obtain ⟨v', ds', e2, h1, h2⟩ := fin [] (v / 6) [] (v % 6) (by simp) (by simp)
        refine ⟨v', ds', ?_, h1, h2⟩
        have e0 : encDs [] = [] := rfl
        rw [← e2]
        simp [-idx_list, F_l_rules, c_l_rules, List.replicate, htk, w1, w2, w3, e0]
end Fk

/-! SpDraw: databases that a law draws. -/
namespace Fk
open PySem
def ten29 : Int := 10 ^ 29
theorem pow29 {m : Md} {M : Mem} : binV m .pow M (.d (.int 10)) (.d (.int 29)) = .ok (.d (.int ten29)) M := by simp [binV, ten29]
theorem emod_q (x k : Int) (hk : 0 < k) : 0 ≤ x % k ∧ x % k < k := ⟨Int.emod_nonneg x (by omega), Int.emod_lt_of_pos x hk⟩
/-- list cells within a list cell -/
theorem rd_nest {k p : Nat} {M : Mem} : ∀ {ks : List Nat} {dss : List (List D)}, ks.length = dss.length → (∀ (i : Nat) (q : Nat) (ds : List D), ks[i]? = some q → dss[i]? = some ds → M[q]? = some (.lst (ds.map .d))) → (ks.map Val.p).mapM (rd (k + 1) M) = some (dss.map PyData.list)
  | [], [], _, _ => rfl
  | [], _ :: _, h, _ => by simp at h
  | _ :: _, [], h, _ => by simp at h
  | q :: ks, ds :: dss, h, hh => by
    have h0 := hh 0 q ds rfl rfl
    rw [List.map_cons, List.mapM_cons, rd_l h0, rd_nest (p := p) (by simpa using h) fun i q ds e1 e2 => hh (i + 1) q ds (by simpa using e1) (by simpa using e2)]
    rfl
def rowsC (rows : Rows) : Cell := .lst ((rows.map tupI).map .d)
def ptrs (L k : Nat) : List Val := (List.range k).map fun j => .p (L + 1 + j)
theorem ptrs_succ (L k : Nat) : ptrs L (k + 1) = ptrs L k ++ [.p (L + 1 + k)] := by simp [ptrs, List.range_succ]
theorem ptrs_len (L k : Nat) : (ptrs L k).length = k := by simp [ptrs]
/-- the law's number of times -/
theorem times_at {M : Mem} (v : Int) : ∃ tm : Int, (tm = 1 ∨ tm = ten29 - 7) ∧ idxV M (.d (.list [.int 1, .int 1, .int 1, .int (ten29 - 7)])) (.d (.int (v % 4))) = some (.d (.int tm)) := by
  have h := Int.emod_nonneg v (by decide : (4 : Int) ≠ 0)
  have h2 := Int.emod_lt_of_pos v (by decide : (0 : Int) < 4)
  have : v % 4 = 0 ∨ v % 4 = 1 ∨ v % 4 = 2 ∨ v % 4 = 3 := by omega
  rcases this with e | e | e | e <;> rw [e]
  · exact ⟨_, .inl rfl, by simp [ixN]⟩
  · exact ⟨_, .inl rfl, by simp [ixN]⟩
  · exact ⟨_, .inl rfl, by simp [ixN]⟩
  · exact ⟨_, .inr rfl, by simp [ixN]⟩
theorem val_ok {d tm : Int} (h0 : 0 ≤ d) (h1 : d < 5) (ht : tm = 1 ∨ tm = ten29 - 7) : ((d - 1) * tm).natAbs.log2 < 1900 ∧ mulOk (d - 1) tm = true := by
  refine ⟨?_, mulOk_l (by omega) (by omega)⟩
  have key : ((d - 1) * tm).natAbs < 2 ^ 200 := by
    have : d = 0 ∨ d = 1 ∨ d = 2 ∨ d = 3 ∨ d = 4 := by omega
    rcases ht with rfl | rfl <;> rcases this with rfl | rfl | rfl | rfl | rfl <;> decide +kernel
  by_cases z : ((d - 1) * tm).natAbs = 0
  · rw [z]; decide
  · exact Nat.lt_trans ((Nat.log2_lt z).mpr key) (by decide)
theorem row_fit (r : List Int) (hl : r.length ≤ 100) : shp (tupI r) = true := (fit_row hl 0).shp (by omega)
theorem inD_rows (r : List Int) (rows : Rows) : inD (tupI r) (rows.map tupI) = decide (r ∈ rows) := by
  rw [Bool.eq_iff_iff]
  simp only [inD, List.any_map, List.any_eq_true, Function.comp_apply, eqv_tupI, decide_eq_true_eq]
  exact ⟨fun ⟨z, h1, h2⟩ => h2 ▸ h1, fun h => ⟨r, h, rfl⟩⟩
theorem rows_shp {rows : Rows} {w : Nat} (hw : ∀ r ∈ rows, r.length = w) (h5 : w ≤ 5) (hl : rows.length ≤ 100) : shp (.list (rows.map tupI)) = true := shp_list (n := 1) (fun x hx => by
  obtain ⟨r, hr, rfl⟩ := List.mem_map.mp hx
  exact fit_row (by have := hw r hr; omega) 0) (by omega)
/-- a row drawn -/
theorem sp_row {p : Nat} {M : Mem} {cols : List Str} {tm : Int} (hp : p < M.length) (ht : tm = 1 ∨ tm = ten29 - 7) (N : Nat) (Y : Mem) (v : Int) (ρ : Slots) (h0 : ρ[0]? = some (some (.p p))) (h2 : ρ[2]? = some (some (.d (.int tm)))) (hl : ρ.length = 10) :
    ∃ (v' : Int) (r : List Int), foldC none (stepC ρ [9] (.one 9) (fun ρ M => Out.ok true M) fun ρ M => ev G_l_database_v2 N ρ M b_l_database_v2_0) (cols.map fun c => Itm.v (.d (.str c))) [] (M.set p (.lst [.d (.int v)]) ++ Y) = .ok ((r.map PyData.int).map .d) (M.set p (.lst [.d (.int v')]) ++ Y) ∧ r.length = cols.length ∧ ∀ x ∈ r, x.natAbs.log2 < 1900 := by
  generalize hF : foldC _ _ _ _ _ = o
  obtain ⟨vs, M', rfl, v', r, rfl, rfl, q1, q2⟩ := lc_inv hF (fun pre acc M1 => ∃ (v' : Int) (r : List Int), M1 = M.set p (.lst [.d (.int v')]) ++ Y ∧ acc = (r.map PyData.int).map .d ∧ r.length = pre.length ∧ ∀ x ∈ r, x.natAbs.log2 < 1900)
    ⟨v, [], rfl, rfl, rfl, by simp⟩ (by
    rintro pre c post acc M1 hx ⟨v', r, rfl, rfl, q1, q2⟩
    have hv := val_ok (emod_q v' 4 (by decide)).1 (by have := (emod_q v' 4 (by decide)).2; omega) ht
    have tk := fun n : Nat => sp_takeA (n := n) (M := M) (X := Y) (v := v') (s := 4) hp (by decide) (by decide)
    simp [stepC, asg, b_l_database_v2_0, h0, h2, tk, bin_muli hv.2]
    exact ⟨⟨_, rfl⟩, r ++ [(v' % 4 - 1) * tm], by simp, by simp [q1], fun x hx => by
      rcases List.mem_append.mp hx with hx | hx
      · exact q2 x hx
      · simp at hx; subst hx; exact hv.1⟩)
  exact ⟨v', r, rfl, q1, q2⟩
theorem rowsC_new (rows : Rows) : rowsC rows = .lst ((rows.map tupI).map .d) := rfl
/-- rows drawn -/
theorem sp_draw_rows {p L : Nat} {M Z : Mem} {s : Scm} {t : Str} {cols : List Str} {tm : Int} (hp : p < M.length) (ht : tm = 1 ∨ tm = ten29 - 7) (hT : TabOk (t, cols)) (hL : (M ++ Z).length = L) (q : Nat) (hq : q < L) (v : Int) (k : Nat) (hk : k ≤ 5) (o7 o8 : Option Val) :
    ∃ (v' : Int) (rows : Rows) (o7' o8' : Option Val), foldS none true (L + 1) (turnS (.one 7) fun ρ' M' => evSs G_l_database_v2 (L + 1) ρ' M' b_l_database_v2_1) ((List.range k).map fun (i : Nat) => Itm.v (.d (.int (i : Int))))
      [some (.p p), some (.d (encS s)), some (.d (.int tm)), some (.p q), some (.d (.str t)), some (.d (.tuple (cols.map .str))), some (.p L), o7, o8, none] (M.set p (.lst [.d (.int v)]) ++ (Z ++ [rowsC []]))
      = .nx [some (.p p), some (.d (encS s)), some (.d (.int tm)), some (.p q), some (.d (.str t)), some (.d (.tuple (cols.map .str))), some (.p L), o7', o8', none] (M.set p (.lst [.d (.int v')]) ++ (Z ++ [rowsC rows]))
      ∧ rows.length ≤ k ∧ rows.Nodup ∧ ∀ r ∈ rows, r.length = cols.length ∧ ∀ x ∈ r, x.natAbs.log2 < 1900 := by
  generalize hF : foldS _ _ _ _ _ _ _ = o
  obtain ⟨ρ', M', rfl, v', rows, o7', o8', rfl, rfl, q1, q2, q3⟩ := for_rng hF (fun i ρ M1 => ∃ (v' : Int) (rows : Rows) (o7' o8' : Option Val), ρ = [some (.p p), some (.d (encS s)), some (.d (.int tm)), some (.p q), some (.d (.str t)), some (.d (.tuple (cols.map .str))), some (.p L), o7', o8', none] ∧ M1 = M.set p (.lst [.d (.int v')]) ++ (Z ++ [rowsC rows]) ∧ rows.length ≤ i ∧ rows.Nodup ∧ ∀ r ∈ rows, r.length = cols.length ∧ ∀ x ∈ r, x.natAbs.log2 < 1900)
    ⟨v, [], o7, o8, rfl, rfl, by simp, by simp, by simp⟩ (by
    rintro i ρ M1 hi ⟨v', rows, o7', o8', rfl, rfl, q1, q2, q3⟩
    obtain ⟨v2, r, e2, r1, r2⟩ := sp_row (cols := cols) hp ht (L + 1) (Z ++ [rowsC rows]) v' [some (.p p), some (.d (encS s)), some (.d (.int tm)), some (.p q), some (.d (.str t)), some (.d (.tuple (cols.map .str))), some (.p L), some (.d (.int i)), o8', none] rfl rfl rfl
    have hL2 : (M.set p (.lst [.d (.int v2)]) ++ Z).length = L := by simpa using hL
    have hcl := hT.l5
    have sh := rows_shp (rows := rows) (w := cols.length) (fun r hr => (q3 r hr).1) (by have := hT.l5; exact this) (by omega)
    have sh2 := row_fit r (by have := hT.l5; simp at this; omega)
    have d1 : dangle (L + 1) (some (.p p)) = some (.p p) := dangle_p (by rw [← hL]; simp; omega)
    have d2 : dangle (L + 1) (some (.p q)) = some (.p q) := dangle_p (by omega)
    have d3 : dangle (L + 1) (some (.p L)) = some (.p L) := dangle_p (by omega)
    have tk : ∀ (v : Int) (rows : Rows), List.take (L + 1) (M.set p (.lst [.d (.int v)]) ++ (Z ++ [rowsC rows])) = M.set p (.lst [.d (.int v)]) ++ (Z ++ [rowsC rows]) := fun v rows => List.take_of_length_le (by rw [← hL]; simp; omega)
    have gL : ∀ (v : Int) (rows : Rows), (M.set p (.lst [.d (.int v)]) ++ (Z ++ [rowsC rows]))[L]? = some (rowsC rows) := fun v rows => by
      rw [← List.append_assoc]; exact get0 (by simpa using hL)
    have ni : cmpV.memV (M.set p (.lst [.d (.int v2)]) ++ (Z ++ [rowsC rows])) (.d (.tuple (r.map .int))) (.p L) = some (decide (r ∈ rows)) := by
      show cmpV.memV _ (.d (tupI r)) _ = _
      rw [mem_p (gL v2 rows) sh2 sh, inD_rows]
    have ap : bmV .v (L + 1) .append (M.set p (.lst [.d (.int v2)]) ++ (Z ++ [rowsC rows])) (.p L) [.d (.tuple (r.map .int))] = .ok (.d .none) (M.set p (.lst [.d (.int v2)]) ++ (Z ++ [rowsC (rows ++ [r])])) := by
      rw [m_append (gL v2 rows) (by simp; unfold lim; omega) rfl, ← List.append_assoc, set0 (by simpa using hL)]
      simp [rowsC, tupI]
    rw [show (cols.map fun c => Itm.v (.d (.str c))) = cols.map (Itm.v ∘ Val.d ∘ PyData.str) from rfl] at e2
    by_cases hr : r ∈ rows
    · simp [b_l_database_v2_1, e2, d1, d2, d3, ni, hr, tk, recv_p (gL v2 rows)]
      exact ⟨_, _, rfl, by omega, q2, q3⟩
    · simp [b_l_database_v2_1, e2, d1, d2, d3, ni, hr, tk, ap, recv_p (gL v2 rows)]
      exact ⟨_, _, rfl, by simp; omega, List.nodup_append.mpr ⟨q2, by simp, fun a ha b hb => by simp at hb; subst hb; exact fun e => hr (e ▸ ha)⟩, fun z hz => by
        rcases List.mem_append.mp hz with hz | hz
        · exact q3 z hz
        · simp at hz; subst hz; exact ⟨r1, r2⟩⟩)
  exact ⟨v', rows, o7', o8', rfl, q1, q2, q3⟩
/-- the law's database -/
theorem sp_database_v2 {n p : Nat} {M : Mem} {s : Scm} {v : Int} (hp : p < M.length) (hs : ScmOk s) :
    ∃ v' db, F_l_database_v2.run n [.p p, .d (encS s)] (M.set p (.lst [.d (.int v)])) = .ok (.d (encDb db)) (M.set p (.lst [.d (.int v')])) ∧ DbOk s db ∧ ∀ rows ∈ db, rows.length ≤ 5 := by
  have tk := fun (n : Nat) (X : Mem) (v : Int) => sp_takeA (n := n) (M := M) (X := X) (v := v) (s := 4) hp (by decide) (by decide)
  have tk6 := fun (n : Nat) (X : Mem) (v : Int) => sp_takeA (n := n) (M := M) (X := X) (v := v) (s := 6) hp (by decide) (by decide)
  have t0 := fun (n : Nat) => tk n [] v
  simp at t0
  obtain ⟨tm, ht, e0⟩ := times_at (M := M.set p (.lst [.d (.int (v / 4))])) v
  have hit : ∀ M : Mem, itemsOf M (.d (encS s)) = some ((s.map encT).map .d) := fun M => rfl
  simp [F_l_database_v2, c_l_database_v2, List.replicate, t0, pow29, e0, hit]
  rw [show s.map (Itm.v ∘ Val.d ∘ encT) = s.map fun t => Itm.v (.d (encT t)) from rfl]
  generalize hF : foldS _ _ _ _ _ _ _ = o
  obtain ⟨ρ', M', rfl, v', dbs, o4, o5, o6, o7, o8, rfl, rfl, q1, q3, q2⟩ := for_lst hF (fun pre ρ M1 => ∃ (v' : Int) (dbs : List Rows) (o4 o5 o6 o7 o8 : Option Val), ρ = [some (.p p), some (.d (encS s)), some (.d (.int tm)), some (.p M.length), o4, o5, o6, o7, o8, none] ∧ M1 = M.set p (.lst [.d (.int v')]) ++ (.lst (ptrs M.length dbs.length) :: dbs.map rowsC) ∧ dbs.length = pre.length ∧ (∀ rows ∈ dbs, rows.length ≤ 5) ∧ ∀ (i : Nat) (t : Str × List Str) (rows : Rows), pre[i]? = some t → dbs[i]? = some rows → RowsOk t.2.length rows)
    ⟨_, [], none, none, none, none, none, rfl, rfl, rfl, by simp, by simp⟩ (by
    rintro pre ⟨t, cols⟩ post ρ M1 hx ⟨v', dbs, o4, o5, o6, o7, o8, rfl, rfl, q1, q3, q2⟩
    have e6 : F_l_take.run M.length [.p p, .d (.int 6)] (M.set p (.lst [.d (.int v')]) ++ .lst (ptrs M.length dbs.length) :: (dbs.map rowsC ++ [.lst []])) = .ok (.d (.int (v' % 6))) (M.set p (.lst [.d (.int (v' / 6))]) ++ .lst (ptrs M.length dbs.length) :: (dbs.map rowsC ++ [.lst []])) := tk6 _ _ _
    have hm6 := emod_q v' 6 (by decide)
    obtain ⟨k, hk⟩ : ∃ k : Nat, v' % 6 = k := ⟨(v' % 6).toNat, by omega⟩
    have hr : rng1V (.d (.int (k : Int))) = some ((List.range k).map fun (i : Nat) => Itm.v (.d (.int (i : Int)))) := rng1_nat (by unfold lim; omega)
    have hts : (t, cols) ∈ s := by rw [hx]; simp
    have hT := hs.ts _ hts
    obtain ⟨v2, rows, o7', o8', e2, r1, r2, r3⟩ := sp_draw_rows (M := M) (Z := .lst (ptrs M.length dbs.length) :: dbs.map rowsC) (L := M.length + (dbs.length + 1)) (s := s) (v := v' / 6) hp ht hT (by simp) M.length (by omega) k (by omega) o7 o8
    have e2' : foldS none true (M.length + (dbs.length + 1 + 1)) (turnS (.one 7) fun ρ' M' => evSs G_l_database_v2 (M.length + (dbs.length + 1 + 1)) ρ' M' b_l_database_v2_1) ((List.range k).map fun (i : Nat) => Itm.v (.d (.int (i : Int))))
      [some (.p p), some (.d (encS s)), some (.d (.int tm)), some (.p M.length), some (.d (.str t)), some (.d (.tuple (cols.map .str))), some (.p (M.length + (dbs.length + 1))), o7, o8, none] (M.set p (.lst [.d (.int (v' / 6))]) ++ .lst (ptrs M.length dbs.length) :: (dbs.map rowsC ++ [.lst []])) = _ := e2
    have g0 : (M.set p (.lst [.d (.int v2)]) ++ .lst (ptrs M.length dbs.length) :: (dbs.map rowsC ++ [rowsC rows]))[M.length]? = some (.lst (ptrs M.length dbs.length)) := get0 (by simp)
    have hlen := hs.l3
    have hdl : dbs.length < s.length := by rw [q1, hx]; simp
    have ap : bmV .v M.length .append (M.set p (.lst [.d (.int v2)]) ++ .lst (ptrs M.length dbs.length) :: (dbs.map rowsC ++ [rowsC rows])) (.p M.length) [.p (M.length + (dbs.length + 1))] = .ok (.d .none) (M.set p (.lst [.d (.int v2)]) ++ .lst (ptrs M.length (dbs.length + 1)) :: (dbs.map rowsC ++ [rowsC rows])) := by
      rw [m_append g0 (by rw [ptrs_len]; unfold lim; omega) (by simp [mayPut]), set0 (by simp), ptrs_succ]
      simp [Nat.add_assoc, Nat.add_comm 1]
    simp [b_l_database_v2_2, encT, e6, hk, hr, e2', recv_p g0, ap]
    refine ⟨v2, dbs ++ [rows], by simp, by simp [q1], fun rs hrs => ?_, fun i a b rs h1 h2 => ?_⟩
    · rcases List.mem_append.mp hrs with hrs | hrs
      · exact q3 rs hrs
      · simp at hrs; subst hrs; omega
    rcases Nat.lt_trichotomy i pre.length with h | h | h
    · rw [List.getElem?_append_left h] at h1
      rw [List.getElem?_append_left (by omega)] at h2
      exact q2 i (a, b) rs h1 h2
    · subst h
      rw [← q1] at h2
      simp at h1 h2
      subst h2
      rw [← h1.2]
      exact ⟨fun r hr => (r3 r hr).1, r2, by omega, fun r hr => (r3 r hr).2⟩
    · rw [List.getElem?_eq_none (by simp; omega)] at h1
      simp at h1)
  refine ⟨v', dbs, ?_, ⟨q1, fun i t rows => q2 i t rows⟩, q3⟩
  have hg : (kill M.length (M.set p (.lst [.d (.int v')]) ++ .lst (ptrs M.length dbs.length) :: dbs.map rowsC))[M.length]? = some (.lst (ptrs M.length dbs.length)) := by
    rw [kill_get, if_neg (by omega)]; exact get0 (by simp)
  have hn : (ptrs M.length dbs.length).mapM (rd 2 (kill M.length (M.set p (.lst [.d (.int v')]) ++ .lst (ptrs M.length dbs.length) :: dbs.map rowsC))) = some (dbs.map encRows) := by
    have e := rd_nest (k := 1) (p := p) (M := kill M.length (M.set p (.lst [.d (.int v')]) ++ .lst (ptrs M.length dbs.length) :: dbs.map rowsC)) (ks := (List.range dbs.length).map fun j => M.length + 1 + j) (dss := dbs.map fun r => r.map tupI) (by simp) (fun i q ds h1 h2 => by
      simp only [List.getElem?_map, Option.map_eq_some_iff] at h1 h2
      obtain ⟨j, hj, rfl⟩ := h1
      obtain ⟨rows, hr, rfl⟩ := h2
      obtain ⟨hj1, hj2⟩ := List.getElem?_eq_some_iff.mp hj
      rw [List.getElem_range] at hj2
      subst hj2
      rw [kill_get, if_neg (by omega), List.getElem?_append_right (by simp; omega), show M.length + 1 + i - (M.set p (.lst [.d (.int v')])).length = i + 1 by simp; omega, List.getElem?_cons_succ, List.getElem?_map, hr]
      rfl)
    rw [List.map_map, List.map_map] at e
    exact e
  have ht : List.take M.length (M.set p (.lst [.d (.int v')]) ++ .lst (ptrs M.length dbs.length) :: dbs.map rowsC) = M.set p (.lst [.d (.int v')]) := take0 (by simp)
  simp [giveV, rd, hg, hn, ht, encDb]
end Fk

/-! SpFirst: a law's own search for two rows that break a rule. -/
namespace Fk
open PySem
theorem for_rngA {enc : Nat → Itm} {g : Option Nat} {tr : Bool} {L m : Nat} {f : Itm → Slots → Mem → OutS} {ρ : Slots} {M : Mem} {o : OutS} (e : foldS g tr L f ((List.range m).map enc) ρ M = o) (I : Nat → Slots → Mem → Prop) (R : Val → Mem → Prop) (h0 : I 0 ρ M)
    (hs : ∀ i ρ M, i < m → I i ρ M → (f (enc i) ρ M).anyP (fun ρ' M' => (∀ k, g = some k → M'[k]? = M[k]?) ∧ I (i + 1) (cutS tr L ρ') (cutM tr L M')) R fun _ _ => False) : o.anyP (I m) R fun _ _ => False := by
  have key := for_any e (fun pre => I pre.length) R (fun _ _ => False) h0 (fun pre x post ρ M hx h => by
    have hl : (List.range m)[pre.length]? = some x := by rw [hx]; simp
    obtain ⟨h1, h2⟩ := List.getElem?_eq_some_iff.mp hl
    rw [List.getElem_range] at h2
    subst h2
    simpa using hs _ ρ M (by simpa using h1) h)
  simpa using key
theorem filter_one {α : Type} (p : α → Bool) (i : α) : ∀ {l : List α}, l.Nodup → i ∈ l → p i = true → (∀ j ∈ l, p j = true → j = i) → l.filter p = [i]
  | [], _, h, _, _ => by cases h
  | x :: r, hn, h, hp, hu => by
    have hn := List.nodup_cons.mp hn
    by_cases e : x = i
    · subst e
      rw [List.filter_cons_of_pos hp, List.filter_eq_nil_iff.mpr fun j hj hpj => hn.1 (hu j (List.mem_cons_of_mem _ hj) hpj ▸ hj)]
    · rw [List.filter_cons_of_neg fun hpx => e (hu x (by simp) hpx)]
      exact filter_one p i hn.2 (by rcases List.mem_cons.mp h with h | h; exact absurd h.symm e; exact h) hp fun j hj => hu j (List.mem_cons_of_mem _ hj)
theorem sp_places {n : Nat} {M : Mem} {s : Scm} {t : Str} {cols xs : List Str} (hs : ScmOk s) (ht : (t, cols) ∈ s) (hx : ∀ x ∈ xs, x ∈ cols) : F_l_places.run n [.d (encS s), .d (.str t), .d (.tuple (xs.map .str))] M = .ok (.d (.list (xs.map fun x => .int (cols.idxOf x : Nat)))) M := by
  simp [F_l_places, c_l_places, List.replicate, sp_columns hs ht]
  generalize hF : foldC _ _ _ _ _ = o
  cases lc_map hF (fun x : Str => .int (cols.idxOf x : Nat)) (by
    intro x h
    simp [b_l_places_0, index_col hs ht (hx x h)])
  simp
theorem sp_lrows {n : Nat} {M : Mem} {s : Scm} {db : Db} {t : Str} {cols : List Str} (hs : ScmOk s) (h : DbOk s db) (ht : (t, cols) ∈ s) : F_l_rows.run n [.d (encS s), .d (encDb db), .d (.str t)] M = .ok (.d (encRows (rowsIn s db t))) M := by
  have hk := nm_strOk (hs.nm1 ht)
  obtain ⟨i, hi, hd⟩ := rowsIn_at hs h ht
  have hl3 := hs.l3
  have hr : rng1V (.d (.int (s.length : Int))) = some ((List.range s.length).map fun (i : Nat) => Itm.v (.d (.int (i : Int)))) := rng1_nat (by unfold lim; omega)
  have ln : ∀ M : Mem, bltV .v .len M [.d (encS s)] = .ok (.d (.int (s.length : Int))) M := fun M => by simp [encS]
  simp [F_l_rows, c_l_rows, List.replicate, ln, hr]
  generalize hF : foldC _ _ _ _ _ = o
  have is : ∀ (j : Nat) (hj : j < s.length), idxV M (.d (encS s)) (.d (.int (j : Int))) = some (.d (encT s[j])) := fun j hj => by
    show idxV M (.d (.list (s.map encT))) _ = _
    rw [idx_list, ixN_nat (by simpa using hj)]; simp [hj]
  have idb : ∀ (j : Nat) (hj : j < s.length), idxV M (.d (encDb db)) (.d (.int (j : Int))) = some (.d (encRows (db[j]'(by rw [h.l]; exact hj)))) := fun j hj => by
    show idxV M (.d (.list (db.map encRows))) _ = _
    rw [idx_list, ixN_nat (by simpa [h.l] using hj)]; simp [h.l, hj]
  cases lc_flt (enc := fun (i : Nat) => Itm.v (.d (.int (i : Int)))) hF (fun j => (s.getD j ("", [])).1 == t) (fun j => encRows (db.getD j [])) (by
    intro j hj
    have hj : j < s.length := by simpa using hj
    have hT' : encT s[j] = .tuple [.str s[j].1, .tuple (s[j].2.map .str)] := rfl
    have hk2 := nm_strOk (hs.ts s[j] (List.getElem_mem hj)).n
    have hg : s.getD j ("", []) = s[j] := by simp [List.getD_eq_getElem?_getD, hj]
    have hg2 : db.getD j [] = db[j]'(by rw [h.l]; exact hj) := by
      have : j < db.length := by rw [h.l]; exact hj
      simp [List.getD_eq_getElem?_getD, this]
    rw [hg, hg2]
    by_cases he : s[j].1 = t
    · simp [b_l_rows_0, b_l_rows_1, is j hj, idb j hj, hT', ixN, cmp_eq, hk, hk2, he]
    · simp [b_l_rows_0, b_l_rows_1, is j hj, idb j hj, hT', ixN, cmp_eq, hk, hk2, he])
  have il : i < s.length := (List.getElem?_eq_some_iff.mp hi).1
  have key : (List.range s.length).filter (fun j => (s.getD j ("", [])).1 == t) = [i] := by
    have gt : ∀ j (hj : j < s.length), s.getD j ("", []) = s[j] := fun j hj => by simp [List.getD_eq_getElem?_getD, hj]
    have hi' : s[i] = (t, cols) := by rw [List.getElem?_eq_getElem il] at hi; simpa using hi
    refine filter_one _ i List.nodup_range (by simpa using il) (by rw [gt i il, hi']; simp) fun j hj hp => ?_
    have hj : j < s.length := by simpa using hj
    rw [gt j hj] at hp
    have e1 : (s.map (·.1))[j]'(by simpa using hj) = (s.map (·.1))[i]'(by simpa using il) := by simp [hi', beq_iff_eq.mp hp]
    have pw := List.pairwise_iff_getElem.mp (show (s.map (·.1)).Pairwise (· ≠ ·) from hs.nd)
    rcases Nat.lt_trichotomy j i with hl | hl | hl
    · exact absurd e1 (pw j i (by simpa using hj) (by simpa using il) hl)
    · exact hl
    · exact absurd e1.symm (pw i j (by simpa using il) (by simpa using hj) hl)
  rw [key]
  simp [ixN, List.getD_eq_getElem?_getD, hd]
theorem eqv_nil (ds : List D) : PyData.eqv (.list ds) (.list []) = ds.isEmpty := by cases ds <;> rfl
theorem idx_rows {M : Mem} {rows : Rows} {i : Nat} (h : i < rows.length) : idxV M (.d (encRows rows)) (.d (.int (i : Int))) = some (.d (tupI rows[i])) := by
  show idxV M (.d (.list (rows.map tupI))) _ = _
  rw [idx_list, ixN_nat (by simpa using h)]; simp [h]
/-- the law's search -/
theorem sp_first {n : Nat} {M : Mem} {s : Scm} {db : Db} {t a : Str} {xs : List Str} (hs : ScmOk s) (h : DbOk s db) (hd : DepOk s (.sets t xs a)) : F_l_first.run n [.d (encS s), .d (encDb db), .d (encD (.sets t xs a))] M = .ok (.d (encO (brkSets s db t xs a))) M := by
  obtain ⟨cols, ht, hx0, hxs, ha⟩ := hd
  have e0 : colsIn s t = cols := colsIn_mem hs ht
  have ok := rowsIn_ok hs h ht
  have l5 : cols.length ≤ 5 := (hs.ts _ ht).l5
  have p1 := fun (n : Nat) (M : Mem) => sp_places (n := n) (M := M) (xs := xs) hs ht fun x hx => hxs.subset hx
  have p2 := fun (n : Nat) (M : Mem) => sp_places (n := n) (M := M) (xs := [a]) hs ht (by simpa using ha)
  have p3 := fun (n : Nat) (M : Mem) => sp_lrows (n := n) (M := M) hs h ht
  have rl := ok.l
  have hP : prsOf s db t xs a = (rowsIn s db t).map fun r => (keyOf cols xs r, r.getD (cols.idxOf a) 0) := by unfold prsOf; rw [e0]
  have hb : brkSets s db t xs a = bestOf ((rowsIn s db t).map fun r => (keyOf cols xs r, r.getD (cols.idxOf a) 0)) := by unfold brkSets; rw [hP]
  rw [hb]
  clear hb hP
  generalize hrows : rowsIn s db t = rows at ok rl p3
  have lt := fun (c : Str) (hc : c ∈ cols) => (List.idxOf_lt_length_iff.mpr hc : cols.idxOf c < cols.length)
  have hr : rng1V (.d (.int (rows.length : Int))) = some ((List.range rows.length).map fun (i : Nat) => Itm.v (.d (.int (i : Int)))) := rng1_nat (by unfold lim; omega)
  have ln : ∀ M : Mem, bltV .v .len M [.d (encRows rows)] = .ok (.d (.int (rows.length : Int))) M := fun M => by simp [encRows]
  simp at p2
  simp [F_l_first, c_l_first, List.replicate, encD, ixN, p1, p2, p3, hr, ln]
  let f := fun r : List Int => (keyOf cols xs r, r.getD (cols.idxOf a) 0)
  have hP : (rows.map fun r => (keyOf cols xs r, r[cols.idxOf a]?.getD 0)) = rows.map f := by simp [f]
  rw [hP]
  have cf : ∀ i j (hi : i < rows.length) (hj : j < rows.length), Cf (rows.map f) i j ↔ i < j ∧ keyOf cols xs rows[i] = keyOf cols xs rows[j] ∧ rows[i].getD (cols.idxOf a) 0 ≠ rows[j].getD (cols.idxOf a) 0 := fun i j hi hj => by
    unfold Cf
    constructor
    · rintro ⟨h1, k, v, w, h2, h3, h4⟩
      simp [hi] at h2
      simp [hj] at h3
      obtain ⟨e1, e2⟩ := Prod.mk.inj h2
      obtain ⟨e3, e4⟩ := Prod.mk.inj h3
      exact ⟨h1, e1.trans e3.symm, by rw [e2, e4]; exact h4⟩
    · rintro ⟨h1, h2, h3⟩
      exact ⟨h1, keyOf cols xs rows[i], _, _, by simp [hi]; rfl, by simp [hj]; rw [h2]; rfl, h3⟩
  have cfl : ∀ i j, Cf (rows.map f) i j → j < rows.length := fun i j hc => by
    obtain ⟨_, _, _, _, _, h3, _⟩ := hc
    simpa using (List.getElem?_eq_some_iff.mp h3).1
  have gk : ∀ r r' : List Int, keyOf cols xs r = keyOf cols xs r' ↔ (xs.filter fun x => !(r.getD (cols.idxOf x) 0 == r'.getD (cols.idxOf x) 0)) = [] := fun r r' => by
    unfold keyOf
    rw [List.filter_eq_nil_iff, List.map_inj_left]
    simp
  generalize hF : foldS _ _ _ _ _ _ _ = o
  have key := for_rngA hF (fun i ρ M1 => M1 = M ∧ (∃ o6 o7 o8 : Option Val, ρ = [some (.d (encS s)), some (.d (encDb db)), some (.d (.tuple [.str "sets", .str t, .tuple (xs.map .str), .str a])), some (.d (.list (xs.map fun x => .int (cols.idxOf x : Nat)))), some (.d (.int (cols.idxOf a : Nat))), some (.d (encRows rows)), o6, o7, o8, none]) ∧ ∀ i' j, i' < i → ¬ Cf (rows.map f) i' j) (fun v M1 => M1 = M ∧ v = .d (encO (bestOf (rows.map f))))
    ⟨rfl, ⟨none, none, none, rfl⟩, by simp⟩ (by
    rintro i ρ M1 hi ⟨rfl, ⟨o6, o7, o8, rfl⟩, hn⟩
    have hr2 : rng2V (.d (.int ((i : Int) + 1))) (.d (.int (rows.length : Int))) = some ((List.range (rows.length - (i + 1))).map fun (x : Nat) => Itm.v (.d (.int ((i : Int) + 1 + x)))) := by
      have hc : -(2 ^ 62) ≤ (i : Int) + 1 ∧ (i : Int) + 1 < 2 ^ 62 ∧ -(2 ^ 62) ≤ (rows.length : Int) ∧ (rows.length : Int) < 2 ^ 62 ∧ (rows.length : Int) - ((i : Int) + 1) ≤ lim := by
        refine ⟨by omega, by omega, by omega, by omega, by unfold lim; omega⟩
      simp only [rng2V, if_pos hc, show ((rows.length : Int) - ((i : Int) + 1)).toNat = rows.length - (i + 1) by omega]
    simp [b_l_first_3, ln, hr2]
    generalize hF2 : foldS _ _ _ _ _ _ _ = o2
    have key2 := for_rngA hF2 (fun x ρ M2 => M2 = M1 ∧ (∃ o7 o8 : Option Val, ρ = [some (.d (encS s)), some (.d (encDb db)), some (.d (.tuple [.str "sets", .str t, .tuple (xs.map .str), .str a])), some (.d (.list (xs.map fun x => .int (cols.idxOf x : Nat)))), some (.d (.int (cols.idxOf a : Nat))), some (.d (encRows rows)), some (.d (.int (i : Int))), o7, o8, none]) ∧ ∀ j, j < i + 1 + x → ¬ Cf (rows.map f) i j) (fun v M2 => M2 = M1 ∧ v = .d (encO (bestOf (rows.map f))))
      ⟨rfl, ⟨o7, o8, rfl⟩, fun j hj hc => by have := hc.1; omega⟩ (by
      rintro x ρ M2 hx ⟨rfl, ⟨o7, o8, rfl⟩, hn2⟩
      obtain ⟨j, ej, ej2⟩ : ∃ j : Nat, (i : Int) + 1 + x = j ∧ j = i + 1 + x := ⟨i + 1 + x, by omega, rfl⟩
      have hj : j < rows.length := by omega
      have li := ok.w rows[i] (List.getElem_mem hi)
      have lj := ok.w rows[j] (List.getElem_mem hj)
      have ir := fun M => idx_rows (M := M) hi
      have jr := fun M => idx_rows (M := M) hj
      simp only [ej]
      simp [b_l_first_2]
      generalize hF3 : foldC _ _ _ _ _ = o3
      cases lc_flt (enc := fun x : Str => Itm.v (.d (.int (cols.idxOf x : Nat)))) hF3 (fun x => !(rows[i].getD (cols.idxOf x) 0 == rows[j].getD (cols.idxOf x) 0)) (fun x => .int (cols.idxOf x : Nat)) (by
        intro c hc
        have hcl := lt c (hxs.subset hc)
        have r1 := fun M => idx_row (M := M) (r := rows[i]) (i := cols.idxOf c) (by omega)
        have r2 := fun M => idx_row (M := M) (r := rows[j]) (i := cols.idxOf c) (by omega)
        by_cases he : rows[i].getD (cols.idxOf c) 0 = rows[j].getD (cols.idxOf c) 0
        · simp at he
          simp [b_l_first_0, b_l_first_1, ir, jr, r1, r2, he]
        · simp at he
          simp [b_l_first_0, b_l_first_1, ir, jr, r1, r2, he])
      have cE : ∀ (l : List Str) (M : Mem), l.length ≤ 5 → cmpV .eq M (.d (.list (l.map fun x => .int (cols.idxOf x : Nat)))) (.d (.list [])) = some l.isEmpty := fun l M hl => by
        rw [cmp_eq (shp_list (n := 0) (fun x hx => by
          obtain ⟨c, _, rfl⟩ := List.mem_map.mp hx
          trivial) (by omega)) rfl, eqv_nil]
        simp
      have xl := hxs.length_le
      have fl := List.length_filter_le (fun x => !(rows[i].getD (cols.idxOf x) 0 == rows[j].getD (cols.idxOf x) 0)) xs
      have ci := cf i j hi hj
      have gij := gk rows[i] rows[j]
      generalize List.filter (fun x => !(rows[i].getD (cols.idxOf x) 0 == rows[j].getD (cols.idxOf x) 0)) xs = l at fl gij
      have hc := cE l M2 (by omega)
      have ra := fun M => idx_row (M := M) (r := rows[i]) (i := cols.idxOf a) (by have := lt a ha; omega)
      have rb := fun M => idx_row (M := M) (r := rows[j]) (i := cols.idxOf a) (by have := lt a ha; omega)
      have nc : i < j := by omega
      rw [show (l.map fun x => Val.d (PyData.int (cols.idxOf x : Nat))) = (l.map fun x => PyData.int (cols.idxOf x : Nat)).map Val.d by simp]
      have nx : ∀ {b : Prop}, ¬ b → (Cf (rows.map f) i j ↔ b) → ∀ j', j' < i + 1 + (x + 1) → ¬ Cf (rows.map f) i j' := fun hb hcf j' hj' hc => by
        by_cases e : j' < i + 1 + x
        · exact hn2 j' e hc
        · have : j' = j := by omega
          subst this
          exact hb (hcf.mp hc)
      by_cases hl : l = []
      · subst hl
        simp only [List.map_nil, List.isEmpty_nil] at hc
        by_cases hv : rows[i].getD (cols.idxOf a) 0 = rows[j].getD (cols.idxOf a) 0
        · have hv' := hv
          simp at hv'
          simp [hc, ir, jr, ra, rb, hv']
          exact nx (fun z => z.2.2 hv) ci
        · have hv' := hv
          simp at hv'
          simp [hc, ir, jr, ra, rb, hv']
          have hcf := ci.mpr ⟨nc, gij.mpr rfl, hv⟩
          rw [best_uniq (best_is (rows.map f)) (show IsBest (rows.map f) (some (i, j)) from ⟨hcf, fun i' j' hc' => by
            by_cases e : i' < i
            · exact absurd hc' (hn i' j' e)
            · by_cases e2 : i = i'
              · subst e2
                by_cases e3 : j' < i + 1 + x
                · exact absurd hc' (hn2 j' e3)
                · exact .inr ⟨rfl, by omega⟩
              · exact .inl (by omega)⟩)]
          rfl
      · have : l.isEmpty = false := by simpa using hl
        rw [this] at hc
        simp [hc]
        exact nx (fun z => hl (gij.mp z.2.1)) ci)
    rcases anyP_ok key2 with ⟨ρ', M', rfl, rfl, ⟨o7, o8, rfl⟩, hne⟩ | ⟨v, M', rfl, rfl, rfl⟩ | ⟨e, ρ, M', rfl, q⟩
    · simp
      intro i' j hlt hc
      by_cases e : i' < i
      · exact hn i' j e hc
      · have e : i' = i := by omega
        subst e
        have := cfl _ _ hc
        exact hne j (by omega) hc
    · simp
    · exact q.elim)
  rcases anyP_ok key with ⟨ρ', M', rfl, rfl, ⟨o6, o7, o8, rfl⟩, hne⟩ | ⟨v, M', rfl, rfl, rfl⟩ | ⟨e, ρ, M', rfl, q⟩
  · rw [best_uniq (best_is (rows.map f)) (show IsBest (rows.map f) none from fun i j hc => hne i j (by have := hc.1; have := cfl _ _ hc; omega) hc)]
    simp [encO]
  · simp
  · exact q.elim
end Fk

/-! SpGood: a law's own check of one rule on one database. -/
namespace Fk
open PySem
theorem pc_row {r : List Int} (hl : r.length ≤ 10) (hv : ∀ x ∈ r, x.natAbs.log2 < 1900) : Pc 1 (tupI r) := pc_t (fun x hx => by
  obtain ⟨i, hi, rfl⟩ := List.mem_map.mp hx
  exact pc_int (by have := hv i hi; omega)) (by simpa using hl)
theorem pc_rows {w : Nat} {rows : Rows} (h : RowsOk w rows) (hw : w ≤ 10) : Pc 2 (encRows rows) := pc_l (fun x hx => by
  obtain ⟨r, hr, rfl⟩ := List.mem_map.mp hx
  exact pc_row (by rw [h.w r hr]; exact hw) (h.v r hr)) (by simpa using h.l)
theorem DbOk.rows {s : Scm} {db : Db} (h : DbOk s db) {rows : Rows} (hr : rows ∈ db) : ∃ t ∈ s, RowsOk t.2.length rows := by
  obtain ⟨i, hi⟩ := List.getElem?_of_mem hr
  have hl : i < s.length := by rw [← h.l]; exact (List.getElem?_eq_some_iff.mp hi).1
  exact ⟨s[i], List.getElem_mem hl, h.r i _ _ (List.getElem?_eq_getElem hl) hi⟩
theorem pc_db {s : Scm} {db : Db} (hs : ScmOk s) (h : DbOk s db) : Pc 3 (encDb db) := pc_l (fun x hx => by
  obtain ⟨rows, hr, rfl⟩ := List.mem_map.mp hx
  obtain ⟨t, ht, hok⟩ := h.rows hr
  exact pc_rows hok (by have := (hs.ts t ht).l5; omega)) (by have := hs.l3; have := h.l; simp; omega)
theorem sp_whole {n : Nat} {M : Mem} (i : Int) : F_l_whole.run n [.d (.int i)] M = .ok (.d (.bool true)) M := by
  simp [F_l_whole, c_l_whole, List.replicate, isiV]
theorem brkD_cases (s : Scm) (db : Db) (d : Dep) : brkD s db d = .none ∨ ∃ is : List Int, brkD s db d = .tuple (is.map .int) ∧ is.length ≤ 2 := by
  cases d with
  | sets t xs a =>
    show encO _ = _ ∨ _
    cases e : brkSets s db t xs a with
    | none => exact .inl rfl
    | some p => exact .inr ⟨[(p.1 : Nat), (p.2 : Nat)], by show encO _ = _; rw [e]; rfl, by simp⟩
  | within t c u d =>
    show encW _ = _ ∨ _
    cases e : brkWithin s db t c u d with
    | none => exact .inl rfl
    | some p => exact .inr ⟨[(p : Nat)], by show encW _ = _; rw [e]; rfl, by simp⟩
  | many t c u d =>
    by_cases hl : cnt s db t c < cnt s db u d
    · exact .inr ⟨[(cnt s db t c : Nat), (cnt s db u d : Nat)], by show encM _ _ = _; unfold encM; rw [if_pos hl]; rfl, by simp⟩
    · exact .inl (by show encM _ _ = _; unfold encM; rw [if_neg hl])
theorem eqv_ints_self : ∀ is : List Int, PyData.eqv (.tuple (is.map .int)) (.tuple (is.map .int)) = true := fun is => by
  have := eqv_tupI is is
  simpa [tupI] using this
theorem sp_good_v6 {n : Nat} {M : Mem} {s : Scm} {db : Db} {t a : Str} {xs : List Str} (hs : ScmOk s) (h : DbOk s db) (hd : DepOk s (.sets t xs a)) : F_l_good_v6.run n [.d (encS s), .d (encDb db), .d (encD (.sets t xs a))] M = .ok (.d (.bool true)) M := by
  have pd := pc_db hs h
  have r : ∀ M : Mem, bltV .v .repr M [.d (.list [encS s, encDb db])] = .ok (.d (.str (PyData.shown (.list [encS s, encDb db])))) M := fun M => b_repr (rdv_d M _) (reps_two hs pd (by omega))
  have hsh := shp_shown (fit_two hs pd.f (by omega))
  have c2 : ∀ M : Mem, cmpV .eq M (.d (.str (PyData.shown (.list [encS s, encDb db])))) (.d (.str (PyData.shown (.list [encS s, encDb db])))) = some true := fun M => by rw [cmp_eq hsh hsh]; simp
  have f1 := fun (n : Nat) (M : Mem) => sp_first (n := n) (M := M) hs h hd
  have f2 := fun (n : Nat) (M : Mem) => sp_keeps (n := n) (M := M) hs h hd
  have f3 := fun (n : Nat) (M : Mem) => sp_broken_by (n := n) (M := M) hs h hd
  have hr2 : rng1V (.d (.int 2)) = some ((List.range 2).map fun (i : Nat) => Itm.v (.d (.int (i : Int)))) := rng1_ok (j := 2) (by omega) (by unfold lim; omega)
  rw [show encO (brkSets s db t xs a) = brkD s db (.sets t xs a) from rfl] at f1
  have hc := brkD_cases s db (.sets t xs a)
  unfold kept at f2
  generalize brkD s db (.sets t xs a) = X at f1 f2 f3 hc
  generalize encD (.sets t xs a) = dd at f1 f2 f3
  simp [F_l_good_v6, c_l_good_v6, List.replicate, r, f1, hr2]
  generalize hF : foldS _ _ _ _ _ _ _ = o
  obtain ⟨ρ', M', rfl, ⟨o5, o6, o7, rfl⟩, rfl⟩ := for_rng hF (fun i ρ M1 => (∃ o5 o6 o7 : Option Val, ρ = [some (.d (encS s)), some (.d (encDb db)), some (.d dd), some (.d (.str (PyData.shown (.list [encS s, encDb db])))), some (.d X), o5, o6, o7, none]) ∧ M1 = M)
    ⟨⟨none, none, none, rfl⟩, rfl⟩ (by
    rintro i ρ M1 hi ⟨⟨o5, o6, o7, rfl⟩, rfl⟩
    have cb : ∀ (b : Bool) (M : Mem), cmpV .ne M (.d (.bool b)) (.d (.bool b)) = some false := fun b M => by rw [cmp_ne rfl rfl]; cases b <;> rfl
    rcases hc with rfl | ⟨is, rfl, hl⟩
    · have cn : ∀ (M : Mem), cmpV .ne M (.d .none) (.d .none) = some false := fun M => by rw [cmp_ne rfl rfl]; rfl
      simp [b_l_good_v6_1, f2, f3, isiV, cb, cn, Val.isN]
    · have hp : shp (.tuple (is.map .int)) = true := row_fit is (by omega)
      have cn : ∀ (M : Mem), cmpV .ne M (.d (.tuple (is.map .int))) (.d (.tuple (is.map .int))) = some false := fun M => by rw [cmp_ne hp hp, eqv_ints_self]; rfl
      simp [b_l_good_v6_1, f2, f3, isiV, cb, cn, Val.isN]
      generalize hF2 : foldC _ _ _ _ _ = o2
      cases lc_map hF2 (enc := fun i : Int => Itm.v (.d (.int i))) (fun _ => .bool true) (by
        intro x hx
        simp [b_l_good_v6_0, sp_whole])
      simp)
  simp [r, c2]
/-- a rule drawn -/
theorem sp_drawn {n p : Nat} {M X : Mem} {s : Scm} {v : Int} (hp : p < M.length) (hs : ScmOk s) : ∃ (v' : Int) (t : Str) (xs : List Str) (a : Str), F_l_drawn.run n [.p p, .d (encS s)] (M.set p (.lst [.d (.int v)]) ++ X) = .ok (.d (encD (.sets t xs a))) (M.set p (.lst [.d (.int v')]) ++ X) ∧ DepOk s (.sets t xs a) := by
  have l1 := hs.l1
  have l3 := hs.l3
  have t0 := fun (n : Nat) => sp_takeA (n := n) (M := M) (X := X) (v := v) (s := s.length) hp (by omega) (by omega)
  have hm := emod_q v s.length (by omega)
  obtain ⟨i, hi⟩ : ∃ i : Nat, v % s.length = i := ⟨(v % s.length).toNat, by omega⟩
  have il : i < s.length := by omega
  have ln : ∀ M : Mem, bltV .v .len M [.d (encS s)] = .ok (.d (.int (s.length : Int))) M := fun M => by simp [encS]
  generalize hv1 : v / (s.length : Int) = v1 at t0
  rw [hi] at t0
  rcases hti : s[i] with ⟨t, cols⟩
  have is : ∀ M, idxV M (.d (encS s)) (.d (.int (i : Int))) = some (.d (.tuple [.str t, .tuple (cols.map .str)])) := fun M => by
    show idxV M (.d (.list (s.map encT))) _ = _
    rw [idx_list, ixN_nat (by simpa using il)]; simp [il, hti, encT]
  have ht : (t, cols) ∈ s := hti ▸ List.getElem_mem il
  have hT := hs.ts _ ht
  have c1 : 1 ≤ cols.length := hT.l1
  have c5 : cols.length ≤ 5 := hT.l5
  have cl : ∀ M : Mem, bltV .v .len M [.d (.tuple (cols.map .str))] = .ok (.d (.int (cols.length : Int))) M := fun M => by simp
  have tkc := fun (n : Nat) (v : Int) => sp_takeA (n := n) (M := M) (X := X) (v := v) (s := cols.length) hp (by omega) (by omega)
  have pick : ∀ v : Int, ∃ c ∈ cols, ∀ M : Mem, idxV M (.d (.tuple (cols.map .str))) (.d (.int (v % cols.length))) = some (.d (.str c)) := fun v => by
    have hm := emod_q v cols.length (by omega)
    obtain ⟨i, hi⟩ : ∃ i : Nat, v % cols.length = i := ⟨(v % cols.length).toNat, by omega⟩
    have il : i < cols.length := by omega
    refine ⟨cols[i], List.getElem_mem il, fun M => ?_⟩
    rw [hi, idx_tuple, ixN_nat (by simpa using il)]
    simp [il]
  have un : ∀ M : Mem, itemsOf M (.d (.tuple (cols.map .str))) = some ((cols.map .str).map .d) := fun M => rfl
  simp [F_l_drawn, c_l_drawn, List.replicate, ln, t0, is]
  generalize hF : foldC _ _ _ _ _ = o
  have tk2 := fun (n : Nat) (v : Int) => sp_takeA (n := n) (M := M) (X := X) (v := v) (s := 2) hp (by decide) (by decide)
  obtain ⟨vs, M', rfl, v2, xs, rfl, rfl, hsub⟩ := lc_inv (enc := fun c : Str => Itm.v (.d (.str c))) hF (fun pre acc M1 => ∃ (v2 : Int) (xs : List Str), acc = xs.map (fun c => Val.d (.str c)) ∧ M1 = M.set p (.lst [.d (.int v2)]) ++ X ∧ xs.Sublist pre)
    ⟨v1, [], rfl, rfl, List.Sublist.refl _⟩ (by
    rintro pre c post acc M1 hx ⟨v2, xs, rfl, rfl, hsub⟩
    by_cases hv : v2 % 2 = 1
    · simp [b_l_drawn_0, b_l_drawn_1, tk2, hv]
      exact ⟨_, xs ++ [c], by simp, rfl, hsub.append (List.Sublist.refl _)⟩
    · simp [b_l_drawn_0, b_l_drawn_1, tk2, hv]
      exact ⟨_, xs, by simp, rfl, hsub.trans (List.sublist_append_left _ _)⟩)
  have xl := hsub.length_le
  have cE : ∀ (M : Mem), cmpV .eq M (.d (.list (xs.map .str))) (.d (.list [])) = some xs.isEmpty := fun M => by
    rw [cmp_eq (shp_list (n := 0) (fun x hx => by
      obtain ⟨c, hc, rfl⟩ := List.mem_map.mp hx
      exact nm_fit 0 (hs.nm2 ht (hsub.subset hc))) (by omega)) rfl, eqv_nil]
    simp
  rw [show (xs.map fun c => Val.d (.str c)) = (xs.map .str).map Val.d by simp]
  have tkl : ∀ v : Int, List.take (M.length + X.length) (M.set p (.lst [.d (.int v)]) ++ X) = M.set p (.lst [.d (.int v)]) ++ X := fun v => List.take_of_length_le (by simp)
  by_cases hx : xs = []
  · subst hx
    simp only [List.map_nil, List.isEmpty_nil] at cE
    obtain ⟨c, hc, e1⟩ := pick v2
    obtain ⟨a, ha, e2⟩ := pick (v2 / cols.length)
    simp [cE, tkc, cl, e1, e2]
    exact ⟨_, t, [c], a, ⟨rfl, tkl _⟩, cols, ht, by simp, by simpa using hc, ha⟩
  · have he : xs.isEmpty = false := by simpa using hx
    rw [he] at cE
    obtain ⟨a, ha, e2⟩ := pick v2
    simp [cE, tkc, cl, e2]
    exact ⟨_, t, xs, a, ⟨rfl, tkl _⟩, cols, ht, hx, hsub, ha⟩
end Fk

/-! SpHand: a handed copy of a database, rows in cells. -/
namespace Fk
open PySem
def ptr0 (L k : Nat) : List Val := (List.range k).map fun j => .p (L + j)
theorem ptr0_succ (L k : Nat) : ptr0 L (k + 1) = ptr0 L k ++ [.p (L + k)] := by simp [ptr0, List.range_succ]
@[simp] theorem ptr0_len (L k : Nat) : (ptr0 L k).length = k := by simp [ptr0]
/-- the cells of a copy that begins at L -/
def Hd (L : Nat) (db : Db) : Mem := db.map rowsC ++ [.lst (ptr0 L db.length)]
theorem Hd_len (L : Nat) (db : Db) : (Hd L db).length = db.length + 1 := by simp [Hd]
theorem h_top {A : Mem} {L : Nat} {db : Db} (h : A.length = L) : (A ++ Hd L db)[L + db.length]? = some (.lst (ptr0 L db.length)) := by
  subst h
  rw [List.getElem?_append_right (by omega)]
  simp [Hd]
theorem h_row {A : Mem} {L i : Nat} {db : Db} {rows : Rows} (h : A.length = L) (hi : db[i]? = some rows) : (A ++ Hd L db)[L + i]? = some (rowsC rows) := by
  subst h
  have il := (List.getElem?_eq_some_iff.mp hi).1
  rw [List.getElem?_append_right (by omega), Nat.add_sub_cancel_left, Hd, List.getElem?_append_left (by simpa using il), List.getElem?_map, hi]
  rfl
theorem h_view {A : Mem} {L : Nat} {db : Db} (h : A.length = L) : rd 3 (A ++ Hd L db) (.p (L + db.length)) = some (encDb db) := by
  have e := rd_nest (k := 1) (p := 0) (M := A ++ Hd L db) (ks := (List.range db.length).map fun j => L + j) (dss := db.map fun r => r.map tupI) (by simp) (fun i q ds h1 h2 => by
    simp only [List.getElem?_map, Option.map_eq_some_iff] at h1 h2
    obtain ⟨j, hj, rfl⟩ := h1
    obtain ⟨rows, hr, rfl⟩ := h2
    obtain ⟨hj1, hj2⟩ := List.getElem?_eq_some_iff.mp hj
    rw [List.getElem_range] at hj2
    subst hj2
    exact h_row h hr)
  rw [List.map_map, List.map_map] at e
  have e : (ptr0 L db.length).mapM (rd 2 (A ++ Hd L db)) = some (db.map encRows) := e
  simp [rd, h_top h, e, encDb]
theorem h_len {m : Md} {A : Mem} {L : Nat} {db : Db} (h : A.length = L) : bltV m .len (A ++ Hd L db) [.p (L + db.length)] = .ok (.d (.int (db.length : Int))) (A ++ Hd L db) := by
  simp [lenV, seqOf, h_top h]
theorem h_idx {A : Mem} {L i : Nat} {db : Db} (h : A.length = L) (hi : i < db.length) : idxV (A ++ Hd L db) (.p (L + db.length)) (.d (.int (i : Int))) = some (.p (L + i)) := by
  rw [idx_p (h_top h), ixN_nat (by simpa using hi)]
  simp [ptr0, hi]
theorem h_rlen {m : Md} {A : Mem} {L i : Nat} {db : Db} {rows : Rows} (h : A.length = L) (hi : db[i]? = some rows) : bltV m .len (A ++ Hd L db) [.p (L + i)] = .ok (.d (.int (rows.length : Int))) (A ++ Hd L db) := by
  simp [lenV, seqOf, h_row h hi, rowsC]
theorem h_set {A : Mem} {L i : Nat} {db : Db} {rows : Rows} (h : A.length = L) (hi : i < db.length) : (A ++ Hd L db).set (L + i) (rowsC rows) = A ++ Hd L (db.set i rows) := by
  subst h
  rw [List.set_append_right _ _ (by omega), Nat.add_sub_cancel_left, Hd, List.set_append_left _ _ (by simpa using hi), Hd, List.map_set, List.length_set]
theorem h_pop {n : Nat} {A : Mem} {L i j : Nat} {db : Db} {rows : Rows} (h : A.length = L) (hi : db[i]? = some rows) (hj : j < rows.length) (hr : rows.length ≤ 10) : ∃ a, bmV .v n .pop1 (A ++ Hd L db) (.p (L + i)) [.d (.int (j : Int))] = .ok a (A ++ Hd L (db.set i (rows.eraseIdx j))) := by
  have il := (List.getElem?_eq_some_iff.mp hi).1
  refine ⟨.d (tupI rows[j]), ?_⟩
  have hb : -(2 ^ 63) ≤ (j : Int) ∧ (j : Int) < 2 ^ 63 := ⟨by omega, by omega⟩
  have e : ((rows.map tupI).map Val.d).eraseIdx j = ((rows.eraseIdx j).map tupI).map Val.d := by simp [List.eraseIdx_eq_take_drop_succ, List.map_take, List.map_drop]
  simp only [bmV, h_row h hi, rowsC, List.length_map, ixN_nat hj, Option.bind_some]
  rw [show ((rows.map tupI).map Val.d)[j]? = some (Val.d (tupI rows[j])) by simp [hj]]
  simp only [Option.map_some, if_pos hb, e]
  rw [show (Cell.lst (((rows.eraseIdx j).map tupI).map Val.d)) = rowsC (rows.eraseIdx j) from rfl, h_set h il]
theorem rowsOk_erase {w : Nat} {rows : Rows} (h : RowsOk w rows) (j : Nat) : RowsOk w (rows.eraseIdx j) := by
  have sb := List.eraseIdx_sublist rows j
  exact ⟨fun r hr => h.w r (sb.subset hr), sb.nodup h.nd, Nat.le_trans sb.length_le h.l, fun r hr => h.v r (sb.subset hr)⟩
theorem dbOk_set {s : Scm} {db : Db} {i : Nat} {t : Str × List Str} {rows : Rows} (h : DbOk s db) (hi : s[i]? = some t) (hr : RowsOk t.2.length rows) : DbOk s (db.set i rows) := by
  refine ⟨by simp [h.l], fun k u rs h1 h2 => ?_⟩
  by_cases e : i = k
  · subst e
    have il : i < db.length := by rw [h.l]; exact (List.getElem?_eq_some_iff.mp hi).1
    rw [List.getElem?_set_self il] at h2
    rw [hi] at h1
    cases h1; cases h2
    exact hr
  · rw [List.getElem?_set_ne e] at h2
    exact h.r k u rs h1 h2
end Fk

/-! SpDue: a law's own word on rules of two columns. -/
namespace Fk
open PySem
theorem idx_uniq {s : Scm} (hs : ScmOk s) {i j : Nat} (hi : i < s.length) (hj : j < s.length) (e : s[i].1 = s[j].1) : i = j := by
  have e1 : (s.map (·.1))[i]'(by simpa using hi) = (s.map (·.1))[j]'(by simpa using hj) := by simpa using e
  have pw := List.pairwise_iff_getElem.mp (show (s.map (·.1)).Pairwise (· ≠ ·) from hs.nd)
  rcases Nat.lt_trichotomy i j with hl | hl | hl
  · exact absurd e1 (pw i j (by simpa using hi) (by simpa using hj) hl)
  · exact hl
  · exact absurd e1.symm (pw j i (by simpa using hj) (by simpa using hi) hl)
theorem sp_listed {n : Nat} {M : Mem} {s : Scm} {db : Db} {t c : Str} (hs : ScmOk s) (h : DbOk s db) (hc : HasCol s t c) : F_l_listed.run n [.d (encS s), .d (encDb db), .d (.str t), .d (.str c)] M = .ok (.d (.list ((valsIn s db t c).map .int))) M := by
  obtain ⟨cols, ht, hm⟩ := hc
  have hk := nm_strOk (hs.nm1 ht)
  obtain ⟨i, hi, hd⟩ := rowsIn_at hs h ht
  have ok := rowsIn_ok hs h ht
  have hl3 := hs.l3
  have il : i < s.length := (List.getElem?_eq_some_iff.mp hi).1
  have hr : rng1V (.d (.int (s.length : Int))) = some ((List.range s.length).map fun (i : Nat) => Itm.v (.d (.int (i : Int)))) := rng1_nat (by unfold lim; omega)
  have ln : ∀ M : Mem, bltV .v .len M [.d (encS s)] = .ok (.d (.int (s.length : Int))) M := fun M => by simp [encS]
  have is : ∀ (j : Nat) (hj : j < s.length) (M : Mem), idxV M (.d (encS s)) (.d (.int (j : Int))) = some (.d (encT s[j])) := fun j hj M => by
    show idxV M (.d (.list (s.map encT))) _ = _
    rw [idx_list, ixN_nat (by simpa using hj)]; simp [hj]
  have hi' : s[i] = (t, cols) := by rw [List.getElem?_eq_getElem il] at hi; simpa using hi
  have idb : ∀ M : Mem, idxV M (.d (encDb db)) (.d (.int (i : Int))) = some (.d (encRows (rowsIn s db t))) := fun M => by
    show idxV M (.d (.list (db.map encRows))) _ = _
    rw [idx_list, ixN_nat (by simpa [h.l] using il)]; simp [hd]
  have lt : cols.idxOf c < cols.length := List.idxOf_lt_length_iff.mpr hm
  have ix := fun (n : Nat) (M : Mem) => index_col (n := n) (M := M) hs ht hm
  have hv : valsIn s db t c = (rowsIn s db t).map fun r => r.getD (cols.idxOf c) 0 := by unfold valsIn; rw [colsIn_mem hs ht]
  simp [F_l_listed, c_l_listed, List.replicate, ln, hr]
  generalize hF : foldS _ _ _ _ _ _ _ = o
  have key := for_rngA hF (fun i' ρ M1 => M1 = M ∧ (∃ o4 : Option Val, ρ = [some (.d (encS s)), some (.d (encDb db)), some (.d (.str t)), some (.d (.str c)), o4, none]) ∧ ∀ k (hk : k < s.length), k < i' → s[k].1 ≠ t) (fun v M1 => M1 = M ∧ v = .d (.list ((valsIn s db t c).map .int)))
    ⟨rfl, ⟨none, rfl⟩, by simp⟩ (by
    rintro j ρ M1 hj ⟨rfl, ⟨o4, rfl⟩, hn⟩
    have hT' : encT s[j] = .tuple [.str s[j].1, .tuple (s[j].2.map .str)] := rfl
    have hk2 := nm_strOk (hs.ts s[j] (List.getElem_mem hj)).n
    by_cases he : s[j].1 = t
    · have : j = i := idx_uniq hs hj il (by rw [he, hi'])
      subst this
      have hT2 : encT (t, cols) = .tuple [.str t, .tuple (cols.map .str)] := rfl
      simp [b_l_listed_1, is _ il, hi', hT2, ixN, cmp_eq, hk, idb, items_rows]
      generalize hF2 : foldC _ _ _ _ _ = o2
      cases lc_map (enc := fun r : List Int => Itm.v (.d (tupI r))) hF2 (fun r => .int (r.getD (cols.idxOf c) 0)) (by
        intro r hr
        have := idx_row (M := M1) (r := r) (i := cols.idxOf c) (by rw [ok.w r hr]; exact lt)
        simp at this
        simp [b_l_listed_0, is _ il, hi', hT2, ixN, ix, this])
      rw [hv]
      simp [Function.comp_def]
    · simp [b_l_listed_1, is j hj, hT', ixN, cmp_eq, hk, hk2, he]
      intro k hk hlt e
      by_cases e2 : k = j
      · subst e2; exact he e
      · exact hn k hk (by omega) e)
  rcases anyP_ok key with ⟨ρ', M', rfl, rfl, ⟨o4, rfl⟩, hne⟩ | ⟨v, M', rfl, rfl, rfl⟩ | ⟨e, ρ, M', rfl, q⟩
  · exact absurd (by rw [hi']) (hne i il il)
  · simp
  · exact q.elim
/-! ### how many differ -/
theorem dd_eqlen {l l' : List Int} (h1 : l'.Nodup) (h : ∀ x, x ∈ l' ↔ x ∈ l) : (dd l).length = l'.length :=
  ((List.perm_ext_iff_of_nodup (nodup_dd l) h1).mpr fun x => by rw [mem_dd, h]).length_eq
def fst (vs : List Int) (i : Nat) : Bool := !decide (vs.getD i 0 ∈ vs.take i)
theorem cnt_fst : ∀ vs : List Int, ((List.range vs.length).filter (fst vs)).length = (dd vs).length := by
  intro vs
  have key : ∀ k, k ≤ vs.length → ((List.range k).filter (fst vs)).length = (dd (vs.take k)).length := by
    intro k
    induction k with
    | zero => intro _; rfl
    | succ k ih =>
      intro hk
      rw [List.range_succ, List.filter_append, List.length_append, ih (by omega), List.take_succ_eq_append_getElem (by omega)]
      have hg : vs.getD k 0 = vs[k] := by simp [List.getD_eq_getElem?_getD, List.getElem?_eq_getElem (show k < vs.length by omega)]
      by_cases hm : vs[k] ∈ vs.take k
      · have : fst vs k = false := by unfold fst; rw [hg]; simp [hm]
        rw [dd_eqlen (l := vs.take k ++ [vs[k]]) (nodup_dd (vs.take k)) fun x => by
          rw [mem_dd, List.mem_append, List.mem_singleton]
          exact ⟨.inl, fun h => h.elim id fun e => e ▸ hm⟩]
        simp [this]
      · have : fst vs k = true := by unfold fst; rw [hg]; simp [hm]
        rw [dd_eqlen (l := vs.take k ++ [vs[k]]) (l' := vs[k] :: dd (vs.take k)) (List.nodup_cons.mpr ⟨by rwa [mem_dd], nodup_dd _⟩) fun x => by
          rw [List.mem_cons, mem_dd, List.mem_append, List.mem_singleton]
          exact or_comm]
        simp [this]
  have := key vs.length (Nat.le_refl _)
  rwa [List.take_length] at this
theorem inD_ints (x : Int) (l : List Int) : inD (.int x) (l.map .int) = decide (x ∈ l) := by
  rw [Bool.eq_iff_iff]
  simp only [inD, List.any_map, List.any_eq_true, Function.comp_apply, decide_eq_true_eq]
  constructor
  · rintro ⟨z, h1, h2⟩
    have : z = x := by simpa using h2
    exact this ▸ h1
  · exact fun h => ⟨x, h, by simp⟩
theorem idx_ints {M : Mem} {vs : List Int} {i : Nat} (h : i < vs.length) : idxV M (.d (.list (vs.map .int))) (.d (.int (i : Int))) = some (.d (.int (vs.getD i 0))) := by
  rw [idx_list, ixN_nat (by simpa using h)]
  simp [List.getD_eq_getElem?_getD, List.getElem?_eq_getElem h]
theorem ints_shp' (ns : List Int) (h : ns.length ≤ 4000) : shp (.list (ns.map .int)) = true := shp_list (n := 0) (fun x hx => by
  obtain ⟨i, _, rfl⟩ := List.mem_map.mp hx
  trivial) (by omega)
theorem sp_lcount {n : Nat} {M : Mem} {vs : List Int} (hl : vs.length ≤ 1000) : F_l_count.run n [.d (.list (vs.map .int))] M = .ok (.d (.int (dd vs).length)) M := by
  have hr : rng1V (.d (.int (vs.length : Int))) = some ((List.range vs.length).map fun (i : Nat) => Itm.v (.d (.int (i : Int)))) := rng1_nat (by unfold lim; omega)
  simp [F_l_count, c_l_count, List.replicate, hr]
  generalize hF : foldC _ _ _ _ _ = o
  cases lc_flt (enc := fun (i : Nat) => Itm.v (.d (.int (i : Int)))) hF (fst vs) (fun j => .int (j : Int)) (by
    intro j hj
    have hj : j < vs.length := by simpa using hj
    have ij := fun M => idx_ints (M := M) hj
    have hct : cut (vs.map PyData.int) none (some (j : Int)) = (vs.map .int).take j := by
      simp only [cut, sIx]
      rw [if_neg (by omega), Int.toNat_natCast, Nat.min_eq_left (by simp; omega)]
      rfl
    have mm : ∀ M, cmpV.memV M (.d (.int (vs.getD j 0))) (.d (.list ((vs.map .int).take j))) = some (decide (vs.getD j 0 ∈ vs.take j)) := fun M => by
      rw [← List.map_take, mem_list rfl (ints_shp' _ (by simp; omega)), inD_ints]
    have hsl : ∀ M, slcV .v M (.d (.list (vs.map .int))) none (some (j : Int)) = .ok (.d (.list ((vs.map .int).take j))) M := fun M => by rw [slc_list, hct]
    by_cases hf : vs.getD j 0 ∈ vs.take j
    · have : fst vs j = false := by unfold fst; simp only [hf, decide_true, Bool.not_true]
      simp [-slc_list, -idx_list, -List.getD_eq_getElem?_getD, b_l_count_0, b_l_count_1, ij, hsl, mm, hf, this]
    · have : fst vs j = true := by unfold fst; simp only [hf, decide_false, Bool.not_false]
      simp [-slc_list, -idx_list, -List.getD_eq_getElem?_getD, b_l_count_0, b_l_count_1, ij, hsl, mm, hf, this])
  simp [cnt_fst]
/-- what is due of a rule of two columns -/
theorem sp_due {n : Nat} {M : Mem} {s : Scm} {db : Db} {t c u d : Str} {dp : Dep} (hs : ScmOk s) (h : DbOk s db) (h1 : HasCol s t c) (h2 : HasCol s u d) (hdp : dp = .within t c u d ∨ dp = .many t c u d) : F_l_due_v2.run n [.d (encS s), .d (encDb db), .d (encD dp)] M = .ok (.d (brkD s db dp)) M := by
  have z : ∀ w : String, shp (.str (Str.ofString w)) = true := fun w => by simpa using strOk_of w
  have wm : (("within" : Str) == ("many" : Str)) = false := by decide +kernel
  have e1 := fun (n : Nat) (M : Mem) => sp_listed (n := n) (M := M) hs h h1
  have e2 := fun (n : Nat) (M : Mem) => sp_listed (n := n) (M := M) hs h h2
  have b1 := valsIn_len hs h h1
  have b2 := valsIn_len hs h h2
  have c1 := fun (n : Nat) (M : Mem) => sp_lcount (n := n) (M := M) (vs := valsIn s db t c) (by omega)
  have c2 := fun (n : Nat) (M : Mem) => sp_lcount (n := n) (M := M) (vs := valsIn s db u d) (by omega)
  rcases hdp with rfl | rfl
  · show _ = Out.ok (Val.d (encW (brkWithin s db t c u d))) M
    unfold brkWithin
    generalize valsIn s db t c = vs at e1 b1 c1 ⊢
    generalize valsIn s db u d = ws at e2 b2 c2 ⊢
    have hr : rng1V (.d (.int (vs.length : Int))) = some ((List.range vs.length).map fun (i : Nat) => Itm.v (.d (.int (i : Int)))) := rng1_nat (by unfold lim; omega)
    simp [F_l_due_v2, c_l_due_v2, List.replicate, encD, ixN, cmp_eq, z, e1, e2, wm, hr]
    generalize hF : foldS _ _ _ _ _ _ _ = o
    have key := for_rngA hF (fun i' ρ M1 => M1 = M ∧ (∃ o5 : Option Val, ρ = [some (.d (encS s)), some (.d (encDb db)), some (.d (.tuple [.str "within", .str t, .str c, .str u, .str d])), some (.d (.list (vs.map .int))), some (.d (.list (ws.map .int))), o5]) ∧ ∀ k (hk : k < vs.length), k < i' → vs[k] ∈ ws) (fun v M1 => M1 = M ∧ v = .d (encW (vs.findIdx? fun v => !(decide (v ∈ ws)))))
      ⟨rfl, ⟨none, rfl⟩, by simp⟩ (by
      rintro j ρ M1 hj ⟨rfl, ⟨o5, rfl⟩, hn⟩
      have ij := fun M => idx_ints (M := M) hj
      rw [show vs.getD j 0 = vs[j] by simp [List.getD_eq_getElem?_getD, hj]] at ij
      have mm : ∀ M, cmpV.memV M (.d (.int vs[j])) (.d (.list (ws.map .int))) = some (decide (vs[j] ∈ ws)) := fun M => by
        rw [mem_list rfl (ints_shp' _ (by omega)), inD_ints]
      by_cases hm : vs[j] ∈ ws
      · simp [-idx_list, b_l_due_v2_0, ij, mm, hm]
        intro k hk hlt
        by_cases e : k = j
        · subst e; exact hm
        · exact hn k hk (by omega)
      · have : (vs.findIdx? fun v => !(decide (v ∈ ws))) = some j := List.findIdx?_eq_some_iff_getElem.mpr ⟨hj, by simp [hm], fun k hk => by simp [hn k (by omega) hk]⟩
        rw [this]
        simp [-idx_list, b_l_due_v2_0, ij, mm, hm, encW])
    rcases anyP_ok key with ⟨ρ', M', rfl, rfl, ⟨o5, rfl⟩, hne⟩ | ⟨v, M', rfl, rfl, rfl⟩ | ⟨e, ρ, M', rfl, q⟩
    · have : (vs.findIdx? fun v => !(decide (v ∈ ws))) = none := List.findIdx?_eq_none_iff.mpr fun x hx => by
        obtain ⟨k, hk, rfl⟩ := List.getElem_of_mem hx
        simp [hne k hk hk]
      rw [this]
      simp [encW]
    · simp
    · exact q.elim
  · show _ = Out.ok (Val.d (encM (cnt s db t c) (cnt s db u d))) M
    unfold cnt
    generalize valsIn s db t c = vs at e1 b1 c1 ⊢
    generalize valsIn s db u d = ws at e2 b2 c2 ⊢
    by_cases hl : (dd vs).length < (dd ws).length
    · have hl2 : ¬ (dd ws).length ≤ (dd vs).length := by omega
      simp [F_l_due_v2, c_l_due_v2, List.replicate, encD, ixN, cmp_eq, z, e1, e2, c1, c2, hl, hl2, encM]
    · have hl2 : (dd ws).length ≤ (dd vs).length := by omega
      simp [F_l_due_v2, c_l_due_v2, List.replicate, encD, ixN, cmp_eq, z, e1, e2, c1, c2, hl, hl2, encM]
theorem sp_good_v7 {n : Nat} {M : Mem} {s : Scm} {db : Db} {t c u d : Str} {dp : Dep} (hs : ScmOk s) (h : DbOk s db) (h1 : HasCol s t c) (h2 : HasCol s u d) (hdp : dp = .within t c u d ∨ dp = .many t c u d) : F_l_good_v7.run n [.d (encS s), .d (encDb db), .d (encD dp)] M = .ok (.d (.bool true)) M := by
  have hd : DepOk s dp := by rcases hdp with rfl | rfl <;> exact ⟨h1, h2⟩
  have pd := pc_db hs h
  have r : ∀ M : Mem, bltV .v .repr M [.d (.list [encS s, encDb db])] = .ok (.d (.str (PyData.shown (.list [encS s, encDb db])))) M := fun M => b_repr (rdv_d M _) (reps_two hs pd (by omega))
  have hsh := shp_shown (fit_two hs pd.f (by omega))
  have c2 : ∀ M : Mem, cmpV .eq M (.d (.str (PyData.shown (.list [encS s, encDb db])))) (.d (.str (PyData.shown (.list [encS s, encDb db])))) = some true := fun M => by rw [cmp_eq hsh hsh]; simp
  have f1 := fun (n : Nat) (M : Mem) => sp_due (n := n) (M := M) hs h h1 h2 hdp
  have f2 := fun (n : Nat) (M : Mem) => sp_keeps (n := n) (M := M) hs h hd
  have f3 := fun (n : Nat) (M : Mem) => sp_broken_by (n := n) (M := M) hs h hd
  have f4 := fun (n : Nat) (M : Mem) => sp_value_count (n := n) (M := M) hs h h1
  have f5 := fun (n : Nat) (M : Mem) => sp_listed (n := n) (M := M) hs h h1
  have b1 := valsIn_len hs h h1
  have f6 := fun (n : Nat) (M : Mem) => sp_lcount (n := n) (M := M) (vs := valsIn s db t c) (by omega)
  have hcn : cnt s db t c = (dd (valsIn s db t c)).length := rfl
  have hr2 : rng1V (.d (.int 2)) = some ((List.range 2).map fun (i : Nat) => Itm.v (.d (.int (i : Int)))) := rng1_ok (j := 2) (by omega) (by unfold lim; omega)
  have i1 : ∀ M : Mem, idxV M (.d (encD dp)) (.d (.int 1)) = some (.d (.str t)) := fun M => by rcases hdp with rfl | rfl <;> simp [encD, ixN]
  have i2 : ∀ M : Mem, idxV M (.d (encD dp)) (.d (.int 2)) = some (.d (.str c)) := fun M => by rcases hdp with rfl | rfl <;> simp [encD, ixN]
  have hc := brkD_cases s db dp
  unfold kept at f2
  generalize brkD s db dp = X at f1 f2 f3 hc
  generalize encD dp = dd' at f1 f2 f3 i1 i2
  simp [F_l_good_v7, c_l_good_v7, List.replicate, r, f1, hr2]
  generalize hF : foldS _ _ _ _ _ _ _ = o
  obtain ⟨ρ', M', rfl, ⟨o5, o8, o9, rfl⟩, rfl⟩ := for_rng hF (fun i ρ M1 => (∃ o5 o8 o9 : Option Val, ρ = [some (.d (encS s)), some (.d (encDb db)), some (.d dd'), some (.d (.str (PyData.shown (.list [encS s, encDb db])))), some (.d X), o5, none, none, o8, o9, none]) ∧ M1 = M)
    ⟨⟨none, none, none, rfl⟩, rfl⟩ (by
    rintro i ρ M1 hi ⟨⟨o5, o8, o9, rfl⟩, rfl⟩
    have cb : ∀ (b : Bool) (M : Mem), cmpV .ne M (.d (.bool b)) (.d (.bool b)) = some false := fun b M => by rw [cmp_ne rfl rfl]; cases b <;> rfl
    rcases hc with rfl | ⟨is, rfl, hl⟩
    · have cn : ∀ (M : Mem), cmpV .ne M (.d .none) (.d .none) = some false := fun M => by rw [cmp_ne rfl rfl]; rfl
      simp [b_l_good_v7_1, f2, f3, isiV, cb, cn, Val.isN]
    · have hp : shp (.tuple (is.map .int)) = true := row_fit is (by omega)
      have cn : ∀ (M : Mem), cmpV .ne M (.d (.tuple (is.map .int))) (.d (.tuple (is.map .int))) = some false := fun M => by rw [cmp_ne hp hp, eqv_ints_self]; rfl
      simp [b_l_good_v7_1, f2, f3, isiV, cb, cn, Val.isN]
      generalize hF2 : foldC _ _ _ _ _ = o2
      cases lc_map hF2 (enc := fun i : Int => Itm.v (.d (.int i))) (fun _ => .bool true) (by
        intro x hx
        simp [b_l_good_v7_0, sp_whole])
      simp)
  simp [r, c2, i1, i2, f4, f5, f6, sp_whole, hcn]
end Fk

/-! Law_k06: rules of two columns on databases. -/
namespace Fk
open PySem
theorem b_cells6 {M : Mem} (rows : Rows) : bltV .c .list M [.d (encRows rows)] = .ok (.p M.length) (M ++ [rowsC rows]) := by
  have : seqOf M (.d (encRows rows)) = some ((rows.map tupI).map .d) := rfl
  simp [this, mkL, rowsC]
theorem h_ins {n : Nat} {A : Mem} {L i j : Nat} {db : Db} {rows : Rows} {r : List Int} (h : A.length = L) (hi : db[i]? = some rows) (hj : j ≤ rows.length) (hr : rows.length ≤ 10) : bmV .v n .insert (A ++ Hd L db) (.p (L + i)) [.d (.int (j : Int)), .d (tupI r)] = .ok (.d .none) (A ++ Hd L (db.set i (rows.take j ++ [r] ++ rows.drop j))) := by
  have il := (List.getElem?_eq_some_iff.mp hi).1
  rw [m_insert (h_row h hi) (by simp; unfold lim; omega) (by omega) (by omega) rfl, ← h_set h il]
  simp [rowsC, List.map_take, List.map_drop]
theorem rowsOk_ins {w : Nat} {rows : Rows} {r : List Int} (h : RowsOk w rows) (h5 : rows.length ≤ 5) (j : Nat) (hr : r ∉ rows) (hl : r.length = w) (hv : ∀ x ∈ r, x.natAbs.log2 < 1900) : RowsOk w (rows.take j ++ [r] ++ rows.drop j) := by
  have mem : ∀ x, x ∈ rows.take j ++ [r] ++ rows.drop j ↔ x = r ∨ x ∈ rows := fun x => by
    have : x ∈ rows ↔ x ∈ rows.take j ∨ x ∈ rows.drop j := by rw [← List.mem_append, List.take_append_drop]
    rw [this]
    simp only [List.mem_append, List.mem_singleton]
    constructor
    · rintro ((h | h) | h)
      · exact .inr (.inl h)
      · exact .inl h
      · exact .inr (.inr h)
    · rintro (h | h | h)
      · exact .inl (.inr h)
      · exact .inl (.inl h)
      · exact .inr h
  have pm : (rows.take j ++ [r] ++ rows.drop j).Perm (r :: rows) := by
    have := List.perm_middle (a := r) (l₁ := rows.take j) (l₂ := rows.drop j)
    rw [List.take_append_drop] at this
    simpa using this
  refine ⟨fun x hx => ?_, pm.nodup_iff.mpr (List.nodup_cons.mpr ⟨hr, h.nd⟩), ?_, fun x hx => ?_⟩
  · rcases (mem x).mp hx with rfl | hx
    · exact hl
    · exact h.w x hx
  · rw [pm.length_eq, List.length_cons]; omega
  · rcases (mem x).mp hx with rfl | hx
    · exact hv
    · exact h.v x hx
theorem two_at {M : Mem} (v : Int) : ∃ w : Str, (w = "within" ∨ w = "many") ∧ idxV M (.d (.list [.str "within", .str "many"])) (.d (.int (v % 2))) = some (.d (.str w)) := by
  have h := emod_q v 2 (by decide)
  have : v % 2 = 0 ∨ v % 2 = 1 := by omega
  rcases this with e | e <;> rw [e]
  · exact ⟨_, .inl rfl, by simp [ixN]⟩
  · exact ⟨_, .inr rfl, by simp [ixN]⟩
theorem k06_runs (ns : List Int) (hns : ns.length ≤ 63) : F_law_k06_v2.run 0 [.d (.list (ns.map .int))] [] = .ok (.d (.bool true)) [] := by
  obtain ⟨v0, e0⟩ := sp_pile 0 [] ns 0 (by decide)
  obtain ⟨v1, s, e1, hs⟩ := sp_scheme 0 [.lst [.d (.int v0)]] 0 v0 rfl
  simp at e0 e1
  obtain ⟨v2, e2⟩ := sp_pile 0 [.lst [.d (.int v1)]] ns 3 (by decide)
  obtain ⟨v3, db, e3, hdb, h5⟩ := sp_database_v2 (n := 0) (p := 1) (M := [.lst [.d (.int v1)], .dead]) (v := v2) (by simp) hs
  simp at e2 e3
  obtain ⟨v4, e4⟩ := sp_pile 0 [.lst [.d (.int v1)], .lst [.d (.int v3)]] ns 2 (by decide)
  simp at e4
  have r12 : rng1V (.d (.int 12)) = some ((List.range 12).map fun (i : Nat) => Itm.v (.d (.int (i : Int)))) := rng1_ok (j := 12) (by omega) (by unfold lim; omega)
  have d1 : dangle 3 (some (.p 2)) = some (.p 2) := dangle_p (by omega)
  have l1 := hs.l1
  have l3 := hs.l3
  have hdl := hdb.l
  have pl := pairs_len hs
  have spp := fun (n : Nat) (M : Mem) => sp_pairs (n := n) (M := M) hs
  have pick : ∀ v : Int, ∃ t c, HasCol s t c ∧ ∀ M : Mem, idxV M (.d (.list ((pairsOf s).map encP))) (.d (.int (v % (pairsOf s).length))) = some (.d (.tuple [.str t, .str c])) := fun v => by
    have hm := emod_q v (pairsOf s).length (by omega)
    obtain ⟨i, hi⟩ : ∃ i : Nat, v % (pairsOf s).length = i := ⟨(v % (pairsOf s).length).toNat, by omega⟩
    have il : i < (pairsOf s).length := by omega
    refine ⟨(pairsOf s)[i].1, (pairsOf s)[i].2, mem_pairs.mp (List.getElem_mem il), fun M => ?_⟩
    rw [hi, idx_list, ixN_nat (by simpa using il)]
    simp [il, encP]
  simp [F_law_k06_v2, c_law_k06_v2, List.replicate, e0, e1, e2, e3, e4, r12, spp]
  generalize hF : foldS _ _ _ _ _ _ _ = o
  obtain ⟨ρ', M', rfl, o5, o6, o7, o8, o9, o10, o11, v5, rfl, rfl⟩ := for_rng hF (fun _ ρ M1 => ∃ (o5 o6 o7 o8 o9 o10 o11 : Option Val) (v5 : Int), ρ = [some (.d (.list (ns.map .int))), some (.d (encS s)), some (.d (encDb db)), some (.d (.list ((pairsOf s).map encP))), some (.p 2), o5, o6, o7, o8, o9, o10, o11, none, none] ∧ M1 = [.lst [.d (.int v1)], .lst [.d (.int v3)], .lst [.d (.int v5)]])
    ⟨none, none, none, none, none, none, none, v4, rfl, rfl⟩ (by
    rintro i ρ M1 hi ⟨o5, o6, o7, o8, o9, o10, o11, v5, rfl, rfl⟩
    have tk0 : ∀ (n : Nat) (v k : Int), 0 < k → k < 1073741824 → F_l_take.run n [.p 2, .d (.int k)] [.lst [.d (.int v1)], .lst [.d (.int v3)], .lst [.d (.int v)]] = .ok (.d (.int (v % k))) [.lst [.d (.int v1)], .lst [.d (.int v3)], .lst [.d (.int (v / k))]] := fun n v k h0 h1 => by
      simpa using sp_takeA (n := n) (M := [.lst [.d (.int v1)], .lst [.d (.int v3)], .dead]) (p := 2) (X := []) (v := v) (by simp) h0 h1
    obtain ⟨t, c, h1, p1⟩ := pick v5
    have t1 := fun n => tk0 n v5 (pairsOf s).length (by omega) (by omega)
    generalize v5 / ((pairsOf s).length : Int) = v51 at t1
    obtain ⟨u, d, h2, p2⟩ := pick v51
    have t2 := fun n => tk0 n v51 (pairsOf s).length (by omega) (by omega)
    generalize v51 / ((pairsOf s).length : Int) = v52 at t2
    have t3 := fun n => tk0 n v52 2 (by omega) (by omega)
    generalize v52 / 2 = v6 at t3
    obtain ⟨w, hw, ew⟩ : ∃ w : Str, (w = "within" ∨ w = "many") ∧ ∀ M, idxV M (.d (.list [.str "within", .str "many"])) (.d (.int (v52 % 2))) = some (.d (.str w)) := by
      obtain ⟨w, hw, _⟩ := two_at (M := []) v52
      have h := emod_q v52 2 (by decide)
      have : v52 % 2 = 0 ∨ v52 % 2 = 1 := by omega
      rcases this with e | e <;> rw [e]
      · exact ⟨_, .inl rfl, by simp [ixN]⟩
      · exact ⟨_, .inr rfl, by simp [ixN]⟩
    obtain ⟨dp, hdp, ed⟩ : ∃ dp, (dp = Dep.within t c u d ∨ dp = Dep.many t c u d) ∧ PyData.tuple [.str w, .str t, .str c, .str u, .str d] = encD dp := by
      rcases hw with rfl | rfl
      · exact ⟨_, .inl rfl, rfl⟩
      · exact ⟨_, .inr rfl, rfl⟩
    have a1 : ∀ M, binV .v .add M (.d (.tuple [.str w])) (.d (.tuple [.str t, .str c])) = .ok (.d (.tuple [.str w, .str t, .str c])) M := fun M => bin_addt (by simp [lim])
    have a2 : ∀ M, binV .v .add M (.d (.tuple [.str w, .str t, .str c])) (.d (.tuple [.str u, .str d])) = .ok (.d (encD dp)) M := fun M => by rw [← ed]; exact bin_addt (by simp [lim])
    have gd := fun (n : Nat) (M : Mem) (db : Db) (h : DbOk s db) => sp_good_v7 (n := n) (M := M) hs h h1 h2 hdp
    generalize encD dp = dd at a2 gd
    have g1 := fun (n : Nat) (M : Mem) => gd n M db hdb
    have hit : ∀ M : Mem, itemsOf M (.d (encDb db)) = some ((db.map encRows).map .d) := fun M => rfl
    simp [-idx_list, b_law_k06_v2_2, t1, t2, t3, p1, p2, ew, a1, a2, g1, hit]
    generalize hF : foldC _ _ _ _ _ = o
    obtain ⟨vs, M', rfl, rfl, rfl⟩ := lc_inv (enc := fun rows : Rows => Itm.v (.d (encRows rows))) hF (fun pre acc M1 => acc = ptr0 3 pre.length ∧ M1 = .lst [.d (.int v1)] :: .lst [.d (.int v3)] :: .lst [.d (.int v6)] :: pre.map rowsC)
      ⟨rfl, rfl⟩ (by
      rintro pre rows post acc M1 hx ⟨rfl, rfl⟩
      simp [-b_list, b_law_k06_v2_1, b_cells6, ptr0_succ]
      omega)
    rw [show (Out.ok (ptr0 3 db.length) (.lst [.d (.int v1)] :: .lst [.d (.int v3)] :: .lst [.d (.int v6)] :: db.map rowsC)).bind (fun vs M => Out.ok (Val.p M.length) (M ++ [Cell.lst vs])) = .ok (.p (3 + db.length)) (.lst [.d (.int v1)] :: .lst [.d (.int v3)] :: .lst [.d (.int v6)] :: Hd 3 db) by simp [Hd]; omega]
    have hln : ∀ v, lenV (.lst [.d (.int v1)] :: .lst [.d (.int v3)] :: .lst [.d (.int v)] :: Hd 3 db) (.p (3 + db.length)) = some db.length := fun v => by
      have := h_top (A := [.lst [.d (.int v1)], .lst [.d (.int v3)], .lst [.d (.int v)]]) (L := 3) (db := db) rfl
      simp only [List.cons_append, List.nil_append] at this
      simp [lenV, seqOf, this]
    have hvw : ∀ v (db' : Db), db'.length = db.length → viewV (.lst [.d (.int v1)] :: .lst [.d (.int v3)] :: .lst [.d (.int v)] :: Hd 3 db') (.p (3 + db.length)) = some (.d (encDb db')) := fun v db' hl => by
      have := h_view (A := [.lst [.d (.int v1)], .lst [.d (.int v3)], .lst [.d (.int v)]]) (L := 3) (db := db') rfl
      rw [hl] at this
      simp only [List.cons_append, List.nil_append] at this
      simp [viewV, this]
    have tk : ∀ (n : Nat) (v k : Int), 0 < k → k < 1073741824 → F_l_take.run n [.p 2, .d (.int k)] (.lst [.d (.int v1)] :: .lst [.d (.int v3)] :: .lst [.d (.int v)] :: Hd 3 db) = .ok (.d (.int (v % k))) (.lst [.d (.int v1)] :: .lst [.d (.int v3)] :: .lst [.d (.int (v / k))] :: Hd 3 db) := fun n v k h0 h1 => sp_takeA (M := [.lst [.d (.int v1)], .lst [.d (.int v3)], .dead]) (p := 2) (X := Hd 3 db) (by simp) h0 h1
    have hm := emod_q v6 db.length (by omega)
    obtain ⟨j, hj⟩ : ∃ j : Nat, v6 % db.length = j := ⟨(v6 % db.length).toNat, by omega⟩
    have jl : j < db.length := by omega
    have jls : j < s.length := by omega
    have hix : ∀ v, idxV (.lst [.d (.int v1)] :: .lst [.d (.int v3)] :: .lst [.d (.int v)] :: Hd 3 db) (.p (3 + db.length)) (.d (.int (j : Int))) = some (.p (3 + j)) := fun v => h_idx (A := [.lst [.d (.int v1)], .lst [.d (.int v3)], .lst [.d (.int v)]]) (L := 3) (db := db) rfl jl
    have hrw : ∀ v, (Cell.lst [.d (.int v1)] :: .lst [.d (.int v3)] :: .lst [.d (.int v)] :: Hd 3 db)[3 + j]? = some (rowsC db[j]) := fun v => h_row (A := [.lst [.d (.int v1)], .lst [.d (.int v3)], .lst [.d (.int v)]]) (L := 3) (db := db) rfl (List.getElem?_eq_getElem jl)
    have hrl : ∀ v, lenV (.lst [.d (.int v1)] :: .lst [.d (.int v3)] :: .lst [.d (.int v)] :: Hd 3 db) (.p (3 + j)) = some db[j].length := fun v => by
      simp [lenV, seqOf, hrw v, rowsC]
    have hok : RowsOk s[j].2.length db[j] := hdb.r j _ _ (List.getElem?_eq_getElem jls) (List.getElem?_eq_getElem jl)
    have r5 := h5 db[j] (List.getElem_mem jl)
    have hT := hs.ts s[j] (List.getElem_mem jls)
    have tt1 := fun n => tk n v6 db.length (by omega) (by omega)
    rw [hj] at tt1
    generalize v6 / (db.length : Int) = v7 at tt1
    have w1 := hvw v6 db rfl
    have dq : ∀ q : Nat, dangle 3 (some (.p (3 + q))) = none := fun q => dangle_q (by omega)
    have is : ∀ M : Mem, idxV M (.d (encS s)) (.d (.int (j : Int))) = some (.d (.tuple [.str s[j].1, .tuple (s[j].2.map .str)])) := fun M => by
      show idxV M (.d (.list (s.map encT))) _ = _
      rw [idx_list, ixN_nat (by simpa using jls)]; simp [jls, encT]
    simp [-idx_list, hln, tt1, w1, g1, noL, is]
    rw [show (ixN 2 1).bind (fun j_1 => Option.map Val.d [PyData.str s[j].1, PyData.tuple (s[j].2.map .str)][j_1]?) = some (.d (.tuple (s[j].2.map .str))) by simp [ixN]]
    simp [-idx_list]
    generalize hF : foldC _ _ _ _ _ = o
    obtain ⟨vs, M', rfl, v8, r, rfl, rfl, q1, q2⟩ := lc_inv (enc := fun c : Str => Itm.v (.d (.str c))) hF (fun pre acc M1 => ∃ (v8 : Int) (r : List Int), acc = (r.map PyData.int).map .d ∧ M1 = .lst [.d (.int v1)] :: .lst [.d (.int v3)] :: .lst [.d (.int v8)] :: Hd 3 db ∧ r.length = pre.length ∧ ∀ x ∈ r, x.natAbs.log2 < 1900)
      ⟨v7, [], rfl, rfl, rfl, by simp⟩ (by
      rintro pre c post acc M1 hx ⟨v8, r, rfl, rfl, q1, q2⟩
      have t5 := fun n => tk n v8 5 (by omega) (by omega)
      simp [b_law_k06_v2_0, t5]
      refine ⟨_, r ++ [v8 % 5 - 1], by simp, rfl, by simp [q1], fun x hx => ?_⟩
      rcases List.mem_append.mp hx with hx | hx
      · exact q2 x hx
      · simp at hx; subst hx
        have hv := (val_ok (emod_q v8 5 (by decide)).1 (emod_q v8 5 (by decide)).2 (.inl rfl)).1
        simpa using hv)
    have hrl2 : r.length ≤ 5 := by rw [q1]; exact hT.l5
    have sh2 : shp (tupI r) = true := row_fit r (by omega)
    have sh := rows_shp (rows := db[j]) hok.w hT.l5 (by omega)
    have mm : cmpV.memV (.lst [.d (.int v1)] :: .lst [.d (.int v3)] :: .lst [.d (.int v8)] :: Hd 3 db) (.d (.tuple (r.map .int))) (.p (3 + j)) = some (decide (r ∈ db[j])) := by
      show cmpV.memV _ (.d (tupI r)) _ = _
      rw [mem_p (hrw v8) sh2 sh, inD_rows]
    by_cases hr : r ∈ db[j]
    · have w2 := hvw v8 db rfl
      simp [-idx_list, hix, mm, hr, w2, g1, noL, d1]
    · have t9 := fun n => tk n v8 ((db[j].length : Int) + 1) (by omega) (by omega)
      have hm2 := emod_q v8 ((db[j].length : Int) + 1) (by omega)
      obtain ⟨q, hq⟩ : ∃ q : Nat, v8 % ((db[j].length : Int) + 1) = q := ⟨(v8 % ((db[j].length : Int) + 1)).toNat, by omega⟩
      rw [hq] at t9
      generalize v8 / ((db[j].length : Int) + 1) = v9 at t9
      have ins := h_ins (n := 3) (A := [.lst [.d (.int v1)], .lst [.d (.int v3)], .lst [.d (.int v9)]]) (L := 3) (db := db) (r := r) rfl (List.getElem?_eq_getElem jl) (j := q) (by omega) hok.l
      have hdb2 : DbOk s (db.set j (db[j].take q ++ [r] ++ db[j].drop q)) := dbOk_set hdb (List.getElem?_eq_getElem jls) (rowsOk_ins hok r5 q hr q1 q2)
      have g2 := fun (n : Nat) (M : Mem) => gd n M _ hdb2
      have w2 := hvw v9 (db.set j (db[j].take q ++ [r] ++ db[j].drop q)) (by simp)
      generalize db.set j (db[j].take q ++ [r] ++ db[j].drop q) = db2 at ins g2 w2
      simp only [List.cons_append, List.nil_append] at ins
      rw [show tupI r = .tuple (r.map .int) from rfl] at ins
      simp [-idx_list, hix, mm, hr, hrl, t9, recv_p (hrw v8), ins, w2, g2, noL, d1])
  simp
end Fk

/-! FkHd: what a head must tell of the errors' classes. -/
namespace Fk
open PySem PySem.Spec PyProof.Rows L2
/-- the classes by their numbers -/
def clA (l : List (Nat × Str)) (K : PySem.W.Frag) (c : Nat) : Addr := match l.lookup c with
  | some n => He.ga K n
  | none => 0
def isS {α : Type} [BEq α] (x : Option α) (y : α) : Bool := match x with
  | some z => z == y
  | none => false
theorem isS_ok {α : Type} [BEq α] [LawfulBEq α] {x : Option α} {y : α} (h : isS x y = true) : x = some y := by
  unfold isS at h
  split at h
  · rw [beq_iff_eq.mp h]
  · cases h
def isN (x : Option (Option Value)) : Bool := match x with
  | some none => true
  | _ => false
theorem isN_ok {x : Option (Option Value)} (h : isN x = true) : x = some none := by
  unfold isN at h
  split at h
  · rfl
  · cases h
def isSS (x : Option (Option Value)) (y : Value) : Bool := match x with
  | some (some z) => z == y
  | _ => false
theorem isSS_ok {x : Option (Option Value)} {y : Value} (h : isSS x y = true) : x = some (some y) := by
  unfold isSS at h
  split at h
  · rw [beq_iff_eq.mp h]
  · cases h
def excB (K : PySem.W.Frag) (C : Addr) : Bool :=
  isSS (PySem.W.findIn K (.ref C) "__getattribute__") (.builtin "BaseException.__getattribute__") && isN (PySem.W.findIn K (.ref C) "__getattr__") && isS (PySem.W.subIn K (.ref C) (.type "BaseException")) true && PySem.W.hasDictIn K C &&
  isSS (PySem.W.findIn K (.ref C) "__class__") (.builtin "object.__class__") && isSS (PySem.W.specialIn K (.builtin "object.__class__") "__get__") (.builtin "getset_descriptor.__get__") && isS (PySem.W.takesIn K (.builtin "object.__class__")) true && isS (PySem.W.mroIn K C (.type "object")) true
theorem excB_ok {K : PySem.W.Frag} {C : Addr} (h : excB K C = true) : ExcC K C := by
  simp only [excB, Bool.and_eq_true] at h
  obtain ⟨⟨⟨⟨⟨⟨⟨h1, h2⟩, h3⟩, h4⟩, h5⟩, h6⟩, h7⟩, h8⟩ := h
  exact ⟨isSS_ok h1, isN_ok h2, isS_ok h3, h4, isSS_ok h5, isSS_ok h6, isS_ok h7, isS_ok h8⟩
def errB (l : List (Nat × Str)) (K : PySem.W.Frag) (c : Nat) : Bool := excB K (clA l K c) && isS (PySem.W.kitOne K (.ref (clA l K c)) (.type "ValueError")) true &&
  l.all fun e => isS (PySem.W.kitOne K (.ref (clA l K c)) (.ref (clA l K e.1))) (subC c e.1) && isS (PySem.W.exmOne K (.ref (clA l K c)) (.ref (clA l K e.1))) (subC c e.1)
/-- the head's extra facts: own are the errors that are raised -/
def errsB (own : List Nat) (l : List (Nat × Str)) (K : PySem.W.Frag) : Bool := own.all (errB l K) && l.all fun e => !(clA l K e.1 == 0)
theorem lookup_in {α β : Type} [BEq α] [LawfulBEq α] {c : α} {n : β} : ∀ {l : List (α × β)}, l.lookup c = some n → (c, n) ∈ l
  | [], h => by cases h
  | (a, b) :: l, h => by
    rw [List.lookup_cons] at h
    split at h
    · rename_i e
      rw [beq_iff_eq.mp e]
      cases h
      exact List.mem_cons_self
    · exact List.mem_cons_of_mem _ (lookup_in h)
theorem kc_ok {own : List Nat} {l : List (Nat × Str)} {K : PySem.W.Frag} {c : Nat} {P : Program} {w : World} (h : errsB own l K = true) (hc : c ∈ own) : Kc K (⟨clA l K, P, w⟩ : Cl) c := by
  simp only [errsB, Bool.and_eq_true] at h
  have h := List.all_eq_true.mp h.1 c hc
  simp only [errB, Bool.and_eq_true] at h
  obtain ⟨⟨h1, h2⟩, h3⟩ := h
  have key : ∀ c', clA l K c' ≠ 0 → ∃ n, (c', n) ∈ l := fun c' hne => by
    unfold clA at hne
    split at hne
    · rename_i n e
      exact ⟨n, lookup_in e⟩
    · exact absurd rfl hne
  refine ⟨excB_ok h1, fun c' hne => ?_, fun c' hne => ?_, isS_ok h2⟩
  · obtain ⟨n, hn⟩ := key c' hne
    have := List.all_eq_true.mp h3 _ hn
    simp only [Bool.and_eq_true] at this
    exact isS_ok this.1
  · obtain ⟨n, hn⟩ := key c' hne
    have := List.all_eq_true.mp h3 _ hn
    simp only [Bool.and_eq_true] at this
    exact isS_ok this.2
theorem cl_ne {own : List Nat} {l : List (Nat × Str)} {K : PySem.W.Frag} {c : Nat} {n : Str} (h : errsB own l K = true) (hc : (c, n) ∈ l) : clA l K c ≠ 0 := by
  simp only [errsB, Bool.and_eq_true] at h
  have := List.all_eq_true.mp h.2 _ hc
  simpa using this
end Fk

namespace FkHead
open PySem PySem.Spec PyProof.Rows L2 Fk
def top (i : Nat) : Stmt := PySem.Challenge.pw_finitekeys_k06_within_and_many_kept.main.body.getD i (.Pass ⟨0, 0, 0, 0⟩)
def met (i j : Nat) : Stmt := match top i with
  | .ClassDef (body := b) .. => b.getD j (.Pass ⟨0, 0, 0, 0⟩)
  | _ => .Pass ⟨0, 0, 0, 0⟩
def d0 : He.DefD := ⟨("is_name", none), "is_name", "is_name", defArgs (top 12), defBody (top 12), defScope (top 12), [], []⟩
def d1 : He.DefD := ⟨("are_unlike", none), "are_unlike", "are_unlike", defArgs (top 13), defBody (top 13), defScope (top 13), [], []⟩
def d2 : He.DefD := ⟨("is_table", none), "is_table", "is_table", defArgs (top 14), defBody (top 14), defScope (top 14), [], []⟩
def d3 : He.DefD := ⟨("is_scheme", none), "is_scheme", "is_scheme", defArgs (top 15), defBody (top 15), defScope (top 15), [], []⟩
def d4 : He.DefD := ⟨("look_at_scheme", none), "look_at_scheme", "look_at_scheme", defArgs (top 16), defBody (top 16), defScope (top 16), [], []⟩
def d5 : He.DefD := ⟨("columns_in", none), "columns_in", "columns_in", defArgs (top 17), defBody (top 17), defScope (top 17), [], []⟩
def d6 : He.DefD := ⟨("are_columns", none), "are_columns", "are_columns", defArgs (top 18), defBody (top 18), defScope (top 18), [], []⟩
def d7 : He.DefD := ⟨("is_column", none), "is_column", "is_column", defArgs (top 19), defBody (top 19), defScope (top 19), [], []⟩
def d8 : He.DefD := ⟨("is_right", none), "is_right", "is_right", defArgs (top 20), defBody (top 20), defScope (top 20), [], []⟩
def d9 : He.DefD := ⟨("look_at_dependency", none), "look_at_dependency", "look_at_dependency", defArgs (top 21), defBody (top 21), defScope (top 21), [], []⟩
def d10 : He.DefD := ⟨("is_whole", none), "is_whole", "is_whole", defArgs (top 23), defBody (top 23), defScope (top 23), [], []⟩
def d11 : He.DefD := ⟨("is_row", none), "is_row", "is_row", defArgs (top 24), defBody (top 24), defScope (top 24), [], []⟩
def d12 : He.DefD := ⟨("are_rows", none), "are_rows", "are_rows", defArgs (top 25), defBody (top 25), defScope (top 25), [], []⟩
def d13 : He.DefD := ⟨("is_right_database", none), "is_right_database", "is_right_database", defArgs (top 26), defBody (top 26), defScope (top 26), [], []⟩
def d14 : He.DefD := ⟨("look_at_database", none), "look_at_database", "look_at_database", defArgs (top 27), defBody (top 27), defScope (top 27), [], []⟩
def d15 : He.DefD := ⟨("rows_in", none), "rows_in", "rows_in", defArgs (top 28), defBody (top 28), defScope (top 28), [], []⟩
def d16 : He.DefD := ⟨("values_in", none), "values_in", "values_in", defArgs (top 29), defBody (top 29), defScope (top 29), [], []⟩
def d17 : He.DefD := ⟨("different", none), "different", "different", defArgs (top 30), defBody (top 30), defScope (top 30), [], []⟩
def d18 : He.DefD := ⟨("value_count", none), "value_count", "value_count", defArgs (top 31), defBody (top 31), defScope (top 31), [], []⟩
def d19 : He.DefD := ⟨("broken_sets", none), "broken_sets", "broken_sets", defArgs (top 32), defBody (top 32), defScope (top 32), [], []⟩
def d20 : He.DefD := ⟨("broken_within", none), "broken_within", "broken_within", defArgs (top 33), defBody (top 33), defScope (top 33), [], []⟩
def d21 : He.DefD := ⟨("broken_in", none), "broken_in", "broken_in", defArgs (top 34), defBody (top 34), defScope (top 34), [], []⟩
def d22 : He.DefD := ⟨("broken_by", none), "broken_by", "broken_by", defArgs (top 35), defBody (top 35), defScope (top 35), [], []⟩
def d23 : He.DefD := ⟨("keeps", none), "keeps", "keeps", defArgs (top 36), defBody (top 36), defScope (top 36), [], []⟩
def d24 : He.DefD := ⟨("_law_mixed", none), "_law_mixed", "_law_mixed", defArgs (top 38), defBody (top 38), defScope (top 38), [], []⟩
def d25 : He.DefD := ⟨("_law_pile", none), "_law_pile", "_law_pile", defArgs (top 39), defBody (top 39), defScope (top 39), [], []⟩
def d26 : He.DefD := ⟨("_law_take", none), "_law_take", "_law_take", defArgs (top 40), defBody (top 40), defScope (top 40), [], []⟩
def d27 : He.DefD := ⟨("_law_name", none), "_law_name", "_law_name", defArgs (top 41), defBody (top 41), defScope (top 41), [], []⟩
def d28 : He.DefD := ⟨("_law_scheme", none), "_law_scheme", "_law_scheme", defArgs (top 42), defBody (top 42), defScope (top 42), [], []⟩
def d29 : He.DefD := ⟨("_law_pairs", none), "_law_pairs", "_law_pairs", defArgs (top 43), defBody (top 43), defScope (top 43), [], []⟩
def d30 : He.DefD := ⟨("_law_database", none), "_law_database", "_law_database", defArgs (top 44), defBody (top 44), defScope (top 44), [], []⟩
def d31 : He.DefD := ⟨("_law_whole", none), "_law_whole", "_law_whole", defArgs (top 45), defBody (top 45), defScope (top 45), [], []⟩
def d32 : He.DefD := ⟨("_law_listed", none), "_law_listed", "_law_listed", defArgs (top 46), defBody (top 46), defScope (top 46), [], []⟩
def d33 : He.DefD := ⟨("_law_count", none), "_law_count", "_law_count", defArgs (top 47), defBody (top 47), defScope (top 47), [], []⟩
def d34 : He.DefD := ⟨("_law_due", none), "_law_due", "_law_due", defArgs (top 48), defBody (top 48), defScope (top 48), [], []⟩
def d35 : He.DefD := ⟨("_law_good", none), "_law_good", "_law_good", defArgs (top 49), defBody (top 49), defScope (top 49), [], []⟩
def d36 : He.DefD := ⟨("law", none), "law", "law", defArgs (top 50), defBody (top 50), defScope (top 50), [], []⟩
def fn : List He.DefD := [d0, d1, d2, d3, d4, d5, d6, d7, d8, d9, d10, d11, d12, d13, d14, d15, d16, d17, d18, d19, d20, d21, d22, d23, d24, d25, d26, d27, d28, d29, d30, d31, d32, d33, d34, d35, d36]
def fa : List He.Fa := [.glo "is_name", .glo "are_unlike", .glo "is_table", .glo "is_scheme", .glo "look_at_scheme", .glo "columns_in", .glo "are_columns", .glo "is_column", .glo "is_right", .glo "look_at_dependency", .glo "is_whole", .glo "is_row", .glo "are_rows", .glo "is_right_database", .glo "look_at_database", .glo "rows_in", .glo "values_in", .glo "different", .glo "value_count", .glo "broken_sets", .glo "broken_within", .glo "broken_in", .glo "broken_by", .glo "keeps", .glo "_law_mixed", .glo "_law_pile", .glo "_law_take", .glo "_law_name", .glo "_law_scheme", .glo "_law_pairs", .glo "_law_database", .glo "_law_whole", .glo "_law_listed", .glo "_law_count", .glo "_law_due", .glo "_law_good", .glo "law", .free "ValueError", .free "all", .free "bool", .free "enumerate", .free "int", .free "isinstance", .free "len", .free "list", .free "min", .free "range", .free "repr", .free "set", .free "str", .free "sum", .free "tuple", .free "zip", .str "LETTERS" "abcdefghijklmnopqrstuvwxyz", .int "LONGEST_NAME" 8, .int "MOST_TABLES" 3, .int "MOST_COLUMNS" 5, .int "MOST_IN_ALL" 8, .exc "NoScheme", .exc "NoDependency", .exc "NoDatabase", .exc "NoColumn", .glo "NoScheme", .glo "NoDependency", .glo "NoDatabase", .glo "NoColumn"]
abbrev R : PySem.W.OpenRow := PySem.W.OpenLaw.row PySem.Challenge.rw_finitekeys_k06_within_and_many_kept
def clsL : List (Nat × Str) := [(1, "NoScheme"), (3, "NoDependency"), (4, "NoDatabase"), (5, "NoColumn")]
def ownL : List Nat := [1, 3, 4, 5]
abbrev ex : PySem.W.Frag → Bool := Fk.errsB ownL clsL
abbrev hk : PySem.W.Hook := He.hookX 5 fa fn [] [] ex
def ob (s : PySem.W.SharedT) : He.AlX := He.obsX 5 fa fn [] [] ex (HandSHeadRun.getT s)
theorem ob_eq (s : PySem.W.SharedT) : ob s = hk.obs s.abs := He.obsX_eq (HandSHeadRun.getT_eq s)
def loose0 : List PySem.Str := ["KeysError", "NoScheme", "NoDependency", "NoDatabase", "NoColumn", "LETTERS", "LONGEST_NAME", "MOST_TABLES", "MOST_COLUMNS", "MOST_IN_ALL", "is_name", "are_unlike", "is_table", "is_scheme", "look_at_scheme", "columns_in", "are_columns", "is_column", "is_right", "look_at_dependency", "is_whole", "is_row", "are_rows", "is_right_database", "look_at_database", "rows_in", "values_in", "different", "value_count", "broken_sets"]
def loose1 : List PySem.Str := ["broken_within", "broken_in", "broken_by", "keeps", "_law_mixed", "_law_pile", "_law_take", "_law_name", "_law_scheme", "_law_pairs", "_law_database", "_law_whole", "_law_listed", "_law_count", "_law_due", "_law_good"]
def loose : List PySem.Str := loose0 ++ loose1
theorem run (w : World) : HandSHeadRun.RunEq R (PySem.W.view R.prog [50]) hk ob 20000 loose w := by
  intro os
  kernel_rfl

def tb0 : Tab := ⟨[], [("LETTERS", (.str "abcdefghijklmnopqrstuvwxyz")), ("LONGEST_NAME", (.int 8)), ("MOST_TABLES", (.int 3)), ("MOST_COLUMNS", (.int 5)), ("MOST_IN_ALL", (.int 8))],
  ["ValueError", "all", "bool", "enumerate", "int", "isinstance", "len", "list", "min", "range", "repr", "set", "str", "sum", "tuple", "zip"],
  [("NoScheme", 1), ("NoDependency", 3), ("NoDatabase", 4), ("NoColumn", 5)],
  [("NoScheme", 1), ("NoDependency", 3), ("NoDatabase", 4), ("NoColumn", 5)]⟩
def n_is_name : List Str := ["thing", "letter"]
def t_is_name : Tab := ⟨[], tb0.cons, tb0.free, tb0.exs, tb0.clss⟩
theorem k_is_name : chk t_is_name n_is_name 60 (.ss ⟨defScope (top 12), none⟩ c_is_name (defBody (top 12))) = true := by kernel_rfl
theorem s_is_name : FnScope n_is_name ["thing"] (defScope (top 12)) := ⟨rfl, rfl, rfl, by decide +kernel, rfl, by decide +kernel, by decide +kernel⟩
def n_are_unlike : List Str := ["names", "k"]
def t_are_unlike : Tab := ⟨[], tb0.cons, tb0.free, tb0.exs, tb0.clss⟩
theorem k_are_unlike : chk t_are_unlike n_are_unlike 60 (.ss ⟨defScope (top 13), none⟩ c_are_unlike (defBody (top 13))) = true := by kernel_rfl
theorem s_are_unlike : FnScope n_are_unlike ["names"] (defScope (top 13)) := ⟨rfl, rfl, rfl, by decide +kernel, rfl, by decide +kernel, by decide +kernel⟩
def n_is_table : List Str := ["thing", "name"]
def t_is_table : Tab := ⟨[⟨"are_unlike", 1, []⟩, ⟨"is_name", 0, []⟩], tb0.cons, tb0.free, tb0.exs, tb0.clss⟩
theorem k_is_table : chk t_is_table n_is_table 60 (.ss ⟨defScope (top 14), none⟩ c_is_table (defBody (top 14))) = true := by kernel_rfl
theorem s_is_table : FnScope n_is_table ["thing"] (defScope (top 14)) := ⟨rfl, rfl, rfl, by decide +kernel, rfl, by decide +kernel, by decide +kernel⟩
def n_is_scheme : List Str := ["thing", "table", "name", "columns"]
def t_is_scheme : Tab := ⟨[⟨"are_unlike", 1, []⟩, ⟨"is_table", 2, []⟩], tb0.cons, tb0.free, tb0.exs, tb0.clss⟩
theorem k_is_scheme : chk t_is_scheme n_is_scheme 60 (.ss ⟨defScope (top 15), none⟩ c_is_scheme (defBody (top 15))) = true := by kernel_rfl
theorem s_is_scheme : FnScope n_is_scheme ["thing"] (defScope (top 15)) := ⟨rfl, rfl, rfl, by decide +kernel, rfl, by decide +kernel, by decide +kernel⟩
def n_look_at_scheme : List Str := ["scheme"]
def t_look_at_scheme : Tab := ⟨[⟨"is_scheme", 3, []⟩], tb0.cons, tb0.free, tb0.exs, tb0.clss⟩
theorem k_look_at_scheme : chk t_look_at_scheme n_look_at_scheme 60 (.ss ⟨defScope (top 16), none⟩ c_look_at_scheme (defBody (top 16))) = true := by kernel_rfl
theorem s_look_at_scheme : FnScope n_look_at_scheme ["scheme"] (defScope (top 16)) := ⟨rfl, rfl, rfl, by decide +kernel, rfl, by decide +kernel, by decide +kernel⟩
def n_columns_in : List Str := ["scheme", "table", "name", "columns"]
def t_columns_in : Tab := ⟨[], tb0.cons, tb0.free, tb0.exs, tb0.clss⟩
theorem k_columns_in : chk t_columns_in n_columns_in 60 (.ss ⟨defScope (top 17), none⟩ c_columns_in (defBody (top 17))) = true := by kernel_rfl
theorem s_columns_in : FnScope n_columns_in ["scheme", "table"] (defScope (top 17)) := ⟨rfl, rfl, rfl, by decide +kernel, rfl, by decide +kernel, by decide +kernel⟩
def n_are_columns : List Str := ["scheme", "table", "thing", "columns", "k", "one"]
def t_are_columns : Tab := ⟨[⟨"columns_in", 18, []⟩], tb0.cons, tb0.free, tb0.exs, tb0.clss⟩
theorem k_are_columns : chk t_are_columns n_are_columns 60 (.ss ⟨defScope (top 18), none⟩ c_are_columns (defBody (top 18))) = true := by kernel_rfl
theorem s_are_columns : FnScope n_are_columns ["scheme", "table", "thing"] (defScope (top 18)) := ⟨rfl, rfl, rfl, by decide +kernel, rfl, by decide +kernel, by decide +kernel⟩
def n_is_column : List Str := ["scheme", "table", "column"]
def t_is_column : Tab := ⟨[⟨"are_columns", 19, []⟩], tb0.cons, tb0.free, tb0.exs, tb0.clss⟩
theorem k_is_column : chk t_is_column n_is_column 60 (.ss ⟨defScope (top 19), none⟩ c_is_column (defBody (top 19))) = true := by kernel_rfl
theorem s_is_column : FnScope n_is_column ["scheme", "table", "column"] (defScope (top 19)) := ⟨rfl, rfl, rfl, by decide +kernel, rfl, by decide +kernel, by decide +kernel⟩
def n_is_right : List Str := ["scheme", "thing"]
def t_is_right : Tab := ⟨[⟨"is_column", 20, []⟩, ⟨"are_columns", 19, []⟩], tb0.cons, tb0.free, tb0.exs, tb0.clss⟩
theorem k_is_right : chk t_is_right n_is_right 60 (.ss ⟨defScope (top 20), none⟩ c_is_right (defBody (top 20))) = true := by kernel_rfl
theorem s_is_right : FnScope n_is_right ["scheme", "thing"] (defScope (top 20)) := ⟨rfl, rfl, rfl, by decide +kernel, rfl, by decide +kernel, by decide +kernel⟩
def n_look_at_dependency : List Str := ["scheme", "dependency"]
def t_look_at_dependency : Tab := ⟨[⟨"is_right", 21, []⟩], tb0.cons, tb0.free, tb0.exs, tb0.clss⟩
theorem k_look_at_dependency : chk t_look_at_dependency n_look_at_dependency 60 (.ss ⟨defScope (top 21), none⟩ c_look_at_dependency (defBody (top 21))) = true := by kernel_rfl
theorem s_look_at_dependency : FnScope n_look_at_dependency ["scheme", "dependency"] (defScope (top 21)) := ⟨rfl, rfl, rfl, by decide +kernel, rfl, by decide +kernel, by decide +kernel⟩
def n_is_whole : List Str := ["thing"]
def t_is_whole : Tab := ⟨[], tb0.cons, tb0.free, tb0.exs, tb0.clss⟩
theorem k_is_whole : chk t_is_whole n_is_whole 60 (.ss ⟨defScope (top 23), none⟩ c_is_whole (defBody (top 23))) = true := by kernel_rfl
theorem s_is_whole : FnScope n_is_whole ["thing"] (defScope (top 23)) := ⟨rfl, rfl, rfl, by decide +kernel, rfl, by decide +kernel, by decide +kernel⟩
def n_is_row : List Str := ["thing", "width", "value"]
def t_is_row : Tab := ⟨[⟨"is_whole", 69, []⟩], tb0.cons, tb0.free, tb0.exs, tb0.clss⟩
theorem k_is_row : chk t_is_row n_is_row 60 (.ss ⟨defScope (top 24), none⟩ c_is_row (defBody (top 24))) = true := by kernel_rfl
theorem s_is_row : FnScope n_is_row ["thing", "width"] (defScope (top 24)) := ⟨rfl, rfl, rfl, by decide +kernel, rfl, by decide +kernel, by decide +kernel⟩
def n_are_rows : List Str := ["thing", "width", "row"]
def t_are_rows : Tab := ⟨[⟨"is_row", 70, []⟩], tb0.cons, tb0.free, tb0.exs, tb0.clss⟩
theorem k_are_rows : chk t_are_rows n_are_rows 60 (.ss ⟨defScope (top 25), none⟩ c_are_rows (defBody (top 25))) = true := by kernel_rfl
theorem s_are_rows : FnScope n_are_rows ["thing", "width"] (defScope (top 25)) := ⟨rfl, rfl, rfl, by decide +kernel, rfl, by decide +kernel, by decide +kernel⟩
def n_is_right_database : List Str := ["scheme", "thing", "rows", "table"]
def t_is_right_database : Tab := ⟨[⟨"are_rows", 71, []⟩], tb0.cons, tb0.free, tb0.exs, tb0.clss⟩
theorem k_is_right_database : chk t_is_right_database n_is_right_database 60 (.ss ⟨defScope (top 26), none⟩ c_is_right_database (defBody (top 26))) = true := by kernel_rfl
theorem s_is_right_database : FnScope n_is_right_database ["scheme", "thing"] (defScope (top 26)) := ⟨rfl, rfl, rfl, by decide +kernel, rfl, by decide +kernel, by decide +kernel⟩
def n_look_at_database : List Str := ["scheme", "database"]
def t_look_at_database : Tab := ⟨[⟨"is_right_database", 72, []⟩], tb0.cons, tb0.free, tb0.exs, tb0.clss⟩
theorem k_look_at_database : chk t_look_at_database n_look_at_database 60 (.ss ⟨defScope (top 27), none⟩ c_look_at_database (defBody (top 27))) = true := by kernel_rfl
theorem s_look_at_database : FnScope n_look_at_database ["scheme", "database"] (defScope (top 27)) := ⟨rfl, rfl, rfl, by decide +kernel, rfl, by decide +kernel, by decide +kernel⟩
def n_rows_in : List Str := ["scheme", "database", "table", "named", "rows"]
def t_rows_in : Tab := ⟨[], tb0.cons, tb0.free, tb0.exs, tb0.clss⟩
theorem k_rows_in : chk t_rows_in n_rows_in 60 (.ss ⟨defScope (top 28), none⟩ c_rows_in (defBody (top 28))) = true := by kernel_rfl
theorem s_rows_in : FnScope n_rows_in ["scheme", "database", "table"] (defScope (top 28)) := ⟨rfl, rfl, rfl, by decide +kernel, rfl, by decide +kernel, by decide +kernel⟩
def n_values_in : List Str := ["scheme", "database", "table", "column", "place", "row"]
def t_values_in : Tab := ⟨[⟨"rows_in", 75, []⟩, ⟨"columns_in", 18, []⟩], tb0.cons, tb0.free, tb0.exs, tb0.clss⟩
theorem k_values_in : chk t_values_in n_values_in 60 (.ss ⟨defScope (top 29), none⟩ c_values_in (defBody (top 29))) = true := by kernel_rfl
theorem s_values_in : FnScope n_values_in ["scheme", "database", "table", "column"] (defScope (top 29)) := ⟨rfl, rfl, rfl, by decide +kernel, rfl, by decide +kernel, by decide +kernel⟩
def n_different : List Str := ["values"]
def t_different : Tab := ⟨[], tb0.cons, tb0.free, tb0.exs, tb0.clss⟩
theorem k_different : chk t_different n_different 60 (.ss ⟨defScope (top 30), none⟩ c_different (defBody (top 30))) = true := by kernel_rfl
theorem s_different : FnScope n_different ["values"] (defScope (top 30)) := ⟨rfl, rfl, rfl, by decide +kernel, rfl, by decide +kernel, by decide +kernel⟩
def n_value_count : List Str := ["scheme", "database", "table", "column"]
def t_value_count : Tab := ⟨[⟨"different", 77, []⟩, ⟨"values_in", 76, []⟩, ⟨"is_column", 20, []⟩, ⟨"look_at_database", 74, []⟩, ⟨"look_at_scheme", 4, []⟩], tb0.cons, tb0.free, tb0.exs, tb0.clss⟩
theorem k_value_count : chk t_value_count n_value_count 60 (.ss ⟨defScope (top 31), none⟩ c_value_count (defBody (top 31))) = true := by kernel_rfl
theorem s_value_count : FnScope n_value_count ["scheme", "database", "table", "column"] (defScope (top 31)) := ⟨rfl, rfl, rfl, by decide +kernel, rfl, by decide +kernel, by decide +kernel⟩
def n_broken_sets : List Str := ["scheme", "database", "dependency", "columns", "places", "last", "rows", "first", "found", "kind", "table", "xs", "a", "j", "row", "key", "x", "place"]
def t_broken_sets : Tab := ⟨[⟨"rows_in", 75, []⟩, ⟨"columns_in", 18, []⟩], tb0.cons, tb0.free, tb0.exs, tb0.clss⟩
theorem k_broken_sets : chk t_broken_sets n_broken_sets 60 (.ss ⟨defScope (top 32), none⟩ c_broken_sets (defBody (top 32))) = true := by kernel_rfl
theorem s_broken_sets : FnScope n_broken_sets ["scheme", "database", "dependency"] (defScope (top 32)) := ⟨rfl, rfl, rfl, by decide +kernel, rfl, by decide +kernel, by decide +kernel⟩
def n_broken_within : List Str := ["scheme", "database", "dependency", "there", "value", "kind", "table", "column", "other", "place", "j"]
def t_broken_within : Tab := ⟨[⟨"values_in", 76, []⟩], tb0.cons, tb0.free, tb0.exs, tb0.clss⟩
theorem k_broken_within : chk t_broken_within n_broken_within 60 (.ss ⟨defScope (top 33), none⟩ c_broken_within (defBody (top 33))) = true := by kernel_rfl
theorem s_broken_within : FnScope n_broken_within ["scheme", "database", "dependency"] (defScope (top 33)) := ⟨rfl, rfl, rfl, by decide +kernel, rfl, by decide +kernel, by decide +kernel⟩
def n_broken_in : List Str := ["scheme", "database", "dependency", "first", "second", "kind", "table", "column", "other", "place"]
def t_broken_in : Tab := ⟨[⟨"different", 77, []⟩, ⟨"values_in", 76, []⟩, ⟨"broken_within", 80, []⟩, ⟨"broken_sets", 79, []⟩], tb0.cons, tb0.free, tb0.exs, tb0.clss⟩
theorem k_broken_in : chk t_broken_in n_broken_in 60 (.ss ⟨defScope (top 34), none⟩ c_broken_in (defBody (top 34))) = true := by kernel_rfl
theorem s_broken_in : FnScope n_broken_in ["scheme", "database", "dependency"] (defScope (top 34)) := ⟨rfl, rfl, rfl, by decide +kernel, rfl, by decide +kernel, by decide +kernel⟩
def n_broken_by : List Str := ["scheme", "database", "dependency"]
def t_broken_by : Tab := ⟨[⟨"broken_in", 81, []⟩, ⟨"look_at_dependency", 68, []⟩, ⟨"look_at_database", 74, []⟩, ⟨"look_at_scheme", 4, []⟩], tb0.cons, tb0.free, tb0.exs, tb0.clss⟩
theorem k_broken_by : chk t_broken_by n_broken_by 60 (.ss ⟨defScope (top 35), none⟩ c_broken_by (defBody (top 35))) = true := by kernel_rfl
theorem s_broken_by : FnScope n_broken_by ["scheme", "database", "dependency"] (defScope (top 35)) := ⟨rfl, rfl, rfl, by decide +kernel, rfl, by decide +kernel, by decide +kernel⟩
def n_keeps : List Str := ["scheme", "database", "dependency"]
def t_keeps : Tab := ⟨[⟨"broken_by", 82, []⟩], tb0.cons, tb0.free, tb0.exs, tb0.clss⟩
theorem k_keeps : chk t_keeps n_keeps 60 (.ss ⟨defScope (top 36), none⟩ c_keeps (defBody (top 36))) = true := by kernel_rfl
theorem s_keeps : FnScope n_keeps ["scheme", "database", "dependency"] (defScope (top 36)) := ⟨rfl, rfl, rfl, by decide +kernel, rfl, by decide +kernel, by decide +kernel⟩
def n_l_mixed : List Str := ["_law_cell", "_law_k", "_law_number"]
def t_l_mixed : Tab := ⟨[], tb0.cons, tb0.free, tb0.exs, tb0.clss⟩
theorem k_l_mixed : chk t_l_mixed n_l_mixed 60 (.ss ⟨defScope (top 38), none⟩ c_l_mixed (defBody (top 38))) = true := by kernel_rfl
theorem s_l_mixed : FnScope n_l_mixed ["_law_cell", "_law_k"] (defScope (top 38)) := ⟨rfl, rfl, rfl, by decide +kernel, rfl, by decide +kernel, by decide +kernel⟩
def n_l_pile : List Str := ["_law_script", "_law_k", "_law_cell", "_law_found", "_law_j"]
def t_l_pile : Tab := ⟨[⟨"_law_mixed", 5, []⟩], tb0.cons, tb0.free, tb0.exs, tb0.clss⟩
theorem k_l_pile : chk t_l_pile n_l_pile 60 (.ss ⟨defScope (top 39), none⟩ c_l_pile (defBody (top 39))) = true := by kernel_rfl
theorem s_l_pile : FnScope n_l_pile ["_law_script", "_law_k"] (defScope (top 39)) := ⟨rfl, rfl, rfl, by decide +kernel, rfl, by decide +kernel, by decide +kernel⟩
def n_l_take : List Str := ["_law_pile_here", "_law_size", "_law_digit"]
def t_l_take : Tab := ⟨[], tb0.cons, tb0.free, tb0.exs, tb0.clss⟩
theorem k_l_take : chk t_l_take n_l_take 60 (.ss ⟨defScope (top 40), none⟩ c_l_take (defBody (top 40))) = true := by kernel_rfl
theorem s_l_take : FnScope n_l_take ["_law_pile_here", "_law_size"] (defScope (top 40)) := ⟨rfl, rfl, rfl, by decide +kernel, rfl, by decide +kernel, by decide +kernel⟩
def n_l_name : List Str := ["_law_pile_here", "_law_used", "_law_letters", "_law_name_here", "_law_k", "_law_letter"]
def t_l_name : Tab := ⟨[⟨"_law_take", 7, []⟩], tb0.cons, tb0.free, tb0.exs, tb0.clss⟩
theorem k_l_name : chk t_l_name n_l_name 60 (.ss ⟨defScope (top 41), none⟩ c_l_name (defBody (top 41))) = true := by kernel_rfl
theorem s_l_name : FnScope n_l_name ["_law_pile_here", "_law_used"] (defScope (top 41)) := ⟨rfl, rfl, rfl, by decide +kernel, rfl, by decide +kernel, by decide +kernel⟩
def n_l_scheme : List Str := ["_law_pile_here", "_law_many", "_law_alike", "_law_left", "_law_scheme_here", "_law_k", "_law_size", "_law_columns", "_law_j", "_law_part", "_law_name_here", "_law_some"]
def t_l_scheme : Tab := ⟨[⟨"_law_name", 8, []⟩, ⟨"_law_take", 7, []⟩], tb0.cons, tb0.free, tb0.exs, tb0.clss⟩
theorem k_l_scheme : chk t_l_scheme n_l_scheme 60 (.ss ⟨defScope (top 42), none⟩ c_l_scheme (defBody (top 42))) = true := by kernel_rfl
theorem s_l_scheme : FnScope n_l_scheme ["_law_pile_here"] (defScope (top 42)) := ⟨rfl, rfl, rfl, by decide +kernel, rfl, by decide +kernel, by decide +kernel⟩
def n_l_pairs : List Str := ["_law_scheme_here", "_law_found", "_law_name_here", "_law_columns", "_law_column"]
def t_l_pairs : Tab := ⟨[], tb0.cons, tb0.free, tb0.exs, tb0.clss⟩
theorem k_l_pairs : chk t_l_pairs n_l_pairs 60 (.ss ⟨defScope (top 43), none⟩ c_l_pairs (defBody (top 43))) = true := by kernel_rfl
theorem s_l_pairs : FnScope n_l_pairs ["_law_scheme_here"] (defScope (top 43)) := ⟨rfl, rfl, rfl, by decide +kernel, rfl, by decide +kernel, by decide +kernel⟩
def n_l_database_v2 : List Str := ["_law_pile_here", "_law_scheme_here", "_law_times", "_law_found", "_law_name_here", "_law_columns", "_law_rows", "_law_k", "_law_row", "_law_column"]
def t_l_database_v2 : Tab := ⟨[⟨"_law_take", 7, []⟩], tb0.cons, tb0.free, tb0.exs, tb0.clss⟩
theorem k_l_database_v2 : chk t_l_database_v2 n_l_database_v2 60 (.ss ⟨defScope (top 44), none⟩ c_l_database_v2 (defBody (top 44))) = true := by kernel_rfl
theorem s_l_database_v2 : FnScope n_l_database_v2 ["_law_pile_here", "_law_scheme_here"] (defScope (top 44)) := ⟨rfl, rfl, rfl, by decide +kernel, rfl, by decide +kernel, by decide +kernel⟩
def n_l_whole : List Str := ["_law_found"]
def t_l_whole : Tab := ⟨[], tb0.cons, tb0.free, tb0.exs, tb0.clss⟩
theorem k_l_whole : chk t_l_whole n_l_whole 60 (.ss ⟨defScope (top 45), none⟩ c_l_whole (defBody (top 45))) = true := by kernel_rfl
theorem s_l_whole : FnScope n_l_whole ["_law_found"] (defScope (top 45)) := ⟨rfl, rfl, rfl, by decide +kernel, rfl, by decide +kernel, by decide +kernel⟩
def n_l_listed : List Str := ["_law_scheme_here", "_law_database_here", "_law_table", "_law_column", "_law_k", "_law_row"]
def t_l_listed : Tab := ⟨[], tb0.cons, tb0.free, tb0.exs, tb0.clss⟩
theorem k_l_listed : chk t_l_listed n_l_listed 60 (.ss ⟨defScope (top 46), none⟩ c_l_listed (defBody (top 46))) = true := by kernel_rfl
theorem s_l_listed : FnScope n_l_listed ["_law_scheme_here", "_law_database_here", "_law_table", "_law_column"] (defScope (top 46)) := ⟨rfl, rfl, rfl, by decide +kernel, rfl, by decide +kernel, by decide +kernel⟩
def n_l_count : List Str := ["_law_values", "_law_k"]
def t_l_count : Tab := ⟨[], tb0.cons, tb0.free, tb0.exs, tb0.clss⟩
theorem k_l_count : chk t_l_count n_l_count 60 (.ss ⟨defScope (top 47), none⟩ c_l_count (defBody (top 47))) = true := by kernel_rfl
theorem s_l_count : FnScope n_l_count ["_law_values"] (defScope (top 47)) := ⟨rfl, rfl, rfl, by decide +kernel, rfl, by decide +kernel, by decide +kernel⟩
def n_l_due_v2 : List Str := ["_law_scheme_here", "_law_database_here", "_law_dependency", "_law_one", "_law_other", "_law_k"]
def t_l_due_v2 : Tab := ⟨[⟨"_law_count", 99, []⟩, ⟨"_law_listed", 98, []⟩], tb0.cons, tb0.free, tb0.exs, tb0.clss⟩
theorem k_l_due_v2 : chk t_l_due_v2 n_l_due_v2 60 (.ss ⟨defScope (top 48), none⟩ c_l_due_v2 (defBody (top 48))) = true := by kernel_rfl
theorem s_l_due_v2 : FnScope n_l_due_v2 ["_law_scheme_here", "_law_database_here", "_law_dependency"] (defScope (top 48)) := ⟨rfl, rfl, rfl, by decide +kernel, rfl, by decide +kernel, by decide +kernel⟩
def n_l_good_v7 : List Str := ["_law_scheme_here", "_law_database_here", "_law_dependency", "_law_kept", "_law_due_here", "_law_turn", "_law_number", "_law_values", "_law_found", "_law_told", "_law_one"]
def t_l_good_v7 : Tab := ⟨[⟨"_law_count", 99, []⟩, ⟨"_law_whole", 86, []⟩, ⟨"_law_listed", 98, []⟩, ⟨"value_count", 78, []⟩, ⟨"broken_by", 82, []⟩, ⟨"keeps", 83, []⟩, ⟨"_law_due", 100, []⟩], tb0.cons, tb0.free, tb0.exs, tb0.clss⟩
theorem k_l_good_v7 : chk t_l_good_v7 n_l_good_v7 60 (.ss ⟨defScope (top 49), none⟩ c_l_good_v7 (defBody (top 49))) = true := by kernel_rfl
theorem s_l_good_v7 : FnScope n_l_good_v7 ["_law_scheme_here", "_law_database_here", "_law_dependency"] (defScope (top 49)) := ⟨rfl, rfl, rfl, by decide +kernel, rfl, by decide +kernel, by decide +kernel⟩
def n_law_k06_v2 : List Str := ["_law_script", "_law_scheme_here", "_law_database_here", "_law_pairs_here", "_law_pile_here", "_law_k", "_law_one", "_law_other", "_law_dependency", "_law_handed", "_law_at", "_law_row", "_law_rows", "_law_column"]
def t_law_k06_v2 : Tab := ⟨[⟨"_law_good", 101, []⟩, ⟨"_law_take", 7, []⟩, ⟨"_law_pile", 6, []⟩, ⟨"_law_pairs", 10, []⟩, ⟨"_law_database", 121, []⟩, ⟨"_law_scheme", 9, []⟩], tb0.cons, tb0.free, tb0.exs, tb0.clss⟩
theorem k_law_k06_v2 : chk t_law_k06_v2 n_law_k06_v2 60 (.ss ⟨defScope (top 50), none⟩ c_law_k06_v2 (defBody (top 50))) = true := by kernel_rfl
theorem s_law_k06_v2 : FnScope n_law_k06_v2 ["_law_script"] (defScope (top 50)) := ⟨rfl, rfl, rfl, by decide +kernel, rfl, by decide +kernel, by decide +kernel⟩
def cl (P : Program) (w : World) (K : PySem.W.Frag) : Cl := ⟨clA clsL K, P, w⟩
section
variable {P : Program} {w : World} {K : PySem.W.Frag} {h : Heap} {mg : Str → Option Value}
theorem env1 (X : K.In h) (Gn : h.Ns mainGlobals mg) (c : He.SaysD fa fn K) (cm : ex K = true) : Env1 P w K mg (cl P w K) tb0 where
  wp := ⟨rfl, rfl⟩
  cons := fun e he => by
    simp only [tb0, List.mem_cons, List.not_mem_nil, or_false] at he
    rcases he with rfl | rfl | rfl | rfl | rfl
    · obtain ⟨t, ht⟩ := He.str_ok X Gn (c.fact 53 (f := .str "LETTERS" "abcdefghijklmnopqrstuvwxyz") rfl)
      exact ⟨.str _, _, ht, ⟨t, rfl⟩, fun F => rfl⟩
    · obtain ⟨t, ht⟩ := He.int_ok X Gn (c.fact 54 (f := .int "LONGEST_NAME" 8) rfl)
      exact ⟨.int _, _, ht, ⟨t, rfl⟩, fun F => rfl⟩
    · obtain ⟨t, ht⟩ := He.int_ok X Gn (c.fact 55 (f := .int "MOST_TABLES" 3) rfl)
      exact ⟨.int _, _, ht, ⟨t, rfl⟩, fun F => rfl⟩
    · obtain ⟨t, ht⟩ := He.int_ok X Gn (c.fact 56 (f := .int "MOST_COLUMNS" 5) rfl)
      exact ⟨.int _, _, ht, ⟨t, rfl⟩, fun F => rfl⟩
    · obtain ⟨t, ht⟩ := He.int_ok X Gn (c.fact 57 (f := .int "MOST_IN_ALL" 8) rfl)
      exact ⟨.int _, _, ht, ⟨t, rfl⟩, fun F => rfl⟩
  free := fun e he => by
    simp only [tb0, List.mem_cons, List.not_mem_nil, or_false] at he
    rcases he with rfl | rfl | rfl | rfl | rfl | rfl | rfl | rfl | rfl | rfl | rfl | rfl | rfl | rfl | rfl | rfl
    · exact He.free_ok X Gn (c.fact 37 (f := .free "ValueError") rfl)
    · exact He.free_ok X Gn (c.fact 38 (f := .free "all") rfl)
    · exact He.free_ok X Gn (c.fact 39 (f := .free "bool") rfl)
    · exact He.free_ok X Gn (c.fact 40 (f := .free "enumerate") rfl)
    · exact He.free_ok X Gn (c.fact 41 (f := .free "int") rfl)
    · exact He.free_ok X Gn (c.fact 42 (f := .free "isinstance") rfl)
    · exact He.free_ok X Gn (c.fact 43 (f := .free "len") rfl)
    · exact He.free_ok X Gn (c.fact 44 (f := .free "list") rfl)
    · exact He.free_ok X Gn (c.fact 45 (f := .free "min") rfl)
    · exact He.free_ok X Gn (c.fact 46 (f := .free "range") rfl)
    · exact He.free_ok X Gn (c.fact 47 (f := .free "repr") rfl)
    · exact He.free_ok X Gn (c.fact 48 (f := .free "set") rfl)
    · exact He.free_ok X Gn (c.fact 49 (f := .free "str") rfl)
    · exact He.free_ok X Gn (c.fact 50 (f := .free "sum") rfl)
    · exact He.free_ok X Gn (c.fact 51 (f := .free "tuple") rfl)
    · exact He.free_ok X Gn (c.fact 52 (f := .free "zip") rfl)
  exs := fun e he => by
    simp only [tb0, List.mem_cons, List.not_mem_nil, or_false] at he
    rcases he with rfl | rfl | rfl | rfl
    · obtain ⟨q1, q2, q3, q4⟩ := He.exc_ok (c.fact 58 (f := .exc "NoScheme") rfl)
      exact ⟨_, _, _, _, PySem.F.excBase_ValueError, q1, He.glo_ok X Gn (c.fact 62 (f := .glo "NoScheme") rfl), q2, q3, q4, kc_ok cm (by decide)⟩
    · obtain ⟨q1, q2, q3, q4⟩ := He.exc_ok (c.fact 59 (f := .exc "NoDependency") rfl)
      exact ⟨_, _, _, _, PySem.F.excBase_ValueError, q1, He.glo_ok X Gn (c.fact 63 (f := .glo "NoDependency") rfl), q2, q3, q4, kc_ok cm (by decide)⟩
    · obtain ⟨q1, q2, q3, q4⟩ := He.exc_ok (c.fact 60 (f := .exc "NoDatabase") rfl)
      exact ⟨_, _, _, _, PySem.F.excBase_ValueError, q1, He.glo_ok X Gn (c.fact 64 (f := .glo "NoDatabase") rfl), q2, q3, q4, kc_ok cm (by decide)⟩
    · obtain ⟨q1, q2, q3, q4⟩ := He.exc_ok (c.fact 61 (f := .exc "NoColumn") rfl)
      exact ⟨_, _, _, _, PySem.F.excBase_ValueError, q1, He.glo_ok X Gn (c.fact 65 (f := .glo "NoColumn") rfl), q2, q3, q4, kc_ok cm (by decide)⟩
  clss := fun e he => by
    simp only [tb0, List.mem_cons, List.not_mem_nil, or_false] at he
    rcases he with rfl | rfl | rfl | rfl
    · exact ⟨He.glo_ok X Gn (c.fact 62 (f := .glo "NoScheme") rfl), show clA clsL K 1 ≠ 0 from cl_ne (n := "NoScheme") cm (by decide)⟩
    · exact ⟨He.glo_ok X Gn (c.fact 63 (f := .glo "NoDependency") rfl), show clA clsL K 3 ≠ 0 from cl_ne (n := "NoDependency") cm (by decide)⟩
    · exact ⟨He.glo_ok X Gn (c.fact 64 (f := .glo "NoDatabase") rfl), show clA clsL K 4 ≠ 0 from cl_ne (n := "NoDatabase") cm (by decide)⟩
    · exact ⟨He.glo_ok X Gn (c.fact 65 (f := .glo "NoColumn") rfl), show clA clsL K 5 ≠ 0 from cl_ne (n := "NoColumn") cm (by decide)⟩
end
theorem m_is_name {P : Program} {w : World} {K : PySem.W.Frag} {h : Heap} {mg : Str → Option Value} (X : K.In h) (Gn : h.Ns mainGlobals mg) (c : He.SaysD fa fn K) (cm : ex K = true) (base : Heap) : MFact P w K mg base (cl P w K) 1 "is_name" [] F_is_name := by
  obtain ⟨e1, D1⟩ := c.def_ 0 (d := d0) rfl
  exact def_fact (k := 0) (tb := t_is_name) (G := G_is_name) ⟨(env1 (P := P) (w := w) X Gn c cm).wp, (env1 (P := P) (w := w) X Gn c cm).cons, (env1 (P := P) (w := w) X Gn c cm).free, (env1 (P := P) (w := w) X Gn c cm).exs, (env1 (P := P) (w := w) X Gn c cm).clss⟩ facts_nil D1 s_is_name (He.glo_ok X Gn (c.fact 0 (f := .glo "is_name") rfl)) (D1.bindsN fun _ _ _ _ _ _ us hl => match us, hl with | [_], _ => rfl) k_is_name
theorem m_are_unlike {P : Program} {w : World} {K : PySem.W.Frag} {h : Heap} {mg : Str → Option Value} (X : K.In h) (Gn : h.Ns mainGlobals mg) (c : He.SaysD fa fn K) (cm : ex K = true) (base : Heap) : MFact P w K mg base (cl P w K) 2 "are_unlike" [] F_are_unlike := by
  obtain ⟨e1, D1⟩ := c.def_ 1 (d := d1) rfl
  exact def_fact (k := 1) (tb := t_are_unlike) (G := G_are_unlike) ⟨(env1 (P := P) (w := w) X Gn c cm).wp, (env1 (P := P) (w := w) X Gn c cm).cons, (env1 (P := P) (w := w) X Gn c cm).free, (env1 (P := P) (w := w) X Gn c cm).exs, (env1 (P := P) (w := w) X Gn c cm).clss⟩ facts_nil D1 s_are_unlike (He.glo_ok X Gn (c.fact 1 (f := .glo "are_unlike") rfl)) (D1.bindsN fun _ _ _ _ _ _ us hl => match us, hl with | [_], _ => rfl) k_are_unlike
theorem m_is_table {P : Program} {w : World} {K : PySem.W.Frag} {h : Heap} {mg : Str → Option Value} (X : K.In h) (Gn : h.Ns mainGlobals mg) (c : He.SaysD fa fn K) (cm : ex K = true) (base : Heap) : MFact P w K mg base (cl P w K) 3 "is_table" [] F_is_table := by
  obtain ⟨e1, D1⟩ := c.def_ 2 (d := d2) rfl
  exact def_fact (k := 2) (tb := t_is_table) (G := G_is_table) ⟨(env1 (P := P) (w := w) X Gn c cm).wp, (env1 (P := P) (w := w) X Gn c cm).cons, (env1 (P := P) (w := w) X Gn c cm).free, (env1 (P := P) (w := w) X Gn c cm).exs, (env1 (P := P) (w := w) X Gn c cm).clss⟩ (facts_cons (m_are_unlike X Gn c cm base) (by decide) rfl (facts_cons (m_is_name X Gn c cm base) (by decide) rfl facts_nil)) D1 s_is_table (He.glo_ok X Gn (c.fact 2 (f := .glo "is_table") rfl)) (D1.bindsN fun _ _ _ _ _ _ us hl => match us, hl with | [_], _ => rfl) k_is_table
theorem m_is_scheme {P : Program} {w : World} {K : PySem.W.Frag} {h : Heap} {mg : Str → Option Value} (X : K.In h) (Gn : h.Ns mainGlobals mg) (c : He.SaysD fa fn K) (cm : ex K = true) (base : Heap) : MFact P w K mg base (cl P w K) 4 "is_scheme" [] F_is_scheme := by
  obtain ⟨e1, D1⟩ := c.def_ 3 (d := d3) rfl
  exact def_fact (k := 3) (tb := t_is_scheme) (G := G_is_scheme) ⟨(env1 (P := P) (w := w) X Gn c cm).wp, (env1 (P := P) (w := w) X Gn c cm).cons, (env1 (P := P) (w := w) X Gn c cm).free, (env1 (P := P) (w := w) X Gn c cm).exs, (env1 (P := P) (w := w) X Gn c cm).clss⟩ (facts_cons (m_are_unlike X Gn c cm base) (by decide) rfl (facts_cons (m_is_table X Gn c cm base) (by decide) rfl facts_nil)) D1 s_is_scheme (He.glo_ok X Gn (c.fact 3 (f := .glo "is_scheme") rfl)) (D1.bindsN fun _ _ _ _ _ _ us hl => match us, hl with | [_], _ => rfl) k_is_scheme
theorem m_look_at_scheme {P : Program} {w : World} {K : PySem.W.Frag} {h : Heap} {mg : Str → Option Value} (X : K.In h) (Gn : h.Ns mainGlobals mg) (c : He.SaysD fa fn K) (cm : ex K = true) (base : Heap) : MFact P w K mg base (cl P w K) 5 "look_at_scheme" [] F_look_at_scheme := by
  obtain ⟨e1, D1⟩ := c.def_ 4 (d := d4) rfl
  exact def_fact (k := 4) (tb := t_look_at_scheme) (G := G_look_at_scheme) ⟨(env1 (P := P) (w := w) X Gn c cm).wp, (env1 (P := P) (w := w) X Gn c cm).cons, (env1 (P := P) (w := w) X Gn c cm).free, (env1 (P := P) (w := w) X Gn c cm).exs, (env1 (P := P) (w := w) X Gn c cm).clss⟩ (facts_cons (m_is_scheme X Gn c cm base) (by decide) rfl facts_nil) D1 s_look_at_scheme (He.glo_ok X Gn (c.fact 4 (f := .glo "look_at_scheme") rfl)) (D1.bindsN fun _ _ _ _ _ _ us hl => match us, hl with | [_], _ => rfl) k_look_at_scheme
theorem m_columns_in {P : Program} {w : World} {K : PySem.W.Frag} {h : Heap} {mg : Str → Option Value} (X : K.In h) (Gn : h.Ns mainGlobals mg) (c : He.SaysD fa fn K) (cm : ex K = true) (base : Heap) : MFact P w K mg base (cl P w K) 6 "columns_in" [] F_columns_in := by
  obtain ⟨e1, D1⟩ := c.def_ 5 (d := d5) rfl
  exact def_fact (k := 5) (tb := t_columns_in) (G := G_columns_in) ⟨(env1 (P := P) (w := w) X Gn c cm).wp, (env1 (P := P) (w := w) X Gn c cm).cons, (env1 (P := P) (w := w) X Gn c cm).free, (env1 (P := P) (w := w) X Gn c cm).exs, (env1 (P := P) (w := w) X Gn c cm).clss⟩ facts_nil D1 s_columns_in (He.glo_ok X Gn (c.fact 5 (f := .glo "columns_in") rfl)) (D1.bindsN fun _ _ _ _ _ _ us hl => match us, hl with | [_, _], _ => rfl) k_columns_in
theorem m_are_columns {P : Program} {w : World} {K : PySem.W.Frag} {h : Heap} {mg : Str → Option Value} (X : K.In h) (Gn : h.Ns mainGlobals mg) (c : He.SaysD fa fn K) (cm : ex K = true) (base : Heap) : MFact P w K mg base (cl P w K) 7 "are_columns" [] F_are_columns := by
  obtain ⟨e1, D1⟩ := c.def_ 6 (d := d6) rfl
  exact def_fact (k := 6) (tb := t_are_columns) (G := G_are_columns) ⟨(env1 (P := P) (w := w) X Gn c cm).wp, (env1 (P := P) (w := w) X Gn c cm).cons, (env1 (P := P) (w := w) X Gn c cm).free, (env1 (P := P) (w := w) X Gn c cm).exs, (env1 (P := P) (w := w) X Gn c cm).clss⟩ (facts_cons (m_columns_in X Gn c cm base) (by decide) rfl facts_nil) D1 s_are_columns (He.glo_ok X Gn (c.fact 6 (f := .glo "are_columns") rfl)) (D1.bindsN fun _ _ _ _ _ _ us hl => match us, hl with | [_, _, _], _ => rfl) k_are_columns
theorem m_is_column {P : Program} {w : World} {K : PySem.W.Frag} {h : Heap} {mg : Str → Option Value} (X : K.In h) (Gn : h.Ns mainGlobals mg) (c : He.SaysD fa fn K) (cm : ex K = true) (base : Heap) : MFact P w K mg base (cl P w K) 8 "is_column" [] F_is_column := by
  obtain ⟨e1, D1⟩ := c.def_ 7 (d := d7) rfl
  exact def_fact (k := 7) (tb := t_is_column) (G := G_is_column) ⟨(env1 (P := P) (w := w) X Gn c cm).wp, (env1 (P := P) (w := w) X Gn c cm).cons, (env1 (P := P) (w := w) X Gn c cm).free, (env1 (P := P) (w := w) X Gn c cm).exs, (env1 (P := P) (w := w) X Gn c cm).clss⟩ (facts_cons (m_are_columns X Gn c cm base) (by decide) rfl facts_nil) D1 s_is_column (He.glo_ok X Gn (c.fact 7 (f := .glo "is_column") rfl)) (D1.bindsN fun _ _ _ _ _ _ us hl => match us, hl with | [_, _, _], _ => rfl) k_is_column
theorem m_is_right {P : Program} {w : World} {K : PySem.W.Frag} {h : Heap} {mg : Str → Option Value} (X : K.In h) (Gn : h.Ns mainGlobals mg) (c : He.SaysD fa fn K) (cm : ex K = true) (base : Heap) : MFact P w K mg base (cl P w K) 9 "is_right" [] F_is_right := by
  obtain ⟨e1, D1⟩ := c.def_ 8 (d := d8) rfl
  exact def_fact (k := 8) (tb := t_is_right) (G := G_is_right) ⟨(env1 (P := P) (w := w) X Gn c cm).wp, (env1 (P := P) (w := w) X Gn c cm).cons, (env1 (P := P) (w := w) X Gn c cm).free, (env1 (P := P) (w := w) X Gn c cm).exs, (env1 (P := P) (w := w) X Gn c cm).clss⟩ (facts_cons (m_is_column X Gn c cm base) (by decide) rfl (facts_cons (m_are_columns X Gn c cm base) (by decide) rfl facts_nil)) D1 s_is_right (He.glo_ok X Gn (c.fact 8 (f := .glo "is_right") rfl)) (D1.bindsN fun _ _ _ _ _ _ us hl => match us, hl with | [_, _], _ => rfl) k_is_right
theorem m_look_at_dependency {P : Program} {w : World} {K : PySem.W.Frag} {h : Heap} {mg : Str → Option Value} (X : K.In h) (Gn : h.Ns mainGlobals mg) (c : He.SaysD fa fn K) (cm : ex K = true) (base : Heap) : MFact P w K mg base (cl P w K) 10 "look_at_dependency" [] F_look_at_dependency := by
  obtain ⟨e1, D1⟩ := c.def_ 9 (d := d9) rfl
  exact def_fact (k := 9) (tb := t_look_at_dependency) (G := G_look_at_dependency) ⟨(env1 (P := P) (w := w) X Gn c cm).wp, (env1 (P := P) (w := w) X Gn c cm).cons, (env1 (P := P) (w := w) X Gn c cm).free, (env1 (P := P) (w := w) X Gn c cm).exs, (env1 (P := P) (w := w) X Gn c cm).clss⟩ (facts_cons (m_is_right X Gn c cm base) (by decide) rfl facts_nil) D1 s_look_at_dependency (He.glo_ok X Gn (c.fact 9 (f := .glo "look_at_dependency") rfl)) (D1.bindsN fun _ _ _ _ _ _ us hl => match us, hl with | [_, _], _ => rfl) k_look_at_dependency
theorem m_is_whole {P : Program} {w : World} {K : PySem.W.Frag} {h : Heap} {mg : Str → Option Value} (X : K.In h) (Gn : h.Ns mainGlobals mg) (c : He.SaysD fa fn K) (cm : ex K = true) (base : Heap) : MFact P w K mg base (cl P w K) 11 "is_whole" [] F_is_whole := by
  obtain ⟨e1, D1⟩ := c.def_ 10 (d := d10) rfl
  exact def_fact (k := 10) (tb := t_is_whole) (G := G_is_whole) ⟨(env1 (P := P) (w := w) X Gn c cm).wp, (env1 (P := P) (w := w) X Gn c cm).cons, (env1 (P := P) (w := w) X Gn c cm).free, (env1 (P := P) (w := w) X Gn c cm).exs, (env1 (P := P) (w := w) X Gn c cm).clss⟩ facts_nil D1 s_is_whole (He.glo_ok X Gn (c.fact 10 (f := .glo "is_whole") rfl)) (D1.bindsN fun _ _ _ _ _ _ us hl => match us, hl with | [_], _ => rfl) k_is_whole
theorem m_is_row {P : Program} {w : World} {K : PySem.W.Frag} {h : Heap} {mg : Str → Option Value} (X : K.In h) (Gn : h.Ns mainGlobals mg) (c : He.SaysD fa fn K) (cm : ex K = true) (base : Heap) : MFact P w K mg base (cl P w K) 12 "is_row" [] F_is_row := by
  obtain ⟨e1, D1⟩ := c.def_ 11 (d := d11) rfl
  exact def_fact (k := 11) (tb := t_is_row) (G := G_is_row) ⟨(env1 (P := P) (w := w) X Gn c cm).wp, (env1 (P := P) (w := w) X Gn c cm).cons, (env1 (P := P) (w := w) X Gn c cm).free, (env1 (P := P) (w := w) X Gn c cm).exs, (env1 (P := P) (w := w) X Gn c cm).clss⟩ (facts_cons (m_is_whole X Gn c cm base) (by decide) rfl facts_nil) D1 s_is_row (He.glo_ok X Gn (c.fact 11 (f := .glo "is_row") rfl)) (D1.bindsN fun _ _ _ _ _ _ us hl => match us, hl with | [_, _], _ => rfl) k_is_row
theorem m_are_rows {P : Program} {w : World} {K : PySem.W.Frag} {h : Heap} {mg : Str → Option Value} (X : K.In h) (Gn : h.Ns mainGlobals mg) (c : He.SaysD fa fn K) (cm : ex K = true) (base : Heap) : MFact P w K mg base (cl P w K) 13 "are_rows" [] F_are_rows := by
  obtain ⟨e1, D1⟩ := c.def_ 12 (d := d12) rfl
  exact def_fact (k := 12) (tb := t_are_rows) (G := G_are_rows) ⟨(env1 (P := P) (w := w) X Gn c cm).wp, (env1 (P := P) (w := w) X Gn c cm).cons, (env1 (P := P) (w := w) X Gn c cm).free, (env1 (P := P) (w := w) X Gn c cm).exs, (env1 (P := P) (w := w) X Gn c cm).clss⟩ (facts_cons (m_is_row X Gn c cm base) (by decide) rfl facts_nil) D1 s_are_rows (He.glo_ok X Gn (c.fact 12 (f := .glo "are_rows") rfl)) (D1.bindsN fun _ _ _ _ _ _ us hl => match us, hl with | [_, _], _ => rfl) k_are_rows
theorem m_is_right_database {P : Program} {w : World} {K : PySem.W.Frag} {h : Heap} {mg : Str → Option Value} (X : K.In h) (Gn : h.Ns mainGlobals mg) (c : He.SaysD fa fn K) (cm : ex K = true) (base : Heap) : MFact P w K mg base (cl P w K) 14 "is_right_database" [] F_is_right_database := by
  obtain ⟨e1, D1⟩ := c.def_ 13 (d := d13) rfl
  exact def_fact (k := 13) (tb := t_is_right_database) (G := G_is_right_database) ⟨(env1 (P := P) (w := w) X Gn c cm).wp, (env1 (P := P) (w := w) X Gn c cm).cons, (env1 (P := P) (w := w) X Gn c cm).free, (env1 (P := P) (w := w) X Gn c cm).exs, (env1 (P := P) (w := w) X Gn c cm).clss⟩ (facts_cons (m_are_rows X Gn c cm base) (by decide) rfl facts_nil) D1 s_is_right_database (He.glo_ok X Gn (c.fact 13 (f := .glo "is_right_database") rfl)) (D1.bindsN fun _ _ _ _ _ _ us hl => match us, hl with | [_, _], _ => rfl) k_is_right_database
theorem m_look_at_database {P : Program} {w : World} {K : PySem.W.Frag} {h : Heap} {mg : Str → Option Value} (X : K.In h) (Gn : h.Ns mainGlobals mg) (c : He.SaysD fa fn K) (cm : ex K = true) (base : Heap) : MFact P w K mg base (cl P w K) 15 "look_at_database" [] F_look_at_database := by
  obtain ⟨e1, D1⟩ := c.def_ 14 (d := d14) rfl
  exact def_fact (k := 14) (tb := t_look_at_database) (G := G_look_at_database) ⟨(env1 (P := P) (w := w) X Gn c cm).wp, (env1 (P := P) (w := w) X Gn c cm).cons, (env1 (P := P) (w := w) X Gn c cm).free, (env1 (P := P) (w := w) X Gn c cm).exs, (env1 (P := P) (w := w) X Gn c cm).clss⟩ (facts_cons (m_is_right_database X Gn c cm base) (by decide) rfl facts_nil) D1 s_look_at_database (He.glo_ok X Gn (c.fact 14 (f := .glo "look_at_database") rfl)) (D1.bindsN fun _ _ _ _ _ _ us hl => match us, hl with | [_, _], _ => rfl) k_look_at_database
theorem m_rows_in {P : Program} {w : World} {K : PySem.W.Frag} {h : Heap} {mg : Str → Option Value} (X : K.In h) (Gn : h.Ns mainGlobals mg) (c : He.SaysD fa fn K) (cm : ex K = true) (base : Heap) : MFact P w K mg base (cl P w K) 16 "rows_in" [] F_rows_in := by
  obtain ⟨e1, D1⟩ := c.def_ 15 (d := d15) rfl
  exact def_fact (k := 15) (tb := t_rows_in) (G := G_rows_in) ⟨(env1 (P := P) (w := w) X Gn c cm).wp, (env1 (P := P) (w := w) X Gn c cm).cons, (env1 (P := P) (w := w) X Gn c cm).free, (env1 (P := P) (w := w) X Gn c cm).exs, (env1 (P := P) (w := w) X Gn c cm).clss⟩ facts_nil D1 s_rows_in (He.glo_ok X Gn (c.fact 15 (f := .glo "rows_in") rfl)) (D1.bindsN fun _ _ _ _ _ _ us hl => match us, hl with | [_, _, _], _ => rfl) k_rows_in
theorem m_values_in {P : Program} {w : World} {K : PySem.W.Frag} {h : Heap} {mg : Str → Option Value} (X : K.In h) (Gn : h.Ns mainGlobals mg) (c : He.SaysD fa fn K) (cm : ex K = true) (base : Heap) : MFact P w K mg base (cl P w K) 17 "values_in" [] F_values_in := by
  obtain ⟨e1, D1⟩ := c.def_ 16 (d := d16) rfl
  exact def_fact (k := 16) (tb := t_values_in) (G := G_values_in) ⟨(env1 (P := P) (w := w) X Gn c cm).wp, (env1 (P := P) (w := w) X Gn c cm).cons, (env1 (P := P) (w := w) X Gn c cm).free, (env1 (P := P) (w := w) X Gn c cm).exs, (env1 (P := P) (w := w) X Gn c cm).clss⟩ (facts_cons (m_rows_in X Gn c cm base) (by decide) rfl (facts_cons (m_columns_in X Gn c cm base) (by decide) rfl facts_nil)) D1 s_values_in (He.glo_ok X Gn (c.fact 16 (f := .glo "values_in") rfl)) (D1.bindsN fun _ _ _ _ _ _ us hl => match us, hl with | [_, _, _, _], _ => rfl) k_values_in
theorem m_different {P : Program} {w : World} {K : PySem.W.Frag} {h : Heap} {mg : Str → Option Value} (X : K.In h) (Gn : h.Ns mainGlobals mg) (c : He.SaysD fa fn K) (cm : ex K = true) (base : Heap) : MFact P w K mg base (cl P w K) 18 "different" [] F_different := by
  obtain ⟨e1, D1⟩ := c.def_ 17 (d := d17) rfl
  exact def_fact (k := 17) (tb := t_different) (G := G_different) ⟨(env1 (P := P) (w := w) X Gn c cm).wp, (env1 (P := P) (w := w) X Gn c cm).cons, (env1 (P := P) (w := w) X Gn c cm).free, (env1 (P := P) (w := w) X Gn c cm).exs, (env1 (P := P) (w := w) X Gn c cm).clss⟩ facts_nil D1 s_different (He.glo_ok X Gn (c.fact 17 (f := .glo "different") rfl)) (D1.bindsN fun _ _ _ _ _ _ us hl => match us, hl with | [_], _ => rfl) k_different
theorem m_value_count {P : Program} {w : World} {K : PySem.W.Frag} {h : Heap} {mg : Str → Option Value} (X : K.In h) (Gn : h.Ns mainGlobals mg) (c : He.SaysD fa fn K) (cm : ex K = true) (base : Heap) : MFact P w K mg base (cl P w K) 19 "value_count" [] F_value_count := by
  obtain ⟨e1, D1⟩ := c.def_ 18 (d := d18) rfl
  exact def_fact (k := 18) (tb := t_value_count) (G := G_value_count) ⟨(env1 (P := P) (w := w) X Gn c cm).wp, (env1 (P := P) (w := w) X Gn c cm).cons, (env1 (P := P) (w := w) X Gn c cm).free, (env1 (P := P) (w := w) X Gn c cm).exs, (env1 (P := P) (w := w) X Gn c cm).clss⟩ (facts_cons (m_different X Gn c cm base) (by decide) rfl (facts_cons (m_values_in X Gn c cm base) (by decide) rfl (facts_cons (m_is_column X Gn c cm base) (by decide) rfl (facts_cons (m_look_at_database X Gn c cm base) (by decide) rfl (facts_cons (m_look_at_scheme X Gn c cm base) (by decide) rfl facts_nil))))) D1 s_value_count (He.glo_ok X Gn (c.fact 18 (f := .glo "value_count") rfl)) (D1.bindsN fun _ _ _ _ _ _ us hl => match us, hl with | [_, _, _, _], _ => rfl) k_value_count
theorem m_broken_sets {P : Program} {w : World} {K : PySem.W.Frag} {h : Heap} {mg : Str → Option Value} (X : K.In h) (Gn : h.Ns mainGlobals mg) (c : He.SaysD fa fn K) (cm : ex K = true) (base : Heap) : MFact P w K mg base (cl P w K) 20 "broken_sets" [] F_broken_sets := by
  obtain ⟨e1, D1⟩ := c.def_ 19 (d := d19) rfl
  exact def_fact (k := 19) (tb := t_broken_sets) (G := G_broken_sets) ⟨(env1 (P := P) (w := w) X Gn c cm).wp, (env1 (P := P) (w := w) X Gn c cm).cons, (env1 (P := P) (w := w) X Gn c cm).free, (env1 (P := P) (w := w) X Gn c cm).exs, (env1 (P := P) (w := w) X Gn c cm).clss⟩ (facts_cons (m_rows_in X Gn c cm base) (by decide) rfl (facts_cons (m_columns_in X Gn c cm base) (by decide) rfl facts_nil)) D1 s_broken_sets (He.glo_ok X Gn (c.fact 19 (f := .glo "broken_sets") rfl)) (D1.bindsN fun _ _ _ _ _ _ us hl => match us, hl with | [_, _, _], _ => rfl) k_broken_sets
theorem m_broken_within {P : Program} {w : World} {K : PySem.W.Frag} {h : Heap} {mg : Str → Option Value} (X : K.In h) (Gn : h.Ns mainGlobals mg) (c : He.SaysD fa fn K) (cm : ex K = true) (base : Heap) : MFact P w K mg base (cl P w K) 21 "broken_within" [] F_broken_within := by
  obtain ⟨e1, D1⟩ := c.def_ 20 (d := d20) rfl
  exact def_fact (k := 20) (tb := t_broken_within) (G := G_broken_within) ⟨(env1 (P := P) (w := w) X Gn c cm).wp, (env1 (P := P) (w := w) X Gn c cm).cons, (env1 (P := P) (w := w) X Gn c cm).free, (env1 (P := P) (w := w) X Gn c cm).exs, (env1 (P := P) (w := w) X Gn c cm).clss⟩ (facts_cons (m_values_in X Gn c cm base) (by decide) rfl facts_nil) D1 s_broken_within (He.glo_ok X Gn (c.fact 20 (f := .glo "broken_within") rfl)) (D1.bindsN fun _ _ _ _ _ _ us hl => match us, hl with | [_, _, _], _ => rfl) k_broken_within
theorem m_broken_in {P : Program} {w : World} {K : PySem.W.Frag} {h : Heap} {mg : Str → Option Value} (X : K.In h) (Gn : h.Ns mainGlobals mg) (c : He.SaysD fa fn K) (cm : ex K = true) (base : Heap) : MFact P w K mg base (cl P w K) 22 "broken_in" [] F_broken_in := by
  obtain ⟨e1, D1⟩ := c.def_ 21 (d := d21) rfl
  exact def_fact (k := 21) (tb := t_broken_in) (G := G_broken_in) ⟨(env1 (P := P) (w := w) X Gn c cm).wp, (env1 (P := P) (w := w) X Gn c cm).cons, (env1 (P := P) (w := w) X Gn c cm).free, (env1 (P := P) (w := w) X Gn c cm).exs, (env1 (P := P) (w := w) X Gn c cm).clss⟩ (facts_cons (m_different X Gn c cm base) (by decide) rfl (facts_cons (m_values_in X Gn c cm base) (by decide) rfl (facts_cons (m_broken_within X Gn c cm base) (by decide) rfl (facts_cons (m_broken_sets X Gn c cm base) (by decide) rfl facts_nil)))) D1 s_broken_in (He.glo_ok X Gn (c.fact 21 (f := .glo "broken_in") rfl)) (D1.bindsN fun _ _ _ _ _ _ us hl => match us, hl with | [_, _, _], _ => rfl) k_broken_in
theorem m_broken_by {P : Program} {w : World} {K : PySem.W.Frag} {h : Heap} {mg : Str → Option Value} (X : K.In h) (Gn : h.Ns mainGlobals mg) (c : He.SaysD fa fn K) (cm : ex K = true) (base : Heap) : MFact P w K mg base (cl P w K) 23 "broken_by" [] F_broken_by := by
  obtain ⟨e1, D1⟩ := c.def_ 22 (d := d22) rfl
  exact def_fact (k := 22) (tb := t_broken_by) (G := G_broken_by) ⟨(env1 (P := P) (w := w) X Gn c cm).wp, (env1 (P := P) (w := w) X Gn c cm).cons, (env1 (P := P) (w := w) X Gn c cm).free, (env1 (P := P) (w := w) X Gn c cm).exs, (env1 (P := P) (w := w) X Gn c cm).clss⟩ (facts_cons (m_broken_in X Gn c cm base) (by decide) rfl (facts_cons (m_look_at_dependency X Gn c cm base) (by decide) rfl (facts_cons (m_look_at_database X Gn c cm base) (by decide) rfl (facts_cons (m_look_at_scheme X Gn c cm base) (by decide) rfl facts_nil)))) D1 s_broken_by (He.glo_ok X Gn (c.fact 22 (f := .glo "broken_by") rfl)) (D1.bindsN fun _ _ _ _ _ _ us hl => match us, hl with | [_, _, _], _ => rfl) k_broken_by
theorem m_keeps {P : Program} {w : World} {K : PySem.W.Frag} {h : Heap} {mg : Str → Option Value} (X : K.In h) (Gn : h.Ns mainGlobals mg) (c : He.SaysD fa fn K) (cm : ex K = true) (base : Heap) : MFact P w K mg base (cl P w K) 24 "keeps" [] F_keeps := by
  obtain ⟨e1, D1⟩ := c.def_ 23 (d := d23) rfl
  exact def_fact (k := 23) (tb := t_keeps) (G := G_keeps) ⟨(env1 (P := P) (w := w) X Gn c cm).wp, (env1 (P := P) (w := w) X Gn c cm).cons, (env1 (P := P) (w := w) X Gn c cm).free, (env1 (P := P) (w := w) X Gn c cm).exs, (env1 (P := P) (w := w) X Gn c cm).clss⟩ (facts_cons (m_broken_by X Gn c cm base) (by decide) rfl facts_nil) D1 s_keeps (He.glo_ok X Gn (c.fact 23 (f := .glo "keeps") rfl)) (D1.bindsN fun _ _ _ _ _ _ us hl => match us, hl with | [_, _, _], _ => rfl) k_keeps
theorem m_l_mixed {P : Program} {w : World} {K : PySem.W.Frag} {h : Heap} {mg : Str → Option Value} (X : K.In h) (Gn : h.Ns mainGlobals mg) (c : He.SaysD fa fn K) (cm : ex K = true) (base : Heap) : MFact P w K mg base (cl P w K) 25 "_law_mixed" [] F_l_mixed := by
  obtain ⟨e1, D1⟩ := c.def_ 24 (d := d24) rfl
  exact def_fact (k := 24) (tb := t_l_mixed) (G := G_l_mixed) ⟨(env1 (P := P) (w := w) X Gn c cm).wp, (env1 (P := P) (w := w) X Gn c cm).cons, (env1 (P := P) (w := w) X Gn c cm).free, (env1 (P := P) (w := w) X Gn c cm).exs, (env1 (P := P) (w := w) X Gn c cm).clss⟩ facts_nil D1 s_l_mixed (He.glo_ok X Gn (c.fact 24 (f := .glo "_law_mixed") rfl)) (D1.bindsN fun _ _ _ _ _ _ us hl => match us, hl with | [_, _], _ => rfl) k_l_mixed
theorem m_l_pile {P : Program} {w : World} {K : PySem.W.Frag} {h : Heap} {mg : Str → Option Value} (X : K.In h) (Gn : h.Ns mainGlobals mg) (c : He.SaysD fa fn K) (cm : ex K = true) (base : Heap) : MFact P w K mg base (cl P w K) 26 "_law_pile" [] F_l_pile := by
  obtain ⟨e1, D1⟩ := c.def_ 25 (d := d25) rfl
  exact def_fact (k := 25) (tb := t_l_pile) (G := G_l_pile) ⟨(env1 (P := P) (w := w) X Gn c cm).wp, (env1 (P := P) (w := w) X Gn c cm).cons, (env1 (P := P) (w := w) X Gn c cm).free, (env1 (P := P) (w := w) X Gn c cm).exs, (env1 (P := P) (w := w) X Gn c cm).clss⟩ (facts_cons (m_l_mixed X Gn c cm base) (by decide) rfl facts_nil) D1 s_l_pile (He.glo_ok X Gn (c.fact 25 (f := .glo "_law_pile") rfl)) (D1.bindsN fun _ _ _ _ _ _ us hl => match us, hl with | [_, _], _ => rfl) k_l_pile
theorem m_l_take {P : Program} {w : World} {K : PySem.W.Frag} {h : Heap} {mg : Str → Option Value} (X : K.In h) (Gn : h.Ns mainGlobals mg) (c : He.SaysD fa fn K) (cm : ex K = true) (base : Heap) : MFact P w K mg base (cl P w K) 27 "_law_take" [] F_l_take := by
  obtain ⟨e1, D1⟩ := c.def_ 26 (d := d26) rfl
  exact def_fact (k := 26) (tb := t_l_take) (G := G_l_take) ⟨(env1 (P := P) (w := w) X Gn c cm).wp, (env1 (P := P) (w := w) X Gn c cm).cons, (env1 (P := P) (w := w) X Gn c cm).free, (env1 (P := P) (w := w) X Gn c cm).exs, (env1 (P := P) (w := w) X Gn c cm).clss⟩ facts_nil D1 s_l_take (He.glo_ok X Gn (c.fact 26 (f := .glo "_law_take") rfl)) (D1.bindsN fun _ _ _ _ _ _ us hl => match us, hl with | [_, _], _ => rfl) k_l_take
theorem m_l_name {P : Program} {w : World} {K : PySem.W.Frag} {h : Heap} {mg : Str → Option Value} (X : K.In h) (Gn : h.Ns mainGlobals mg) (c : He.SaysD fa fn K) (cm : ex K = true) (base : Heap) : MFact P w K mg base (cl P w K) 28 "_law_name" [] F_l_name := by
  obtain ⟨e1, D1⟩ := c.def_ 27 (d := d27) rfl
  exact def_fact (k := 27) (tb := t_l_name) (G := G_l_name) ⟨(env1 (P := P) (w := w) X Gn c cm).wp, (env1 (P := P) (w := w) X Gn c cm).cons, (env1 (P := P) (w := w) X Gn c cm).free, (env1 (P := P) (w := w) X Gn c cm).exs, (env1 (P := P) (w := w) X Gn c cm).clss⟩ (facts_cons (m_l_take X Gn c cm base) (by decide) rfl facts_nil) D1 s_l_name (He.glo_ok X Gn (c.fact 27 (f := .glo "_law_name") rfl)) (D1.bindsN fun _ _ _ _ _ _ us hl => match us, hl with | [_, _], _ => rfl) k_l_name
theorem m_l_scheme {P : Program} {w : World} {K : PySem.W.Frag} {h : Heap} {mg : Str → Option Value} (X : K.In h) (Gn : h.Ns mainGlobals mg) (c : He.SaysD fa fn K) (cm : ex K = true) (base : Heap) : MFact P w K mg base (cl P w K) 29 "_law_scheme" [] F_l_scheme := by
  obtain ⟨e1, D1⟩ := c.def_ 28 (d := d28) rfl
  exact def_fact (k := 28) (tb := t_l_scheme) (G := G_l_scheme) ⟨(env1 (P := P) (w := w) X Gn c cm).wp, (env1 (P := P) (w := w) X Gn c cm).cons, (env1 (P := P) (w := w) X Gn c cm).free, (env1 (P := P) (w := w) X Gn c cm).exs, (env1 (P := P) (w := w) X Gn c cm).clss⟩ (facts_cons (m_l_name X Gn c cm base) (by decide) rfl (facts_cons (m_l_take X Gn c cm base) (by decide) rfl facts_nil)) D1 s_l_scheme (He.glo_ok X Gn (c.fact 28 (f := .glo "_law_scheme") rfl)) (D1.bindsN fun _ _ _ _ _ _ us hl => match us, hl with | [_], _ => rfl) k_l_scheme
theorem m_l_pairs {P : Program} {w : World} {K : PySem.W.Frag} {h : Heap} {mg : Str → Option Value} (X : K.In h) (Gn : h.Ns mainGlobals mg) (c : He.SaysD fa fn K) (cm : ex K = true) (base : Heap) : MFact P w K mg base (cl P w K) 30 "_law_pairs" [] F_l_pairs := by
  obtain ⟨e1, D1⟩ := c.def_ 29 (d := d29) rfl
  exact def_fact (k := 29) (tb := t_l_pairs) (G := G_l_pairs) ⟨(env1 (P := P) (w := w) X Gn c cm).wp, (env1 (P := P) (w := w) X Gn c cm).cons, (env1 (P := P) (w := w) X Gn c cm).free, (env1 (P := P) (w := w) X Gn c cm).exs, (env1 (P := P) (w := w) X Gn c cm).clss⟩ facts_nil D1 s_l_pairs (He.glo_ok X Gn (c.fact 29 (f := .glo "_law_pairs") rfl)) (D1.bindsN fun _ _ _ _ _ _ us hl => match us, hl with | [_], _ => rfl) k_l_pairs
theorem m_l_database_v2 {P : Program} {w : World} {K : PySem.W.Frag} {h : Heap} {mg : Str → Option Value} (X : K.In h) (Gn : h.Ns mainGlobals mg) (c : He.SaysD fa fn K) (cm : ex K = true) (base : Heap) : MFact P w K mg base (cl P w K) 31 "_law_database" [] F_l_database_v2 := by
  obtain ⟨e1, D1⟩ := c.def_ 30 (d := d30) rfl
  exact def_fact (k := 30) (tb := t_l_database_v2) (G := G_l_database_v2) ⟨(env1 (P := P) (w := w) X Gn c cm).wp, (env1 (P := P) (w := w) X Gn c cm).cons, (env1 (P := P) (w := w) X Gn c cm).free, (env1 (P := P) (w := w) X Gn c cm).exs, (env1 (P := P) (w := w) X Gn c cm).clss⟩ (facts_cons (m_l_take X Gn c cm base) (by decide) rfl facts_nil) D1 s_l_database_v2 (He.glo_ok X Gn (c.fact 30 (f := .glo "_law_database") rfl)) (D1.bindsN fun _ _ _ _ _ _ us hl => match us, hl with | [_, _], _ => rfl) k_l_database_v2
theorem m_l_whole {P : Program} {w : World} {K : PySem.W.Frag} {h : Heap} {mg : Str → Option Value} (X : K.In h) (Gn : h.Ns mainGlobals mg) (c : He.SaysD fa fn K) (cm : ex K = true) (base : Heap) : MFact P w K mg base (cl P w K) 32 "_law_whole" [] F_l_whole := by
  obtain ⟨e1, D1⟩ := c.def_ 31 (d := d31) rfl
  exact def_fact (k := 31) (tb := t_l_whole) (G := G_l_whole) ⟨(env1 (P := P) (w := w) X Gn c cm).wp, (env1 (P := P) (w := w) X Gn c cm).cons, (env1 (P := P) (w := w) X Gn c cm).free, (env1 (P := P) (w := w) X Gn c cm).exs, (env1 (P := P) (w := w) X Gn c cm).clss⟩ facts_nil D1 s_l_whole (He.glo_ok X Gn (c.fact 31 (f := .glo "_law_whole") rfl)) (D1.bindsN fun _ _ _ _ _ _ us hl => match us, hl with | [_], _ => rfl) k_l_whole
theorem m_l_listed {P : Program} {w : World} {K : PySem.W.Frag} {h : Heap} {mg : Str → Option Value} (X : K.In h) (Gn : h.Ns mainGlobals mg) (c : He.SaysD fa fn K) (cm : ex K = true) (base : Heap) : MFact P w K mg base (cl P w K) 33 "_law_listed" [] F_l_listed := by
  obtain ⟨e1, D1⟩ := c.def_ 32 (d := d32) rfl
  exact def_fact (k := 32) (tb := t_l_listed) (G := G_l_listed) ⟨(env1 (P := P) (w := w) X Gn c cm).wp, (env1 (P := P) (w := w) X Gn c cm).cons, (env1 (P := P) (w := w) X Gn c cm).free, (env1 (P := P) (w := w) X Gn c cm).exs, (env1 (P := P) (w := w) X Gn c cm).clss⟩ facts_nil D1 s_l_listed (He.glo_ok X Gn (c.fact 32 (f := .glo "_law_listed") rfl)) (D1.bindsN fun _ _ _ _ _ _ us hl => match us, hl with | [_, _, _, _], _ => rfl) k_l_listed
theorem m_l_count {P : Program} {w : World} {K : PySem.W.Frag} {h : Heap} {mg : Str → Option Value} (X : K.In h) (Gn : h.Ns mainGlobals mg) (c : He.SaysD fa fn K) (cm : ex K = true) (base : Heap) : MFact P w K mg base (cl P w K) 34 "_law_count" [] F_l_count := by
  obtain ⟨e1, D1⟩ := c.def_ 33 (d := d33) rfl
  exact def_fact (k := 33) (tb := t_l_count) (G := G_l_count) ⟨(env1 (P := P) (w := w) X Gn c cm).wp, (env1 (P := P) (w := w) X Gn c cm).cons, (env1 (P := P) (w := w) X Gn c cm).free, (env1 (P := P) (w := w) X Gn c cm).exs, (env1 (P := P) (w := w) X Gn c cm).clss⟩ facts_nil D1 s_l_count (He.glo_ok X Gn (c.fact 33 (f := .glo "_law_count") rfl)) (D1.bindsN fun _ _ _ _ _ _ us hl => match us, hl with | [_], _ => rfl) k_l_count
theorem m_l_due_v2 {P : Program} {w : World} {K : PySem.W.Frag} {h : Heap} {mg : Str → Option Value} (X : K.In h) (Gn : h.Ns mainGlobals mg) (c : He.SaysD fa fn K) (cm : ex K = true) (base : Heap) : MFact P w K mg base (cl P w K) 35 "_law_due" [] F_l_due_v2 := by
  obtain ⟨e1, D1⟩ := c.def_ 34 (d := d34) rfl
  exact def_fact (k := 34) (tb := t_l_due_v2) (G := G_l_due_v2) ⟨(env1 (P := P) (w := w) X Gn c cm).wp, (env1 (P := P) (w := w) X Gn c cm).cons, (env1 (P := P) (w := w) X Gn c cm).free, (env1 (P := P) (w := w) X Gn c cm).exs, (env1 (P := P) (w := w) X Gn c cm).clss⟩ (facts_cons (m_l_count X Gn c cm base) (by decide) rfl (facts_cons (m_l_listed X Gn c cm base) (by decide) rfl facts_nil)) D1 s_l_due_v2 (He.glo_ok X Gn (c.fact 34 (f := .glo "_law_due") rfl)) (D1.bindsN fun _ _ _ _ _ _ us hl => match us, hl with | [_, _, _], _ => rfl) k_l_due_v2
theorem m_l_good_v7 {P : Program} {w : World} {K : PySem.W.Frag} {h : Heap} {mg : Str → Option Value} (X : K.In h) (Gn : h.Ns mainGlobals mg) (c : He.SaysD fa fn K) (cm : ex K = true) (base : Heap) : MFact P w K mg base (cl P w K) 36 "_law_good" [] F_l_good_v7 := by
  obtain ⟨e1, D1⟩ := c.def_ 35 (d := d35) rfl
  exact def_fact (k := 35) (tb := t_l_good_v7) (G := G_l_good_v7) ⟨(env1 (P := P) (w := w) X Gn c cm).wp, (env1 (P := P) (w := w) X Gn c cm).cons, (env1 (P := P) (w := w) X Gn c cm).free, (env1 (P := P) (w := w) X Gn c cm).exs, (env1 (P := P) (w := w) X Gn c cm).clss⟩ (facts_cons (m_l_count X Gn c cm base) (by decide) rfl (facts_cons (m_l_whole X Gn c cm base) (by decide) rfl (facts_cons (m_l_listed X Gn c cm base) (by decide) rfl (facts_cons (m_value_count X Gn c cm base) (by decide) rfl (facts_cons (m_broken_by X Gn c cm base) (by decide) rfl (facts_cons (m_keeps X Gn c cm base) (by decide) rfl (facts_cons (m_l_due_v2 X Gn c cm base) (by decide) rfl facts_nil))))))) D1 s_l_good_v7 (He.glo_ok X Gn (c.fact 35 (f := .glo "_law_good") rfl)) (D1.bindsN fun _ _ _ _ _ _ us hl => match us, hl with | [_, _, _], _ => rfl) k_l_good_v7
theorem law_g {P : Program} {w : World} {K : PySem.W.Frag} {h : Heap} {mg : Str → Option Value} (X : K.In h) (Gn : h.Ns mainGlobals mg) (c : He.SaysD fa fn K) (cm : ex K = true) {f : Addr} (hfa : mg ("law" : Str) = some (.ref f)) :
    ∃ fd : FuncData, (∀ (s : Shared) (v : Value), BindsTo s fd ⟨[v], []⟩ [("_law_script", v)]) ∧ ∀ base : Heap, FnG P w K mg base 37 f fd ["_law_script"] (spF K (cl P w K) F_law_k06_v2.run) := by
  obtain ⟨ee, DD⟩ := c.def_ 36 (d := d36) rfl
  have e := hfa.symm.trans (He.glo_ok X Gn (c.fact 36 (f := .glo "law") rfl))
  cases e
  have b := FunD.bindsA (ps := ["_law_script"]) DD fun _ _ _ _ _ _ us hl => match us, hl with | [_], _ => rfl
  exact ⟨ee, fun s v => b s [v] rfl, fun base => def_g (k := 36) (tb := t_law_k06_v2) (G := G_law_k06_v2) ⟨(env1 (P := P) (w := w) X Gn c cm).wp, (env1 (P := P) (w := w) X Gn c cm).cons, (env1 (P := P) (w := w) X Gn c cm).free, (env1 (P := P) (w := w) X Gn c cm).exs, (env1 (P := P) (w := w) X Gn c cm).clss⟩ (facts_cons (m_l_good_v7 X Gn c cm base) (by decide) rfl (facts_cons (m_l_take X Gn c cm base) (by decide) rfl (facts_cons (m_l_pile X Gn c cm base) (by decide) rfl (facts_cons (m_l_pairs X Gn c cm base) (by decide) rfl (facts_cons (m_l_database_v2 X Gn c cm base) (by decide) rfl (facts_cons (m_l_scheme X Gn c cm base) (by decide) rfl facts_nil)))))) DD s_law_k06_v2 k_law_k06_v2⟩
end FkHead
open PySem PySem.W PySem.Calls PyProof.Rows
theorem FkHead.law_end (runs : ∀ ns : List Int, ns.length ≤ 63 → Fk.F_law_k06_v2.run 0 [.d (.list (ns.map .int))] [] = .ok (.d (.bool true)) []) : PySem.Challenge.rw_finitekeys_k06_within_and_many_kept.Holds := by
  w_on; o_law
  refine HandSHeadRun.head_any (r := OpenLaw.row PySem.Challenge.rw_finitekeys_k06_within_and_many_kept) (q := view (OpenLaw.row PySem.Challenge.rw_finitekeys_k06_within_and_many_kept).prog [50]) (H := FkHead.hk) (ob := FkHead.ob) (M := 20000) (loose := FkHead.loose) (d := HandSHeadRun.topDef (OpenLaw.row PySem.Challenge.rw_finitekeys_k06_within_and_many_kept).prog 50) (kwd := []) FkHead.ob_eq
    (by kernel_rfl) (fun s => by kernel_rfl) FkHead.run (by kernel_rfl) (by kernel_rfl) (by kernel_rfl) (by rfl) (by first | assumption | decide +kernel) (by decide +kernel) ⟨rfl, rfl, rfl, rfl, rfl, by decide +kernel⟩ ?hw ?hc
  case hw => w_witness2
  case hc =>
    refine Fk.walk_G (l := PySem.Challenge.rw_finitekeys_k06_within_and_many_kept) (n := 63) (k := 37) (x := "_law_script") rfl (by decide) (by kernel_rfl) ⟨⟨rfl, by decide, by decide⟩, rfl⟩ ?F (fun _ _ _ _ _ z => ?X)
    case X => exact Fk.cx_no z
    case F =>
      intro w mg fa h Y G hmg0
      obtain ⟨K, KX, c⟩ := Y
      have hmg : mg ("law" : PySem.Str) = some (.ref fa) := by
        have e : (HandSHeadRun.topDef (OpenLaw.row PySem.Challenge.rw_finitekeys_k06_within_and_many_kept).prog 50).name = ("law" : PySem.Str) := by kernel_rfl
        rw [← e]
        exact hmg0
      obtain ⟨fd, hb, hF⟩ := FkHead.law_g (P := (PySem.Challenge.rw_finitekeys_k06_within_and_many_kept).prog) (w := w) KX G c.t.d c.more hmg
      exact ⟨K, fd, _, KX, hb, fun H a ns hl ho hs => Fk.law_sp ho hs (runs ns hl), fun base _ _ => hF base⟩

theorem PySem.Challenge.cw_finitekeys_k06_within_and_many_kept_holds : PySem.Challenge.rw_finitekeys_k06_within_and_many_kept.Holds := by
  exact FkHead.law_end Fk.k06_runs
