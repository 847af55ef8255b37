import PyProof.Rows.All
import Wide.All
import OpenK.AllK
import Wide.FinOn
import HandS.ForMost
import HandS.ForExc
import HandS.Flow
import HandS.IsInst
import HandS.Deep
import HandS.TupAny
import HandS.Replace
import HandS.ExcIs
import HandS.ExcField
import HandS.ExcInit
import HandS.Walk
import HandS.Wide
import HandS.Codes
import HandS.Zip
import HandS.Dict
import HandS.Small
import HandS.More
import HandS.HeadHook3
import HandS.SortInts
import KE.KIsAll
import KE.KTryMore
import HandS.ClsMeth
import HandS.Defaults
import HandS.HeadHook1
import HandS.HeadHook2
import HandS.Head0
import HandS.Head1
import HandS.Head2
import HandS.HeadEnd
import PySem.Challenge.RW_turnsame_k38_edits_refused
set_option Elab.async false
set_option linter.all false
set_option maxRecDepth 100000
set_option maxHeartbeats 4000000
/-! Q3a: values, store, syntax and what it tells (no program, no heap). -/
namespace Q3
open PySem PySem.Spec PyProof.Rows L2

abbrev Lm : Nat := 16777216
/-- a value: trees of tuples over scalars, and places of the store -/
inductive D where
  | non | bl (b : Bool) | int (i : Int) | str (x : Str) | tup (xs : List D) | ref (n : Nat)
/-- what stands at a place of the store -/
inductive O where
  | lst (xs : List D) | fls (xs : List D) | dK (kvs : List (Key × D)) | dT (kvs : List (List Key × D)) | ins (c : Nat) (fs : List (Nat × D))
def O.mu : O → Bool
  | .fls _ => false
  | _ => true
abbrev Sto := List O
abbrev En := List (Option D)
abbrev KD := D → Sto → Prop
/-- an exception: its class by number, its fields -/
abbrev KX := Nat → List (Str × D) → Sto → Prop

inductive Op where | add | sub | mul | fdiv | mod | pow
inductive Cm where | lt | le | gt | ge | eq | ne | isin | notin | isn | isnt
/-- built-in functions and types, called -/
inductive Bf where | len | int | str | min2 | max2 | list | tuple | all | any | sum | min1 | max1 | sorted | dict
/-- methods of built-in types -/
inductive Mt where | append | join | split | starts | index | pop | extend | reverse | get | popAt | insert | clear | lindex
inductive Ty where | int | str | bool | tuple | list | dict | own (c : String)
/-- targets -/
inductive Tg where | nm (i : Nat) | tp (is : List Nat)

mutual
inductive E where
  | var (i : Nat) | int (i : Int) | str (x : Str) | bl (b : Bool) | non | glob (k : Nat)
  | bin (o : Op) (a b : E) | neg (a : E)
  | cmp (o : Cm) (a b : E) | chain (o p : Cm) (a b c : E)
  | and (a b : E) | or (a b : E) | not (a : E) | ite (c : T) (a b : E)
  | ix (a i : E) | sl (a lo hi : E) | no
  | tup (es : Es) | lst (es : Es) | dct (ks : List Key) (vs : Es) | dc0 | dcT | kget (k : Nat) (e : E) | kix (k : Nat) (e : E) | kin (neg : Bool) (k : Nat) (e : E)
  | call (f : Nat) (es : Es) | bf (b : Bf) (es : Es) | isi (e : E) (ts : List Ty) | exf (f : Str) | isx (ts : List Nat) | mt (m : Mt) (o : E) (es : Es)
  | comp (elt : E) (g : Tg) (it : I) (c : T)
  | fld (e : E) (f : Nat) | mth (o : E) (m : Nat) (es : Es) | new (c : Nat) (es : Es)
inductive Es where
  | nil | cons (e : E) (es : Es)
inductive T where
  | yes | val (e : E) | and (a b : T) | or (a b : T) | not (a : T) | ite (c a b : T)
inductive I where
  | seq (e : E) | rng1 (a : E) | rng2 (a b : E) | enum (e : E) | zip (a b : E) | rev (e : E)
end

mutual
inductive S where
  | rais (c : Nat) (es : Es) | tryx (b : Ss) (cs : List Nat) (i : Option Nat) (h : Ss) | ex (e : E) | asg (g : Tg) (e : E) | six (o i v : E) | fst (o : E) (f : Nat) (e : E) | iff (c : T) (a b : Ss) | for (g : Tg) (it : I) (b : Ss) | wh (c : T) (b : Ss) | ret (e : E) | pass | brk | cont | stop
inductive Ss where
  | nil | cons (s : S) (r : Ss)
end

/-! ### pure things -/
def lstAt (st : Sto) (a : Nat) : Option (List D) := match st[a]? with
  | some (.lst xs) => some xs
  | some (.fls xs) => some xs
  | _ => none
def seqOf (st : Sto) : D → Option (List D)
  | .tup xs => some xs
  | .ref a => lstAt st a
  | _ => none
def tru (st : Sto) : D → Option Bool
  | .non => some false
  | .bl b => some b
  | .int i => some (i != 0)
  | .str x => some ((x.length : Int) != 0)
  | .tup xs => some (!xs.isEmpty)
  | .ref a => (lstAt st a).map fun xs => !xs.isEmpty
/-! dicts -/
section
variable {κ : Type} [DecidableEq κ]
def dGet (kvs : List (κ × D)) (k : κ) : Option D := (kvs.find? fun kv => decide (kv.1 = k)).map (·.2)
def dPut (kvs : List (κ × D)) (k : κ) (v : D) : List (κ × D) :=
  if (kvs.any fun kv => decide (kv.1 = k)) = true then kvs.map (fun kv => if kv.1 = k then (kv.1, v) else kv) else kvs ++ [(k, v)]
end
def keyOf : D → Option Key
  | .int i => some (.inl i)
  | .str x => some (.inr x)
  | _ => none
def keysOf : List D → Option (List Key)
  | [] => some []
  | d :: ds => match keyOf d, keysOf ds with
    | some k, some ks => some (k :: ks)
    | _, _ => none
/-- a look-up: none where the thing is no dict, or the key none of its kind -/
def dicGet (st : Sto) (x y : D) : Option (Option D) := match x with
  | .ref a => match st[a]? with
    | some (.dK kvs) => (keyOf y).map (dGet kvs)
    | _ => none
  | _ => none
/-- a dict with one more entry -/
def dicPut (o : O) (y v : D) : Option O := match o with
  | .dK kvs => if kvs.length < 16777216 then (keyOf y).map fun k => .dK (dPut kvs k v) else none
  | _ => none
/-- o[y] = z -/
def putAt (st : Sto) (a : Nat) (y z : D) : Option Sto := match st[a]? with
  | some (.lst xs) => match y with
    | .int k => (ixN xs.length k).map fun j => st.set a (.lst (xs.set j z))
    | _ => none
  | some o => (dicPut o y z).map fun o' => st.set a o'
  | none => none
def dicLen (st : Sto) : D → Option Nat
  | .ref a => match st[a]? with
    | some (.dK kvs) => some kvs.length
    | _ => none
  | _ => none
/-- plain data, with fuel -/
def toP : Nat → Sto → D → Option PyData
  | 0, _, _ => none
  | n + 1, st, d => match d with
    | .non => some .none
    | .bl b => some (.bool b)
    | .int i => some (.int i)
    | .str x => some (.str x)
    | .tup xs => (xs.mapM (toP n st)).map .tuple
    | .ref a => match lstAt st a with
      | some xs => (xs.mapM (toP n st)).map .list
      | none => none
abbrev fuelP : Nat := 66

/-- what must hold, told as a truth -/
def Mu (b : Bool) (P : Prop) : Prop := match b with
  | true => P
  | false => False
theorem mu_and {b : Bool} {P : Prop} (h : Mu b P) : b = true ∧ P := by
  cases b with
  | true => exact ⟨rfl, h⟩
  | false => exact False.elim h
theorem mu_mk {b : Bool} {P : Prop} (h : b = true) (p : P) : Mu b P := by subst h; exact p
def shortL : Nat → List D → Bool
  | _, [] => true
  | 0, _ :: _ => false
  | n + 1, _ :: r => shortL n r
theorem shortL_le : ∀ {n : Nat} {xs : List D}, shortL n xs = true → xs.length ≤ n
  | _, [], _ => Nat.zero_le _
  | 0, _ :: _, h => absurd h Bool.false_ne_true
  | n + 1, _ :: r, h => Nat.succ_le_succ (shortL_le (n := n) (xs := r) h)
def shortF {α : Type} : Nat → List α → Bool
  | _, [] => true
  | 0, _ :: _ => false
  | n + 1, _ :: r => shortF n r
theorem shortF_le {α : Type} : ∀ {n : Nat} {xs : List α}, shortF n xs = true → xs.length ≤ n
  | _, [], _ => Nat.zero_le _
  | 0, _ :: _, h => absurd h Bool.false_ne_true
  | n + 1, _ :: r, h => Nat.succ_le_succ (shortF_le (n := n) (xs := r) h)
def dvOk (j : Int) : Bool := decide (0 < j) && (decide (j < 1073741824) || decide (j.natAbs.log2 < 9000))
theorem dvOk_ok {i j : Int} (h : dvOk j = true) : CDiv i j ∨ CDivW i j := by
  unfold dvOk at h
  rw [Bool.and_eq_true, Bool.or_eq_true, decide_eq_true_eq, decide_eq_true_eq, decide_eq_true_eq] at h
  rcases h.2 with q | q
  · exact .inl ⟨h.1, q⟩
  · exact .inr ⟨h.1, q⟩
theorem dvOk_mk {j : Int} (h0 : 0 < j) (h1 : j < 1073741824) : dvOk j = true := by
  unfold dvOk
  rw [decide_eq_true h0, decide_eq_true h1]; rfl
def powOk (i j : Int) : Bool := decide (0 ≤ j) && (decide (j ≤ 1000000) && decide (i.natAbs < 18446744073709551616))
theorem powOk_ok {i j : Int} (h : powOk i j = true) : CPow i j := by
  unfold powOk at h
  rw [Bool.and_eq_true, Bool.and_eq_true, decide_eq_true_eq, decide_eq_true_eq, decide_eq_true_eq] at h
  exact ⟨h.1, h.2.1, h.2.2⟩
def dec62 (i : Int) : Bool := Nat.ble i.natAbs 4611686018427387903
theorem dec62_mk {i : Int} (h0 : -4611686018427387904 < i) (h1 : i < 4611686018427387904) : dec62 i = true := by
  unfold dec62
  rw [Nat.ble_eq]; omega
/-- one of two, by a truth -/
def Br (b : Bool) (A B : Prop) : Prop := match b with
  | true => A
  | false => B
def leS (a b : Str) : Bool := !decide (b.cps.toList < a.cps.toList)
/-! ### operators, by values -/
def wAdd (x y : D) (st : Sto) (Q : KD) : Prop := match x, y with
  | .int i, .int j => Q (.int (i + j)) st
  | .str a, .str b => a.length + b.length ≤ Lm ∧ Q (.str (a ++ b)) st
  | .tup a, .tup b => a.length + b.length ≤ Lm ∧ Q (.tup (a ++ b)) st
  | .ref a, .ref b => match st[a]?, st[b]? with
    | some (.lst xs), some (.lst ys) => xs.length + ys.length ≤ Lm ∧ Q (.ref st.length) (st ++ [.lst (xs ++ ys)])
    | some (.fls xs), some (.lst ys) => xs.length + ys.length ≤ Lm ∧ Q (.ref st.length) (st ++ [.lst (xs ++ ys)])
    | _, _ => False
  | _, _ => False
def wBin (o : Op) (x y : D) (st : Sto) (Q : KD) : Prop := match o, x, y with
  | .add, x, y => wAdd x y st Q
  | .sub, .int i, .int j => Q (.int (i - j)) st
  | .mul, .int i, .int j => (CMul i j ∨ CMulW i j) ∧ Q (.int (i * j)) st
  | .mul, .ref a, .int k => match st[a]? with
    | some (.lst xs) => (-(2 ^ 63) ≤ k ∧ k < 2 ^ 63 ∧ xs.length * k.toNat ≤ Lm) ∧ Q (.ref st.length) (st ++ [.lst (List.replicate k.toNat xs).flatten])
    | _ => False
  | .mul, .str a, .int k => (MulOk a k ∧ (Txt.mul a k).length ≤ Lm) ∧ Q (.str (Txt.mul a k)) st
  | .fdiv, .int i, .int j => Mu (dvOk j) (Q (.int (i / j)) st)
  | .mod, .int i, .int j => Mu (decide (0 < j)) (Q (.int (i % j)) st)
  | .pow, .int i, .int j => Mu (powOk i j) (Q (.int (i ^ j.toNat)) st)
  | _, _, _ => False
/-- two tuples, one of them empty; two lists of unlike lengths, or empty -/
def emC (st : Sto) : D → D → Option Bool
  | .tup [], .tup ys => some ys.isEmpty
  | .tup (_ :: _), .tup [] => some false
  | .ref a, .ref b => match lstAt st a, lstAt st b with
    | some xs, some ys => if xs.length = ys.length then (if xs.length = 0 then some true else none) else some false
    | _, _ => none
  | _, _ => none
def wEq (x y : D) (st : Sto) (Q : Bool → Sto → Prop) : Prop := match x, y with
  | .int i, .int j => Q (decide (i = j)) st
  | .str i, .str j => Q (decide (i = j)) st
  | .bl i, .bl j => Q (decide (i = j)) st
  | x, y => (∃ b, emC st x y = some b ∧ Q b st) ∨ match toP fuelP st x, toP fuelP st y with
    | some p, some q => (SeqAt.shaped p = true ∧ SeqAt.shaped q = true) ∧ Q (PyData.eqv p q) st
    | _, _ => False
def flat : D → Bool
  | .non => true | .bl _ => true | .int _ => true | .str _ => true | _ => false
def eqF : D → D → Bool
  | .non, .non => true
  | .bl a, .bl b => a == b
  | .int a, .int b => a == b
  | .bl a, .int b => (if a then 1 else 0) == b
  | .int a, .bl b => a == (if b then 1 else 0)
  | .str a, .str b => a == b
  | _, _ => false
def wIn (x y : D) (st : Sto) (Q : Bool → Sto → Prop) : Prop := match x, y with
  | .str a, .str b => match a.cps.toList with
    | [c] => Q (decide (c ∈ b.cps.toList)) st
    | _ => Q (!(Builtin.Str.occurrences b a 0 b.length 1).isEmpty) st
  | x, y => match seqOf st y with
    | some ys => Br (flat x && ys.all flat) (Q (ys.any fun z => eqF z x) st) (∃ p ps, toP fuelP st x = some p ∧ toP fuelP st y = some (.list ps) ∧ (SeqAt.shaped p = true ∧ SeqAt.shaped (.list ps) = true) ∧ Q (ps.any fun z => PyData.eqv z p) st)
    | none => match dicGet st y x with
      | some o => Q o.isSome st
      | none => False
def wCmp (o : Cm) (x y : D) (st : Sto) (Q : Bool → Sto → Prop) : Prop := match o with
  | .eq => wEq x y st Q
  | .ne => wEq x y st fun b st' => Q (!b) st'
  | .isin => wIn x y st Q
  | .notin => wIn x y st fun b st' => Q (!b) st'
  | .lt => match x, y with
    | .int i, .int j => Q (decide (i < j)) st
    | .str i, .str j => Q (decide (i.cps.toList < j.cps.toList)) st
    | _, _ => False
  | .le => match x, y with
    | .int i, .int j => Q (decide (i ≤ j)) st
    | .str i, .str j => Q (leS i j) st
    | _, _ => False
  | .gt => match x, y with
    | .int i, .int j => Q (decide (j < i)) st
    | .str i, .str j => Q (decide (j.cps.toList < i.cps.toList)) st
    | _, _ => False
  | .ge => match x, y with
    | .int i, .int j => Q (decide (j ≤ i)) st
    | _, _ => False
  | .isn => match x, y with
    | .non, .non => Q true st
    | _, .non => Q false st
    | _, _ => False
  | .isnt => match x, y with
    | .non, .non => Q false st
    | _, .non => Q true st
    | _, _ => False
/-- a subscript -/
def wIx (x y : D) (st : Sto) (Q : KD) : Prop := match y with
  | .int i => match x with
    | .str z => match atI z.cps.toList i with
      | some c => Q (.str ⟨#[c]⟩) st
      | none => False
    | x => match seqOf st x with
      | some xs => match atI xs i with
        | some d => Q d st
        | none => False
      | none => match dicGet st x (.int i) with
        | some (some d) => Q d st
        | _ => False
  | .str k => match dicGet st x (.str k) with
    | some (some d) => Q d st
    | _ => False
  | _ => False
def partD : Bool → D → Option (Option Int)
  | true, .non => some none
  | false, .int i => some (some i)
  | _, _ => none
def E.isNo : E → Bool
  | .no => true
  | _ => false
def cutD (xs : List D) (lo hi : Option Int) : List D := (xs.drop (HT.sIx xs.length 0 lo)).take (HT.sIx xs.length xs.length hi - HT.sIx xs.length 0 lo)
def wSl (x : D) (lo hi : Option Int) (st : Sto) (Q : KD) : Prop := match x with
  | .str z => Q (.str (cutS z lo hi)) st
  | .tup xs => Q (.tup (cutD xs lo hi)) st
  | .ref a => match lstAt st a with
    | some xs => Q (.ref st.length) (st ++ [.lst (cutD xs lo hi)])
    | none => False
  | _ => False
def lenD (st : Sto) : D → Option Nat
  | .str x => some x.length
  | x => match seqOf st x with
    | some xs => some xs.length
    | none => dicLen st x
def blsOf : List D → Option (List Bool)
  | [] => some []
  | .bl x :: r => (blsOf r).map (x :: ·)
  | _ :: _ => none
def intsOf : List D → Option (List Int)
  | [] => some []
  | .int x :: r => (intsOf r).map (x :: ·)
  | _ :: _ => none
def strsOf : List D → Option (List Str)
  | [] => some []
  | .str x :: r => (strsOf r).map (x :: ·)
  | _ :: _ => none
/-- the least, the greatest -/
def minI : List Int → Int
  | [] => 0
  | i :: r => r.foldl min i
def maxI : List Int → Int
  | [] => 0
  | i :: r => r.foldl max i
/-- sorted by a total order -/
def insS {α : Type} (le : α → α → Bool) (x : α) : List α → List α
  | [] => [x]
  | y :: r => if le x y = true then x :: y :: r else y :: insS le x r
def srtS {α : Type} (le : α → α → Bool) : List α → List α
  | [] => []
  | x :: r => insS le x (srtS le r)
def leI (a b : Int) : Bool := decide (a ≤ b)
def keyInts {β : Type} : List (Key × β) → Option (List Int)
  | [] => some []
  | (.inl i, _) :: r => (keyInts r).map (i :: ·)
  | _ :: _ => none
def dicAll (st : Sto) : D → Option (List (Key × D))
  | .ref a => match st[a]? with
    | some (.dK kvs) => some kvs
    | _ => none
  | _ => none
/-- the items sorted: of a list of ints, of few texts, of a dict's keys -/
def srtL (xs : List D) : Option (List D) := match intsOf xs with
  | some ns => some ((srtS leI ns).map D.int)
  | none => match strsOf xs with
    | some zs => if zs.length < 64 then some ((srtS leS zs).map D.str) else none
    | none => none
def srtOf (st : Sto) : D → Option (List D)
  | .ref a => match st[a]? with
    | some (.lst xs) => srtL xs
    | some (.dK kvs) => match keyInts kvs with
      | some ns => if ns.length < 64 then some ((srtS leI ns).map D.int) else none
      | none => none
    | _ => none
  | _ => none
/-- what stands in a list at a place -/
def inL {α : Type} (f : List D → Option α) (st : Sto) : D → Option α
  | .ref a => (lstAt st a).bind f
  | _ => none
def wBf (b : Bf) (xs : List D) (st : Sto) (Q : KD) : Prop := match b, xs with
  | .len, [x] => match lenD st x with
    | some n => Q (.int n) st
    | none => False
  | .int, [.int i] => Q (.int i) st
  | .int, [.bl k] => Q (.int (if k then 1 else 0)) st
  | .int, [.str a] => match intText? a with
    | some n => a.length ≤ 640 ∧ Q (.int n) st
    | none => False
  | .str, [.int i] => i.natAbs.log2 < 1920 ∧ (toString i : Str).length ≤ Lm ∧ Q (.str (toString i)) st
  | .min2, [.int i, .int j] => Q (.int (if j < i then j else i)) st
  | .max2, [.int i, .int j] => Q (.int (if j > i then j else i)) st
  | .list, [x] => match seqOf st x with
    | some xs => Q (.ref st.length) (st ++ [.lst xs])
    | none => False
  | .tuple, [x] => match seqOf st x with
    | some xs => Q (.tup xs) st
    | none => False
  | .all, [x] => match inL blsOf st x with
    | some bs => Q (.bl (bs.all id)) st
    | none => False
  | .any, [x] => match inL blsOf st x with
    | some bs => Q (.bl (bs.any id)) st
    | none => False
  | .sum, [x] => match inL intsOf st x with
    | some ns => Q (.int ns.sum) st
    | none => False
  | .min1, [x] => match inL intsOf st x with
    | some ns => Mu (!ns.isEmpty) (Q (.int (minI ns)) st)
    | none => False
  | .max1, [x] => match inL intsOf st x with
    | some ns => Mu (!ns.isEmpty) (Q (.int (maxI ns)) st)
    | none => False
  | .sorted, [x] => match srtOf st x with
    | some ys => Q (.ref st.length) (st ++ [.lst ys])
    | none => False
  | .dict, [x] => match dicAll st x with
    | some kvs => Q (.ref st.length) (st ++ [.dK kvs])
    | none => False
  | _, _ => False
def wMt (m : Mt) (o : D) (xs : List D) (st : Sto) (Q : KD) : Prop := match m, o, xs with
  | .append, .ref a, [d] => match st[a]? with
    | some (.lst ys) => ys.length < Lm ∧ Q .non (st.set a (.lst (ys ++ [d])))
    | _ => False
  | .reverse, .ref a, [] => match st[a]? with
    | some (.lst ys) => Q .non (st.set a (.lst ys.reverse))
    | _ => False
  | .pop, .ref a, [] => match st[a]? with
    | some (.lst ys) => match ys.getLast? with
      | some d => Q d (st.set a (.lst ys.dropLast))
      | none => False
    | _ => False
  | .join, .str s, [x] => match seqOf st x with
    | some ys => match strsOf ys with
      | some zs => (zs.map (·.length)).sum + zs.length * s.length ≤ Lm ∧ (Txt.join s zs).length ≤ Lm ∧ Q (.str (Txt.join s zs)) st
      | none => False
    | none => False
  | .split, .str s, [.str t] => ((t.length == 0) = false ∧ s.length + 2 ≤ Lm ∧ (∀ z ∈ Txt.split s t, z.length ≤ Lm)) ∧ Q (.ref st.length) (st ++ [.lst ((Txt.split s t).map D.str)])
  | .starts, .str s, [.str t] => Q (.bl (Txt.startswith s t)) st
  | .index, .str s, [.str t] => match Builtin.Str.occurrences s t 0 s.length 1 with
    | k :: _ => Q (.int (k : Nat)) st
    | [] => False
  | .extend, .ref a, [.ref b] => match st[a]?, st[b]? with
    | some (.lst xs), some (.lst ys) => xs.length + ys.length ≤ Lm ∧ Q .non (st.set a (.lst (xs ++ ys)))
    | _, _ => False
  | .clear, .ref a, [] => match st[a]? with
    | some (.lst _) => Q .non (st.set a (.lst []))
    | _ => False
  | .insert, .ref a, [.int k, d] => match st[a]? with
    | some (.lst ys) => (ys.length < Lm ∧ 0 ≤ k ∧ k < 2 ^ 63) ∧ Q .non (st.set a (.lst (ys.take k.toNat ++ [d] ++ ys.drop k.toNat)))
    | _ => False
  | .popAt, .ref a, [.int k] => match st[a]? with
    | some (.lst ys) => match ixN ys.length k with
      | some j => match ys[j]? with
        | some d => Q d (st.set a (.lst (ys.eraseIdx j)))
        | none => False
      | none => False
    | _ => False
  | .lindex, .ref a, [d] => match lstAt st a with
    | some ys => (flat d = true ∧ ys.all flat = true) ∧ match ys.findIdx? fun z => eqF z d with
      | some k => Q (.int (k : Nat)) st
      | none => False
    | none => False
  | .get, x, [y] => match dicGet st x y with
    | some o => Q (o.getD .non) st
    | none => False
  | .get, x, [y, z] => match dicGet st x y with
    | some o => Q (o.getD z) st
    | none => False
  | _, _, _ => False
def Mt.onStr : Mt → Bool
  | .join => true
  | .split => true
  | .starts => true
  | .index => true
  | _ => false
def Mt.onDic : Mt → Bool
  | .get => true
  | _ => false
def mtOk (m : Mt) (st : Sto) (d : D) : Bool := match d with
  | .str _ => m.onStr
  | .ref a => !m.onStr && (if m.onDic = true then (dicLen st (.ref a)).isSome else (lstAt st a).isSome)
  | _ => false
/-- an instance: its class, its fields -/
def insAt (st : Sto) : D → Option (Nat × List (Nat × D))
  | .ref a => match st[a]? with
    | some (.ins c fs) => some (c, fs)
    | _ => none
  | _ => none
def fPut (f : Nat) (v : D) : List (Nat × D) → List (Nat × D)
  | [] => [(f, v)]
  | (g, x) :: r => if g = f then (g, v) :: r else (g, x) :: fPut f v r
/-- a method's def: by class, by name -/
def methOf (ms : List (Nat × List (Nat × Nat))) (c m : Nat) : Option Nat := match ms.lookup c with
  | some t => t.lookup m
  | none => none
/-- names of classes, fields, methods: as numbers, seven bits a sign -/
def decL : Nat → Nat → List Nat
  | 0, _ => []
  | f + 1, n => if n = 0 then [] else (n % 128) :: decL f (n / 128)
def decS (n : Nat) : Str := ⟨(decL n n).toArray⟩
def tyN (st : Sto) : D → Option String
  | .non => some "NoneType"
  | .bl _ => some "bool"
  | .int _ => some "int"
  | .str _ => some "str"
  | .tup _ => some "tuple"
  | .ref a => match st[a]? with
    | some (.lst _) => some "list"
    | some (.fls _) => some "list"
    | some (.dK _) => some "dict"
    | some (.dT _) => some "dict"
    | _ => none
def Ty.nm : Ty → String
  | .int => "int" | .str => "str" | .bool => "bool" | .tuple => "tuple" | .list => "list" | .dict => "dict" | .own _ => ""
def Ty.isOwn : Ty → Bool
  | .own _ => true
  | _ => false
def tyHit (n : String) (t : Ty) : Bool := n == t.nm || (n == "bool" && t.nm == "int")

/-! ### walks -/
structure It where
  gs : List (Nat × List D)
  xs : List D
def gOk (gs : List (Nat × List D)) (st : Sto) : Prop := ∀ g ∈ gs, lstAt st g.1 = some g.2
def loopC (gs : List (Nat × List D)) (body : D → Sto → (Sto → Prop) → Prop) : List D → Sto → (Sto → Prop) → Prop
  | [], st, K => gOk gs st ∧ K st
  | d :: ds, st, K => gOk gs st ∧ body d st fun st' => loopC gs body ds st' K
def loopF (gs : List (Nat × List D)) (body : D → (En → Sto → Prop) → En → Sto → Prop) : List D → (En → Sto → Prop) → En → Sto → Prop
  | [], K, en, st => gOk gs st ∧ K en st
  | d :: ds, K, en, st => gOk gs st ∧ body d (loopF gs body ds K) en st
def loopW (test : En → Sto → (Bool → Sto → Prop) → Prop) (body : (En → Sto → Prop) → En → Sto → Prop) (K : En → Sto → Prop) : Nat → En → Sto → Prop
  | 0, _, _ => False
  | n + 1, en, st => test en st fun b st1 => Br b (body (loopW test body K n) en st1) (K en st1)
def Tg.slots : Tg → List Nat
  | .nm i => [i]
  | .tp is => is
def setAll : List Nat → List D → En → Option En
  | [], [], en => some en
  | i :: is, d :: ds, en => setAll is ds (en.set i (some d))
  | _, _, _ => none
def bindT (g : Tg) (d : D) (en : En) : Option En := match g, d with
  | .nm i, d => some (en.set i (some d))
  | .tp is, .tup ds => setAll is ds en
  | .tp _, _ => none
def wipeE (en : En) : List Nat → En
  | [] => en
  | v :: vs => (wipeE en vs).set v none
def chars (x : Str) : List D := x.cps.toList.map fun c => .str ⟨#[c]⟩
@[irreducible] def rngL (lo : Int) (n : Nat) : List D := (List.range n).map fun (k : Nat) => .int (lo + (k : Int))
def enumFrom : Nat → List D → List D
  | _, [] => []
  | i, d :: ds => .tup [.int (i : Nat), d] :: enumFrom (i + 1) ds
def enumL (xs : List D) : List D := enumFrom 0 xs
def zipL0 : List D → List D → List D
  | x :: xs, y :: ys => .tup [x, y] :: zipL0 xs ys
  | _, _ => []
@[irreducible] def zipL (xs ys : List D) : List D := zipL0 xs ys
theorem zipL_nl (r : List D) : zipL [] r = [] := by unfold zipL; rfl
theorem zipL_ln (r : List D) : zipL r [] = [] := by unfold zipL; cases r <;> rfl
theorem zipL_cc (x y : D) (xs ys : List D) : zipL (x :: xs) (y :: ys) = .tup [x, y] :: zipL xs ys := by unfold zipL; rfl
def small62 (i : Int) : Prop := -(2 ^ 62) ≤ i ∧ i < 2 ^ 62
theorem dec62_ok {i : Int} (h : dec62 i = true) : small62 i := by
  unfold dec62 at h
  rw [Nat.ble_eq] at h
  exact ⟨by omega, by omega⟩

/-- nothing is let out -/
def noX : KX := fun _ _ _ => False
/-- an exception out of a statement: the slots as they stand -/
abbrev KS := Nat → List (Str × D) → En → Sto → Prop
def atS (X : KS) (en : En) : KX := fun c fs st => X c fs en st
/-- what is outside: how defs are called, the module's constants -/
structure XI where
  a : Addr
  d : Option Addr
  c : Nat
  fs : List (Str × D)
structure Cl where
  call : Nat → List D → Sto → KD → KX → Prop
  G : List D
  /-- the exception classes: those with fields tell them -/
  X : List (Option (List Str)) := []
  /-- which is under which -/
  sub : Nat → Nat → Option Bool := fun _ _ => none
  /-- the exception that is handled -/
  ex : Option XI := none
  /-- the module's own dicts, with texts as keys -/
  KD : List (List (Str × D)) := []
  /-- how instances are made: __init__ one level down -/
  mkc : Nat → List D → Sto → (D → Sto → Prop) → KX → Prop := fun _ _ _ _ _ => False
  /-- methods by class, by name -/
  ms : List (Nat × List (Nat × Nat)) := []
  /-- the classes' own __init__ -/
  ini : List (Nat × Nat) := []
  /-- the fields that a class may have -/
  fds : List (Nat × List Nat) := []
def kdAt (kd : List (List (Str × D))) (k : Nat) : D → Option (Option D)
  | .str z => (kd[k]?).map fun es => es.lookup z
  | _ => none
def fdB (fds : List (Nat × List Nat)) (c f : Nat) : Bool := match fds.lookup c with
  | some l => l.elem f
  | none => false
def xfdB (X : List (Option (List Str))) (c : Nat) (f : Str) : Bool := match X[c]? with
  | some (some l) => l.elem f
  | _ => false
def subAny (f : Nat → Option Bool) : List Nat → Option Bool
  | [] => some false
  | t :: ts => match f t, subAny f ts with
    | some b, some c => some (b || c)
    | _, _ => none

section
variable (C : Cl)
mutual
def wE : E → En → Sto → KD → KX → Prop
  | .var i, en, st, Q, _ => match en[i]? with
    | some (some d) => Q d st
    | _ => False
  | .int i, _, st, Q, _ => Q (.int i) st
  | .str x, _, st, Q, _ => Q (.str x) st
  | .bl b, _, st, Q, _ => Q (.bl b) st
  | .non, _, st, Q, _ => Q .non st
  | .glob k, _, st, Q, _ => match C.G[k]? with
    | some d => Q d st
    | none => False
  | .bin o a b, en, st, Q, X => wE a en st (fun x st1 => wE b en st1 (fun y st2 => wBin o x y st2 Q) X) X
  | .neg a, en, st, Q, X => wE a en st (fun x st1 => match x with
    | .int i => Q (.int (-i)) st1
    | _ => False) X
  | .cmp o a b, en, st, Q, X => wE a en st (fun x st1 => wE b en st1 (fun y st2 => wCmp o x y st2 fun t st3 => Q (.bl t) st3) X) X
  | .chain o p a b c, en, st, Q, X => wE a en st (fun x st1 => wE b en st1 (fun y st2 => wCmp o x y st2 fun t st3 =>
      Br t (wE c en st3 (fun z st4 => wCmp p y z st4 fun u st5 => Q (.bl u) st5) X) (Q (.bl false) st3)) X) X
  | .and a b, en, st, Q, X => wE a en st (fun x st1 => match tru st1 x with
    | some t => Br t (wE b en st1 Q X) (Q x st1)
    | none => False) X
  | .or a b, en, st, Q, X => wE a en st (fun x st1 => match tru st1 x with
    | some t => Br t (Q x st1) (wE b en st1 Q X)
    | none => False) X
  | .not a, en, st, Q, X => wE a en st (fun x st1 => match tru st1 x with
    | some t => Q (.bl (!t)) st1
    | none => False) X
  | .ite c a b, en, st, Q, X => wT c en st (fun t st1 => Br t (wE a en st1 Q X) (wE b en st1 Q X)) X
  | .ix a i, en, st, Q, X => wE a en st (fun x st1 => wE i en st1 (fun y st2 => wIx x y st2 Q) X) X
  | .sl a lo hi, en, st, Q, X => wE a en st (fun x st1 => wE lo en st1 (fun y st2 => match partD lo.isNo y with
    | some l => wE hi en st2 (fun z st3 => match partD hi.isNo z with
      | some u => wSl x l u st3 Q
      | none => False) X
    | none => False) X) X
  | .no, _, st, Q, _ => Q .non st
  | .tup es, en, st, Q, X => wEs es en st (fun xs st1 => Mu (shortL 256 xs) (Q (.tup xs) st1)) X
  | .lst es, en, st, Q, X => wEs es en st (fun xs st1 => Mu (shortL 256 xs) (Q (.ref st1.length) (st1 ++ [.lst xs]))) X
  | .dct ks vs, en, st, Q, X => wEs vs en (st ++ [.dK []]) (fun ys st1 => match st1[st.length]? with
    | some (.dK []) => Q (.ref st.length) (st1.set st.length (.dK ((ks.zip ys).foldl (fun acc kv => dPut acc kv.1 kv.2) [])))
    | _ => False) X
  | .kget k e, en, st, Q, X => wE e en st (fun x st1 => match kdAt C.KD k x with
    | some o => Q (o.getD .non) st1
    | none => False) X
  | .kix k e, en, st, Q, X => wE e en st (fun x st1 => match kdAt C.KD k x with
    | some (some d) => Q d st1
    | _ => False) X
  | .kin neg k e, en, st, Q, X => wE e en st (fun x st1 => match kdAt C.KD k x with
    | some o => Q (.bl (neg != o.isSome)) st1
    | none => False) X
  | .dc0, _, st, Q, _ => Q (.ref st.length) (st ++ [.dK []])
  | .dcT, _, st, Q, _ => Q (.ref st.length) (st ++ [.dT []])
  | .call f es, en, st, Q, X => wEs es en st (fun xs st1 => C.call f xs st1 Q X) X
  | .bf b es, en, st, Q, X => wEs es en st (fun xs st1 => wBf b xs st1 Q) X
  | .isi e ts, en, st, Q, X => wE e en st (fun x st1 => match tyN st1 x with
    | some n => Q (.bl (ts.any (tyHit n))) st1
    | none => False) X
  | .exf f, _, st, Q, _ => match C.ex with
    | some x => Mu (xfdB C.X x.c f) (match x.fs.lookup f with
      | some d => Q d st
      | none => False)
    | none => False
  | .isx ts, _, st, Q, _ => match C.ex with
    | some x => Mu (C.X[x.c]?).isSome (match subAny (C.sub x.c) ts with
      | some b => Q (.bl b) st
      | none => False)
    | none => False
  | .mt m o es, en, st, Q, X => wE o en st (fun x st1 => Mu (mtOk m st1 x) (wEs es en st1 (fun xs st2 => wMt m x xs st2 Q) X)) X
  | .comp elt g it c, en, st, Q, X => wI it en st (fun J st1 =>
      loopC J.gs (fun d st2 K => match bindT g d (wipeE en g.slots) with
        | some en' => wT c en' st2 (fun t st3 => Br t (wE elt en' st3 (fun y st4 => match st4[st1.length]? with
            | some (.lst acc) => acc.length < Lm ∧ K (st4.set st1.length (.lst (acc ++ [y])))
            | _ => False) noX) (K st3)) noX
        | none => False) J.xs (st1 ++ [.lst []]) fun st5 => Q (.ref st1.length) st5) X
  | .fld e f, en, st, Q, X => wE e en st (fun x st1 => match insAt st1 x with
    | some (c, fs) => Mu (fdB C.fds c f) (match fs.lookup f with
      | some d => Q d st1
      | none => False)
    | none => False) X
  | .mth o m es, en, st, Q, X => wE o en st (fun x st1 => match insAt st1 x with
    | some (c, fs) => match fs.lookup m with
      | some _ => False
      | none => match methOf C.ms c m with
        | some k => wEs es en st1 (fun xs st2 => C.call k (x :: xs) st2 Q X) X
        | none => False
    | none => False) X
  | .new c es, en, st, Q, X => match C.ini.lookup c with
    | some k => wEs es en st (fun xs st1 => C.mkc k (.ref st1.length :: xs) (st1 ++ [.ins c []]) (fun d st2 => d = .non ∧ Q (.ref st1.length) st2) X) X
    | none => False
def wEs : Es → En → Sto → (List D → Sto → Prop) → KX → Prop
  | .nil, _, st, Q, _ => Q [] st
  | .cons e es, en, st, Q, X => wE e en st (fun x st1 => wEs es en st1 (fun xs st2 => Q (x :: xs) st2) X) X
def wT : T → En → Sto → (Bool → Sto → Prop) → KX → Prop
  | .yes, _, st, Q, _ => Q true st
  | .val e, en, st, Q, X => wE e en st (fun x st1 => match tru st1 x with
    | some t => Q t st1
    | none => False) X
  | .and a b, en, st, Q, X => wT a en st (fun t st1 => Br t (wT b en st1 Q X) (Q false st1)) X
  | .or a b, en, st, Q, X => wT a en st (fun t st1 => Br t (Q true st1) (wT b en st1 Q X)) X
  | .not a, en, st, Q, X => wT a en st (fun t st1 => Q (!t) st1) X
  | .ite c a b, en, st, Q, X => wT c en st (fun t st1 => Br t (wT a en st1 Q X) (wT b en st1 Q X)) X
def wI : I → En → Sto → (It → Sto → Prop) → KX → Prop
  | .seq e, en, st, Q, X => wE e en st (fun x st1 => match x with
    | .tup xs => Q ⟨[], xs⟩ st1
    | .str z => Q ⟨[], chars z⟩ st1
    | .ref a => match lstAt st1 a with
      | some xs => Q ⟨[(a, xs)], xs⟩ st1
      | none => False
    | _ => False) X
  | .rng1 a, en, st, Q, X => wE a en st (fun x st1 => match x with
    | .int j => Mu (dec62 j) (Q ⟨[], rngL 0 j.toNat⟩ st1)
    | _ => False) X
  | .rng2 a b, en, st, Q, X => wE a en st (fun x st1 => wE b en st1 (fun y st2 => match x, y with
    | .int i, .int j => Mu (dec62 i) (Mu (dec62 j) (Q ⟨[], rngL i (j - i).toNat⟩ st2))
    | _, _ => False) X) X
  | .enum e, en, st, Q, X => wE e en st (fun x st1 => match x with
    | .ref a => match lstAt st1 a with
      | some xs => Q ⟨[(a, xs)], enumL xs⟩ st1
      | none => False
    | _ => False) X
  | .zip a b, en, st, Q, X => wE a en st (fun x st1 => wE b en st1 (fun y st2 => match x, y with
    | .ref a, .ref b => match lstAt st2 a, lstAt st2 b with
      | some xs, some ys => Q ⟨[(a, xs), (b, ys)], zipL xs ys⟩ st2
      | _, _ => False
    | .tup xs, .tup ys => Q ⟨[], zipL xs ys⟩ st2
    | _, _ => False) X) X
  | .rev e, en, st, Q, X => wE e en st (fun x st1 => match x with
    | .ref a => match lstAt st1 a with
      | some xs => Q ⟨[(a, xs)], xs.reverse⟩ st1
      | none => False
    | _ => False) X
end

/-- what is wanted behind a statement -/
structure Nd where
  nx : En → Sto → Prop
  rt : KD
  bk : En → Sto → Prop := fun _ _ => False
  ct : En → Sto → Prop := fun _ _ => False
/-- the statements behind -/
def Nd.th (N : Nd) (f : En → Sto → Prop) : Nd := { nx := f, rt := N.rt, bk := N.bk, ct := N.ct }
/-- within a loop -/
def Nd.lp (N : Nd) (f : En → Sto → Prop) : Nd := { nx := f, rt := N.rt, bk := N.nx, ct := f }
def Nd.wipe (N : Nd) : Option Nat → Nd
  | none => N
  | some i => { nx := fun en st => N.nx (en.set i none) st, rt := N.rt, bk := fun en st => N.bk (en.set i none) st, ct := fun en st => N.ct (en.set i none) st }
def hasL {α : Type} : Nat → List α → Bool
  | 0, [] => false
  | _ + 1, [] => false
  | 0, _ :: _ => true
  | n + 1, _ :: r => hasL n r
theorem hasL_lt {α : Type} : ∀ {n : Nat} {l : List α}, hasL n l = true → n < l.length
  | 0, [], h => absurd h Bool.false_ne_true
  | _ + 1, [], h => absurd h Bool.false_ne_true
  | 0, _ :: _, _ => Nat.succ_pos _
  | n + 1, _ :: r, h => Nat.succ_lt_succ (hasL_lt (n := n) (l := r) h)
def atB : Option Nat → En → Bool
  | none, _ => true
  | some i, en => hasL i en
def enX (en : En) : Option Nat → En
  | none => en
  | some i => en.set i none
end
mutual
def wS : S → Cl → Nd → KS → En → Sto → Prop
  | .rais c es, C, _, X, en, st => match C.X[c]? with
    | some none => wEs C es en st (fun xs st1 => match xs with
      | [.str _] => X c [] en st1
      | _ => False) (atS X en)
    | some (some fs) => wEs C es en st (fun xs st1 => xs.length = fs.length ∧ X c (fs.zip xs) en st1) (atS X en)
    | none => False
  | .tryx b cs i h, C, N, X, en, st => wSs b C N (fun c fs en1 st1 => match subAny (C.sub c) cs with
    | some true => Mu (atB i en1) (∀ a d, wSs h { C with ex := some ⟨a, d, c, fs⟩ } (N.wipe i) (fun _ _ _ _ => False) (enX en1 i) st1)
    | some false => X c fs en1 st1
    | none => False) en st
  | .ex e, C, N, X, en, st => wE C e en st (fun _ st1 => N.nx en st1) (atS X en)
  | .asg g e, C, N, X, en, st => wE C e en st (fun x st1 => match bindT g x en with
    | some en' => N.nx en' st1
    | none => False) (atS X en)
  | .six o i v, C, N, X, en, st => wE C v en st (fun z st1 => wE C o en st1 (fun x st2 => wE C i en st2 (fun y st3 => match x with
    | .ref a => match putAt st3 a y z with
      | some st' => N.nx en st'
      | none => False
    | _ => False) (atS X en)) (atS X en)) (atS X en)
  | .fst o f e, C, N, X, en, st => wE C e en st (fun z st1 => wE C o en st1 (fun x st2 => match x with
    | .ref a => match st2[a]? with
      | some (.ins c fs) => Mu (fdB C.fds c f && shortF 900 fs) (N.nx en (st2.set a (.ins c (fPut f z fs))))
      | _ => False
    | _ => False) (atS X en)) (atS X en)
  | .iff c a b, C, N, X, en, st => wT C c en st (fun t st1 => Br t (wSs a C N X en st1) (wSs b C N X en st1)) (atS X en)
  | .for g it b, C, N, X, en, st => wI C it en st (fun J st1 => loopF J.gs (fun d K en1 st2 => match bindT g d en1 with
    | some en2 => wSs b C (N.lp K) X en2 st2
    | none => False) J.xs N.nx en st1) (atS X en)
  | .wh c b, C, N, X, en, st => ∃ n, loopW (fun en1 st1 K => wT C c en1 st1 K (atS X en1)) (fun K en1 st1 => wSs b C (N.lp K) X en1 st1) N.nx n en st
  | .ret e, C, N, X, en, st => wE C e en st N.rt (atS X en)
  | .pass, _, N, _, en, st => N.nx en st
  | .brk, _, N, _, en, st => N.bk en st
  | .cont, _, N, _, en, st => N.ct en st
  | .stop, _, _, _, _, _ => False
def wSs : Ss → Cl → Nd → KS → En → Sto → Prop
  | .nil, _, N, _, en, st => N.nx en st
  | .cons s r, C, N, X, en, st => wS s C (N.th fun en1 st1 => wSs r C N X en1 st1) X en st
end

/-- which class is under which, by a table -/
def subOf (tab : List (List Bool)) (c d : Nat) : Option Bool := match tab[c]? with
  | some r => r[d]?
  | none => none
/-- a def: how many names, how many parameters, its body -/
structure Df where
  n : Nat
  a : Nat
  b : Ss
/-- the program: its constants, exception classes, defs -/
structure Pr where
  G : List D
  P : List Df
  X : List (Option (List Str)) := []
  sub : Nat → Nat → Option Bool := fun _ _ => none
  KD : List (List (Str × D)) := []
  ms : List (Nat × List (Nat × Nat)) := []
  ini : List (Nat × Nat) := []
  fds : List (Nat × List Nat) := []
abbrev CallT : Type := Nat → List D → Sto → KD → KX → Prop
def stepN (p : Pr) (c c' : CallT) : CallT := fun f xs st Q X => match p.P[f]? with
  | some d => xs.length = d.a ∧ wSs d.b { call := c, G := p.G, X := p.X, sub := p.sub, KD := p.KD, mkc := c', ms := p.ms, ini := p.ini, fds := p.fds } { nx := fun _ st' => Q .non st', rt := Q } (fun c fs _ st' => X c fs st') (xs.map some ++ List.replicate (d.n - d.a) none) st
  | none => False
def callP (p : Pr) (n : Nat) : CallT × CallT := Nat.rec (motive := fun _ => CallT × CallT) (fun _ _ _ _ _ => False, fun _ _ _ _ _ => False) (fun _ c => (stepN p c.1 c.2, c.1)) n
@[irreducible] def callN (p : Pr) (n : Nat) : CallT := (callP p n).1
@[irreducible] def callM (p : Pr) (n : Nat) : CallT := (callP p n).2
theorem callN_eq0 {p : Pr} : callN p 0 = fun _ _ _ _ _ => False := by unfold callN; rfl
theorem callM_eq0 {p : Pr} : callM p 0 = fun _ _ _ _ _ => False := by unfold callM; rfl
theorem callM_eq {p : Pr} {n : Nat} : callM p (n + 1) = callN p n := by unfold callM callN; rfl
theorem callN_eq {p : Pr} {n : Nat} : callN p (n + 1) = stepN p (callN p n) (callM p n) := by
  unfold callN callM
  rfl
theorem callN_zero {p : Pr} {f : Nat} {xs : List D} {st : Sto} {Q : KD} {X : KX} : ¬ callN p 0 f xs st Q X := fun h => by
  rw [callN_eq0] at h
  exact h
abbrev Pr.cl (p : Pr) (n : Nat) : Cl := { call := callN p n, G := p.G, X := p.X, sub := p.sub, KD := p.KD, mkc := callM p n, ms := p.ms, ini := p.ini, fds := p.fds }
theorem callN_succ {p : Pr} {n f : Nat} {xs : List D} {st : Sto} {Q : KD} {X : KX} : callN p (n + 1) f xs st Q X ↔ ∃ d, p.P[f]? = some d ∧ xs.length = d.a ∧ wSs d.b (p.cl n) { nx := fun _ st' => Q .non st', rt := Q } (fun c fs _ st' => X c fs st') (xs.map some ++ List.replicate (d.n - d.a) none) st := by
  rw [callN_eq]
  unfold stepN
  constructor
  · intro h
    split at h
    · rename_i d e
      exact ⟨d, e, h.1, h.2⟩
    · exact h.elim
  · rintro ⟨d, e, h1, h2⟩
    rw [e]
    exact ⟨h1, h2⟩
/-- a def runs -/
theorem callN_run {p : Pr} {n f : Nat} {d : Df} {xs : List D} {st : Sto} {Q : KD} {X : KX} (h : p.P[f]? = some d) (hl : xs.length = d.a) (hw : wSs d.b (p.cl n) { nx := fun _ st' => Q .non st', rt := Q } (fun c fs _ st' => X c fs st') (xs.map some ++ List.replicate (d.n - d.a) none) st) : callN p (n + 1) f xs st Q X :=
  callN_succ.mpr ⟨d, h, hl, hw⟩
/-- an instance is made: __init__ runs one level down -/
theorem callM_run {p : Pr} {n f : Nat} {d : Df} {xs : List D} {st : Sto} {Q : KD} {X : KX} (h : p.P[f]? = some d) (hl : xs.length = d.a) (hw : wSs d.b (p.cl n) { nx := fun _ st' => Q .non st', rt := Q } (fun c fs _ st' => X c fs st') (xs.map some ++ List.replicate (d.n - d.a) none) st) : callM p (n + 2) f xs st Q X := by
  rw [callM_eq]
  exact callN_run h hl hw
end Q3

set_option Elab.async false
set_option linter.all false
set_option maxRecDepth 100000
set_option maxHeartbeats 4000000
/-! Q3b: how values and the store lie in the abstract heap. -/
namespace Q3
open PySem PySem.Spec PyProof.Rows L2

section
variable (K : PySem.W.Frag) (ρ : List Addr) (H : Hp)
mutual
def Rep : D → V → Prop
  | .non, v => v = .non
  | .bl b, v => v = .bl b
  | .int i, v => v = .int i
  | .str x, v => v = .str x ∧ x.length ≤ Lm
  | .tup ds, v => ∃ a vs, v = .ref a ∧ SqT K H a vs ∧ Reps ds vs
  | .ref n, v => ∃ a, ρ[n]? = some a ∧ v = .ref a
def Reps : List D → List V → Prop
  | [], vs => vs = []
  | d :: ds, vs => ∃ v r, vs = v :: r ∧ Rep d v ∧ Reps ds r
end
/-- a list of the written part -/
def KLst (a : Addr) (xs : List V) : Prop :=
  ∃ (o : Obj) (its : Array Value) (n : Nat), K.lookup a = some o ∧ o.cls = .type "list" ∧ o.dict = none ∧ o.data = .seq its n ∧ its.size ≤ sizeLine ∧ Vals xs its.toList
def RepO : O → Addr → Prop
  | .lst ds, a => ∃ vs, H a = some (.lst vs) ∧ Reps K ρ H ds vs
  | .fls ds, a => ∃ vs, ((∃ o, H a = some (.frz o (.lst vs))) ∨ KLst K a vs) ∧ Reps K ρ H ds vs
  | .dK kvs, a => ∃ vs : List (Key × V), H a = some (.dK vs) ∧ vs.map (·.1) = kvs.map (·.1) ∧ Reps K ρ H (kvs.map (·.2)) (vs.map (·.2))
  | .dT kvs, a => ∃ vs : List (List Key × V), H a = some (.dT vs) ∧ vs.map (·.1) = kvs.map (·.1) ∧ Reps K ρ H (kvs.map (·.2)) (vs.map (·.2))
  | .ins c fs, a => ∃ (C dx : Addr) (vs : List (Str × V)), PySem.W.nsIn K mainGlobals (decS c) = some (some (.ref C)) ∧ H a = some (.ins C dx vs) ∧ vs.map (·.1) = fs.map (fun f => decS f.1) ∧ Reps K ρ H (fs.map (·.2)) (vs.map (·.2))
end
structure Ab (K : PySem.W.Frag) (ρ : List Addr) (st : Sto) (H : Hp) : Prop where
  len : ρ.length = st.length
  at_ : ∀ (n : Nat) o a, st[n]? = some o → ρ[n]? = some a → RepO K ρ H o a
  inj : ∀ (n m : Nat) a o o', ρ[n]? = some a → ρ[m]? = some a → st[n]? = some o → st[m]? = some o' → o.mu = true → o'.mu = true → n = m
/-- later: places stay, tuples and frozen things stay -/
structure Ex (ρ : List Addr) (H : Hp) (ρ' : List Addr) (H' : Hp) : Prop where
  pre : ∀ (n : Nat) a, ρ[n]? = some a → ρ'[n]? = some a
  tup : ∀ b xs, H b = some (.tup xs) → H' b = some (.tup xs)
  frz : ∀ b o u, H b = some (.frz o u) → H' b = some (.frz o u)
  xd : ∀ b fs, H b = some (.xd fs) → H' b = some (.xd fs)
structure Evn (K : PySem.W.Frag) (ρ : List Addr) (H : Hp) (en : En) (σ : L2.St) : Prop where
  len : en.length = σ.length
  at_ : ∀ (i : Nat) d, en[i]? = some (some d) → ∃ v, σ[i]? = some (some v) ∧ Rep K ρ H d v

variable {K : PySem.W.Frag} {ρ ρ' ρ'' : List Addr} {H H' H'' : Hp} {st : Sto} {en : En} {σ : L2.St}
theorem Ex.refl : Ex ρ H ρ H := ⟨fun _ _ h => h, fun _ _ h => h, fun _ _ _ h => h, fun _ _ h => h⟩
theorem Ex.trans (a : Ex ρ H ρ' H') (b : Ex ρ' H' ρ'' H'') : Ex ρ H ρ'' H'' :=
  ⟨fun n x h => b.pre n x (a.pre n x h), fun n x h => b.tup n x (a.tup n x h), fun n x y h => b.frz n x y (a.frz n x y h), fun n x h => b.xd n x (a.xd n x h)⟩
theorem Ex.sqT {a : Addr} {xs : List V} (e : Ex ρ H ρ' H') (h : SqT K H a xs) : SqT K H' a xs := by
  rcases h with (h | ⟨o, h⟩) | h
  · exact .inl (.inl (e.tup _ _ h))
  · exact .inl (.inr ⟨o, e.frz _ _ _ h⟩)
  · exact .inr h
mutual
theorem Rep.ext (e : Ex ρ H ρ' H') : ∀ (d : D) (v : V), Rep K ρ H d v → Rep K ρ' H' d v
  | .non, v, h => by unfold Rep at h ⊢; exact h
  | .bl b, v, h => by unfold Rep at h ⊢; exact h
  | .int i, v, h => by unfold Rep at h ⊢; exact h
  | .str x, v, h => by unfold Rep at h ⊢; exact h
  | .tup ds, v, h => by
    unfold Rep at h ⊢
    obtain ⟨a, vs, h1, h2, h3⟩ := h
    exact ⟨a, vs, h1, e.sqT h2, Reps.ext e ds vs h3⟩
  | .ref n, v, h => by
    unfold Rep at h ⊢
    obtain ⟨a, h1, h2⟩ := h
    exact ⟨a, e.pre _ _ h1, h2⟩
theorem Reps.ext (e : Ex ρ H ρ' H') : ∀ (ds : List D) (vs : List V), Reps K ρ H ds vs → Reps K ρ' H' ds vs
  | [], vs, h => by unfold Reps at h ⊢; exact h
  | d :: ds, vs, h => by
    unfold Reps at h ⊢
    obtain ⟨v, r, h1, h2, h3⟩ := h
    exact ⟨v, r, h1, Rep.ext e d v h2, Reps.ext e ds r h3⟩
end
theorem rep_non {v : V} : Rep K ρ H .non v ↔ v = .non := by rw [Rep]
theorem rep_bl {v : V} {b : Bool} : Rep K ρ H (.bl b) v ↔ v = .bl b := by rw [Rep]
theorem rep_int {v : V} {i : Int} : Rep K ρ H (.int i) v ↔ v = .int i := by rw [Rep]
theorem rep_str {v : V} {x : Str} : Rep K ρ H (.str x) v ↔ v = .str x ∧ x.length ≤ Lm := by rw [Rep]
theorem rep_tup {v : V} {ds : List D} : Rep K ρ H (.tup ds) v ↔ ∃ a vs, v = .ref a ∧ SqT K H a vs ∧ Reps K ρ H ds vs := by rw [Rep]
theorem rep_ref {v : V} {n : Nat} : Rep K ρ H (.ref n) v ↔ ∃ a, ρ[n]? = some a ∧ v = .ref a := by rw [Rep]
theorem reps_nil {vs : List V} : Reps K ρ H [] vs ↔ vs = [] := by rw [Reps]
theorem reps_cons {d : D} {ds : List D} {vs : List V} : Reps K ρ H (d :: ds) vs ↔ ∃ v r, vs = v :: r ∧ Rep K ρ H d v ∧ Reps K ρ H ds r := by rw [Reps]
theorem Reps.length : ∀ {ds : List D} {vs : List V}, Reps K ρ H ds vs → ds.length = vs.length
  | [], vs, h => by rw [reps_nil] at h; subst h; rfl
  | d :: ds, vs, h => by
    rw [reps_cons] at h
    obtain ⟨v, r, rfl, _, h3⟩ := h
    rw [List.length_cons, List.length_cons, Reps.length h3]
theorem Reps.append : ∀ {ds es : List D} {vs us : List V}, Reps K ρ H ds vs → Reps K ρ H es us → Reps K ρ H (ds ++ es) (vs ++ us)
  | [], _, vs, _, h, h' => by rw [reps_nil] at h; subst h; exact h'
  | d :: ds, _, vs, _, h, h' => by
    rw [reps_cons] at h
    obtain ⟨v, r, rfl, h2, h3⟩ := h
    exact reps_cons.mpr ⟨v, _, rfl, h2, Reps.append h3 h'⟩
theorem Reps.get : ∀ {ds : List D} {vs : List V} {i : Nat} {d : D}, Reps K ρ H ds vs → ds[i]? = some d → ∃ v, vs[i]? = some v ∧ Rep K ρ H d v
  | [], vs, i, d, h, e => by simp at e
  | x :: ds, vs, 0, d, h, e => by
    rw [reps_cons] at h
    obtain ⟨v, r, rfl, h2, h3⟩ := h
    simp at e; subst e
    exact ⟨v, rfl, h2⟩
  | x :: ds, vs, i + 1, d, h, e => by
    rw [reps_cons] at h
    obtain ⟨v, r, rfl, h2, h3⟩ := h
    exact Reps.get (i := i) h3 (by simpa using e)
theorem Reps.take : ∀ {ds : List D} {vs : List V} (n : Nat), Reps K ρ H ds vs → Reps K ρ H (ds.take n) (vs.take n)
  | _, _, 0, _ => reps_nil.mpr rfl
  | [], vs, n + 1, h => by rw [reps_nil] at h; subst h; exact reps_nil.mpr rfl
  | d :: ds, vs, n + 1, h => by
    rw [reps_cons] at h
    obtain ⟨v, r, rfl, h2, h3⟩ := h
    exact reps_cons.mpr ⟨v, _, rfl, h2, Reps.take n h3⟩
theorem Reps.drop : ∀ {ds : List D} {vs : List V} (n : Nat), Reps K ρ H ds vs → Reps K ρ H (ds.drop n) (vs.drop n)
  | _, _, 0, h => h
  | [], vs, n + 1, h => by rw [reps_nil] at h; subst h; exact reps_nil.mpr rfl
  | d :: ds, vs, n + 1, h => by
    rw [reps_cons] at h
    obtain ⟨v, r, rfl, h2, h3⟩ := h
    exact Reps.drop n h3
theorem Reps.set : ∀ {ds : List D} {vs : List V} (n : Nat) {d : D} {v : V}, Reps K ρ H ds vs → Rep K ρ H d v → Reps K ρ H (ds.set n d) (vs.set n v)
  | [], vs, n, _, _, h, _ => by rw [reps_nil] at h; subst h; exact reps_nil.mpr rfl
  | x :: ds, vs, 0, _, _, h, h' => by
    rw [reps_cons] at h
    obtain ⟨v, r, rfl, h2, h3⟩ := h
    exact reps_cons.mpr ⟨_, _, rfl, h', h3⟩
  | x :: ds, vs, n + 1, _, _, h, h' => by
    rw [reps_cons] at h
    obtain ⟨v, r, rfl, h2, h3⟩ := h
    exact reps_cons.mpr ⟨v, _, rfl, h2, Reps.set n h3 h'⟩
theorem Reps.reverse {ds : List D} {vs : List V} (h : Reps K ρ H ds vs) : Reps K ρ H ds.reverse vs.reverse := by
  have go : ∀ (ds : List D) (vs : List V), Reps K ρ H ds vs → Reps K ρ H ds.reverse vs.reverse := by
    intro ds
    induction ds with
    | nil => intro vs h; rw [reps_nil] at h; subst h; exact reps_nil.mpr rfl
    | cons d ds ih =>
      intro vs h
      rw [reps_cons] at h
      obtain ⟨v, r, rfl, h2, h3⟩ := h
      rw [List.reverse_cons, List.reverse_cons]
      exact (ih r h3).append (reps_cons.mpr ⟨v, [], rfl, h2, reps_nil.mpr rfl⟩)
  exact go ds vs h
theorem Reps.dropLast {ds : List D} {vs : List V} (h : Reps K ρ H ds vs) : Reps K ρ H ds.dropLast vs.dropLast := by
  rw [List.dropLast_eq_take, List.dropLast_eq_take, ← h.length]
  exact h.take _
theorem Reps.flat_rep {ds : List D} {vs : List V} (h : Reps K ρ H ds vs) : ∀ n, Reps K ρ H (List.replicate n ds).flatten (List.replicate n vs).flatten
  | 0 => reps_nil.mpr rfl
  | n + 1 => by
    rw [List.replicate_succ, List.replicate_succ, List.flatten_cons, List.flatten_cons]
    exact h.append (h.flat_rep n)

/-! ### the heap changes -/
theorem ex_new {p : Addr} {o : HO} (hp : H p = none) (as : List Addr) : Ex ρ H (ρ ++ as) (upd H p o) := by
  refine ⟨fun n a h => ?_, fun b xs h => ?_, fun b u x h => ?_, fun b fs h => ?_⟩
  · rw [List.getElem?_append_left]
    · exact h
    · exact (List.getElem?_eq_some_iff.mp h).1
  · rw [upd_ne (ne_of_none h hp)]; exact h
  · rw [upd_ne (ne_of_none h hp)]; exact h
  · rw [upd_ne (ne_of_none h hp)]; exact h
theorem ex_new0 {p : Addr} {o : HO} (hp : H p = none) : Ex ρ H ρ (upd H p o) := by
  have := ex_new (ρ := ρ) (o := o) hp []
  rwa [List.append_nil] at this
def wrH : HO → Bool
  | .lst _ => true
  | .dK _ => true
  | .dT _ => true
  | .ins _ _ _ => true
  | _ => false
theorem ex_wrO {p : Addr} {o u : HO} (hp : H p = some u) (hu : wrH u = true) : Ex ρ H ρ (upd H p o) := by
  refine ⟨fun n a h => h, fun b xs h => ?_, fun b v x h => ?_, fun b fs h => ?_⟩
  · rw [upd_ne (ne_of h hp (by rintro rfl; cases hu))]; exact h
  · rw [upd_ne (ne_of h hp (by rintro rfl; cases hu))]; exact h
  · rw [upd_ne (ne_of h hp (by rintro rfl; cases hu))]; exact h
theorem ex_wr {p : Addr} {o : HO} {xs : List V} (hp : H p = some (.lst xs)) : Ex ρ H ρ (upd H p o) := ex_wrO hp rfl
/-- an object that isn't written stays -/
theorem RepO.stay {o : O} {a p : Addr} {u : HO} (h : RepO K ρ H o a) (e : Ex ρ H ρ' (upd H p u)) (hne : o.mu = true → a ≠ p) : RepO K ρ' (upd H p u) o a := by
  cases o with
  | lst ds =>
    obtain ⟨vs, h1, h2⟩ := h
    exact ⟨vs, by rw [upd_ne (hne rfl)]; exact h1, h2.ext e⟩
  | fls ds =>
    obtain ⟨vs, h1, h2⟩ := h
    refine ⟨vs, ?_, h2.ext e⟩
    rcases h1 with ⟨o, h1⟩ | h1
    · exact .inl ⟨o, e.frz _ _ _ h1⟩
    · exact .inr h1
  | dK ds =>
    obtain ⟨vs, h1, h2, h3⟩ := h
    exact ⟨vs, by rw [upd_ne (hne rfl)]; exact h1, h2, h3.ext e⟩
  | dT ds =>
    obtain ⟨vs, h1, h2, h3⟩ := h
    exact ⟨vs, by rw [upd_ne (hne rfl)]; exact h1, h2, h3.ext e⟩
  | ins c fs =>
    obtain ⟨C, dx, vs, h0, h1, h2, h3⟩ := h
    exact ⟨C, dx, vs, h0, by rw [upd_ne (hne rfl)]; exact h1, h2, h3.ext e⟩
theorem RepO.some_of {o : O} {a : Addr} (h : RepO K ρ H o a) (m : o.mu = true) : ∃ u, H a = some u := by
  cases o with
  | lst ds => obtain ⟨vs, h1, _⟩ := h; exact ⟨_, h1⟩
  | fls ds => exact (Bool.false_ne_true m).elim
  | dK ds => obtain ⟨vs, h1, _⟩ := h; exact ⟨_, h1⟩
  | dT ds => obtain ⟨vs, h1, _⟩ := h; exact ⟨_, h1⟩
  | ins c fs => obtain ⟨C, dx, vs, _, h1, _⟩ := h; exact ⟨_, h1⟩
theorem Ab.get (A : Ab K ρ st H) {n : Nat} {o : O} (h : st[n]? = some o) : ∃ a, ρ[n]? = some a ∧ RepO K ρ H o a := by
  have hl : n < ρ.length := by rw [A.len]; exact (List.getElem?_eq_some_iff.mp h).1
  exact ⟨ρ[n], List.getElem?_eq_getElem hl, A.at_ n o _ h (List.getElem?_eq_getElem hl)⟩
/-- a heap that tracks one thing more which is no place -/
theorem Ab.track (A : Ab K ρ st H) {p : Addr} {u : HO} (hp : H p = none) : Ab K ρ st (upd H p u) :=
  ⟨A.len, fun n o a h1 h2 => (A.at_ n o a h1 h2).stay (ex_new0 hp) fun m => by
    obtain ⟨w, hw⟩ := (A.at_ n o a h1 h2).some_of m
    exact ne_of_none hw hp, A.inj⟩
/-- a new thing -/
theorem Ab.newO (A : Ab K ρ st H) {p : Addr} {u : HO} {o0 : O} (hp : H p = none) (r : RepO K (ρ ++ [p]) (upd H p u) o0 p) : Ab K (ρ ++ [p]) (st ++ [o0]) (upd H p u) := by
  have e : Ex ρ H (ρ ++ [p]) (upd H p u) := ex_new hp [p]
  have old : ∀ {n : Nat} {a : Addr} {o : O}, (st ++ [o0])[n]? = some o → (ρ ++ [p])[n]? = some a → (st[n]? = some o ∧ ρ[n]? = some a) ∨ (n = st.length ∧ o = o0 ∧ a = p) := by
    intro n a o h1 h2
    by_cases hn : n < st.length
    · rw [List.getElem?_append_left hn] at h1
      rw [List.getElem?_append_left (by rw [A.len]; exact hn)] at h2
      exact .inl ⟨h1, h2⟩
    · have hn' : n = st.length := by
        have := (List.getElem?_eq_some_iff.mp h1).1
        rw [List.length_append, List.length_singleton] at this
        omega
      subst hn'
      rw [List.getElem?_append_right (Nat.le_refl _), Nat.sub_self] at h1
      rw [List.getElem?_append_right (by rw [A.len]; exact Nat.le_refl _), A.len, Nat.sub_self] at h2
      simp at h1 h2
      exact .inr ⟨rfl, h1.symm, h2.symm⟩
  refine ⟨by rw [List.length_append, List.length_append, A.len]; rfl, fun n o a h1 h2 => ?_, fun n m a o o' h1 h2 h3 h4 m1 m2 => ?_⟩
  · rcases old h1 h2 with ⟨q1, q2⟩ | ⟨_, rfl, rfl⟩
    · exact (A.at_ n o a q1 q2).stay e fun m => by
        obtain ⟨w, hw⟩ := (A.at_ n o a q1 q2).some_of m
        exact ne_of_none hw hp
    · exact r
  · rcases old h3 h1 with ⟨q1, q2⟩ | ⟨e1, rfl, rfl⟩
    · rcases old h4 h2 with ⟨q3, q4⟩ | ⟨e2, rfl, rfl⟩
      · exact A.inj n m a o o' q2 q4 q1 q3 m1 m2
      · obtain ⟨w, hw⟩ := (A.at_ n o _ q1 q2).some_of m1
        rw [hp] at hw; cases hw
    · rcases old h4 h2 with ⟨q3, q4⟩ | ⟨e2, _, _⟩
      · obtain ⟨w, hw⟩ := (A.at_ m o' _ q3 q4).some_of m2
        rw [hp] at hw; cases hw
      · rw [e1, e2]
/-- a new list -/
theorem Ab.newL (A : Ab K ρ st H) {p : Addr} {vs : List V} {ds : List D} (hp : H p = none) (r : Reps K ρ H ds vs) : Ab K (ρ ++ [p]) (st ++ [.lst ds]) (upd H p (.lst vs)) :=
  A.newO hp ⟨vs, upd_same, r.ext (ex_new hp [p])⟩
/-- a thing written -/
theorem Ab.setO (A : Ab K ρ st H) {n : Nat} {p : Addr} {u u0 : HO} {o0 o1 : O} (hn : st[n]? = some o0) (m0 : o0.mu = true) (hr : ρ[n]? = some p) (hp : H p = some u0) (hu : wrH u0 = true) (r : RepO K ρ (upd H p u) o1 p) :
    Ab K ρ (st.set n o1) (upd H p u) := by
  have e : Ex ρ H ρ (upd H p u) := ex_wrO hp hu
  have hl : n < st.length := (List.getElem?_eq_some_iff.mp hn).1
  refine ⟨by rw [List.length_set]; exact A.len, fun m o a h1 h2 => ?_, fun m k a o o' h1 h2 h3 h4 m1 m2 => ?_⟩
  · by_cases hm : n = m
    · subst hm
      rw [List.getElem?_set_self hl] at h1
      rw [hr] at h2
      cases h1; cases h2
      exact r
    · rw [List.getElem?_set_ne hm] at h1
      refine (A.at_ m o a h1 h2).stay e fun mu z => ?_
      subst z
      exact hm (A.inj n m a _ o hr h2 hn h1 m0 mu)
  · have back : ∀ {j : Nat} {u : O}, (st.set n o1)[j]? = some u → u.mu = true → ∃ u', st[j]? = some u' ∧ u'.mu = true := by
      intro j u hj mu
      by_cases hm : n = j
      · subst hm; exact ⟨_, hn, m0⟩
      · rw [List.getElem?_set_ne hm] at hj; exact ⟨u, hj, mu⟩
    obtain ⟨u1, q1, n1⟩ := back h3 m1
    obtain ⟨u2, q2, n2⟩ := back h4 m2
    exact A.inj m k a u1 u2 h1 h2 q1 q2 n1 n2

/-- a list written -/
theorem Ab.setL (A : Ab K ρ st H) {n : Nat} {p : Addr} {vs us : List V} {ds ds0 : List D} (hn : st[n]? = some (.lst ds0)) (hr : ρ[n]? = some p) (hp : H p = some (.lst us)) (r : Reps K ρ H ds vs) :
    Ab K ρ (st.set n (.lst ds)) (upd H p (.lst vs)) := A.setO hn rfl hr hp rfl ⟨vs, upd_same, r.ext (ex_wr hp)⟩
/-! ### what is read -/
theorem Ab.lst (A : Ab K ρ st H) {n : Nat} {ds : List D} {v : V} (h : lstAt st n = some ds) (r : Rep K ρ H (.ref n) v) : ∃ a vs, v = .ref a ∧ ρ[n]? = some a ∧ SqL K H a vs ∧ Reps K ρ H ds vs := by
  obtain ⟨a, ha, rfl⟩ := rep_ref.mp r
  unfold lstAt at h
  cases q : st[n]? with
  | none => rw [q] at h; cases h
  | some o =>
    rw [q] at h
    obtain ⟨b, hb, ro⟩ := A.get q
    rw [ha] at hb; cases hb
    cases o with
    | lst xs => cases h; obtain ⟨vs, h1, h2⟩ := ro; exact ⟨a, vs, rfl, ha, .inl (.inl h1), h2⟩
    | fls xs =>
      cases h; obtain ⟨vs, h1, h2⟩ := ro
      refine ⟨a, vs, rfl, ha, ?_, h2⟩
      rcases h1 with ⟨o, h1⟩ | h1
      · exact .inl (.inr ⟨o, h1⟩)
      · exact .inr h1
    | _ => cases h
theorem Ab.mlst (A : Ab K ρ st H) {n : Nat} {ds : List D} {v : V} (h : st[n]? = some (.lst ds)) (r : Rep K ρ H (.ref n) v) : ∃ a vs, v = .ref a ∧ ρ[n]? = some a ∧ H a = some (.lst vs) ∧ Reps K ρ H ds vs := by
  obtain ⟨a, ha, rfl⟩ := rep_ref.mp r
  obtain ⟨b, hb, ro⟩ := A.get h
  rw [ha] at hb; cases hb
  obtain ⟨vs, h1, h2⟩ := ro
  exact ⟨a, vs, rfl, ha, h1, h2⟩
theorem Ab.seq (A : Ab K ρ st H) {d : D} {ds : List D} {v : V} (h : seqOf st d = some ds) (r : Rep K ρ H d v) : ∃ a vs, v = .ref a ∧ (SqL K H a vs ∨ SqT K H a vs) ∧ Reps K ρ H ds vs := by
  cases d with
  | tup xs => cases h; obtain ⟨a, vs, h1, h2, h3⟩ := rep_tup.mp r; exact ⟨a, vs, h1, .inr h2, h3⟩
  | ref n => obtain ⟨a, vs, h1, _, h2, h3⟩ := A.lst h r; exact ⟨a, vs, h1, .inl h2, h3⟩
  | _ => cases h
theorem Ab.tru (A : Ab K ρ st H) {d : D} {v : V} {t : Bool} (h : tru st d = some t) (r : Rep K ρ H d v) : TruV K v H t := by
  cases d with
  | non => cases rep_non.mp r; cases h; rfl
  | bl b => cases rep_bl.mp r; cases h; rfl
  | int i => cases rep_int.mp r; cases h; rfl
  | str x =>
    obtain ⟨rfl, hx⟩ := rep_str.mp r
    cases h
    exact ⟨by rw [sizeLine_eq]; exact hx, rfl⟩
  | tup xs =>
    cases h
    obtain ⟨a, vs, rfl, h2, h3⟩ := rep_tup.mp r
    refine .inr (.inl ⟨vs, h2, ?_⟩)
    cases xs with
    | nil => rw [reps_nil] at h3; subst h3; rfl
    | cons x xs => rw [reps_cons] at h3; obtain ⟨_, _, rfl, _⟩ := h3; rfl
  | ref n =>
    have h' : (lstAt st n).map (fun xs => !xs.isEmpty) = some t := h
    cases q : lstAt st n with
    | none => rw [q] at h'; cases h'
    | some xs =>
      rw [q] at h'
      cases h'
      obtain ⟨a, vs, rfl, _, h2, h3⟩ := A.lst q r
      refine .inl ⟨vs, h2, ?_⟩
      cases xs with
      | nil => rw [reps_nil] at h3; subst h3; rfl
      | cons x xs => rw [reps_cons] at h3; obtain ⟨_, _, rfl, _⟩ := h3; rfl

/-! ### dicts -/
section
variable {κ : Type} [DecidableEq κ]
def KvR (K : PySem.W.Frag) (ρ : List Addr) (H : Hp) (kvs : List (κ × D)) (vs : List (κ × V)) : Prop := vs.map (·.1) = kvs.map (·.1) ∧ Reps K ρ H (kvs.map (·.2)) (vs.map (·.2))
theorem KvR.nil : KvR K ρ H ([] : List (κ × D)) [] := ⟨rfl, reps_nil.mpr rfl⟩
theorem KvR.cons {k : κ} {d : D} {kvs : List (κ × D)} {v : V} {vs : List (κ × V)} (r : Rep K ρ H d v) (h : KvR K ρ H kvs vs) : KvR K ρ H ((k, d) :: kvs) ((k, v) :: vs) :=
  ⟨by rw [List.map_cons, List.map_cons, h.1], by rw [List.map_cons, List.map_cons]; exact reps_cons.mpr ⟨v, _, rfl, r, h.2⟩⟩
theorem KvR.cases {k : κ} {d : D} {kvs : List (κ × D)} {vs : List (κ × V)} (h : KvR K ρ H ((k, d) :: kvs) vs) : ∃ v us, vs = (k, v) :: us ∧ Rep K ρ H d v ∧ KvR K ρ H kvs us := by
  obtain ⟨h1, h2⟩ := h
  cases vs with
  | nil => cases h1
  | cons p us =>
    obtain ⟨k', v⟩ := p
    rw [List.map_cons, List.map_cons] at h1
    injection h1 with e1 e2
    have e1' : k' = k := e1
    subst e1'
    rw [List.map_cons, List.map_cons, reps_cons] at h2
    obtain ⟨v', r', e3, r1, r2⟩ := h2
    injection e3 with e4 e5
    have e4' : v = v' := e4
    subst e4'
    subst e5
    exact ⟨v, us, rfl, r1, e2, r2⟩
theorem KvR.nil_inv {vs : List (κ × V)} (h : KvR K ρ H ([] : List (κ × D)) vs) : vs = [] := by
  obtain ⟨h1, _⟩ := h
  cases vs with
  | nil => rfl
  | cons _ _ => cases h1
theorem KvR.length {kvs : List (κ × D)} {vs : List (κ × V)} (h : KvR K ρ H kvs vs) : kvs.length = vs.length := by
  have := congrArg List.length h.1
  simpa using this.symm
theorem KvR.ext {kvs : List (κ × D)} {vs : List (κ × V)} (h : KvR K ρ H kvs vs) (e : Ex ρ H ρ' H') : KvR K ρ' H' kvs vs := ⟨h.1, h.2.ext e⟩
theorem KvR.get (k : κ) : ∀ {kvs : List (κ × D)} {vs : List (κ × V)}, KvR K ρ H kvs vs → (dGet kvs k = none ∧ valV vs k = none) ∨ ∃ d v, dGet kvs k = some d ∧ valV vs k = some v ∧ Rep K ρ H d v
  | [], vs, h => by cases h.nil_inv; exact .inl ⟨rfl, rfl⟩
  | (j, d) :: kvs, vs, h => by
    obtain ⟨v, us, rfl, r, h'⟩ := h.cases
    by_cases e : j = k
    · exact .inr ⟨d, v, by simp [dGet, List.find?_cons, e], valV_pos e, r⟩
    · have e1 : dGet ((j, d) :: kvs) k = dGet kvs k := by simp [dGet, List.find?_cons, e]
      rw [e1, valV_neg e]
      exact KvR.get k h'
theorem KvR.map_put (k : κ) {d : D} {v : V} (r : Rep K ρ H d v) : ∀ {kvs : List (κ × D)} {vs : List (κ × V)}, KvR K ρ H kvs vs → KvR K ρ H (kvs.map fun kv => if kv.1 = k then (kv.1, d) else kv) (vs.map fun kv => if kv.1 = k then (kv.1, v) else kv)
  | [], vs, h => by cases h.nil_inv; exact .nil
  | (j, d0) :: kvs, vs, h => by
    obtain ⟨v0, us, rfl, r0, h'⟩ := h.cases
    have ih := KvR.map_put k r h'
    rw [List.map_cons, List.map_cons]
    by_cases e : j = k
    · rw [if_pos e, if_pos e]; exact .cons r ih
    · rw [if_neg e, if_neg e]; exact .cons r0 ih
theorem KvR.snoc {k : κ} {d : D} {v : V} (r : Rep K ρ H d v) {kvs : List (κ × D)} {vs : List (κ × V)} (h : KvR K ρ H kvs vs) : KvR K ρ H (kvs ++ [(k, d)]) (vs ++ [(k, v)]) :=
  ⟨by rw [List.map_append, List.map_append, h.1]; rfl, by rw [List.map_append, List.map_append]; exact h.2.append (reps_cons.mpr ⟨v, [], rfl, r, reps_nil.mpr rfl⟩)⟩
theorem KvR.any (k : κ) : ∀ {kvs : List (κ × D)} {vs : List (κ × V)}, KvR K ρ H kvs vs → (kvs.any fun kv => decide (kv.1 = k)) = (vs.any fun kv => decide (kv.1 = k))
  | [], vs, h => by cases h.nil_inv; rfl
  | (j, d0) :: kvs, vs, h => by
    obtain ⟨v0, us, rfl, r0, h'⟩ := h.cases
    rw [List.any_cons, List.any_cons, KvR.any k h']
theorem KvR.put (k : κ) {d : D} {v : V} (r : Rep K ρ H d v) {kvs : List (κ × D)} {vs : List (κ × V)} (h : KvR K ρ H kvs vs) : KvR K ρ H (dPut kvs k d) (putK vs k v) := by
  unfold dPut putK
  rw [h.any k]
  split
  · exact h.map_put k r
  · exact h.snoc r
end
theorem key_rep {y : D} {k : Key} {u : V} (h : keyOf y = some k) (r : Rep K ρ H y u) : u = kV k := by
  cases y with
  | int i => cases h; exact rep_int.mp r
  | str x => cases h; exact (rep_str.mp r).1
  | _ => cases h
theorem keys_rep : ∀ {ks : List D} {k : List Key} {us : List V}, keysOf ks = some k → Reps K ρ H ks us → us = k.map kV
  | [], k, us, h, r => by cases h; exact reps_nil.mp r
  | d :: ds, k, us, h, r => by
    unfold keysOf at h
    split at h
    · rename_i k0 ks0 e1 e2
      cases h
      obtain ⟨v, r', rfl, r1, r2⟩ := reps_cons.mp r
      rw [key_rep e1 r1, keys_rep e2 r2]; rfl
    · cases h
theorem Ab.dK (A : Ab K ρ st H) {n : Nat} {kvs : List (Key × D)} {v : V} (h : st[n]? = some (.dK kvs)) (r : Rep K ρ H (.ref n) v) : ∃ a vs, v = .ref a ∧ ρ[n]? = some a ∧ H a = some (.dK vs) ∧ KvR K ρ H kvs vs := by
  obtain ⟨a, ha, rfl⟩ := rep_ref.mp r
  obtain ⟨b, hb, ro⟩ := A.get h
  rw [ha] at hb; cases hb
  obtain ⟨vs, h1, h2, h3⟩ := ro
  exact ⟨a, vs, rfl, ha, h1, h2, h3⟩
theorem Ab.dT (A : Ab K ρ st H) {n : Nat} {kvs : List (List Key × D)} {v : V} (h : st[n]? = some (.dT kvs)) (r : Rep K ρ H (.ref n) v) : ∃ a vs, v = .ref a ∧ ρ[n]? = some a ∧ H a = some (.dT vs) ∧ KvR K ρ H kvs vs := by
  obtain ⟨a, ha, rfl⟩ := rep_ref.mp r
  obtain ⟨b, hb, ro⟩ := A.get h
  rw [ha] at hb; cases hb
  obtain ⟨vs, h1, h2, h3⟩ := ro
  exact ⟨a, vs, rfl, ha, h1, h2, h3⟩
/-! ### instances -/
def valL : List Nat → Nat
  | [] => 0
  | c :: r => c + 128 * valL r
theorem val_dec : ∀ (a n : Nat), n ≤ a → valL (decL a n) = n
  | 0, n, h => by
    have : n = 0 := by omega
    subst this; rfl
  | a + 1, n, h => by
    unfold decL
    by_cases e : n = 0
    · rw [if_pos e, e]; rfl
    · rw [if_neg e]
      show n % 128 + 128 * valL (decL a (n / 128)) = n
      rw [val_dec a (n / 128) (by omega)]
      omega
theorem decS_inj {m n : Nat} (h : decS m = decS n) : m = n := by
  have h1 : (decL m m).toArray = (decL n n).toArray := congrArg Str.cps h
  have h2 : decL m m = decL n n := by simpa using h1
  rw [← val_dec m m (Nat.le_refl _), ← val_dec n n (Nat.le_refl _), h2]
def FdR (K : PySem.W.Frag) (ρ : List Addr) (H : Hp) (fs : List (Nat × D)) (vs : List (Str × V)) : Prop := vs.map (·.1) = fs.map (fun f => decS f.1) ∧ Reps K ρ H (fs.map (·.2)) (vs.map (·.2))
theorem FdR.cases {f : Nat} {d : D} {fs : List (Nat × D)} {vs : List (Str × V)} (h : FdR K ρ H ((f, d) :: fs) vs) : ∃ v us, vs = (decS f, v) :: us ∧ Rep K ρ H d v ∧ FdR K ρ H fs us := by
  obtain ⟨h1, h2⟩ := h
  cases vs with
  | nil => cases h1
  | cons p us =>
    obtain ⟨k, v⟩ := p
    rw [List.map_cons, List.map_cons] at h1
    injection h1 with e1 e2
    have e1' : k = decS f := e1
    subst e1'
    rw [List.map_cons, List.map_cons, reps_cons] at h2
    obtain ⟨v', r', e3, r1, r2⟩ := h2
    injection e3 with e4 e5
    have e4' : v = v' := e4
    subst e4'
    subst e5
    exact ⟨v, us, rfl, r1, e2, r2⟩
theorem FdR.nil_inv {vs : List (Str × V)} (h : FdR K ρ H [] vs) : vs = [] := by
  obtain ⟨h1, _⟩ := h
  cases vs with
  | nil => rfl
  | cons _ _ => cases h1
theorem FdR.cons {f : Nat} {d : D} {fs : List (Nat × D)} {v : V} {vs : List (Str × V)} (r : Rep K ρ H d v) (h : FdR K ρ H fs vs) : FdR K ρ H ((f, d) :: fs) ((decS f, v) :: vs) :=
  ⟨by rw [List.map_cons, List.map_cons, h.1], by rw [List.map_cons, List.map_cons]; exact reps_cons.mpr ⟨v, _, rfl, r, h.2⟩⟩
theorem FdR.length {fs : List (Nat × D)} {vs : List (Str × V)} (h : FdR K ρ H fs vs) : fs.length = vs.length := by
  have := congrArg List.length h.1
  simpa using this.symm
theorem FdR.get (f : Nat) : ∀ {fs : List (Nat × D)} {vs : List (Str × V)}, FdR K ρ H fs vs → (fs.lookup f = none ∧ vs.lookup (decS f) = none) ∨ ∃ d v, fs.lookup f = some d ∧ vs.lookup (decS f) = some v ∧ Rep K ρ H d v
  | [], vs, h => by cases h.nil_inv; exact .inl ⟨rfl, rfl⟩
  | (g, d) :: fs, vs, h => by
    obtain ⟨v, us, rfl, r, h'⟩ := h.cases
    rw [List.lookup_cons, List.lookup_cons]
    by_cases e : f = g
    · subst e
      rw [beq_self_eq_true, beq_self_eq_true]
      exact .inr ⟨d, v, rfl, rfl, r⟩
    · have e1 : (f == g) = false := by simpa using e
      have e2 : (decS f == decS g) = false := by
        have : decS f ≠ decS g := fun z => e (decS_inj z)
        simpa using this
      rw [e1, e2]
      exact FdR.get f h'
theorem FdR.put (f : Nat) {d : D} {v : V} (r : Rep K ρ H d v) : ∀ {fs : List (Nat × D)} {vs : List (Str × V)}, FdR K ρ H fs vs → FdR K ρ H (fPut f d fs) (putF (decS f) v vs)
  | [], vs, h => by cases h.nil_inv; exact .cons r ⟨rfl, reps_nil.mpr rfl⟩
  | (g, d0) :: fs, vs, h => by
    obtain ⟨v0, us, rfl, r0, h'⟩ := h.cases
    unfold fPut putF
    by_cases e : g = f
    · subst e
      rw [if_pos rfl, if_pos rfl]
      exact .cons r h'
    · rw [if_neg e, if_neg (fun z => e (decS_inj z))]
      exact .cons r0 (FdR.put f r h')
theorem FdR.ext {fs : List (Nat × D)} {vs : List (Str × V)} (h : FdR K ρ H fs vs) (e : Ex ρ H ρ' H') : FdR K ρ' H' fs vs := ⟨h.1, h.2.ext e⟩
theorem Ab.ins (A : Ab K ρ st H) {n c : Nat} {fs : List (Nat × D)} {v : V} (h : st[n]? = some (.ins c fs)) (r : Rep K ρ H (.ref n) v) : ∃ a C dx vs, v = .ref a ∧ ρ[n]? = some a ∧ PySem.W.nsIn K mainGlobals (decS c) = some (some (.ref C)) ∧ H a = some (.ins C dx vs) ∧ FdR K ρ H fs vs := by
  obtain ⟨a, ha, rfl⟩ := rep_ref.mp r
  obtain ⟨b, hb, ro⟩ := A.get h
  rw [ha] at hb; cases hb
  obtain ⟨C, dx, vs, h0, h1, h2, h3⟩ := ro
  exact ⟨a, C, dx, vs, rfl, ha, h0, h1, h2, h3⟩
theorem Ab.insAt (A : Ab K ρ st H) {d : D} {c : Nat} {fs : List (Nat × D)} {v : V} (h : insAt st d = some (c, fs)) (r : Rep K ρ H d v) : ∃ n a C dx vs, d = .ref n ∧ st[n]? = some (.ins c fs) ∧ v = .ref a ∧ ρ[n]? = some a ∧ PySem.W.nsIn K mainGlobals (decS c) = some (some (.ref C)) ∧ H a = some (.ins C dx vs) ∧ FdR K ρ H fs vs := by
  cases d with
  | ref n =>
    have h' : (match st[n]? with
      | some (.ins c fs) => some (c, fs)
      | _ => none) = some (c, fs) := h
    split at h'
    · rename_i c' fs' e
      cases h'
      obtain ⟨a, C, dx, vs, z⟩ := A.ins e r
      exact ⟨n, a, C, dx, vs, rfl, e, z⟩
    · cases h'
  | _ => cases h
/-- a new instance and its dict -/
theorem Ab.newI (A : Ab K ρ st H) {p dx C : Addr} {c : Nat} (hp : H p = none) (hd : H dx = none) (hne : dx ≠ p) (hC : PySem.W.nsIn K mainGlobals (decS c) = some (some (.ref C))) :
    Ab K (ρ ++ [p]) (st ++ [.ins c []]) (upd (upd H dx (.own p)) p (.ins C dx [])) ∧ Ex ρ H (ρ ++ [p]) (upd (upd H dx (.own p)) p (.ins C dx [])) := by
  have hp' : upd H dx (.own p) p = none := by rw [upd_ne (Ne.symm hne)]; exact hp
  have A1 := A.track (u := .own p) hd
  exact ⟨A1.newO hp' ⟨C, dx, [], hC, upd_same, rfl, reps_nil.mpr rfl⟩, (ex_new0 hd).trans (ex_new hp' [p])⟩
/-! ### slots -/
theorem Evn.ext (E : Evn K ρ H en σ) (e : Ex ρ H ρ' H') : Evn K ρ' H' en σ := ⟨E.len, fun i d h => by
  obtain ⟨v, h1, h2⟩ := E.at_ i d h
  exact ⟨v, h1, h2.ext e⟩⟩
theorem Evn.set (E : Evn K ρ H en σ) (i : Nat) {d : D} {v : V} (r : Rep K ρ H d v) : Evn K ρ H (en.set i (some d)) (σ.set i (some v)) := by
  refine ⟨by rw [List.length_set, List.length_set]; exact E.len, fun j e h => ?_⟩
  by_cases hj : i = j
  · subst hj
    have hl : i < en.length := by
      have := (List.getElem?_eq_some_iff.mp h).1
      rwa [List.length_set] at this
    rw [List.getElem?_set_self hl] at h
    cases h
    exact ⟨v, by rw [List.getElem?_set_self (by rw [← E.len]; exact hl)], r⟩
  · rw [List.getElem?_set_ne hj] at h ⊢
    exact E.at_ j e h
theorem wipe_at {σ : L2.St} {i : Nat} : ∀ {vs : List Nat}, i ∉ vs → (wipe σ vs)[i]? = σ[i]?
  | [], _ => rfl
  | v :: vs, h => by
    rw [List.mem_cons, not_or] at h
    unfold wipe
    rw [List.getElem?_set_ne (fun e => h.1 e.symm)]
    exact wipe_at h.2
theorem wipeE_some {en : En} {i : Nat} {x : D} : ∀ {vs : List Nat}, (wipeE en vs)[i]? = some (some x) → en[i]? = some (some x) ∧ i ∉ vs
  | [], h => ⟨h, by simp⟩
  | v :: vs, h => by
    unfold wipeE at h
    by_cases hi : v = i
    · subst hi
      by_cases hv : v < (wipeE en vs).length
      · rw [List.getElem?_set_self hv] at h; cases h
      · rw [List.getElem?_eq_none (by simpa using hv)] at h; cases h
    · rw [List.getElem?_set_ne hi] at h
      obtain ⟨h1, h2⟩ := wipeE_some h
      exact ⟨h1, by simp only [List.mem_cons, not_or]; exact ⟨fun e => hi e.symm, h2⟩⟩
theorem wipeE_length (en : En) : ∀ vs : List Nat, (wipeE en vs).length = en.length
  | [] => rfl
  | v :: vs => by unfold wipeE; rw [List.length_set, wipeE_length en vs]
theorem Evn.wipe (E : Evn K ρ H en σ) (vs : List Nat) : Evn K ρ H (wipeE en vs) (L2.wipe σ vs) := by
  refine ⟨by rw [wipeE_length, wipe_length]; exact E.len, fun i d h => ?_⟩
  obtain ⟨h1, h2⟩ := wipeE_some h
  obtain ⟨v, q1, q2⟩ := E.at_ i d h1
  exact ⟨v, by rw [wipe_at h2]; exact q1, q2⟩
/-- fields, by name -/
def RepF (K : PySem.W.Frag) (ρ : List Addr) (H : Hp) (fs : List (Str × D)) (vs : List (Str × V)) : Prop := ∀ f d, fs.lookup f = some d → ∃ v, vs.lookup f = some v ∧ Rep K ρ H d v
theorem RepF.ext {fs : List (Str × D)} {vs : List (Str × V)} (h : RepF K ρ H fs vs) (e : Ex ρ H ρ' H') : RepF K ρ' H' fs vs := fun f d q => by
  obtain ⟨v, h1, h2⟩ := h f d q
  exact ⟨v, h1, h2.ext e⟩
end Q3

set_option Elab.async false
set_option linter.all false
set_option maxRecDepth 100000
set_option maxHeartbeats 4000000
/-! Q3c: operators by values. -/
namespace Q3
open PySem PySem.Spec PyProof.Rows L2

def Out (K : PySem.W.Frag) (ρ : List Addr) (H : Hp) (Q' : KD) (Q : VK) : Prop := ∀ d st' v H' ρ', Ab K ρ' st' H' → Ex ρ H ρ' H' → Rep K ρ' H' d v → Q' d st' → Q v H'
section
variable {K : PySem.W.Frag} {ρ : List Addr} {H : Hp} {st : Sto} {Q' : KD} {Q : VK}
theorem Out.keep (O : Out K ρ H Q' Q) (A : Ab K ρ st H) {d : D} {v : V} (r : Rep K ρ H d v) (h : Q' d st) : Q v H := O d st v H ρ A Ex.refl r h
theorem Out.newL (O : Out K ρ H Q' Q) (A : Ab K ρ st H) {ds : List D} {vs : List V} (r : Reps K ρ H ds vs) (h : Q' (.ref st.length) (st ++ [.lst ds])) : ∀ p, H p = none → Q (.ref p) (upd H p (.lst vs)) := fun p hp =>
  O _ _ _ _ _ (A.newL hp r) (ex_new hp [p]) (rep_ref.mpr ⟨p, by rw [← A.len, List.getElem?_append_right (Nat.le_refl _), Nat.sub_self]; rfl, rfl⟩) h
theorem Out.newT (O : Out K ρ H Q' Q) (A : Ab K ρ st H) {ds : List D} {vs : List V} (r : Reps K ρ H ds vs) (h : Q' (.tup ds) st) : ∀ p, H p = none → Q (.ref p) (upd H p (.tup vs)) := fun p hp => by
  have e : Ex ρ H ρ (upd H p (.tup vs)) := ex_new0 hp
  exact O _ _ _ _ _ (A.track hp) e (rep_tup.mpr ⟨p, vs, rfl, .inl (.inl upd_same), r.ext e⟩) h
theorem Out.setL (O : Out K ρ H Q' Q) (A : Ab K ρ st H) {n : Nat} {p : Addr} {vs us : List V} {ds ds0 : List D} {d : D} {v : V} (hn : st[n]? = some (.lst ds0)) (hr : ρ[n]? = some p) (hp : H p = some (.lst us)) (r : Reps K ρ H ds vs)
    (rv : Rep K ρ H d v) (h : Q' d (st.set n (.lst ds))) : Q v (upd H p (.lst vs)) := by
  have e : Ex ρ H ρ (upd H p (.lst vs)) := ex_wr hp
  exact O _ _ _ _ _ (A.setL hn hr hp r) e (rv.ext e) h
theorem Lm_line {n : Nat} (h : n ≤ Lm) : n ≤ sizeLine := by rw [sizeLine_eq]; exact h
theorem Lm_lt {n : Nat} (h : n < Lm) : n < sizeLine := by rw [sizeLine_eq]; exact h
end

/-! ### plain data -/
section
variable {K : PySem.W.Frag} {ρ : List Addr} {H : Hp} {st : Sto}
theorem mapM_dp {f : D → Option PyData} : ∀ {xs : List D} {vs : List V} {ps : List PyData}, (∀ x v p, f x = some p → Rep K ρ H x v → Dp K H v p) → xs.mapM f = some ps → Reps K ρ H xs vs → DpAll K H vs ps
  | [], vs, ps, _, h, r => by
    rw [reps_nil] at r; subst r
    have e : ps = [] := by simpa using h.symm
    subst e
    exact .nil
  | x :: xs, vs, ps, hf, h, r => by
    rw [reps_cons] at r
    obtain ⟨v, r', rfl, h2, h3⟩ := r
    rw [List.mapM_cons] at h
    cases q : f x with
    | none => rw [q] at h; cases h
    | some p =>
      rw [q] at h
      cases q' : xs.mapM f with
      | none => rw [q'] at h; cases h
      | some qs =>
        rw [q'] at h
        have e : p :: qs = ps := Option.some.inj h
        subst e
        exact .cons (hf x v p q h2) (mapM_dp hf q' h3)
theorem toP_dp (A : Ab K ρ st H) : ∀ (n : Nat) (d : D) (v : V) (p : PyData), toP n st d = some p → Rep K ρ H d v → Dp K H v p
  | 0, _, _, _, h, _ => by cases h
  | n + 1, d, v, p, h, r => by
    cases d with
    | non => cases h; cases rep_non.mp r; exact .non
    | bl b => cases h; cases rep_bl.mp r; exact .bl b
    | int i => cases h; cases rep_int.mp r; exact .int i
    | str x => cases h; obtain ⟨rfl, _⟩ := rep_str.mp r; exact .str x
    | tup xs =>
      have h' : (xs.mapM (toP n st)).map PyData.tuple = some p := h
      obtain ⟨a, vs, rfl, h2, h3⟩ := rep_tup.mp r
      cases q : xs.mapM (toP n st) with
      | none => rw [q] at h'; cases h'
      | some ps =>
        rw [q] at h'
        cases h'
        exact .tup h2 (mapM_dp (fun x v p => toP_dp A n x v p) q h3)
    | ref k =>
      have h' : (match lstAt st k with
        | some xs => (xs.mapM (toP n st)).map PyData.list
        | none => none) = some p := h
      cases q0 : lstAt st k with
      | none => rw [q0] at h'; cases h'
      | some xs =>
        rw [q0] at h'
        obtain ⟨a, vs, rfl, _, h2, h3⟩ := A.lst q0 r
        have h'' : (xs.mapM (toP n st)).map PyData.list = some p := h'
        cases q : xs.mapM (toP n st) with
        | none => rw [q] at h''; cases h''
        | some ps =>
          rw [q] at h''
          cases h''
          exact .lst h2 (mapM_dp (fun x v p => toP_dp A n x v p) q h3)
theorem flat_of {d : D} {v : V} (h : flat d = true) (r : Rep K ρ H d v) : flatV v = true := by
  cases d with
  | non => cases rep_non.mp r; rfl
  | bl b => cases rep_bl.mp r; rfl
  | int i => cases rep_int.mp r; rfl
  | str x => obtain ⟨rfl, _⟩ := rep_str.mp r; rfl
  | _ => cases h
theorem flats_of : ∀ {ds : List D} {vs : List V}, ds.all flat = true → Reps K ρ H ds vs → vs.all flatV = true
  | [], vs, _, r => by rw [reps_nil] at r; subst r; rfl
  | d :: ds, vs, h, r => by
    rw [reps_cons] at r
    obtain ⟨v, r', rfl, h2, h3⟩ := r
    rw [List.all_cons, Bool.and_eq_true] at h ⊢
    exact ⟨flat_of h.1 h2, flats_of h.2 h3⟩
theorem eqF_of {d e : D} {v u : V} (h1 : flat d = true) (h2 : flat e = true) (r1 : Rep K ρ H d v) (r2 : Rep K ρ H e u) : eqV v u = eqF d e := by
  cases d with
  | non => cases rep_non.mp r1; cases e with
    | non => cases rep_non.mp r2; rfl
    | bl b => cases rep_bl.mp r2; rfl
    | int i => cases rep_int.mp r2; rfl
    | str x => obtain ⟨rfl, _⟩ := rep_str.mp r2; rfl
    | _ => cases h2
  | bl b => cases rep_bl.mp r1; cases e with
    | non => cases rep_non.mp r2; rfl
    | bl b => cases rep_bl.mp r2; rfl
    | int i => cases rep_int.mp r2; rfl
    | str x => obtain ⟨rfl, _⟩ := rep_str.mp r2; rfl
    | _ => cases h2
  | int i => cases rep_int.mp r1; cases e with
    | non => cases rep_non.mp r2; rfl
    | bl b => cases rep_bl.mp r2; rfl
    | int i => cases rep_int.mp r2; rfl
    | str x => obtain ⟨rfl, _⟩ := rep_str.mp r2; rfl
    | _ => cases h2
  | str x => obtain ⟨rfl, _⟩ := rep_str.mp r1; cases e with
    | non => cases rep_non.mp r2; rfl
    | bl b => cases rep_bl.mp r2; rfl
    | int i => cases rep_int.mp r2; rfl
    | str x => obtain ⟨rfl, _⟩ := rep_str.mp r2; rfl
    | _ => cases h2
  | _ => cases h1
theorem anyF_of {e : D} {u : V} (h2 : flat e = true) (r2 : Rep K ρ H e u) : ∀ {ds : List D} {vs : List V}, ds.all flat = true → Reps K ρ H ds vs → inV u vs = ds.any fun z => eqF z e
  | [], vs, _, r => by rw [reps_nil] at r; subst r; rfl
  | d :: ds, vs, h, r => by
    rw [reps_cons] at r
    obtain ⟨v, r', rfl, h3, h4⟩ := r
    rw [List.all_cons, Bool.and_eq_true] at h
    show (eqV v u || inV u r') = (eqF d e || ds.any fun z => eqF z e)
    rw [eqF_of h.1 h2 h3 r2, anyF_of h2 r2 h.2 h4]
end

/-! ### the operators -/
def Op.py : Op → Operator
  | .add => .Add | .sub => .Sub | .mul => .Mult | .fdiv => .FloorDiv | .mod => .Mod | .pow => .Pow
def Cm.py : Cm → CmpOp
  | .lt => .Lt | .le => .LtE | .gt => .Gt | .ge => .GtE | .eq => .Eq | .ne => .NotEq | .isin => .In | .notin => .NotIn | .isn => .Is | .isnt => .IsNot
def rBinD (K : PySem.W.Frag) (o : Op) : R2 := fun x y H Q => ∃ ρ st d e Q', Ab K ρ st H ∧ Rep K ρ H d x ∧ Rep K ρ H e y ∧ wBin o d e st Q' ∧ Out K ρ H Q' Q
section
variable {X : Cx}
theorem op_catL : OpR X (binaryOp .Add) (fun x y H Q => ∃ a b xs ys, x = V.ref a ∧ y = V.ref b ∧ SqL X.K H a xs ∧ SqL X.K H b ys ∧ xs.length + ys.length ≤ sizeLine ∧ ∀ p, H p = none → Q (.ref p) (upd H p (.lst (xs ++ ys)))) := by
  intro pins s σ H x y v u Q I rx ry h
  obtain ⟨a, b, xs, ys, rfl, rfl, ha, hb, hz, q⟩ := h
  obtain rfl : v = Value.ref a := rx
  obtain rfl : u = Value.ref b := ry
  obtain ⟨its, rv, ⟨⟨cls, dd, data, sl⟩, n, ho, hc, hdn, hd⟩, hlen⟩ := I.list ha
  obtain ⟨its2, rv2, ⟨⟨cls2, dd2, data2, sl2⟩, n2, ho2, hc2, hdn2, hd2⟩, hlen2⟩ := I.list hb
  have hc1 : cls = Value.type "list" := hc
  have hd1 : data = Data.seq its.toArray n := hd
  have hc3 : cls2 = Value.type "list" := hc2
  have hd3 : data2 = Data.seq its2.toArray n2 := hd2
  subst hc1 hd1 hc3 hd3
  have e : its.toArray ++ its2.toArray = (its ++ its2).toArray := by simp
  have r1 := rv.length
  have r2 := rv2.length
  refine concat_meets ⟨_, ho, rfl⟩ ⟨_, ho2, rfl⟩ noFill_list_add seq_list_add PySem.F.slot_list_add PySem.F.entry_list_add (PySem.F.args_list_add_2 _ _) (list_addW a b its.toArray its2.toArray n n2 dd dd2 sl sl2 (by simp; omega)) ⟨ho, ho2, ?_⟩
  rw [e]
  exact ⟨.ref _, _, I.lnew (t' := s.toks) (rv.append rv2) (by rw [List.length_append]; omega), rfl, q _ I.fresh⟩
theorem ob_add {pins : List (Addr × Obj)} {s : Shared} {σ : L2.St} {H : Hp} {x y : V} {v u : Value} {Q : VK} {ρ : List Addr} {st : Sto} {d e : D} {Q' : KD} (I : Inv X pins σ H s) (rx : RelV x v) (ry : RelV y u)
    (A : Ab X.K ρ st H) (r1 : Rep X.K ρ H d x) (r2 : Rep X.K ρ H e y) (h : wAdd d e st Q') (O : Out X.K ρ H Q' Q) : wpAny (model X.prog X.w) X.A (binaryOp .Add v u) (EP X pins σ Q) X.xe s := by
  cases d with
  | int i =>
    cases e with
    | int j =>
      cases rep_int.mp r1; cases rep_int.mp r2
      exact op_add pins s σ H _ _ v u Q I rx ry ⟨i, j, rfl, rfl, O.keep A (rep_int.mpr rfl) h⟩
    | _ => exact False.elim h
  | str a =>
    cases e with
    | str b =>
      obtain ⟨rfl, _⟩ := rep_str.mp r1
      obtain ⟨rfl, _⟩ := rep_str.mp r2
      obtain ⟨h1, h2⟩ : a.length + b.length ≤ Lm ∧ Q' (.str (a ++ b)) st := h
      refine op_add_str pins s σ H _ _ v u Q I rx ry ⟨a, b, rfl, rfl, Lm_line h1, O.keep A (rep_str.mpr ⟨rfl, ?_⟩) h2⟩
      have e : (a ++ b).length = a.length + b.length := by show (a.cps ++ b.cps).size = _; exact Array.size_append
      rw [e]; exact h1
    | _ => exact False.elim h
  | tup xs =>
    cases e with
    | tup ys =>
      obtain ⟨a, vs, rfl, s1, q1⟩ := rep_tup.mp r1
      obtain ⟨b, us, rfl, s2, q2⟩ := rep_tup.mp r2
      obtain ⟨h1, h2⟩ : xs.length + ys.length ≤ Lm ∧ Q' (.tup (xs ++ ys)) st := h
      have l1 := q1.length
      have l2 := q2.length
      refine op_catA pins s σ H _ _ v u Q I rx ry ⟨a, b, vs, us, rfl, rfl, s1, s2, Lm_line (by omega), fun z => ?_, fun _ z => ?_, fun _ _ => O.newT A (q1.append q2) h2⟩
      · subst z
        have e0 : xs = [] := List.length_eq_zero_iff.mp (by simpa using l1)
        subst e0
        exact O.keep A r2 h2
      · subst z
        have e0 : ys = [] := List.length_eq_zero_iff.mp (by simpa using l2)
        subst e0
        rw [List.append_nil] at h2
        exact O.keep A r1 h2
    | _ => exact False.elim h
  | ref a =>
    cases e with
    | ref b =>
      have h' : (match st[a]?, st[b]? with
        | some (.lst xs), some (.lst ys) => xs.length + ys.length ≤ Lm ∧ Q' (.ref st.length) (st ++ [.lst (xs ++ ys)])
        | some (.fls xs), some (.lst ys) => xs.length + ys.length ≤ Lm ∧ Q' (.ref st.length) (st ++ [.lst (xs ++ ys)])
        | _, _ => False) := h
      split at h'
      · rename_i xs ys e1 e2
        obtain ⟨p, vs, rfl, _, hp, q1⟩ := A.mlst e1 r1
        obtain ⟨p', us, rfl, _, hp', q2⟩ := A.mlst e2 r2
        have l1 := q1.length
        have l2 := q2.length
        exact op_cat pins s σ H _ _ v u Q I rx ry ⟨p, p', vs, us, rfl, rfl, hp, hp', Lm_line (by omega), O.newL A (q1.append q2) h'.2⟩
      · rename_i xs ys e1 e2
        obtain ⟨p, vs, rfl, _, hp, q1⟩ := A.lst (show lstAt st a = some xs by unfold lstAt; rw [e1]) r1
        obtain ⟨p', us, rfl, _, hp', q2⟩ := A.mlst e2 r2
        have l1 := q1.length
        have l2 := q2.length
        exact op_catL pins s σ H _ _ v u Q I rx ry ⟨p, p', vs, us, rfl, rfl, hp, .inl (.inl hp'), Lm_line (by omega), O.newL A (q1.append q2) h'.2⟩
      · exact False.elim h'
    | _ => exact False.elim h
  | _ => exact False.elim h
theorem op_mul_s : OpR X (binaryOp .Mult) (fun x y H Q => ∃ a k, x = .str a ∧ y = .int k ∧ MulOk a k ∧ Q (.str (Txt.mul a k)) H) := by
  intro pins s σ H x y v u Q I rx ry h
  obtain ⟨i, j, rfl, rfl, hz, q⟩ := h
  obtain ⟨t, rfl⟩ := rx
  obtain ⟨t', rfl⟩ := ry
  exact SB.mul hz fun t' tk => ⟨.str (Txt.mul i j), H, I.tok _, ⟨_, rfl⟩, q⟩
theorem ob_bin (o : Op) : OpR X (binaryOp o.py) (rBinD X.K o) := by
  intro pins s σ H x y v u Q I rx ry hh
  obtain ⟨ρ, st, d, e, Q', A, r1, r2, h, O⟩ := hh
  cases o with
  | add => exact ob_add I rx ry A r1 r2 h O
  | sub =>
    cases d with
    | int i =>
      cases e with
      | int j =>
        cases rep_int.mp r1; cases rep_int.mp r2
        exact op_sub pins s σ H _ _ v u Q I rx ry ⟨i, j, rfl, rfl, O.keep A (rep_int.mpr rfl) h⟩
      | _ => exact False.elim h
    | _ => exact False.elim h
  | mul =>
    cases d with
    | int i =>
      cases e with
      | int j =>
        cases rep_int.mp r1; cases rep_int.mp r2
        obtain ⟨h1, h2⟩ : (CMul i j ∨ CMulW i j) ∧ Q' (.int (i * j)) st := h
        rcases h1 with h1 | h1
        · exact op_mul pins s σ H _ _ v u Q I rx ry ⟨i, j, rfl, rfl, h1, O.keep A (rep_int.mpr rfl) h2⟩
        · exact op_mulW pins s σ H _ _ v u Q I rx ry ⟨i, j, rfl, rfl, h1, O.keep A (rep_int.mpr rfl) h2⟩
      | _ => exact False.elim h
    | ref a =>
      cases e with
      | int k =>
        have h' : (match st[a]? with
          | some (.lst xs) => (-(2 ^ 63) ≤ k ∧ k < 2 ^ 63 ∧ xs.length * k.toNat ≤ Lm) ∧ Q' (.ref st.length) (st ++ [.lst (List.replicate k.toNat xs).flatten])
          | _ => False) := h
        split at h'
        · rename_i xs e1
          obtain ⟨p, vs, rfl, _, hp, q1⟩ := A.mlst e1 r1
          cases rep_int.mp r2
          have l1 := q1.length
          obtain ⟨⟨h1, h2, h3⟩, h4⟩ := h'
          exact op_rep pins s σ H _ _ v u Q I rx ry ⟨p, k, vs, rfl, rfl, hp, h1, h2, Lm_line (by rw [← l1]; exact h3), O.newL A (q1.flat_rep _) h4⟩
        · exact False.elim h'
      | _ => exact False.elim h
    | str a =>
      cases e with
      | int k =>
        obtain ⟨rfl, _⟩ := rep_str.mp r1
        cases rep_int.mp r2
        obtain ⟨⟨h1, h2⟩, h3⟩ : (MulOk a k ∧ (Txt.mul a k).length ≤ Lm) ∧ Q' (.str (Txt.mul a k)) st := h
        exact op_mul_s pins s σ H _ _ v u Q I rx ry ⟨a, k, rfl, rfl, h1, O.keep A (rep_str.mpr ⟨rfl, h2⟩) h3⟩
      | _ => exact False.elim h
    | _ => exact False.elim h
  | fdiv =>
    cases d with
    | int i =>
      cases e with
      | int j =>
        cases rep_int.mp r1; cases rep_int.mp r2
        obtain ⟨h1, h2⟩ := mu_and (show Mu (dvOk j) (Q' (.int (i / j)) st) from h)
        rcases dvOk_ok (i := i) h1 with h1 | h1
        · exact op_fdiv pins s σ H _ _ v u Q I rx ry ⟨i, j, rfl, rfl, h1, O.keep A (rep_int.mpr rfl) h2⟩
        · exact op_fdivW pins s σ H _ _ v u Q I rx ry ⟨i, j, rfl, rfl, h1, O.keep A (rep_int.mpr rfl) h2⟩
      | _ => exact False.elim h
    | _ => exact False.elim h
  | mod =>
    cases d with
    | int i =>
      cases e with
      | int j =>
        cases rep_int.mp r1; cases rep_int.mp r2
        obtain ⟨h1, h2⟩ := mu_and (show Mu (decide (0 < j)) (Q' (.int (i % j)) st) from h)
        have h1 := of_decide_eq_true h1
        exact op_mod pins s σ H _ _ v u Q I rx ry ⟨i, j, rfl, rfl, h1, O.keep A (rep_int.mpr rfl) h2⟩
      | _ => exact False.elim h
    | _ => exact False.elim h
  | pow =>
    cases d with
    | int i =>
      cases e with
      | int j =>
        cases rep_int.mp r1; cases rep_int.mp r2
        obtain ⟨h1, h2⟩ := mu_and (show Mu (powOk i j) (Q' (.int (i ^ j.toNat)) st) from h)
        have h1 := powOk_ok h1
        exact op_pow pins s σ H _ _ v u Q I rx ry ⟨i, j, rfl, rfl, h1, O.keep A (rep_int.mpr rfl) h2⟩
      | _ => exact False.elim h
    | _ => exact False.elim h

def rCmpD (K : PySem.W.Frag) (o : Cm) : R2 := fun x y H Q => ∃ ρ st d e Qb, Ab K ρ st H ∧ Rep K ρ H d x ∧ Rep K ρ H e y ∧ wCmp o d e st Qb ∧ ∀ t, Qb t st → Q (.bl t) H
/-- two sequences of one kind, one of them empty or of unlike lengths -/
theorem emC_inv {K : PySem.W.Frag} {ρ : List Addr} {st : Sto} {H : Hp} (A : Ab K ρ st H) {d e : D} {x y : V} {b : Bool} (h : emC st d e = some b) (r1 : Rep K ρ H d x) (r2 : Rep K ρ H e y) :
    ∃ p q vs us, x = .ref p ∧ y = .ref q ∧ ((SqT K H p vs ∧ SqT K H q us ∧ (vs = [] ∨ us = []) ∧ b = decide (vs.length = us.length)) ∨ (SqL K H p vs ∧ SqL K H q us ∧ ((vs.length ≠ us.length ∧ b = false) ∨ (vs = [] ∧ us = [] ∧ b = true)))) := by
  cases d with
  | tup ds =>
    cases e with
    | tup es =>
      obtain ⟨p, vs, rfl, s1, q1⟩ := rep_tup.mp r1
      obtain ⟨q, us, rfl, s2, q2⟩ := rep_tup.mp r2
      have l1 := q1.length
      have l2 := q2.length
      refine ⟨p, q, vs, us, rfl, rfl, .inl ⟨s1, s2, ?_⟩⟩
      cases ds with
      | nil =>
        have h' : some es.isEmpty = some b := h
        injection h' with h'
        have : vs = [] := List.length_eq_zero_iff.mp l1.symm
        subst this
        refine ⟨.inl rfl, ?_⟩
        rw [← h']
        cases es with
        | nil => rw [← l2]; rfl
        | cons _ _ => rw [← l2]; simp
      | cons d0 dr =>
        cases es with
        | nil =>
          have h' : some false = some b := h
          injection h' with h'
          have : us = [] := List.length_eq_zero_iff.mp l2.symm
          subst this
          refine ⟨.inr rfl, ?_⟩
          rw [← h', ← l1]; simp
        | cons _ _ => cases h
    | _ => cases ds <;> cases h
  | ref n =>
    cases e with
    | ref m =>
      have h' : (match lstAt st n, lstAt st m with
        | some xs, some ys => if xs.length = ys.length then (if xs.length = 0 then some true else none) else some false
        | _, _ => none) = some b := h
      split at h'
      · rename_i xs ys ex ey
        obtain ⟨p, vs, rfl, _, s1, q1⟩ := A.lst ex r1
        obtain ⟨q, us, rfl, _, s2, q2⟩ := A.lst ey r2
        have l1 := q1.length
        have l2 := q2.length
        refine ⟨p, q, vs, us, rfl, rfl, .inr ⟨s1, s2, ?_⟩⟩
        split at h'
        · rename_i e1
          split at h'
          · rename_i e2
            injection h' with h'
            exact .inr ⟨List.length_eq_zero_iff.mp (by omega), List.length_eq_zero_iff.mp (by omega), h'.symm⟩
          · cases h'
        · rename_i e1
          injection h' with h'
          exact .inl ⟨by omega, h'.symm⟩
      · cases h'
    | _ => cases h
  | _ => cases h
def EmR (X : Cx) (op : CmpOp) (g : Bool → Bool) : Prop := ∀ {pins : List (Addr × Obj)} {s : Shared} {σ : L2.St} {H : Hp} {x y : V} {v u : Value} {Q : VK} {ρ : List Addr} {st : Sto} {d e : D} {b : Bool}, Inv X pins σ H s → RelV x v → RelV y u →
    Ab X.K ρ st H → Rep X.K ρ H d x → Rep X.K ρ H e y → emC st d e = some b → Q (.bl (g b)) H → wpAny (model X.prog X.w) X.A (compareOp op v u) (EP X pins σ Q) X.xe s
theorem em_run {op : CmpOp} {g : Bool → Bool}
    (rT : ∀ {s : Shared} {l b : Addr} {i1 i2 : Array Value} {Q : Value → Shared → Prop}, s.heap.IsTuple l i1 → s.heap.IsTuple b i2 → (i1.size = 0 ∨ i2.size = 0) → Q (.bool (g (decide (i1.size = i2.size)))) s → wpAny (model X.prog X.w) X.A (compareOp op (.ref l) (.ref b)) Q X.xe s)
    (rL : ∀ {s : Shared} {l b : Addr} {i1 i2 : Array Value} {Q : Value → Shared → Prop}, s.heap.IsList l i1 → s.heap.IsList b i2 → (i1.size ≠ i2.size ∨ i1.size = 0 ∧ i2.size = 0) → Q (.bool (g (decide (i1.size = i2.size)))) s → wpAny (model X.prog X.w) X.A (compareOp op (.ref l) (.ref b)) Q X.xe s) : EmR X op g := by
  intro pins s σ H x y v u Q ρ st d e b I rx ry A r1 r2 h q
  obtain ⟨p, p', vs, us, rfl, rfl, hh⟩ := emC_inv A h r1 r2
  cases (show v = Value.ref p from rx)
  cases (show u = Value.ref p' from ry)
  rcases hh with ⟨s1, s2, hh, rfl⟩ | ⟨s1, s2, hh⟩
  · obtain ⟨i1, v1, t1, _⟩ := I.tuple s1
    obtain ⟨i2, v2, t2, _⟩ := I.tuple s2
    have l1 := v1.length
    have l2 := v2.length
    refine rT (show s.heap.IsTuple p i1.toArray from t1) (show s.heap.IsTuple p' i2.toArray from t2) ?_ ⟨.bl _, H, I, rfl, ?_⟩
    · rcases hh with rfl | rfl
      · exact .inl (by simpa using l1.symm)
      · exact .inr (by simpa using l2.symm)
    · rw [show decide (i1.toArray.size = i2.toArray.size) = decide (vs.length = us.length) by simp only [List.size_toArray, l1, l2]]
      exact q
  · obtain ⟨i1, v1, t1, _⟩ := I.list s1
    obtain ⟨i2, v2, t2, _⟩ := I.list s2
    have l1 := v1.length
    have l2 := v2.length
    have eb : b = decide (vs.length = us.length) := by
      rcases hh with ⟨z, rfl⟩ | ⟨rfl, rfl, rfl⟩
      · exact (decide_eq_false z).symm
      · rfl
    subst eb
    refine rL t1.isList t2.isList ?_ ⟨.bl _, H, I, rfl, ?_⟩
    · rcases hh with ⟨z, _⟩ | ⟨rfl, rfl, _⟩
      · exact .inl (by rw [List.size_toArray, List.size_toArray, ← l1, ← l2]; exact z)
      · exact .inr ⟨by simpa using l1.symm, by simpa using l2.symm⟩
    · rw [show decide (i1.toArray.size = i2.toArray.size) = decide (vs.length = us.length) by simp only [List.size_toArray, l1, l2]]
      exact q
theorem em_eq (hu : X.A.units < cLine) : EmR X .Eq id := em_run
  (fun {s l b i1 i2 Q} h1 h2 h q => PySem.SeqAt.eq_tupleAt (e := fun _ => true) h1 h2 hu (fun j j1 j2 => by omega) (by
    have : (List.range (min i1.size i2.size)).all (fun _ => true) = true := by rw [List.all_eq_true]; exact fun _ _ => rfl
    rw [this, Bool.true_and]
    have e : (i1.size == i2.size) = decide (i1.size = i2.size) := by rw [Bool.eq_iff_iff]; simp
    rw [e]; exact q))
  (fun {s l b i1 i2 Q} h1 h2 h q => by
    rcases h with h | ⟨h, h'⟩
    · refine PySem.SeqAt.eq_list_lengthsAt h1 h2 (by simpa using h) hu ?_
      rw [decide_eq_false h] at q; exact q
    · refine PySem.SeqAt.eq_listAt (e := fun _ => true) h1 h2 (by omega) hu (fun j j1 j2 => by omega) ?_
      rw [decide_eq_true (by omega)] at q
      rw [h]; exact q)
theorem em_ne (hu : X.A.units < cLine) : EmR X .NotEq not := em_run
  (fun {s l b i1 i2 Q} h1 h2 h q => PySem.SeqAt.RcNeAt.tuples (e := fun _ => true) h1 h2 hu (fun j j1 j2 => by omega) _ _ _ _ (by
    have : (List.range (min i1.size i2.size)).all (fun _ => true) = true := by rw [List.all_eq_true]; exact fun _ _ => rfl
    rw [this, Bool.true_and]
    have e : (i1.size == i2.size) = decide (i1.size = i2.size) := by rw [Bool.eq_iff_iff]; simp
    rw [e]; exact q))
  (fun {s l b i1 i2 Q} h1 h2 h q => by
    rcases h with h | ⟨h, h'⟩
    · refine PySem.SeqAt.RcNeAt.lists_lengths h1 h2 (by simpa using h) hu _ _ _ _ ?_
      rw [decide_eq_false h] at q; exact q
    · refine PySem.SeqAt.RcNeAt.lists (e := fun _ => true) h1 h2 (by omega) hu (fun j j1 j2 => by omega) _ _ _ _ ?_
      rw [decide_eq_true (by omega)] at q
      rw [h]; exact q)
/-- equality, both ways -/
theorem ob_eq {op : CmpOp} {g : Bool → Bool} (hu : X.A.units + 65 < cLine)
    (rule : OpR X (compareOp op) (fun x y H Q => scal x y = true ∧ Q (.bl (g (decide (x = y)))) H))
    (ruleD : OpR X (compareOp op) (fun x y H Q => ∃ d e, Dp X.K H x d ∧ Dp X.K H y e ∧ SeqAt.shaped d = true ∧ SeqAt.shaped e = true ∧ Q (.bl (g (PyData.eqv d e))) H))
    (ruleE : EmR X op g)
    {pins : List (Addr × Obj)} {s : Shared} {σ : L2.St} {H : Hp} {x y : V} {v u : Value} {Q : VK} {ρ : List Addr} {st : Sto} {d e : D} {Qb : Bool → Sto → Prop} (I : Inv X pins σ H s) (rx : RelV x v) (ry : RelV y u)
    (A : Ab X.K ρ st H) (r1 : Rep X.K ρ H d x) (r2 : Rep X.K ρ H e y) (h : wEq d e st (fun b => Qb (g b))) (O : ∀ t, Qb t st → Q (.bl t) H) : wpAny (model X.prog X.w) X.A (compareOp op v u) (EP X pins σ Q) X.xe s := by
  have gen : (∃ b, emC st d e = some b ∧ Qb (g b) st) ∨ (match toP fuelP st d, toP fuelP st e with
    | some p, some q => (SeqAt.shaped p = true ∧ SeqAt.shaped q = true) ∧ Qb (g (PyData.eqv p q)) st
    | _, _ => False) → wpAny (model X.prog X.w) X.A (compareOp op v u) (EP X pins σ Q) X.xe s := by
    intro h'
    rcases h' with ⟨b, e1, h'⟩ | h'
    · exact ruleE I rx ry A r1 r2 e1 (O _ h')
    split at h'
    · rename_i p q e1 e2
      exact ruleD pins s σ H x y v u Q I rx ry ⟨p, q, toP_dp A _ d x p e1 r1, toP_dp A _ e y q e2 r2, h'.1.1, h'.1.2, O _ h'.2⟩
    · exact False.elim h'
  cases d with
  | int i =>
    cases e with
    | int j =>
      cases rep_int.mp r1; cases rep_int.mp r2
      have h' : Qb (g (decide (i = j))) st := h
      refine rule pins s σ H _ _ v u Q I rx ry ⟨rfl, O _ ?_⟩
      rw [show decide (V.int i = V.int j) = decide (i = j) by rw [dec_int]; exact Bool.beq_eq_decide_eq i j]
      exact h'
    | _ => exact gen h
  | str i =>
    cases e with
    | str j =>
      obtain ⟨rfl, _⟩ := rep_str.mp r1; obtain ⟨rfl, _⟩ := rep_str.mp r2
      have h' : Qb (g (decide (i = j))) st := h
      refine rule pins s σ H _ _ v u Q I rx ry ⟨rfl, O _ ?_⟩
      rw [show decide (V.str i = V.str j) = decide (i = j) by simp]
      exact h'
    | _ => exact gen h
  | bl i =>
    cases e with
    | bl j =>
      cases rep_bl.mp r1; cases rep_bl.mp r2
      have h' : Qb (g (decide (i = j))) st := h
      refine rule pins s σ H _ _ v u Q I rx ry ⟨rfl, O _ ?_⟩
      rw [show decide (V.bl i = V.bl j) = decide (i = j) by simp]
      exact h'
    | _ => exact gen h
  | _ => exact gen h
theorem dic_of {K : PySem.W.Frag} {ρ : List Addr} {st : Sto} {H : Hp} (A : Ab K ρ st H) {x y : D} {v u : V} {o : Option D} (h : dicGet st x y = some o) (r1 : Rep K ρ H x v) (r2 : Rep K ρ H y u) :
    ∃ a r, v = .ref a ∧ DGet H a u r ∧ ((o = none ∧ r = none) ∨ ∃ d w, o = some d ∧ r = some w ∧ Rep K ρ H d w) := by
  cases x with
  | ref n =>
    have h' : (match st[n]? with
      | some (.dK kvs) => (keyOf y).map (dGet kvs)
      | _ => none) = some o := h
    split at h'
    · rename_i kvs e1
      rw [Option.map_eq_some_iff] at h'
      obtain ⟨k, hk, rfl⟩ := h'
      obtain ⟨a, vs, rfl, _, hp, q⟩ := A.dK e1 r1
      have ek := key_rep hk r2
      subst ek
      refine ⟨a, valV vs k, rfl, DGet.k hp, ?_⟩
      exact q.get k
    · cases h'
  | _ => cases h
theorem op_in_dict (hu : X.A.units + 1 < cLine) : OpR X (compareOp .In) (fun y x H Q => ∃ a o, x = .ref a ∧ DGet H a y o ∧ Q (.bl o.isSome) H) := by
  intro pins s σ H y x v u Q I ry rx ⟨a, o, ex, g, q⟩
  subst ex
  cases (show u = Value.ref a from rx)
  exact d_in hu I g ry fun s' J => ⟨.bl o.isSome, H, J, rfl, q⟩
theorem op_notin_dict (hu : X.A.units + 1 < cLine) : OpR X (compareOp .NotIn) (fun y x H Q => ∃ a o, x = .ref a ∧ DGet H a y o ∧ Q (.bl (!o.isSome)) H) := by
  intro pins s σ H y x v u Q I ry rx ⟨a, o, ex, g, q⟩
  subst ex
  cases (show u = Value.ref a from rx)
  exact d_notIn hu I g ry fun s' J => ⟨.bl (!o.isSome), H, J, rfl, q⟩
theorem ix_dict (hu : X.A.units + 1 < cLine) : IxR X (fun x y H Q => ∃ a v, x = .ref a ∧ DGet H a y (some v) ∧ Q v H) := by
  intro value slice pins s σ H x y v u Q I rx ry ⟨a, w, ex, g, q⟩ hs
  subst ex
  cases (show v = Value.ref a from rx)
  exact tail_any (dict_typeIs I g) PySem.F.slot_dict_getitem.lookup (d_getItem hu I g ry fun w' s' J r => ⟨w, H, J, r, q⟩) hs
theorem ob_in {op : CmpOp} {g : Bool → Bool}
    (r1' : OpR X (compareOp op) (fun x y H Q => ∃ (c : Nat) (z : Str), x = .str ⟨#[c]⟩ ∧ y = .str z ∧ Q (.bl (g (decide (c ∈ z.cps.toList)))) H))
    (r2' : OpR X (compareOp op) (fun x y H Q => ∃ i j, x = .str i ∧ y = .str j ∧ Q (.bl (g (!(Builtin.Str.occurrences j i 0 j.length 1).isEmpty))) H))
    (r3' : OpR X (compareOp op) (fun x y H Q => ∃ p xs, y = .ref p ∧ (SqL X.K H p xs ∨ SqT X.K H p xs) ∧ flatV x = true ∧ xs.all flatV = true ∧ Q (.bl (g (inV x xs))) H))
    (r4' : OpR X (compareOp op) (fun y x H Q => ∃ a o, x = .ref a ∧ DGet H a y o ∧ Q (.bl (g o.isSome)) H))
    (r5' : OpR X (compareOp op) (fun x y H Q => ∃ d ds, Dp X.K H x d ∧ Dp X.K H y (.list ds) ∧ SeqAt.shaped d = true ∧ SeqAt.shaped (.list ds) = true ∧ Q (.bl (g (ds.any fun z => PyData.eqv z d))) H))
    {pins : List (Addr × Obj)} {s : Shared} {σ : L2.St} {H : Hp} {x y : V} {v u : Value} {Q : VK} {ρ : List Addr} {st : Sto} {d e : D} {Qb : Bool → Sto → Prop} (I : Inv X pins σ H s) (rx : RelV x v) (ry : RelV y u)
    (A : Ab X.K ρ st H) (r1 : Rep X.K ρ H d x) (r2 : Rep X.K ρ H e y) (h : wIn d e st (fun b => Qb (g b))) (O : ∀ t, Qb t st → Q (.bl t) H) : wpAny (model X.prog X.w) X.A (compareOp op v u) (EP X pins σ Q) X.xe s := by
  have gen : (match seqOf st e with
    | some ys => Br (flat d && ys.all flat) (Qb (g (ys.any fun z => eqF z d)) st) (∃ p ps, toP fuelP st d = some p ∧ toP fuelP st e = some (.list ps) ∧ (SeqAt.shaped p = true ∧ SeqAt.shaped (.list ps) = true) ∧ Qb (g (ps.any fun z => PyData.eqv z p)) st)
    | none => match dicGet st e d with
      | some o => Qb (g o.isSome) st
      | none => False) → wpAny (model X.prog X.w) X.A (compareOp op v u) (EP X pins σ Q) X.xe s := by
    intro h'
    split at h'
    · rename_i ys e1
      cases hb : (flat d && ys.all flat) with
      | true =>
        rw [hb] at h'
        rw [Bool.and_eq_true] at hb
        obtain ⟨p, vs, rfl, hs, q⟩ := A.seq e1 r2
        refine r3' pins s σ H _ _ v u Q I rx ry ⟨p, vs, rfl, hs, flat_of hb.1 r1, flats_of hb.2 q, O _ ?_⟩
        rw [anyF_of hb.1 r1 hb.2 q]
        exact h'
      | false =>
        rw [hb] at h'
        obtain ⟨p, ps, t1, t2, ⟨s1, s2⟩, q⟩ := h'
        exact r5' pins s σ H _ _ v u Q I rx ry ⟨p, ps, toP_dp A _ d x p t1 r1, toP_dp A _ e y _ t2 r2, s1, s2, O _ q⟩
    · split at h'
      · rename_i o e1
        obtain ⟨a, r, rfl, gd, q⟩ := dic_of A e1 r2 r1
        refine r4' pins s σ H _ _ v u Q I rx ry ⟨a, r, rfl, gd, O _ ?_⟩
        rcases q with ⟨rfl, rfl⟩ | ⟨d', w, rfl, rfl, _⟩ <;> exact h'
      · exact False.elim h'
  cases d with
  | str a =>
    cases e with
    | str b =>
      obtain ⟨rfl, _⟩ := rep_str.mp r1; obtain ⟨rfl, _⟩ := rep_str.mp r2
      have h' : (match a.cps.toList with
        | [c] => Qb (g (decide (c ∈ b.cps.toList))) st
        | _ => Qb (g (!(Builtin.Str.occurrences b a 0 b.length 1).isEmpty)) st) := h
      split at h'
      · rename_i c e1
        have ea : a = ⟨#[c]⟩ := by
          obtain ⟨⟨l⟩⟩ := a
          simp at e1
          subst e1
          rfl
        subst ea
        exact r1' pins s σ H _ _ v u Q I rx ry ⟨c, b, rfl, rfl, O _ h'⟩
      · exact r2' pins s σ H _ _ v u Q I rx ry ⟨a, b, rfl, rfl, O _ h'⟩
    | _ => exact gen h
  | _ => exact gen h
theorem ob_cmp (hu : X.A.units + 65 < cLine) (o : Cm) : OpR X (compareOp o.py) (rCmpD X.K o) := by
  intro pins s σ H x y v u Q I rx ry hh
  obtain ⟨ρ, st, d, e, Qb, A, r1, r2, h, O⟩ := hh
  cases o with
  | eq => exact ob_eq (g := id) hu op_eq (op_eqD (by omega)) (em_eq (by omega)) I rx ry A r1 r2 h O
  | ne => exact ob_eq (g := not) hu op_ne (op_neD (by omega)) (em_ne (by omega)) I rx ry A r1 r2 h O
  | isin => exact ob_in (g := id) op_in_sign op_in_str (fun pins s σ H x y v u Q I rx ry ⟨p, xs, a, b, c, d, q⟩ => op_in_seq pins s σ H x y v u Q I rx ry ⟨p, xs, a, b, c, d, q⟩) (op_in_dict (by omega)) (op_inD (by omega)) I rx ry A r1 r2 h O
  | notin => exact ob_in (g := not) op_notIn_sign op_notin_str (fun pins s σ H x y v u Q I rx ry ⟨p, xs, a, b, c, d, q⟩ => op_notIn_seq pins s σ H x y v u Q I rx ry ⟨p, xs, a, b, c, d, q⟩) (op_notin_dict (by omega)) (op_notInD (by omega)) I rx ry A r1 r2 h O
  | lt =>
    cases d with
    | int i =>
      cases e with
      | int j => cases rep_int.mp r1; cases rep_int.mp r2; exact op_lt pins s σ H _ _ v u Q I rx ry ⟨i, j, rfl, rfl, O _ h⟩
      | _ => exact False.elim h
    | str i =>
      cases e with
      | str j =>
        obtain ⟨rfl, _⟩ := rep_str.mp r1; obtain ⟨rfl, _⟩ := rep_str.mp r2
        exact op_lt_str pins s σ H _ _ v u Q I rx ry ⟨i, j, rfl, rfl, O _ h⟩
      | _ => exact False.elim h
    | _ => exact False.elim h
  | le =>
    cases d with
    | int i =>
      cases e with
      | int j => cases rep_int.mp r1; cases rep_int.mp r2; exact op_le pins s σ H _ _ v u Q I rx ry ⟨i, j, rfl, rfl, O _ h⟩
      | _ => exact False.elim h
    | str i =>
      cases e with
      | str j =>
        obtain ⟨rfl, _⟩ := rep_str.mp r1; obtain ⟨rfl, _⟩ := rep_str.mp r2
        exact op_le_str pins s σ H _ _ v u Q I rx ry ⟨i, j, rfl, rfl, O _ h⟩
      | _ => exact False.elim h
    | _ => exact False.elim h
  | gt =>
    cases d with
    | int i =>
      cases e with
      | int j => cases rep_int.mp r1; cases rep_int.mp r2; exact op_gt pins s σ H _ _ v u Q I rx ry ⟨i, j, rfl, rfl, O _ h⟩
      | _ => exact False.elim h
    | str i =>
      cases e with
      | str j =>
        obtain ⟨rfl, _⟩ := rep_str.mp r1; obtain ⟨rfl, _⟩ := rep_str.mp r2
        exact op_gt_str pins s σ H _ _ v u Q I rx ry ⟨i, j, rfl, rfl, O _ h⟩
      | _ => exact False.elim h
    | _ => exact False.elim h
  | ge =>
    cases d with
    | int i =>
      cases e with
      | int j => cases rep_int.mp r1; cases rep_int.mp r2; exact op_ge pins s σ H _ _ v u Q I rx ry ⟨i, j, rfl, rfl, O _ h⟩
      | _ => exact False.elim h
    | _ => exact False.elim h
  | isn =>
    have ey : e = .non := by cases e <;> first | rfl | exact (by cases d <;> exact False.elim h)
    subst ey
    cases rep_non.mp r2
    refine op_isN pins s σ H _ _ v u Q I rx ry ⟨rfl, O _ ?_⟩
    cases d with
    | non => cases rep_non.mp r1; exact h
    | bl b => cases rep_bl.mp r1; exact h
    | int i => cases rep_int.mp r1; exact h
    | str z => obtain ⟨rfl, _⟩ := rep_str.mp r1; exact h
    | tup z => obtain ⟨_, _, rfl, _⟩ := rep_tup.mp r1; exact h
    | ref z => obtain ⟨_, _, rfl⟩ := rep_ref.mp r1; exact h
  | isnt =>
    have ey : e = .non := by cases e <;> first | rfl | exact (by cases d <;> exact False.elim h)
    subst ey
    cases rep_non.mp r2
    refine op_notN pins s σ H _ _ v u Q I rx ry ⟨rfl, O _ ?_⟩
    cases d with
    | non => cases rep_non.mp r1; exact h
    | bl b => cases rep_bl.mp r1; exact h
    | int i => cases rep_int.mp r1; exact h
    | str z => obtain ⟨rfl, _⟩ := rep_str.mp r1; exact h
    | tup z => obtain ⟨_, _, rfl, _⟩ := rep_tup.mp r1; exact h
    | ref z => obtain ⟨_, _, rfl⟩ := rep_ref.mp r1; exact h

/-! ### subscripts, slices -/
def rIxD (K : PySem.W.Frag) : R2 := fun x y H Q => ∃ ρ st d e Q', Ab K ρ st H ∧ Rep K ρ H d x ∧ Rep K ρ H e y ∧ wIx d e st Q' ∧ Out K ρ H Q' Q
theorem atI_rep {K : PySem.W.Frag} {ρ : List Addr} {H : Hp} {xs : List D} {vs : List V} {i : Int} {d : D} (q : Reps K ρ H xs vs) (h : atI xs i = some d) : ∃ v, atI vs i = some v ∧ Rep K ρ H d v := by
  unfold atI at h ⊢
  rw [← q.length]
  cases e : ixN xs.length i with
  | none => rw [e] at h; cases h
  | some j =>
    rw [e] at h
    exact q.get h
theorem ob_ix (hu : X.A.units + 1 < cLine) : IxR X (rIxD X.K) := by
  intro value slice pins s σ H x y v u Q I rx ry hh hs
  obtain ⟨ρ, st, d, e, Q', A, r1, r2, h, O⟩ := hh
  have dic : (match dicGet st d e with
        | some (some d) => Q' d st
        | _ => False) → wpAny (model X.prog X.w) X.A (subscriptTail value slice v u) (EP X pins σ Q) X.xe s := by
    intro h'
    split at h'
    · rename_i d' e1
      obtain ⟨a, r, rfl, gd, q⟩ := dic_of A e1 r1 r2
      rcases q with ⟨z, _⟩ | ⟨d0, w, z, rfl, rw'⟩
      · cases z
      · cases z
        exact ix_dict hu value slice pins s σ H _ _ v u Q I rx ry ⟨a, w, rfl, gd, O.keep A rw' h'⟩ hs
    · exact False.elim h'
  cases e with
  | int i =>
    cases rep_int.mp r2
    have gen : (match seqOf st d with
      | some xs => match atI xs i with
        | some d => Q' d st
        | none => False
      | none => match dicGet st d (.int i) with
        | some (some d) => Q' d st
        | _ => False) → wpAny (model X.prog X.w) X.A (subscriptTail value slice v u) (EP X pins σ Q) X.xe s := by
      intro h'
      split at h'
      · rename_i xs e1
        split at h'
        · rename_i d' e2
          obtain ⟨p, vs, rfl, hq, q⟩ := A.seq e1 r1
          obtain ⟨z, hz, rz⟩ := atI_rep q e2
          rcases hq with hq | hq
          · exact ix_list value slice pins s σ H _ _ v u Q I rx ry ⟨p, vs, i, z, rfl, rfl, hq, hz, O.keep A rz h'⟩ hs
          · exact ix_tup value slice pins s σ H _ _ v u Q I rx ry ⟨p, vs, i, z, rfl, rfl, hq, hz, O.keep A rz h'⟩ hs
        · exact False.elim h'
      · exact dic h'
    cases d with
    | str z =>
      obtain ⟨rfl, hz⟩ := rep_str.mp r1
      have h' : (match atI z.cps.toList i with
        | some c => Q' (.str ⟨#[c]⟩) st
        | none => False) := h
      split at h'
      · rename_i c e1
        exact ix_str value slice pins s σ H _ _ v u Q I rx ry ⟨z, i, c, rfl, rfl, Lm_line hz, e1, O.keep A (rep_str.mpr ⟨rfl, (by show (1 : Nat) ≤ Lm; decide)⟩) h'⟩ hs
      · exact False.elim h'
    | _ => exact gen h
  | str k => exact dic h
  | _ => exact False.elim (by cases d <;> exact h)
def rSlD (K : PySem.W.Frag) : V → Option Int → Option Int → Hp → VK → Prop := fun x lo hi H Q => ∃ ρ st d Q', Ab K ρ st H ∧ Rep K ρ H d x ∧ wSl d lo hi st Q' ∧ Out K ρ H Q' Q
theorem cut_rep {K : PySem.W.Frag} {ρ : List Addr} {H : Hp} {xs : List D} {vs : List V} (q : Reps K ρ H xs vs) (lo hi : Option Int) : Reps K ρ H (cutD xs lo hi) (cutV vs lo hi) := by
  unfold cutD cutV
  rw [← q.length]
  exact (q.drop _).take _
theorem cutS_le (z : Str) (lo hi : Option Int) : (cutS z lo hi).length ≤ z.length := by
  unfold cutS
  show (List.toArray _).size ≤ z.cps.size
  rw [List.size_toArray, List.length_take, List.length_drop, Array.length_toList]
  omega
theorem ob_sl : SlR X (rSlD X.K) := by
  intro pins s σ H x v vl vu lo hi sl Q I rx hs pl pu hh
  obtain ⟨ρ, st, d, Q', A, r1, h, O⟩ := hh
  cases d with
  | str z =>
    obtain ⟨rfl, hz⟩ := rep_str.mp r1
    exact sl_str pins s σ H _ v vl vu lo hi sl Q I rx hs pl pu ⟨z, rfl, Lm_line hz, O.keep A (rep_str.mpr ⟨rfl, Nat.le_trans (cutS_le z lo hi) hz⟩) h⟩
  | tup xs =>
    obtain ⟨a, vs, rfl, s1, q1⟩ := rep_tup.mp r1
    refine sl_tupA pins s σ H _ v vl vu lo hi sl Q I rx hs pl pu ⟨a, vs, rfl, s1, fun z => ?_, fun _ => O.newT A (cut_rep q1 lo hi) h⟩
    have e : cutD xs lo hi = xs := by
      unfold cutD
      rw [q1.length, z.1, z.2, List.drop_zero, Nat.sub_zero, ← q1.length, List.take_length]
    have h' : Q' (.tup (cutD xs lo hi)) st := h
    rw [e] at h'
    exact O.keep A r1 h'
  | ref n =>
    have h' : (match lstAt st n with
      | some xs => Q' (.ref st.length) (st ++ [.lst (cutD xs lo hi)])
      | none => False) := h
    split at h'
    · rename_i xs e1
      obtain ⟨a, vs, rfl, _, s1, q1⟩ := A.lst e1 r1
      exact sl_list pins s σ H _ v vl vu lo hi sl Q I rx hs pl pu ⟨a, vs, rfl, s1, O.newL A (cut_rep q1 lo hi) h'⟩
    · exact False.elim h'
  | _ => exact False.elim h
end
end Q3

set_option Elab.async false
set_option linter.all false
set_option maxRecDepth 100000
set_option maxHeartbeats 4000000
/-! Q3d: built-in functions, methods by values. -/
namespace Q3
open PySem PySem.Spec PyProof.Rows L2
def Bf.fn : Bf → Value
  | .len => .builtin "len" | .int => .type "int" | .str => .type "str" | .min2 => .builtin "min" | .max2 => .builtin "max" | .list => .type "list" | .tuple => .type "tuple" | .all => .builtin "all" | .any => .builtin "any" | .sum => .builtin "sum" | .min1 => .builtin "min" | .max1 => .builtin "max" | .sorted => .builtin "sorted" | .dict => .type "dict"
def Bf.nm : Bf → Str
  | .len => "len" | .int => "int" | .str => "str" | .min2 => "min" | .max2 => "max" | .list => "list" | .tuple => "tuple" | .all => "all" | .any => "any" | .sum => "sum" | .min1 => "min" | .max1 => "max" | .sorted => "sorted" | .dict => "dict"
def Mt.id : Mt → String
  | .append => "list.append" | .join => "str.join" | .split => "str.split" | .starts => "str.startswith" | .index => "str.index" | .pop => "list.pop" | .extend => "list.extend" | .reverse => "list.reverse" | .get => "dict.get" | .popAt => "list.pop" | .insert => "list.insert" | .clear => "list.clear" | .lindex => "list.index"
def Mt.nm : Mt → Str
  | .append => "append" | .join => "join" | .split => "split" | .starts => "startswith" | .index => "index" | .pop => "pop" | .extend => "extend" | .reverse => "reverse" | .get => "get" | .popAt => "pop" | .insert => "insert" | .clear => "clear" | .lindex => "index"
def Mt.ty : Mt → String
  | .append => "list" | .join => "str" | .split => "str" | .starts => "str" | .index => "str" | .pop => "list" | .extend => "list" | .reverse => "list" | .get => "dict" | .popAt => "list" | .insert => "list" | .clear => "list" | .lindex => "list"
/-! ### sorting -/
section
variable {α : Type} {le : α → α → Bool}
theorem insS_perm (x : α) : ∀ l : List α, (insS le x l).Perm (x :: l)
  | [] => .refl _
  | y :: r => by
    unfold insS
    split
    · exact .refl _
    · exact ((insS_perm x r).cons y).trans (.swap x y r)
theorem srtS_perm : ∀ l : List α, (srtS le l).Perm l
  | [] => .refl _
  | x :: r => (insS_perm x _).trans ((srtS_perm r).cons x)
theorem insS_pw (tot : ∀ a b, le a b = true ∨ le b a = true) (tr : ∀ a b c, le a b = true → le b c = true → le a c = true) (x : α) : ∀ l : List α, l.Pairwise (fun a b => le a b = true) → (insS le x l).Pairwise (fun a b => le a b = true)
  | [], _ => by unfold insS; simp
  | y :: r, h => by
    have h' := List.pairwise_cons.mp h
    unfold insS
    split
    · rename_i e
      refine List.pairwise_cons.mpr ⟨fun z hz => ?_, h⟩
      rcases List.mem_cons.mp hz with rfl | hz
      · exact e
      · exact tr x y z e (h'.1 z hz)
    · rename_i e
      refine List.pairwise_cons.mpr ⟨fun z hz => ?_, insS_pw tot tr x r h'.2⟩
      rcases List.mem_cons.mp ((insS_perm x r).mem_iff.mp hz) with rfl | hz
      · exact (tot y z).resolve_right e
      · exact h'.1 z hz
theorem srtS_pw (tot : ∀ a b, le a b = true ∨ le b a = true) (tr : ∀ a b c, le a b = true → le b c = true → le a c = true) : ∀ l : List α, (srtS le l).Pairwise (fun a b => le a b = true)
  | [] => by unfold srtS; simp
  | x :: r => insS_pw tot tr x _ (srtS_pw tot tr r)
theorem srtS_uniq (tot : ∀ a b, le a b = true ∨ le b a = true) (tr : ∀ a b c, le a b = true → le b c = true → le a c = true) (an : ∀ a b, le a b = true → le b a = true → a = b) {l ys : List α} (hp : ys.Perm l) (hs : ys.Pairwise (fun a b => le a b = true)) : ys = srtS le l :=
  List.Perm.eq_of_pairwise (fun a b _ _ h1 h2 => an a b h1 h2) hs (srtS_pw tot tr l) (hp.trans (srtS_perm l).symm)
end
theorem leI_tot (a b : Int) : leI a b = true ∨ leI b a = true := by
  unfold leI
  rw [decide_eq_true_eq, decide_eq_true_eq]; omega
theorem leI_tr (a b c : Int) (h1 : leI a b = true) (h2 : leI b c = true) : leI a c = true := by
  unfold leI at *
  rw [decide_eq_true_eq] at *; omega
theorem leI_an (a b : Int) (h1 : leI a b = true) (h2 : leI b a = true) : a = b := by
  unfold leI at *
  rw [decide_eq_true_eq] at *; omega
theorem srt_ints {l ys : List Int} (hp : ys.Perm l) (hs : ys.Pairwise (· ≤ ·)) : ys = srtS leI l :=
  srtS_uniq leI_tot leI_tr leI_an hp (hs.imp fun h => decide_eq_true h)
theorem leS_iff {a b : Str} : leS a b = true ↔ a.cps.toList ≤ b.cps.toList := by
  unfold leS
  rw [Bool.not_eq_true', decide_eq_false_iff_not, List.not_lt]
theorem leS_tot (a b : Str) : leS a b = true ∨ leS b a = true := by
  rw [leS_iff, leS_iff]; exact List.le_total _ _
theorem leS_tr (a b c : Str) (h1 : leS a b = true) (h2 : leS b c = true) : leS a c = true := by
  rw [leS_iff] at *; exact List.le_trans h1 h2
theorem leS_an (a b : Str) (h1 : leS a b = true) (h2 : leS b a = true) : a = b := by
  rw [leS_iff] at *
  have h := List.le_antisymm h1 h2
  obtain ⟨⟨x⟩⟩ := a
  obtain ⟨⟨y⟩⟩ := b
  have h' : x = y := h
  rw [h']
theorem ltCps_lt : ∀ a b : List Nat, PySem.Spec.ltCps a b = decide (a < b)
  | [], [] => by rw [decide_eq_false (List.lt_irrefl [])]; rfl
  | [], y :: b => by rw [decide_eq_true (List.nil_lt_cons y b)]; rfl
  | x :: a, [] => by rw [decide_eq_false (List.not_lt_nil _)]; rfl
  | x :: a, y :: b => by
    show (decide (x < y) || (x == y && PySem.Spec.ltCps a b)) = decide (x :: a < y :: b)
    rw [ltCps_lt a b, Bool.eq_iff_iff, decide_eq_true_eq, List.cons_lt_cons_iff]
    simp
theorem risingS_pw : ∀ (p : Str) (l : List Str), risingS p l = true → (p :: l).Pairwise (fun a b => leS a b = true)
  | p, [], _ => by simp
  | p, x :: r, h => by
    have h' : (!PySem.Spec.ltCps x.cps.toList p.cps.toList && risingS x r) = true := h
    rw [Bool.and_eq_true, ltCps_lt] at h'
    have ih := risingS_pw x r h'.2
    have hpx : leS p x = true := h'.1
    refine List.pairwise_cons.mpr ⟨fun z hz => ?_, ih⟩
    rcases List.mem_cons.mp hz with rfl | hz
    · exact hpx
    · exact leS_tr p x z hpx ((List.pairwise_cons.mp ih).1 z hz)
theorem srt_strs {l ys : List Str} (hp : ys.Perm l) (hs : sortedS ys = true) : ys = srtS leS l := by
  refine srtS_uniq leS_tot leS_tr leS_an hp ?_
  cases ys with
  | nil => simp
  | cons x r => exact risingS_pw x r hs
theorem foldl_min : ∀ (l : List Int) (a : Int), l.foldl min a ≤ a ∧ (∀ y ∈ l, l.foldl min a ≤ y) ∧ (l.foldl min a = a ∨ l.foldl min a ∈ l)
  | [], a => ⟨Int.le_refl _, by simp, .inl rfl⟩
  | x :: l, a => by
    obtain ⟨h1, h2, h3⟩ := foldl_min l (min a x)
    rw [List.foldl_cons]
    refine ⟨by omega, fun y hy => ?_, ?_⟩
    · rcases List.mem_cons.mp hy with rfl | hy
      · omega
      · exact h2 y hy
    · rcases h3 with h3 | h3
      · rw [h3]
        rcases (by omega : min a x = a ∨ min a x = x) with e | e
        · exact .inl e
        · rw [e]; exact .inr List.mem_cons_self
      · exact .inr (List.mem_cons_of_mem _ h3)
theorem foldl_max : ∀ (l : List Int) (a : Int), a ≤ l.foldl max a ∧ (∀ y ∈ l, y ≤ l.foldl max a) ∧ (l.foldl max a = a ∨ l.foldl max a ∈ l)
  | [], a => ⟨Int.le_refl _, by simp, .inl rfl⟩
  | x :: l, a => by
    obtain ⟨h1, h2, h3⟩ := foldl_max l (max a x)
    rw [List.foldl_cons]
    refine ⟨by omega, fun y hy => ?_, ?_⟩
    · rcases List.mem_cons.mp hy with rfl | hy
      · omega
      · exact h2 y hy
    · rcases h3 with h3 | h3
      · rw [h3]
        rcases (by omega : max a x = a ∨ max a x = x) with e | e
        · exact .inl e
        · rw [e]; exact .inr List.mem_cons_self
      · exact .inr (List.mem_cons_of_mem _ h3)
theorem minI_mem {l : List Int} (h : l ≠ []) : minI l ∈ l ∧ ∀ y ∈ l, minI l ≤ y := by
  cases l with
  | nil => exact absurd rfl h
  | cons a l =>
    obtain ⟨h1, h2, h3⟩ := foldl_min l a
    refine ⟨?_, fun y hy => ?_⟩
    · rcases h3 with h3 | h3
      · show l.foldl min a ∈ a :: l; rw [h3]; exact List.mem_cons_self
      · exact List.mem_cons_of_mem _ h3
    · rcases List.mem_cons.mp hy with rfl | hy
      · exact h1
      · exact h2 y hy
theorem maxI_mem {l : List Int} (h : l ≠ []) : maxI l ∈ l ∧ ∀ y ∈ l, y ≤ maxI l := by
  cases l with
  | nil => exact absurd rfl h
  | cons a l =>
    obtain ⟨h1, h2, h3⟩ := foldl_max l a
    refine ⟨?_, fun y hy => ?_⟩
    · rcases h3 with h3 | h3
      · show l.foldl max a ∈ a :: l; rw [h3]; exact List.mem_cons_self
      · exact List.mem_cons_of_mem _ h3
    · rcases List.mem_cons.mp hy with rfl | hy
      · exact h1
      · exact h2 y hy
section
variable {X : Cx}
theorem reps_one {K : PySem.W.Frag} {ρ : List Addr} {H : Hp} {d : D} {vs : List V} (h : Reps K ρ H [d] vs) : ∃ v, vs = [v] ∧ Rep K ρ H d v := by
  rw [reps_cons] at h
  obtain ⟨v, r, rfl, h1, h2⟩ := h
  rw [reps_nil] at h2
  subst h2
  exact ⟨v, rfl, h1⟩
theorem reps_two {K : PySem.W.Frag} {ρ : List Addr} {H : Hp} {d e : D} {vs : List V} (h : Reps K ρ H [d, e] vs) : ∃ v u, vs = [v, u] ∧ Rep K ρ H d v ∧ Rep K ρ H e u := by
  rw [reps_cons] at h
  obtain ⟨v, r, rfl, h1, h2⟩ := h
  obtain ⟨u, rfl, h3⟩ := reps_one h2
  exact ⟨v, u, rfl, h1, h3⟩
def rBfD (K : PySem.W.Frag) (b : Bf) : List V → Hp → VK → Prop := fun xs H Q => ∃ ρ st ds Q', Ab K ρ st H ∧ Reps K ρ H ds xs ∧ wBf b ds st Q' ∧ Out K ρ H Q' Q
theorem lenD_of {ρ : List Addr} {H : Hp} {st : Sto} (A : Ab X.K ρ st H) {d : D} {v : V} {n : Nat} (h : lenD st d = some n) (r : Rep X.K ρ H d v) : LenV X.K v H n ∨ ∃ (a : Addr) (kvs : List (Key × V)), v = .ref a ∧ H a = some (.dK kvs) ∧ kvs.length = n := by
  have gen : (match seqOf st d with
      | some xs => some xs.length
      | none => dicLen st d) = some n → LenV X.K v H n ∨ ∃ (a : Addr) (kvs : List (Key × V)), v = .ref a ∧ H a = some (.dK kvs) ∧ kvs.length = n := by
    intro h'
    split at h'
    · rename_i xs q
      cases h'
      obtain ⟨p, vs, rfl, hs, q1⟩ := A.seq q r
      rcases hs with hs | hs
      · exact .inl (.inl ⟨vs, hs, q1.length⟩)
      · exact .inl (.inr ⟨vs, hs, q1.length⟩)
    · cases d with
      | ref m =>
        have h2 : (match st[m]? with
          | some (.dK kvs) => some kvs.length
          | _ => none) = some n := h'
        split at h2
        · rename_i kvs e1
          cases h2
          obtain ⟨a, vs, rfl, _, hp, q⟩ := A.dK e1 r
          exact .inr ⟨a, vs, rfl, hp, q.length.symm⟩
        · cases h2
      | _ => cases h'
  cases d with
  | str x =>
    cases h
    obtain ⟨rfl, hx⟩ := rep_str.mp r
    exact .inl ⟨Lm_line hx, rfl⟩
  | _ => exact gen h
theorem call_len_dk : CallR X (.builtin "len") (fun xs H Q => ∃ a kvs, xs = [V.ref a] ∧ H a = some (.dK kvs) ∧ Q (.int kvs.length) H) := by
  intro pins s σ H xs us Q I r h
  obtain ⟨a, kvs, rfl, e, q⟩ := h
  cases r with
  | cons rx rr =>
    cases rr
    cases rx
    exact d_len I (.inl e) fun t s' J => ⟨.int kvs.length, H, J, ⟨t, rfl⟩, q⟩
theorem min_inv {st : Sto} {Q' : KD} : ∀ {ds : List D}, wBf .min2 ds st Q' → ∃ i j, ds = [.int i, .int j] ∧ Q' (.int (if j < i then j else i)) st
  | [], h => False.elim h
  | [a], h => by cases a <;> exact False.elim h
  | [a, b], h => by cases a <;> cases b <;> first | exact ⟨_, _, rfl, h⟩ | exact False.elim h
  | a :: b :: c :: r, h => by cases a <;> cases b <;> exact False.elim h
theorem max_inv {st : Sto} {Q' : KD} : ∀ {ds : List D}, wBf .max2 ds st Q' → ∃ i j, ds = [.int i, .int j] ∧ Q' (.int (if j > i then j else i)) st
  | [], h => False.elim h
  | [a], h => by cases a <;> exact False.elim h
  | [a, b], h => by cases a <;> cases b <;> first | exact ⟨_, _, rfl, h⟩ | exact False.elim h
  | a :: b :: c :: r, h => by cases a <;> cases b <;> exact False.elim h
theorem bls_rep {K : PySem.W.Frag} {ρ : List Addr} {H : Hp} : ∀ {ds : List D} {vs : List V} {bs : List Bool}, blsOf ds = some bs → Reps K ρ H ds vs → vs = bs.map V.bl
  | [], vs, bs, h, r => by cases h; rw [reps_nil] at r; exact r
  | .bl b :: ds, vs, bs, h, r => by
    have h' : (blsOf ds).map (b :: ·) = some bs := h
    rw [Option.map_eq_some_iff] at h'
    obtain ⟨cs, h1, rfl⟩ := h'
    rw [reps_cons] at r
    obtain ⟨v, u, rfl, r1, r2⟩ := r
    cases rep_bl.mp r1
    rw [bls_rep h1 r2]; rfl
  | .non :: _, _, _, h, _ => by cases h
  | .int _ :: _, _, _, h, _ => by cases h
  | .str _ :: _, _, _, h, _ => by cases h
  | .tup _ :: _, _, _, h, _ => by cases h
  | .ref _ :: _, _, _, h, _ => by cases h
theorem ints_rep {K : PySem.W.Frag} {ρ : List Addr} {H : Hp} : ∀ {ds : List D} {vs : List V} {bs : List Int}, intsOf ds = some bs → Reps K ρ H ds vs → vs = bs.map V.int
  | [], vs, bs, h, r => by cases h; rw [reps_nil] at r; exact r
  | .int b :: ds, vs, bs, h, r => by
    have h' : (intsOf ds).map (b :: ·) = some bs := h
    rw [Option.map_eq_some_iff] at h'
    obtain ⟨cs, h1, rfl⟩ := h'
    rw [reps_cons] at r
    obtain ⟨v, u, rfl, r1, r2⟩ := r
    cases rep_int.mp r1
    rw [ints_rep h1 r2]; rfl
  | .non :: _, _, _, h, _ => by cases h
  | .bl _ :: _, _, _, h, _ => by cases h
  | .str _ :: _, _, _, h, _ => by cases h
  | .tup _ :: _, _, _, h, _ => by cases h
  | .ref _ :: _, _, _, h, _ => by cases h
theorem inL_of {α : Type} {f : List D → Option α} {ρ : List Addr} {H : Hp} {st : Sto} (A : Ab X.K ρ st H) {d : D} {v : V} {z : α} (h : inL f st d = some z) (r : Rep X.K ρ H d v) : ∃ a ds vs, v = .ref a ∧ SqL X.K H a vs ∧ Reps X.K ρ H ds vs ∧ f ds = some z := by
  cases d with
  | ref n =>
    have h' : (lstAt st n).bind f = some z := h
    rw [Option.bind_eq_some_iff] at h'
    obtain ⟨ds, h1, h2⟩ := h'
    obtain ⟨a, vs, rfl, _, s1, q1⟩ := A.lst h1 r
    exact ⟨a, ds, vs, rfl, s1, q1, h2⟩
  | _ => cases h
theorem reps_intsD {ρ : List Addr} {H : Hp} : ∀ {zs : List Int}, Reps X.K ρ H (zs.map D.int) (zs.map V.int)
  | [] => reps_nil.mpr rfl
  | z :: zs => reps_cons.mpr ⟨_, _, rfl, rep_int.mpr rfl, reps_intsD⟩
theorem strsOf_rep {ρ : List Addr} {H : Hp} : ∀ {ds : List D} {vs : List V} {zs : List Str}, strsOf ds = some zs → Reps X.K ρ H ds vs → vs = zs.map V.str
  | [], vs, zs, h, r => by cases h; rw [reps_nil] at r; exact r
  | .str x :: ds, vs, zs, h, r => by
    have h' : (strsOf ds).map (x :: ·) = some zs := h
    rw [reps_cons] at r
    obtain ⟨v, r', rfl, h1, h2⟩ := r
    obtain ⟨rfl, _⟩ := rep_str.mp h1
    cases q : strsOf ds with
    | none => rw [q] at h'; cases h'
    | some ys =>
      rw [q] at h'
      cases h'
      rw [strsOf_rep q h2]
      rfl
  | .non :: ds, vs, zs, h, r => by cases h
  | .bl _ :: ds, vs, zs, h, r => by cases h
  | .int _ :: ds, vs, zs, h, r => by cases h
  | .tup _ :: ds, vs, zs, h, r => by cases h
  | .ref _ :: ds, vs, zs, h, r => by cases h
theorem reps_strs {ρ : List Addr} {H : Hp} : ∀ {zs : List Str}, (∀ z ∈ zs, z.length ≤ Lm) → Reps X.K ρ H (zs.map D.str) (zs.map V.str)
  | [], _ => reps_nil.mpr rfl
  | z :: zs, h => reps_cons.mpr ⟨_, _, rfl, rep_str.mpr ⟨rfl, h z List.mem_cons_self⟩, reps_strs fun y hy => h y (List.mem_cons_of_mem _ hy)⟩
theorem keyInts_rep {κ : Type} : ∀ {kvs : List (Key × κ)} {ns : List Int}, keyInts kvs = some ns → kvs.map (·.1) = ns.map Sum.inl
  | [], ns, h => by cases h; rfl
  | (.inl i, d) :: r, ns, h => by
    have h' : (keyInts r).map (i :: ·) = some ns := h
    rw [Option.map_eq_some_iff] at h'
    obtain ⟨ms, h1, rfl⟩ := h'
    rw [List.map_cons, List.map_cons, keyInts_rep h1]
  | (.inr _, _) :: _, _, h => by cases h
theorem strs_short {ρ : List Addr} {H : Hp} : ∀ {zs : List Str}, Reps X.K ρ H (zs.map D.str) (zs.map V.str) → ∀ z ∈ zs, z.length ≤ Lm
  | [], _, z, hz => by simp at hz
  | y :: zs, r, z, hz => by
    rw [List.map_cons, List.map_cons, reps_cons] at r
    obtain ⟨v, u, e, r1, r2⟩ := r
    injection e with e1 e2
    subst e1 e2
    rcases List.mem_cons.mp hz with rfl | hz
    · exact (rep_str.mp r1).2
    · exact strs_short r2 z hz
theorem strsOf_eq : ∀ {ds : List D} {zs : List Str}, strsOf ds = some zs → ds = zs.map D.str
  | [], zs, h => by cases h; rfl
  | .str x :: ds, zs, h => by
    have h' : (strsOf ds).map (x :: ·) = some zs := h
    rw [Option.map_eq_some_iff] at h'
    obtain ⟨ys, h1, rfl⟩ := h'
    rw [strsOf_eq h1]; rfl
  | .non :: _, _, h => by cases h
  | .bl _ :: _, _, h => by cases h
  | .int _ :: _, _, h => by cases h
  | .tup _ :: _, _, h => by cases h
  | .ref _ :: _, _, h => by cases h
theorem ob_bf (hc : X.calm = true) (b : Bf) : CallR X b.fn (rBfD X.K b) := by
  intro pins s σ H xs us Q I rv hh
  obtain ⟨ρ, st, ds, Q', A, r, h, O⟩ := hh
  cases b with
  | len =>
    match ds, h with
    | [d], h =>
      obtain ⟨v, rfl, r1⟩ := reps_one r
      have h' : (match lenD st d with
        | some n => Q' (.int n) st
        | none => False) := h
      split at h'
      · rename_i n e1
        rcases lenD_of A e1 r1 with hl | ⟨a, kvs, rfl, hp, hl⟩
        · exact call_len pins s σ H _ us Q I rv ⟨v, n, rfl, hl, O.keep A (rep_int.mpr rfl) h'⟩
        · exact call_len_dk pins s σ H _ us Q I rv ⟨a, kvs, rfl, hp, by rw [hl]; exact O.keep A (rep_int.mpr rfl) h'⟩
      · exact False.elim h'
    | [], h => exact False.elim h
    | _ :: _ :: _, h => exact False.elim h
  | int =>
    match ds, h with
    | [.int i], h =>
      obtain ⟨v, rfl, r1⟩ := reps_one r
      cases rep_int.mp r1
      exact call_int1 pins s σ H _ us Q I rv (.inl ⟨i, rfl, O.keep A (rep_int.mpr rfl) h⟩)
    | [.bl k], h =>
      obtain ⟨v, rfl, r1⟩ := reps_one r
      cases rep_bl.mp r1
      exact call_int1 pins s σ H _ us Q I rv (.inr ⟨k, rfl, O.keep A (rep_int.mpr rfl) h⟩)
    | [.str a], h =>
      obtain ⟨v, rfl, r1⟩ := reps_one r
      obtain ⟨rfl, _⟩ := rep_str.mp r1
      have h' : (match intText? a with
        | some n => a.length ≤ 640 ∧ Q' (.int n) st
        | none => False) := h
      split at h'
      · rename_i n e1
        exact call_int_str pins s σ H _ us Q I rv ⟨a, n, rfl, e1, h'.1, O.keep A (rep_int.mpr rfl) h'.2⟩
      · exact False.elim h'
    | [.non], h => exact False.elim h
    | [.tup _], h => exact False.elim h
    | [.ref _], h => exact False.elim h
    | [], h => exact False.elim h
    | _ :: _ :: _, h => exact (by revert h; rename_i a b c; cases a <;> exact False.elim)
  | str =>
    match ds, h with
    | [.int i], h =>
      obtain ⟨v, rfl, r1⟩ := reps_one r
      cases rep_int.mp r1
      obtain ⟨h1, h2, h3⟩ : i.natAbs.log2 < 1920 ∧ (toString i : Str).length ≤ Lm ∧ Q' (.str (toString i)) st := h
      exact call_str_int pins s σ H _ us Q I rv ⟨i, rfl, h1, O.keep A (rep_str.mpr ⟨rfl, h2⟩) h3⟩
    | [.non], h => exact False.elim h
    | [.bl _], h => exact False.elim h
    | [.str _], h => exact False.elim h
    | [.tup _], h => exact False.elim h
    | [.ref _], h => exact False.elim h
    | [], h => exact False.elim h
    | _ :: _ :: _, h => exact (by revert h; rename_i a b c; cases a <;> exact False.elim)
  | min2 =>
    have h' := min_inv h
    obtain ⟨i, j, rfl, h'⟩ := h'
    obtain ⟨v, u, rfl, r1, r2⟩ := reps_two r
    cases rep_int.mp r1; cases rep_int.mp r2
    exact call_min2 hc pins s σ H _ us Q I rv ⟨i, j, rfl, O.keep A (rep_int.mpr rfl) h'⟩
  | max2 =>
    have h' := max_inv h
    obtain ⟨i, j, rfl, h'⟩ := h'
    obtain ⟨v, u, rfl, r1, r2⟩ := reps_two r
    cases rep_int.mp r1; cases rep_int.mp r2
    exact call_max2 hc pins s σ H _ us Q I rv ⟨i, j, rfl, O.keep A (rep_int.mpr rfl) h'⟩
  | list =>
    match ds, h with
    | [d], h =>
      obtain ⟨v, rfl, r1⟩ := reps_one r
      have h' : (match seqOf st d with
        | some xs => Q' (.ref st.length) (st ++ [.lst xs])
        | none => False) := h
      split at h'
      · rename_i xs e1
        obtain ⟨p, vs, rfl, hs, q1⟩ := A.seq e1 r1
        exact call_list_of pins s σ H _ us Q I rv ⟨p, vs, rfl, hs, O.newL A q1 h'⟩
      · exact False.elim h'
    | [], h => exact False.elim h
    | _ :: _ :: _, h => exact False.elim h
  | tuple =>
    match ds, h with
    | [d], h =>
      obtain ⟨v, rfl, r1⟩ := reps_one r
      have h' : (match seqOf st d with
        | some xs => Q' (.tup xs) st
        | none => False) := h
      split at h'
      · rename_i xs e1
        obtain ⟨p, vs, rfl, hs, q1⟩ := A.seq e1 r1
        refine call_tuple_of pins s σ H _ us Q I rv ⟨p, vs, rfl, ?_⟩
        rcases hs with hs | hs
        · exact .inl ⟨hs, O.newT A q1 h'⟩
        · exact .inr ⟨hs, O.keep A (rep_tup.mpr ⟨p, vs, rfl, hs, q1⟩) h'⟩
      · exact False.elim h'
    | [], h => exact False.elim h
    | _ :: _ :: _, h => exact False.elim h
  | all =>
    match ds, h with
    | [d], h =>
      obtain ⟨v, rfl, r1⟩ := reps_one r
      have h' : (match inL blsOf st d with
        | some bs => Q' (.bl (bs.all id)) st
        | none => False) := h
      split at h'
      · rename_i bs e1
        obtain ⟨a, ds, vs, rfl, hs, q1, e2⟩ := inL_of A e1 r1
        have ev := bls_rep e2 q1
        subst ev
        exact cr_all hc pins s σ H _ us Q I rv ⟨a, bs, rfl, hs, O.keep A (rep_bl.mpr rfl) h'⟩
      · exact False.elim h'
    | [], h => exact False.elim h
    | _ :: _ :: _, h => exact False.elim h
  | any =>
    match ds, h with
    | [d], h =>
      obtain ⟨v, rfl, r1⟩ := reps_one r
      have h' : (match inL blsOf st d with
        | some bs => Q' (.bl (bs.any id)) st
        | none => False) := h
      split at h'
      · rename_i bs e1
        obtain ⟨a, ds, vs, rfl, hs, q1, e2⟩ := inL_of A e1 r1
        have ev := bls_rep e2 q1
        subst ev
        exact cr_any hc pins s σ H _ us Q I rv ⟨a, bs, rfl, hs, O.keep A (rep_bl.mpr rfl) h'⟩
      · exact False.elim h'
    | [], h => exact False.elim h
    | _ :: _ :: _, h => exact False.elim h
  | sum =>
    match ds, h with
    | [d], h =>
      obtain ⟨v, rfl, r1⟩ := reps_one r
      have h' : (match inL intsOf st d with
        | some bs => Q' (.int bs.sum) st
        | none => False) := h
      split at h'
      · rename_i bs e1
        obtain ⟨a, ds, vs, rfl, hs, q1, e2⟩ := inL_of A e1 r1
        have ev := ints_rep e2 q1
        subst ev
        exact cr_sum hc pins s σ H _ us Q I rv ⟨a, bs, rfl, hs, O.keep A (rep_int.mpr rfl) h'⟩
      · exact False.elim h'
    | [], h => exact False.elim h
    | _ :: _ :: _, h => exact False.elim h
  | min1 =>
    match ds, h with
    | [d], h =>
      obtain ⟨v, rfl, r1⟩ := reps_one r
      have h' : (match inL intsOf st d with
        | some ns => Mu (!ns.isEmpty) (Q' (.int (minI ns)) st)
        | none => False) := h
      split at h'
      · rename_i ns e1
        obtain ⟨he, h'⟩ := mu_and h'
        have hne : ns ≠ [] := by rintro rfl; cases he
        obtain ⟨a, ds, vs, rfl, hs, q1, e2⟩ := inL_of A e1 r1
        have ev := ints_rep e2 q1
        subst ev
        refine cr_min hc pins s σ H _ us Q I rv ⟨a, ns, rfl, hs, List.length_pos_iff.mpr hne, fun m hm hle => ?_⟩
        obtain ⟨k1, k2⟩ := minI_mem hne
        have em : m = minI ns := Int.le_antisymm (hle _ k1) (k2 _ hm)
        rw [em]
        exact O.keep A (rep_int.mpr rfl) h'
      · exact False.elim h'
    | [], h => exact False.elim h
    | _ :: _ :: _, h => exact False.elim h
  | max1 =>
    match ds, h with
    | [d], h =>
      obtain ⟨v, rfl, r1⟩ := reps_one r
      have h' : (match inL intsOf st d with
        | some ns => Mu (!ns.isEmpty) (Q' (.int (maxI ns)) st)
        | none => False) := h
      split at h'
      · rename_i ns e1
        obtain ⟨he, h'⟩ := mu_and h'
        have hne : ns ≠ [] := by rintro rfl; cases he
        obtain ⟨a, ds, vs, rfl, hs, q1, e2⟩ := inL_of A e1 r1
        have ev := ints_rep e2 q1
        subst ev
        refine cr_max hc pins s σ H _ us Q I rv ⟨a, ns, rfl, hs, List.length_pos_iff.mpr hne, fun m hm hle => ?_⟩
        obtain ⟨k1, k2⟩ := maxI_mem hne
        have em : m = maxI ns := Int.le_antisymm (k2 _ hm) (hle _ k1)
        rw [em]
        exact O.keep A (rep_int.mpr rfl) h'
      · exact False.elim h'
    | [], h => exact False.elim h
    | _ :: _ :: _, h => exact False.elim h
  | sorted =>
    match ds, h with
    | [.ref n], h =>
      obtain ⟨v, rfl, r1⟩ := reps_one r
      have h' : (match srtOf st (.ref n) with
        | some ys => Q' (.ref st.length) (st ++ [.lst ys])
        | none => False) := h
      split at h'
      · rename_i ys e1
        have e1' : (match st[n]? with
          | some (.lst xs) => srtL xs
          | some (.dK kvs) => match keyInts kvs with
            | some ns => if ns.length < 64 then some ((srtS leI ns).map D.int) else none
            | none => none
          | _ => none) = some ys := e1
        split at e1'
        · rename_i xs q0
          obtain ⟨p, vs, rfl, hr, hp, q1⟩ := A.mlst q0 r1
          unfold srtL at e1'
          split at e1'
          · rename_i ns q2
            cases e1'
            have ev := ints_rep q2 q1
            subst ev
            refine cr_sortedI pins s σ H _ us Q I rv ⟨p, ns, rfl, .inl (.inl hp), fun ns' p' hpm hpw hn => ?_⟩
            rw [srt_ints hpm hpw]
            exact O.newL A reps_intsD h' p' hn
          · split at e1'
            · rename_i zs q3
              split at e1'
              · rename_i h64
                cases e1'
                have ev := strsOf_rep q3 q1
                subst ev
                have e3 := strsOf_eq q3
                subst e3
                refine cr_sortedS pins s σ H _ us Q I rv ⟨p, zs, rfl, .inl (.inl hp), h64, fun ys' p' hpm hs hn => ?_⟩
                rw [srt_strs hpm hs]
                exact O.newL A (reps_strs fun z hz => strs_short q1 z ((srtS_perm zs).mem_iff.mp hz)) h' p' hn
              · cases e1'
            · cases e1'
        · rename_i kvs q0
          split at e1'
          · rename_i ns q2
            split at e1'
            · rename_i h64
              cases e1'
              obtain ⟨p, vs, rfl, hr, hp, q1⟩ := A.dK q0 r1
              refine call_sortedDI hc pins s σ H _ us Q I rv ⟨p, vs, ns, rfl, .inl hp, by rw [q1.1]; exact keyInts_rep q2, h64, fun ns' p' hpm hpw hn => ?_⟩
              rw [srt_ints hpm hpw]
              exact O.newL A reps_intsD h' p' hn
            · cases e1'
          · cases e1'
        · cases e1'
      · exact False.elim h'
    | [.non], h => exact False.elim h
    | [.bl _], h => exact False.elim h
    | [.int _], h => exact False.elim h
    | [.str _], h => exact False.elim h
    | [.tup _], h => exact False.elim h
    | [], h => exact False.elim h
    | _ :: _ :: _, h => exact False.elim h
  | dict =>
    match ds, h with
    | [.ref n], h =>
      obtain ⟨v, rfl, r1⟩ := reps_one r
      have h' : (match dicAll st (.ref n) with
        | some kvs => Q' (.ref st.length) (st ++ [.dK kvs])
        | none => False) := h
      split at h'
      · rename_i kvs e1
        have e1' : (match st[n]? with
          | some (.dK kvs) => some kvs
          | _ => none) = some kvs := e1
        split at e1'
        · rename_i q0
          cases e1'
          obtain ⟨p, vs, rfl, hr, hp, q1⟩ := A.dK q0 r1
          refine call_dictD pins s σ H _ us Q I rv ⟨p, vs, rfl, .inl hp, fun p' hn => ?_⟩
          have e := ex_new (ρ := ρ) (o := .dK vs) hn [p']
          have q2 := q1.ext e
          refine O _ _ _ _ _ (A.newO (o0 := .dK kvs) hn ⟨vs, upd_same, q2.1, q2.2⟩) e (rep_ref.mpr ⟨p', ?_, rfl⟩) h'
          rw [← A.len, List.getElem?_append_right (Nat.le_refl _), Nat.sub_self]; rfl
        · cases e1'
      · exact False.elim h'
    | [.non], h => exact False.elim h
    | [.bl _], h => exact False.elim h
    | [.int _], h => exact False.elim h
    | [.str _], h => exact False.elim h
    | [.tup _], h => exact False.elim h
    | [], h => exact False.elim h
    | _ :: _ :: _, h => exact False.elim h

def rMtD (K : PySem.W.Frag) (m : Mt) : V → List V → Hp → VK → Prop := fun x xs H Q => ∃ ρ st d ds Q', Ab K ρ st H ∧ Rep K ρ H d x ∧ Reps K ρ H ds xs ∧ wMt m d ds st Q' ∧ Out K ρ H Q' Q
theorem eraseIdx_rep {K : PySem.W.Frag} {ρ : List Addr} {H : Hp} : ∀ {ds : List D} {vs : List V} (n : Nat), Reps K ρ H ds vs → Reps K ρ H (ds.eraseIdx n) (vs.eraseIdx n)
  | [], vs, n, h => by rw [reps_nil] at h; subst h; exact reps_nil.mpr rfl
  | d :: ds, vs, 0, h => by
    rw [reps_cons] at h
    obtain ⟨v, r, rfl, h2, h3⟩ := h
    exact h3
  | d :: ds, vs, n + 1, h => by
    rw [reps_cons] at h
    obtain ⟨v, r, rfl, h2, h3⟩ := h
    exact reps_cons.mpr ⟨v, _, rfl, h2, eraseIdx_rep n h3⟩
theorem ob_mt (hu : X.A.units + 1 < cLine) (m : Mt) : MtR X m.id (rMtD X.K m) := by
  intro pins s σ H x xs v us Q I rx rv hh
  obtain ⟨ρ, st, d, ds, Q', A, r, rs, h, O⟩ := hh
  cases m with
  | append =>
    have h' : ∃ a e, d = .ref a ∧ ds = [e] ∧ (match st[a]? with
      | some (.lst ys) => ys.length < Lm ∧ Q' .non (st.set a (.lst (ys ++ [e])))
      | _ => False) := by
      cases d with
      | ref a => match ds, h with
        | [e], h => exact ⟨a, e, rfl, rfl, h⟩
        | [], h => exact False.elim h
        | _ :: _ :: _, h => exact False.elim h
      | _ => exact False.elim h
    obtain ⟨a, e, rfl, rfl, h'⟩ := h'
    split at h'
    · rename_i ys e1
      obtain ⟨p, vs, rfl, hr, hp, q1⟩ := A.mlst e1 r
      obtain ⟨u, rfl, r1⟩ := reps_one rs
      exact mt_append pins s σ H _ _ v us Q I rx rv ⟨p, vs, u, rfl, rfl, hp, Lm_lt (by rw [← q1.length]; exact h'.1), O.setL A e1 hr hp (q1.append (reps_cons.mpr ⟨u, [], rfl, r1, reps_nil.mpr rfl⟩)) (rep_non.mpr rfl) h'.2⟩
    · exact False.elim h'
  | reverse =>
    have h' : ∃ a, d = .ref a ∧ ds = [] ∧ (match st[a]? with
      | some (.lst ys) => Q' .non (st.set a (.lst ys.reverse))
      | _ => False) := by
      cases d with
      | ref a => match ds, h with
        | [], h => exact ⟨a, rfl, rfl, h⟩
        | _ :: _, h => exact False.elim h
      | _ => exact False.elim h
    obtain ⟨a, rfl, rfl, h'⟩ := h'
    split at h'
    · rename_i ys e1
      obtain ⟨p, vs, rfl, hr, hp, q1⟩ := A.mlst e1 r
      rw [reps_nil] at rs
      subst rs
      exact mt_reverse pins s σ H _ _ v us Q I rx rv ⟨p, vs, rfl, rfl, hp, O.setL A e1 hr hp q1.reverse (rep_non.mpr rfl) h'⟩
    · exact False.elim h'
  | pop =>
    have h' : ∃ a, d = .ref a ∧ ds = [] ∧ (match st[a]? with
      | some (.lst ys) => match ys.getLast? with
        | some d => Q' d (st.set a (.lst ys.dropLast))
        | none => False
      | _ => False) := by
      cases d with
      | ref a => match ds, h with
        | [], h => exact ⟨a, rfl, rfl, h⟩
        | _ :: _, h => exact False.elim h
      | _ => exact False.elim h
    obtain ⟨a, rfl, rfl, h'⟩ := h'
    split at h'
    · rename_i ys e1
      split at h'
      · rename_i z e2
        obtain ⟨p, vs, rfl, hr, hp, q1⟩ := A.mlst e1 r
        rw [reps_nil] at rs
        subst rs
        rw [List.getLast?_eq_getElem?, q1.length] at e2
        obtain ⟨u, hu, ru⟩ := q1.get e2
        exact mt_pop pins s σ H _ _ v us Q I rx rv ⟨p, vs, u, rfl, rfl, hp, hu, O.setL A e1 hr hp q1.dropLast ru h'⟩
      · exact False.elim h'
    · exact False.elim h'
  | join =>
    have h' : ∃ a e, d = .str a ∧ ds = [e] ∧ (match seqOf st e with
      | some ys => match strsOf ys with
        | some zs => (zs.map (·.length)).sum + zs.length * a.length ≤ Lm ∧ (Txt.join a zs).length ≤ Lm ∧ Q' (.str (Txt.join a zs)) st
        | none => False
      | none => False) := by
      cases d with
      | str a => match ds, h with
        | [e], h => exact ⟨a, e, rfl, rfl, h⟩
        | [], h => exact False.elim h
        | _ :: _ :: _, h => exact False.elim h
      | _ => exact False.elim h
    obtain ⟨a, e, rfl, rfl, h'⟩ := h'
    split at h'
    · rename_i ys e1
      split at h'
      · rename_i zs e2
        obtain ⟨u, rfl, r1⟩ := reps_one rs
        obtain ⟨p, vs, rfl, hs, q1⟩ := A.seq e1 r1
        obtain ⟨rfl, _⟩ := rep_str.mp r
        have ev := strsOf_rep e2 q1
        subst ev
        exact mt_join pins s σ H _ _ v us Q I rx rv ⟨a, p, zs, rfl, rfl, hs, h'.1, O.keep A (rep_str.mpr ⟨rfl, h'.2.1⟩) h'.2.2⟩
      · exact False.elim h'
    · exact False.elim h'
  | split =>
    have h' : ∃ a b, d = .str a ∧ ds = [.str b] ∧ ((b.length == 0) = false ∧ a.length + 2 ≤ Lm ∧ (∀ z ∈ Txt.split a b, z.length ≤ Lm)) ∧ Q' (.ref st.length) (st ++ [.lst ((Txt.split a b).map D.str)]) := by
      cases d with
      | str a => match ds, h with
        | [.str e], h => exact ⟨a, e, rfl, rfl, h⟩
        | [], h => exact False.elim h
        | [.non], h => exact False.elim h
        | [.bl _], h => exact False.elim h
        | [.int _], h => exact False.elim h
        | [.tup _], h => exact False.elim h
        | [.ref _], h => exact False.elim h
        | e :: _ :: _, h => exact (by revert h; cases e <;> exact False.elim)
      | _ => exact False.elim h
    obtain ⟨a, b, rfl, rfl, ⟨h1, h2, h3⟩, h4⟩ := h'
    obtain ⟨u, rfl, r1⟩ := reps_one rs
    obtain ⟨rfl, _⟩ := rep_str.mp r1
    obtain ⟨rfl, _⟩ := rep_str.mp r
    exact mt_split pins s σ H _ _ v us Q I rx rv ⟨a, b, rfl, rfl, h1, Lm_line h2, O.newL A (reps_strs h3) h4⟩
  | starts =>
    have h' : ∃ a b, d = .str a ∧ ds = [.str b] ∧ Q' (.bl (Txt.startswith a b)) st := by
      cases d with
      | str a => match ds, h with
        | [.str e], h => exact ⟨a, e, rfl, rfl, h⟩
        | [], h => exact False.elim h
        | [.non], h => exact False.elim h
        | [.bl _], h => exact False.elim h
        | [.int _], h => exact False.elim h
        | [.tup _], h => exact False.elim h
        | [.ref _], h => exact False.elim h
        | e :: _ :: _, h => exact (by revert h; cases e <;> exact False.elim)
      | _ => exact False.elim h
    obtain ⟨a, b, rfl, rfl, h4⟩ := h'
    obtain ⟨u, rfl, r1⟩ := reps_one rs
    obtain ⟨rfl, _⟩ := rep_str.mp r1
    obtain ⟨rfl, _⟩ := rep_str.mp r
    exact mt_startswith pins s σ H _ _ v us Q I rx rv ⟨a, b, rfl, rfl, O.keep A (rep_bl.mpr rfl) h4⟩
  | index =>
    have h' : ∃ a b, d = .str a ∧ ds = [.str b] ∧ (match Builtin.Str.occurrences a b 0 a.length 1 with
      | k :: _ => Q' (.int (k : Nat)) st
      | [] => False) := by
      cases d with
      | str a => match ds, h with
        | [.str e], h => exact ⟨a, e, rfl, rfl, h⟩
        | [], h => exact False.elim h
        | [.non], h => exact False.elim h
        | [.bl _], h => exact False.elim h
        | [.int _], h => exact False.elim h
        | [.tup _], h => exact False.elim h
        | [.ref _], h => exact False.elim h
        | e :: _ :: _, h => exact (by revert h; cases e <;> exact False.elim)
      | _ => exact False.elim h
    obtain ⟨a, b, rfl, rfl, h4⟩ := h'
    obtain ⟨u, rfl, r1⟩ := reps_one rs
    obtain ⟨rfl, _⟩ := rep_str.mp r1
    obtain ⟨rfl, _⟩ := rep_str.mp r
    split at h4
    · rename_i k rest e1
      exact mt_sindex pins s σ H _ _ v us Q I rx rv ⟨a, b, k, rest, rfl, rfl, e1, O.keep A (rep_int.mpr rfl) h4⟩
    · exact False.elim h4
  | get =>
    match ds, h with
    | [y], h =>
      obtain ⟨w, rfl, r2⟩ := reps_one rs
      have h' : (match dicGet st d y with
        | some o => Q' (o.getD .non) st
        | none => False) := h
      split at h'
      · rename_i o e1
        obtain ⟨a, z, rfl, gd, q⟩ := dic_of A e1 r r2
        cases (show v = Value.ref a from rx)
        obtain ⟨u, rfl, ru⟩ := vals1 rv
        refine d_get1 hu I gd ru fun w' s' J rw' => ?_
        rcases q with ⟨rfl, rfl⟩ | ⟨d0, w0, rfl, rfl, r3⟩
        · exact ⟨.non, H, J, rw', O.keep A (rep_non.mpr rfl) h'⟩
        · exact ⟨w0, H, J, rw', O.keep A r3 h'⟩
      · exact False.elim h'
    | [y, y2], h =>
      obtain ⟨w, w2, rfl, r2, r4⟩ := reps_two rs
      have h' : (match dicGet st d y with
        | some o => Q' (o.getD y2) st
        | none => False) := h
      split at h'
      · rename_i o e1
        obtain ⟨a, z, rfl, gd, q⟩ := dic_of A e1 r r2
        cases (show v = Value.ref a from rx)
        obtain ⟨u, u2, rfl, ru, ru2⟩ := vals2 rv
        refine d_get2 hu I gd ru ru2 fun w' s' J rw' => ?_
        rcases q with ⟨rfl, rfl⟩ | ⟨d0, w0, rfl, rfl, r3⟩
        · exact ⟨w2, H, J, rw', O.keep A r4 h'⟩
        · exact ⟨w0, H, J, rw', O.keep A r3 h'⟩
      · exact False.elim h'
    | [], h => exact False.elim h
    | _ :: _ :: _ :: _, h => exact False.elim h
  | extend =>
    have h' : ∃ a b, d = .ref a ∧ ds = [.ref b] ∧ (match st[a]?, st[b]? with
      | some (.lst xs), some (.lst ys) => xs.length + ys.length ≤ Lm ∧ Q' .non (st.set a (.lst (xs ++ ys)))
      | _, _ => False) := by
      cases d with
      | ref a => match ds, h with
        | [.ref b], h => exact ⟨a, b, rfl, rfl, h⟩
        | [.non], h => exact False.elim h
        | [.bl _], h => exact False.elim h
        | [.int _], h => exact False.elim h
        | [.str _], h => exact False.elim h
        | [.tup _], h => exact False.elim h
        | [], h => exact False.elim h
        | e :: _ :: _, h => exact (by revert h; cases e <;> exact False.elim)
      | _ => exact False.elim h
    obtain ⟨a, b, rfl, rfl, h'⟩ := h'
    split at h'
    · rename_i xs ys e1 e2
      obtain ⟨p, vs, rfl, hr, hp, q1⟩ := A.mlst e1 r
      obtain ⟨u, rfl, r1⟩ := reps_one rs
      obtain ⟨p', ws, rfl, hr', hp', q2⟩ := A.mlst e2 r1
      exact mt_extend pins s σ H _ _ v us Q I rx rv ⟨p, p', vs, ws, rfl, rfl, hp, hp', Lm_line (by rw [← q1.length, ← q2.length]; exact h'.1), O.setL A e1 hr hp (q1.append q2) (rep_non.mpr rfl) h'.2⟩
    · exact False.elim h'
  | clear =>
    have h' : ∃ a, d = .ref a ∧ ds = [] ∧ (match st[a]? with
      | some (.lst _) => Q' .non (st.set a (.lst []))
      | _ => False) := by
      cases d with
      | ref a => match ds, h with
        | [], h => exact ⟨a, rfl, rfl, h⟩
        | _ :: _, h => exact False.elim h
      | _ => exact False.elim h
    obtain ⟨a, rfl, rfl, h'⟩ := h'
    split at h'
    · rename_i ys e1
      obtain ⟨p, vs, rfl, hr, hp, q1⟩ := A.mlst e1 r
      rw [reps_nil] at rs
      subst rs
      exact mt_clear pins s σ H _ _ v us Q I rx rv ⟨p, vs, rfl, rfl, hp, O.setL A e1 hr hp (reps_nil.mpr rfl) (rep_non.mpr rfl) h'⟩
    · exact False.elim h'
  | insert =>
    have h' : ∃ a k e, d = .ref a ∧ ds = [.int k, e] ∧ (match st[a]? with
      | some (.lst ys) => (ys.length < Lm ∧ 0 ≤ k ∧ k < 2 ^ 63) ∧ Q' .non (st.set a (.lst (ys.take k.toNat ++ [e] ++ ys.drop k.toNat)))
      | _ => False) := by
      cases d with
      | ref a => match ds, h with
        | [.int k, e], h => exact ⟨a, k, e, rfl, rfl, h⟩
        | [.non, _], h => exact False.elim h
        | [.bl _, _], h => exact False.elim h
        | [.str _, _], h => exact False.elim h
        | [.tup _, _], h => exact False.elim h
        | [.ref _, _], h => exact False.elim h
        | [], h => exact False.elim h
        | [e], h => exact (by revert h; cases e <;> exact False.elim)
        | e :: _ :: _ :: _, h => exact (by revert h; cases e <;> exact False.elim)
      | _ => exact False.elim h
    obtain ⟨a, k, e, rfl, rfl, h'⟩ := h'
    split at h'
    · rename_i ys e1
      obtain ⟨p, vs, rfl, hr, hp, q1⟩ := A.mlst e1 r
      obtain ⟨u, w, rfl, r1, r2⟩ := reps_two rs
      cases rep_int.mp r1
      exact mt_insert pins s σ H _ _ v us Q I rx rv ⟨p, vs, k, w, rfl, rfl, hp, Lm_lt (by rw [← q1.length]; exact h'.1.1), h'.1.2.1, h'.1.2.2, O.setL A e1 hr hp (((q1.take _).append (reps_cons.mpr ⟨w, [], rfl, r2, reps_nil.mpr rfl⟩)).append (q1.drop _)) (rep_non.mpr rfl) h'.2⟩
    · exact False.elim h'
  | popAt =>
    have h' : ∃ a k, d = .ref a ∧ ds = [.int k] ∧ (match st[a]? with
      | some (.lst ys) => match ixN ys.length k with
        | some j => match ys[j]? with
          | some d => Q' d (st.set a (.lst (ys.eraseIdx j)))
          | none => False
        | none => False
      | _ => False) := by
      cases d with
      | ref a => match ds, h with
        | [.int k], h => exact ⟨a, k, rfl, rfl, h⟩
        | [.non], h => exact False.elim h
        | [.bl _], h => exact False.elim h
        | [.str _], h => exact False.elim h
        | [.tup _], h => exact False.elim h
        | [.ref _], h => exact False.elim h
        | [], h => exact False.elim h
        | e :: _ :: _, h => exact (by revert h; cases e <;> exact False.elim)
      | _ => exact False.elim h
    obtain ⟨a, k, rfl, rfl, h'⟩ := h'
    split at h'
    · rename_i ys e1
      split at h'
      · rename_i j ej
        split at h'
        · rename_i z ez
          obtain ⟨p, vs, rfl, hr, hp, q1⟩ := A.mlst e1 r
          obtain ⟨u, rfl, r1⟩ := reps_one rs
          cases rep_int.mp r1
          obtain ⟨w, hw, rw'⟩ := q1.get ez
          obtain ⟨its, rv2, _, hz⟩ := I.list (.inl (.inl hp))
          have hl := line63
          have hlen := rv2.length
          have hlen2 := q1.length
          obtain ⟨b1, _, b2, b3⟩ := ixN_seq ej
          rw [hlen2] at b1
          exact mt_popAt pins s σ H _ _ v us Q I rx rv ⟨p, vs, k, j, w, rfl, rfl, hp, by omega, by omega, b1, hw, O.setL A e1 hr hp (eraseIdx_rep j q1) rw' h'⟩
        · exact False.elim h'
      · exact False.elim h'
    · exact False.elim h'
  | lindex =>
    have h' : ∃ a e, d = .ref a ∧ ds = [e] ∧ (match lstAt st a with
      | some ys => (flat e = true ∧ ys.all flat = true) ∧ match ys.findIdx? fun z => eqF z e with
        | some k => Q' (.int (k : Nat)) st
        | none => False
      | none => False) := by
      cases d with
      | ref a => match ds, h with
        | [e], h => exact ⟨a, e, rfl, rfl, h⟩
        | [], h => exact False.elim h
        | _ :: _ :: _, h => exact False.elim h
      | _ => exact False.elim h
    obtain ⟨a, e, rfl, rfl, h'⟩ := h'
    split at h'
    · rename_i ys e1
      obtain ⟨⟨f1, f2⟩, h'⟩ := h'
      split at h'
      · rename_i k ek
        obtain ⟨p, vs, rfl, _, hs, q1⟩ := A.lst e1 r
        obtain ⟨u, rfl, r1⟩ := reps_one rs
        rw [List.findIdx?_eq_some_iff_getElem] at ek
        obtain ⟨hk, e2, e3⟩ := ek
        obtain ⟨w, hw, rw'⟩ := q1.get (List.getElem?_eq_getElem hk)
        have fl : ∀ (m : Nat) z, ys[m]? = some z → flat z = true := fun m z hz => List.all_eq_true.mp f2 z (List.mem_of_getElem? hz)
        refine mt_index pins s σ H _ _ v us Q I rx rv ⟨p, vs, u, k, w, rfl, rfl, hs, flat_of f1 r1, flats_of f2 q1, hw, ?_, fun m z' hm hz' => ?_, O.keep A (rep_int.mpr rfl) h'⟩
        · rw [eqF_of (fl k _ (List.getElem?_eq_getElem hk)) f1 rw' r1]; exact e2
        · have hml : m < ys.length := Nat.lt_trans hm hk
          obtain ⟨w2, hw2, rw2⟩ := q1.get (List.getElem?_eq_getElem hml)
          rw [hz'] at hw2
          cases hw2
          rw [eqF_of (fl m _ (List.getElem?_eq_getElem hml)) f1 rw2 r1]
          simpa using e3 m hm
      · exact False.elim h'
    · exact False.elim h'
end
end Q3

set_option Elab.async false
set_option linter.all false
set_option maxRecDepth 100000
set_option maxHeartbeats 4000000
/-! Q3e: the text against the syntax of Q3a. -/
namespace Q3
open PySem PySem.Spec PyProof.Rows L2

/-- the names: of defs, of constants, of built-ins -/
structure Nms where
  F : List Str
  Gn : List Str
  B : List Str
  Xn : List Str := []
  calm : Bool := true
  exn : Option Nat := none
  /-- of written dicts -/
  Kn : List Str := []
def visB (sc : Scope) (x : Str) : Bool := match sc.names.lookup x with
  | some .local => true
  | some .cell => true
  | some .free => true
  | _ => false
def locB (sc : Scope) (x : Str) : Bool := match sc.names.lookup x with
  | some .local => true
  | some .cell => true
  | _ => false
def gloB (sc : Scope) (x : Str) : Bool := (match sc.names.lookup x with
  | some .globalImplicit => true
  | _ => false) && !(x == ("__debug__" : Str)) && !(x == ("__name__" : Str))
/-- a built-in type's name -/
def tyB (M : Nms) (sc : Scope) (t : Ty) : Expr → Bool
  | .Name x _ => decide (x = (Str.ofString t.nm)) && !t.isOwn && decide (x ∈ M.B) && gloB sc x
  | _ => false
def tysB (M : Nms) (sc : Scope) : List Ty → Expr → Bool
  | [t], .Name x p => tyB M sc t (.Name x p)
  | ts, .Tuple es _ _ => decide (ts.length = es.length) && decide (ts.length ≤ 1000) && (ts.zip es).all fun p => tyB M sc p.1 p.2
  | _, _ => false
/-- an own or built-in exception class, by number -/
def xnB (Xn : List Str) (sc : Scope) (t : Nat) : Expr → Bool
  | .Name x _ => decide (Xn[t]? = some x) && gloB sc x
  | _ => false
def xnsB (Xn : List Str) (sc : Scope) : List Nat → Expr → Bool
  | [t], .Name x p => xnB Xn sc t (.Name x p)
  | ts, .Tuple es _ _ => decide (ts.length = es.length) && decide (ts.length ≤ 1000) && (ts.zip es).all fun p => xnB Xn sc p.1 p.2
  | _, _ => false
def exnB (exn : Option Nat) (N : List Str) (x : Str) : Bool := match exn with
  | some i => decide (N[i]? = some x)
  | none => false
def nameB (sc : Scope) (x : Str) : Bool := visB sc x && !(x == ("__debug__" : Str)) && !(x == ("__classdict__" : Str))
def plainObj : Expr → Bool
  | .Call (.Name _ _) [] [] _ => false
  | _ => true
def isTupE : Expr → Bool
  | .Tuple _ _ _ => true
  | _ => false
def I.tgB : I → Expr → Bool
  | .enum _, tg => isTupE tg
  | .zip _ _, tg => isTupE tg
  | _, _ => true
def namesOf : Expr → Option (List Str)
  | .Name x _ => some [x]
  | .Tuple es _ _ => es.mapM fun e => match e with
    | .Name x _ => some x
    | _ => none
  | _ => none
def chkTg (N : List Str) (loc : Str → Bool) (g : Tg) (tg : Expr) : Bool := match g, tg with
  | .nm i, .Name x _ => decide (N[i]? = some x) && loc x
  | .tp is, .Tuple es _ _ => decide (is.length = es.length) && (is.zip es).all fun p => match p.2 with
    | .Name x _ => decide (N[p.1]? = some x) && loc x
    | _ => false
  | _, _ => false
def ownOf (g : Tg) (tg : Expr) : List (Str × Nat) := match namesOf tg with
  | some xs => xs.zip g.slots
  | none => []
def oplB (no : Bool) (r : Expr → Bool) : Option Expr → Bool
  | none => no
  | some p => !no && r p
def ifsB (yes : Bool) (r : Expr → Bool) : List Expr → Bool
  | [] => yes
  | [p] => r p
  | _ => false
def T.isYes : T → Bool
  | .yes => true
  | _ => false
def E.asVal : E → Bool
  | .and _ _ => false
  | .or _ _ => false
  | .not _ => false
  | .ite _ _ _ => false
  | _ => true
/-- a key that is written -/
def keyB : Key → Option Expr → Bool
  | .inl i, some (.Constant (.int j) _ _) => decide (i = j)
  | .inr x, some (.Constant (.str y) _ _) => decide (x = y)
  | _, _ => false
def keysB : List Key → List (Option Expr) → Bool
  | [], [] => true
  | k :: ks, e :: es => keyB k e && keysB ks es
  | _, _ => false
section
variable (M : Nms) (N : List Str)
mutual
def chkE : E → Scope → Expr → Bool
  | .var i, sc, .Name x _ => decide (N[i]? = some x) && visB sc x && !(x == ("__debug__" : Str)) && !(x == ("__classdict__" : Str))
  | .int i, _, .Constant (.int j) _ _ => decide (i = j)
  | .str x, _, .Constant (.str y) _ _ => decide (x = y) && decide (x.length ≤ Lm)
  | .bl b, _, .Constant (.bool c) _ _ => b == c
  | .non, _, .Constant .none _ _ => true
  | .glob k, sc, .Name x _ => decide (M.Gn[k]? = some x) && gloB sc x
  | .bin o a b, sc, .BinOp pa op pb _ => decide (op = o.py) && chkE a sc pa && chkE b sc pb
  | .neg a, sc, .UnaryOp .USub pa _ => chkE a sc pa
  | .cmp o a b, sc, .Compare pa [op] [pb] _ => decide (op = o.py) && !behindInMarks op pb && chkE a sc pa && chkE b sc pb
  | .chain o p a b c, sc, .Compare pa [op, op'] [pb, pc] _ => decide (op = o.py) && decide (op' = p.py) && !lastMarks [op, op'] [pb, pc] && chkE a sc pa && chkE b sc pb && chkE c sc pc
  | .and a b, sc, .BoolOp .And [pa, pb] _ => chkE a sc pa && chkE b sc pb
  | .and a b, sc, .BoolOp .And (pa :: pb :: pc :: r) pos => chkE a sc pa && chkE b sc (.BoolOp .And (pb :: pc :: r) pos)
  | .or a b, sc, .BoolOp .Or [pa, pb] _ => chkE a sc pa && chkE b sc pb
  | .or a b, sc, .BoolOp .Or (pa :: pb :: pc :: r) pos => chkE a sc pa && chkE b sc (.BoolOp .Or (pb :: pc :: r) pos)
  | .not a, sc, .UnaryOp .Not pa _ => chkE a sc pa
  | .ite c a b, sc, .IfExp pc pa pb _ => chkT c sc pc && chkE a sc pa && chkE b sc pb
  | .sl a lo hi, sc, .Subscript pa (.Slice pl ph none _) _ => chkE a sc pa && oplB lo.isNo (fun p => chkE lo sc p) pl && oplB hi.isNo (fun p => chkE hi sc p) ph
  | .ix a i, sc, .Subscript pa pi _ => chkE a sc pa && chkE i sc pi
  | .tup es, sc, .Tuple pes _ _ => chkEs es sc pes
  | .lst es, sc, .List pes _ => chkEs es sc pes
  | .dct ks es, sc, .Dict keys pes _ => keysB ks keys && decide (ks.length = pes.length) && !keys.isEmpty && decide (keys.length ≤ 15) && keys.all (·.isSome) && decide (keys.length = pes.length) && chkEs es sc pes
  | .dc0, _, .Dict [] [] _ => true
  | .kget k e, sc, .Call (.Attribute (.Name x _) name apos) [pe] [] cpos => decide (name = "get") && decide (M.Kn[k]? = some x) && gloB sc x && (apos.endLine == cpos.line) && chkE e sc pe
  | .kix k e, sc, .Subscript (.Name x _) pe _ => decide (M.Kn[k]? = some x) && gloB sc x && chkE e sc pe
  | .kin neg k e, sc, .Compare pe [op] [.Name x _] _ => decide (op = if neg = true then .NotIn else .In) && decide (M.Kn[k]? = some x) && gloB sc x && chkE e sc pe
  | .dcT, _, .Dict [] [] _ => true
  | .call f es, sc, .Call (.Name x _) pes [] _ => M.calm && decide (M.F[f]? = some x) && gloB sc x && chkEs es sc pes
  | .bf b es, sc, .Call (.Name x _) pes [] _ => M.calm && decide (x = b.nm) && decide (x ∈ M.B) && gloB sc x && !pes.isEmpty && chkEs es sc pes
  | .isi e ts, sc, .Call (.Name x _) [pe, pt] [] _ => decide (x = "isinstance") && decide (x ∈ M.B) && gloB sc x && chkE e sc pe && tysB M sc ts pt
  | .mt m o es, sc, .Call (.Attribute po name apos) pes [] cpos => decide (name = m.nm) && plainObj po && (apos.endLine == cpos.line) && decide (pes.length < 29) && chkE o sc po && chkEs es sc pes
  | .comp elt g it c, sc, .ListComp pelt [⟨tg, pit, ifs, 0⟩] scope _ =>
    M.calm && it.tgB tg && chkI it sc pit && blkC N sc scope (ownOf g tg) && decide ((ownOf g tg).map (·.2) = g.slots) && chkTg N (locB scope) g tg && chkE elt (relS scope sc) pelt && ifsB c.isYes (fun p => chkT c (relS scope sc) p) ifs
  | .fld e f, sc, .Attribute pe name _ => decide (name = decS f) && plainObj pe && chkE e sc pe
  | .mth o m es, sc, .Call (.Attribute po name apos) pes [] cpos => M.calm && decide (name = decS m) && plainObj po && (apos.endLine == cpos.line) && decide (pes.length < 29) && chkE o sc po && chkEs es sc pes
  | .new c es, sc, .Call (.Name x _) pes [] _ => M.calm && decide (x = decS c) && gloB sc x && chkEs es sc pes
  | .exf f, sc, .Attribute (.Name x _) name _ => decide (name = f) && exnB M.exn N x && nameB sc x
  | .isx ts, sc, .Call (.Name y _) [.Name x _, pt] [] _ => decide (y = "isinstance") && decide (y ∈ M.B) && gloB sc y && exnB M.exn N x && nameB sc x && xnsB M.Xn sc ts pt
  | _, _, _ => false
def chkEs : Es → Scope → List Expr → Bool
  | .nil, _, [] => true
  | .cons e es, sc, pe :: pes => chkE e sc pe && chkEs es sc pes
  | _, _, _ => false
def chkT : T → Scope → Expr → Bool
  | .val e, sc, pe => e.asVal && chkE e sc pe
  | .and a b, sc, .BoolOp .And [pa, pb] _ => chkT a sc pa && chkT b sc pb
  | .and a b, sc, .BoolOp .And (pa :: pb :: pc :: r) pos => chkT a sc pa && chkT b sc (.BoolOp .And (pb :: pc :: r) pos)
  | .or a b, sc, .BoolOp .Or [pa, pb] _ => chkT a sc pa && chkT b sc pb
  | .or a b, sc, .BoolOp .Or (pa :: pb :: pc :: r) pos => chkT a sc pa && chkT b sc (.BoolOp .Or (pb :: pc :: r) pos)
  | .not a, sc, .UnaryOp .Not pa _ => chkT a sc pa
  | _, _, _ => false
def chkI : I → Scope → Expr → Bool
  | .seq e, sc, pe => chkE e sc pe
  | .rng1 a, sc, .Call (.Name x _) [pa] [] _ => decide (x = "range") && decide (x ∈ M.B) && gloB sc x && chkE a sc pa
  | .rng2 a b, sc, .Call (.Name x _) [pa, pb] [] _ => decide (x = "range") && decide (x ∈ M.B) && gloB sc x && chkE a sc pa && chkE b sc pb
  | .enum a, sc, .Call (.Name x _) [pa] [] _ => decide (x = "enumerate") && decide (x ∈ M.B) && gloB sc x && chkE a sc pa
  | .rev a, sc, .Call (.Name x _) [pa] [] _ => decide (x = "reversed") && decide (x ∈ M.B) && gloB sc x && chkE a sc pa
  | .zip a b, sc, .Call (.Name x _) [pa, pb] [] _ => decide (x = "zip") && decide (x ∈ M.B) && gloB sc x && chkE a sc pa && chkE b sc pb
  | _, _, _ => false
end
end
end Q3

set_option Elab.async false
set_option linter.all false
set_option maxRecDepth 100000
set_option maxHeartbeats 4000000
/-! Q3x: rules over the kit: an own base's __init__ called, an exception's own __init__, isinstance of a caught exception. -/
namespace Q3
open PySem PySem.Spec PyProof.Rows L2
/-- a method's call, few arguments, on one line: as it is read -/
theorem eval_meth {o : Expr} {name : Str} {apos pos : Pos} {args : List Expr} {env : Env} (hb : attributeBase o name env (eval o env) = eval o env)
    (hfew : ((backTo pos (starEach args env)).all (fun x => !x.1) && (backToKw pos (keywordEach [] env)).all (fun x => x.1.isSome) && decide (args.length + ([] : List Keyword).length + (if ([] : List Keyword).isEmpty then 0 else 1) < 30)) = true)
    (hl : (apos.endLine == pos.line) = true) : eval (.Call (.Attribute o name apos) args [] pos) env = (do
      let ov ← eval o env
      standAt apos.atName
      let (f, fst) ← holding [ov] (getMethod ov name (do return (← importBound o env).getD true))
      callWith pos f fst (backTo pos (starEach args env)) (backToKw pos (keywordEach [] env))) := by
  have hform : methodCallForm (args.length + ([] : List Keyword).length) (backTo pos (starEach args env)) (backToKw pos (keywordEach [] env)) = true := by
    refine Eq.trans ?_ hfew
    unfold methodCallForm
    have e : (backToKw pos (keywordEach [] env)).isEmpty = ([] : List Keyword).isEmpty := rfl
    rw [e]
  rw [arm_eval_Call, hb]
  unfold methodCall calleeOf methodCallPos
  simp only [hform, hl, if_true, Bool.not_true, Bool.or_true, pure_bind]
section
variable {sc : Scope}
theorem visB_ok {x : Str} (h : visB sc x = true) : Vis sc x := by
  unfold visB at h
  split at h
  · exact .inl (by assumption)
  · exact .inr (.inl (by assumption))
  · exact .inr (.inr (by assumption))
  · cases h
theorem gloB_ok {x : Str} (h : gloB sc x = true) : sc.names.lookup x = some .globalImplicit ∧ (x == ("__debug__" : Str)) = false ∧ x ≠ "__name__" := by
  unfold gloB at h
  rw [Bool.and_eq_true, Bool.and_eq_true] at h
  obtain ⟨⟨h1, h2⟩, h3⟩ := h
  refine ⟨?_, by simpa using h2, by simpa using h3⟩
  split at h1
  · assumption
  · cases h1
end
/-- what the base class must say -/
structure BasI (K : PySem.W.Frag) (B : Addr) : Prop where
  rd : PySem.W.readsIn K B (.type "type") = true
  ga : PySem.W.specialIn K (.ref B) "__getattribute__" = some (some (.builtin "type.__getattribute__"))
  at_ : PySem.W.findCls K (.ref B) (.type "type") "__init__" = some (.val (.builtin "ValueError.__init__"))
section
variable {X : Cx} {e : Expr} {es : List Expr} {ta : TA} {p1 p2 pos : Pos}
/-- Base.__init__(self, ..), Base an own class over ValueError -/
theorem pe_oinit {pl : Sem Bool} {B : Addr} {x : Str} (hg : Gl X x) (hm : X.mg x = some (.ref B)) (T : BasI X.K B) (hdb : (x == ("__debug__" : Str)) = false) (ha : PA X (e :: es) ta)
    (he : starEach (e :: es) X.env = (false, eval e X.env) :: starEach es X.env) (hpl : (backTo pos (starEach es X.env)).any (·.1) = false)
    (hc : eval (.Call (.Attribute (.Name x p1) "__init__" p2) (e :: es) [] pos) X.env = (do
      let ov ← eval (.Name x p1) X.env
      standAt p2.atName
      let (f, fst) ← holding [ov] (getMethod ov "__init__" pl)
      callWith pos f fst (backTo pos (starEach (e :: es) X.env)) (backToKw pos (keywordEach [] X.env)))) :
    PE X (.Call (.Attribute (.Name x p1) "__init__" p2) (e :: es) [] pos) (tVeI X.K ta) := by
  refine ⟨fun pins s σ H Q I h => ?_⟩
  refine PySem.W.methodCall_KW (ld_glob I hg hm ?_ hdb) hc
  refine PySem.W.method_cls I.kIn T.ga (PySem.W.cls_value I.kIn T.rd T.at_ (by decide +kernel) ?_)
  refine PyProof.Rows.callWith_method1 (thn (ha.run pos pins _ σ H _ (I.tok _) h) fun us s1 ⟨vs, H1, I1, r1, a, C, ws, ev, hl, T, ea, q⟩ => ?_) he hpl
  subst ev
  cases r1 with
  | @cons _ u0 _ ur ra rw' =>
    obtain rfl : u0 = Value.ref a := ra
    have hlen : ur.length ≤ sizeLine := by
      rw [← Paired.length rw', sizeLine_eq]
      omega
    exact oinit_ok T I1 ea hlen fun s' J => ⟨.non, H1, J, rfl, q⟩
end
/-! ### an exception's own __init__ -/
def chkXF : List Str → List Stmt → Bool
  | [], [] => true
  | f :: fs, .Assign [.Attribute (.Name s _) g _] (.Name h _) _ :: r => decide (s = "self") && decide (g = f) && decide (h = f) && chkXF fs r
  | _, _ => false
/-- none: the base is ValueError itself -/
def chkXI (b : Option Str) (fs : List Str) : List Stmt → Bool
  | .Expr (.Call (.Attribute (.Name x _) n p2) [.Name s _, .Constant (.str _) _ _] [] p5) _ :: r => (p2.endLine == p5.line) && decide (n = "__init__") && decide (s = "self") && decide (x = b.getD "ValueError") && chkXF fs r
  | _ => false
theorem chkXF_inv {f : Str} {fs : List Str} {r : List Stmt} (h : chkXF (f :: fs) r = true) : ∃ p1 p2 p3 p4 r', r = .Assign [.Attribute (.Name "self" p1) f p2] (.Name f p3) p4 :: r' ∧ chkXF fs r' = true := by
  unfold chkXF at h
  split at h
  · rename_i q
    cases q
  · rename_i q
    cases q
    simp only [Bool.and_eq_true, decide_eq_true_eq] at h
    obtain ⟨⟨⟨rfl, rfl⟩, rfl⟩, h⟩ := h
    exact ⟨_, _, _, _, _, rfl, h⟩
  · cases h
theorem chkXI_inv {b : Option Str} {fs : List Str} {r : List Stmt} (h : chkXI b fs r = true) : ∃ p1 p2 p3 m k p4 p5 p6 r', r = .Expr (.Call (.Attribute (.Name (b.getD "ValueError") p1) "__init__" p2) [.Name "self" p3, .Constant (.str m) k p4] [] p5) p6 :: r' ∧ (p2.endLine == p5.line) = true ∧ chkXF fs r' = true := by
  unfold chkXI at h
  split at h
  · simp only [Bool.and_eq_true, decide_eq_true_eq] at h
    obtain ⟨⟨⟨⟨hln, rfl⟩, rfl⟩, rfl⟩, h⟩ := h
    exact ⟨_, _, _, _, _, _, _, _, _, rfl, hln, h⟩
  · cases h
structure XiC (K : PySem.W.Frag) (mg : Str → Option Value) (N : List Str) (sc : Scope) (X : Cx) : Prop where
  K : X.K = K
  mg : X.mg = mg
  N : X.N = N
  sc : X.env.scope = sc
def nmOk (sc : Scope) (x : Str) : Bool := visB sc x && !(x == ("__debug__" : Str)) && !(x == ("__classdict__" : Str))
theorem nmOk_pe {K : PySem.W.Frag} {mg : Str → Option Value} {N : List Str} {sc : Scope} {X : Cx} (C : XiC K mg N sc X) {x : Str} {i : Nat} {p : Pos} (h : nmOk sc x = true) (hi : N[i]? = some x) : PE X (.Name x p) (tVar i) := by
  unfold nmOk at h
  rw [Bool.and_eq_true, Bool.and_eq_true, Bool.not_eq_true', Bool.not_eq_true'] at h
  exact pe_var (by rw [C.N]; exact hi) (by rw [C.sc]; exact visB_ok h.1.1) h.1.2 h.2
theorem xd_same {H : Hp} {a : Addr} {u : HO} (h : H a = some u) : upd H a u = H := by
  funext b
  by_cases e : b = a
  · subst e; rw [upd_same, h]
  · rw [upd_ne e]
/-- the stores behind the first one -/
theorem xf_more {K : PySem.W.Frag} {mg : Str → Option Value} {N : List Str} {sc : Scope} {C : Addr} (T : OexC K C) (hs : nmOk sc "self" = true) (h0 : N[0]? = some ("self" : Str)) : ∀ (fs : List Str) (j : Nat) (r : List Stmt), chkXF fs r = true → (∀ f ∈ fs, nmOk sc f = true ∧ PySem.W.findIn K (.ref C) f = some none) → (∀ k : Nat, k < fs.length → N[j + k]? = fs[k]?) →
    ∃ t, (∀ X, XiC K mg N sc X → PSs X r t) ∧ ∀ (D : Ends) (σ : L2.St) (H : Hp) (a dx : Addr) (acc : List (Str × V)) (ws : List V), σ[0]? = some (some (.ref a)) → ws.length = fs.length → (∀ k : Nat, k < ws.length → σ[j + k]? = (ws[k]?).map some) → H a = some (exo a C (some dx)) → H dx = some (exd dx acc) → a ≠ dx →
      acc.length + fs.length ≤ 900 → D.nx σ (upd H dx (exd dx ((fs.zip ws).reverse ++ acc))) → t D σ H
  | [], j, r, hr, _, _ => by
    cases r with
    | cons _ _ => exact absurd hr Bool.false_ne_true
    | nil =>
      refine ⟨tNext, fun X _ => pss_nil, fun D σ H a dx acc ws _ hl _ _ hd _ _ q => ?_⟩
      have e : upd H dx (exd dx acc) = H := xd_same hd
      have q' : D.nx σ (upd H dx (exd dx acc)) := q
      rw [e] at q'
      exact q'
  | h :: fs, j, r, hr, hf, hN => by
    · obtain ⟨p1, p2, p3, p4, r, rfl, hr'⟩ := chkXF_inv hr
      obtain ⟨t, pt, rt⟩ := xf_more T hs h0 fs (j + 1) r hr' (fun f hf' => hf f (List.mem_cons_of_mem _ hf')) (fun k hk => by
        have := hN (k + 1) (Nat.succ_lt_succ hk)
        rw [show j + (k + 1) = j + 1 + k by omega] at this
        rw [this]; rfl)
      have hj : N[j]? = some h := by have := hN 0 (Nat.succ_pos _); simpa using this
      refine ⟨tSeq (tOst K h (tVar 0) (tVar j)) t, fun X hX => ?_, fun D σ H a dx acc ws hσ hl hw ha hd hne hle q => ?_⟩
      · have q := ps_ost (X := X) (f := h) (p' := p2) (pos := p4) (nmOk_pe hX hs h0 (p := p1)) (nmOk_pe hX (hf h List.mem_cons_self).1 hj (p := p3))
        rw [hX.K] at q
        exact pss_cons q (pt X hX)
      · match ws, hl with
        | w :: ws, hl =>
          have hj' : σ[j]? = some (some w) := by have := hw 0 (Nat.succ_pos _); simpa using this
          refine ⟨w, hj', .ref a, hσ, a, C, rfl, T, (hf h List.mem_cons_self).2, .inr ⟨dx, acc, ha, hd, by simp at hle; omega, ?_⟩⟩
          refine rt D σ _ a dx ((h, w) :: acc) ws hσ (by simpa using hl) (fun k hk => ?_) (by rw [upd_ne hne]; exact ha) upd_same hne (by simp at hle ⊢; omega) ?_
          · have := hw (k + 1) (Nat.succ_lt_succ hk)
            rw [show j + (k + 1) = j + 1 + k by omega] at this
            rw [this]; rfl
          · have e1 : ((h :: fs).zip (w :: ws)).reverse ++ acc = (fs.zip ws).reverse ++ (h, w) :: acc := by simp
            rw [e1] at q
            have e2 : upd (upd H dx (exd dx ((h, w) :: acc))) dx (exd dx ((fs.zip ws).reverse ++ (h, w) :: acc)) = upd H dx (exd dx ((fs.zip ws).reverse ++ (h, w) :: acc)) := by
              funext b
              by_cases e : b = dx
              · subst e; rw [upd_same, upd_same]
              · rw [upd_ne e, upd_ne e, upd_ne e]
            rw [e2]
            exact q
        | [], hl => cases hl
def BasOk (K : PySem.W.Frag) (mg : Str → Option Value) : Option Str → Prop
  | none => mg "ValueError" = none ∧ PySem.W.findCls K (.type "ValueError") (.type "type") "__init__" = some (.val (.builtin "ValueError.__init__"))
  | some x => ∃ B, mg x = some (.ref B) ∧ BasI K B
/-- what such an __init__ leaves -/
def spX (C : Addr) (fs : List Str) : Sp := fun vs H Q _ => ∃ a ws, vs = .ref a :: ws ∧ ws.length = fs.length ∧ H a = some (exo a C none) ∧ ∀ d, H d = none → d ≠ a → Q .non (upd (upd H d (exd d ((fs.zip ws).reverse))) a (exo a C (some d)))
theorem xi_read {K : PySem.W.Frag} {mg : Str → Option Value} {N : List Str} {sc : Scope} {C : Addr} {b : Option Str} {fs : List Str} {r : List Stmt} (T : OexC K C) (hr : chkXI b fs r = true) (hs : nmOk sc "self" = true) (hne : fs ≠ []) (hl : fs.length ≤ 900) (hN : N = ("self" : Str) :: fs)
    (hf : ∀ f ∈ fs, nmOk sc f = true ∧ PySem.W.findIn K (.ref C) f = some none) (hb : gloB sc (b.getD "ValueError") = true)
    (hB : BasOk K mg b) :
    ∃ t, (∀ X, XiC K mg N sc X → PSs X r t) ∧ ∀ (Q : VK) (vs : List V) (H : Hp), (∃ a ws, vs = .ref a :: ws ∧ ws.length = fs.length ∧ H a = some (exo a C none) ∧ ∀ d, H d = none → d ≠ a → Q .non (upd (upd H d (exd d ((fs.zip ws).reverse))) a (exo a C (some d)))) →
      ∀ D : Ends, D.nx = (fun _ H' => Q .non H') → t D (L2.start N vs) H := by
  subst hN
  obtain ⟨p1, p2, p3, m, k, p4, p5, p6, r, rfl, hln, hr'⟩ := chkXI_inv hr
  cases fs with
  | nil => exact absurd rfl hne
  | cons h fs =>
      · obtain ⟨p7, p8, p9, p10, r, rfl, hr3⟩ := chkXF_inv hr'
        obtain ⟨t, pt, rt⟩ := xf_more (mg := mg) (N := ("self" : Str) :: h :: fs) T hs rfl fs 2 r hr3 (fun f hf' => hf f (List.mem_cons_of_mem _ hf')) (fun k hk => by
          rw [show 2 + k = k + 1 + 1 by omega]; rfl)
        obtain ⟨g1, g2, g3⟩ := gloB_ok hb
        refine ⟨tSeq (tDrop (tVeI K (tCons (tVar 0) (tCons (tC (.str m)) tNil)))) (tSeq (tOst K h (tVar 0) (tVar 1)) t), fun X hX => ?_, fun Q vs H hv D hD => ?_⟩
        · have gl : Gl X (b.getD "ValueError") := by
            show X.env.scope.names.lookup (b.getD "ValueError") = _
            rw [hX.sc]; exact g1
          have pa : PA X [.Name "self" p3, .Constant (.str m) k p4] (tCons (tVar 0) (tCons (tC (.str m)) tNil)) := pa_cons (nmOk_pe hX hs rfl) (pa_cons pe_str pa_nil rfl) rfl
          have hev := eval_meth (o := .Name (b.getD "ValueError") p1) (name := "__init__") (args := [.Name "self" p3, .Constant (.str m) k p4]) (env := X.env) rfl rfl hln
          have q := ps_ost (X := X) (f := h) (p' := p8) (pos := p10) (nmOk_pe hX hs rfl (p := p7) (i := 0)) (nmOk_pe hX (hf h List.mem_cons_self).1 rfl (p := p9) (i := 1))
          rw [hX.K] at q
          refine pss_cons (ps_expr ?_ rfl) (pss_cons q (pt X hX))
          cases b with
          | none =>
            have q2 := pe_veinit (X := X) (p1 := p1) (p2 := p2) (pos := p5) gl (by rw [hX.mg]; exact hB.1) (by rw [hX.K]; exact hB.2) pa hev rfl rfl
            rw [hX.K] at q2
            exact q2
          | some x =>
            obtain ⟨B, hm, TB⟩ := hB
            have q2 := pe_oinit (X := X) (p1 := p1) (p2 := p2) (pos := p5) gl (by rw [hX.mg]; exact hm) (by rw [hX.K]; exact TB) g2 pa rfl rfl hev
            rw [hX.K] at q2
            exact q2
        · obtain ⟨a, ws, rfl, hw, ha, q⟩ := hv
          match ws, hw with
          | w :: ws, hw =>
            have hw' : ws.length = fs.length := by simpa using hw
            have s0 : (L2.start (("self" : Str) :: h :: fs) (V.ref a :: w :: ws))[0]? = some (some (.ref a)) := rfl
            have s1 : (L2.start (("self" : Str) :: h :: fs) (V.ref a :: w :: ws))[1]? = some (some w) := rfl
            have sk : ∀ k : Nat, k < ws.length → (L2.start (("self" : Str) :: h :: fs) (V.ref a :: w :: ws))[2 + k]? = (ws[k]?).map some := fun k hk => by
              unfold L2.start
              rw [List.getElem?_append_left (by simp; omega), List.getElem?_map, show 2 + k = k + 1 + 1 by omega]
              rfl
            generalize L2.start (("self" : Str) :: h :: fs) (V.ref a :: w :: ws) = σ at s0 s1 sk
            refine ⟨.ref a, s0, a, C, [.str m], rfl, Nat.le_add_left 1 999, T, ha, ?_⟩
            refine ⟨w, s1, .ref a, s0, a, C, rfl, T, (hf h List.mem_cons_self).2, .inl ⟨ha, fun d hd hda => ?_⟩⟩
            refine rt D σ _ a d [(h, w)] ws s0 hw' sk upd_same (by rw [upd_ne hda]; exact upd_same) hda.symm (by simp at hl ⊢; omega) ?_
            rw [hD]
            have q' := q d hd hda
            have e1 : ((h :: fs).zip (w :: ws)).reverse = (fs.zip ws).reverse ++ [(h, w)] := by simp
            rw [e1] at q'
            have e2 : upd (upd (upd H d (exd d [(h, w)])) a (exo a C (some d))) d (exd d ((fs.zip ws).reverse ++ [(h, w)])) = upd (upd H d (exd d ((fs.zip ws).reverse ++ [(h, w)]))) a (exo a C (some d)) := by
              funext b
              by_cases e : b = d
              · subst e; rw [upd_same, upd_ne hda, upd_same]
              · rw [upd_ne e]
                by_cases e' : b = a
                · subst e'; rw [upd_same, upd_same]
                · rw [upd_ne e', upd_ne e', upd_ne e, upd_ne e]
            rw [e2]
            exact q'
          | [], hw => cases hw
/-- the promise of such an __init__ -/
theorem xi_ok {P : Program} {w : World} {K : PySem.W.Frag} {mg : Str → Option Value} {base : Heap} {CX : CXT} {x qual : Str} {params : Arguments} {body : List Stmt} {sc : Scope} {fI : Addr} {fd : FuncData} {C : Addr} {b : Option Str} {fs : List Str} (F : FunD K x qual params body sc [] [] fI fd) (S : FnScope (("self" : Str) :: fs) (("self" : Str) :: fs) sc)
    (T : OexC K C) (hr : chkXI b fs body = true) (hs : nmOk sc "self" = true) (hne : fs ≠ []) (hl : fs.length ≤ 900) (hf : ∀ f ∈ fs, nmOk sc f = true ∧ PySem.W.findIn K (.ref C) f = some none) (hb : gloB sc (b.getD "ValueError") = true)
    (hB : BasOk K mg b) (k : Nat) : FnOk P w K mg base CX (k + 1) fI fd (("self" : Str) :: fs) (spX C fs) := by
  refine F.ok S (fun vs H Q E h => ?_) fun cdv A outer s H vs Q E _ h => ?_
  · obtain ⟨a, ws, rfl, hw, _⟩ := h
    simp [hw]
  · obtain ⟨t, pt, rt⟩ := xi_read (mg := mg) (N := ("self" : Str) :: fs) T hr hs hne hl rfl hf hb hB
    exact ⟨t, pt _ ⟨rfl, rfl, rfl, rfl⟩, rt Q vs H h _ rfl⟩
/-! ### isinstance of a caught exception, with or without a dict -/
/-- what a class says of __class__ -/
def excCB (K : PySem.W.Frag) (D : Addr) : Bool := decide (PySem.W.findIn K (.ref D) "__getattribute__" = some (some (.builtin "BaseException.__getattribute__"))) && (decide (PySem.W.findIn K (.ref D) "__getattr__" = some none) && (decide (PySem.W.subIn K (.ref D) (.type "BaseException") = some true) && (PySem.W.hasDictIn K D &&
  (decide (PySem.W.findIn K (.ref D) "__class__" = some (some (.builtin "object.__class__"))) && (decide (PySem.W.specialIn K (.builtin "object.__class__") "__get__" = some (some (.builtin "getset_descriptor.__get__"))) && (decide (PySem.W.takesIn K (.builtin "object.__class__") = some true) && decide (PySem.W.mroIn K D (.type "object") = some true)))))))
theorem excCB_ok {K : PySem.W.Frag} {D : Addr} (h : excCB K D = true) : ExcC K D := by
  unfold excCB at h
  simp only [Bool.and_eq_true, decide_eq_true_eq] at h
  obtain ⟨h1, h2, h3, h4, h5, h6, h7, h8⟩ := h
  exact ⟨h1, h2, h3, h4, h5, h6, h7, h8⟩
section
open PySem.W PySem.Calls
variable {prog : Program} {w : World} {A : Around} {E : Value → Shared → Prop} {s : Shared} {K : Frag} {x D : Addr} {ox : Obj} {od : Option Obj}
theorem fo_data {C : Addr} {nm : Str} {a g : Value} (c1 : (clsIn K C).isSome = true) (c2 : findIn K (.ref C) nm = some (some a)) (c3 : specialIn K a "__get__" = some (some g)) (c4 : takesIn K a = some true) : findObj K C od nm = some (.bind g a) := by
  obtain ⟨cd, c1⟩ := Option.isSome_iff_exists.mp c1
  unfold findObj
  rw [c1, Option.bind_some, c2, Option.bind_some]
  simp [c3, c4]
theorem cls_of_exc {Q : Option Value → Shared → Prop} (c : ExcC K D) (X : K.In s.heap) (I : InstAt s.heap x ox D od) (h : Q (some (.ref D)) { s with toks := s.toks + 1 }) : wpAny (model prog w) A (getAttr? (.ref x) "__class__") Q E s := by
  have hfo : findObj K D od "__class__" = some (.bind (.builtin "getset_descriptor.__get__") (.builtin "object.__class__")) := fo_data (by obtain ⟨cd, hc, _⟩ := any_some c.hd; rw [hc]; rfl) c.ha c.hn c.ht
  obtain ⟨hh, gg, dd, tt, oo⟩ := s
  have t0 := I.type (M := model prog w)
  have t1 := looks_findIn (M := model prog w) X c.hg
  have t2 := looks_findIn (M := model prog w) X c.hk
  have t3 := looks_find (M := model prog w) X I hfo
  have isB : Looks (model prog w) hh (isInstance (.ref x) (.type "BaseException")) true := t0.andThen (looks_subIn X c.hs)
  have z0 : (false && onTheHeap (Value.builtin "BaseException.__getattribute__")) = false := rfl
  have z2 : (Value.builtin "BaseException.__getattribute__" == Value.builtin "object.__getattribute__") = false := by decide +kernel
  have z1 : (onTheHeap (Value.ref D) && Value.builtin "BaseException.__getattribute__" == Value.builtin "object.__getattribute__") = false := by rw [z2]; rfl
  unfold getAttr? getAttrBy? getAttrBy
  refine wpAny_bind (wpAny_mkText (wpAny_bind (wpAny_attempt (wpAny_holding (wpAny_bind (t0.at (wpAny_bind (t1.at ?_))))))))
  show wpAny _ _ (if (onTheHeap (Value.ref D) && Value.builtin "BaseException.__getattribute__" == Value.builtin "object.__getattribute__") = true then _ else _) _ _ _
  rw [z1, if_neg Bool.false_ne_true]
  unfold getAttrByItsOwn hookBefore
  refine wpAny_bind ?_
  rw [if_pos (show onTheHeap (Value.ref D) = true from rfl)]
  refine t2.at (wpAny_bind (wpAny_attempt (wpAny_holding ?_)))
  unfold callGetattribute
  rw [z0, if_neg Bool.false_ne_true]
  unfold boundAndCalled
  rw [PySem.F.excAttr_ValueError.ga.bind (.ref x)]
  refine wpAny_bind (wpAny_pure ?_)
  show wpAny _ _ (call (.builtin "BaseException.__getattribute__") [.ref x, .str "__class__" tt]) _ _ _
  refine wpAny_call (codeAny_call_builtin PySem.F.excAttr_ValueError.ga.plain PySem.F.entry_bexc_ga ?_)
  refine @check_slot (model prog w) _ _ ⟨hh, gg, dd, tt + 1, oo⟩ "BaseException.__getattribute__" "BaseException" "__getattribute__" (.ref x) [.str "__class__" tt] [] _ (by decide +kernel) (by decide +kernel) isB (PySem.F.args_bexc_ga (.ref x) (.str "__class__" tt)) ?_
  unfold Builtin.«object.__getattribute__»
  refine wpAny_bind (wpAny_of_eq (a := ((Value.ref x : Value), [Value.str "__class__" tt])) (by first | rfl | (simp only [slotArgs]; rfl)) ?_)
  refine wpAny_bind (wpAny_pure (wpAny_bind (t0.at (wpAny_bind (t3.at ?_)))))
  show wpAny _ _ (holding [Value.builtin "object.__class__"] (call (.builtin "getset_descriptor.__get__") [.builtin "object.__class__", .ref x, .ref D]) >>= ret) _ _ _
  refine wpAny_bind (wpAny_holding (wpAny_call (class_get (s := ⟨hh, gg, dd, tt + 1, oo⟩) (ox := ox) (od := od) X I c.hm ?_)))
  refine wpAny_pure ?_
  show wpAny _ _ (handedOut (.ref D)) _ _ _
  rw [handedOut_of (v := .ref D) rfl]
  first
    | exact wpAny_pure (wpAny_pure h)
    | exact wpAny_pure h
    | exact wpAny_pure (wpAny_bind (wpAny_pure (wpAny_pure h)))
theorem kitx_exc2 (c : ExcC K D) : KitX K (.ref x) (.ref D) (fun h => InstAt h x ox D od) where
  ty := fun _ _ _ I => I.type
  it := fun _ _ X _ => by
    obtain ⟨cdD, hcD, _⟩ := any_some c.hd
    unfold clsIn at hcD
    split at hcD
    · rename_i ho
      intro A' Q' E' s' k q
      unfold isType loadHead
      exact wpAny_bind (wpAny_loadPart (k _ _ (X _ _ ho)) (wpAny_pure q))
    · cases hcD
  ne := fun h tp dd its n sl X htp => by
    obtain ⟨cdD, hcD, _⟩ := any_some c.hd
    refine Bool.eq_false_iff.mpr fun q => ?_
    have e : D = tp := Value.ref.inj (beq_iff_eq.mp q)
    subst e
    unfold clsIn at hcD
    split at hcD
    · rename_i c' d' cd' sl' ho
      have z := (X _ _ ho).symm.trans htp
      cases z
    · cases hcD
  ca := fun X I k => cls_of_exc c X I k
end
end Q3

set_option Elab.async false
set_option linter.all false
set_option maxRecDepth 100000
set_option maxHeartbeats 4000000
/-! Q3f: what the syntax tells, the model does: expressions. -/
namespace Q3
open PySem PySem.Spec PyProof.Rows L2

/-- an exception lies there: of class number c, with these fields -/
def RepX (K : PySem.W.Frag) (cl : List Value) (ρ : List Addr) (H : Hp) (c : Nat) (fs : List (Str × D)) (cls : Value) (d : Option Addr) : Prop :=
  cl[c]? = some cls ∧ ((fs = [] ∧ d = none) ∨ ∃ dx vs, d = some dx ∧ H dx = some (.xd vs) ∧ RepF K ρ H fs vs)
def OutX (K : PySem.W.Frag) (cl : List Value) (ρ : List Addr) (H : Hp) (Xk : KX) (E : XK) : Prop := ∀ c fs cls d st' H' ρ', Ab K ρ' st' H' → Ex ρ H ρ' H' → RepX K cl ρ' H' c fs cls d → Xk c fs st' → E cls d H'
theorem OutX.ext {K : PySem.W.Frag} {cl : List Value} {ρ ρ' : List Addr} {H H' : Hp} {Xk : KX} {E : XK} (o : OutX K cl ρ H Xk E) (e : Ex ρ H ρ' H') : OutX K cl ρ' H' Xk E :=
  fun c fs cls d st' H'' ρ'' a x r h => o c fs cls d st' H'' ρ'' a (e.trans x) r h
theorem OutX.no {K : PySem.W.Frag} {cl : List Value} {ρ : List Addr} {H : Hp} {E : XK} : OutX K cl ρ H noX E := fun _ _ _ _ _ _ _ _ _ _ h => h.elim
def spOf (K : PySem.W.Frag) (cl : List Value) (a : Nat) (c : List D → Sto → KD → KX → Prop) : Sp := fun vs H Q E =>
  vs.length = a ∧ ∃ ρ st ds Q' Xk, Ab K ρ st H ∧ Reps K ρ H ds vs ∧ c ds st Q' Xk ∧ Out K ρ H Q' Q ∧ OutX K cl ρ H Xk E
structure Gam where
  P : Program
  w : World
  K : PySem.W.Frag
  mg : Str → Option Value
  base : Heap
  n : Nat
  C : Cl
  M : Nms
  N : List Str
  cl : List Value
  W : WX
structure GOk (Γ : Gam) : Prop where
  nd : Γ.N.Nodup
  gl : ∀ (k : Nat) x, Γ.M.Gn[k]? = some x → ∃ d u v, Γ.C.G[k]? = some d ∧ Γ.mg x = some u ∧ RelV v u ∧ ∀ ρ H, Rep Γ.K ρ H d v
  bt : ∀ x ∈ Γ.M.B, Γ.mg x = none
  fn : ∀ (f : Nat) x, Γ.M.F[f]? = some x → ∃ fa fd ps, Γ.mg x = some (.ref fa) ∧ PySem.W.keepIn Γ.K (.ref fa) = true ∧ Binds Γ.K fd ps [] ∧ (∀ ds st Q Xk, Γ.C.call f ds st Q Xk → ds.length = ps.length) ∧
    FnOk Γ.P Γ.w Γ.K Γ.mg Γ.base (L2.CX Γ.P Γ.w) Γ.n fa fd ps (spOf Γ.K Γ.cl ps.length (Γ.C.call f))
  cex : Γ.M.calm = true → Γ.C.ex = none
  hn : 2 ≤ Γ.n
  mt : ∀ (c m k : Nat), methOf Γ.C.ms c m = some k → ∃ C fa fd ps, PySem.W.nsIn Γ.K mainGlobals (decS c) = some (some (.ref C)) ∧ Cls Γ.K C ∧ Meth Γ.K C (decS m) fa ∧ Binds Γ.K fd ps [] ∧ (∀ ds st Q Xk, Γ.C.call k ds st Q Xk → ds.length = ps.length) ∧
    FnOk Γ.P Γ.w Γ.K Γ.mg Γ.base (L2.CX Γ.P Γ.w) Γ.n fa fd ps (spOf Γ.K Γ.cl ps.length (Γ.C.call k))
  nw : ∀ (c k : Nat), Γ.C.ini.lookup c = some k → ∃ C fa fd ps, PySem.W.nsIn Γ.K mainGlobals (decS c) = some (some (.ref C)) ∧ Γ.mg (decS c) = some (.ref C) ∧ Mk Γ.K C fa ∧ Binds Γ.K fd ps [] ∧ (∀ ds st Q Xk, Γ.C.mkc k ds st Q Xk → ds.length = ps.length) ∧
    FnOk Γ.P Γ.w Γ.K Γ.mg Γ.base (L2.CX Γ.P Γ.w) (Γ.n - 1) fa fd ps (spOf Γ.K Γ.cl ps.length (Γ.C.mkc k))
  fd : ∀ (c f : Nat), fdB Γ.C.fds c f = true → ∃ C, PySem.W.nsIn Γ.K mainGlobals (decS c) = some (some (.ref C)) ∧ Cls Γ.K C ∧ NoAttr Γ.K C (decS f)
  xn : ∀ (c : Nat) x, Γ.M.Xn[c]? = some x → ∃ v, Γ.cl[c]? = some v ∧ ((∃ C, v = .ref C ∧ Γ.mg x = some (.ref C)) ∨ (∃ T, v = .type T ∧ Γ.mg x = none ∧ bootBuiltins x = some (.type T) ∧ x ≠ "__name__"))
  xr : ∀ (c : Nat) x o, Γ.M.Xn[c]? = some x → Γ.C.X[c]? = some o → ∃ C, Γ.cl[c]? = some (.ref C) ∧ Γ.mg x = some (.ref C) ∧ (match o with
    | none => PySem.W.excIn Γ.K C He.veBase "ValueError.__new__" = true ∧ PySem.W.keepIn Γ.K (.ref C) = true ∧ PySem.W.subIn Γ.K (.ref C) (.type "BaseException") = some true ∧ PySem.W.typeIn Γ.K (.ref C) = some (.type "type")
    | some fs => OexC Γ.K C ∧ fs.Nodup ∧ fs.length ≤ 900 ∧ ∃ fI fd, PySem.W.findIn Γ.K (.ref C) "__init__" = some (some (.ref fI)) ∧ PySem.W.typeIn Γ.K (.ref fI) = some (.type "function") ∧ Binds Γ.K fd (("self" : Str) :: fs) [] ∧
        ∀ k, FnOk Γ.P Γ.w Γ.K Γ.mg Γ.base (L2.CX Γ.P Γ.w) (k + 1) fI fd (("self" : Str) :: fs) (spX C fs))
  xs : ∀ (c d : Nat) b, Γ.C.sub c d = some b → ∃ v w, Γ.cl[c]? = some v ∧ Γ.cl[d]? = some w ∧ PySem.W.exmOne Γ.K v w = some b ∧ PySem.W.kitOne Γ.K v w = some b
  xe : ∀ (c : Nat) o, Γ.C.X[c]? = some o → ∃ D, Γ.cl[c]? = some (.ref D) ∧ ExcC Γ.K D ∧ XfC Γ.K D ∧ ∀ fs, o = some fs → ∀ f ∈ fs, PySem.W.findIn Γ.K (.ref D) f = some none
  kd : ∀ (k : Nat) x, Γ.M.Kn[k]? = some x → ∃ d es n, Γ.mg x = some (.ref d) ∧ KDict Γ.K Γ.w d es n ∧ ∀ z o, kdAt Γ.C.KD k (.str z) = some o → ∃ r, PySem.W.nsIn Γ.K d z = some r ∧ ((o = none ∧ r = none) ∨ ∃ dd u v, o = some dd ∧ r = some u ∧ RelV v u ∧ ∀ ρ H, Rep Γ.K ρ H dd v)
structure Okx (Γ : Gam) (sc : Scope) (X : Cx) : Prop where
  P : X.prog = Γ.P
  w : X.w = Γ.w
  K : X.K = Γ.K
  mg : X.mg = Γ.mg
  base : X.base = Γ.base
  N : X.N = Γ.N
  sc : X.env.scope = sc
  calm : Γ.M.calm = true → X.calm = true
  tk : Takes X Γ.W
  hu : X.A.units + 65 < cLine
  room : Γ.M.calm = true → Room Γ.n X.A
  exi : ∀ x, Γ.C.ex = some x → ∃ X0 oe pn cls vs, X = Cx.suite X0 x.a ((x.a, oe) :: pn) ∧ Γ.cl[x.c]? = some cls ∧ Zc cls x.d oe ∧ oe.data = .fields vs
/-- the slots, what is wanted of exceptions, the exception at hand -/
structure Evx (Γ : Gam) (Xk : KX) (ρ : List Addr) (H : Hp) (en : En) (σ : L2.St) : Prop where
  ev : Evn Γ.K ρ H en σ
  ox : OutX Γ.K Γ.cl ρ H Xk (WE Γ.W σ)
  xi : ∀ x i, Γ.C.ex = some x → Γ.M.exn = some i → σ[i]? = some (some (.ref x.a)) ∧ ((x.fs = [] ∧ x.d = none) ∨ ∃ dx vs, x.d = some dx ∧ H dx = some (.xd vs) ∧ RepF Γ.K ρ H x.fs vs)
theorem Evx.ext {Γ : Gam} {Xk : KX} {ρ ρ' : List Addr} {H H' : Hp} {en : En} {σ : L2.St} (V : Evx Γ Xk ρ H en σ) (e : Ex ρ H ρ' H') : Evx Γ Xk ρ' H' en σ :=
  ⟨V.ev.ext e, V.ox.ext e, fun x i h1 h2 => ⟨(V.xi x i h1 h2).1, by
    rcases (V.xi x i h1 h2).2 with q | ⟨dx, vs, q1, q2, q3⟩
    · exact .inl q
    · exact .inr ⟨dx, vs, q1, e.xd _ _ q2, q3.ext e⟩⟩⟩

section
variable (Γ : Gam)
def SE (sc : Scope) (e : E) (pe : Expr) : Prop := ∃ t, (∀ X, Okx Γ sc X → PE X pe t) ∧ ∀ en st σ H ρ Q Xk R, Ab Γ.K ρ st H → Evx Γ Xk ρ H en σ → wE Γ.C e en st Q Xk → Out Γ.K ρ H Q R → t σ H R
def SA (sc : Scope) (es : Es) (pes : List Expr) : Prop := ∃ t, (∀ X, Okx Γ sc X → PA X pes t) ∧ ∀ en st σ H ρ Q Xk R, Ab Γ.K ρ st H → Evx Γ Xk ρ H en σ → wEs Γ.C es en st Q Xk →
  (∀ ds st' vs H' ρ', Ab Γ.K ρ' st' H' → Ex ρ H ρ' H' → Reps Γ.K ρ' H' ds vs → Q ds st' → R vs H') → t σ H R
def ST (sc : Scope) (c : T) (pc : Expr) : Prop := ∃ t, (∀ X, Okx Γ sc X → PT X pc t) ∧ ∀ en st σ H ρ Q Xk R, Ab Γ.K ρ st H → Evx Γ Xk ρ H en σ → wT Γ.C c en st Q Xk →
  (∀ b st' H' ρ', Ab Γ.K ρ' st' H' → Ex ρ H ρ' H' → Q b st' → R b H') → t σ H R
/-- the items of a walk, from a time on -/
def Walks (K : PySem.W.Frag) (J : L2.It) (it : It) (ρ0 : List Addr) (H0 : Hp) : Prop := ∀ ρ st H, Ab K ρ st H → Ex ρ0 H0 ρ H → gOk it.gs st → ∀ (i : Nat),
  (∀ d, it.xs[i]? = some d → J.go i H ∧ ∀ x H', J.yld i H x H' → Ab K ρ st H' ∧ Ex ρ H ρ H' ∧ Rep K ρ H' d x) ∧ (it.xs.length = i → J.stop i H)
def SI (sc : Scope) (it : I) (pit : Expr) : Prop := ∀ tg, it.tgB tg = true → ∃ t, (∀ X, Okx Γ sc X → PI X tg pit t) ∧ ∀ en st σ H ρ Q Xk R, Ab Γ.K ρ st H → Evx Γ Xk ρ H en σ → wI Γ.C it en st Q Xk →
  (∀ J j st' H' ρ', Ab Γ.K ρ' st' H' → Ex ρ H ρ' H' → Walks Γ.K J j ρ' H' → Q j st' → R J H') → t σ H R
end

section
variable {Γ : Gam} {sc : Scope} {a b c i lo hi elt : E} {pa pb pc pi plo phi pelt : Expr} {pos : Pos}
theorem okx_hu {X : Cx} (h : Okx Γ sc X) : X.A.units + 65 < cLine := h.hu
theorem gl_of {X : Cx} (h : Okx Γ sc X) {x : Str} (hx : sc.names.lookup x = some .globalImplicit) : Gl X x := by
  show X.env.scope.names.lookup x = _
  rw [h.sc]; exact hx

/-! ### no star, no set among what is checked -/
def fine : Expr → Bool
  | .Starred _ _ => false
  | .Set _ _ _ => false
  | .Slice _ _ _ _ => false
  | _ => true
theorem fine_of {M : Nms} {N : List Str} : ∀ {e : E} {sc : Scope} {pe : Expr}, chkE M N e sc pe = true → fine pe = true := by
  intro e sc pe h
  cases pe <;> first
    | rfl
    | (exfalso; unfold chkE at h; split at h <;> first | (rename_i q; cases q; done) | exact Bool.false_ne_true h | (rename_i q _ ; cases q; done))
theorem star_of {pe : Expr} (h : fine pe = true) (pes : List Expr) (env : Env) : starEach (pe :: pes) env = (false, eval pe env) :: starEach pes env := by
  cases pe <;> first | rfl | cases h
theorem fold_of {pe : Expr} (h : fine pe = true) (env : Env) : ∀ x, foldedSetIterable pe env x = pure x := by
  intro x
  cases pe <;> first | rfl | cases h
theorem plainIx_of {pe : Expr} (h : fine pe = true) : PlainIx pe := by
  intro o i
  cases pe <;> first | rfl | cases h
end
end Q3

set_option Elab.async false
set_option linter.all false
set_option maxRecDepth 100000
set_option maxHeartbeats 4000000
/-! Q3g: expressions, one construct at a time. -/
namespace Q3
open PySem PySem.Spec PyProof.Rows L2
section
variable {Γ : Gam} {sc : Scope} {a b c i lo hi elt : E} {pa pb pc pi plo phi pelt : Expr} {pos : Pos}

theorem se_var {k : Nat} {x : Str} (h1 : Γ.N[k]? = some x) (h2 : visB sc x = true) (h3 : (x == ("__debug__" : Str)) = false) (h4 : (x == ("__classdict__" : Str)) = false) : SE Γ sc (.var k) (.Name x pos) := by
  refine ⟨tVar k, fun X hX => pe_var (by rw [hX.N]; exact h1) (by rw [hX.sc]; exact visB_ok h2) h3 h4, fun en st σ H ρ Q Xk R A V h O => ?_⟩
  have h' : (match en[k]? with
    | some (some d) => Q d st
    | _ => False) := h
  split at h'
  · rename_i d e1
    obtain ⟨v, hv, rv⟩ := V.ev.at_ k d e1
    exact ⟨v, hv, O.keep A rv h'⟩
  · exact False.elim h'
theorem se_int {k : Int} {j : Nat} : SE Γ sc (.int k) (.Constant (.int k) j pos) :=
  ⟨tC (.int k), fun X _ => pe_int, fun en st σ H ρ Q Xk R A V h O => O.keep A (rep_int.mpr rfl) h⟩
theorem se_str {x : Str} {j : Nat} (hx : x.length ≤ Lm) : SE Γ sc (.str x) (.Constant (.str x) j pos) :=
  ⟨tC (.str x), fun X _ => pe_str, fun en st σ H ρ Q Xk R A V h O => O.keep A (rep_str.mpr ⟨rfl, hx⟩) h⟩
theorem se_bl {x : Bool} {j : Nat} : SE Γ sc (.bl x) (.Constant (.bool x) j pos) :=
  ⟨tC (.bl x), fun X _ => pe_bl, fun en st σ H ρ Q Xk R A V h O => O.keep A (rep_bl.mpr rfl) h⟩
theorem se_non {j : Nat} : SE Γ sc .non (.Constant .none j pos) :=
  ⟨tC .non, fun X _ => pe_non, fun en st σ H ρ Q Xk R A V h O => O.keep A (rep_non.mpr rfl) h⟩
theorem se_glob (G : GOk Γ) {k : Nat} {x : Str} (h1 : Γ.M.Gn[k]? = some x) (h2 : gloB sc x = true) : SE Γ sc (.glob k) (.Name x pos) := by
  obtain ⟨d, u, v, hd, hu, ruv, rep⟩ := G.gl k x h1
  obtain ⟨g1, g2, g3⟩ := gloB_ok h2
  refine ⟨tC v, fun X hX => pe_glob (gl_of hX g1) (by rw [hX.mg]; exact hu) ruv g2, fun en st σ H ρ Q Xk R A V h O => ?_⟩
  have h' : (match Γ.C.G[k]? with
    | some d => Q d st
    | none => False) := h
  rw [hd] at h'
  exact O.keep A (rep ρ H) h'
theorem se_bin (o : Op) (ha : SE Γ sc a pa) (hb : SE Γ sc b pb) : SE Γ sc (.bin o a b) (.BinOp pa o.py pb pos) := by
  obtain ⟨ta, pa', ra⟩ := ha
  obtain ⟨tb, pb', rb⟩ := hb
  refine ⟨tOp (rBinD Γ.K o) ta tb, fun X hX => ?_, fun en st σ H ρ Q Xk R A V h O => ?_⟩
  · have q := pe_op (pos := pos) (ob_bin (X := X) o) (pa' X hX) (pb' X hX)
    rw [hX.K] at q
    exact q
  · refine ra en st σ H ρ _ Xk _ A V h fun d st1 v H1 ρ1 A1 e1 r1 h1 => ?_
    refine rb en st1 σ H1 ρ1 _ Xk _ A1 (V.ext e1) h1 fun d2 st2 v2 H2 ρ2 A2 e2 r2 h2 => ?_
    exact ⟨ρ2, st2, d, d2, Q, A2, r1.ext e2, r2, h2, fun d3 st3 v3 H3 ρ3 A3 e3 r3 h3 => O d3 st3 v3 H3 ρ3 A3 (e1.trans (e2.trans e3)) r3 h3⟩
theorem Rep_ext {K : PySem.W.Frag} {ρ ρ' : List Addr} {H H' : Hp} {d : D} {v : V} (r : Rep K ρ H d v) (e : Ex ρ H ρ' H') : Rep K ρ' H' d v := r.ext e
theorem se_neg (ha : SE Γ sc a pa) : SE Γ sc (.neg a) (.UnaryOp .USub pa pos) := by
  obtain ⟨ta, pa', ra⟩ := ha
  refine ⟨tUn (rU fun i => .int (-i)) ta, fun X hX => pe_un un_neg (pa' X hX), fun en st σ H ρ Q Xk R A V h O => ?_⟩
  refine ra en st σ H ρ _ Xk _ A V h fun d st1 v H1 ρ1 A1 e1 r1 h1 => ?_
  cases d with
  | int i =>
    cases rep_int.mp r1
    exact ⟨i, rfl, O _ _ _ _ _ A1 e1 (rep_int.mpr rfl) h1⟩
  | _ => exact False.elim h1
theorem se_cmp (o : Cm) (hm : behindInMarks o.py pb = false) (ha : SE Γ sc a pa) (hb : SE Γ sc b pb) : SE Γ sc (.cmp o a b) (.Compare pa [o.py] [pb] pos) := by
  obtain ⟨ta, pa', ra⟩ := ha
  obtain ⟨tb, pb', rb⟩ := hb
  refine ⟨tOp (rCmpD Γ.K o) ta tb, fun X hX => ?_, fun en st σ H ρ Q Xk R A V h O => ?_⟩
  · have q := pe_cmpR (pos := pos) (ob_cmp (X := X) (okx_hu hX) o) (pa' X hX) (pb' X hX) hm
    rw [hX.K] at q
    exact q
  · refine ra en st σ H ρ _ Xk _ A V h fun d st1 v H1 ρ1 A1 e1 r1 h1 => ?_
    refine rb en st1 σ H1 ρ1 _ Xk _ A1 (V.ext e1) h1 fun d2 st2 v2 H2 ρ2 A2 e2 r2 h2 => ?_
    refine ⟨ρ2, st2, d, d2, _, A2, r1.ext e2, r2, h2, fun t h3 => ?_⟩
    exact O _ st2 _ H2 ρ2 A2 (e1.trans e2) (rep_bl.mpr rfl) h3
theorem se_chain (o p : Cm) (hm : lastMarks [o.py, p.py] [pb, pc] = false) (ha : SE Γ sc a pa) (hb : SE Γ sc b pb) (hc : SE Γ sc c pc) : SE Γ sc (.chain o p a b c) (.Compare pa [o.py, p.py] [pb, pc] pos) := by
  obtain ⟨ta, pa', ra⟩ := ha
  obtain ⟨tb, pb', rb⟩ := hb
  obtain ⟨tc, pc', rc⟩ := hc
  refine ⟨tChain (rCmpD Γ.K o) (rCmpD Γ.K p) ta tb tc, fun X hX => ?_, fun en st σ H ρ Q Xk R A V h O => ?_⟩
  · have q := pe_chain (pos := pos) (ob_cmp (X := X) (okx_hu hX) o) (ob_cmp (X := X) (okx_hu hX) p) (pa' X hX) (pb' X hX) (pc' X hX) hm
    rw [hX.K] at q
    exact q
  · refine ra en st σ H ρ _ Xk _ A V h fun d st1 v H1 ρ1 A1 e1 r1 h1 => ?_
    refine rb en st1 σ H1 ρ1 _ Xk _ A1 (V.ext e1) h1 fun d2 st2 v2 H2 ρ2 A2 e2 r2 h2 => ?_
    refine ⟨ρ2, st2, d, d2, _, A2, r1.ext e2, r2, h2, fun t h3 => ⟨t, rfl, ?_⟩⟩
    cases t with
    | false => exact ite_ff (O _ st2 _ H2 ρ2 A2 (e1.trans e2) (rep_bl.mpr rfl) h3)
    | true =>
      refine ite_tt (rc en st2 σ H2 ρ2 _ Xk _ A2 (V.ext (e1.trans e2)) h3 fun d4 st4 v4 H4 ρ4 A4 e4 r4 h4 => ?_)
      exact ⟨ρ4, st4, d2, d4, _, A4, r2.ext e4, r4, h4, fun t h5 => O _ st4 _ H4 ρ4 A4 (e1.trans (e2.trans e4)) (rep_bl.mpr rfl) h5⟩
theorem se_not (ha : SE Γ sc a pa) : SE Γ sc (.not a) (.UnaryOp .Not pa pos) := by
  obtain ⟨ta, pa', ra⟩ := ha
  refine ⟨tNotT Γ.K ta, fun X hX => ?_, fun en st σ H ρ Q Xk R A V h O => ?_⟩
  · have q := pe_notT (pos := pos) (pa' X hX)
    rw [hX.K] at q
    exact q
  · refine ra en st σ H ρ _ Xk _ A V h fun d st1 v H1 ρ1 A1 e1 r1 h1 => ?_
    split at h1
    · rename_i t et
      exact ⟨t, A1.tru et r1, O _ _ _ _ _ A1 e1 (rep_bl.mpr rfl) h1⟩
    · exact False.elim h1
theorem se_and1 (rest : List Expr) (hr : rest ≠ []) (ha : SE Γ sc a pa) (hb : SE Γ sc b (.BoolOp .And rest pos)) : SE Γ sc (.and a b) (.BoolOp .And (pa :: rest) pos) := by
  obtain ⟨ta, pa', ra⟩ := ha
  obtain ⟨tb, pb', rb⟩ := hb
  cases rest with
  | nil => exact absurd rfl hr
  | cons y ys =>
  refine ⟨tAndT Γ.K ta tb, fun X hX => ?_, fun en st σ H ρ Q Xk R A V h O => ?_⟩
  · have q := pe_andT (pos := pos) (pa' X hX) (pb' X hX)
    rw [hX.K] at q
    exact q
  · refine ra en st σ H ρ _ Xk _ A V h fun d st1 v H1 ρ1 A1 e1 r1 h1 => ?_
    split at h1
    · rename_i t et
      refine ⟨t, A1.tru et r1, ?_⟩
      cases t with
      | true => exact ite_tt (rb en st1 σ H1 ρ1 _ Xk _ A1 (V.ext e1) h1 fun d2 st2 v2 H2 ρ2 A2 e2 r2 h2 => O _ _ _ _ _ A2 (e1.trans e2) r2 h2)
      | false => exact ite_ff (O _ _ _ _ _ A1 e1 r1 h1)
    · exact False.elim h1
theorem se_or1 (rest : List Expr) (hr : rest ≠ []) (ha : SE Γ sc a pa) (hb : SE Γ sc b (.BoolOp .Or rest pos)) : SE Γ sc (.or a b) (.BoolOp .Or (pa :: rest) pos) := by
  obtain ⟨ta, pa', ra⟩ := ha
  obtain ⟨tb, pb', rb⟩ := hb
  cases rest with
  | nil => exact absurd rfl hr
  | cons y ys =>
  refine ⟨tOrT Γ.K ta tb, fun X hX => ?_, fun en st σ H ρ Q Xk R A V h O => ?_⟩
  · have q := pe_orT (pos := pos) (pa' X hX) (pb' X hX)
    rw [hX.K] at q
    exact q
  · refine ra en st σ H ρ _ Xk _ A V h fun d st1 v H1 ρ1 A1 e1 r1 h1 => ?_
    split at h1
    · rename_i t et
      refine ⟨t, A1.tru et r1, ?_⟩
      cases t with
      | true => exact ite_tt (O _ _ _ _ _ A1 e1 r1 h1)
      | false => exact ite_ff (rb en st1 σ H1 ρ1 _ Xk _ A1 (V.ext e1) h1 fun d2 st2 v2 H2 ρ2 A2 e2 r2 h2 => O _ _ _ _ _ A2 (e1.trans e2) r2 h2)
    · exact False.elim h1
theorem se_one {op : BoolOp} (ha : SE Γ sc a pa) : SE Γ sc a (.BoolOp op [pa] pos) := by
  obtain ⟨ta, pa', ra⟩ := ha
  exact ⟨ta, fun X hX => pe_one (pa' X hX), ra⟩
theorem se_ite {c : T} (hc : ST Γ sc c pc) (ha : SE Γ sc a pa) (hb : SE Γ sc b pb) : SE Γ sc (.ite c a b) (.IfExp pc pa pb pos) := by
  obtain ⟨tc, pc', rc⟩ := hc
  obtain ⟨ta, pa', ra⟩ := ha
  obtain ⟨tb, pb', rb⟩ := hb
  refine ⟨tIf tc ta tb, fun X hX => pe_ifExp (pc' X hX) (pa' X hX) (pb' X hX), fun en st σ H ρ Q Xk R A V h O => ?_⟩
  refine rc en st σ H ρ _ Xk _ A V h fun t st1 H1 ρ1 A1 e1 h1 => ?_
  cases t with
  | true => exact ite_tt (ra en st1 σ H1 ρ1 _ Xk _ A1 (V.ext e1) h1 fun d2 st2 v2 H2 ρ2 A2 e2 r2 h2 => O _ _ _ _ _ A2 (e1.trans e2) r2 h2)
  | false => exact ite_ff (rb en st1 σ H1 ρ1 _ Xk _ A1 (V.ext e1) h1 fun d2 st2 v2 H2 ρ2 A2 e2 r2 h2 => O _ _ _ _ _ A2 (e1.trans e2) r2 h2)
theorem se_ix (hf : fine pi = true) (ha : SE Γ sc a pa) (hi : SE Γ sc i pi) : SE Γ sc (.ix a i) (.Subscript pa pi pos) := by
  obtain ⟨ta, pa', ra⟩ := ha
  obtain ⟨tb, pb', rb⟩ := hi
  refine ⟨tOp (rIxD Γ.K) ta tb, fun X hX => ?_, fun en st σ H ρ Q Xk R A V h O => ?_⟩
  · have q := pe_ix (pos := pos) (ob_ix (X := X) (by have := okx_hu hX; omega)) (pa' X hX) (pb' X hX) (plainIx_of hf)
    rw [hX.K] at q
    exact q
  · refine ra en st σ H ρ _ Xk _ A V h fun d st1 v H1 ρ1 A1 e1 r1 h1 => ?_
    refine rb en st1 σ H1 ρ1 _ Xk _ A1 (V.ext e1) h1 fun d2 st2 v2 H2 ρ2 A2 e2 r2 h2 => ?_
    exact ⟨ρ2, st2, d, d2, Q, A2, r1.ext e2, r2, h2, fun d3 st3 v3 H3 ρ3 A3 e3 r3 h3 => O d3 st3 v3 H3 ρ3 A3 (e1.trans (e2.trans e3)) r3 h3⟩
/-- a part of a slice -/
def SO (Γ : Gam) (sc : Scope) (e : E) (pe : Option Expr) : Prop := ∃ t, (∀ X, Okx Γ sc X → PO X pe t) ∧ ∀ en st σ H ρ (Q : Option Int → Sto → Prop) Xk (R : Option Int → Hp → Prop), Ab Γ.K ρ st H → Evx Γ Xk ρ H en σ → wE Γ.C e en st (fun d st1 => match partD e.isNo d with
    | some l => Q l st1
    | none => False) Xk → (∀ l st' H' ρ', Ab Γ.K ρ' st' H' → Ex ρ H ρ' H' → Q l st' → R l H') → t σ H R
theorem so_no : SO Γ sc .no none := ⟨tNoPart, fun X _ => po_none, fun en st σ H ρ Q Xk R A V h O => O none st H ρ A Ex.refl h⟩
theorem so_some {e : E} {pe : Expr} (hn : e.isNo = false) (he : SE Γ sc e pe) : SO Γ sc e (some pe) := by
  obtain ⟨ta, pa', ra⟩ := he
  refine ⟨tPart ta, fun X hX => po_some (pa' X hX), fun en st σ H ρ Q Xk R A V h O => ?_⟩
  rw [hn] at h
  refine ra en st σ H ρ _ Xk _ A V h fun d st1 v H1 ρ1 A1 e1 r1 h1 => ?_
  cases d with
  | int i => cases rep_int.mp r1; exact ⟨i, rfl, O _ _ _ _ A1 e1 h1⟩
  | _ => exact False.elim h1
theorem se_sl {plo phi : Option Expr} {p2 : Pos} (ha : SE Γ sc a pa) (hl : SO Γ sc lo plo) (hh : SO Γ sc hi phi) : SE Γ sc (.sl a lo hi) (.Subscript pa (.Slice plo phi none p2) pos) := by
  obtain ⟨ta, pa', ra⟩ := ha
  obtain ⟨tl, pl', rl⟩ := hl
  obtain ⟨th, ph', rh⟩ := hh
  refine ⟨tSl (rSlD Γ.K) ta tl th, fun X hX => ?_, fun en st σ H ρ Q Xk R A V h O => ?_⟩
  · have q := pe_slice (pos := pos) (p2 := p2) (ob_sl (X := X)) (pa' X hX) (pl' X hX) (ph' X hX)
    rw [hX.K] at q
    exact q
  · refine ra en st σ H ρ _ Xk _ A V h fun d st1 v H1 ρ1 A1 e1 r1 h1 => ?_
    refine rl en st1 σ H1 ρ1 (fun l st2 => wE Γ.C hi en st2 (fun z st3 => match partD hi.isNo z with
        | some u => wSl d l u st3 Q
        | none => False) Xk) Xk _ A1 (V.ext e1) h1 fun l st2 H2 ρ2 A2 e2 h2 => ?_
    refine rh en st2 σ H2 ρ2 (fun u st3 => wSl d l u st3 Q) Xk _ A2 (V.ext (e1.trans e2)) h2 fun u st3 H3 ρ3 A3 e3 h3 => ?_
    exact ⟨ρ3, st3, d, Q, A3, (r1.ext e2).ext e3, h3, fun d4 st4 v4 H4 ρ4 A4 e4 r4 h4 => O d4 st4 v4 H4 ρ4 A4 (e1.trans (e2.trans (e3.trans e4))) r4 h4⟩
theorem sa_nil : SA Γ sc .nil [] := ⟨tNil, fun X _ => pa_nil, fun en st σ H ρ Q Xk R A V h O => O [] st [] H ρ A Ex.refl (reps_nil.mpr rfl) h⟩
theorem sa_cons {es : Es} {pes : List Expr} (hf : fine pa = true) (ha : SE Γ sc a pa) (hs : SA Γ sc es pes) : SA Γ sc (.cons a es) (pa :: pes) := by
  obtain ⟨ta, pa', ra⟩ := ha
  obtain ⟨tb, pb', rb⟩ := hs
  refine ⟨tCons ta tb, fun X hX => pa_cons (pa' X hX) (pb' X hX) (star_of hf _ _), fun en st σ H ρ Q Xk R A V h O => ?_⟩
  refine ra en st σ H ρ _ Xk _ A V h fun d st1 v H1 ρ1 A1 e1 r1 h1 => ?_
  exact rb en st1 σ H1 ρ1 _ Xk _ A1 (V.ext e1) h1 fun ds st2 vs H2 ρ2 A2 e2 r2 h2 => O _ _ _ _ _ A2 (e1.trans e2) (reps_cons.mpr ⟨v, vs, rfl, r1.ext e2, r2⟩) h2
theorem se_tup {es : Es} {pes : List Expr} {k : Nat} (hs : SA Γ sc es pes) : SE Γ sc (.tup es) (.Tuple pes k pos) := by
  obtain ⟨tb, pb', rb⟩ := hs
  refine ⟨tTup tb, fun X hX => pe_tup (pb' X hX), fun en st σ H ρ Q Xk R A V h O => ?_⟩
  refine rb en st σ H ρ _ Xk _ A V h fun ds st2 vs H2 ρ2 A2 e2 r2 h2 => ⟨Lm_line (by rw [← r2.length]; exact Nat.le_trans (shortL_le (mu_and h2).1) (by decide)), ?_⟩
  exact Out.newT (ρ := ρ2) (Q' := Q) (fun d3 st3 v3 H3 ρ3 A3 e3 r3 h3 => O d3 st3 v3 H3 ρ3 A3 (e2.trans e3) r3 h3) A2 r2 (mu_and h2).2
theorem se_lst {es : Es} {pes : List Expr} (hs : SA Γ sc es pes) : SE Γ sc (.lst es) (.List pes pos) := by
  obtain ⟨tb, pb', rb⟩ := hs
  refine ⟨tLst tb, fun X hX => pe_lst (pb' X hX), fun en st σ H ρ Q Xk R A V h O => ?_⟩
  refine rb en st σ H ρ _ Xk _ A V h fun ds st2 vs H2 ρ2 A2 e2 r2 h2 => ⟨Lm_line (by rw [← r2.length]; exact Nat.le_trans (shortL_le (mu_and h2).1) (by decide)), ?_⟩
  exact Out.newL (ρ := ρ2) (Q' := Q) (fun d3 st3 v3 H3 ρ3 A3 e3 r3 h3 => O d3 st3 v3 H3 ρ3 A3 (e2.trans e3) r3 h3) A2 r2 (mu_and h2).2
/-! ### dict displays -/
theorem ab_newK {K : PySem.W.Frag} {ρ : List Addr} {H : Hp} {st : Sto} (A : Ab K ρ st H) {p : Addr} (hp : H p = none) : Ab K (ρ ++ [p]) (st ++ [.dK []]) (upd H p (.dK [])) :=
  A.newO hp ⟨[], upd_same, rfl, reps_nil.mpr rfl⟩
theorem ab_newT {K : PySem.W.Frag} {ρ : List Addr} {H : Hp} {st : Sto} (A : Ab K ρ st H) {p : Addr} (hp : H p = none) : Ab K (ρ ++ [p]) (st ++ [.dT []]) (upd H p (.dT [])) :=
  A.newO hp ⟨[], upd_same, rfl, reps_nil.mpr rfl⟩
theorem rho_last {ρ : List Addr} {p : Addr} {st : Sto} (h : ρ.length = st.length) : (ρ ++ [p])[st.length]? = some p := by
  rw [← h, List.getElem?_append_right (Nat.le_refl _), Nat.sub_self]; rfl
theorem se_dc0 : SE Γ sc .dc0 (.Dict [] [] pos) := by
  refine ⟨tDNewK, fun X hX => pe_dnewK, fun en st σ H ρ Q Xk R A V h O => ?_⟩
  intro p hp
  exact O _ _ _ _ _ (ab_newK A hp) (ex_new hp [p]) (rep_ref.mpr ⟨p, rho_last A.len, rfl⟩) h
theorem se_dcT : SE Γ sc .dcT (.Dict [] [] pos) := by
  refine ⟨tDNewT, fun X hX => pe_dnewT, fun en st σ H ρ Q Xk R A V h O => ?_⟩
  intro p hp
  exact O _ _ _ _ _ (ab_newT A hp) (ex_new hp [p]) (rep_ref.mpr ⟨p, rho_last A.len, rfl⟩) h
/-- the pairs, each value by its own reading -/
def SPs (Γ : Gam) (sc : Scope) (ks : List Key) (es : Es) (keys : List (Option Expr)) (pes : List Expr) : Prop := ∃ trs, (∀ X pos, Okx Γ sc X → PPs X pos keys pes trs) ∧ ∀ en st σ H ρ Q Xk R, Ab Γ.K ρ st H → Evx Γ Xk ρ H en σ → wEs Γ.C es en st Q Xk →
  (∀ ds st' vs H' ρ', Ab Γ.K ρ' st' H' → Ex ρ H ρ' H' → Reps Γ.K ρ' H' ds vs → ds.length = ks.length → Q ds st' → R ((ks.zip vs).map fun kv => (kV kv.1, kv.2)) H') → tPairs trs σ H R
def SEL (Γ : Gam) (sc : Scope) : Es → List Expr → Prop
  | .nil, [] => True
  | .cons e es, pe :: pes => SE Γ sc e pe ∧ SEL Γ sc es pes
  | _, _ => False
theorem sps_of {hx : True} : ∀ (ks : List Key) (es : Es) (keys : List (Option Expr)) (pes : List Expr), keysB ks keys = true → ks.length = pes.length → SEL Γ sc es pes → SPs Γ sc ks es keys pes
  | [], .nil, [], [], _, _, _ => ⟨[], fun X pos _ => pps_nil, fun en st σ H ρ Q Xk R A V h O => O [] st [] H ρ A Ex.refl (reps_nil.mpr rfl) rfl h⟩
  | k :: ks, .cons e es, ke :: keys, pe :: pes, hk, hl, hs => by
    have hk' : (keyB k ke && keysB ks keys) = true := hk
    rw [Bool.and_eq_true] at hk'
    obtain ⟨trs, p1, r1⟩ := sps_of (hx := hx) ks es keys pes hk'.2 (by simpa using hl) hs.2
    obtain ⟨te, p2, r2⟩ := hs.1
    obtain ⟨kx, tk, ek, pk, rk⟩ : ∃ (kx : Expr) (tk : TE), ke = some kx ∧ (∀ X, PE X kx tk) ∧ ∀ σ H (Q : VK), Q (kV k) H → tk σ H Q := by
      cases ke with
      | none => cases k <;> exact absurd hk'.1 Bool.false_ne_true
      | some kx =>
        cases k with
        | inl i =>
          cases kx with
          | Constant c a b =>
            cases c with
            | int j =>
              have : i = j := of_decide_eq_true hk'.1
              subst this
              exact ⟨_, _, rfl, fun X => pe_int, fun σ H Q q => q⟩
            | _ => exact absurd hk'.1 Bool.false_ne_true
          | _ => exact absurd hk'.1 Bool.false_ne_true
        | inr x =>
          cases kx with
          | Constant c a b =>
            cases c with
            | str j =>
              have : x = j := of_decide_eq_true hk'.1
              subst this
              exact ⟨_, _, rfl, fun X => pe_str, fun σ H Q q => q⟩
            | _ => exact absurd hk'.1 Bool.false_ne_true
          | _ => exact absurd hk'.1 Bool.false_ne_true
    subst ek
    refine ⟨(tk, te) :: trs, fun X pos hX => pps_cons (pk X) (p2 X hX) (p1 X pos hX), fun en st σ H ρ Q Xk R A V h O => ?_⟩
    refine rk σ H _ ?_
    refine r2 en st σ H ρ _ Xk _ A V h fun d st1 v H1 ρ1 A1 e1 q1 h1 => ?_
    refine r1 en st1 σ H1 ρ1 _ Xk _ A1 (V.ext e1) h1 fun ds st2 vs H2 ρ2 A2 e2 q2 hl2 h2 => ?_
    exact O (d :: ds) st2 (v :: vs) H2 ρ2 A2 (e1.trans e2) (reps_cons.mpr ⟨v, vs, rfl, q1.ext e2, q2⟩) (by rw [List.length_cons, List.length_cons, hl2]) h2
  | [], .nil, [], _ :: _, _, hl, _ => by cases hl
  | [], .nil, _ :: _, _, hk, _, _ => by cases hk
  | [], .cons _ _, _, [], _, _, hs => hs.elim
  | [], .cons _ _, _, _ :: _, _, hl, _ => by cases hl
  | _ :: _, .nil, _, [], _, hl, _ => by cases hl
  | _ :: _, .nil, _, _ :: _, _, _, hs => hs.elim
  | _ :: _, .cons _ _, [], _, hk, _, _ => by cases hk
  | _ :: _, .cons _ _, _ :: _, [], _, hl, _ => by cases hl
theorem merge_rep {K : PySem.W.Frag} {ρ : List Addr} {H : Hp} : ∀ (ks : List Key) (ds : List D) (vs : List V) (kvs : List (Key × D)) (us : List (Key × V)), Reps K ρ H ds vs → KvR K ρ H kvs us →
    KvR K ρ H ((ks.zip ds).foldl (fun acc kv => dPut acc kv.1 kv.2) kvs) (mergeK us (ks.zip vs))
  | [], ds, vs, kvs, us, _, q => by rw [List.zip_nil_left, List.zip_nil_left]; exact q
  | k :: ks, [], vs, kvs, us, r, q => by rw [reps_nil] at r; subst r; rw [List.zip_nil_right, List.zip_nil_right]; exact q
  | k :: ks, d :: ds, vs, kvs, us, r, q => by
    obtain ⟨v, vs', rfl, r1, r2⟩ := reps_cons.mp r
    rw [List.zip_cons_cons, List.zip_cons_cons, List.foldl_cons]
    exact merge_rep ks ds vs' (dPut kvs k d) (putK us k v) r2 (q.put k r1)
theorem se_dct {ks : List Key} {es : Es} {keys : List (Option Expr)} {pes : List Expr} (hk : keysB ks keys = true) (hl : ks.length = pes.length) (h0 : keys ≠ []) (h15 : keys.length ≤ 15) (hall : keys.all (·.isSome) = true) (hkl : keys.length = pes.length) (hs : SEL Γ sc es pes) :
    SE Γ sc (.dct ks es) (.Dict keys pes pos) := by
  obtain ⟨trs, p1, r1⟩ := sps_of (hx := trivial) ks es keys pes hk hl hs
  refine ⟨tDisp trs, fun X hX => pe_disp (p1 X pos hX) hall hkl h0 h15, fun en st σ H ρ Q Xk R A V h O => ?_⟩
  intro p hp
  have e0 : Ex ρ H (ρ ++ [p]) (upd H p (.dK [])) := ex_new hp [p]
  refine r1 en _ σ _ _ _ Xk _ (ab_newK A hp) (V.ext e0) h fun ds st1 vs H1 ρ1 A1 e1 q1 hl1 h1 => ?_
  have h1' : (match st1[st.length]? with
    | some (.dK []) => Q (.ref st.length) (st1.set st.length (.dK ((ks.zip ds).foldl (fun acc kv => dPut acc kv.1 kv.2) [])))
    | _ => False) := h1
  split at h1'
  · rename_i e2
    have hr : ρ1[st.length]? = some p := e1.pre _ _ (rho_last A.len)
    obtain ⟨a, us, ea, hr', hH, q⟩ := A1.dK e2 (rep_ref.mpr ⟨p, hr, rfl⟩)
    cases ea
    cases q.nil_inv
    refine ⟨hH, ks.zip vs, rfl, by rw [List.length_zip]; omega, ?_⟩
    have e3 : Ex ρ1 H1 ρ1 (upd H1 p (.dK (mergeK [] (ks.zip vs)))) := ex_wrO hH rfl
    have m := merge_rep ks ds vs [] [] q1 .nil
    refine O _ _ _ _ _ (A1.setO (o1 := .dK _) e2 rfl hr hH rfl ⟨_, upd_same, (m.ext e3).1, (m.ext e3).2⟩) (e0.trans (e1.trans e3)) (rep_ref.mpr ⟨p, hr, rfl⟩) h1'
  · exact False.elim h1'
theorem plain_of {pes : List Expr} (h : ∀ p ∈ pes, fine p = true) (pos : Pos) (env : Env) : (backTo pos (starEach pes env)).any (·.1) = false := by
  have go : ∀ pes : List Expr, (∀ p ∈ pes, fine p = true) → (starEach pes env).any (·.1) = false := by
    intro pes
    induction pes with
    | nil => intro _; rfl
    | cons p r ih =>
      intro h
      rw [star_of (h p List.mem_cons_self)]
      rw [List.any_cons, ih fun q hq => h q (List.mem_cons_of_mem _ hq)]
      rfl
  have e : (backTo pos (starEach pes env)).any (·.1) = (starEach pes env).any (·.1) := by
    unfold backTo
    rw [List.any_map]
    rfl
  rw [e]
  exact go pes h
end
end Q3

set_option Elab.async false
set_option linter.all false
set_option maxRecDepth 100000
set_option maxHeartbeats 4000000
/-! Q3h: calls, tests, walks, comprehensions. -/
namespace Q3
open PySem PySem.Spec PyProof.Rows L2
section
variable {Γ : Gam} {sc : Scope} {a b : E} {pa pb pc : Expr} {pos : Pos}
theorem fines_of {M : Nms} {N : List Str} : ∀ {es : Es} {pes : List Expr}, chkEs M N es sc pes = true → ∀ p ∈ pes, fine p = true
  | .nil, [], _ => by simp
  | .nil, _ :: _, h => by cases h
  | .cons _ _, [], h => by cases h
  | .cons e es, p :: pes, h => by
    have h' : (chkE M N e sc p && chkEs M N es sc pes) = true := h
    rw [Bool.and_eq_true] at h'
    intro q hq
    rcases List.mem_cons.mp hq with rfl | hq
    · exact fine_of h'.1
    · exact fines_of h'.2 q hq
/-- f(), what it raises wished for at the slots -/
theorem pe_callS0 {X : Cx} {CX : CXT} {k : Nat} {f : Addr} {fd : FuncData} {ps : List Str} {sp : Sp} {E : L2.St → XK} {x : Str} {p pos : Pos} (F : FnOk X.prog X.w X.K X.mg X.base CX k f fd ps sp) (hr : Room k X.A) (hg : Gl X x) (hm : X.mg x = some (.ref f)) (hk : PySem.W.keepIn X.K (.ref f) = true) (hb : Binds X.K fd ps []) (hx : ∀ σ, PassesAt CX X σ (E σ))
    (hdb : (x == ("__debug__" : Str)) = false) : PE X (.Call (.Name x p) [] [] pos) (tCallS sp E tNil) := by
  refine ⟨fun pins s σ H Q I h => ?_⟩
  refine wpAny_Call_Name_kw (ld_glob I hg hm ?_ hdb)
  exact PySem.W.callWith_K0 I.kIn hk (run_fnS (us := []) F hr hb (hx σ) I .nil h)
theorem se_call0 (G : GOk Γ) (hcm : Γ.M.calm = true) {f : Nat} {x : Str} {p : Pos} (h1 : Γ.M.F[f]? = some x) (h2 : gloB sc x = true) : SE Γ sc (.call f .nil) (.Call (.Name x p) [] [] pos) := by
  obtain ⟨fa, fd, ps, hm, hk, hb, hl, F⟩ := G.fn f x h1
  obtain ⟨g1, g2, g3⟩ := gloB_ok h2
  refine ⟨tCallS (spOf Γ.K Γ.cl ps.length (Γ.C.call f)) (WE Γ.W) tNil, fun X hX => ?_, fun en st σ H ρ Q Xk R A V h O => ?_⟩
  · have F' : FnOk X.prog X.w X.K X.mg X.base (L2.CX X.prog X.w) Γ.n fa fd ps (spOf Γ.K Γ.cl ps.length (Γ.C.call f)) := by
      rw [hX.P, hX.w, hX.K, hX.mg, hX.base]; exact F
    exact pe_callS0 F' (hX.room hcm) (gl_of hX g1) (by rw [hX.mg]; exact hm) (by rw [hX.K]; exact hk) (by rw [hX.K]; exact hb) (passAt hX.tk) g2
  · have h2' : Γ.C.call f [] st Q Xk := h
    exact ⟨hl _ _ _ _ h2', ρ, st, [], Q, Xk, A, reps_nil.mpr rfl, h2', O, V.ox⟩
theorem se_call (G : GOk Γ) (hcm : Γ.M.calm = true) {f : Nat} {x : Str} {p : Pos} {es : Es} {pe : Expr} {pes : List Expr} (h1 : Γ.M.F[f]? = some x) (h2 : gloB sc x = true) (hf : ∀ p ∈ pe :: pes, fine p = true) (hs : SA Γ sc es (pe :: pes)) :
    SE Γ sc (.call f es) (.Call (.Name x p) (pe :: pes) [] pos) := by
  obtain ⟨fa, fd, ps, hm, hk, hb, hl, F⟩ := G.fn f x h1
  obtain ⟨g1, g2, g3⟩ := gloB_ok h2
  obtain ⟨tb, pb', rb⟩ := hs
  refine ⟨tCallS (spOf Γ.K Γ.cl ps.length (Γ.C.call f)) (WE Γ.W) tb, fun X hX => ?_, fun en st σ H ρ Q Xk R A V h O => ?_⟩
  · have F' : FnOk X.prog X.w X.K X.mg X.base (L2.CX X.prog X.w) Γ.n fa fd ps (spOf Γ.K Γ.cl ps.length (Γ.C.call f)) := by
      rw [hX.P, hX.w, hX.K, hX.mg, hX.base]; exact F
    exact pe_callS F' (hX.room hcm) (gl_of hX g1) (by rw [hX.mg]; exact hm) (by rw [hX.K]; exact hk) (by rw [hX.K]; exact hb) (passAt hX.tk) (pb' X hX) g2 (star_of (hf pe List.mem_cons_self) _ _) (plain_of (fun q hq => hf q (List.mem_cons_of_mem _ hq)) _ _)
  · refine rb en st σ H ρ _ Xk _ A V h fun ds st2 vs H2 ρ2 A2 e2 r2 h2 => ?_
    have h2' : Γ.C.call f ds st2 Q Xk := h2
    exact ⟨by rw [← r2.length]; exact hl _ _ _ _ h2', ρ2, st2, ds, Q, Xk, A2, r2, h2', fun d3 st3 v3 H3 ρ3 A3 e3 r3 h3 => O d3 st3 v3 H3 ρ3 A3 (e2.trans e3) r3 h3, V.ox.ext e2⟩
theorem boot_min' : bootBuiltins "min" = some (.builtin "min") := by decide +kernel
theorem boot_max' : bootBuiltins "max" = some (.builtin "max") := by decide +kernel
theorem boot_len' : bootBuiltins "len" = some (.builtin "len") := by decide +kernel
theorem boot_all' : bootBuiltins "all" = some (.builtin "all") := by decide +kernel
theorem boot_any' : bootBuiltins "any" = some (.builtin "any") := by decide +kernel
theorem boot_sum' : bootBuiltins "sum" = some (.builtin "sum") := by decide +kernel
theorem boot_sorted' : bootBuiltins "sorted" = some (.builtin "sorted") := by decide +kernel
theorem boot_dict' : bootBuiltins "dict" = some (.type "dict") := by decide +kernel
theorem boot_range' : bootBuiltins "range" = some (.type "range") := by decide +kernel
theorem se_bf (G : GOk Γ) (hcm : Γ.M.calm = true) (b : Bf) {x : Str} {p : Pos} {es : Es} {pe : Expr} {pes : List Expr} (h0 : x = b.nm) (h1 : x ∈ Γ.M.B) (h2 : gloB sc x = true) (hf : ∀ p ∈ pe :: pes, fine p = true) (hs : SA Γ sc es (pe :: pes)) :
    SE Γ sc (.bf b es) (.Call (.Name x p) (pe :: pes) [] pos) := by
  obtain ⟨g1, g2, g3⟩ := gloB_ok h2
  obtain ⟨tb, pb', rb⟩ := hs
  refine ⟨tCB (rBfD Γ.K b) tb, fun X hX => ?_, fun en st σ H ρ Q Xk R A V h O => ?_⟩
  · have hm : X.mg x = none := by rw [hX.mg]; exact G.bt x h1
    have hcb := ob_bf (X := X) (hX.calm hcm) b
    rw [hX.K] at hcb
    have s1 := star_of (hf pe List.mem_cons_self) pes X.env
    have s2 := plain_of (pos := pos) (fun q hq => hf q (List.mem_cons_of_mem pe hq)) X.env
    cases b with
    | len => exact pe_callB hcb (gl_of hX g1) hm (by rw [h0]; exact boot_len') (pb' X hX) g3 g2 s1 s2
    | all => exact pe_callB hcb (gl_of hX g1) hm (by rw [h0]; exact boot_all') (pb' X hX) g3 g2 s1 s2
    | any => exact pe_callB hcb (gl_of hX g1) hm (by rw [h0]; exact boot_any') (pb' X hX) g3 g2 s1 s2
    | sum => exact pe_callB hcb (gl_of hX g1) hm (by rw [h0]; exact boot_sum') (pb' X hX) g3 g2 s1 s2
    | min1 => exact pe_callB hcb (gl_of hX g1) hm (by rw [h0]; exact boot_min') (pb' X hX) g3 g2 s1 s2
    | max1 => exact pe_callB hcb (gl_of hX g1) hm (by rw [h0]; exact boot_max') (pb' X hX) g3 g2 s1 s2
    | sorted => exact pe_callB hcb (gl_of hX g1) hm (by rw [h0]; exact boot_sorted') (pb' X hX) g3 g2 s1 s2
    | dict => exact pe_callTy hcb (gl_of hX g1) hm (by rw [h0]; exact boot_dict') (pb' X hX) g3 g2 s1 s2
    | min2 => exact pe_callB hcb (gl_of hX g1) hm (by rw [h0]; exact boot_min') (pb' X hX) g3 g2 s1 s2
    | max2 => exact pe_callB hcb (gl_of hX g1) hm (by rw [h0]; exact boot_max') (pb' X hX) g3 g2 s1 s2
    | int => exact pe_callTy hcb (gl_of hX g1) hm (by rw [h0]; exact PyProof.Rows.boot_int) (pb' X hX) g3 g2 s1 s2
    | str => exact pe_callTy hcb (gl_of hX g1) hm (by rw [h0]; exact PyProof.Rows.boot_str) (pb' X hX) g3 g2 s1 s2
    | list => exact pe_callTy hcb (gl_of hX g1) hm (by rw [h0]; exact PyProof.Rows.boot_list) (pb' X hX) g3 g2 s1 s2
    | tuple => exact pe_callTy hcb (gl_of hX g1) hm (by rw [h0]; exact PyProof.Rows.boot_tuple) (pb' X hX) g3 g2 s1 s2
  · refine rb en st σ H ρ _ Xk _ A V h fun ds st2 vs H2 ρ2 A2 e2 r2 h2 => ?_
    exact ⟨ρ2, st2, ds, Q, A2, r2, h2, fun d3 st3 v3 H3 ρ3 A3 e3 r3 h3 => O d3 st3 v3 H3 ρ3 A3 (e2.trans e3) r3 h3⟩
theorem plainObj_of {po : Expr} (h : plainObj po = true) (name : Str) (env : Env) : attributeBase po name env (eval po env) = eval po env := by
  unfold plainObj at h
  split at h
  · cases h
  · rename_i hn
    cases po with
    | Call f args kws p =>
      cases f with
      | Name x px =>
        cases args with
        | nil =>
          cases kws with
          | nil => exact absurd rfl (hn x px p)
          | cons _ _ => rfl
        | cons _ _ => rfl
      | _ => rfl
    | _ => rfl
theorem few_of {pes : List Expr} {cpos : Pos} {env : Env} (hf : ∀ p ∈ pes, fine p = true) (hl : pes.length < 29) : ((backTo cpos (starEach pes env)).all (fun x => !x.1) && (backToKw cpos (keywordEach [] env)).all (fun x => x.1.isSome)
      && decide (pes.length + ([] : List Keyword).length + (if ([] : List Keyword).isEmpty then 0 else 1) < 30)) = true := by
  have e1 : (backTo cpos (starEach pes env)).all (fun x => !x.1) = true := by
    have q := plain_of hf cpos env
    rw [List.any_eq_false] at q
    rw [List.all_eq_true]
    intro x hx
    have := q x hx
    simpa using this
  rw [e1]
  have e2 : decide (pes.length + ([] : List Keyword).length + (if ([] : List Keyword).isEmpty then 0 else 1) < 30) = true := decide_eq_true (by
    show pes.length + 0 + 0 < 30
    omega)
  rw [e2]
  rfl
/-! ### written dicts -/
theorem kdAt_str {kd : List (List (Str × D))} {k : Nat} {x : D} {o : Option D} (h : kdAt kd k x = some o) : ∃ z, x = .str z := by
  cases x with
  | str z => exact ⟨z, rfl⟩
  | _ => cases h
/-- what is found: a value that lies so at every time -/
def FoundV (K : PySem.W.Frag) (o : Option D) (v : V) : Prop := (o = none ∧ v = .non) ∨ ∃ dd, o = some dd ∧ ∀ ρ H, Rep K ρ H dd v
theorem kd_get {X : Cx} {d : Addr} {es : Array DictEntry} {A : Around} {E : Value → Shared → Prop} {Q : Value → Shared → Prop} {s : Shared} {z : Str} {t : Tok} {r : Option Value} (h : s.heap.MapOf (strKind X.prog X.w) d (fun k => findBy Value.isStrOf es k)) (low : (d == sysModules) = false)
    (hr : findBy Value.isStrOf es z = r) (q : Q (r.getD .none) { s with toks := s.toks + 1 }) : wpAny (model X.prog X.w) A (call (.builtin "dict.get") [.ref d, .str z t]) Q E s := by
  refine call_meetsIn PySem.F.slot_dict_get h.typeIs PySem.F.entry_dict_get (PySem.F.args_dict_get_2 _ _) (meets_dict_get (strKind X.prog X.w) d (strKind_is X.prog X.w z t) low) ⟨_, h, ?_⟩
  rw [hr]; exact q
def tKd (Γ : Gam) (k : Nat) (te : TE) (f : Option D → V → Hp → VK → Prop) : TE := fun σ H Q => te σ H fun y H1 => ∃ z o, y = .str z ∧ kdAt Γ.C.KD k (.str z) = some o ∧ ∀ v, FoundV Γ.K o v → f o v H1 Q
theorem se_kget (G : GOk Γ) {k : Nat} {e : E} {x : Str} {p apos : Pos} (h1 : Γ.M.Kn[k]? = some x) (h2 : gloB sc x = true) (hl : (apos.endLine == pos.line) = true) (hf : fine pa = true) (he : SE Γ sc e pa) : SE Γ sc (.kget k e) (.Call (.Attribute (.Name x p) "get" apos) [pa] [] pos) := by
  obtain ⟨g1, g2, g3⟩ := gloB_ok h2
  obtain ⟨te, pe', re⟩ := he
  obtain ⟨d, es, n, hm, KD, hv⟩ := G.kd k x h1
  refine ⟨tKd Γ k te fun _ v H Q => Q v H, fun X hX => ⟨fun pins s σ H Q I h => ?_⟩, fun en st σ H ρ Q Xk R A V h O => ?_⟩
  · have hm' : X.mg x = some (.ref d) := by rw [hX.mg]; exact hm
    have few := few_of (cpos := pos) (env := X.env) (pes := [pa]) (fun q hq => by rw [List.mem_singleton] at hq; rw [hq]; exact hf) (show 1 < 29 by decide)
    have tr : backTo pos (starEach [pa] X.env) = [(false, eval pa X.env)] := by rw [star_of hf]; rfl
    refine wpAny_Call_method (T := "dict") (plainObj_of rfl "get" X.env) few hl PySem.F.plainAttrs_dict PySem.F.slot_dict_get PySem.F.type_dict_get (ld_glob I (gl_of hX g1) hm' ?_ g2)
    have kI := I.kIn
    rw [hX.K] at kI
    have mp := PySem.W.mapOf_K (prog := X.prog) (w := X.w) kI KD.at_ (by rw [hX.w]; exact KD.lit)
    refine ⟨mp.typeIs, fun b q => ?_, ?_⟩
    · cases q
      exact ⟨_, kI _ _ KD.at_, rfl⟩
    rw [tr]
    refine Calls.callWith_builtin rfl (Calls.evalArgs_plain (Calls.spliced_cons (thn ((pe' X hX).run pins s σ H _ I h) fun iv s2 ⟨y, H2, I2, ry, z, o, ez, ho, q2⟩ => Calls.spliced_nil ?_)))
    subst ez
    obtain ⟨t, rfl⟩ := (show ∃ t, iv = Value.str z t from ry)
    have kI2 := I2.kIn
    rw [hX.K] at kI2
    have mp2 := PySem.W.mapOf_K (prog := X.prog) (w := X.w) kI2 KD.at_ (by rw [hX.w]; exact KD.lit)
    obtain ⟨r, hr, hc⟩ := hv z o ho
    refine kd_get mp2 KD.low (PySem.W.find_K KD.at_ hr) ?_
    rcases hc with ⟨rfl, rfl⟩ | ⟨dd, u, v, rfl, rfl, ru, rp⟩
    · exact ⟨.non, H2, I2.tok _, rfl, q2 .non (.inl ⟨rfl, rfl⟩)⟩
    · exact ⟨v, H2, I2.tok _, ru, q2 v (.inr ⟨dd, rfl, rp⟩)⟩
  · refine re en st σ H ρ _ Xk _ A V h fun y st1 v H1 ρ1 A1 e1 r1 h1' => ?_
    have h2' : (match kdAt Γ.C.KD k y with
      | some o => Q (o.getD .non) st1
      | none => False) := h1'
    split at h2'
    · rename_i o eo
      obtain ⟨z, rfl⟩ := kdAt_str eo
      refine ⟨z, o, (rep_str.mp r1).1, eo, fun v hv => ?_⟩
      rcases hv with ⟨rfl, rfl⟩ | ⟨dd, rfl, hd⟩
      · exact O _ _ _ _ _ A1 e1 (rep_non.mpr rfl) h2'
      · exact O _ _ _ _ _ A1 e1 (hd _ _) h2'
    · exact False.elim h2'
theorem se_kix (G : GOk Γ) {k : Nat} {e : E} {x : Str} {p : Pos} (h1 : Γ.M.Kn[k]? = some x) (h2 : gloB sc x = true) (hf : fine pa = true) (he : SE Γ sc e pa) : SE Γ sc (.kix k e) (.Subscript (.Name x p) pa pos) := by
  obtain ⟨g1, g2, g3⟩ := gloB_ok h2
  obtain ⟨te, pe', re⟩ := he
  obtain ⟨d, es, n, hm, KD, hv⟩ := G.kd k x h1
  refine ⟨tKd Γ k te fun o v H Q => o.isSome = true ∧ Q v H, fun X hX => ?_, fun en st σ H ρ Q Xk R A V h O => ?_⟩
  · have hm' : X.mg x = some (.ref d) := by rw [hX.mg]; exact hm
    refine ⟨fun pins s σ H Q I h => ?_⟩
    refine Subscript_ (ld_glob I (gl_of hX g1) hm' (thn ((pe' X hX).run pins s σ H _ I h) fun iv s2 ⟨y, H2, I2, ry, z, o, ez, ho, q2⟩ => ?_) g2)
    subst ez
    obtain ⟨t, rfl⟩ := (show ∃ t, iv = Value.str z t from ry)
    have kI2 := I2.kIn
    rw [hX.K] at kI2
    obtain ⟨r, hr, hc⟩ := hv z o ho
    have mp2 := PySem.W.mapOf_K (prog := X.prog) (w := X.w) kI2 KD.at_ (by rw [hX.w]; exact KD.lit)
    rcases hc with ⟨rfl, rfl⟩ | ⟨dd, u, v, rfl, rfl, ru, rp⟩
    · exact absurd (q2 .non (.inl ⟨rfl, rfl⟩)).1 Bool.false_ne_true
    · exact tail_any mp2.typeIs PySem.F.slot_dict_getitem.lookup (wpAny_getItem_of (strKind_is X.prog X.w z t) mp2 (PySem.W.find_K KD.at_ hr) ⟨v, H2, I2.tok _, ru, (q2 v (.inr ⟨dd, rfl, rp⟩)).2⟩) (plainIx_of hf _ _)
  · refine re en st σ H ρ _ Xk _ A V h fun y st1 v H1 ρ1 A1 e1 r1 h1' => ?_
    have h2' : (match kdAt Γ.C.KD k y with
      | some (some d) => Q d st1
      | _ => False) := h1'
    split at h2'
    · rename_i dd eo
      obtain ⟨z, rfl⟩ := kdAt_str eo
      refine ⟨z, some dd, (rep_str.mp r1).1, eo, fun v hv => ⟨rfl, ?_⟩⟩
      rcases hv with ⟨z, _⟩ | ⟨dd, z, hd⟩
      · cases z
      · cases z; exact O _ _ _ _ _ A1 e1 (hd _ _) h2'
    · exact False.elim h2'
def rKin (Γ : Gam) (d : Addr) (neg : Bool) (k : Nat) : R2 := fun y w H Q => w = .ref d ∧ ∃ z o, y = .str z ∧ kdAt Γ.C.KD k (.str z) = some o ∧ Q (.bl (neg != o.isSome)) H
theorem ob_kin {X : Cx} (hX : Okx Γ sc X) {neg : Bool} {k : Nat} {op : CmpOp} {d : Addr} {es : Array DictEntry} {n : Nat} (hop : op = if neg = true then .NotIn else .In) (KD : KDict Γ.K Γ.w d es n)
    (hv : ∀ z o, kdAt Γ.C.KD k (.str z) = some o → ∃ r, PySem.W.nsIn Γ.K d z = some r ∧ ((o = none ∧ r = none) ∨ ∃ dd u v, o = some dd ∧ r = some u ∧ RelV v u ∧ ∀ ρ H, Rep Γ.K ρ H dd v)) : OpR X (compareOp op) (rKin Γ d neg k) := by
  have KD' : KDict X.K X.w d es n := by rw [hX.K, hX.w]; exact KD
  intro pins s σ H y w v u Q I ry rw' ⟨ew, z, o, ey, ho, q⟩
  subst ew ey
  obtain ⟨r, hr, hs⟩ : ∃ r, PySem.W.nsIn X.K d z = some r ∧ r.isSome = o.isSome := by
    obtain ⟨r, hr, hc⟩ := hv z o ho
    refine ⟨r, by rw [hX.K]; exact hr, ?_⟩
    rcases hc with ⟨rfl, rfl⟩ | ⟨dd, u, v, rfl, rfl, _⟩ <;> rfl
  cases neg with
  | true =>
    subst hop
    refine op_notIn_kd KD' pins s σ H _ _ v u Q I ry rw' ⟨z, r, rfl, rfl, hr, ?_⟩
    rw [hs]
    have e : (!o.isSome) = (true != o.isSome) := by cases o.isSome <;> rfl
    rw [e]; exact q
  | false =>
    subst hop
    refine op_in_kd KD' pins s σ H _ _ v u Q I ry rw' ⟨z, r, rfl, rfl, hr, ?_⟩
    rw [hs]
    have e : o.isSome = (false != o.isSome) := by cases o.isSome <;> rfl
    rw [e]; exact q
theorem kin_mark {neg : Bool} {op : CmpOp} {x : Str} {p : Pos} (hop : op = if neg = true then .NotIn else .In) : behindInMarks op (.Name x p) = false := by cases neg <;> (subst hop; rfl)
theorem kin_run (G : GOk Γ) {neg : Bool} {k : Nat} {e : E} {en : En} {st : Sto} {σ : L2.St} {H : Hp} {ρ : List Addr} {Q : KD} {Xk : KX} {R : VK} {te : TE} {d : Addr}
    (re : ∀ en st σ H ρ Q Xk R, Ab Γ.K ρ st H → Evx Γ Xk ρ H en σ → wE Γ.C e en st Q Xk → Out Γ.K ρ H Q R → te σ H R) (A : Ab Γ.K ρ st H) (V : Evx Γ Xk ρ H en σ) (h : wE Γ.C (.kin neg k e) en st Q Xk) (O : Out Γ.K ρ H Q R) : tOp (rKin Γ d neg k) te (fun σ H Q => Q (.ref d) H) σ H R := by
  refine re en st σ H ρ _ Xk _ A V h fun y st1 v H1 ρ1 A1 e1 r1 h1' => ?_
  have h2' : (match kdAt Γ.C.KD k y with
    | some o => Q (.bl (neg != o.isSome)) st1
    | none => False) := h1'
  split at h2'
  · rename_i o eo
    obtain ⟨z, rfl⟩ := kdAt_str eo
    exact ⟨rfl, z, o, (rep_str.mp r1).1, eo, O _ _ _ _ _ A1 e1 (rep_bl.mpr rfl) h2'⟩
  · exact False.elim h2'
theorem se_kin (G : GOk Γ) {neg : Bool} {k : Nat} {e : E} {x : Str} {p : Pos} {op : CmpOp} (hop : op = if neg = true then .NotIn else .In) (h1 : Γ.M.Kn[k]? = some x) (h2 : gloB sc x = true) (he : SE Γ sc e pa) : SE Γ sc (.kin neg k e) (.Compare pa [op] [.Name x p] pos) := by
  obtain ⟨g1, g2, g3⟩ := gloB_ok h2
  obtain ⟨te, pe', re⟩ := he
  obtain ⟨d, es, n, hm, KD, hv⟩ := G.kd k x h1
  refine ⟨tOp (rKin Γ d neg k) te (fun σ H Q => Q (.ref d) H), fun X hX => ?_, fun en st σ H ρ Q Xk R A V h O => kin_run G re A V h O⟩
  have hm' : X.mg x = some (.ref d) := by rw [hX.mg]; exact hm
  exact pe_cmpR (pos := pos) (ob_kin hX hop KD hv) (pe' X hX) ⟨fun pins s σ H Q I h => ld_glob I (gl_of hX g1) hm' ⟨.ref d, H, I, rfl, h⟩ g2⟩ (kin_mark hop)
theorem st_kin (G : GOk Γ) {neg : Bool} {k : Nat} {e : E} {x : Str} {p : Pos} {op : CmpOp} (hop : op = if neg = true then .NotIn else .In) (h1 : Γ.M.Kn[k]? = some x) (h2 : gloB sc x = true) (he : SE Γ sc e pa) : ST Γ sc (.val (.kin neg k e)) (.Compare pa [op] [.Name x p] pos) := by
  obtain ⟨g1, g2, g3⟩ := gloB_ok h2
  obtain ⟨te, pe', re⟩ := he
  obtain ⟨d, es, n, hm, KD, hv⟩ := G.kd k x h1
  refine ⟨tTest (tOp (rKin Γ d neg k) te (fun σ H Q => Q (.ref d) H)), fun X hX => ?_, fun en st σ H ρ Q Xk R A V h O => ?_⟩
  · have hm' : X.mg x = some (.ref d) := by rw [hX.mg]; exact hm
    exact pt_cmpR (pos := pos) (ob_kin hX hop KD hv) (pe' X hX) ⟨fun pins s σ H Q I h => ld_glob I (gl_of hX g1) hm' ⟨.ref d, H, I, rfl, h⟩ g2⟩ (kin_mark hop)
  · refine re en st σ H ρ _ Xk _ A V h fun y st1 v H1 ρ1 A1 e1 r1 h1' => ?_
    have h2' : (match kdAt Γ.C.KD k y with
      | some o => Q (neg != o.isSome) st1
      | none => False) := h1'
    split at h2'
    · rename_i o eo
      obtain ⟨z, rfl⟩ := kdAt_str eo
      exact ⟨rfl, z, o, (rep_str.mp r1).1, eo, ⟨_, rfl, O _ st1 H1 ρ1 A1 e1 h2'⟩⟩
    · exact False.elim h2'
theorem tyV_of {K : PySem.W.Frag} {ρ : List Addr} {st : Sto} {H : Hp} (A : Ab K ρ st H) {m : Mt} {d : D} {v : V} (h : mtOk m st d = true) (r : Rep K ρ H d v) : tyV K m.ty v H := by
  cases d with
  | str z =>
    obtain ⟨rfl, _⟩ := rep_str.mp r
    cases m <;> first | rfl | cases h
  | ref n =>
    have h' : (!m.onStr && (if m.onDic = true then (dicLen st (.ref n)).isSome else (lstAt st n).isSome)) = true := h
    rw [Bool.and_eq_true] at h'
    by_cases hd : m.onDic = true
    · rw [if_pos hd] at h'
      obtain ⟨k, hk⟩ := Option.isSome_iff_exists.mp h'.2
      have hk' : (match st[n]? with
        | some (.dK kvs) => some kvs.length
        | _ => none) = some k := hk
      split at hk'
      · rename_i kvs e1
        obtain ⟨a, vs, rfl, _, hp, _⟩ := A.dK e1 r
        refine .inr (.inr (.inl ⟨?_, .inl ⟨vs, hp⟩⟩))
        cases m <;> first | rfl | (exfalso; exact Bool.false_ne_true hd)
      · cases hk'
    · rw [if_neg hd] at h'
      obtain ⟨ds, hds⟩ := Option.isSome_iff_exists.mp h'.2
      obtain ⟨p, vs, rfl, _, hs, _⟩ := A.lst hds r
      refine .inl ⟨?_, vs, hs⟩
      cases m <;> first | rfl | (exfalso; exact Bool.false_ne_true h'.1) | (exfalso; exact hd rfl)
  | _ => cases h
theorem se_mt (m : Mt) {apos cpos : Pos} {es : Es} {pes : List Expr} (h1 : plainObj pa = true) (h2 : (apos.endLine == cpos.line) = true) (h3 : pes.length < 29) (hf : ∀ p ∈ pes, fine p = true)
    (h4 : pes = [] → es = .nil) (ha : SE Γ sc a pa) (hs : SA Γ sc es pes) : SE Γ sc (.mt m a es) (.Call (.Attribute pa m.nm apos) pes [] cpos) := by
  obtain ⟨ta, pa', ra⟩ := ha
  obtain ⟨tb, pb', rb⟩ := hs
  cases pes with
  | nil =>
    have e0 := h4 rfl
    subst e0
    refine ⟨tBM0 Γ.K m.ty (rMtD Γ.K m) ta, fun X hX => ?_, fun en st σ H ρ Q Xk R A V h O => ?_⟩
    · have hmt := ob_mt (X := X) (by have := okx_hu hX; omega) m
      rw [hX.K] at hmt
      have q1 := plainObj_of h1 m.nm X.env
      rw [← hX.K]
      rw [← hX.K] at hmt
      cases m with
      | append => exact pe_bm0 PySem.F.plainAttrs_list PySem.F.slot_list_append PySem.F.type_list_append hmt (pa' X hX) q1 h2
      | join => exact pe_bm0 PySem.F.plainAttrs_str PySem.F.slot_str_join PySem.F.type_str_join hmt (pa' X hX) q1 h2
      | split => exact pe_bm0 PySem.F.plainAttrs_str PySem.F.slot_str_split PySem.F.type_str_split hmt (pa' X hX) q1 h2
      | starts => exact pe_bm0 PySem.F.plainAttrs_str PySem.F.slot_str_startswith PySem.F.type_str_startswith hmt (pa' X hX) q1 h2
      | pop => exact pe_bm0 PySem.F.plainAttrs_list PySem.F.slot_list_pop PySem.F.type_list_pop hmt (pa' X hX) q1 h2
      | reverse => exact pe_bm0 PySem.F.plainAttrs_list PySem.F.slot_list_reverse PySem.F.type_list_reverse hmt (pa' X hX) q1 h2
      | popAt => exact pe_bm0 PySem.F.plainAttrs_list PySem.F.slot_list_pop PySem.F.type_list_pop hmt (pa' X hX) q1 h2
      | insert => exact pe_bm0 PySem.F.plainAttrs_list PySem.F.slot_list_insert PySem.F.type_list_insert hmt (pa' X hX) q1 h2
      | clear => exact pe_bm0 PySem.F.plainAttrs_list PySem.F.slot_list_clear PySem.F.type_list_clear hmt (pa' X hX) q1 h2
      | lindex => exact pe_bm0 PySem.F.plainAttrs_list PySem.F.slot_list_index PySem.F.type_list_index hmt (pa' X hX) q1 h2
      | get => exact pe_bm0 PySem.F.plainAttrs_dict PySem.F.slot_dict_get PySem.F.type_dict_get hmt (pa' X hX) q1 h2
      | index => exact pe_bm0 PySem.F.plainAttrs_str PySem.F.slot_str_index PySem.F.type_str_index hmt (pa' X hX) q1 h2
      | extend => exact pe_bm0 PySem.F.plainAttrs_list PySem.F.slot_list_extend PySem.F.type_list_extend hmt (pa' X hX) q1 h2
    · refine ra en st σ H ρ _ Xk _ A V h fun d st1 v H1 ρ1 A1 e1 r1 h1 => ?_
      obtain ⟨h5, h6⟩ := mu_and h1
      have h6' : wMt m d [] st1 Q := h6
      exact ⟨tyV_of A1 h5 r1, ρ1, st1, d, [], Q, A1, r1, reps_nil.mpr rfl, h6', fun d3 st3 v3 H3 ρ3 A3 e3 r3 h3 => O d3 st3 v3 H3 ρ3 A3 (e1.trans e3) r3 h3⟩
  | cons e r =>
    refine ⟨tBM Γ.K m.ty (rMtD Γ.K m) ta tb, fun X hX => ?_, fun en st σ H ρ Q Xk R A V h O => ?_⟩
    · have hmt := ob_mt (X := X) (by have := okx_hu hX; omega) m
      have q1 := plainObj_of h1 m.nm X.env
      rw [← hX.K]
      have q2 := few_of (cpos := cpos) (env := X.env) hf h3
      have s1 := star_of (hf e List.mem_cons_self) r X.env
      have s2 := plain_of (pos := cpos) (fun q hq => hf q (List.mem_cons_of_mem e hq)) X.env
      cases m with
      | append => exact pe_bm PySem.F.plainAttrs_list PySem.F.slot_list_append PySem.F.type_list_append hmt (pa' X hX) (pb' X hX) q1 q2 h2 s1 s2
      | join => exact pe_bm PySem.F.plainAttrs_str PySem.F.slot_str_join PySem.F.type_str_join hmt (pa' X hX) (pb' X hX) q1 q2 h2 s1 s2
      | split => exact pe_bm PySem.F.plainAttrs_str PySem.F.slot_str_split PySem.F.type_str_split hmt (pa' X hX) (pb' X hX) q1 q2 h2 s1 s2
      | starts => exact pe_bm PySem.F.plainAttrs_str PySem.F.slot_str_startswith PySem.F.type_str_startswith hmt (pa' X hX) (pb' X hX) q1 q2 h2 s1 s2
      | pop => exact pe_bm PySem.F.plainAttrs_list PySem.F.slot_list_pop PySem.F.type_list_pop hmt (pa' X hX) (pb' X hX) q1 q2 h2 s1 s2
      | reverse => exact pe_bm PySem.F.plainAttrs_list PySem.F.slot_list_reverse PySem.F.type_list_reverse hmt (pa' X hX) (pb' X hX) q1 q2 h2 s1 s2
      | popAt => exact pe_bm PySem.F.plainAttrs_list PySem.F.slot_list_pop PySem.F.type_list_pop hmt (pa' X hX) (pb' X hX) q1 q2 h2 s1 s2
      | insert => exact pe_bm PySem.F.plainAttrs_list PySem.F.slot_list_insert PySem.F.type_list_insert hmt (pa' X hX) (pb' X hX) q1 q2 h2 s1 s2
      | clear => exact pe_bm PySem.F.plainAttrs_list PySem.F.slot_list_clear PySem.F.type_list_clear hmt (pa' X hX) (pb' X hX) q1 q2 h2 s1 s2
      | lindex => exact pe_bm PySem.F.plainAttrs_list PySem.F.slot_list_index PySem.F.type_list_index hmt (pa' X hX) (pb' X hX) q1 q2 h2 s1 s2
      | get => exact pe_bm PySem.F.plainAttrs_dict PySem.F.slot_dict_get PySem.F.type_dict_get hmt (pa' X hX) (pb' X hX) q1 q2 h2 s1 s2
      | index => exact pe_bm PySem.F.plainAttrs_str PySem.F.slot_str_index PySem.F.type_str_index hmt (pa' X hX) (pb' X hX) q1 q2 h2 s1 s2
      | extend => exact pe_bm PySem.F.plainAttrs_list PySem.F.slot_list_extend PySem.F.type_list_extend hmt (pa' X hX) (pb' X hX) q1 q2 h2 s1 s2
    · refine ra en st σ H ρ _ Xk _ A V h fun d st1 v H1 ρ1 A1 e1 r1 h1 => ?_
      obtain ⟨h5, h6⟩ := mu_and h1
      refine ⟨tyV_of A1 h5 r1, rb en st1 σ H1 ρ1 _ Xk _ A1 (V.ext e1) h6 fun ds st2 vs H2 ρ2 A2 e2 r2 h2 => ?_⟩
      exact ⟨ρ2, st2, d, ds, Q, A2, r1.ext e2, r2, h2, fun d3 st3 v3 H3 ρ3 A3 e3 r3 h3 => O d3 st3 v3 H3 ρ3 A3 (e1.trans (e2.trans e3)) r3 h3⟩

/-! ### isinstance -/
theorem kit_bt (n : String) (t : Ty) (h : t.isOwn = false) (hn : n = "NoneType" ∨ n = "bool" ∨ n = "int" ∨ n = "str" ∨ n = "tuple" ∨ n = "list" ∨ n = "dict") : kitB n t.nm = some (tyHit n t) := by
  cases t with
  | own c => cases h
  | _ => rcases hn with rfl | rfl | rfl | rfl | rfl | rfl | rfl <;> decide +kernel
theorem boot_isinstance' : bootBuiltins "isinstance" = some (.builtin "isinstance") := by decide +kernel
theorem boot_ty (t : Ty) (h : t.isOwn = false) : bootBuiltins (Str.ofString t.nm) = some (.type t.nm) := by
  cases t <;> first | (cases h; done) | decide +kernel
theorem tyN_ok {K : PySem.W.Frag} {ρ : List Addr} {st : Sto} {H : Hp} {d : D} {v : V} {n : String} (A : Ab K ρ st H) (h : tyN st d = some n) (r : Rep K ρ H d v) :
    TyX K H v (.type n) ∧ (n = "NoneType" ∨ n = "bool" ∨ n = "int" ∨ n = "str" ∨ n = "tuple" ∨ n = "list" ∨ n = "dict") := by
  cases d with
  | non => cases h; cases rep_non.mp r; exact ⟨.base .non, by simp⟩
  | bl b => cases h; cases rep_bl.mp r; exact ⟨.base (.bl b), by simp⟩
  | int i => cases h; cases rep_int.mp r; exact ⟨.base (.int i), by simp⟩
  | str x => cases h; obtain ⟨rfl, _⟩ := rep_str.mp r; exact ⟨.base (.str x), by simp⟩
  | tup xs =>
    cases h
    obtain ⟨a, vs, rfl, hs, _⟩ := rep_tup.mp r
    refine ⟨?_, by simp⟩
    rcases hs with (hs | ⟨o, hs⟩) | ⟨o, its, m, e1, e2, _⟩
    · exact .base (.tup hs)
    · exact .fTuple hs
    · exact .kTuple e1 e2
  | ref k =>
    have h' : (match st[k]? with
    | some (.lst _) => some "list"
    | some (.fls _) => some "list"
    | some (.dK _) => some "dict"
    | some (.dT _) => some "dict"
    | _ => none) = some n := h
    obtain ⟨a, ha, rfl⟩ := rep_ref.mp r
    cases q : st[k]? with
    | none => rw [q] at h'; cases h'
    | some o =>
      rw [q] at h'
      obtain ⟨b, hb, ro⟩ := A.get q
      rw [ha] at hb; cases hb
      cases o with
      | lst xs =>
        cases h'
        obtain ⟨vs, h1, _⟩ := ro
        exact ⟨.base (.lst h1), by simp⟩
      | fls xs =>
        cases h'
        obtain ⟨vs, h1, _⟩ := ro
        refine ⟨?_, by simp⟩
        rcases h1 with ⟨o, h1⟩ | ⟨o, its, m, e1, e2, _⟩
        · exact .base (.frz h1)
        · exact .kList e1 e2
      | dK _ =>
        cases h'
        obtain ⟨vs, h1, _⟩ := ro
        exact ⟨.base (.dK h1), by simp⟩
      | dT _ =>
        cases h'
        obtain ⟨vs, h1, _⟩ := ro
        exact ⟨.base (.dT h1), by simp⟩
      | ins _ _ => cases h'
theorem pe_ty {M : Nms} {t : Ty} {pe : Expr} (hM : Γ.M = M) (G : GOk Γ) (h : tyB M sc t pe = true) {X : Cx} (hX : Okx Γ sc X) : PE X pe (tC (L2.V.ty t.nm)) ∧ fine pe = true ∧ t.isOwn = false := by
  subst hM
  cases pe with
  | Name x p =>
    have h' : (decide (x = (Str.ofString t.nm)) && !t.isOwn && decide (x ∈ Γ.M.B) && gloB sc x) = true := h
    simp only [Bool.and_eq_true, decide_eq_true_eq, Bool.not_eq_true'] at h'
    obtain ⟨⟨⟨rfl, h1⟩, h2⟩, h3⟩ := h'
    obtain ⟨g1, g2, g3⟩ := gloB_ok h3
    exact ⟨pe_bltn (gl_of hX g1) (by rw [hX.mg]; exact G.bt _ h2) (boot_ty t h1) rfl g3 g2, rfl, h1⟩
  | _ => exact absurd h Bool.false_ne_true
theorem kitAny_of {K : PySem.W.Frag} {n : String} (hc : n = "NoneType" ∨ n = "bool" ∨ n = "int" ∨ n = "str" ∨ n = "tuple" ∨ n = "list" ∨ n = "dict") :
    ∀ {ts : List Ty}, (∀ t ∈ ts, t.isOwn = false) → PySem.W.kitAny K (.type n) (ts.map fun t => .type t.nm) = some (ts.any (tyHit n))
  | [], _ => kitAny_nil
  | t :: ts, h => by
    rw [List.any_cons]
    refine kitAny_cons (kit_ty (kit_bt n t (h t List.mem_cons_self) hc)) (fun e => ?_) fun e => ?_
    · rw [e]; exact kitAny_of hc fun t ht => h t (List.mem_cons_of_mem _ ht)
    · rw [e]; rfl
theorem pas_ty {M : Nms} (hM : Γ.M = M) (G : GOk Γ) {X : Cx} (hX : Okx Γ sc X) : ∀ {ts : List Ty} {pes : List Expr}, ts.length = pes.length → ((ts.zip pes).all fun p => tyB M sc p.1 p.2) = true →
    PA X pes (fun _ H Q => Q (ts.map fun t => L2.V.ty t.nm) H) ∧ (∀ p ∈ pes, fine p = true) ∧ ∀ t ∈ ts, t.isOwn = false
  | [], [], _, _ => ⟨pa_nil, by simp, by simp⟩
  | [], _ :: _, h, _ => by cases h
  | _ :: _, [], h, _ => by cases h
  | t :: ts, p :: ps, hl, h => by
    rw [List.zip_cons_cons, List.all_cons, Bool.and_eq_true] at h
    obtain ⟨p1, f1, o1⟩ := pe_ty hM G h.1 hX
    obtain ⟨p2, f2, o2⟩ := pas_ty hM G hX (by simpa using hl) h.2
    refine ⟨pa_cons p1 p2 (star_of f1 _ _), fun q hq => ?_, fun q hq => ?_⟩
    · rcases List.mem_cons.mp hq with rfl | hq
      · exact f1
      · exact f2 q hq
    · rcases List.mem_cons.mp hq with rfl | hq
      · exact o1
      · exact o2 q hq
theorem pair_ty (ts : List Ty) : Paired ClsV (ts.map fun t => L2.V.ty t.nm) (ts.map fun t => Value.type t.nm) := by
  induction ts with
  | nil => exact .nil
  | cons t ts ih => exact .cons (.ty _) ih
theorem tyB_own {M : Nms} {t : Ty} {pe : Expr} (h : tyB M sc t pe = true) : t.isOwn = false := by
  cases pe with
  | Name x p =>
    have h' : (decide (x = (Str.ofString t.nm)) && !t.isOwn && decide (x ∈ M.B) && gloB sc x) = true := h
    simp only [Bool.and_eq_true, Bool.not_eq_true'] at h'
    exact h'.1.1.2
  | _ => exact absurd h Bool.false_ne_true
theorem tyBs_own {M : Nms} : ∀ {ts : List Ty} {pes : List Expr}, ts.length = pes.length → ((ts.zip pes).all fun p => tyB M sc p.1 p.2) = true → ∀ t ∈ ts, t.isOwn = false
  | [], _, _, _ => by simp
  | _ :: _, [], h, _ => by cases h
  | t :: ts, p :: ps, hl, h => by
    rw [List.zip_cons_cons, List.all_cons, Bool.and_eq_true] at h
    intro q hq
    rcases List.mem_cons.mp hq with rfl | hq
    · exact tyB_own h.1
    · exact tyBs_own (by simpa using hl) h.2 q hq
theorem se_isi (G : GOk Γ) {ts : List Ty} {x : Str} {p : Pos} {pt : Expr} (h0 : x = "isinstance") (h1 : x ∈ Γ.M.B) (h2 : gloB sc x = true) (hf : fine pa = true) (ht : tysB Γ.M sc ts pt = true) (ha : SE Γ sc a pa) :
    SE Γ sc (.isi a ts) (.Call (.Name x p) [pa, pt] [] pos) := by
  obtain ⟨g1, g2, g3⟩ := gloB_ok h2
  obtain ⟨ta, pa', ra⟩ := ha
  have one : ∀ (t : Ty) (y : Str) (py : Pos), ts = [t] → pt = .Name y py → tyB Γ.M sc t pt = true → SE Γ sc (.isi a ts) (.Call (.Name x p) [pa, pt] [] pos) := by
    intro t y py e1 e2 hb
    subst e1
    refine ⟨tCB (rIsi Γ.K) (tCons ta (tCons (tC (L2.V.ty t.nm)) tNil)), fun X hX => ?_, fun en st σ H ρ Q Xk R A V h O => ?_⟩
    · obtain ⟨q1, f1, _⟩ := pe_ty rfl G hb hX
      have hcb := call_isi (X := X)
      rw [hX.K] at hcb
      exact pe_callB hcb (gl_of hX g1) (by rw [hX.mg]; exact G.bt _ h1) (by rw [h0]; exact boot_isinstance') (pa_cons (pa' X hX) (pa_cons q1 pa_nil (star_of f1 _ _)) (star_of hf _ _)) g3 g2 (star_of hf _ _)
        (plain_of (fun q hq => by rcases List.mem_cons.mp hq with rfl | hq; exact f1; simp at hq) _ _)
    · refine ra en st σ H ρ _ Xk _ A V h fun d st1 v H1 ρ1 A1 e1 r1 h1 => ?_
      split at h1
      · rename_i n hn
        obtain ⟨ty, hc⟩ := tyN_ok A1 hn r1
        have ho : t.isOwn = false := tyB_own hb
        have h1' : Q (.bl (tyHit n t)) st1 := by simpa using h1
        exact ⟨v, L2.V.ty t.nm, .type n, .type t.nm, tyHit n t, rfl, .ty _, ty, kit_ty (kit_bt n t ho hc), O _ _ _ _ _ A1 e1 (rep_bl.mpr rfl) h1'⟩
      · exact False.elim h1
  cases pt with
  | Name y py =>
    cases ts with
    | nil => exact absurd ht Bool.false_ne_true
    | cons t ts => cases ts with
      | nil => exact one t y py rfl rfl ht
      | cons _ _ => exact absurd ht Bool.false_ne_true
  | Tuple es k pk =>
    have ht' : (decide (ts.length = es.length) && decide (ts.length ≤ 1000) && (ts.zip es).all fun p => tyB Γ.M sc p.1 p.2) = true := by
      match ts, ht with
      | [], ht => exact ht
      | [_], ht => exact ht
      | _ :: _ :: _, ht => exact ht
    rw [Bool.and_eq_true, Bool.and_eq_true, decide_eq_true_eq, decide_eq_true_eq] at ht'
    obtain ⟨⟨hl, hl2⟩, hz⟩ := ht'
    refine ⟨tCB (rIsiT Γ.K) (tCons ta (tCons (tTup (fun _ H Q => Q (ts.map fun t => L2.V.ty t.nm) H)) tNil)), fun X hX => ?_, fun en st σ H ρ Q Xk R A V h O => ?_⟩
    · obtain ⟨q1, f1, _⟩ := pas_ty rfl G hX hl hz
      have hcb := call_isiT (X := X)
      rw [hX.K] at hcb
      exact pe_callB hcb (gl_of hX g1) (by rw [hX.mg]; exact G.bt _ h1) (by rw [h0]; exact boot_isinstance') (pa_cons (pa' X hX) (pa_cons (pe_tup q1) pa_nil rfl) (star_of hf _ _)) g3 g2 (star_of hf _ _)
        (plain_of (fun q hq => by rcases List.mem_cons.mp hq with rfl | hq; rfl; simp at hq) _ _)
    · refine ra en st σ H ρ _ Xk _ A V h fun d st1 v H1 ρ1 A1 e1 r1 h1 => ?_
      split at h1
      · rename_i n hn
        refine ⟨by rw [List.length_map]; exact Lm_line (by show _ ≤ 16777216; omega), fun tp hp => ?_⟩
        have e2 : Ex ρ1 H1 ρ1 (upd H1 tp (.tup (ts.map fun t => L2.V.ty t.nm))) := ex_new0 hp
        have A2 := A1.track (u := .tup (ts.map fun t => L2.V.ty t.nm)) hp
        obtain ⟨ty, hc⟩ := tyN_ok A2 hn (r1.ext e2)
        exact ⟨v, tp, _, .type n, _, _, rfl, upd_same, pair_ty ts, ty, kitAny_of hc (tyBs_own hl hz), O _ _ _ _ _ A2 (e1.trans e2) (rep_bl.mpr rfl) h1⟩
      · exact False.elim h1
  | _ => cases ts with
    | nil => exact absurd ht Bool.false_ne_true
    | cons t ts => cases ts <;> exact absurd ht Bool.false_ne_true

/-! ### tests -/
theorem st_val {e : E} {pe : Expr} (hp : ∀ env whole, isTrue pe env whole = (do let v ← whole; standAt pe.pos; holding [v] (truthy v))) (he : SE Γ sc e pe) : ST Γ sc (.val e) pe := by
  obtain ⟨ta, pa', ra⟩ := he
  refine ⟨fun σ H Q => ta σ H fun x H' => ∃ k, TruV Γ.K x H' k ∧ Q k H', fun X hX => ?_, fun en st σ H ρ Q Xk R A V h O => ?_⟩
  · rw [← hX.K]; exact pt_truth (pa' X hX) (hp _)
  · refine ra en st σ H ρ _ Xk _ A V h fun d st1 v H1 ρ1 A1 e1 r1 h1 => ?_
    split at h1
    · rename_i t et
      exact ⟨t, A1.tru et r1, O _ _ _ _ A1 e1 h1⟩
    · exact False.elim h1
theorem st_cmp (o : Cm) (hm : behindInMarks o.py pb = false) (ha : SE Γ sc a pa) (hb : SE Γ sc b pb) : ST Γ sc (.val (.cmp o a b)) (.Compare pa [o.py] [pb] pos) := by
  obtain ⟨ta, pa', ra⟩ := ha
  obtain ⟨tb, pb', rb⟩ := hb
  refine ⟨tTest (tOp (rCmpD Γ.K o) ta tb), fun X hX => ?_, fun en st σ H ρ Q Xk R A V h O => ?_⟩
  · have q := pt_cmpR (pos := pos) (ob_cmp (X := X) (okx_hu hX) o) (pa' X hX) (pb' X hX) hm
    rw [hX.K] at q
    exact q
  · refine ra en st σ H ρ _ Xk _ A V h fun d st1 v H1 ρ1 A1 e1 r1 h1 => ?_
    refine rb en st1 σ H1 ρ1 _ Xk _ A1 (V.ext e1) h1 fun d2 st2 v2 H2 ρ2 A2 e2 r2 h2 => ?_
    exact ⟨ρ2, st2, d, d2, _, A2, r1.ext e2, r2, h2, fun t h3 => ⟨t, rfl, O t st2 H2 ρ2 A2 (e1.trans e2) h3⟩⟩
theorem st_chain (o p : Cm) {c : E} (hm : lastMarks [o.py, p.py] [pb, pc] = false) (ha : SE Γ sc a pa) (hb : SE Γ sc b pb) (hc : SE Γ sc c pc) : ST Γ sc (.val (.chain o p a b c)) (.Compare pa [o.py, p.py] [pb, pc] pos) := by
  obtain ⟨ta, pa', ra⟩ := ha
  obtain ⟨tb, pb', rb⟩ := hb
  obtain ⟨tc, pc', rc⟩ := hc
  refine ⟨tTest (tChain (rCmpD Γ.K o) (rCmpD Γ.K p) ta tb tc), fun X hX => ?_, fun en st σ H ρ Q Xk R A V h O => ?_⟩
  · have q := pt_chain (pos := pos) (ob_cmp (X := X) (okx_hu hX) o) (ob_cmp (X := X) (okx_hu hX) p) (pa' X hX) (pb' X hX) (pc' X hX) hm
    rw [hX.K] at q
    exact q
  · refine ra en st σ H ρ _ Xk _ A V h fun d st1 v H1 ρ1 A1 e1 r1 h1 => ?_
    refine rb en st1 σ H1 ρ1 _ Xk _ A1 (V.ext e1) h1 fun d2 st2 v2 H2 ρ2 A2 e2 r2 h2 => ?_
    refine ⟨ρ2, st2, d, d2, _, A2, r1.ext e2, r2, h2, fun t h3 => ⟨t, rfl, ?_⟩⟩
    cases t with
    | false => exact ite_ff ⟨false, rfl, O false st2 H2 ρ2 A2 (e1.trans e2) h3⟩
    | true =>
      refine ite_tt (rc en st2 σ H2 ρ2 _ Xk _ A2 (V.ext (e1.trans e2)) h3 fun d4 st4 v4 H4 ρ4 A4 e4 r4 h4 => ?_)
      exact ⟨ρ4, st4, d2, d4, _, A4, r2.ext e4, r4, h4, fun t h5 => ⟨t, rfl, O t st4 H4 ρ4 A4 (e1.trans (e2.trans e4)) h5⟩⟩
/-- a chain of and, or, whatever its whole is -/
def SW (Γ : Gam) (sc : Scope) (c : T) (pc : Expr) : Prop := ∃ t, (∀ X, Okx Γ sc X → PW X pc t) ∧ ∀ en st σ H ρ Q Xk R, Ab Γ.K ρ st H → Evx Γ Xk ρ H en σ → wT Γ.C c en st Q Xk →
  (∀ b st' H' ρ', Ab Γ.K ρ' st' H' → Ex ρ H ρ' H' → Q b st' → R b H') → t σ H R
theorem SW.st {c : T} (h : SW Γ sc c pc) : ST Γ sc c pc := by
  obtain ⟨t, p, r⟩ := h
  exact ⟨t, fun X hX => (p X hX).pt, r⟩
theorem sw_and1 {c : T} (h : ST Γ sc c pa) : SW Γ sc c (.BoolOp .And [pa] pos) := by
  obtain ⟨t, p, r⟩ := h
  exact ⟨t, fun X hX => pw_and1 (p X hX), r⟩
theorem sw_or1 {c : T} (h : ST Γ sc c pa) : SW Γ sc c (.BoolOp .Or [pa] pos) := by
  obtain ⟨t, p, r⟩ := h
  exact ⟨t, fun X hX => pw_or1 (p X hX), r⟩
theorem sw_and {c d : T} {y : Expr} {ys : List Expr} (h1 : ST Γ sc c pa) (h2 : SW Γ sc d (.BoolOp .And (y :: ys) pos)) : SW Γ sc (.and c d) (.BoolOp .And (pa :: y :: ys) pos) := by
  obtain ⟨ta, pa', ra⟩ := h1
  obtain ⟨tb, pb', rb⟩ := h2
  refine ⟨tAnd ta tb, fun X hX => pw_and (pa' X hX) (pb' X hX), fun en st σ H ρ Q Xk R A V h O => ?_⟩
  refine ra en st σ H ρ _ Xk _ A V h fun t st1 H1 ρ1 A1 e1 h1 => ?_
  cases t with
  | true => exact ite_tt (rb en st1 σ H1 ρ1 _ Xk _ A1 (V.ext e1) h1 fun t2 st2 H2 ρ2 A2 e2 h2 => O _ _ _ _ A2 (e1.trans e2) h2)
  | false => exact ite_ff (O _ _ _ _ A1 e1 h1)
theorem sw_or {c d : T} {y : Expr} {ys : List Expr} (h1 : ST Γ sc c pa) (h2 : SW Γ sc d (.BoolOp .Or (y :: ys) pos)) : SW Γ sc (.or c d) (.BoolOp .Or (pa :: y :: ys) pos) := by
  obtain ⟨ta, pa', ra⟩ := h1
  obtain ⟨tb, pb', rb⟩ := h2
  refine ⟨tOr ta tb, fun X hX => pw_or (pa' X hX) (pb' X hX), fun en st σ H ρ Q Xk R A V h O => ?_⟩
  refine ra en st σ H ρ _ Xk _ A V h fun t st1 H1 ρ1 A1 e1 h1 => ?_
  cases t with
  | true => exact ite_tt (O _ _ _ _ A1 e1 h1)
  | false => exact ite_ff (rb en st1 σ H1 ρ1 _ Xk _ A1 (V.ext e1) h1 fun t2 st2 H2 ρ2 A2 e2 h2 => O _ _ _ _ A2 (e1.trans e2) h2)
theorem st_not {c : T} (h1 : ST Γ sc c pa) : ST Γ sc (.not c) (.UnaryOp .Not pa pos) := by
  obtain ⟨ta, pa', ra⟩ := h1
  exact ⟨tNot ta, fun X hX => pt_not (pa' X hX), fun en st σ H ρ Q Xk R A V h O => ra en st σ H ρ _ Xk _ A V h fun t st1 H1 ρ1 A1 e1 h1 => O _ _ _ _ A1 e1 h1⟩
end
end Q3

set_option Elab.async false
set_option linter.all false
set_option maxRecDepth 100000
set_option maxHeartbeats 4000000
/-! Q3i: walks, targets, comprehensions; the theorem for expressions. -/
namespace Q3
open PySem PySem.Spec PyProof.Rows L2
section
variable {X : Cx} {tg : Expr}
def iAny (K : PySem.W.Frag) (tl : TE) : TI := fun σ H R => tl σ H fun x H1 => (∃ a, x = .ref a ∧ (∃ xs, SqL K H1 a xs) ∧ R (Itl K a) H1) ∨ (∃ a, x = .ref a ∧ (∃ xs, SqT K H1 a xs) ∧ R (Itt K a) H1) ∨ ∃ z, x = .str z ∧ R (Its z) H1
theorem pi_any {l : Expr} {tl : TE} (hl : PE X l tl) : PI X tg l (iAny X.K tl) := by
  refine ⟨fun pins s σ H R I h => thn (hl.run pins s σ H _ I h) fun v s1 hq => ?_⟩
  obtain ⟨x, H1, I1, rel, hx⟩ := hq
  rcases hx with ⟨a, ex, ⟨xs, hs⟩, q⟩ | ⟨a, ex, ⟨xs, hs⟩, q⟩ | ⟨z, ex, q⟩
  · subst ex; cases rel
    obtain ⟨its, _, pl, _⟩ := I1.list hs
    exact wpAny_pyIter_list pl.isList (pi_one (tk := s1.toks) I1 _ (turn_list a _) ⟨_, Heap.get?_push_size _ rfl, rfl, rfl⟩ q)
  · subst ex; cases rel
    obtain ⟨its, _, pl, _⟩ := I1.tuple hs
    exact wpAny_pyIter_tuple (show s1.heap.IsTuple a its.toArray from pl) (pi_one (tk := s1.toks) I1 _ (turn_tuple a _) ⟨_, Heap.get?_push_size _ rfl, rfl, rfl⟩ q)
  · subst ex
    obtain ⟨t, rfl⟩ := rel
    cases hb : z.cps.all (· < 128)
    · exact wpAny_pyIter_wide hb (pi_one (tk := s1.toks) I1 _ (turn_str _ z t _ (.inr rfl)) ⟨_, Heap.get?_push_size _ rfl, rfl, rfl⟩ q)
    · exact wpAny_pyIter_ascii hb (pi_one (tk := s1.toks) I1 _ (turn_str _ z t _ (.inl rfl)) ⟨_, Heap.get?_push_size _ rfl, rfl, rfl⟩ q)
end
section
variable {K : PySem.W.Frag} {ρ : List Addr} {H : Hp} {st : Sto}
theorem walks_list {n : Nat} {ds : List D} {a : Addr} (ha : ρ[n]? = some a) : Walks K (Itl K a) ⟨[(n, ds)], ds⟩ ρ H := by
  intro ρ' st' H' A e hg i
  have hl : lstAt st' n = some ds := hg (n, ds) List.mem_cons_self
  obtain ⟨b, vs, eb, hb, hs, q⟩ := A.lst hl (rep_ref.mpr ⟨a, e.pre _ _ ha, rfl⟩)
  cases eb
  refine ⟨fun d hd => ?_, fun hi => ⟨vs, hs, by rw [← q.length]; exact Nat.le_of_eq hi⟩⟩
  obtain ⟨v, hv, rv⟩ := q.get hd
  refine ⟨⟨vs, v, hs, hv⟩, fun x H'' hy => ?_⟩
  obtain ⟨rfl, hy⟩ := hy
  have := hy vs hs
  rw [hv] at this
  cases this
  exact ⟨A, Ex.refl, rv⟩
theorem walks_tup {ds : List D} {vs : List V} {a : Addr} (hs : SqT K H a vs) (r : Reps K ρ H ds vs) : Walks K (Itt K a) ⟨[], ds⟩ ρ H := by
  intro ρ' st' H' A e hg i
  have hs' := e.sqT hs
  have r' := r.ext e
  refine ⟨fun d hd => ?_, fun hi => ⟨vs, hs', by rw [← r'.length]; exact Nat.le_of_eq hi⟩⟩
  obtain ⟨v, hv, rv⟩ := r'.get hd
  refine ⟨⟨vs, v, hs', hv⟩, fun x H'' hy => ?_⟩
  obtain ⟨rfl, hy⟩ := hy
  have := hy vs hs'
  rw [hv] at this
  cases this
  exact ⟨A, Ex.refl, rv⟩
theorem walks_str (z : Str) : Walks K (Its z) ⟨[], chars z⟩ ρ H := by
  intro ρ' st' H' A e hg i
  have hc : ∀ j : Nat, (chars z)[j]? = (z.cps[j]?).map fun c => D.str ⟨#[c]⟩ := fun j => by
    unfold chars
    rw [List.getElem?_map, Array.getElem?_toList]
  refine ⟨fun d hd => ?_, fun hi => ?_⟩
  · have hd' : (chars z)[i]? = some d := hd
    rw [hc i] at hd'
    cases q : z.cps[i]? with
    | none => rw [q] at hd'; cases hd'
    | some c =>
      rw [q] at hd'
      cases hd'
      have hlt : i < z.cps.size := by
        obtain ⟨h, _⟩ := Array.getElem?_eq_some_iff.mp q
        exact h
      refine ⟨hlt, fun x H'' hy => ?_⟩
      obtain ⟨rfl, c', hc', rfl⟩ := hy
      rw [q] at hc'
      cases hc'
      exact ⟨A, Ex.refl, rep_str.mpr ⟨rfl, (by show (1 : Nat) ≤ Lm; decide)⟩⟩
  · have hi' : (chars z).length = i := hi
    unfold chars at hi'
    rw [List.length_map, Array.length_toList] at hi'
    exact Nat.le_of_eq hi'
theorem walks_rng (lo : Int) (n : Nat) : Walks K (Itr lo n) ⟨[], rngL lo n⟩ ρ H := by
  intro ρ' st' H' A e hg i
  refine ⟨fun d hd => ?_, fun hi => ?_⟩
  · have hd' : (rngL lo n)[i]? = some d := hd
    unfold rngL at hd'
    rw [List.getElem?_map] at hd'
    by_cases hin : i < n
    · rw [List.getElem?_range hin] at hd'
      cases hd'
      refine ⟨hin, fun x H'' hy => ?_⟩
      obtain ⟨rfl, rfl⟩ := hy
      exact ⟨A, Ex.refl, rep_int.mpr rfl⟩
    · rw [List.getElem?_eq_none (by rw [List.length_range]; omega)] at hd'
      cases hd'
  · have hi' : (rngL lo n).length = i := hi
    unfold rngL at hi'
    rw [List.length_map, List.length_range] at hi'
    exact Nat.le_of_eq hi'
end
section
variable {Γ : Gam} {sc : Scope} {a b : E} {pa pb pc : Expr} {pos : Pos}
theorem si_seq (ha : SE Γ sc a pa) : SI Γ sc (.seq a) pa := by
  intro tg _
  obtain ⟨ta, pa', ra⟩ := ha
  refine ⟨iAny Γ.K ta, fun X hX => ?_, fun en st σ H ρ Q Xk R A V h O => ?_⟩
  · rw [← hX.K]; exact pi_any (pa' X hX)
  · refine ra en st σ H ρ _ Xk _ A V h fun d st1 v H1 ρ1 A1 e1 r1 h1 => ?_
    cases d with
    | tup xs =>
      obtain ⟨p, vs, rfl, s1, q1⟩ := rep_tup.mp r1
      exact .inr (.inl ⟨p, rfl, ⟨vs, s1⟩, O _ _ _ _ _ A1 e1 (walks_tup s1 q1) h1⟩)
    | str z =>
      obtain ⟨rfl, _⟩ := rep_str.mp r1
      exact .inr (.inr ⟨z, rfl, O _ _ _ _ _ A1 e1 (walks_str z) h1⟩)
    | ref n =>
      have h1' : (match lstAt st1 n with
        | some xs => Q ⟨[(n, xs)], xs⟩ st1
        | none => False) := h1
      split at h1'
      · rename_i xs ex
        obtain ⟨p, vs, rfl, hp, s1, q1⟩ := A1.lst ex r1
        exact .inl ⟨p, rfl, ⟨vs, s1⟩, O _ _ _ _ _ A1 e1 (walks_list hp) h1'⟩
      · exact False.elim h1'
    | _ => exact False.elim h1
theorem si_rng1 (G : GOk Γ) {x : Str} {p : Pos} (hx : x = "range") (h1 : x ∈ Γ.M.B) (h2 : gloB sc x = true) (hf : fine pa = true) (ha : SE Γ sc a pa) : SI Γ sc (.rng1 a) (.Call (.Name x p) [pa] [] pos) := by
  intro tg _
  obtain ⟨g1, g2, g3⟩ := gloB_ok h2
  subst hx
  obtain ⟨ta, pa', ra⟩ := ha
  refine ⟨iRng1 (tCons ta tNil), fun X hX => pi_range1 (gl_of hX g1) (by rw [hX.mg]; exact G.bt _ h1) (pa_cons (pa' X hX) pa_nil (star_of hf _ _)) (star_of hf _ _), fun en st σ H ρ Q Xk R A V h O => ?_⟩
  refine ra en st σ H ρ _ Xk _ A V h fun d st1 v H1 ρ1 A1 e1 r1 h1 => ?_
  cases d with
  | int j =>
    cases rep_int.mp r1
    obtain ⟨q0, q3⟩ := mu_and (show Mu (dec62 j) (Q ⟨[], rngL 0 j.toNat⟩ st1) from h1)
    obtain ⟨q1, q2⟩ := dec62_ok q0
    exact ⟨j, rfl, q1, q2, O _ _ _ _ _ A1 e1 (walks_rng 0 _) q3⟩
  | _ => exact False.elim h1
theorem si_rng2 (G : GOk Γ) {x : Str} {p : Pos} (hx : x = "range") (h1 : x ∈ Γ.M.B) (h2 : gloB sc x = true) (hf : fine pa = true) (hf2 : fine pb = true) (ha : SE Γ sc a pa) (hb : SE Γ sc b pb) : SI Γ sc (.rng2 a b) (.Call (.Name x p) [pa, pb] [] pos) := by
  intro tg _
  obtain ⟨g1, g2, g3⟩ := gloB_ok h2
  subst hx
  obtain ⟨ta, pa', ra⟩ := ha
  obtain ⟨tb, pb', rb⟩ := hb
  refine ⟨iRng2 (tCons ta (tCons tb tNil)), fun X hX => pi_range2 (gl_of hX g1) (by rw [hX.mg]; exact G.bt _ h1) (pa_cons (pa' X hX) (pa_cons (pb' X hX) pa_nil (star_of hf2 _ _)) (star_of hf _ _)) (by rw [star_of hf, star_of hf2]; rfl) (star_of hf2 _ _), fun en st σ H ρ Q Xk R A V h O => ?_⟩
  refine ra en st σ H ρ _ Xk _ A V h fun d st1 v H1 ρ1 A1 e1 r1 h1 => ?_
  refine rb en st1 σ H1 ρ1 _ Xk _ A1 (V.ext e1) h1 fun d2 st2 v2 H2 ρ2 A2 e2 r2 h2 => ?_
  cases d with
  | int i =>
    cases d2 with
    | int j =>
      cases rep_int.mp r1; cases rep_int.mp r2
      obtain ⟨q0, q6⟩ := mu_and (show Mu (dec62 i) (Mu (dec62 j) (Q ⟨[], rngL i (j - i).toNat⟩ st2)) from h2)
      obtain ⟨q7, q5⟩ := mu_and q6
      obtain ⟨q1, q2⟩ := dec62_ok q0
      obtain ⟨q3, q4⟩ := dec62_ok q7
      exact ⟨i, j, rfl, ⟨q1, q2, q3, q4⟩, O _ _ _ _ _ A2 (e1.trans e2) (walks_rng i _) q5⟩
    | _ => exact False.elim h2
  | _ => exact False.elim h2
theorem enumFrom_get : ∀ (xs : List D) (k i : Nat), (enumFrom k xs)[i]? = (xs[i]?).map fun d => .tup [.int ((k + i : Nat) : Int), d]
  | [], k, i => by simp [enumFrom]
  | x :: xs, k, 0 => by simp [enumFrom]
  | x :: xs, k, i + 1 => by
    rw [enumFrom, List.getElem?_cons_succ, List.getElem?_cons_succ, enumFrom_get xs (k + 1) i]
    rw [show k + 1 + i = k + (i + 1) by omega]
theorem enumL_get (xs : List D) (i : Nat) : (enumL xs)[i]? = (xs[i]?).map fun d => .tup [.int (i : Nat), d] := by
  unfold enumL
  rw [enumFrom_get]
  simp
theorem enumFrom_len : ∀ (xs : List D) (k : Nat), (enumFrom k xs).length = xs.length
  | [], _ => rfl
  | x :: xs, k => by rw [enumFrom, List.length_cons, List.length_cons, enumFrom_len]
theorem zipL_get : ∀ (xs ys : List D) (i : Nat) (d : D), (zipL xs ys)[i]? = some d → ∃ x y, xs[i]? = some x ∧ ys[i]? = some y ∧ d = .tup [x, y]
  | [], _, i, d, h => by rw [zipL_nl] at h; simp at h
  | _ :: _, [], i, d, h => by rw [zipL_ln] at h; simp at h
  | x :: xs, y :: ys, 0, d, h => by
    rw [zipL_cc, List.getElem?_cons_zero] at h
    cases h
    exact ⟨x, y, rfl, rfl, rfl⟩
  | x :: xs, y :: ys, i + 1, d, h => by
    rw [zipL_cc, List.getElem?_cons_succ] at h
    exact zipL_get xs ys i d h
theorem zipL_len : ∀ (xs ys : List D), (zipL xs ys).length = min xs.length ys.length
  | [], _ => by rw [zipL_nl]; simp
  | _ :: _, [] => by rw [zipL_ln]; simp
  | x :: xs, y :: ys => by rw [zipL_cc, List.length_cons, zipL_len, List.length_cons, List.length_cons]; omega
theorem pair_new {K : PySem.W.Frag} {ρ : List Addr} {H : Hp} {st : Sto} (A : Ab K ρ st H) {T : Addr} (hT : H T = none) {x y : V} {d e : D} (r1 : Rep K ρ H d x) (r2 : Rep K ρ H e y) :
    Ab K ρ st (upd H T (.tup [x, y])) ∧ Ex ρ H ρ (upd H T (.tup [x, y])) ∧ Rep K ρ (upd H T (.tup [x, y])) (.tup [d, e]) (.ref T) := by
  have e' : Ex ρ H ρ (upd H T (.tup [x, y])) := ex_new0 hT
  exact ⟨A.track hT, e', rep_tup.mpr ⟨T, [x, y], rfl, .inl (.inl upd_same), reps_cons.mpr ⟨x, [y], rfl, r1.ext e', reps_cons.mpr ⟨y, [], rfl, r2.ext e', reps_nil.mpr rfl⟩⟩⟩⟩
theorem walks_enum {K : PySem.W.Frag} {ρ : List Addr} {H : Hp} {n : Nat} {ds : List D} {a : Addr} (ha : ρ[n]? = some a) : Walks K (Ite K a) ⟨[(n, ds)], enumL ds⟩ ρ H := by
  intro ρ' st' H' A e hg i
  have hl : lstAt st' n = some ds := hg (n, ds) List.mem_cons_self
  obtain ⟨b, vs, eb, hb, hs, q⟩ := A.lst hl (rep_ref.mpr ⟨a, e.pre _ _ ha, rfl⟩)
  cases eb
  refine ⟨fun d hd => ?_, fun hi => ⟨vs, hs, by
    have hi' : (enumL ds).length = i := hi
    unfold enumL at hi'
    rw [enumFrom_len] at hi'
    rw [← q.length]; exact Nat.le_of_eq hi'⟩⟩
  have hd' : (enumL ds)[i]? = some d := hd
  rw [enumL_get] at hd'
  cases q0 : ds[i]? with
  | none => rw [q0] at hd'; cases hd'
  | some d0 =>
    rw [q0] at hd'
    cases hd'
    obtain ⟨v, hv, rv⟩ := q.get q0
    refine ⟨⟨vs, v, hs, hv⟩, fun x H'' hy => ?_⟩
    obtain ⟨T, x0, rfl, hT, rfl, hy⟩ := hy
    have := hy vs hs
    rw [hv] at this
    cases this
    exact pair_new A hT (rep_int.mpr rfl) rv
theorem si_enum (G : GOk Γ) {x : Str} {p : Pos} (hx : x = "enumerate") (h1 : x ∈ Γ.M.B) (h2 : gloB sc x = true) (hf : fine pa = true) (ha : SE Γ sc a pa) : SI Γ sc (.enum a) (.Call (.Name x p) [pa] [] pos) := by
  intro tg htg
  obtain ⟨g1, g2, g3⟩ := gloB_ok h2
  subst hx
  obtain ⟨ta, pa', ra⟩ := ha
  cases tg with
  | Tuple elts kk tpos =>
    refine ⟨iEnum Γ.K (tCons ta tNil), fun X hX => ?_, fun en st σ H ρ Q Xk R A V h O => ?_⟩
    · rw [← hX.K]
      exact pi_enum (gl_of hX g1) (by rw [hX.mg]; exact G.bt _ h1) (pa_cons (pa' X hX) pa_nil (star_of hf _ _)) (star_of hf _ _)
    · refine ra en st σ H ρ _ Xk _ A V h fun d st1 v H1 ρ1 A1 e1 r1 h1 => ?_
      cases d with
      | ref n =>
        have h1' : (match lstAt st1 n with
          | some xs => Q ⟨[(n, xs)], enumL xs⟩ st1
          | none => False) := h1
        split at h1'
        · rename_i xs ex
          obtain ⟨p, vs, rfl, hp, s1, q1⟩ := A1.lst ex r1
          exact ⟨p, vs, rfl, s1, O _ _ _ _ _ A1 e1 (walks_enum hp) h1'⟩
        · exact False.elim h1'
      | _ => exact False.elim h1
  | _ => exact absurd htg Bool.false_ne_true
theorem walks_rev {K : PySem.W.Frag} {ρ : List Addr} {H : Hp} {n : Nat} {ds : List D} {a : Addr} (ha : ρ[n]? = some a) : Walks K (Itv K a ds.length) ⟨[(n, ds)], ds.reverse⟩ ρ H := by
  intro ρ' st' H' A e hg i
  have hl : lstAt st' n = some ds := hg (n, ds) List.mem_cons_self
  obtain ⟨b, vs, eb, hb, hs, q⟩ := A.lst hl (rep_ref.mpr ⟨a, e.pre _ _ ha, rfl⟩)
  cases eb
  have W := walk_rev (K := K) (a := a) (xs := vs)
  rw [← q.length] at W
  refine ⟨fun d hd => ?_, fun hi => ?_⟩
  · have hd' : ds.reverse[i]? = some d := hd
    have hlt : i < ds.length := by
      have := (List.getElem?_eq_some_iff.mp hd').1
      rwa [List.length_reverse] at this
    refine ⟨W.goes i H' hlt hs, fun x H'' hy => ?_⟩
    obtain ⟨rfl, hv⟩ := W.yields i H' x H'' hlt hs hy
    rw [List.getElem?_reverse hlt] at hd'
    obtain ⟨v, hv', rv⟩ := q.get hd'
    rw [hv] at hv'
    cases hv'
    exact ⟨A, Ex.refl, rv⟩
  · have hi' : ds.reverse.length = i := hi
    rw [List.length_reverse] at hi'
    rw [← hi']
    exact W.stops H' hs
theorem si_rev (G : GOk Γ) {x : Str} {p : Pos} (hx : x = "reversed") (h1 : x ∈ Γ.M.B) (h2 : gloB sc x = true) (hf : fine pa = true) (ha : SE Γ sc a pa) : SI Γ sc (.rev a) (.Call (.Name x p) [pa] [] pos) := by
  intro tg htg
  obtain ⟨g1, g2, g3⟩ := gloB_ok h2
  subst hx
  obtain ⟨ta, pa', ra⟩ := ha
  refine ⟨iRev Γ.K (tCons ta tNil), fun X hX => ?_, fun en st σ H ρ Q Xk R A V h O => ?_⟩
  · rw [← hX.K]
    exact pi_reversed (gl_of hX g1) (by rw [hX.mg]; exact G.bt _ h1) (pa_cons (pa' X hX) pa_nil (star_of hf _ _)) (star_of hf _ _)
  · refine ra en st σ H ρ _ Xk _ A V h fun d st1 v H1 ρ1 A1 e1 r1 h1 => ?_
    cases d with
    | ref n =>
      have h1' : (match lstAt st1 n with
        | some xs => Q ⟨[(n, xs)], xs.reverse⟩ st1
        | none => False) := h1
      split at h1'
      · rename_i xs ex
        obtain ⟨p, vs, rfl, hp, s1, q1⟩ := A1.lst ex r1
        have l := q1.length
        have W := walks_rev (K := Γ.K) (H := H1) (ds := xs) hp
        rw [l] at W
        exact ⟨p, vs, rfl, s1, O _ _ _ _ _ A1 e1 W h1'⟩
      · exact False.elim h1'
    | _ => exact False.elim h1
theorem walks_zip {K : PySem.W.Frag} {ρ : List Addr} {H : Hp} {n m : Nat} {ds es : List D} {a b : Addr} (ha : ρ[n]? = some a) (hb : ρ[m]? = some b) : Walks K (Itz K a b) ⟨[(n, ds), (m, es)], zipL ds es⟩ ρ H := by
  intro ρ' st' H' A e hg i
  have hl : lstAt st' n = some ds := hg (n, ds) List.mem_cons_self
  have hl2 : lstAt st' m = some es := hg (m, es) (List.mem_cons_of_mem _ List.mem_cons_self)
  obtain ⟨_, vs, eb, _, hs, q⟩ := A.lst hl (rep_ref.mpr ⟨a, e.pre _ _ ha, rfl⟩)
  cases eb
  obtain ⟨_, us, eb, _, hs2, q2⟩ := A.lst hl2 (rep_ref.mpr ⟨b, e.pre _ _ hb, rfl⟩)
  cases eb
  have W := walk_zip (K := K) (a := a) (b := b) (xs := vs) (ys := us) rfl
  rw [← q.length, ← q2.length] at W
  refine ⟨fun d hd => ?_, fun hi => ?_⟩
  · have hd' : (zipL ds es)[i]? = some d := hd
    have hlt : i < min ds.length es.length := by
      have := (List.getElem?_eq_some_iff.mp hd').1
      rwa [zipL_len] at this
    obtain ⟨x0, y0, h1, h2, rfl⟩ := zipL_get _ _ _ _ hd'
    refine ⟨W.goes i H' hlt ⟨hs, hs2⟩, fun x H'' hy => ?_⟩
    obtain ⟨T, x, y, rfl, hT, rfl, hx, hy'⟩ := W.yields i H' x H'' hlt ⟨hs, hs2⟩ hy
    obtain ⟨v, hv, rv⟩ := q.get h1
    obtain ⟨u, hu, ru⟩ := q2.get h2
    have hx' : vs[i]? = some x := hx
    have hy2 : us[i]? = some y := hy'
    rw [hv] at hx'; cases hx'
    rw [hu] at hy2; cases hy2
    exact pair_new A hT rv ru
  · have hi' : (zipL ds es).length = i := hi
    rw [zipL_len] at hi'
    rw [← hi']
    exact W.stops H' ⟨hs, hs2⟩
theorem walks_zipT {K : PySem.W.Frag} {ρ : List Addr} {H : Hp} {ds es : List D} {vs us : List V} {a b : Addr} (hs : SqT K H a vs) (hs2 : SqT K H b us) (q : Reps K ρ H ds vs) (q2 : Reps K ρ H es us) : Walks K (RZ.ItzT K a b) ⟨[], zipL ds es⟩ ρ H := by
  intro ρ' st' H' A e hg i
  have hs := e.sqT hs
  have hs2 := e.sqT hs2
  have q := Reps.ext e ds vs q
  have q2 := Reps.ext e es us q2
  refine ⟨fun d hd => ?_, fun hi => ?_⟩
  · have hd' : (zipL ds es)[i]? = some d := hd
    have hlt : i < min ds.length es.length := by
      have := (List.getElem?_eq_some_iff.mp hd').1
      rwa [zipL_len] at this
    obtain ⟨x0, y0, h1, h2, rfl⟩ := zipL_get _ _ _ _ hd'
    obtain ⟨v, hv, rv⟩ := q.get h1
    obtain ⟨u, hu, ru⟩ := q2.get h2
    refine ⟨⟨vs, us, v, u, hs, hs2, hv, hu⟩, fun x H'' hy => ?_⟩
    obtain ⟨T, x, y, rfl, hT, rfl, hx, hy'⟩ := hy
    have hx' := hx vs hs
    have hy2 := hy' us hs2
    rw [hv] at hx'; cases hx'
    rw [hu] at hy2; cases hy2
    exact pair_new A hT rv ru
  · have hi' : (zipL ds es).length = i := hi
    rw [zipL_len] at hi'
    rw [← hi']
    exact ⟨vs, us, hs, hs2, by rw [← q.length, ← q2.length]; omega⟩
theorem si_zip (G : GOk Γ) {x : Str} {p : Pos} (hx : x = "zip") (h1 : x ∈ Γ.M.B) (h2 : gloB sc x = true) (hf : fine pa = true) (hf2 : fine pb = true) (ha : SE Γ sc a pa) (hb : SE Γ sc b pb) : SI Γ sc (.zip a b) (.Call (.Name x p) [pa, pb] [] pos) := by
  intro tg htg
  obtain ⟨g1, g2, g3⟩ := gloB_ok h2
  subst hx
  obtain ⟨ta, pa', ra⟩ := ha
  obtain ⟨tb, pb', rb⟩ := hb
  cases tg with
  | Tuple elts kk tpos =>
    refine ⟨RZ.iZipA Γ.K (tCons ta (tCons tb tNil)), fun X hX => ?_, fun en st σ H ρ Q Xk R A V h O => ?_⟩
    · rw [← hX.K]
      exact RZ.pi_zipA (gl_of hX g1) (by rw [hX.mg]; exact G.bt _ h1) (pa_cons (pa' X hX) (pa_cons (pb' X hX) pa_nil (star_of hf2 _ _)) (star_of hf _ _)) (star_of hf _ _) (plain_of (fun q hq => by rcases List.mem_cons.mp hq with rfl | hq; exact hf2; simp at hq) _ _)
    · refine ra en st σ H ρ _ Xk _ A V h fun d st1 v H1 ρ1 A1 e1 r1 h1 => ?_
      refine rb en st1 σ H1 ρ1 _ Xk _ A1 (V.ext e1) h1 fun d2 st2 v2 H2 ρ2 A2 e2 r2 h2 => ?_
      cases d with
      | ref n =>
        cases d2 with
        | ref m =>
          have h2' : (match lstAt st2 n, lstAt st2 m with
            | some xs, some ys => Q ⟨[(n, xs), (m, ys)], zipL xs ys⟩ st2
            | _, _ => False) := h2
          split at h2'
          · rename_i xs ys ex ey
            obtain ⟨p, vs, rfl, hp, s1, q1⟩ := A2.lst ex (r1.ext e2)
            obtain ⟨p', us, rfl, hp', s2, q2⟩ := A2.lst ey r2
            exact ⟨p, p', vs, us, rfl, .inl ⟨s1, s2, O _ _ _ _ _ A2 (e1.trans e2) (walks_zip hp hp') h2'⟩⟩
          · exact False.elim h2'
        | _ => exact False.elim h2
      | tup xs =>
        cases d2 with
        | tup ys =>
          obtain ⟨p, vs, rfl, s1, q1⟩ := rep_tup.mp (r1.ext e2)
          obtain ⟨p', us, rfl, s2, q2⟩ := rep_tup.mp r2
          exact ⟨p, p', vs, us, rfl, .inr ⟨s1, s2, O _ _ _ _ _ A2 (e1.trans e2) (walks_zipT s1 s2 q1 q2) h2⟩⟩
        | _ => exact False.elim h2
      | _ => exact False.elim h2
  | _ => exact absurd htg Bool.false_ne_true
end

/-! ### targets -/
structure OkT (N : List Str) (loc : Str → Bool) (K : PySem.W.Frag) (cm : Bool) (X : Cx) : Prop where
  N : X.N = N
  K : X.K = K
  calm : cm = true → X.calm = true
  loc : ∀ x, loc x = true → Loc X.env.scope x ∧ (X.fn x = true ∨ X.env.scope.names.lookup x = some .local)
def TgOk (N : List Str) (loc : Str → Bool) (K : PySem.W.Frag) (cm : Bool) (g : Tg) (tg : Expr) : Prop := ∃ t, (∀ X, OkT N loc K cm X → PG X tg t) ∧ ∀ en σ ρ H d v en' R, Evn K ρ H en σ → Rep K ρ H d v → bindT g d en = some en' →
  (∀ σ', Evn K ρ H en' σ' → (∀ i : Nat, i ∉ g.slots → σ'[i]? = σ[i]?) → σ'.length = σ.length → R σ' H) → t v σ H R
section
variable {N : List Str} {loc : Str → Bool} {K : PySem.W.Frag} {cm : Bool}
theorem pg_of (nd : N.Nodup) {i : Nat} {x : Str} {p : Pos} (h1 : N[i]? = some x) (h2 : loc x = true) (X : Cx) (hX : OkT N loc K cm X) : PG X (.Name x p) (gName i) := by
  obtain ⟨q1, q2⟩ := hX.loc x h2
  exact pg_name (by rw [hX.N]; exact nd) (by rw [hX.N]; exact h1) q1 q2
def isNm : Expr → Bool
  | .Name _ _ => true
  | _ => false
theorem each_len (env : Env) : ∀ es : List Expr, es.all isNm = true → (assignEach es env).length = es.length ∧ (assignEach es env).findIdx? (·.1) = none
  | [], _ => ⟨rfl, rfl⟩
  | .Name x p :: r, h => by
    have h' : r.all isNm = true := by
      rw [List.all_cons, Bool.and_eq_true] at h
      exact h.2
    obtain ⟨h1, h2⟩ := each_len env r h'
    have e : assignEach (.Name x p :: r) env = (false, assign (.Name x p) env) :: assignEach r env := by rfl
    rw [e]
    refine ⟨by rw [List.length_cons, List.length_cons, h1], ?_⟩
    rw [List.findIdx?_cons, h2]
    rfl
theorem tgs_ok (nd : N.Nodup) : ∀ (is : List Nat) (es : List Expr), is.length = es.length → ((is.zip es).all fun p => match p.2 with
      | .Name x _ => decide (N[p.1]? = some x) && loc x
      | _ => false) = true → es.all isNm = true ∧ ∃ t : TGs, (∀ X, OkT N loc K cm X → PGs X es t) ∧ ∀ en σ ρ H ds vs en' R, Evn K ρ H en σ → Reps K ρ H ds vs → setAll is ds en = some en' →
        (∀ σ', Evn K ρ H en' σ' → (∀ i : Nat, i ∉ is → σ'[i]? = σ[i]?) → σ'.length = σ.length → R σ' H) → t vs σ H R
  | [], [], _, _ => by
    refine ⟨rfl, gNil, fun X _ => pgs_nil, fun en σ ρ H ds vs en' R V r h O => ?_⟩
    cases ds with
    | nil => cases h; rw [reps_nil] at r; exact ⟨r, O σ V (fun _ _ => rfl) rfl⟩
    | cons _ _ => cases h
  | [], _ :: _, h, _ => by cases h
  | _ :: _, [], h, _ => by cases h
  | i :: is, e :: es, hl, h => by
    rw [List.zip_cons_cons, List.all_cons, Bool.and_eq_true] at h
    obtain ⟨h1, h2⟩ := h
    obtain ⟨q1, t, pt, rt⟩ := tgs_ok nd is es (by simpa using hl) h2
    cases e with
    | Name x p =>
      have h1' : (decide (N[i]? = some x) && loc x) = true := h1
      rw [Bool.and_eq_true, decide_eq_true_eq] at h1'
      refine ⟨by rw [List.all_cons, q1]; rfl, gCons (gName i) t, fun X hX => pgs_cons (pg_of nd h1'.1 h1'.2 X hX) (pt X hX) rfl, fun en σ ρ H ds vs en' R V r hs O => ?_⟩
      cases ds with
      | nil => cases hs
      | cons d ds =>
        rw [reps_cons] at r
        obtain ⟨v, r', rfl, r1, r2⟩ := r
        have hs' : setAll is ds (en.set i (some d)) = some en' := hs
        refine ⟨v, r', rfl, ?_⟩
        refine rt (en.set i (some d)) (σ.set i (some v)) ρ H ds r' en' R (V.set i r1) r2 hs' fun σ' V' k l => O σ' V' (fun j hj => ?_) ?_
        · rw [List.mem_cons, not_or] at hj
          rw [k j hj.2, List.getElem?_set_ne (fun e => hj.1 e.symm)]
        · rw [l, List.length_set]
    | _ => exact absurd h1 Bool.false_ne_true
theorem tg_ok (nd : N.Nodup) {g : Tg} {tg : Expr} (hcm : cm = true ∨ isNm tg = true) (h : chkTg N loc g tg = true) : TgOk N loc K cm g tg := by
  cases g with
  | nm i =>
    cases tg with
    | Name x p =>
      have h' : (decide (N[i]? = some x) && loc x) = true := h
      rw [Bool.and_eq_true, decide_eq_true_eq] at h'
      refine ⟨gName i, fun X hX => pg_of nd h'.1 h'.2 X hX, fun en σ ρ H d v en' R V r hb O => ?_⟩
      cases hb
      refine O _ (V.set i r) (fun j hj => ?_) (List.length_set ..)
      have hj' : j ∉ [i] := hj
      rw [List.mem_singleton] at hj'
      rw [List.getElem?_set_ne (fun e => hj' e.symm)]
    | _ => exact absurd h Bool.false_ne_true
  | tp is =>
    cases tg with
    | Tuple es k p =>
      have h' : (decide (is.length = es.length) && (is.zip es).all fun p => match p.2 with
        | .Name x _ => decide (N[p.1]? = some x) && loc x
        | _ => false) = true := h
      rw [Bool.and_eq_true, decide_eq_true_eq] at h'
      obtain ⟨q1, t, pt, rt⟩ := tgs_ok (K := K) nd is es h'.1 h'.2
      refine ⟨gTup K es.length t, fun X hX => ?_, fun en σ ρ H d v en' R V r hb O => ?_⟩
      · rw [← hX.K]
        exact pg_tup (hX.calm (hcm.resolve_right Bool.false_ne_true)) (pt X hX) (each_len X.env es q1).1 (each_len X.env es q1).2
      · cases d with
        | tup ds =>
          have hb' : setAll is ds en = some en' := hb
          obtain ⟨a, vs, rfl, hs, rs⟩ := rep_tup.mp r
          have hlen : ∀ (is : List Nat) (ds : List D) (en : En), setAll is ds en = some en' → is.length = ds.length := by
            intro is
            induction is with
            | nil => intro ds en h; cases ds with
              | nil => rfl
              | cons _ _ => cases h
            | cons i is ih => intro ds en h; cases ds with
              | nil => cases h
              | cons d ds => rw [List.length_cons, List.length_cons, ih ds _ h]
          exact ⟨a, vs, rfl, hs, by rw [← rs.length, ← hlen is ds en hb', h'.1], rt en σ ρ H ds vs en' R V rs hb' O⟩
        | _ => cases hb
    | _ => exact absurd h Bool.false_ne_true
end
end Q3

set_option Elab.async false
set_option linter.all false
set_option maxRecDepth 100000
set_option maxHeartbeats 4000000
/-! Q3y: instances, methods, the exception at hand. -/
namespace Q3
open PySem PySem.Spec PyProof.Rows L2
section
variable {Γ : Gam} {sc : Scope} {a : E} {pa : Expr} {pos : Pos}
theorem ns_same {K : PySem.W.Frag} {x : Str} {C C' : Addr} (h : PySem.W.nsIn K mainGlobals x = some (some (.ref C))) (h' : PySem.W.nsIn K mainGlobals x = some (some (.ref C'))) : C' = C := by
  rw [h] at h'
  cases h'
  rfl
theorem se_fld (G : GOk Γ) {f : Nat} (h1 : plainObj pa = true) (ha : SE Γ sc a pa) : SE Γ sc (.fld a f) (.Attribute pa (decS f) pos) := by
  obtain ⟨ta, pa', ra⟩ := ha
  refine ⟨tFld Γ.K ta (decS f), fun X hX => ?_, fun en st σ H ρ Q Xk R A V h O => ?_⟩
  · have q := pe_fld (X := X) (f := decS f) (pos := pos) (pa' X hX) (plainObj_of h1 _ _)
    rw [hX.K] at q
    exact q
  · refine ra en st σ H ρ _ Xk _ A V h fun d st1 v Hh ρ1 A1 e1 r1 h1 => ?_
    split at h1
    · rename_i c fs ei
      obtain ⟨hf, h2⟩ := mu_and h1
      obtain ⟨n, p, C, dx, vs, rfl, _, rfl, _, hC, hH, fr⟩ := A1.insAt ei r1
      obtain ⟨C', hC', cl, na⟩ := G.fd c f hf
      have ec := ns_same hC hC'
      subst ec
      rcases fr.get f with ⟨z1, _⟩ | ⟨d0, v0, z1, z2, r0⟩
      · rw [z1] at h2; exact False.elim h2
      · rw [z1] at h2
        exact ⟨p, _, dx, vs, v0, rfl, hH, cl, na, z2, O _ _ _ _ _ A1 e1 r0 h2⟩
    · exact False.elim h1
/-- a method's call: class and method by what stands there -/
def tMth (Γ : Gam) (m : Nat) (ta : TE) (t : TA) : TE := fun σ H Q => ta σ H fun x H1 => ∃ (c k : Nat) (C p dx : Addr) (vs : List (Str × V)), methOf Γ.C.ms c m = some k ∧ PySem.W.nsIn Γ.K mainGlobals (decS c) = some (some (.ref C)) ∧ x = .ref p ∧ H1 p = some (.ins C dx vs) ∧ vs.lookup (decS m) = none ∧
  t σ H1 fun ws H2 => ∀ ps : List Str, (∀ ds st Q Xk, Γ.C.call k ds st Q Xk → ds.length = ps.length) → spOf Γ.K Γ.cl ps.length (Γ.C.call k) (x :: ws) H2 Q (WE Γ.W σ)
theorem mth_read {m : Nat} {es : Es} {ta : TE} {tb : TA} (ra : ∀ en st σ H ρ Q Xk R, Ab Γ.K ρ st H → Evx Γ Xk ρ H en σ → wE Γ.C a en st Q Xk → Out Γ.K ρ H Q R → ta σ H R)
    (rb : ∀ en st σ H ρ Q Xk R, Ab Γ.K ρ st H → Evx Γ Xk ρ H en σ → wEs Γ.C es en st Q Xk → (∀ ds st' vs H' ρ', Ab Γ.K ρ' st' H' → Ex ρ H ρ' H' → Reps Γ.K ρ' H' ds vs → Q ds st' → R vs H') → tb σ H R)
    {en : En} {st : Sto} {σ : L2.St} {H : Hp} {ρ : List Addr} {Q : KD} {Xk : KX} {R : VK} (A : Ab Γ.K ρ st H) (V : Evx Γ Xk ρ H en σ) (h : wE Γ.C (.mth a m es) en st Q Xk) (O : Out Γ.K ρ H Q R) : tMth Γ m ta tb σ H R := by
  refine ra en st σ H ρ _ Xk _ A V h fun d st1 v H1 ρ1 A1 e1 r1 h1 => ?_
  split at h1
  · rename_i c fs ei
    split at h1
    · exact False.elim h1
    · rename_i hl
      split at h1
      · rename_i k hk
        obtain ⟨n, p, C, dx, vs, rfl, _, rfl, _, hC, hH, fr⟩ := A1.insAt ei r1
        have hv : vs.lookup (decS m) = none := by
          rcases fr.get m with ⟨_, z2⟩ | ⟨_, _, z1, _⟩
          · exact z2
          · rw [hl] at z1; cases z1
        refine ⟨c, k, C, p, dx, vs, hk, hC, rfl, hH, hv, rb en st1 σ H1 ρ1 _ Xk _ A1 (V.ext e1) h1 fun ds st2 ws H2 ρ2 A2 e2 r2 h2 ps hps => ?_⟩
        have rs : Reps Γ.K ρ2 H2 (.ref n :: ds) (L2.V.ref p :: ws) := reps_cons.mpr ⟨_, _, rfl, r1.ext e2, r2⟩
        exact ⟨by rw [← rs.length]; exact hps _ _ _ _ h2, ρ2, st2, .ref n :: ds, Q, Xk, A2, rs, h2, fun d3 st3 v3 H3 ρ3 A3 e3 r3 h3 => O d3 st3 v3 H3 ρ3 A3 (e1.trans (e2.trans e3)) r3 h3, V.ox.ext (e1.trans e2)⟩
      · exact False.elim h1
  · exact False.elim h1
theorem se_mth (G : GOk Γ) (hcm : Γ.M.calm = true) {m : Nat} {es : Es} {pe : Expr} {pes : List Expr} {apos cpos : Pos} (h1 : plainObj pa = true) (h2 : (apos.endLine == cpos.line) = true) (h3 : (pe :: pes).length < 29) (hf : ∀ p ∈ pe :: pes, fine p = true) (ha : SE Γ sc a pa) (hs : SA Γ sc es (pe :: pes)) :
    SE Γ sc (.mth a m es) (.Call (.Attribute pa (decS m) apos) (pe :: pes) [] cpos) := by
  obtain ⟨ta, pa', ra⟩ := ha
  obtain ⟨tb, pb', rb⟩ := hs
  refine ⟨tMth Γ m ta tb, fun X hX => ⟨fun pins s σ H Q I h => ?_⟩, fun en st σ H ρ Q Xk R A V h O => mth_read ra rb A V h O⟩
  refine PySem.W.methodCall_KW (thn ((pa' X hX).run pins s σ H _ I h) fun u s1 ⟨x, H1, I1, rx, c, k, C, p, dx, vs, hk, hC, ex, ea, l, q⟩ => ?_) (eval_meth (plainObj_of h1 _ _) (few_of hf h3) h2)
  subst ex
  cases (show u = Value.ref p from rx)
  obtain ⟨C', fa, fd, ps, hC', cl, hm, hb, hl, F⟩ := G.mt c m k hk
  have ec := ns_same hC hC'
  subst ec
  have F' : FnOk X.prog X.w X.K X.mg X.base (L2.CX X.prog X.w) Γ.n fa fd ps (spOf Γ.K Γ.cl ps.length (Γ.C.call k)) := by
    rw [hX.P, hX.w, hX.K, hX.mg, hX.base]; exact F
  refine getmeth_ok I1 ea (by rw [hX.K]; exact cl) (by rw [hX.K]; exact hm) l ?_
  refine PySem.W.callWith_K (first := [.ref p]) (h₀ := X.base) I.ok.mod.kin (by rw [hX.K]; exact hm.kp) (thn ((pb' X hX).run cpos pins s1 σ H1 _ I1 q) fun us s2 ⟨ws, H2, I2, r, q2⟩ => ⟨I2.kIn, ?_⟩) (star_of (hf pe List.mem_cons_self) _ _) (plain_of (fun q hq => hf q (List.mem_cons_of_mem _ hq)) _ _)
  exact run_fnS (us := .ref p :: us) (vs := .ref p :: ws) F' (hX.room hcm) (by rw [hX.K]; exact hb) (passAt hX.tk σ) I2 (.cons rfl r) (q2 ps hl)
theorem se_mth0 (G : GOk Γ) (hcm : Γ.M.calm = true) {m : Nat} {apos cpos : Pos} (h1 : plainObj pa = true) (h2 : (apos.endLine == cpos.line) = true) (ha : SE Γ sc a pa) :
    SE Γ sc (.mth a m .nil) (.Call (.Attribute pa (decS m) apos) [] [] cpos) := by
  obtain ⟨ta, pa', ra⟩ := ha
  obtain ⟨tb, pb', rb⟩ := sa_nil (Γ := Γ) (sc := sc)
  refine ⟨tMth Γ m ta tNil, fun X hX => ⟨fun pins s σ H Q I h => ?_⟩, fun en st σ H ρ Q Xk R A V h O => mth_read (es := .nil) ra (fun en st σ H ρ Q Xk R A V h O => O [] st [] H ρ A Ex.refl (reps_nil.mpr rfl) h) A V h O⟩
  refine PySem.W.methodCall_KW (thn ((pa' X hX).run pins s σ H _ I h) fun u s1 ⟨x, H1, I1, rx, c, k, C, p, dx, vs, hk, hC, ex, ea, l, q⟩ => ?_) (eval_meth (plainObj_of h1 _ _) (few_of (pes := []) (by simp) (by decide)) h2)
  subst ex
  cases (show u = Value.ref p from rx)
  obtain ⟨C', fa, fd, ps, hC', cl, hm, hb, hl, F⟩ := G.mt c m k hk
  have ec := ns_same hC hC'
  subst ec
  have F' : FnOk X.prog X.w X.K X.mg X.base (L2.CX X.prog X.w) Γ.n fa fd ps (spOf Γ.K Γ.cl ps.length (Γ.C.call k)) := by
    rw [hX.P, hX.w, hX.K, hX.mg, hX.base]; exact F
  refine getmeth_ok I1 ea (by rw [hX.K]; exact cl) (by rw [hX.K]; exact hm) l ?_
  exact PySem.W.callWith_K0 (first := [.ref p]) I1.kIn (by rw [hX.K]; exact hm.kp) (run_fnS (us := [.ref p]) (vs := [.ref p]) F' (hX.room hcm) (by rw [hX.K]; exact hb) (passAt hX.tk σ) I1 (.cons rfl .nil) (q ps hl))
/-! ### C(..) -/
theorem run_makeS {X : Cx} {CX : CXT} {k : Nat} {f C : Addr} {fd : FuncData} {ps : List Str} {sp : Sp} {EE : XK} {pins : List (Addr × Obj)} {σ : L2.St} {H : Hp} {s : Shared} {Q : VK} {us : List Value} {vs : List V} (M : Mk X.K C f) (F : FnOk X.prog X.w X.K X.mg X.base CX k f fd ps sp) (hr : Room (k + 1) X.A) (hb : Binds X.K fd ps [])
    (hx : ∀ (pn : List (Addr × Obj)) (H : Hp) (s : Shared) (e : Value) (s' : Shared), Inv X pn σ H s → CX X.stack H s EE e s' → X.xe e s') (I : Inv X pins σ H s) (r : Vals vs us)
    (h : ∀ x dx, H x = none → H dx = none → dx ≠ x → sp (.ref x :: vs) (upd (upd H dx (.own x)) x (.ins C dx [])) (fun v H2 => v = .non ∧ Q (.ref x) H2) EE) : wpAny (model X.prog X.w) X.A (call (.ref C) us) (EP X pins σ Q) X.xe s := by
  have q0 := h (s.heap.objs.size + 1) s.heap.objs.size (I.hok.fresh (Nat.le_succ _)) (I.hok.fresh (Nat.le_refl _)) (Nat.ne_of_lt (Nat.lt_succ_self _))
  have J := Inv.made (C := C) I
  have r2 : Vals (V.ref (s.heap.objs.size + 1) :: vs) (Value.ref (s.heap.objs.size + 1) :: us) := .cons rfl r
  have hl : (Value.ref (s.heap.objs.size + 1) :: us ++ []).length = ps.length := by
    have e := r2.length
    rw [F.len _ _ _ _ q0] at e
    rw [List.append_nil]
    exact e.symm
  have bnd := hb _ (Value.ref (s.heap.objs.size + 1) :: us) J.kIn hl
  rw [List.append_nil] at bnd
  refine wpAny_call (make_map (f := f) I.kIn M.makes M.init (beq_iff_eq.mp M.fn) (codeAny_mono (F.run _ X.stack _ _ ⟨Value.ref (s.heap.objs.size + 1) :: us, []⟩ (Value.ref (s.heap.objs.size + 1) :: us) _ _ EE (hr.make C us []) (J.env0.make C us []) bnd r2 q0) fun r s' z => ?_))
  cases r with
  | error e => exact hx pins _ _ e s' J z
  | ok fl =>
    cases fl with
    | ret u =>
      obtain ⟨v, H', I3, rv, ev, q3⟩ := J.after z
      subst ev
      exact ⟨rv, ⟨V.ref (s.heap.objs.size + 1), H', I3, rfl, q3⟩⟩
    | next => exact False.elim z
    | brk => exact False.elim z
    | cont => exact False.elim z
def tNew (C : Addr) (sp : Sp) (EE : L2.St → XK) (t : TA) : TE := fun σ H Q => t σ H fun vs H1 => ∀ x dx, H1 x = none → H1 dx = none → dx ≠ x → sp (.ref x :: vs) (upd (upd H1 dx (.own x)) x (.ins C dx [])) (fun v H2 => v = .non ∧ Q (.ref x) H2) (EE σ)
theorem pe_dead {X : Cx} {e : Expr} : PE X e (fun _ _ _ => False) := ⟨fun _ _ _ _ _ _ h => h.elim⟩
theorem new_read (G : GOk Γ) {c k : Nat} {C : Addr} {ps : List Str} {es : Es} {tb : TA} (hi : Γ.C.ini.lookup c = some k) (hC : PySem.W.nsIn Γ.K mainGlobals (decS c) = some (some (.ref C))) (hl : ∀ ds st Q Xk, Γ.C.mkc k ds st Q Xk → ds.length = ps.length)
    (rb : ∀ en st σ H ρ Q Xk R, Ab Γ.K ρ st H → Evx Γ Xk ρ H en σ → wEs Γ.C es en st Q Xk → (∀ ds st' vs H' ρ', Ab Γ.K ρ' st' H' → Ex ρ H ρ' H' → Reps Γ.K ρ' H' ds vs → Q ds st' → R vs H') → tb σ H R)
    {en : En} {st : Sto} {σ : L2.St} {H : Hp} {ρ : List Addr} {Q : KD} {Xk : KX} {R : VK} (A : Ab Γ.K ρ st H) (V : Evx Γ Xk ρ H en σ) (h : wE Γ.C (.new c es) en st Q Xk) (O : Out Γ.K ρ H Q R) : tNew C (spOf Γ.K Γ.cl ps.length (Γ.C.mkc k)) (WE Γ.W) tb σ H R := by
  have h' : (match Γ.C.ini.lookup c with
    | some k => wEs Γ.C es en st (fun xs st1 => Γ.C.mkc k (.ref st1.length :: xs) (st1 ++ [.ins c []]) (fun d st2 => d = .non ∧ Q (.ref st1.length) st2) Xk) Xk
    | none => False) := h
  rw [hi] at h'
  refine rb en st σ H ρ _ Xk _ A V h' fun ds st1 vs H1 ρ1 A1 e1 r1 h1 x dx hx hd hne => ?_
  obtain ⟨A2, e2⟩ := A1.newI (c := c) hx hd hne hC
  have hr : (ρ1 ++ [x])[st1.length]? = some x := rho_last A1.len
  have rs : Reps Γ.K (ρ1 ++ [x]) (upd (upd H1 dx (.own x)) x (.ins C dx [])) (.ref st1.length :: ds) (L2.V.ref x :: vs) := reps_cons.mpr ⟨_, _, rfl, rep_ref.mpr ⟨x, hr, rfl⟩, r1.ext e2⟩
  refine ⟨by rw [← rs.length]; exact hl _ _ _ _ h1, _, _, _, _, Xk, A2, rs, h1, fun d3 st3 v3 H3 ρ3 A3 e3 r3 h3 => ?_, V.ox.ext (e1.trans e2)⟩
  obtain ⟨rfl, h4⟩ := h3
  exact ⟨rep_non.mp r3, O _ st3 _ H3 ρ3 A3 (e1.trans (e2.trans e3)) (rep_ref.mpr ⟨x, e3.pre _ _ hr, rfl⟩) h4⟩
theorem room_pred {X : Cx} (G : GOk Γ) (hX : Okx Γ sc X) (hcm : Γ.M.calm = true) : Room (Γ.n - 1 + 1) X.A := by
  have := G.hn
  rw [show Γ.n - 1 + 1 = Γ.n by omega]
  exact hX.room hcm
theorem se_new (G : GOk Γ) (hcm : Γ.M.calm = true) {c : Nat} {es : Es} {pe : Expr} {pes : List Expr} {p : Pos} (h2 : gloB sc (decS c) = true) (hf : ∀ p ∈ pe :: pes, fine p = true) (hs : SA Γ sc es (pe :: pes)) : SE Γ sc (.new c es) (.Call (.Name (decS c) p) (pe :: pes) [] pos) := by
  cases hi : Γ.C.ini.lookup c with
  | none =>
    refine ⟨fun _ _ _ => False, fun X _ => pe_dead, fun en st σ H ρ Q Xk R A V h O => ?_⟩
    have h' : (match Γ.C.ini.lookup c with
      | some k => wEs Γ.C es en st (fun xs st1 => Γ.C.mkc k (.ref st1.length :: xs) (st1 ++ [.ins c []]) (fun d st2 => d = .non ∧ Q (.ref st1.length) st2) Xk) Xk
      | none => False) := h
    rw [hi] at h'
    exact h'
  | some k =>
    obtain ⟨C, fa, fd, ps, hC, hm, M, hb, hl, F⟩ := G.nw c k hi
    obtain ⟨g1, g2, g3⟩ := gloB_ok h2
    obtain ⟨tb, pb', rb⟩ := hs
    refine ⟨tNew C (spOf Γ.K Γ.cl ps.length (Γ.C.mkc k)) (WE Γ.W) tb, fun X hX => ⟨fun pins s σ H Q I h => ?_⟩, fun en st σ H ρ Q Xk R A V h O => new_read G hi hC hl rb A V h O⟩
    have F' : FnOk X.prog X.w X.K X.mg X.base (L2.CX X.prog X.w) (Γ.n - 1) fa fd ps (spOf Γ.K Γ.cl ps.length (Γ.C.mkc k)) := by
      rw [hX.P, hX.w, hX.K, hX.mg, hX.base]; exact F
    refine wpAny_Call_Name_kw (ld_glob I (gl_of hX g1) (by rw [hX.mg]; exact hm) ?_ g2)
    refine PySem.W.callWith_K (h₀ := X.base) I.ok.mod.kin (by rw [hX.K]; exact M.kp) (thn ((pb' X hX).run pos pins s σ H _ I h) fun us s1 ⟨vs, H1, I1, r, q⟩ => ⟨I1.kIn, ?_⟩) (star_of (hf pe List.mem_cons_self) _ _) (plain_of (fun q hq => hf q (List.mem_cons_of_mem _ hq)) _ _)
    exact run_makeS (by rw [hX.K]; exact M) F' (room_pred G hX hcm) (by rw [hX.K]; exact hb) (fun pn H s e s' => passAt hX.tk σ pn H s e s') I1 r q
theorem se_new0 (G : GOk Γ) (hcm : Γ.M.calm = true) {c : Nat} {p : Pos} (h2 : gloB sc (decS c) = true) : SE Γ sc (.new c .nil) (.Call (.Name (decS c) p) [] [] pos) := by
  cases hi : Γ.C.ini.lookup c with
  | none =>
    refine ⟨fun _ _ _ => False, fun X _ => pe_dead, fun en st σ H ρ Q Xk R A V h O => ?_⟩
    have h' : (match Γ.C.ini.lookup c with
      | some k => wEs Γ.C .nil en st (fun xs st1 => Γ.C.mkc k (.ref st1.length :: xs) (st1 ++ [.ins c []]) (fun d st2 => d = .non ∧ Q (.ref st1.length) st2) Xk) Xk
      | none => False) := h
    rw [hi] at h'
    exact h'
  | some k =>
    obtain ⟨C, fa, fd, ps, hC, hm, M, hb, hl, F⟩ := G.nw c k hi
    obtain ⟨g1, g2, g3⟩ := gloB_ok h2
    refine ⟨tNew C (spOf Γ.K Γ.cl ps.length (Γ.C.mkc k)) (WE Γ.W) tNil, fun X hX => ⟨fun pins s σ H Q I h => ?_⟩, fun en st σ H ρ Q Xk R A V h O => new_read (es := .nil) G hi hC hl (fun en st σ H ρ Q Xk R A V h O => O [] st [] H ρ A Ex.refl (reps_nil.mpr rfl) h) A V h O⟩
    have F' : FnOk X.prog X.w X.K X.mg X.base (L2.CX X.prog X.w) (Γ.n - 1) fa fd ps (spOf Γ.K Γ.cl ps.length (Γ.C.mkc k)) := by
      rw [hX.P, hX.w, hX.K, hX.mg, hX.base]; exact F
    refine wpAny_Call_Name_kw (ld_glob I (gl_of hX g1) (by rw [hX.mg]; exact hm) ?_ g2)
    exact PySem.W.callWith_K0 I.kIn (by rw [hX.K]; exact M.kp) (run_makeS (us := []) (by rw [hX.K]; exact M) F' (room_pred G hX hcm) (by rw [hX.K]; exact hb) (fun pn H s e s' => passAt hX.tk σ pn H s e s') I .nil h)
/-! ### the exception at hand -/
theorem exn_of {N : List Str} {exn : Option Nat} {x : Str} (h : exnB exn N x = true) : ∃ i, exn = some i ∧ N[i]? = some x := by
  cases exn with
  | none => exact absurd h Bool.false_ne_true
  | some i => exact ⟨i, rfl, of_decide_eq_true h⟩
theorem name_pe {X : Cx} (hX : Okx Γ sc X) {i : Nat} {x : Str} {p : Pos} (h : nameB sc x = true) (hi : Γ.N[i]? = some x) : PE X (.Name x p) (tVar i) := by
  unfold nameB at h
  rw [Bool.and_eq_true, Bool.and_eq_true, Bool.not_eq_true', Bool.not_eq_true'] at h
  exact pe_var (by rw [hX.N]; exact hi) (by rw [hX.sc]; exact visB_ok h.1.1) h.1.2 h.2
theorem se_dead {e : E} {pe : Expr} (h : ∀ en st Q Xk, ¬ wE Γ.C e en st Q Xk) : SE Γ sc e pe := ⟨fun _ _ _ => False, fun _ _ => pe_dead, fun en st _ _ _ Q Xk _ _ _ z _ => h en st Q Xk z⟩
theorem se_exf (G : GOk Γ) {f x : Str} {p : Pos} (h1 : exnB Γ.M.exn Γ.N x = true) (h2 : nameB sc x = true) : SE Γ sc (.exf f) (.Attribute (.Name x p) f pos) := by
  obtain ⟨i, hi, hx⟩ := exn_of h1
  cases hex : Γ.C.ex with
  | none =>
    refine se_dead fun en st Q Xk h => ?_
    have h' : (match Γ.C.ex with
      | some x => Mu (xfdB Γ.C.X x.c f) (match x.fs.lookup f with
        | some d => Q d st
        | none => False)
      | none => False) := h
    rw [hex] at h'
    exact h'
  | some xi =>
    cases hb : xfdB Γ.C.X xi.c f with
    | false =>
      refine se_dead fun en st Q Xk h => ?_
      have h' : (match Γ.C.ex with
        | some x => Mu (xfdB Γ.C.X x.c f) (match x.fs.lookup f with
          | some d => Q d st
          | none => False)
        | none => False) := h
      rw [hex] at h'
      have h2 := (mu_and h').1
      rw [hb] at h2
      cases h2
    | true =>
      obtain ⟨l, hl, hf⟩ : ∃ l, Γ.C.X[xi.c]? = some (some l) ∧ f ∈ l := by
        unfold xfdB at hb
        split at hb
        · rename_i l e
          exact ⟨l, e, List.mem_of_elem_eq_true hb⟩
        · cases hb
      obtain ⟨D, hD, _, xf, hno⟩ := G.xe xi.c _ hl
      refine ⟨tXf xi.a (.ref D) xi.d D f (tVar i), fun X hX => ?_, fun en st σ H ρ Q Xk R A V h O => ?_⟩
      · have hn := name_pe (p := p) hX h2 hx
        have hK := hX.K
        obtain ⟨X0, oe, pn, cls, vs, eX, hcl, hz, hd⟩ := hX.exi xi hex
        rw [hD] at hcl
        cases hcl
        subst eX
        exact pe_xf (by rw [hK]; exact xf) (by rw [hK]; exact hno l rfl f hf) hz ⟨vs, hd⟩ hn rfl
      · have h' : (match Γ.C.ex with
          | some x => Mu (xfdB Γ.C.X x.c f) (match x.fs.lookup f with
            | some d => Q d st
            | none => False)
          | none => False) := h
        rw [hex] at h'
        have h3 := (mu_and h').2
        obtain ⟨s1, s2⟩ := V.xi xi i hex hi
        split at h3
        · rename_i d hd
          rcases s2 with ⟨z, _⟩ | ⟨dx, vs, q1, q2, q3⟩
          · rw [z] at hd; cases hd
          · obtain ⟨v, hv, rv⟩ := q3 f d hd
            exact ⟨.ref xi.a, s1, rfl, rfl, dx, vs, v, q1, q2, hv, O.keep A rv h3⟩
        · exact False.elim h3
/-! isinstance(e, ..) -/
def xnV : Value → L2.V
  | .ref C => .ref C
  | .type T => .ty T
  | _ => .non
theorem pe_xn (G : GOk Γ) {t : Nat} {pe : Expr} (h : xnB Γ.M.Xn sc t pe = true) : ∃ v, Γ.cl[t]? = some v ∧ ClsV (xnV v) v ∧ fine pe = true ∧ ∀ X, Okx Γ sc X → PE X pe (tC (xnV v)) := by
  cases pe with
  | Name x p =>
    have h' : (decide (Γ.M.Xn[t]? = some x) && gloB sc x) = true := h
    rw [Bool.and_eq_true, decide_eq_true_eq] at h'
    obtain ⟨g1, g2, g3⟩ := gloB_ok h'.2
    obtain ⟨v, hv, hc⟩ := G.xn t x h'.1
    rcases hc with ⟨C, rfl, hm⟩ | ⟨T, rfl, hm, hb, hn⟩
    · exact ⟨_, hv, .own C, rfl, fun X hX => pe_glob (gl_of hX g1) (by rw [hX.mg]; exact hm) rfl g2⟩
    · exact ⟨_, hv, .ty T, rfl, fun X hX => pe_bltn (gl_of hX g1) (by rw [hX.mg]; exact hm) hb rfl g3 g2⟩
  | _ => exact absurd h Bool.false_ne_true
theorem pas_xn (G : GOk Γ) : ∀ {ts : List Nat} {pes : List Expr}, ts.length = pes.length → ((ts.zip pes).all fun p => xnB Γ.M.Xn sc p.1 p.2) = true → ∃ vs, Paired ClsV (vs.map xnV) vs ∧ vs.length = ts.length ∧ (∀ (k t : Nat), ts[k]? = some t → ∃ v, vs[k]? = some v ∧ Γ.cl[t]? = some v) ∧ (∀ p ∈ pes, fine p = true) ∧ ∀ X, Okx Γ sc X → PA X pes (fun _ H Q => Q (vs.map xnV) H)
  | [], [], _, _ => ⟨[], .nil, rfl, by intro k t h; simp at h, by intro p h; simp at h, fun X _ => pa_nil⟩
  | [], _ :: _, h, _ => by cases h
  | _ :: _, [], h, _ => by cases h
  | t :: ts, p :: ps, hl, h => by
    rw [List.zip_cons_cons, List.all_cons, Bool.and_eq_true] at h
    obtain ⟨v, hv, cv, f1, p1⟩ := pe_xn G h.1
    obtain ⟨vs, c2, l2, a2, f2, p2⟩ := pas_xn G (by simpa using hl) h.2
    refine ⟨v :: vs, .cons cv c2, by rw [List.length_cons, List.length_cons, l2], fun k t' hk => ?_, fun q hq => ?_, fun X hX => pa_cons (p1 X hX) (p2 X hX) (star_of f1 _ _)⟩
    · cases k with
      | zero => cases hk; exact ⟨v, rfl, hv⟩
      | succ k => exact a2 k t' hk
    · rcases List.mem_cons.mp hq with rfl | hq
      · exact f1
      · exact f2 q hq
theorem kit_subs (G : GOk Γ) {c : Nat} {D : Addr} (hD : Γ.cl[c]? = some (.ref D)) : ∀ {ts : List Nat} {vs : List Value} {b : Bool}, vs.length = ts.length → (∀ (k t : Nat), ts[k]? = some t → ∃ v, vs[k]? = some v ∧ Γ.cl[t]? = some v) → subAny (Γ.C.sub c) ts = some b → PySem.W.kitAny Γ.K (.ref D) vs = some b
  | [], [], b, _, _, h => by cases h; rfl
  | [], _ :: _, _, h, _, _ => by cases h
  | _ :: _, [], _, h, _, _ => by cases h
  | t :: ts, v :: vs, b, hl, ha, h => by
    have h' : (match Γ.C.sub c t, subAny (Γ.C.sub c) ts with
      | some b, some c => some (b || c)
      | _, _ => none) = some b := h
    split at h'
    · rename_i b1 b2 e1 e2
      cases h'
      have ih := kit_subs G hD (vs := vs) (by simpa using hl) (fun k t hk => ha (k + 1) t hk) e2
      obtain ⟨v', w', q1, q2, _, q4⟩ := G.xs c t b1 e1
      rw [hD] at q1
      cases q1
      obtain ⟨v2, z1, z2⟩ := ha 0 t rfl
      have ev : v = v2 := Option.some.inj z1
      rw [z2, ← ev] at q2
      cases q2
      show (match PySem.W.kitOne Γ.K (.ref D) v with
        | some true => some true
        | some false => PySem.W.kitAny Γ.K (.ref D) vs
        | none => none) = some (b1 || b2)
      rw [q4]
      cases b1 with
      | true => rfl
      | false => exact ih
    · cases h'
/-- isinstance(e, c), isinstance(e, (c, ..)): e the exception at hand -/
def rIsX (K : PySem.W.Frag) (D p : Addr) (d : Option Addr) : List L2.V → Hp → VK → Prop := fun xs H Q => (d = none ∨ ∃ dx vs, d = some dx ∧ H dx = some (.xd vs)) ∧ ∃ b, Q (.bl b) H ∧
  ((∃ c u, xs = [.ref p, c] ∧ ClsV c u ∧ PySem.W.kitOne K (.ref D) u = some b) ∨ ∃ tp cs us, xs = [.ref p, .ref tp] ∧ H tp = some (.tup cs) ∧ Paired ClsV cs us ∧ PySem.W.kitAny K (.ref D) us = some b)
theorem call_isX {X : Cx} {p D : Addr} {oe : Obj} {d : Option Addr} {pn : List (Addr × Obj)} (C : ExcC X.K D) (hz : Zc (.ref D) d oe) (hf : ∃ vs, oe.data = .fields vs) : CallR (X.suite p ((p, oe) :: pn)) (.builtin "isinstance") (rIsX X.K D p d) := by
  intro pins s σ H xs us Q I r h
  obtain ⟨hd, b, q, h⟩ := h
  obtain ⟨hget, _⟩ := I.pin (p, oe) (List.mem_append.mpr (.inl List.mem_cons_self))
  obtain ⟨vs, hv⟩ := hf
  obtain ⟨od, J⟩ : ∃ od, PySem.W.InstAt s.heap p oe D od := by
    have nc : PySem.W.notCls oe := by unfold PySem.W.notCls; rw [hv] <;> rfl
    rcases hd with hd | ⟨dx, fs, hd, hx⟩
    · refine ⟨none, hget, hz.1, nc, ?_⟩
      rw [hz.2, hd]; trivial
    · have ho : ObjOk X.prog X.w H s.heap dx (.xd fs) := I.hok dx _ hx
      obtain ⟨mA, ⟨o, es, ep, e, _⟩, _⟩ := ho
      refine ⟨some o, hget, hz.1, nc, ?_⟩
      rw [hz.2, hd]; exact e
  rcases h with ⟨c, u, rfl, k, e⟩ | ⟨tp, cs, ws, rfl, hT, k, e⟩
  · obtain ⟨u1, u2, rfl, r1, r2⟩ := vals2 r
    cases (show u1 = Value.ref p from r1)
    have e2 := k.eq r2
    subst e2
    exact PySem.W.kia_one (kitx_exc2 C) I.kIn J e (fun z => nomatch z) fun tk => ⟨.bl b, H, I.kept (t' := tk) fun _ _ z => z, rfl, q⟩
  · obtain ⟨u1, u2, rfl, r1, r2⟩ := vals2 r
    cases (show u1 = Value.ref p from r1)
    cases (show u2 = Value.ref tp from r2)
    obtain ⟨_, its, rv, o, h1, h2, n, h3⟩ := (show ObjOk X.prog X.w H s.heap tp (.tup cs) from I.hok tp _ hT)
    have e3 := ClsV.all k rv
    subst e3
    obtain ⟨oc, od', dt, sl⟩ := o
    simp only at h2 h3
    subst h2 h3
    exact PySem.W.kia_tup (kitx_exc2 C) I.kIn J h1 e (fun z => nomatch z) fun tk => ⟨.bl b, H, I.kept (t' := tk) fun _ _ z => z, rfl, q⟩
theorem se_isx (G : GOk Γ) {ts : List Nat} {x y : Str} {p px : Pos} {pt : Expr} (h0 : y = "isinstance") (h1 : y ∈ Γ.M.B) (h2 : gloB sc y = true) (h3 : exnB Γ.M.exn Γ.N x = true) (h4 : nameB sc x = true) (h5 : xnsB Γ.M.Xn sc ts pt = true) :
    SE Γ sc (.isx ts) (.Call (.Name y p) [.Name x px, pt] [] pos) := by
  obtain ⟨g1, g2, g3⟩ := gloB_ok h2
  obtain ⟨i, hi, hx⟩ := exn_of h3
  cases hex : Γ.C.ex with
  | none =>
    refine se_dead fun en st Q Xk h => ?_
    have h' : (match Γ.C.ex with
      | some x => Mu (Γ.C.X[x.c]?).isSome (match subAny (Γ.C.sub x.c) ts with
        | some b => Q (.bl b) st
        | none => False)
      | none => False) := h
    rw [hex] at h'
    exact h'
  | some xi =>
    cases hb : Γ.C.X[xi.c]? with
    | none =>
      refine se_dead fun en st Q Xk h => ?_
      have h' : (match Γ.C.ex with
        | some x => Mu (Γ.C.X[x.c]?).isSome (match subAny (Γ.C.sub x.c) ts with
          | some b => Q (.bl b) st
          | none => False)
        | none => False) := h
      rw [hex] at h'
      have h2 := (mu_and h').1
      rw [hb] at h2
      cases h2
    | some o =>
      obtain ⟨D, hD, ec, _⟩ := G.xe xi.c o hb
      have read : ∀ (t : TE) (cv : VK → Hp → Prop), (∀ en st σ H ρ Q Xk R, Ab Γ.K ρ st H → Evx Γ Xk ρ H en σ → wE Γ.C (.isx ts) en st Q Xk → Out Γ.K ρ H Q R → t σ H R) → True := fun _ _ _ => trivial
      have tell : ∀ {en : En} {st : Sto} {Q : KD} {Xk : KX}, wE Γ.C (.isx ts) en st Q Xk → ∃ b, subAny (Γ.C.sub xi.c) ts = some b ∧ Q (.bl b) st := by
        intro en st Q Xk h
        have h' : (match Γ.C.ex with
          | some x => Mu (Γ.C.X[x.c]?).isSome (match subAny (Γ.C.sub x.c) ts with
            | some b => Q (.bl b) st
            | none => False)
          | none => False) := h
        rw [hex] at h'
        have h3 := (mu_and h').2
        split at h3
        · rename_i b e
          exact ⟨b, e, h3⟩
        · exact False.elim h3
      have dct : ∀ {Xk : KX} {ρ : List Addr} {H : Hp} {en : En} {σ : L2.St}, Evx Γ Xk ρ H en σ → σ[i]? = some (some (L2.V.ref xi.a)) ∧ (xi.d = none ∨ ∃ dx vs, xi.d = some dx ∧ H dx = some (.xd vs)) := fun V => by
        obtain ⟨s1, s2⟩ := V.xi xi i hex hi
        refine ⟨s1, ?_⟩
        rcases s2 with ⟨_, z⟩ | ⟨dx, vs, q1, q2, _⟩
        · exact .inl z
        · exact .inr ⟨dx, vs, q1, q2⟩
      have one : ∀ (t : Nat), ts = [t] → xnB Γ.M.Xn sc t pt = true → SE Γ sc (.isx ts) (.Call (.Name y p) [.Name x px, pt] [] pos) := by
        intro t e1 hb1
        subst e1
        obtain ⟨v, hv, cv, f1, p1⟩ := pe_xn G hb1
        refine ⟨tCB (rIsX Γ.K D xi.a xi.d) (tCons (tVar i) (tCons (tC (xnV v)) tNil)), fun X hX => ?_, fun en st σ H ρ Q Xk R A V h O => ?_⟩
        · have hn := name_pe (p := px) hX h4 hx
          have q1 := p1 X hX
          have gl := gl_of hX g1
          have hm : X.mg y = none := by rw [hX.mg]; exact G.bt _ h1
          have hK := hX.K
          obtain ⟨X0, oe, pn, cls, vs, eX, hcl, hz, hd⟩ := hX.exi xi hex
          rw [hD] at hcl
          cases hcl
          subst eX
          have hK' : X0.K = Γ.K := hK
          have hcb := call_isX (X := X0) (p := xi.a) (pn := pn) (by rw [hK']; exact ec) hz ⟨vs, hd⟩
          rw [hK'] at hcb
          exact pe_callB hcb gl hm (by rw [h0]; exact boot_isinstance') (pa_cons hn (pa_cons q1 pa_nil (star_of f1 _ _)) rfl) g3 g2 rfl (plain_of (fun q hq => by rcases List.mem_cons.mp hq with rfl | hq; exact f1; simp at hq) _ _)
        · obtain ⟨b, e, hq⟩ := tell h
          obtain ⟨s1, s2⟩ := dct V
          have e' : (match Γ.C.sub xi.c t, (some false : Option Bool) with
            | some b, some c => some (b || c)
            | _, _ => none) = some b := e
          split at e'
          · rename_i b1 c1 e2 e3
            cases e3
            rw [Bool.or_false] at e'
            cases e'
            obtain ⟨v', w', q1, q2, _, q4⟩ := G.xs xi.c t _ e2
            rw [hD] at q1; cases q1
            rw [hv] at q2; cases q2
            exact ⟨.ref xi.a, s1, s2, _, O.keep A (rep_bl.mpr rfl) hq, .inl ⟨_, v, rfl, cv, q4⟩⟩
          · cases e'
      cases pt with
      | Name z pz =>
        cases ts with
        | nil => exact absurd h5 Bool.false_ne_true
        | cons t ts => cases ts with
          | nil => exact one t rfl h5
          | cons _ _ => exact absurd h5 Bool.false_ne_true
      | Tuple es k pk =>
        have ht' : (decide (ts.length = es.length) && decide (ts.length ≤ 1000) && (ts.zip es).all fun p => xnB Γ.M.Xn sc p.1 p.2) = true := by
          match ts, h5 with
          | [], ht => exact ht
          | [_], ht => exact ht
          | _ :: _ :: _, ht => exact ht
        rw [Bool.and_eq_true, Bool.and_eq_true, decide_eq_true_eq, decide_eq_true_eq] at ht'
        obtain ⟨⟨hl, hl2⟩, hz⟩ := ht'
        obtain ⟨vs, pv, lv, av, fv, pav⟩ := pas_xn G hl hz
        refine ⟨tCB (rIsX Γ.K D xi.a xi.d) (tCons (tVar i) (tCons (tTup (fun _ H Q => Q (vs.map xnV) H)) tNil)), fun X hX => ?_, fun en st σ H ρ Q Xk R A V h O => ?_⟩
        · have hn := name_pe (p := px) hX h4 hx
          have q1 := pav X hX
          have gl := gl_of hX g1
          have hm : X.mg y = none := by rw [hX.mg]; exact G.bt _ h1
          have hK := hX.K
          obtain ⟨X0, oe, pn, cls, ws, eX, hcl, hz, hd⟩ := hX.exi xi hex
          rw [hD] at hcl
          cases hcl
          subst eX
          have hK' : X0.K = Γ.K := hK
          have hcb := call_isX (X := X0) (p := xi.a) (pn := pn) (by rw [hK']; exact ec) hz ⟨ws, hd⟩
          rw [hK'] at hcb
          exact pe_callB hcb gl hm (by rw [h0]; exact boot_isinstance') (pa_cons hn (pa_cons (pe_tup q1) pa_nil rfl) rfl) g3 g2 rfl (plain_of (fun q hq => by rcases List.mem_cons.mp hq with rfl | hq; rfl; simp at hq) _ _)
        · obtain ⟨b, e, hq⟩ := tell h
          obtain ⟨s1, s2⟩ := dct V
          refine ⟨.ref xi.a, s1, by rw [List.length_map, lv]; exact Lm_line (by show _ ≤ 16777216; omega), fun tp hp => ?_⟩
          have e2 : Ex ρ H ρ (upd H tp (.tup (vs.map xnV))) := ex_new0 hp
          have A2 := A.track (u := .tup (vs.map xnV)) hp
          refine ⟨?_, b, O _ _ _ _ _ A2 e2 (rep_bl.mpr rfl) hq, .inr ⟨tp, _, vs, rfl, upd_same, pv, kit_subs G hD lv av e⟩⟩
          rcases s2 with z | ⟨dx, us, z1, z2⟩
          · exact .inl z
          · exact .inr ⟨dx, us, z1, e2.xd _ _ z2⟩
      | _ => cases ts with
        | nil => exact absurd h5 Bool.false_ne_true
        | cons t ts => cases ts <;> exact absurd h5 Bool.false_ne_true
end
end Q3

set_option Elab.async false
set_option linter.all false
set_option maxRecDepth 100000
set_option maxHeartbeats 4000000
/-! Q3j: comprehensions; the theorem for expressions. -/
namespace Q3
open PySem PySem.Spec PyProof.Rows L2
theorem wipe_in {σ : L2.St} {i : Nat} : ∀ {vs : List Nat}, i ∈ vs → i < σ.length → (L2.wipe σ vs)[i]? = some none
  | [], h, _ => by simp at h
  | v :: vs, h, hl => by
    unfold L2.wipe
    by_cases hv : v = i
    · subst hv
      rw [List.getElem?_set_self (by rw [wipe_length]; exact hl)]
    · rw [List.getElem?_set_ne hv]
      exact wipe_in ((List.mem_cons.mp h).resolve_left fun e => hv e.symm) hl
theorem wipe_same {σ σ' : L2.St} {vs : List Nat} (hl : σ'.length = σ.length) (h : ∀ i : Nat, i ∉ vs → σ'[i]? = σ[i]?) : L2.wipe σ' vs = L2.wipe σ vs := by
  apply List.ext_getElem?
  intro i
  by_cases hi : i ∈ vs
  · by_cases hlt : i < σ.length
    · rw [wipe_in hi hlt, wipe_in hi (by rw [hl]; exact hlt)]
    · rw [List.getElem?_eq_none (by rw [wipe_length]; omega), List.getElem?_eq_none (by rw [wipe_length]; omega)]
  · rw [wipe_at hi, wipe_at hi, h i hi]
theorem wipe_idem (σ : L2.St) (vs : List Nat) : L2.wipe (L2.wipe σ vs) vs = L2.wipe σ vs := wipe_same (wipe_length _ _) fun i hi => wipe_at hi
section
variable {Γ : Gam} {sc : Scope} {elt : E} {pelt pit tg : Expr} {g : Tg} {it : I} {c : T} {ifs : List Expr} {scope : Scope} {pos : Pos}
/-- nothing is let out -/
abbrev Gam.noW (Γ : Gam) : Gam := { Γ with W := fun _ _ _ _ => False }
theorem GOk.withW (G : GOk Γ) (W : WX) : GOk { Γ with W := W } := ⟨G.nd, G.gl, G.bt, G.fn, G.cex, G.hn, G.mt, G.nw, G.fd, G.xn, G.xr, G.xs, G.xe, G.kd⟩
theorem GOk.noW (G : GOk Γ) : GOk Γ.noW := G.withW _
theorem okx_blk {X : Cx} (G : GOk Γ) (hcm : Γ.M.calm = true) (h : Okx Γ sc X) (s : Shared) (H : Hp) (C : Addr) (cl : List (Str × Addr)) (fp : List Addr) : Okx Γ.noW (relS scope sc) (X.blk s H scope (compEnvC scope cl C X.env) fp) := by
  refine ⟨h.P, h.w, h.K, h.mg, h.base, h.N, ?_, h.calm, takes0, h.hu, h.room, fun x e => ?_⟩
  rotate_left
  · have e' : Γ.C.ex = some x := e
    rw [G.cex hcm] at e'; cases e'
  rw [← h.sc]
  rfl
theorem okt_blk {X : Cx} (hcm : Γ.M.calm = true) (h : Okx Γ sc X) (s : Shared) (H : Hp) (C : Addr) (cl : List (Str × Addr)) (fp : List Addr) : OkT Γ.N (locB scope) Γ.K true (X.blk s H scope (compEnvC scope cl C X.env) fp) := by
  refine ⟨h.N, h.K, fun _ => h.calm hcm, fun x hx => ?_⟩
  unfold locB at hx
  split at hx
  · rename_i e
    have q := lookup_relS_keep (sc := X.env.scope) (by decide : NameKind.local ≠ .free) e
    exact ⟨.inl q, .inr q⟩
  · rename_i e
    have q := lookup_relS_keep (sc := X.env.scope) (by decide : NameKind.cell ≠ .free) e
    refine ⟨.inr q, .inl ?_⟩
    show (scope.names.lookup x == some NameKind.cell) = true
    rw [e]
    rfl
  · cases hx
def STs (Γ : Gam) (sc : Scope) (c : T) (ifs : List Expr) : Prop := ∃ t, (∀ X, Okx Γ sc X → PTs X ifs t) ∧ ∀ en st σ H ρ Q Xk R, Ab Γ.K ρ st H → Evx Γ Xk ρ H en σ → wT Γ.C c en st Q Xk →
  (∀ b st' H' ρ', Ab Γ.K ρ' st' H' → Ex ρ H ρ' H' → Q b st' → R b H') → t σ H R
theorem sts_nil : STs Γ sc .yes [] := ⟨tYes, fun X _ => pts_nil, fun en st σ H ρ Q Xk R A V h O => O true st H ρ A Ex.refl h⟩
theorem sts_one {pc : Expr} (h : ST Γ sc c pc) : STs Γ sc c [pc] := by
  obtain ⟨t, p, r⟩ := h
  exact ⟨t, fun X hX => pts_one (p X hX), r⟩
abbrev lcOf (Γ : Gam) (sc : Scope) (elt : E) (g : Tg) (it : I) (c : T) (tg pit pelt : Expr) (ifs : List Expr) (scope : Scope) (own : List (Str × Nat)) : Prop :=
  ∃ wi gt tt te, (∀ X, Okx Γ sc X → PI X tg pit wi) ∧ (∀ X, Okx Γ sc X → ∀ (s : Shared) (H : Hp) (C : Addr) (cl : List (Str × Addr)) (fp : List Addr), PG (X.blk s H scope (compEnvC scope cl C X.env) fp) tg gt) ∧
    (∀ X, Okx Γ sc X → ∀ (s : Shared) (H : Hp) (C : Addr) (cl : List (Str × Addr)) (fp : List Addr), PTs (X.blk s H scope (compEnvC scope cl C X.env) fp) ifs tt) ∧
    (∀ X, Okx Γ sc X → ∀ (s : Shared) (H : Hp) (C : Addr) (cl : List (Str × Addr)) (fp : List Addr), PE (X.blk s H scope (compEnvC scope cl C X.env) fp) pelt te) ∧
    ∀ en st σ H ρ Q Xk R, Ab Γ.K ρ st H → Evx Γ Xk ρ H en σ → wE Γ.C (.comp elt g it c) en st Q Xk → Out Γ.K ρ H Q R → tLc wi gt tt te (own.map (·.2)) σ H R
theorem lc_of (G : GOk Γ) (hcm : Γ.M.calm = true) (htB : it.tgB tg = true) {own : List (Str × Nat)} (hi : SI Γ sc it pit) (ho : own.map (·.2) = g.slots) (ht : chkTg Γ.N (locB scope) g tg = true)
    (he : SE Γ.noW (relS scope sc) elt pelt) (hc : STs Γ.noW (relS scope sc) c ifs) : lcOf Γ sc elt g it c tg pit pelt ifs scope own := by
  obtain ⟨wi, pI, rI⟩ := hi tg htB
  obtain ⟨gt, pG, rG⟩ := tg_ok (K := Γ.K) (cm := true) G.nd (.inl rfl) ht
  obtain ⟨te, pE, rE⟩ := he
  obtain ⟨tt, pT, rT⟩ := hc
  refine ⟨wi, gt, tt, te, pI, fun X hX s H C cl fp => pG _ (okt_blk hcm hX s H C cl fp), fun X hX s H C cl fp => pT _ (okx_blk G hcm hX s H C cl fp), fun X hX s H C cl fp => pE _ (okx_blk G hcm hX s H C cl fp), fun en st σ H ρ Q Xk R A V h O => ?_⟩
  have h0 : wI Γ.C it en st (fun J st1 =>
      loopC J.gs (fun d st2 K => match bindT g d (wipeE en g.slots) with
        | some en' => wT Γ.C c en' st2 (fun t st3 => Br t (wE Γ.C elt en' st3 (fun y st4 => match st4[st1.length]? with
            | some (.lst acc) => acc.length < Lm ∧ K (st4.set st1.length (.lst (acc ++ [y])))
            | _ => False) noX) (K st3)) noX
        | none => False) J.xs (st1 ++ [.lst []]) fun st5 => Q (.ref st1.length) st5) Xk := h
  refine rI en st σ H ρ _ Xk _ A V h0 fun J j st1 H1 ρ1 A1 e1 wk h1 p0 hD => ?_
  rw [ho]
  have A2 : Ab Γ.K (ρ1 ++ [p0]) (st1 ++ [.lst []]) (upd H1 p0 (.lst [])) := A1.newL hD (reps_nil.mpr rfl)
  have e2 : Ex ρ1 H1 (ρ1 ++ [p0]) (upd H1 p0 (.lst [])) := ex_new hD [p0]
  have hD0 : (ρ1 ++ [p0])[st1.length]? = some p0 := by rw [← A1.len, List.getElem?_append_right (Nat.le_refl _), Nat.sub_self]; rfl
  generalize hbody : (fun (d : D) (st2 : Sto) (K : Sto → Prop) => match bindT g d (wipeE en g.slots) with
        | some en' => wT Γ.C c en' st2 (fun t st3 => Br t (wE Γ.C elt en' st3 (fun y st4 => match st4[st1.length]? with
            | some (.lst acc) => acc.length < Lm ∧ K (st4.set st1.length (.lst (acc ++ [y])))
            | _ => False) noX) (K st3)) noX
        | none => False) = body at h1
  refine ⟨fun i m H' => ∃ ρ' st', m = j.xs.length - i ∧ i ≤ j.xs.length ∧ Ab Γ.K ρ' st' H' ∧ Ex (ρ1 ++ [p0]) (upd H1 p0 (.lst [])) ρ' H' ∧ loopC j.gs body (j.xs.drop i) st' (fun st5 => Q (.ref st1.length) st5),
    ⟨j.xs.length, ρ1 ++ [p0], st1 ++ [.lst []], by simp, Nat.zero_le _, A2, Ex.refl, by rw [List.drop_zero]; exact h1⟩, ?_⟩
  rintro i m H' ⟨ρ', st', rfl, hi', A', e', hl⟩
  have eA : Ex ρ1 H1 ρ' H' := e2.trans e'
  by_cases hlt : i < j.xs.length
  · rw [List.drop_eq_getElem_cons hlt] at hl
    obtain ⟨hg, hb⟩ := hl
    obtain ⟨wk1, _⟩ := wk ρ' st' H' A' eA hg i
    obtain ⟨hgo, hy⟩ := wk1 _ (List.getElem?_eq_getElem hlt)
    refine .inr ⟨hgo, fun H'' => ∃ ρ'' st'', Ab Γ.K ρ'' st'' H'' ∧ Ex (ρ1 ++ [p0]) (upd H1 p0 (.lst [])) ρ'' H'' ∧ loopC j.gs body (j.xs.drop (i + 1)) st'' (fun st5 => Q (.ref st1.length) st5),
      fun H'' ⟨ρ'', st'', B1, B2, B3⟩ => ⟨j.xs.length - (i + 1), by omega, ρ'', st'', rfl, hlt, B1, B2, B3⟩, fun x Hx hyl => ?_⟩
    obtain ⟨A3, e3, r3⟩ := hy x Hx hyl
    rw [← hbody] at hb
    have hb' : (match bindT g j.xs[i] (wipeE en g.slots) with
        | some en' => wT Γ.C c en' st' (fun t st3 => Br t (wE Γ.C elt en' st3 (fun y st4 => match st4[st1.length]? with
            | some (.lst acc) => acc.length < Lm ∧ loopC j.gs body (j.xs.drop (i + 1)) (st4.set st1.length (.lst (acc ++ [y]))) (fun st5 => Q (.ref st1.length) st5)
            | _ => False) noX) (loopC j.gs body (j.xs.drop (i + 1)) st3 (fun st5 => Q (.ref st1.length) st5))) noX
        | none => False) := by rw [← hbody]; exact hb
    cases hbd : bindT g j.xs[i] (wipeE en g.slots) with
    | none => rw [hbd] at hb'; exact False.elim hb'
    | some en' =>
      rw [hbd] at hb'
      have V1 : Evn Γ.K ρ' Hx (wipeE en g.slots) (L2.wipe σ g.slots) := (V.ev.ext ((e1.trans eA).trans e3)).wipe _
      refine rG _ _ _ _ _ _ _ _ V1 r3 hbd fun σ2 V2 k2 l2 => ?_
      refine ⟨(wipe_same l2 k2).trans (wipe_idem σ g.slots), ?_⟩
      have V3 : Evx Γ.noW noX ρ' Hx en' σ2 := ⟨V2, OutX.no, fun x i e _ => by
        have e' : Γ.C.ex = some x := e
        rw [G.cex hcm] at e'; cases e'⟩
      refine rT en' st' σ2 Hx ρ' _ noX _ A3 V3 hb' fun t st3 H3 ρ3 A4 e4 h3 => ?_
      have eC : Ex (ρ1 ++ [p0]) (upd H1 p0 (.lst [])) ρ3 H3 := (e'.trans e3).trans e4
      cases t with
      | false => exact ite_ff ⟨ρ3, st3, A4, eC, h3⟩
      | true =>
        refine ite_tt (rE en' st3 σ2 H3 ρ3 _ noX _ A4 (V3.ext e4) h3 fun y st4 v H4 ρ4 A5 e5 r5 h4 => ?_)
        have h4' : (match st4[st1.length]? with
            | some (.lst acc) => acc.length < Lm ∧ loopC j.gs body (j.xs.drop (i + 1)) (st4.set st1.length (.lst (acc ++ [y]))) (fun st5 => Q (.ref st1.length) st5)
            | _ => False) := h4
        have hD4 : ρ4[st1.length]? = some p0 := (eC.trans e5).pre _ _ hD0
        split at h4'
        · rename_i acc ea
          obtain ⟨p, vs, ep, hp, hH, ra⟩ := A5.mlst ea (rep_ref.mpr ⟨p0, hD4, rfl⟩)
          cases ep
          refine ⟨vs, hH, Lm_lt (by rw [← ra.length]; exact h4'.1), ρ4, _, A5.setL ea hD4 hH (ra.append (reps_cons.mpr ⟨v, [], rfl, r5, reps_nil.mpr rfl⟩)), (eC.trans e5).trans (ex_wr hH), h4'.2⟩
        · exact False.elim h4'
  · have hn : i = j.xs.length := by omega
    subst hn
    rw [List.drop_length] at hl
    obtain ⟨hg, hq⟩ := hl
    obtain ⟨_, wk2⟩ := wk ρ' st' H' A' eA hg j.xs.length
    refine .inl ⟨wk2 rfl, O _ st' _ H' ρ' A' ((e1.trans eA)) (rep_ref.mpr ⟨p0, e'.pre _ _ hD0, rfl⟩) hq⟩
theorem se_comp (G : GOk Γ) (hcm : Γ.M.calm = true) {own : List (Str × Nat)} (hf : fine pit = true) (hb : blkC Γ.N sc scope own = true) (h : lcOf Γ sc elt g it c tg pit pelt ifs scope own) : SE Γ sc (.comp elt g it c) (.ListComp pelt [⟨tg, pit, ifs, 0⟩] scope pos) := by
  obtain ⟨wi, gt, tt, te, pI, pG, pT, pE, r⟩ := h
  refine ⟨tLc wi gt tt te (own.map (·.2)), fun X hX => ?_, r⟩
  exact pe_lc (hX.calm hcm) (by rw [hX.N]; exact G.nd) (pI X hX) (by rw [hX.N, hX.sc]; exact blkOk_by hb) (pG X hX) (pT X hX) (pE X hX) (fold_of hf _)
end

/-! ### the theorem -/
def T.isBool : T → Bool
  | .and _ _ => true
  | .or _ _ => true
  | _ => false
theorem bool_of {M : Nms} {N : List Str} {c : T} {sc : Scope} {op : BoolOp} {vs : List Expr} {p : Pos} (h : chkT M N c sc (.BoolOp op vs p) = true) : c.isBool = true := by
  cases c with
  | and _ _ => rfl
  | or _ _ => rfl
  | val e =>
    have h4 : (e.asVal && chkE M N e sc (.BoolOp op vs p)) = true := h
    simp only [Bool.and_eq_true] at h4
    cases e with
    | and _ _ => exact absurd h4.1 Bool.false_ne_true
    | or _ _ => exact absurd h4.1 Bool.false_ne_true
    | _ => cases op <;> exact absurd h4.2 Bool.false_ne_true
  | _ => cases op <;> exact absurd h Bool.false_ne_true
theorem comp_zero {M : Nms} {N : List Str} {elt : E} {g : Tg} {it : I} {c : T} {sc scope : Scope} {pelt tg pit : Expr} {ifs : List Expr} {ia : Int} {p : Pos} (h : chkE M N (.comp elt g it c) sc (.ListComp pelt [⟨tg, pit, ifs, ia⟩] scope p) = true) : ia = 0 := by
  cases ia with
  | ofNat n =>
    cases n with
    | zero => rfl
    | succ n => exact absurd h Bool.false_ne_true
  | negSucc n => exact absurd h Bool.false_ne_true
theorem so_no' {Γ : Gam} {sc : Scope} {e : E} (h : e.isNo = true) : SO Γ sc e none := by
  cases e <;> first | exact so_no | cases h
theorem fineI_of {M : Nms} {N : List Str} {it : I} {sc : Scope} {pe : Expr} (h : chkI M N it sc pe = true) : fine pe = true := by
  cases it with
  | seq e => exact fine_of h
  | rng1 a => cases pe <;> first | rfl | exact absurd h Bool.false_ne_true
  | rng2 a b => cases pe <;> first | rfl | exact absurd h Bool.false_ne_true
  | enum a => cases pe <;> first | rfl | exact absurd h Bool.false_ne_true
  | rev a => cases pe <;> first | rfl | exact absurd h Bool.false_ne_true
  | zip a b => cases pe <;> first | rfl | exact absurd h Bool.false_ne_true
mutual
theorem sndE : ∀ (e : E) (Γ : Gam) (G : GOk Γ) (sc : Scope) (pe : Expr), chkE Γ.M Γ.N e sc pe = true → SE Γ sc e pe
  | .var i, Γ, G, sc, pe, h => by
    cases pe with
    | Name x p =>
      have h' : (decide (Γ.N[i]? = some x) && visB sc x && !(x == ("__debug__" : Str)) && !(x == ("__classdict__" : Str))) = true := h
      simp only [Bool.and_eq_true, decide_eq_true_eq, Bool.not_eq_true'] at h'
      exact se_var h'.1.1.1 h'.1.1.2 h'.1.2 h'.2
    | _ => exact absurd h Bool.false_ne_true
  | .int i, Γ, G, sc, pe, h => by
    cases pe with
    | Constant v k p =>
      cases v with
      | int j =>
        have e : i = j := of_decide_eq_true h
        subst e
        exact se_int
      | _ => exact absurd h Bool.false_ne_true
    | _ => exact absurd h Bool.false_ne_true
  | .str x, Γ, G, sc, pe, h => by
    cases pe with
    | Constant v k p =>
      cases v with
      | str y =>
        have h' : (decide (x = y) && decide (x.length ≤ Lm)) = true := h
        simp only [Bool.and_eq_true, decide_eq_true_eq] at h'
        obtain ⟨e, hl⟩ := h'
        subst e
        exact se_str hl
      | _ => exact absurd h Bool.false_ne_true
    | _ => exact absurd h Bool.false_ne_true
  | .bl b, Γ, G, sc, pe, h => by
    cases pe with
    | Constant v k p =>
      cases v with
      | bool c =>
        have e : b = c := by
          have h' : (b == c) = true := h
          exact eq_of_beq h'
        subst e
        exact se_bl
      | _ => exact absurd h Bool.false_ne_true
    | _ => exact absurd h Bool.false_ne_true
  | .non, Γ, G, sc, pe, h => by
    cases pe with
    | Constant v k p =>
      cases v with
      | none => exact se_non
      | _ => exact absurd h Bool.false_ne_true
    | _ => exact absurd h Bool.false_ne_true
  | .glob k, Γ, G, sc, pe, h => by
    cases pe with
    | Name x p =>
      have h' : (decide (Γ.M.Gn[k]? = some x) && gloB sc x) = true := h
      simp only [Bool.and_eq_true, decide_eq_true_eq] at h'
      exact se_glob G h'.1 h'.2
    | _ => exact absurd h Bool.false_ne_true
  | .bin o a b, Γ, G, sc, pe, h => by
    cases pe with
    | BinOp pa op pb p =>
      have h' : (decide (op = o.py) && chkE Γ.M Γ.N a sc pa && chkE Γ.M Γ.N b sc pb) = true := h
      simp only [Bool.and_eq_true, decide_eq_true_eq] at h'
      obtain ⟨⟨rfl, h1⟩, h2⟩ := h'
      exact se_bin o (sndE a Γ G sc pa h1) (sndE b Γ G sc pb h2)
    | _ => exact absurd h Bool.false_ne_true
  | .neg a, Γ, G, sc, pe, h => by
    cases pe with
    | UnaryOp op pa p =>
      cases op with
      | USub => exact se_neg (sndE a Γ G sc pa h)
      | _ => exact absurd h Bool.false_ne_true
    | _ => exact absurd h Bool.false_ne_true
  | .cmp o a b, Γ, G, sc, pe, h => by
    cases pe with
    | Compare pa ops pbs p =>
      match ops, pbs, h with
      | [op], [pb], h =>
        have h' : (decide (op = o.py) && !behindInMarks op pb && chkE Γ.M Γ.N a sc pa && chkE Γ.M Γ.N b sc pb) = true := h
        simp only [Bool.and_eq_true, decide_eq_true_eq, Bool.not_eq_true'] at h'
        obtain ⟨⟨⟨rfl, h0⟩, h1⟩, h2⟩ := h'
        exact se_cmp o h0 (sndE a Γ G sc pa h1) (sndE b Γ G sc pb h2)
      | [], _, h => exact absurd h Bool.false_ne_true
      | [_], [], h => exact absurd h Bool.false_ne_true
      | [_], _ :: _ :: _, h => exact absurd h Bool.false_ne_true
      | _ :: _ :: _, _, h => exact absurd h Bool.false_ne_true
    | _ => exact absurd h Bool.false_ne_true
  | .chain o q a b c, Γ, G, sc, pe, h => by
    cases pe with
    | Compare pa ops pbs p =>
      match ops, pbs, h with
      | [op, op'], [pb, pc], h =>
        have h' : (decide (op = o.py) && decide (op' = q.py) && !lastMarks [op, op'] [pb, pc] && chkE Γ.M Γ.N a sc pa && chkE Γ.M Γ.N b sc pb && chkE Γ.M Γ.N c sc pc) = true := h
        simp only [Bool.and_eq_true, decide_eq_true_eq, Bool.not_eq_true'] at h'
        obtain ⟨⟨⟨⟨⟨rfl, rfl⟩, h0⟩, h1⟩, h2⟩, h3⟩ := h'
        exact se_chain o q h0 (sndE a Γ G sc pa h1) (sndE b Γ G sc pb h2) (sndE c Γ G sc pc h3)
      | [], _, h => exact absurd h Bool.false_ne_true
      | [_], _, h => exact absurd h Bool.false_ne_true
      | [_, _], [], h => exact absurd h Bool.false_ne_true
      | [_, _], [_], h => exact absurd h Bool.false_ne_true
      | [_, _], _ :: _ :: _ :: _, h => exact absurd h Bool.false_ne_true
      | _ :: _ :: _ :: _, _, h => exact absurd h Bool.false_ne_true
    | _ => exact absurd h Bool.false_ne_true
  | .and a b, Γ, G, sc, pe, h => by
    cases pe with
    | BoolOp op vs p =>
      cases op with
      | Or => exact absurd h Bool.false_ne_true
      | And =>
        match vs, h with
        | [pa, pb], h =>
          have h' : (chkE Γ.M Γ.N a sc pa && chkE Γ.M Γ.N b sc pb) = true := h
          simp only [Bool.and_eq_true] at h'
          exact se_and1 [pb] (by simp) (sndE a Γ G sc pa h'.1) (se_one (sndE b Γ G sc pb h'.2))
        | pa :: pb :: pc :: r, h =>
          have h' : (chkE Γ.M Γ.N a sc pa && chkE Γ.M Γ.N b sc (.BoolOp .And (pb :: pc :: r) p)) = true := h
          simp only [Bool.and_eq_true] at h'
          exact se_and1 (pb :: pc :: r) (by simp) (sndE a Γ G sc pa h'.1) (sndE b Γ G sc _ h'.2)
        | [], h => exact absurd h Bool.false_ne_true
        | [_], h => exact absurd h Bool.false_ne_true
    | _ => exact absurd h Bool.false_ne_true
  | .or a b, Γ, G, sc, pe, h => by
    cases pe with
    | BoolOp op vs p =>
      cases op with
      | And => exact absurd h Bool.false_ne_true
      | Or =>
        match vs, h with
        | [pa, pb], h =>
          have h' : (chkE Γ.M Γ.N a sc pa && chkE Γ.M Γ.N b sc pb) = true := h
          simp only [Bool.and_eq_true] at h'
          exact se_or1 [pb] (by simp) (sndE a Γ G sc pa h'.1) (se_one (sndE b Γ G sc pb h'.2))
        | pa :: pb :: pc :: r, h =>
          have h' : (chkE Γ.M Γ.N a sc pa && chkE Γ.M Γ.N b sc (.BoolOp .Or (pb :: pc :: r) p)) = true := h
          simp only [Bool.and_eq_true] at h'
          exact se_or1 (pb :: pc :: r) (by simp) (sndE a Γ G sc pa h'.1) (sndE b Γ G sc _ h'.2)
        | [], h => exact absurd h Bool.false_ne_true
        | [_], h => exact absurd h Bool.false_ne_true
    | _ => exact absurd h Bool.false_ne_true
  | .not a, Γ, G, sc, pe, h => by
    cases pe with
    | UnaryOp op pa p =>
      cases op with
      | Not => exact se_not (sndE a Γ G sc pa h)
      | _ => exact absurd h Bool.false_ne_true
    | _ => exact absurd h Bool.false_ne_true
  | .ite c a b, Γ, G, sc, pe, h => by
    cases pe with
    | IfExp pc pa pb p =>
      have h' : (chkT Γ.M Γ.N c sc pc && chkE Γ.M Γ.N a sc pa && chkE Γ.M Γ.N b sc pb) = true := h
      simp only [Bool.and_eq_true] at h'
      exact se_ite (sndT c Γ G sc pc h'.1.1).1 (sndE a Γ G sc pa h'.1.2) (sndE b Γ G sc pb h'.2)
    | _ => exact absurd h Bool.false_ne_true
  | .ix a i, Γ, G, sc, pe, h => by
    cases pe with
    | Subscript pa pi p =>
      have h' : (chkE Γ.M Γ.N a sc pa && chkE Γ.M Γ.N i sc pi) = true := h
      simp only [Bool.and_eq_true] at h'
      exact se_ix (fine_of h'.2) (sndE a Γ G sc pa h'.1) (sndE i Γ G sc pi h'.2)
    | _ => exact absurd h Bool.false_ne_true
  | .sl a lo hi, Γ, G, sc, pe, h => by
    cases pe with
    | Subscript pa pi p =>
      cases pi with
      | Slice pl ph ps p2 =>
        cases ps with
        | some z => exact absurd h Bool.false_ne_true
        | none =>
          have h' : (chkE Γ.M Γ.N a sc pa && oplB lo.isNo (fun p => chkE Γ.M Γ.N lo sc p) pl && oplB hi.isNo (fun p => chkE Γ.M Γ.N hi sc p) ph) = true := h
          rw [Bool.and_eq_true, Bool.and_eq_true] at h'
          obtain ⟨⟨k1, k2⟩, k3⟩ := h'
          have s1 : SO Γ sc lo pl := by
            cases pl with
            | none => exact so_no' k2
            | some z =>
              have k2' : (!lo.isNo && chkE Γ.M Γ.N lo sc z) = true := k2
              rw [Bool.and_eq_true, Bool.not_eq_true'] at k2'
              exact so_some k2'.1 (sndE lo Γ G sc z k2'.2)
          have s2 : SO Γ sc hi ph := by
            cases ph with
            | none => exact so_no' k3
            | some z =>
              have k2' : (!hi.isNo && chkE Γ.M Γ.N hi sc z) = true := k3
              rw [Bool.and_eq_true, Bool.not_eq_true'] at k2'
              exact so_some k2'.1 (sndE hi Γ G sc z k2'.2)
          exact se_sl (sndE a Γ G sc pa k1) s1 s2
      | _ => exact absurd h Bool.false_ne_true
    | _ => exact absurd h Bool.false_ne_true
  | .no, Γ, G, sc, pe, h => by cases pe <;> exact absurd h Bool.false_ne_true
  | .tup es, Γ, G, sc, pe, h => by
    cases pe with
    | Tuple pes k p => exact se_tup (sndEs es Γ G sc pes h)
    | _ => exact absurd h Bool.false_ne_true
  | .lst es, Γ, G, sc, pe, h => by
    cases pe with
    | List pes p => exact se_lst (sndEs es Γ G sc pes h)
    | _ => exact absurd h Bool.false_ne_true
  | .call f es, Γ, G, sc, pe, h => by
    cases pe with
    | Call fn pes kws p =>
      cases fn with
      | Name x p' =>
        cases kws with
        | nil =>
          have h' : (Γ.M.calm && decide (Γ.M.F[f]? = some x) && gloB sc x && chkEs Γ.M Γ.N es sc pes) = true := h
          simp only [Bool.and_eq_true, decide_eq_true_eq] at h'
          obtain ⟨⟨⟨hcm, h1⟩, h2⟩, h3⟩ := h'
          match es, pes, h3 with
          | .nil, [], _ => exact se_call0 G hcm h1 h2
          | .cons e r, pe :: pes, h3 => exact se_call G hcm h1 h2 (fines_of h3) (sndEs (.cons e r) Γ G sc (pe :: pes) h3)
          | .nil, _ :: _, h3 => exact absurd h3 Bool.false_ne_true
          | .cons _ _, [], h3 => exact absurd h3 Bool.false_ne_true
        | cons _ _ => exact absurd h Bool.false_ne_true
      | _ => cases kws <;> exact absurd h Bool.false_ne_true
    | _ => exact absurd h Bool.false_ne_true
  | .bf b es, Γ, G, sc, pe, h => by
    cases pe with
    | Call fn pes kws p =>
      cases fn with
      | Name x p' =>
        cases kws with
        | nil =>
          have h' : (Γ.M.calm && decide (x = b.nm) && decide (x ∈ Γ.M.B) && gloB sc x && !pes.isEmpty && chkEs Γ.M Γ.N es sc pes) = true := h
          simp only [Bool.and_eq_true, decide_eq_true_eq] at h'
          obtain ⟨⟨⟨⟨⟨hcm, h0⟩, h1⟩, h2⟩, h4⟩, h3⟩ := h'
          cases pes with
          | nil => exact absurd h4 (by simp)
          | cons pe pes => exact se_bf G hcm b h0 h1 h2 (fines_of h3) (sndEs es Γ G sc (pe :: pes) h3)
        | cons _ _ => exact absurd h Bool.false_ne_true
      | _ => cases kws <;> exact absurd h Bool.false_ne_true
    | _ => exact absurd h Bool.false_ne_true
  | .isi e ts, Γ, G, sc, pe, h => by
    cases pe with
    | Call fn pes kws p =>
      cases fn with
      | Name x p' =>
        match pes, kws, h with
        | [pa, pt], [], h =>
          have h' : (decide (x = "isinstance") && decide (x ∈ Γ.M.B) && gloB sc x && chkE Γ.M Γ.N e sc pa && tysB Γ.M sc ts pt) = true := h
          simp only [Bool.and_eq_true, decide_eq_true_eq] at h'
          obtain ⟨⟨⟨⟨h0, h1⟩, h2⟩, h3⟩, h4⟩ := h'
          exact se_isi G h0 h1 h2 (fine_of h3) h4 (sndE e Γ G sc pa h3)
        | [], _, h => exact absurd h Bool.false_ne_true
        | [_], _, h => exact absurd h Bool.false_ne_true
        | [_, _], _ :: _, h => exact absurd h Bool.false_ne_true
        | _ :: _ :: _ :: _, _, h => exact absurd h Bool.false_ne_true
      | _ => exact absurd h Bool.false_ne_true
    | _ => exact absurd h Bool.false_ne_true
  | .dct ks es, Γ, G, sc, pe, h => by
    cases pe with
    | Dict keys pes p =>
      have h' : (keysB ks keys && decide (ks.length = pes.length) && !keys.isEmpty && decide (keys.length ≤ 15) && keys.all (·.isSome) && decide (keys.length = pes.length) && chkEs Γ.M Γ.N es sc pes) = true := h
      simp only [Bool.and_eq_true, decide_eq_true_eq] at h'
      obtain ⟨⟨⟨⟨⟨⟨h1, h2⟩, h3⟩, h4⟩, h5⟩, h6⟩, h7⟩ := h'
      exact se_dct h1 h2 (by rintro rfl; exact Bool.false_ne_true h3) h4 h5 h6 (sndEL es Γ G sc pes h7)
    | _ => exact absurd h Bool.false_ne_true
  | .dc0, Γ, G, sc, pe, h => by
    cases pe with
    | Dict keys pes p =>
      match keys, pes, h with
      | [], [], _ => exact se_dc0
      | [], _ :: _, h => exact absurd h Bool.false_ne_true
      | _ :: _, _, h => exact absurd h Bool.false_ne_true
    | _ => exact absurd h Bool.false_ne_true
  | .dcT, Γ, G, sc, pe, h => by
    cases pe with
    | Dict keys pes p =>
      match keys, pes, h with
      | [], [], _ => exact se_dcT
      | [], _ :: _, h => exact absurd h Bool.false_ne_true
      | _ :: _, _, h => exact absurd h Bool.false_ne_true
    | _ => exact absurd h Bool.false_ne_true
  | .kget k e, Γ, G, sc, pe, h => by
    cases pe with
    | Call fn pes kws p =>
      cases fn with
      | Attribute po name apos =>
        cases po with
        | Name x p' =>
          match pes, kws, h with
          | [pa], [], h =>
            have h' : (decide (name = "get") && decide (Γ.M.Kn[k]? = some x) && gloB sc x && (apos.endLine == p.line) && chkE Γ.M Γ.N e sc pa) = true := h
            simp only [Bool.and_eq_true, decide_eq_true_eq] at h'
            obtain ⟨⟨⟨⟨rfl, h1⟩, h2⟩, h3⟩, h4⟩ := h'
            exact se_kget G h1 h2 h3 (fine_of h4) (sndE e Γ G sc pa h4)
          | [], _, h => exact absurd h Bool.false_ne_true
          | [_], _ :: _, h => exact absurd h Bool.false_ne_true
          | _ :: _ :: _, _, h => exact absurd h Bool.false_ne_true
        | _ => exact absurd h Bool.false_ne_true
      | _ => exact absurd h Bool.false_ne_true
    | _ => exact absurd h Bool.false_ne_true
  | .kix k e, Γ, G, sc, pe, h => by
    cases pe with
    | Subscript po pi p =>
      cases po with
      | Name x p' =>
        have h' : (decide (Γ.M.Kn[k]? = some x) && gloB sc x && chkE Γ.M Γ.N e sc pi) = true := h
        simp only [Bool.and_eq_true, decide_eq_true_eq] at h'
        exact se_kix G h'.1.1 h'.1.2 (fine_of h'.2) (sndE e Γ G sc pi h'.2)
      | _ => exact absurd h Bool.false_ne_true
    | _ => exact absurd h Bool.false_ne_true
  | .kin neg k e, Γ, G, sc, pe, h => by
    cases pe with
    | Compare pa ops pbs p =>
      match ops, pbs, h with
      | [op], [b], h =>
        cases b with
        | Name x p' =>
          have h' : (decide (op = if neg = true then .NotIn else .In) && decide (Γ.M.Kn[k]? = some x) && gloB sc x && chkE Γ.M Γ.N e sc pa) = true := h
          simp only [Bool.and_eq_true, decide_eq_true_eq] at h'
          exact se_kin G h'.1.1.1 h'.1.1.2 h'.1.2 (sndE e Γ G sc pa h'.2)
        | _ => exact absurd h Bool.false_ne_true
      | [op], [], h => exact absurd h Bool.false_ne_true
      | [op], b :: _ :: _, h => exact absurd h (by cases b <;> exact Bool.false_ne_true)
      | [], _, h => exact absurd h Bool.false_ne_true
      | _ :: _ :: _, _, h => exact absurd h Bool.false_ne_true
    | _ => exact absurd h Bool.false_ne_true
  | .fld e f, Γ, G, sc, pe, h => by
    cases pe with
    | Attribute pa name p =>
      have h' : (decide (name = decS f) && plainObj pa && chkE Γ.M Γ.N e sc pa) = true := h
      simp only [Bool.and_eq_true, decide_eq_true_eq] at h'
      obtain ⟨⟨rfl, h1⟩, h2⟩ := h'
      exact se_fld G h1 (sndE e Γ G sc pa h2)
    | _ => exact absurd h Bool.false_ne_true
  | .mth o m es, Γ, G, sc, pe, h => by
    cases pe with
    | Call fn pes kws p =>
      cases fn with
      | Attribute po name apos =>
        cases kws with
        | nil =>
          have h' : (Γ.M.calm && decide (name = decS m) && plainObj po && (apos.endLine == p.line) && decide (pes.length < 29) && chkE Γ.M Γ.N o sc po && chkEs Γ.M Γ.N es sc pes) = true := h
          simp only [Bool.and_eq_true, decide_eq_true_eq] at h'
          obtain ⟨⟨⟨⟨⟨⟨hcm, rfl⟩, h2⟩, h3⟩, h4⟩, h5⟩, h6⟩ := h'
          match es, pes, h6, h4 with
          | .nil, [], _, _ => exact se_mth0 G hcm h2 h3 (sndE o Γ G sc po h5)
          | .cons e r, pe :: pes, h6, h4 => exact se_mth G hcm h2 h3 h4 (fines_of h6) (sndE o Γ G sc po h5) (sndEs (.cons e r) Γ G sc (pe :: pes) h6)
          | .nil, _ :: _, h6, _ => exact absurd h6 Bool.false_ne_true
          | .cons _ _, [], h6, _ => exact absurd h6 Bool.false_ne_true
        | cons _ _ => exact absurd h Bool.false_ne_true
      | _ => cases kws <;> exact absurd h Bool.false_ne_true
    | _ => exact absurd h Bool.false_ne_true
  | .new c es, Γ, G, sc, pe, h => by
    cases pe with
    | Call fn pes kws p =>
      cases fn with
      | Name x p' =>
        cases kws with
        | nil =>
          have h' : (Γ.M.calm && decide (x = decS c) && gloB sc x && chkEs Γ.M Γ.N es sc pes) = true := h
          simp only [Bool.and_eq_true, decide_eq_true_eq] at h'
          obtain ⟨⟨⟨hcm, rfl⟩, h2⟩, h3⟩ := h'
          match es, pes, h3 with
          | .nil, [], _ => exact se_new0 G hcm h2
          | .cons e r, pe :: pes, h3 => exact se_new G hcm h2 (fines_of h3) (sndEs (.cons e r) Γ G sc (pe :: pes) h3)
          | .nil, _ :: _, h3 => exact absurd h3 Bool.false_ne_true
          | .cons _ _, [], h3 => exact absurd h3 Bool.false_ne_true
        | cons _ _ => exact absurd h Bool.false_ne_true
      | _ => cases kws <;> exact absurd h Bool.false_ne_true
    | _ => exact absurd h Bool.false_ne_true
  | .exf f, Γ, G, sc, pe, h => by
    cases pe with
    | Attribute pa name p =>
      cases pa with
      | Name x p' =>
        have h' : (decide (name = f) && exnB Γ.M.exn Γ.N x && nameB sc x) = true := h
        simp only [Bool.and_eq_true, decide_eq_true_eq] at h'
        obtain ⟨⟨rfl, h1⟩, h2⟩ := h'
        exact se_exf G h1 h2
      | _ => exact absurd h Bool.false_ne_true
    | _ => exact absurd h Bool.false_ne_true
  | .isx ts, Γ, G, sc, pe, h => by
    cases pe with
    | Call fn pes kws p =>
      cases fn with
      | Name y p' =>
        match pes, kws, h with
        | [pa, pt], [], h =>
          cases pa with
          | Name x px =>
            have h' : (decide (y = "isinstance") && decide (y ∈ Γ.M.B) && gloB sc y && exnB Γ.M.exn Γ.N x && nameB sc x && xnsB Γ.M.Xn sc ts pt) = true := h
            simp only [Bool.and_eq_true, decide_eq_true_eq] at h'
            obtain ⟨⟨⟨⟨⟨h0, h1⟩, h2⟩, h3⟩, h4⟩, h5⟩ := h'
            exact se_isx G h0 h1 h2 h3 h4 h5
          | _ => exact absurd h Bool.false_ne_true
        | [], kws, h => exact absurd h (by cases kws <;> exact Bool.false_ne_true)
        | [a], [], h => exact absurd h (by cases a <;> exact Bool.false_ne_true)
        | [a], _ :: _, h => exact absurd h (by cases a <;> exact Bool.false_ne_true)
        | [a, _], _ :: _, h => exact absurd h (by cases a <;> exact Bool.false_ne_true)
        | a :: _ :: _ :: _, _, h => exact absurd h (by cases a <;> exact Bool.false_ne_true)
      | _ => exact absurd h Bool.false_ne_true
    | _ => exact absurd h Bool.false_ne_true
  | .mt m o es, Γ, G, sc, pe, h => by
    cases pe with
    | Call fn pes kws p =>
      cases fn with
      | Attribute po name apos =>
        cases kws with
        | nil =>
          have h' : (decide (name = m.nm) && plainObj po && (apos.endLine == p.line) && decide (pes.length < 29) && chkE Γ.M Γ.N o sc po && chkEs Γ.M Γ.N es sc pes) = true := h
          simp only [Bool.and_eq_true, decide_eq_true_eq] at h'
          obtain ⟨⟨⟨⟨⟨rfl, h2⟩, h3⟩, h4⟩, h5⟩, h6⟩ := h'
          refine se_mt m h2 h3 h4 (fines_of h6) (fun e => ?_) (sndE o Γ G sc po h5) (sndEs es Γ G sc pes h6)
          subst e
          cases es with
          | nil => rfl
          | cons _ _ => exact absurd h6 Bool.false_ne_true
        | cons _ _ => exact absurd h Bool.false_ne_true
      | _ => cases kws <;> exact absurd h Bool.false_ne_true
    | _ => exact absurd h Bool.false_ne_true
  | .comp elt g it c, Γ, G, sc, pe, h => by
    cases pe with
    | ListComp pelt gens scope p =>
      match gens, h with
      | [⟨tg, pit, ifs, ia⟩], h =>
        have hia : ia = 0 := comp_zero h
        subst hia
        have h' : (Γ.M.calm && it.tgB tg && chkI Γ.M Γ.N it sc pit && blkC Γ.N sc scope (ownOf g tg) && decide ((ownOf g tg).map (·.2) = g.slots) && chkTg Γ.N (locB scope) g tg && chkE Γ.M Γ.N elt (relS scope sc) pelt && ifsB c.isYes (fun p => chkT Γ.M Γ.N c (relS scope sc) p) ifs) = true := h
        simp only [Bool.and_eq_true, decide_eq_true_eq] at h'
        obtain ⟨⟨⟨⟨⟨⟨⟨hcm, htB⟩, h1⟩, h2⟩, h3⟩, h4⟩, h5⟩, h6⟩ := h'
        have hc : STs Γ.noW (relS scope sc) c ifs := by
          match ifs, h6 with
          | [], h6 => cases c <;> first | exact sts_nil | exact absurd h6 Bool.false_ne_true
          | [pc], h6 => exact sts_one (sndT c Γ.noW G.noW _ pc h6).1
          | _ :: _ :: _, h6 => exact absurd h6 Bool.false_ne_true
        exact se_comp G hcm (fineI_of h1) h2 (lc_of G hcm htB (sndI it Γ G sc pit h1) h3 h4 (sndE elt Γ.noW G.noW _ pelt h5) hc)
      | [], h => exact absurd h Bool.false_ne_true
      | ⟨_, _, _, ia⟩ :: _ :: _, h =>
        cases ia with
        | ofNat n => cases n <;> exact absurd h Bool.false_ne_true
        | negSucc n => exact absurd h Bool.false_ne_true
    | _ => exact absurd h Bool.false_ne_true
theorem sndEL : ∀ (es : Es) (Γ : Gam) (G : GOk Γ) (sc : Scope) (pes : List Expr), chkEs Γ.M Γ.N es sc pes = true → SEL Γ sc es pes
  | .nil, Γ, G, sc, [], h => trivial
  | .nil, Γ, G, sc, _ :: _, h => absurd h Bool.false_ne_true
  | .cons e es, Γ, G, sc, [], h => absurd h Bool.false_ne_true
  | .cons e es, Γ, G, sc, pe :: pes, h => by
    have h' : (chkE Γ.M Γ.N e sc pe && chkEs Γ.M Γ.N es sc pes) = true := h
    rw [Bool.and_eq_true] at h'
    exact ⟨sndE e Γ G sc pe h'.1, sndEL es Γ G sc pes h'.2⟩
theorem sndEs : ∀ (es : Es) (Γ : Gam) (G : GOk Γ) (sc : Scope) (pes : List Expr), chkEs Γ.M Γ.N es sc pes = true → SA Γ sc es pes
  | .nil, Γ, G, sc, [], h => sa_nil
  | .nil, Γ, G, sc, _ :: _, h => absurd h Bool.false_ne_true
  | .cons e es, Γ, G, sc, [], h => absurd h Bool.false_ne_true
  | .cons e es, Γ, G, sc, pe :: pes, h => by
    have h' : (chkE Γ.M Γ.N e sc pe && chkEs Γ.M Γ.N es sc pes) = true := h
    simp only [Bool.and_eq_true] at h'
    exact sa_cons (fine_of h'.1) (sndE e Γ G sc pe h'.1) (sndEs es Γ G sc pes h'.2)
theorem sndT : ∀ (c : T) (Γ : Gam) (G : GOk Γ) (sc : Scope) (pe : Expr), chkT Γ.M Γ.N c sc pe = true → ST Γ sc c pe ∧ (c.isBool = true → SW Γ sc c pe)
  | .yes, Γ, G, sc, pe, h => by cases pe <;> exact absurd h Bool.false_ne_true
  | .val e, Γ, G, sc, pe, h => by
    refine ⟨?_, fun q => absurd q Bool.false_ne_true⟩
    have h' : (e.asVal && chkE Γ.M Γ.N e sc pe) = true := h
    simp only [Bool.and_eq_true] at h'
    obtain ⟨h1, h2⟩ := h'
    have se := sndE e Γ G sc pe h2
    cases pe with
    | Compare pa ops pbs p =>
      cases e with
      | cmp o a b =>
        match ops, pbs, h2 with
        | [op], [pb], h2 =>
          have h3 : (decide (op = o.py) && !behindInMarks op pb && chkE Γ.M Γ.N a sc pa && chkE Γ.M Γ.N b sc pb) = true := h2
          simp only [Bool.and_eq_true, decide_eq_true_eq, Bool.not_eq_true'] at h3
          obtain ⟨⟨⟨rfl, h4⟩, h5⟩, h6⟩ := h3
          exact st_cmp o h4 (sndE a Γ G sc pa h5) (sndE b Γ G sc pb h6)
        | [], _, h => exact absurd h Bool.false_ne_true
        | [_], [], h => exact absurd h Bool.false_ne_true
        | [_], _ :: _ :: _, h => exact absurd h Bool.false_ne_true
        | _ :: _ :: _, _, h => exact absurd h Bool.false_ne_true
      | chain o q a b c =>
        match ops, pbs, h2 with
        | [op, op'], [pb, pc], h2 =>
          have h3 : (decide (op = o.py) && decide (op' = q.py) && !lastMarks [op, op'] [pb, pc] && chkE Γ.M Γ.N a sc pa && chkE Γ.M Γ.N b sc pb && chkE Γ.M Γ.N c sc pc) = true := h2
          simp only [Bool.and_eq_true, decide_eq_true_eq, Bool.not_eq_true'] at h3
          obtain ⟨⟨⟨⟨⟨rfl, rfl⟩, k0⟩, k1⟩, k2⟩, k3⟩ := h3
          exact st_chain o q k0 (sndE a Γ G sc pa k1) (sndE b Γ G sc pb k2) (sndE c Γ G sc pc k3)
        | [], _, h => exact absurd h Bool.false_ne_true
        | [_], _, h => exact absurd h Bool.false_ne_true
        | [_, _], [], h => exact absurd h Bool.false_ne_true
        | [_, _], [_], h => exact absurd h Bool.false_ne_true
        | [_, _], _ :: _ :: _ :: _, h => exact absurd h Bool.false_ne_true
        | _ :: _ :: _ :: _, _, h => exact absurd h Bool.false_ne_true
      | kin neg k e0 =>
        match ops, pbs, h2 with
        | [op], [b], h2 =>
          cases b with
          | Name x p' =>
            have h' : (decide (op = if neg = true then .NotIn else .In) && decide (Γ.M.Kn[k]? = some x) && gloB sc x && chkE Γ.M Γ.N e0 sc pa) = true := h2
            simp only [Bool.and_eq_true, decide_eq_true_eq] at h'
            exact st_kin G h'.1.1.1 h'.1.1.2 h'.1.2 (sndE e0 Γ G sc pa h'.2)
          | _ => exact absurd h2 Bool.false_ne_true
        | [op], [], h => exact absurd h Bool.false_ne_true
        | [op], b :: _ :: _, h => exact absurd h (by cases b <;> exact Bool.false_ne_true)
        | [], _, h => exact absurd h Bool.false_ne_true
        | _ :: _ :: _, _, h => exact absurd h Bool.false_ne_true
      | _ => exact absurd h2 Bool.false_ne_true
    | BoolOp op vs p =>
      cases e with
      | and _ _ => exact absurd h1 Bool.false_ne_true
      | or _ _ => exact absurd h1 Bool.false_ne_true
      | _ => cases op <;> exact absurd h2 Bool.false_ne_true
    | IfExp _ _ _ p =>
      cases e with
      | ite _ _ _ => exact absurd h1 Bool.false_ne_true
      | _ => exact absurd h2 Bool.false_ne_true
    | UnaryOp op pa p =>
      cases op with
      | Not =>
        cases e with
        | not _ => exact absurd h1 Bool.false_ne_true
          | _ => exact absurd h2 Bool.false_ne_true
      | _ => exact st_val (fun _ _ => rfl) se
    | _ => exact st_val (fun _ _ => rfl) se
  | .and a b, Γ, G, sc, pe, h => by
    have key : SW Γ sc (.and a b) pe := by
      cases pe with
      | BoolOp op vs p =>
        cases op with
        | Or => exact absurd h Bool.false_ne_true
        | And =>
          match vs, h with
          | [pa, pb], h =>
            have h' : (chkT Γ.M Γ.N a sc pa && chkT Γ.M Γ.N b sc pb) = true := h
            simp only [Bool.and_eq_true] at h'
            exact sw_and (sndT a Γ G sc pa h'.1).1 (sw_and1 (sndT b Γ G sc pb h'.2).1)
          | pa :: pb :: pc :: r, h =>
            have h' : (chkT Γ.M Γ.N a sc pa && chkT Γ.M Γ.N b sc (.BoolOp .And (pb :: pc :: r) p)) = true := h
            simp only [Bool.and_eq_true] at h'
            exact sw_and (sndT a Γ G sc pa h'.1).1 ((sndT b Γ G sc _ h'.2).2 (bool_of h'.2))
          | [], h => exact absurd h Bool.false_ne_true
          | [_], h => exact absurd h Bool.false_ne_true
      | _ => exact absurd h Bool.false_ne_true
    exact ⟨key.st, fun _ => key⟩
  | .or a b, Γ, G, sc, pe, h => by
    have key : SW Γ sc (.or a b) pe := by
      cases pe with
      | BoolOp op vs p =>
        cases op with
        | And => exact absurd h Bool.false_ne_true
        | Or =>
          match vs, h with
          | [pa, pb], h =>
            have h' : (chkT Γ.M Γ.N a sc pa && chkT Γ.M Γ.N b sc pb) = true := h
            simp only [Bool.and_eq_true] at h'
            exact sw_or (sndT a Γ G sc pa h'.1).1 (sw_or1 (sndT b Γ G sc pb h'.2).1)
          | pa :: pb :: pc :: r, h =>
            have h' : (chkT Γ.M Γ.N a sc pa && chkT Γ.M Γ.N b sc (.BoolOp .Or (pb :: pc :: r) p)) = true := h
            simp only [Bool.and_eq_true] at h'
            exact sw_or (sndT a Γ G sc pa h'.1).1 ((sndT b Γ G sc _ h'.2).2 (bool_of h'.2))
          | [], h => exact absurd h Bool.false_ne_true
          | [_], h => exact absurd h Bool.false_ne_true
      | _ => exact absurd h Bool.false_ne_true
    exact ⟨key.st, fun _ => key⟩
  | .not a, Γ, G, sc, pe, h => by
    cases pe with
    | UnaryOp op pa p =>
      cases op with
      | Not => exact ⟨st_not (sndT a Γ G sc pa h).1, fun q => absurd q Bool.false_ne_true⟩
      | _ => exact absurd h Bool.false_ne_true
    | _ => exact absurd h Bool.false_ne_true
  | .ite c a b, Γ, G, sc, pe, h => by cases pe <;> exact absurd h Bool.false_ne_true
theorem sndI : ∀ (it : I) (Γ : Gam) (G : GOk Γ) (sc : Scope) (pe : Expr), chkI Γ.M Γ.N it sc pe = true → SI Γ sc it pe
  | .seq e, Γ, G, sc, pe, h => si_seq (sndE e Γ G sc pe h)
  | .rng1 a, Γ, G, sc, pe, h => by
    cases pe with
    | Call fn pes kws p =>
      cases fn with
      | Name x p' =>
        match pes, kws, h with
        | [pa], [], h =>
          have h' : (decide (x = "range") && decide (x ∈ Γ.M.B) && gloB sc x && chkE Γ.M Γ.N a sc pa) = true := h
          simp only [Bool.and_eq_true, decide_eq_true_eq] at h'
          exact si_rng1 G h'.1.1.1 h'.1.1.2 h'.1.2 (fine_of h'.2) (sndE a Γ G sc pa h'.2)
        | [], _, h => exact absurd h Bool.false_ne_true
        | [_], _ :: _, h => exact absurd h Bool.false_ne_true
        | _ :: _ :: _, _, h => exact absurd h Bool.false_ne_true
      | _ => exact absurd h Bool.false_ne_true
    | _ => exact absurd h Bool.false_ne_true
  | .rng2 a b, Γ, G, sc, pe, h => by
    cases pe with
    | Call fn pes kws p =>
      cases fn with
      | Name x p' =>
        match pes, kws, h with
        | [pa, pb], [], h =>
          have h' : (decide (x = "range") && decide (x ∈ Γ.M.B) && gloB sc x && chkE Γ.M Γ.N a sc pa && chkE Γ.M Γ.N b sc pb) = true := h
          simp only [Bool.and_eq_true, decide_eq_true_eq] at h'
          exact si_rng2 G h'.1.1.1.1 h'.1.1.1.2 h'.1.1.2 (fine_of h'.1.2) (fine_of h'.2) (sndE a Γ G sc pa h'.1.2) (sndE b Γ G sc pb h'.2)
        | [], _, h => exact absurd h Bool.false_ne_true
        | [_], _, h => exact absurd h Bool.false_ne_true
        | [_, _], _ :: _, h => exact absurd h Bool.false_ne_true
        | _ :: _ :: _ :: _, _, h => exact absurd h Bool.false_ne_true
      | _ => exact absurd h Bool.false_ne_true
    | _ => exact absurd h Bool.false_ne_true
  | .enum a, Γ, G, sc, pe, h => by
    cases pe with
    | Call fn pes kws p =>
      cases fn with
      | Name x p' =>
        match pes, kws, h with
        | [pa], [], h =>
          have h' : (decide (x = "enumerate") && decide (x ∈ Γ.M.B) && gloB sc x && chkE Γ.M Γ.N a sc pa) = true := h
          simp only [Bool.and_eq_true, decide_eq_true_eq] at h'
          exact si_enum G h'.1.1.1 h'.1.1.2 h'.1.2 (fine_of h'.2) (sndE a Γ G sc pa h'.2)
        | [], _, h => exact absurd h Bool.false_ne_true
        | [_], _ :: _, h => exact absurd h Bool.false_ne_true
        | _ :: _ :: _, _, h => exact absurd h Bool.false_ne_true
      | _ => exact absurd h Bool.false_ne_true
    | _ => exact absurd h Bool.false_ne_true
  | .zip a b, Γ, G, sc, pe, h => by
    cases pe with
    | Call fn pes kws p =>
      cases fn with
      | Name x p' =>
        match pes, kws, h with
        | [pa, pb], [], h =>
          have h' : (decide (x = "zip") && decide (x ∈ Γ.M.B) && gloB sc x && chkE Γ.M Γ.N a sc pa && chkE Γ.M Γ.N b sc pb) = true := h
          simp only [Bool.and_eq_true, decide_eq_true_eq] at h'
          exact si_zip G h'.1.1.1.1 h'.1.1.1.2 h'.1.1.2 (fine_of h'.1.2) (fine_of h'.2) (sndE a Γ G sc pa h'.1.2) (sndE b Γ G sc pb h'.2)
        | [], _, h => exact absurd h Bool.false_ne_true
        | [_], _, h => exact absurd h Bool.false_ne_true
        | [_, _], _ :: _, h => exact absurd h Bool.false_ne_true
        | _ :: _ :: _ :: _, _, h => exact absurd h Bool.false_ne_true
      | _ => exact absurd h Bool.false_ne_true
    | _ => exact absurd h Bool.false_ne_true
  | .rev a, Γ, G, sc, pe, h => by
    cases pe with
    | Call fn pes kws p =>
      cases fn with
      | Name x p' =>
        match pes, kws, h with
        | [pa], [], h =>
          have h' : (decide (x = "reversed") && decide (x ∈ Γ.M.B) && gloB sc x && chkE Γ.M Γ.N a sc pa) = true := h
          simp only [Bool.and_eq_true, decide_eq_true_eq] at h'
          exact si_rev G h'.1.1.1 h'.1.1.2 h'.1.2 (fine_of h'.2) (sndE a Γ G sc pa h'.2)
        | [], _, h => exact absurd h Bool.false_ne_true
        | [_], _ :: _, h => exact absurd h Bool.false_ne_true
        | _ :: _ :: _, _, h => exact absurd h Bool.false_ne_true
      | _ => exact absurd h Bool.false_ne_true
    | _ => exact absurd h Bool.false_ne_true
end
end Q3

set_option Elab.async false
set_option linter.all false
set_option maxRecDepth 100000
set_option maxHeartbeats 4000000
/-! Q3k: statements. -/
namespace Q3
open PySem PySem.Spec PyProof.Rows L2

def notComp : Expr → Bool
  | .ListComp _ _ _ _ => false
  | .SetComp _ _ _ _ => false
  | .DictComp _ _ _ _ _ => false
  | _ => true
/-- an assignment whose form is served: 0 none, 1 plain, 2 a comprehension to a local -/
def lcF (sc : Scope) (x : Str) (px pos : Pos) (scope : Scope) : Nat := match sc.names.lookup x with
  | some .local => bif (px.line == pos.line) && !(scope.names.any fun p => p.1 == x && (p.2 == .local || p.2 == .cell)) then 2 else 0
  | some .cell => 1
  | _ => 0
theorem lcF_1 {sc : Scope} {x : Str} {px pos : Pos} {scope : Scope} (h : lcF sc x px pos scope = 1) : sc.names.lookup x = some .cell := by
  unfold lcF at h
  split at h
  · cases q : (px.line == pos.line) && !(scope.names.any fun p => p.1 == x && (p.2 == .local || p.2 == .cell)) <;> rw [q] at h <;> cases h
  · assumption
  · cases h
theorem lcF_2 {sc : Scope} {x : Str} {px pos : Pos} {scope : Scope} (h : lcF sc x px pos scope = 2) : sc.names.lookup x = some .local ∧ (px.line == pos.line) = true ∧ (scope.names.any fun q => q.1 == x && (q.2 == .local || q.2 == .cell)) = false := by
  unfold lcF at h
  split at h
  · rename_i e1
    cases q : (px.line == pos.line) && !(scope.names.any fun p => p.1 == x && (p.2 == .local || p.2 == .cell)) with
    | true =>
      rw [Bool.and_eq_true, Bool.not_eq_true'] at q
      exact ⟨e1, q.1, q.2⟩
    | false => rw [q] at h; cases h
  · cases h
  · cases h
def asgF (sc : Scope) : Expr → Expr → Nat
  | .Name x px, .ListComp _ [⟨_, _, _, 0⟩] scope pos => lcF sc x px pos scope
  | .Name _ _, pe => bif notComp pe then 1 else 0
  | .Tuple _ _ _, .Tuple _ _ _ => 0
  | .Tuple _ _ _, _ => 1
  | _, _ => 0
theorem lcF_12 {sc : Scope} {x : Str} {px pos : Pos} {scope : Scope} (h : lcF sc x px pos scope ≠ 0) : lcF sc x px pos scope = 1 ∨ lcF sc x px pos scope = 2 := by
  unfold lcF at h ⊢
  split <;> rename_i e <;> simp only [e] at h
  · cases q : (px.line == pos.line) && !(scope.names.any fun p => p.1 == x && (p.2 == .local || p.2 == .cell)) with
    | true => exact .inr rfl
    | false => rw [q] at h; exact absurd rfl h
  · exact .inl rfl
  · exact absurd rfl h
theorem asgF_12 {sc : Scope} {a b : Expr} (h : asgF sc a b ≠ 0) : asgF sc a b = 1 ∨ asgF sc a b = 2 := by
  unfold asgF at h ⊢
  split <;> rename_i e <;> simp only at h
  · exact lcF_12 h
  · cases q : notComp b with
    | true => exact .inl rfl
    | false => rw [q] at h; exact absurd rfl h
  · exact absurd rfl h
  · exact .inl rfl
  · exact absurd rfl h
def exnOk (M : Nms) (g : Tg) : Bool := match M.exn with
  | none => true
  | some i => !(g.slots.contains i)
def isNoE : E → Bool
  | .non => true
  | _ => false
def asB (N : List Str) (sc : Scope) : Option Nat → Option Str → Bool
  | none, none => true
  | some i, some n => decide (N[i]? = some n) && decide (sc.names.lookup n = some .local)
  | _, _ => false
def oneC (Xn : List Str) (x : Str) : List Nat → Bool
  | [c] => decide (Xn[c]? = some x)
  | _ => false
def raisOf : Stmt → Option (Str × List Expr)
  | .Raise (some (.Call (.Name x _) pes [] _)) none _ => some (x, pes)
  | _ => none
def tryOf : Stmt → Option (List Stmt × Str × Option Str × List Stmt)
  | .Try pb [.ExceptHandler (some (.Name x _)) on ph _] [] [] _ => some (pb, x, on, ph)
  | _ => none
theorem raisOf_inv {ps : Stmt} {x : Str} {pes : List Expr} (h : raisOf ps = some (x, pes)) : ∃ p p2 p3, ps = .Raise (some (.Call (.Name x p) pes [] p2)) none p3 := by
  unfold raisOf at h
  split at h
  · cases h; exact ⟨_, _, _, rfl⟩
  · cases h
theorem tryOf_inv {ps : Stmt} {x : Str} {on : Option Str} {pb ph : List Stmt} (h : tryOf ps = some (pb, x, on, ph)) : ∃ np p1 p2, ps = .Try pb [.ExceptHandler (some (.Name x np)) on ph p1] [] [] p2 := by
  unfold tryOf at h
  split at h
  · cases h; exact ⟨_, _, _, rfl⟩
  · cases h
mutual
def chkS : S → Nms → List Str → Scope → Stmt → Bool
  | .ex e, M, N, sc, .Expr pe _ => notComp pe && chkE M N e sc pe
  | .asg g e, M, N, sc, .Assign [tg] pe _ => decide (asgF sc tg pe ≠ 0) && exnOk M g && (M.calm || isNm tg) && chkTg N (locB sc) g tg && chkE M N e sc pe
  | .fst o f e, M, N, sc, .Assign [.Attribute po n _] pe _ => decide (n = decS f) && chkE M N o sc po && chkE M N e sc pe
  | .rais c es, M, N, sc, ps => match raisOf ps with
    | some (x, pes) => M.calm && decide (M.Xn[c]? = some x) && gloB sc x && !pes.isEmpty && chkEs M N es sc pes
    | none => false
  | .tryx b cs i h, M, N, sc, ps => match tryOf ps with
    | some (pb, x, on, ph) => M.calm && oneC M.Xn x cs && gloB sc x && asB N sc i on && !ph.isEmpty && chkSs b M N sc pb && chkSs h { M with calm := false, exn := i } N sc ph
    | none => false
  | .six o i v, M, N, sc, .Assign [.Subscript po pi _] pv _ => chkE M N o sc po && chkE M N i sc pi && chkE M N v sc pv
  | .iff c a b, M, N, sc, .If pc pa pb _ => chkT M N c sc pc && chkSs a M N sc pa && chkSs b M N sc pb
  | .for g it b, M, N, sc, .For tg pit pb [] _ => M.calm && it.tgB tg && exnOk M g && chkTg N (locB sc) g tg && chkI M N it sc pit && chkSs b M N sc pb
  | .wh c b, M, N, sc, .While pc pb [] _ => chkT M N c sc pc && chkSs b M N sc pb
  | .ret e, M, N, sc, .Return (some pe) _ => chkE M N e sc pe
  | .ret e, _, _, _, .Return none _ => isNoE e
  | .pass, _, _, _, .Pass _ => true
  | .brk, _, _, _, .Break _ => true
  | .cont, _, _, _, .Continue _ => true
  | .stop, _, _, _, _ => true
  | _, _, _, _, _ => false
def chkSs : Ss → Nms → List Str → Scope → List Stmt → Bool
  | .nil, _, _, _, [] => true
  | .cons s r, M, N, sc, ps :: pr => chkS s M N sc ps && chkSs r M N sc pr
  | _, _, _, _, _ => false
end

structure OkS (Γ : Gam) (sc : Scope) (X : Cx) : Prop where
  x : Okx Γ sc X
  hs : X.stack = X.env :: X.outer
  hf : X.env.frame = some X.env.locals
  po : PassesOwn (model X.prog X.w) X.A X.env X.xe
  fn : ∀ x, X.fn x = true
structure Evs (Γ : Gam) (ρ : List Addr) (H : Hp) (en : En) (σ : L2.St) : Prop where
  ev : Evn Γ.K ρ H en σ
  xi : ∀ x i, Γ.C.ex = some x → Γ.M.exn = some i → σ[i]? = some (some (.ref x.a)) ∧ ((x.fs = [] ∧ x.d = none) ∨ ∃ dx vs, x.d = some dx ∧ H dx = some (.xd vs) ∧ RepF Γ.K ρ H x.fs vs)
def OXS (Γ : Gam) (Xs : KS) (ρ : List Addr) (H : Hp) : Prop := ∀ c fs cls d en' σ' st' H' ρ', Ab Γ.K ρ' st' H' → Ex ρ H ρ' H' → Evn Γ.K ρ' H' en' σ' → RepX Γ.K Γ.cl ρ' H' c fs cls d → Xs c fs en' st' → Γ.W cls d σ' H'
def PsT (Γ : Gam) (ρ : List Addr) (H : Hp) (N : En → Sto → Prop) (D : L2.St → Hp → Prop) : Prop := ∀ en' st' σ' H' ρ', Ab Γ.K ρ' st' H' → Ex ρ H ρ' H' → Evs Γ ρ' H' en' σ' → N en' st' → D σ' H'
structure EndsOk (Γ : Gam) (ρ : List Addr) (H : Hp) (N : Nd) (D : L2.Ends) : Prop where
  nx : PsT Γ ρ H N.nx D.nx
  rt : Out Γ.K ρ H N.rt D.rt
  bk : PsT Γ ρ H N.bk D.bk
  ct : PsT Γ ρ H N.ct D.ct
section
variable {Γ : Gam} {ρ ρ' : List Addr} {H H' : Hp} {en : En} {σ : L2.St} {Xs : KS}
theorem Evs.ext (V : Evs Γ ρ H en σ) (e : Ex ρ H ρ' H') : Evs Γ ρ' H' en σ :=
  ⟨V.ev.ext e, fun x i h1 h2 => ⟨(V.xi x i h1 h2).1, by
    rcases (V.xi x i h1 h2).2 with q | ⟨dx, vs, q1, q2, q3⟩
    · exact .inl q
    · exact .inr ⟨dx, vs, q1, e.xd _ _ q2, q3.ext e⟩⟩⟩
theorem OXS.ext (o : OXS Γ Xs ρ H) (e : Ex ρ H ρ' H') : OXS Γ Xs ρ' H' := fun c fs cls d en' σ' st' H'' ρ'' a x v r h => o c fs cls d en' σ' st' H'' ρ'' a (e.trans x) v r h
theorem Evs.evx (V : Evs Γ ρ H en σ) (o : OXS Γ Xs ρ H) : Evx Γ (atS Xs en) ρ H en σ :=
  ⟨V.ev, fun c fs cls d st' H' ρ' a x r h => o c fs cls d en σ st' H' ρ' a x (V.ev.ext x) r h, V.xi⟩
theorem PsT.ext {N : En → Sto → Prop} {D : L2.St → Hp → Prop} (p : PsT Γ ρ H N D) (e : Ex ρ H ρ' H') : PsT Γ ρ' H' N D := fun en' st' σ' H'' ρ'' a x v h => p en' st' σ' H'' ρ'' a (e.trans x) v h
theorem Out.ext {K : PySem.W.Frag} {Q' : KD} {Q : VK} (p : Out K ρ H Q' Q) (e : Ex ρ H ρ' H') : Out K ρ' H' Q' Q := fun d st v H'' ρ'' a x r h => p d st v H'' ρ'' a (e.trans x) r h
theorem EndsOk.ext {N : Nd} {D : L2.Ends} (E : EndsOk Γ ρ H N D) (e : Ex ρ H ρ' H') : EndsOk Γ ρ' H' N D := ⟨E.nx.ext e, E.rt.ext e, E.bk.ext e, E.ct.ext e⟩
/-- the slots behind a target -/
theorem Evs.bound {g : Tg} {σ' : L2.St} {en' : En} (V : Evs Γ ρ H en σ) (hx : exnOk Γ.M g = true) (E : Evn Γ.K ρ H en' σ') (k : ∀ i : Nat, i ∉ g.slots → σ'[i]? = σ[i]?) : Evs Γ ρ H en' σ' :=
  ⟨E, fun x i h1 h2 => by
    unfold exnOk at hx
    rw [h2] at hx
    have hn : i ∉ g.slots := by simpa using hx
    rw [k i hn]
    exact V.xi x i h1 h2⟩
end
def SS (Γ : Gam) (sc : Scope) (s : S) (ps : Stmt) : Prop := ∃ t, (∀ X, OkS Γ sc X → PS X ps t) ∧ ∀ en st σ H ρ N Xs D, Ab Γ.K ρ st H → Evs Γ ρ H en σ → OXS Γ Xs ρ H → wS s Γ.C N Xs en st → EndsOk Γ ρ H N D → t D σ H
def SSs (Γ : Gam) (sc : Scope) (s : Ss) (ps : List Stmt) : Prop := ∃ t, (∀ X, OkS Γ sc X → PSs X ps t) ∧ ∀ en st σ H ρ N Xs D, Ab Γ.K ρ st H → Evs Γ ρ H en σ → OXS Γ Xs ρ H → wSs s Γ.C N Xs en st → EndsOk Γ ρ H N D → t D σ H

section
variable {Γ : Gam} {sc : Scope} {e : E} {pe : Expr} {pos : Pos}
theorem ss_ex (hn : notComp pe = true) (he : SE Γ sc e pe) : SS Γ sc (.ex e) (.Expr pe pos) := by
  obtain ⟨ta, pa, ra⟩ := he
  refine ⟨tDrop ta, fun X hX => ps_expr (pa X hX.x) (by cases pe <;> first | rfl | exact absurd hn Bool.false_ne_true), fun en st σ H ρ N Xs D A V B h E => ?_⟩
  exact ra en st σ H ρ _ _ _ A (V.evx B) h fun d st1 v H1 ρ1 A1 e1 r1 h1 => E.nx en st1 σ H1 ρ1 A1 e1 (V.ext e1) h1
theorem ss_ret (he : SE Γ sc e pe) : SS Γ sc (.ret e) (.Return (some pe) pos) := by
  obtain ⟨ta, pa, ra⟩ := he
  exact ⟨tRet ta, fun X hX => ps_ret (pa X hX.x), fun en st σ H ρ N Xs D A V B h E => ra en st σ H ρ _ _ _ A (V.evx B) h E.rt⟩
theorem ss_retN : SS Γ sc (.ret .non) (.Return none pos) :=
  ⟨tRetN, fun X hX => ps_retN, fun en st σ H ρ N Xs D A V B h E => E.rt .non st .non H ρ A Ex.refl (rep_non.mpr rfl) h⟩
theorem ss_pass : SS Γ sc .pass (.Pass pos) := ⟨tNext, fun X hX => ps_pass, fun en st σ H ρ N Xs D A V B h E => E.nx en st σ H ρ A Ex.refl V h⟩
theorem ss_brk : SS Γ sc .brk (.Break pos) := ⟨tBreak, fun X hX => ps_break, fun en st σ H ρ N Xs D A V B h E => E.bk en st σ H ρ A Ex.refl V h⟩
theorem ss_cont : SS Γ sc .cont (.Continue pos) := ⟨tCont, fun X hX => ps_continue, fun en st σ H ρ N Xs D A V B h E => E.ct en st σ H ρ A Ex.refl V h⟩
theorem ss_stop {ps : Stmt} : SS Γ sc .stop ps := ⟨tNever, fun X hX => ps_never, fun en st σ H ρ N Xs D A V B h E => h⟩
theorem ss_iff {c : T} {a b : Ss} {pc : Expr} {pa pb : List Stmt} (hc : ST Γ sc c pc) (ha : SSs Γ sc a pa) (hb : SSs Γ sc b pb) : SS Γ sc (.iff c a b) (.If pc pa pb pos) := by
  obtain ⟨tc, pc', rc⟩ := hc
  obtain ⟨ta, pa', ra⟩ := ha
  obtain ⟨tb, pb', rb⟩ := hb
  refine ⟨tIfS tc ta tb, fun X hX => ps_if (pc' X hX.x) (pa' X hX) (pb' X hX), fun en st σ H ρ N Xs D A V B h E => ?_⟩
  refine rc en st σ H ρ _ _ _ A (V.evx B) h fun t st1 H1 ρ1 A1 e1 h1 => ?_
  cases t with
  | true => exact ite_tt (ra en st1 σ H1 ρ1 N Xs D A1 (V.ext e1) (B.ext e1) h1 (E.ext e1))
  | false => exact ite_ff (rb en st1 σ H1 ρ1 N Xs D A1 (V.ext e1) (B.ext e1) h1 (E.ext e1))
theorem sss_nil : SSs Γ sc .nil [] := ⟨tNext, fun X hX => pss_nil, fun en st σ H ρ N Xs D A V B h E => E.nx en st σ H ρ A Ex.refl V h⟩
theorem sss_cons {s : S} {r : Ss} {ps : Stmt} {pr : List Stmt} (hs : SS Γ sc s ps) (hr : SSs Γ sc r pr) : SSs Γ sc (.cons s r) (ps :: pr) := by
  obtain ⟨ta, pa, ra⟩ := hs
  obtain ⟨tb, pb, rb⟩ := hr
  refine ⟨tSeq ta tb, fun X hX => pss_cons (pa X hX) (pb X hX), fun en st σ H ρ N Xs D A V B h E => ?_⟩
  refine ra en st σ H ρ _ Xs _ A V B h ⟨fun en1 st1 σ1 H1 ρ1 A1 e1 V1 h1 => ?_, E.rt, E.bk, E.ct⟩
  exact rb en1 st1 σ1 H1 ρ1 N Xs D A1 V1 (B.ext e1) h1 (E.ext e1)
theorem okt_of {X : Cx} (hX : OkS Γ sc X) : OkT Γ.N (locB sc) Γ.K Γ.M.calm X := by
  refine ⟨hX.x.N, hX.x.K, hX.x.calm, fun x hx => ?_⟩
  refine ⟨?_, .inl (hX.fn x)⟩
  unfold locB at hx
  rw [← hX.x.sc] at hx
  split at hx
  · exact .inl (by assumption)
  · exact .inr (by assumption)
  · cases hx
/-- a comprehension's parts -/
theorem comp_parts (G : GOk Γ) {pelt tg pit : Expr} {ifs : List Expr} {scope : Scope} (h : chkE Γ.M Γ.N e sc (.ListComp pelt [⟨tg, pit, ifs, 0⟩] scope pos) = true) :
    ∃ elt g it c own, e = .comp elt g it c ∧ Γ.M.calm = true ∧ fine pit = true ∧ blkC Γ.N sc scope own = true ∧ lcOf Γ sc elt g it c tg pit pelt ifs scope own := by
  cases e with
  | comp elt g it c =>
    have h' : (Γ.M.calm && it.tgB tg && chkI Γ.M Γ.N it sc pit && blkC Γ.N sc scope (ownOf g tg) && decide ((ownOf g tg).map (·.2) = g.slots) && chkTg Γ.N (locB scope) g tg && chkE Γ.M Γ.N elt (relS scope sc) pelt && ifsB c.isYes (fun p => chkT Γ.M Γ.N c (relS scope sc) p) ifs) = true := h
    simp only [Bool.and_eq_true, decide_eq_true_eq] at h'
    obtain ⟨⟨⟨⟨⟨⟨⟨hcm, htB⟩, h1⟩, h2⟩, h3⟩, h4⟩, h5⟩, h6⟩ := h'
    have hc : STs Γ.noW (relS scope sc) c ifs := by
      match ifs, h6 with
      | [], h6 => cases c <;> first | exact sts_nil | exact absurd h6 Bool.false_ne_true
      | [pc], h6 => exact sts_one (sndT c Γ.noW G.noW _ pc h6).1
      | _ :: _ :: _, h6 => exact absurd h6 Bool.false_ne_true
    exact ⟨elt, g, it, c, _, rfl, hcm, fineI_of h1, h2, lc_of G hcm htB (sndI it Γ G sc pit h1) h3 h4 (sndE elt Γ.noW G.noW _ pelt h5) hc⟩
  | _ => exact absurd h Bool.false_ne_true
theorem ss_asg1 {g : Tg} {tg : Expr} (G : GOk Γ) (hcm : Γ.M.calm = true ∨ isNm tg = true) (hx : exnOk Γ.M g = true) (hf : asgF sc tg pe = 1) (hg : chkTg Γ.N (locB sc) g tg = true) (he : SE Γ sc e pe) : SS Γ sc (.asg g e) (.Assign [tg] pe pos) := by
  obtain ⟨ta, pa, ra⟩ := he
  obtain ⟨gt, pg, rg⟩ := tg_ok (K := Γ.K) G.nd hcm hg
  refine ⟨tAsg ta gt, fun X hX => ?_, fun en st σ H ρ N Xs D A V B h E => ?_⟩
  · have hs : swapsWithSole [tg] pe pos.line X.env = pure false := by
      cases tg with
      | Name x px =>
        cases pe with
        | ListComp elt gens scope p =>
          have hc : sc.names.lookup x = some .cell := by
            match gens, hf with
            | [⟨_, _, _, .ofNat 0⟩], hf => exact lcF_1 hf
            | [], hf => cases hf
            | [⟨_, _, _, .ofNat (_ + 1)⟩], hf => cases hf
            | [⟨_, _, _, .negSucc _⟩], hf => cases hf
            | ⟨_, _, _, .ofNat (_ + 1)⟩ :: _ :: _, hf => cases hf
            | ⟨_, _, _, .ofNat 0⟩ :: _ :: _, hf => cases hf
            | ⟨_, _, _, .negSucc _⟩ :: _ :: _, hf => cases hf
          have hk : X.env.kindOf x = some .cell := by show X.env.scope.names.lookup x = _; rw [hX.x.sc]; exact hc
          unfold swapsWithSole swapsWith
          simp only [hk]
          rw [show ((some NameKind.cell == some NameKind.local) : Bool) = false from by decide, Bool.and_false, Bool.false_and, Bool.false_and]
        | SetComp _ _ _ _ => cases hf
        | DictComp _ _ _ _ _ => cases hf
        | _ => rfl
      | Tuple es k p => cases pe <;> first | rfl | cases hf
      | _ => cases pe <;> cases hf
    have hw : swappedStores [tg] pe X.env = pure none := by
      cases tg with
      | Name x px => rfl
      | Tuple es k p => cases pe <;> first | rfl | cases hf
      | _ => cases pe <;> cases hf
    refine ps_asg (pa X hX.x) (pg X (okt_of hX)) hs hw ?_
    cases tg <;> first | rfl | (cases pe <;> cases hf)
  · refine ra en st σ H ρ _ _ _ A (V.evx B) h fun d st1 v H1 ρ1 A1 e1 r1 h1 => ?_
    split at h1
    · rename_i en' eb
      exact rg en σ ρ1 H1 d v en' _ (V.ev.ext e1) r1 eb fun σ' V' k l => E.nx en' st1 σ' H1 ρ1 A1 e1 ((V.ext e1).bound hx V' k) h1
    · exact False.elim h1
theorem ss_asg2 {g : Tg} {tg : Expr} (G : GOk Γ) (hx : exnOk Γ.M g = true) (hf : asgF sc tg pe = 2) (hg : chkTg Γ.N (locB sc) g tg = true) (he : chkE Γ.M Γ.N e sc pe = true) : SS Γ sc (.asg g e) (.Assign [tg] pe pos) := by
  cases tg with
  | Name x px =>
    cases pe with
    | ListComp pelt gens scope p =>
      match gens, hf, he with
      | [⟨tg', pit, ifs, .ofNat 0⟩], hf, he =>
        obtain ⟨elt, g', it, c, own, rfl, hcm, hfi, hb, lc⟩ := comp_parts G he
        obtain ⟨wi, gt, tt, te, pI, pG, pT, pE, r⟩ := lc
        cases g with
        | tp is => exact absurd hg Bool.false_ne_true
        | nm i =>
          have hg' : (decide (Γ.N[i]? = some x) && locB sc x) = true := hg
          rw [Bool.and_eq_true, decide_eq_true_eq] at hg'
          have hq := lcF_2 hf
          obtain ⟨q1, q2, q3⟩ := hq
          refine ⟨tAsg (tLc wi gt tt te (own.map (·.2))) (gName i), fun X hX => ?_, fun en st σ H ρ N Xs D A V B h E => ?_⟩
          · have hl : X.env.scope.names.lookup x = some .local := by rw [hX.x.sc]; exact q1
            have hkind : X.env.scope.kind = .function ∨ X.env.scope.kind ≠ .function := by by_cases h : X.env.scope.kind = .function; exact .inl h; exact .inr h
            refine ⟨fun pins s σ H D I h => ?_⟩
            exact (ps_setLc (hX.x.calm hcm) (by rw [hX.x.N]; exact G.nd) (by rw [hX.x.N]; exact hg'.1) hl (sw_true I.ok.kind hl q2 q3) (pI X hX.x) (by rw [hX.x.N, hX.x.sc]; exact blkOk_by hb) (pG X hX.x) (pT X hX.x) (pE X hX.x) (fold_of hfi _)).run pins s σ H D I h
          · have h' : wE Γ.C (.comp elt g' it c) en st (fun x st1 => match bindT (.nm i) x en with
              | some en' => N.nx en' st1
              | none => False) (atS Xs en) := h
            refine r en st σ H ρ _ _ _ A (V.evx B) h' fun d st1 v H1 ρ1 A1 e1 r1 h1 => ?_
            have V1 := (V.ev.ext e1).set i r1
            exact E.nx _ st1 _ H1 ρ1 A1 e1 ((V.ext e1).bound (g := .nm i) hx V1 fun j hj => by
              have hj' : j ∉ [i] := hj
              rw [List.mem_singleton] at hj'
              rw [List.getElem?_set_ne (fun e => hj' e.symm)]) h1
      | [], hf, _ => cases hf
      | [⟨_, _, _, .ofNat (_ + 1)⟩], hf, _ => cases hf
      | [⟨_, _, _, .negSucc _⟩], hf, _ => cases hf
      | ⟨_, _, _, .ofNat (_ + 1)⟩ :: _ :: _, hf, _ => cases hf
      | ⟨_, _, _, .ofNat 0⟩ :: _ :: _, hf, _ => cases hf
      | ⟨_, _, _, .negSucc _⟩ :: _ :: _, hf, _ => cases hf
    | _ => cases hf
  | Tuple es k p => cases pe <;> cases hf
  | _ => cases pe <;> cases hf
/-- a thing written at an index or a key -/
def rSetQ (K : PySem.W.Frag) : TSet := fun o i v H Q => ∃ (ρ : List Addr) (st st' : Sto) (a : Nat) (y z : Q3.D), Ab K ρ st H ∧ Rep K ρ H (.ref a) o ∧ Rep K ρ H y i ∧ Rep K ρ H z v ∧ putAt st a y z = some st' ∧ ∀ H', Ab K ρ st' H' → Ex ρ H ρ H' → Q H'
theorem set_q {X : Cx} (hu : X.A.units + 1 < cLine) : PSet X (rSetQ X.K) := by
  intro pins s σ H o i v ov iv u Q I ro ri rv hh
  obtain ⟨ρ, st, st', a, y, z, A, r1, r2, r3, h, O⟩ := hh
  unfold putAt at h
  split at h
  · rename_i xs ex
    cases y with
    | int k =>
      have h2 : (ixN xs.length k).map (fun j => st.set a (.lst (xs.set j z))) = some st' := h
      rw [Option.map_eq_some_iff] at h2
      obtain ⟨j, ej, rfl⟩ := h2
      obtain ⟨p, vs, rfl, hr, hp, q1⟩ := A.mlst ex r1
      cases rep_int.mp r2
      have er : Ex ρ H ρ (upd H p (.lst (vs.set j v))) := ex_wr hp
      exact set_list pins s σ H _ _ _ ov iv u Q I ro ri rv ⟨p, vs, k, j, rfl, rfl, hp, by rw [← q1.length]; exact ej, O _ (A.setL ex hr hp (q1.set j r3)) er⟩
    | _ => cases h
  · rename_i o0 hno ex
    rw [Option.map_eq_some_iff] at h
    obtain ⟨o', ep, rfl⟩ := h
    cases o0 with
    | dK kvs =>
      have ep' : (if kvs.length < 16777216 then (keyOf y).map fun k => Q3.O.dK (dPut kvs k z) else none) = some o' := ep
      split at ep'
      · rename_i hl
        rw [Option.map_eq_some_iff] at ep'
        obtain ⟨k, hk, rfl⟩ := ep'
        obtain ⟨p, vs, rfl, hr, hp, q1⟩ := A.dK ex r1
        have ek := key_rep hk r2
        subst ek
        have er : Ex ρ H ρ (upd H p (.dK (putK vs k v))) := ex_wrO hp rfl
        have q2 := (q1.put k r3).ext er
        exact set_dict hu pins s σ H _ _ _ ov iv u Q I ro ri rv ⟨p, _, rfl, DPut.k hp (Lm_lt (by rw [← q1.length]; exact hl)), O _ (A.setO (o1 := .dK _) ex rfl hr hp rfl ⟨_, upd_same, q2.1, q2.2⟩) er⟩
      · cases ep'
    | _ => cases ep
  · cases h
theorem ss_six {o i v : E} {po pi pv : Expr} {p2 : Pos} (hf : fine pi = true) (ho : SE Γ sc o po) (hi : SE Γ sc i pi) (hv : SE Γ sc v pv) : SS Γ sc (.six o i v) (.Assign [.Subscript po pi p2] pv pos) := by
  obtain ⟨ta, pa, ra⟩ := ho
  obtain ⟨tb, pb, rb⟩ := hi
  obtain ⟨tc, pc, rc⟩ := hv
  refine ⟨tAsg tc (gSub ta tb (rSetQ Γ.K)), fun X hX => ?_, fun en st σ H ρ N Xs D A V B h E => ?_⟩
  · have hs := set_q (X := X) (by have := okx_hu hX.x; omega)
    rw [hX.x.K] at hs
    refine ps_asg (pc X hX.x) (pg_sub (pa X hX.x) (pb X hX.x) hs ?_) ?_ ?_ rfl
    · intro v
      cases pi <;> first | rfl | cases hf
    · cases pv <;> rfl
    · rfl
  · refine rc en st σ H ρ _ _ _ A (V.evx B) h fun z st1 vz H1 ρ1 A1 e1 r1 h1 => ?_
    refine ra en st1 σ H1 ρ1 _ _ _ A1 ((V.ext e1).evx (B.ext e1)) h1 fun x st2 vx H2 ρ2 A2 e2 r2 h2 => ?_
    have e12 := e1.trans e2
    refine rb en st2 σ H2 ρ2 _ _ _ A2 ((V.ext e12).evx (B.ext e12)) h2 fun y st3 vy H3 ρ3 A3 e3 r3 h3 => ?_
    cases x with
    | ref a =>
      have h3' : (match putAt st3 a y z with
        | some st' => N.nx en st'
        | none => False) := h3
      split at h3'
      · rename_i st' ep
        exact ⟨ρ3, st3, st', a, y, z, A3, r2.ext e3, r3, (r1.ext e2).ext e3, ep, fun H' A' e' => E.nx en _ σ _ ρ3 A' ((e12.trans e3).trans e') (V.ext ((e12.trans e3).trans e')) h3'⟩
      · exact False.elim h3'
    | _ => exact False.elim h3
theorem ss_for {g : Tg} {it : I} {b : Ss} {tg pit : Expr} {pb : List Stmt} (G : GOk Γ) (hcm : Γ.M.calm = true) (htB : it.tgB tg = true) (hx : exnOk Γ.M g = true) (hg : chkTg Γ.N (locB sc) g tg = true) (hf : fine pit = true) (hi : SI Γ sc it pit) (hb : SSs Γ sc b pb) :
    SS Γ sc (.for g it b) (.For tg pit pb [] pos) := by
  obtain ⟨wi, pI, rI⟩ := hi tg htB
  obtain ⟨gt, pg, rg⟩ := tg_ok (K := Γ.K) G.nd (.inl hcm) hg
  obtain ⟨tb, pb', rb⟩ := hb
  refine ⟨tFor wi gt tb, fun X hX => ps_for hX.po (hX.x.calm hcm) (pI X hX.x) (pg X (okt_of hX)) (pb' X hX) (fold_of hf _), fun en st σ H ρ N Xs D A V B h E => ?_⟩
  refine rI en st σ H ρ _ _ _ A (V.evx B) h fun J j st1 H1 ρ1 A1 e1 wk h1 => ?_
  obtain ⟨body, hbody⟩ : ∃ body, body = (fun (d : Q3.D) (K : En → Sto → Prop) (en1 : En) (st2 : Sto) => match bindT g d en1 with
    | some en2 => wSs b Γ.C (N.lp K) Xs en2 st2
    | none => False) := ⟨_, rfl⟩
  have h1 : loopF j.gs body j.xs N.nx en st1 := by rw [hbody]; exact h1
  refine ⟨fun i m σ' H' => ∃ ρ' st' en', m = j.xs.length - i ∧ i ≤ j.xs.length ∧ Ab Γ.K ρ' st' H' ∧ Ex ρ1 H1 ρ' H' ∧ Evs Γ ρ' H' en' σ' ∧ loopF j.gs body (j.xs.drop i) N.nx en' st',
    ⟨j.xs.length, ρ1, st1, en, by simp, Nat.zero_le _, A1, Ex.refl, V.ext e1, by rw [List.drop_zero]; exact h1⟩, ?_⟩
  rintro i m σ' H' ⟨ρ', st', en', rfl, hi', A', e', V', hl⟩
  by_cases hlt : i < j.xs.length
  · rw [List.drop_eq_getElem_cons hlt] at hl
    obtain ⟨hgs, hbd⟩ := hl
    obtain ⟨wk1, _⟩ := wk ρ' st' H' A' e' hgs i
    obtain ⟨hgo, hy⟩ := wk1 _ (List.getElem?_eq_getElem hlt)
    refine .inr ⟨hgo, fun σ'' H'' => ∃ ρ'' st'' en'', Ab Γ.K ρ'' st'' H'' ∧ Ex ρ1 H1 ρ'' H'' ∧ Evs Γ ρ'' H'' en'' σ'' ∧ loopF j.gs body (j.xs.drop (i + 1)) N.nx en'' st'',
      fun σ'' H'' ⟨ρ'', st'', en'', B1, B2, B3, B4⟩ => ⟨j.xs.length - (i + 1), by omega, ρ'', st'', en'', rfl, hlt, B1, B2, B3, B4⟩, fun x Hx hyl => ?_⟩
    obtain ⟨A3, e3, r3⟩ := hy x Hx hyl
    have hb' : (match bindT g j.xs[i] en' with
      | some en2 => wSs b Γ.C (N.lp (loopF j.gs body (j.xs.drop (i + 1)) N.nx)) Xs en2 st'
      | none => False) := by rw [hbody] at hbd ⊢; exact hbd
    split at hb'
    · rename_i en2 eb
      have e4 : Ex ρ H ρ' Hx := (e1.trans e').trans e3
      refine rg en' σ' ρ' Hx _ x en2 _ (V'.ev.ext e3) r3 eb fun σ2 V2 k l => ?_
      refine rb en2 st' σ2 Hx ρ' _ Xs _ A3 ((V'.ext e3).bound hx V2 k) (B.ext e4) hb' ⟨fun en5 st5 σ5 H5 ρ5 A5 e5 V5 h5 => ⟨ρ5, st5, en5, A5, (e'.trans e3).trans e5, V5, h5⟩, E.rt.ext e4, E.nx.ext e4, fun en5 st5 σ5 H5 ρ5 A5 e5 V5 h5 => ⟨ρ5, st5, en5, A5, (e'.trans e3).trans e5, V5, h5⟩⟩
    · exact False.elim hb'
  · have hn : i = j.xs.length := by omega
    subst hn
    rw [List.drop_length] at hl
    obtain ⟨hgs, hq⟩ := hl
    obtain ⟨_, wk2⟩ := wk ρ' st' H' A' e' hgs j.xs.length
    exact .inl ⟨wk2 rfl, E.nx en' st' σ' H' ρ' A' (e1.trans e') V' hq⟩
theorem ss_wh {c : T} {b : Ss} {pc : Expr} {pb : List Stmt} (hc : ST Γ sc c pc) (hb : SSs Γ sc b pb) : SS Γ sc (.wh c b) (.While pc pb [] pos) := by
  obtain ⟨tc, pc', rc⟩ := hc
  obtain ⟨tb, pb', rb⟩ := hb
  refine ⟨tWhile tc tb, fun X hX => ps_while hX.po (pc' X hX.x) (pb' X hX), fun en st σ H ρ N Xs D A V B h E => ?_⟩
  obtain ⟨n, h⟩ := h
  obtain ⟨test, htest⟩ : ∃ test, test = (fun (en1 : En) (st1 : Sto) (K : Bool → Sto → Prop) => wT Γ.C c en1 st1 K (atS Xs en1)) := ⟨_, rfl⟩
  obtain ⟨body, hbody⟩ : ∃ body, body = (fun (K : En → Sto → Prop) (en1 : En) (st1 : Sto) => wSs b Γ.C (N.lp K) Xs en1 st1) := ⟨_, rfl⟩
  have h : loopW test body N.nx n en st := by rw [htest, hbody]; exact h
  refine ⟨fun m σ' H' => ∃ ρ' st' en', Ab Γ.K ρ' st' H' ∧ Ex ρ H ρ' H' ∧ Evs Γ ρ' H' en' σ' ∧ loopW test body N.nx m en' st', ⟨n, ρ, st, en, A, Ex.refl, V, h⟩, ?_⟩
  rintro m σ' H' ⟨ρ', st', en', A', e', V', hl⟩
  cases m with
  | zero => exact False.elim hl
  | succ m =>
    have hl' : wT Γ.C c en' st' (fun b1 st1 => Br b1 (body (loopW test body N.nx m) en' st1) (N.nx en' st1)) (atS Xs en') := by rw [htest] at hl ⊢; exact hl
    refine rc en' st' σ' H' ρ' _ _ _ A' (V'.evx (B.ext e')) hl' fun t st1 H1 ρ1 A1 e1 h1 => ?_
    cases t with
    | false => exact ite_ff (E.nx en' st1 σ' H1 ρ1 A1 (e'.trans e1) (V'.ext e1) h1)
    | true =>
      refine ite_tt ⟨fun σ5 H5 => ∃ ρ5 st5 en5, Ab Γ.K ρ5 st5 H5 ∧ Ex ρ H ρ5 H5 ∧ Evs Γ ρ5 H5 en5 σ5 ∧ loopW test body N.nx m en5 st5, fun σ5 H5 q => ⟨m, Nat.lt_succ_self m, q⟩, ?_⟩
      have h1' : wSs b Γ.C (N.lp (loopW test body N.nx m)) Xs en' st1 := by rw [hbody] at h1; exact (by rw [hbody]; exact h1)
      have e4 := e'.trans e1
      exact rb en' st1 σ' H1 ρ1 _ Xs _ A1 (V'.ext e1) (B.ext e4) h1' ⟨fun en5 st5 σ5 H5 ρ5 A5 e5 V5 h5 => ⟨ρ5, st5, en5, A5, e4.trans e5, V5, h5⟩, E.rt.ext e4, E.nx.ext e4, fun en5 st5 σ5 H5 ρ5 A5 e5 V5 h5 => ⟨ρ5, st5, en5, A5, e4.trans e5, V5, h5⟩⟩
/-! ### fields stored, raise, try -/
theorem ss_fst {o e : E} {f : Nat} {po pe : Expr} {p2 : Pos} (G : GOk Γ) (ho : SE Γ sc o po) (he : SE Γ sc e pe) : SS Γ sc (.fst o f e) (.Assign [.Attribute po (decS f) p2] pe pos) := by
  obtain ⟨ta, pa, ra⟩ := ho
  obtain ⟨tc, pc, rc⟩ := he
  refine ⟨sFld Γ.K ta tc (decS f), fun X hX => ?_, fun en st σ H ρ N Xs D A V B h E => ?_⟩
  · have q := ps_fld (X := X) (f := decS f) (pos' := p2) (pos := pos) (pa X hX.x) (pc X hX.x) (by cases pe <;> rfl)
    rw [hX.x.K] at q
    exact q
  · refine rc en st σ H ρ _ _ _ A (V.evx B) h fun z st1 vz H1 ρ1 A1 e1 r1 h1 => ?_
    refine ra en st1 σ H1 ρ1 _ _ _ A1 ((V.ext e1).evx (B.ext e1)) h1 fun x st2 vx H2 ρ2 A2 e2 r2 h2 => ?_
    have e12 := e1.trans e2
    cases x with
    | ref n =>
      have h2' : (match st2[n]? with
        | some (.ins c fs) => Mu (fdB Γ.C.fds c f && shortF 900 fs) (N.nx en (st2.set n (.ins c (fPut f z fs))))
        | _ => False) := h2
      split at h2'
      · rename_i c fs ei
        obtain ⟨hm, h3⟩ := mu_and h2'
        rw [Bool.and_eq_true] at hm
        obtain ⟨a, C, dx, vs, rfl, hr, hC, hH, fr⟩ := A2.ins ei r2
        obtain ⟨C', hC', cl, na⟩ := G.fd c f hm.1
        have ec := ns_same hC hC'
        subst ec
        have hle := shortF_le hm.2
        have e3 : Ex ρ2 H2 ρ2 (upd H2 a (.ins C' dx (putF (decS f) vz vs))) := ex_wrO hH rfl
        have fr2 := (fr.put f (r1.ext e2)).ext e3
        refine ⟨a, _, dx, vs, rfl, hH, cl, na, by rw [← fr.length]; omega, ?_⟩
        exact E.nx en _ σ _ ρ2 (A2.setO (o1 := .ins c _) ei rfl hr hH rfl ⟨_, dx, _, hC, upd_same, fr2.1, fr2.2⟩) (e12.trans e3) (V.ext (e12.trans e3)) h3
      · exact False.elim h2'
    | _ => exact False.elim h2
theorem ve_facts : True := trivial
theorem lookup_of_mem {fs : List (Str × L2.V)} (hn : (fs.map (·.1)).Nodup) : ∀ {f : Str} {v : L2.V}, (f, v) ∈ fs → fs.lookup f = some v := by
  induction fs with
  | nil => intro f v h; simp at h
  | cons p fs ih =>
    intro f v h
    obtain ⟨g, w⟩ := p
    rw [List.map_cons, List.nodup_cons] at hn
    rw [List.lookup_cons]
    rcases List.mem_cons.mp h with h0 | h0
    · cases h0; rw [beq_self_eq_true]
    · have hne : f ≠ g := by
        intro e
        rw [← e] at hn
        exact hn.1 (List.mem_map.mpr ⟨_, h0, rfl⟩)
      have : (f == g) = false := by simpa using hne
      rw [this]
      exact ih hn.2 h0
theorem mem_of_lookup {α : Type} {fs : List (Str × α)} : ∀ {f : Str} {v : α}, fs.lookup f = some v → (f, v) ∈ fs := by
  induction fs with
  | nil => intro f v h; cases h
  | cons p fs ih =>
    intro f v h
    obtain ⟨g, w⟩ := p
    rw [List.lookup_cons] at h
    cases e : (f == g) with
    | true =>
      rw [e] at h
      cases h
      have ef : f = g := by simpa using e
      rw [ef]
      exact List.mem_cons_self
    | false => rw [e] at h; exact List.mem_cons_of_mem _ (ih h)
theorem repF_zip {K : PySem.W.Frag} {ρ : List Addr} {H : Hp} {names : List Str} (hn : names.Nodup) {ds : List Q3.D} {vs : List L2.V} (r : Reps K ρ H ds vs) (hl : ds.length = names.length) : RepF K ρ H (names.zip ds) ((names.zip vs).reverse) := by
  intro f d h
  have hm := mem_of_lookup h
  obtain ⟨k, hk⟩ := List.getElem?_of_mem hm
  rw [List.getElem?_zip_eq_some] at hk
  obtain ⟨v, hv, rv⟩ := r.get hk.2
  refine ⟨v, lookup_of_mem ?_ ?_, rv⟩
  · rw [List.map_reverse, List.map_fst_zip (by rw [← r.length]; omega)]
    exact List.pairwise_reverse.mpr (hn.imp fun h => h.symm)
  · rw [List.mem_reverse]
    exact List.mem_of_getElem? (List.getElem?_zip_eq_some.mpr ⟨hk.1, hv⟩)
theorem str1_inv {P : Prop} : ∀ {ds : List Q3.D}, (match ds with
    | [.str _] => P
    | _ => False) → ∃ z, ds = [.str z] ∧ P
  | [], h => h.elim
  | [d], h => by cases d <;> first | exact ⟨_, rfl, h⟩ | exact h.elim
  | d :: _ :: _, h => by cases d <;> exact h.elim
/-- a class with fields is made -/
theorem ss_rais {c : Nat} {x : Str} {es : Es} {pe : Expr} {pes : List Expr} {p p2 : Pos} (G : GOk Γ) (hcm : Γ.M.calm = true) (h1 : Γ.M.Xn[c]? = some x) (h2 : gloB sc x = true) (hf : ∀ p ∈ pe :: pes, fine p = true) (hs : SA Γ sc es (pe :: pes)) :
    SS Γ sc (.rais c es) (.Raise (some (.Call (.Name x p) (pe :: pes) [] p2)) none pos) := by
  obtain ⟨g1, g2, g3⟩ := gloB_ok h2
  obtain ⟨tb, pb, rb⟩ := hs
  cases ho : Γ.C.X[c]? with
  | none =>
    refine ⟨tNever, fun X hX => ps_never, fun en st σ H ρ N Xs D A V B h E => ?_⟩
    have h' : (match Γ.C.X[c]? with
      | some none => wEs Γ.C es en st (fun xs st1 => match xs with
        | [.str _] => Xs c [] en st1
        | _ => False) (atS Xs en)
      | some (some fs) => wEs Γ.C es en st (fun xs st1 => xs.length = fs.length ∧ Xs c (fs.zip xs) en st1) (atS Xs en)
      | none => False) := h
    rw [ho] at h'
    exact h'.elim
  | some o =>
    obtain ⟨C, hC, hm, hk⟩ := G.xr c x o h1 ho
    cases o with
    | none =>
      obtain ⟨k1, k2, k3, k4⟩ := hk
      refine ⟨fun _ σ H => tb σ H fun vs H1 => vs.length ≤ sizeLine ∧ Γ.W (.ref C) none σ H1, fun X hX => ?_, fun en st σ H ρ N Xs D A V B h E => ?_⟩
      · have q := pmk_ownA (X := X) (p := p) (pos := p2) PySem.F.excBase_ValueError (by rw [hX.x.K]; exact k1) (by rw [hX.x.mg]; exact hm) (by rw [hX.x.K]; exact k2) (raises_own (by rw [hX.x.K]; exact k3) (by rw [hX.x.K]; exact k4)) (gl_of hX.x g1) (pb X hX.x) g2 (star_of (hf pe List.mem_cons_self) _ _) (plain_of (fun q hq => hf q (List.mem_cons_of_mem _ hq)) _ _)
        exact ps_raise (hX.x.calm hcm) hX.x.tk q
      · have h' : (match Γ.C.X[c]? with
          | some none => wEs Γ.C es en st (fun xs st1 => match xs with
            | [.str _] => Xs c [] en st1
            | _ => False) (atS Xs en)
          | some (some fs) => wEs Γ.C es en st (fun xs st1 => xs.length = fs.length ∧ Xs c (fs.zip xs) en st1) (atS Xs en)
          | none => False) := h
        rw [ho] at h'
        refine rb en st σ H ρ _ _ _ A (V.evx B) h' fun ds st1 vs H1 ρ1 A1 e1 r1 h1 => ?_
        · obtain ⟨z, rfl, h1⟩ := str1_inv h1
          obtain ⟨v, rfl, _⟩ := reps_one r1
          refine ⟨Lm_line (by show 1 ≤ 16777216; decide), B c [] _ none en σ st1 H1 ρ1 A1 e1 (V.ev.ext e1) ⟨hC, .inl ⟨rfl, rfl⟩⟩ h1⟩
    | some names =>
      obtain ⟨T, hnd, hle, fI, fd, iC, tI, hb, F⟩ := hk
      refine ⟨fun _ σ H => tMkO C (spX C names) [] tb σ H fun cls d H1 => Γ.W cls d σ H1, fun X hX => ?_, fun en st σ H ρ N Xs D A V B h E => ?_⟩
      · have F' : FnOk X.prog X.w X.K X.mg X.base (L2.CX X.prog X.w) 1 fI fd (("self" : Str) :: names) (spX C names) := by
          rw [hX.x.P, hX.x.w, hX.x.K, hX.x.mg, hX.x.base]; exact F 0
        have hroom : Room (1 + 1) X.A := (hX.x.room hcm).mono G.hn
        have hx : Passes (L2.CX X.prog X.w) X (fun _ _ _ => False) := fun _ _ _ _ _ _ _ c => by
          obtain ⟨_, _, _, _, _, _, _, _, _, _, _, _, z⟩ := c
          exact z.elim
        have q := pmk_oex (X := X) (p := p) (pos := p2) (by rw [hX.x.K]; exact T) (by rw [hX.x.K]; exact iC) (by rw [hX.x.K]; exact tI) F' hroom (by rw [hX.x.K]; exact hb) .nil hx (gl_of hX.x g1) (by rw [hX.x.mg]; exact hm) (pb X hX.x) g2 (star_of (hf pe List.mem_cons_self) _ _) (plain_of (fun q hq => hf q (List.mem_cons_of_mem _ hq)) _ _)
        exact ps_raise (hX.x.calm hcm) hX.x.tk q
      · have h' : (match Γ.C.X[c]? with
          | some none => wEs Γ.C es en st (fun xs st1 => match xs with
            | [.str _] => Xs c [] en st1
            | _ => False) (atS Xs en)
          | some (some fs) => wEs Γ.C es en st (fun xs st1 => xs.length = fs.length ∧ Xs c (fs.zip xs) en st1) (atS Xs en)
          | none => False) := h
        rw [ho] at h'
        refine rb en st σ H ρ _ _ _ A (V.evx B) h' fun ds st1 vs H1 ρ1 A1 e1 r1 h1 => ?_
        obtain ⟨hl, hX1⟩ := h1
        have hl2 : vs.length = names.length := by rw [← r1.length]; exact hl
        refine ⟨by omega, fun a ha => ⟨a, vs, by rw [List.append_nil], hl2, upd_same, fun d hd hda => ?_⟩⟩
        have hd1 : H1 d = none := by rw [upd_ne hda] at hd; exact hd
        refine ⟨rfl, d, (names.zip vs).reverse, upd_same, by rw [upd_ne hda]; exact upd_same, hd1, ?_⟩
        have eH : upd (del (upd (upd (upd H1 a (exo a C none)) d (exd d (names.zip vs).reverse)) a (exo a C (some d))) a) d (.xd (names.zip vs).reverse) = upd H1 d (.xd (names.zip vs).reverse) := by
          funext b
          by_cases e : b = d
          · subst e; rw [upd_same, upd_same]
          · rw [upd_ne e, upd_ne e]
            by_cases e' : b = a
            · subst e'; rw [del_same, ha]
            · rw [del_ne e', upd_ne e', upd_ne e, upd_ne e']
        rw [eH]
        have e2 : Ex ρ1 H1 ρ1 (upd H1 d (.xd (names.zip vs).reverse)) := ex_new0 hd1
        exact B c _ _ (some d) en σ st1 _ ρ1 (A1.track hd1) (e1.trans e2) (V.ev.ext (e1.trans e2)) ⟨hC, .inr ⟨d, _, rfl, upd_same, repF_zip hnd (r1.ext e2) hl⟩⟩ hX1
/-- within an except suite -/
abbrev hotG (Γ : Gam) (ex : XI) (i : Option Nat) : Gam := { Γ with C := { Γ.C with ex := some ex }, M := { Γ.M with calm := false, exn := i }, W := fun _ _ _ _ => False }
theorem hotG_ok (G : GOk Γ) (ex : XI) (i : Option Nat) : GOk (hotG Γ ex i) :=
  ⟨G.nd, G.gl, G.bt, G.fn, fun h => absurd h Bool.false_ne_true, G.hn, G.mt, G.nw, G.fd, G.xn, G.xr, G.xs, G.xe, G.kd⟩
theorem oks_tr {X : Cx} (G : GOk Γ) (hcm : Γ.M.calm = true) (hX : OkS Γ sc X) {W : WX} {pn : List (Addr × Obj)} {xe : Value → Shared → Prop} (tk : Takes (X.tr pn xe) W) (po : PassesOwn (model X.prog X.w) X.A X.env xe) : OkS { Γ with W := W } sc (X.tr pn xe) :=
  ⟨⟨hX.x.P, hX.x.w, hX.x.K, hX.x.mg, hX.x.base, hX.x.N, hX.x.sc, hX.x.calm, tk, hX.x.hu, hX.x.room, fun x e => by
    have e' : Γ.C.ex = some x := e
    rw [G.cex hcm] at e'; cases e'⟩, hX.hs, hX.hf, po, hX.fn⟩
theorem oks_hot {X : Cx} (hX : OkS Γ sc X) {ex : XI} {i : Option Nat} {oe : Obj} {pn : List (Addr × Obj)} {cls : Value} (hcl : Γ.cl[ex.c]? = some cls) (hz : Zc cls ex.d oe) (hf : ∃ vs, oe.data = .fields vs) : OkS (hotG Γ ex i) sc (X.suite ex.a ((ex.a, oe) :: pn)) := by
  obtain ⟨vs, hv⟩ := hf
  exact ⟨⟨hX.x.P, hX.x.w, hX.x.K, hX.x.mg, hX.x.base, hX.x.N, hX.x.sc, fun h => absurd h Bool.false_ne_true, takes0, hX.x.hu, fun h => absurd h Bool.false_ne_true, fun x e => by
    cases e
    exact ⟨X, oe, pn, cls, vs, rfl, hcl, hz, hv⟩⟩, hX.hs, hX.hf, PassesOwn.never, hX.fn⟩
theorem chk_try {M : Nms} {N : List Str} {b hd : Ss} {cs : List Nat} {i : Option Nat} {ps : Stmt} (h : chkS (.tryx b cs i hd) M N sc ps = true) : ∃ c x np on p1 ph0 ph pb p2, cs = [c] ∧ ps = .Try pb [.ExceptHandler (some (.Name x np)) on (ph0 :: ph) p1] [] [] p2 ∧ M.calm = true ∧ M.Xn[c]? = some x ∧ gloB sc x = true ∧ asB N sc i on = true ∧
    chkSs b M N sc pb = true ∧ chkSs hd { M with calm := false, exn := i } N sc (ph0 :: ph) = true := by
  have h' : (match tryOf ps with
    | some (pb, x, on, ph) => M.calm && oneC M.Xn x cs && gloB sc x && asB N sc i on && !ph.isEmpty && chkSs b M N sc pb && chkSs hd { M with calm := false, exn := i } N sc ph
    | none => false) = true := h
  split at h'
  · rename_i pb x on ph e
    obtain ⟨np, p1, p2, rfl⟩ := tryOf_inv e
    simp only [Bool.and_eq_true] at h'
    obtain ⟨⟨⟨⟨⟨⟨h1, h2⟩, h3⟩, h4⟩, h5⟩, h6⟩, h7⟩ := h'
    cases ph with
    | nil => cases h5
    | cons ph0 ph =>
      match cs, h2 with
      | [c], h2 => exact ⟨c, _, _, _, _, _, _, _, _, rfl, rfl, h1, of_decide_eq_true h2, h3, h4, h6, h7⟩
      | [], h2 => cases h2
      | _ :: _ :: _, h2 => cases h2
  · cases h'
theorem evn_wipe {K : PySem.W.Frag} {ρ : List Addr} {H : Hp} {en : En} {σ : L2.St} (E : Evn K ρ H en σ) (i : Nat) (o : Option L2.V) : Evn K ρ H (en.set i none) (σ.set i o) := by
  refine ⟨by rw [List.length_set, List.length_set]; exact E.len, fun j d h => ?_⟩
  by_cases hj : i = j
  · subst hj
    by_cases hl : i < en.length
    · rw [List.getElem?_set_self hl] at h; cases h
    · rw [List.getElem?_eq_none (by rw [List.length_set]; omega)] at h; cases h
  · rw [List.getElem?_set_ne hj] at h ⊢
    exact E.at_ j d h
theorem ss_try {b hd : Ss} {c : Nat} {i : Option Nat} {x : Str} {on : Option Str} {pb : List Stmt} {ph0 : Stmt} {ph : List Stmt} {np p1 p2 : Pos} (G : GOk Γ) (hcm : Γ.M.calm = true) (hx : Γ.M.Xn[c]? = some x) (hg : gloB sc x = true) (ha : asB Γ.N sc i on = true)
    (hb : ∀ W, SSs { Γ with W := W } sc b pb) (hh : ∀ ex, SSs (hotG Γ ex i) sc hd (ph0 :: ph)) : SS Γ sc (.tryx b [c] i hd) (.Try pb [.ExceptHandler (some (.Name x np)) on (ph0 :: ph) p1] [] [] p2) := by
  obtain ⟨g1, g2, g3⟩ := gloB_ok hg
  obtain ⟨v, hv, hnm⟩ := G.xn c x hx
  have names : ∀ X, OkS Γ sc X → Names X x v := fun X hX => by
    refine ⟨gl_of hX.x g1, g2, ?_⟩
    rcases hnm with ⟨C, rfl, hm⟩ | ⟨T, rfl, hm, hbt, hn⟩
    · exact .inl (by rw [hX.x.mg]; exact hm)
    · exact .inr ⟨by rw [hX.x.mg]; exact hm, hbt, hn⟩
  have hb' := fun W => Classical.choose_spec (hb W)
  have hh' := fun ex => Classical.choose_spec (hh ex)
  generalize hTB : (fun W => Classical.choose (hb W)) = tb
  generalize hTH : (fun ex => Classical.choose (hh ex)) = th
  have hb2 : ∀ W, (∀ X, OkS { Γ with W := W } sc X → PSs X pb (tb W)) ∧ ∀ en st σ H ρ N Xs D, Ab Γ.K ρ st H → Evs { Γ with W := W } ρ H en σ → OXS { Γ with W := W } Xs ρ H → wSs b Γ.C N Xs en st → EndsOk { Γ with W := W } ρ H N D → tb W D σ H := fun W => by
    rw [← hTB]; exact hb' W
  have hh2 : ∀ ex, (∀ X, OkS (hotG Γ ex i) sc X → PSs X (ph0 :: ph) (th ex)) ∧ ∀ en st σ H ρ N Xs D, Ab Γ.K ρ st H → Evs (hotG Γ ex i) ρ H en σ → OXS (hotG Γ ex i) Xs ρ H → wSs hd { Γ.C with ex := some ex } N Xs en st → EndsOk (hotG Γ ex i) ρ H N D → th ex D σ H := fun ex => by
    rw [← hTH]; exact hh' ex
  clear hb' hh' hTB hTH
  have caught : ∀ {c' : Nat} {cls : Value} {b1 : Bool}, Γ.cl[c']? = some cls → subAny (Γ.C.sub c') [c] = some b1 → PySem.W.exmOne Γ.K cls v = some b1 := by
    intro c' cls b1 hcl e
    have e' : (match Γ.C.sub c' c, (some false : Option Bool) with
      | some b, some c => some (b || c)
      | _, _ => none) = some b1 := e
    split at e'
    · rename_i b2 c2 e2 e3
      cases e3
      rw [Bool.or_false] at e'
      cases e'
      obtain ⟨v', w', q1, q2, q3, _⟩ := G.xs c' c _ e2
      rw [hcl] at q1; cases q1
      rw [hv] at q2; cases q2
      exact q3
    · cases e'
  have body : ∀ {en : En} {st : Sto} {N : Nd} {Xs : KS}, wS (.tryx b [c] i hd) Γ.C N Xs en st → wSs b Γ.C N (fun c' fs en1 st1 => match subAny (Γ.C.sub c') [c] with
    | some true => Mu (atB i en1) (∀ a d, wSs hd { Γ.C with ex := some ⟨a, d, c', fs⟩ } (N.wipe i) (fun _ _ _ _ => False) (enX en1 i) st1)
    | some false => Xs c' fs en1 st1
    | none => False) en st := fun h => h
  have noex : ∀ {x : XI} {P : Prop}, Γ.C.ex = some x → P := fun e => by rw [G.cex hcm] at e; cases e
  match i, on, ha with
  | none, none, _ =>
    refine ⟨fun D σ H => tb (wOnly Γ.K v (fun a cls d D σ H => ∃ cc fs, Γ.cl[cc]? = some cls ∧ th ⟨a, d, cc, fs⟩ D σ H) Γ.W D) D σ H, fun X hX => ?_, fun en st σ H ρ N Xs D A V B h E => ?_⟩
    · have q := ps_try_only (X := X) (pos := p2) (pos' := p1) (np := np) hX.hs hX.hf (names X hX) hX.x.tk (fun W pn xe tk po => (hb2 W).1 _ (oks_tr G hcm hX tk po)) (ts := fun a cls d D σ H => ∃ cc fs, Γ.cl[cc]? = some cls ∧ th ⟨a, d, cc, fs⟩ D σ H)
        (fun a oe cls d pn hz hf => ⟨fun pins s σ H D I ⟨cc, fs, hcl, h⟩ => ((hh2 ⟨a, d, cc, fs⟩).1 _ (oks_hot (ex := ⟨a, d, cc, fs⟩) hX hcl hz hf)).run pins s σ H D I h⟩)
      rw [hX.x.K] at q
      exact q
    · refine (hb2 _).2 en st σ H ρ N _ D A ⟨V.ev, V.xi⟩ ?_ (body h) ⟨fun en' st' σ' H' ρ' a e v h => E.nx en' st' σ' H' ρ' a e ⟨v.ev, v.xi⟩ h, E.rt, fun en' st' σ' H' ρ' a e v h => E.bk en' st' σ' H' ρ' a e ⟨v.ev, v.xi⟩ h, fun en' st' σ' H' ρ' a e v h => E.ct en' st' σ' H' ρ' a e ⟨v.ev, v.xi⟩ h⟩
      intro c' fs cls d en' σ' st' H' ρ' A' e' V' r hX'
      have hX2 : (match subAny (Γ.C.sub c') [c] with
        | some true => Mu (atB none en') (∀ a d, wSs hd { Γ.C with ex := some ⟨a, d, c', fs⟩ } (N.wipe none) (fun _ _ _ _ => False) (enX en' none) st')
        | some false => Xs c' fs en' st'
        | none => False) := hX'
      have hcl : Γ.cl[c']? = some cls := r.1
      split at hX2
      · rename_i es
        refine ⟨true, caught hcl es, fun _ a ha => ⟨c', fs, hcl, ?_⟩, fun z => by cases z⟩
        have h3 := (mu_and hX2).2 a d
        have E' := E.ext e'
        exact (hh2 ⟨a, d, c', fs⟩).2 en' st' σ' H' ρ' N _ D A' ⟨V', fun x i e1 e2 => by cases e2⟩ (fun _ _ _ _ _ _ _ _ _ _ _ _ _ h => h.elim) h3
          ⟨fun en' st' σ' H' ρ' a e v h => E'.nx en' st' σ' H' ρ' a e ⟨v.ev, fun x i e1 _ => noex e1⟩ h, E'.rt, fun en' st' σ' H' ρ' a e v h => E'.bk en' st' σ' H' ρ' a e ⟨v.ev, fun x i e1 _ => noex e1⟩ h, fun en' st' σ' H' ρ' a e v h => E'.ct en' st' σ' H' ρ' a e ⟨v.ev, fun x i e1 _ => noex e1⟩ h⟩
      · rename_i es
        exact ⟨false, caught hcl es, (fun z => by cases z), fun _ => B c' fs cls d en' σ' st' H' ρ' A' e' V' r hX2⟩
      · exact False.elim hX2
  | some i, some n, ha =>
    have ha' : (decide (Γ.N[i]? = some n) && decide (sc.names.lookup n = some .local)) = true := ha
    rw [Bool.and_eq_true, decide_eq_true_eq, decide_eq_true_eq] at ha'
    refine ⟨fun D σ H => tb (wAs Γ.K v i (fun a cls d D σ H => ∃ cc fs, Γ.cl[cc]? = some cls ∧ th ⟨a, d, cc, fs⟩ D σ H) Γ.W D) D σ H, fun X hX => ?_, fun en st σ H ρ N Xs D A V B h E => ?_⟩
    · have hln : X.env.kindOf n = some .local := by show X.env.scope.names.lookup n = _; rw [hX.x.sc]; exact ha'.2
      have q := ps_try_as (X := X) (pos := p2) (pos' := p1) (np := np) hX.hs hX.hf (by rw [hX.x.N]; exact G.nd) (by rw [hX.x.N]; exact ha'.1) hln (names X hX) hX.x.tk (fun W pn xe tk po => (hb2 W).1 _ (oks_tr G hcm hX tk po)) (ts := fun a cls d D σ H => ∃ cc fs, Γ.cl[cc]? = some cls ∧ th ⟨a, d, cc, fs⟩ D σ H)
        (fun a oe cls d pn hz hf => ⟨fun pins s σ H D I ⟨cc, fs, hcl, h⟩ => ((hh2 ⟨a, d, cc, fs⟩).1 _ (oks_hot (ex := ⟨a, d, cc, fs⟩) hX hcl hz hf)).run pins s σ H D I h⟩)
      rw [hX.x.K] at q
      exact q
    · refine (hb2 _).2 en st σ H ρ N _ D A ⟨V.ev, V.xi⟩ ?_ (body h) ⟨fun en' st' σ' H' ρ' a e v h => E.nx en' st' σ' H' ρ' a e ⟨v.ev, v.xi⟩ h, E.rt, fun en' st' σ' H' ρ' a e v h => E.bk en' st' σ' H' ρ' a e ⟨v.ev, v.xi⟩ h, fun en' st' σ' H' ρ' a e v h => E.ct en' st' σ' H' ρ' a e ⟨v.ev, v.xi⟩ h⟩
      intro c' fs cls d en' σ' st' H' ρ' A' e' V' r hX'
      have hX2 : (match subAny (Γ.C.sub c') [c] with
        | some true => Mu (atB (some i) en') (∀ a d, wSs hd { Γ.C with ex := some ⟨a, d, c', fs⟩ } (N.wipe (some i)) (fun _ _ _ _ => False) (enX en' (some i)) st')
        | some false => Xs c' fs en' st'
        | none => False) := hX'
      have hcl : Γ.cl[c']? = some cls := r.1
      split at hX2
      · rename_i es
        refine ⟨true, caught hcl es, fun _ a ha => ⟨c', fs, hcl, ?_⟩, fun z => by cases z⟩
        have h3 := (mu_and hX2).2 a d
        have hlt : i < en'.length := hasL_lt (mu_and hX2).1
        have E' := E.ext e'
        refine (hh2 ⟨a, d, c', fs⟩).2 (en'.set i none) st' (σ'.set i (some (.ref a))) H' ρ' _ _ _ A' ⟨evn_wipe V' i _, fun x j e1 e2 => ?_⟩ (fun _ _ _ _ _ _ _ _ _ _ _ _ _ h => h.elim) h3
          ⟨fun en' st' σ' H' ρ' a e v h => E'.nx _ st' _ H' ρ' a e ⟨evn_wipe v.ev i none, fun x i e1 _ => noex e1⟩ h, E'.rt, fun en' st' σ' H' ρ' a e v h => E'.bk _ st' _ H' ρ' a e ⟨evn_wipe v.ev i none, fun x i e1 _ => noex e1⟩ h, fun en' st' σ' H' ρ' a e v h => E'.ct _ st' _ H' ρ' a e ⟨evn_wipe v.ev i none, fun x i e1 _ => noex e1⟩ h⟩
        cases e1
        cases e2
        exact ⟨List.getElem?_set_self (by rw [← V'.len]; exact hlt), r.2⟩
      · rename_i es
        exact ⟨false, caught hcl es, (fun z => by cases z), fun _ => B c' fs cls d en' σ' st' H' ρ' A' e' V' r hX2⟩
      · exact False.elim hX2
  | none, some _, ha => exact absurd ha Bool.false_ne_true
  | some _, none, ha => exact absurd ha Bool.false_ne_true
end
mutual
theorem sndS : ∀ (s : S) (Γ : Gam) (G : GOk Γ) (sc : Scope) (ps : Stmt), chkS s Γ.M Γ.N sc ps = true → SS Γ sc s ps
  | .rais c es, Γ, G, sc, ps, h => by
    have h' : (match raisOf ps with
      | some (x, pes) => Γ.M.calm && decide (Γ.M.Xn[c]? = some x) && gloB sc x && !pes.isEmpty && chkEs Γ.M Γ.N es sc pes
      | none => false) = true := h
    split at h'
    · rename_i x pes e
      obtain ⟨p, p2, p3, rfl⟩ := raisOf_inv e
      simp only [Bool.and_eq_true, decide_eq_true_eq] at h'
      obtain ⟨⟨⟨⟨h1, h2⟩, h3⟩, h4⟩, h5⟩ := h'
      cases pes with
      | nil => cases h4
      | cons pe pes => exact ss_rais G h1 h2 h3 (fines_of h5) (sndEs es Γ G sc (pe :: pes) h5)
    · cases h'
  | .tryx b cs i hd, Γ, G, sc, ps, h => by
    obtain ⟨c, x, np, on, p1, ph0, ph, pb, p2, rfl, rfl, hcm, hx, hg, ha, hb, hh⟩ := chk_try h
    exact ss_try G hcm hx hg ha (fun W => sndSs b { Γ with W := W } (G.withW W) sc pb hb) fun ex => sndSs hd (hotG Γ ex i) (hotG_ok G ex i) sc (ph0 :: ph) hh
  | .fst o f e, Γ, G, sc, ps, h => by
    cases ps with
    | Assign tgs pe p =>
      match tgs, h with
      | [tg], h =>
        cases tg with
        | Attribute po n p2 =>
          have h' : (decide (n = decS f) && chkE Γ.M Γ.N o sc po && chkE Γ.M Γ.N e sc pe) = true := h
          simp only [Bool.and_eq_true, decide_eq_true_eq] at h'
          obtain ⟨⟨rfl, h1⟩, h2⟩ := h'
          exact ss_fst G (sndE o Γ G sc po h1) (sndE e Γ G sc pe h2)
        | _ => exact absurd h Bool.false_ne_true
      | [], h => exact absurd h Bool.false_ne_true
      | _ :: _ :: _, h => exact absurd h (by rename_i a b c; cases a <;> exact Bool.false_ne_true)
    | _ => exact absurd h Bool.false_ne_true
  | .ex e, Γ, G, sc, ps, h => by
    cases ps with
    | Expr pe p =>
      have h' : (notComp pe && chkE Γ.M Γ.N e sc pe) = true := h
      rw [Bool.and_eq_true] at h'
      exact ss_ex h'.1 (sndE e Γ G sc pe h'.2)
    | _ => exact absurd h Bool.false_ne_true
  | .asg g e, Γ, G, sc, ps, h => by
    cases ps with
    | Assign tgs pe p =>
      match tgs, h with
      | [tg], h =>
        have h' : (decide (asgF sc tg pe ≠ 0) && exnOk Γ.M g && (Γ.M.calm || isNm tg) && chkTg Γ.N (locB sc) g tg && chkE Γ.M Γ.N e sc pe) = true := by cases tg <;> exact h
        simp only [Bool.and_eq_true, Bool.or_eq_true, decide_eq_true_eq] at h'
        obtain ⟨⟨⟨⟨h1, h2⟩, h3⟩, h4⟩, h5⟩ := h'
        have three := asgF_12 h1
        rcases three with q | q
        · exact ss_asg1 G h3 h2 q h4 (sndE e Γ G sc pe h5)
        · exact ss_asg2 G h2 q h4 h5
      | [], h => exact absurd h Bool.false_ne_true
      | _ :: _ :: _, h => exact absurd h (by rename_i a b c; cases a <;> exact Bool.false_ne_true)
    | _ => exact absurd h Bool.false_ne_true
  | .six o i v, Γ, G, sc, ps, h => by
    cases ps with
    | Assign tgs pe p =>
      match tgs, h with
      | [tg], h =>
        cases tg with
        | Subscript po pi p2 =>
          have h' : (chkE Γ.M Γ.N o sc po && chkE Γ.M Γ.N i sc pi && chkE Γ.M Γ.N v sc pe) = true := h
          simp only [Bool.and_eq_true] at h'
          exact ss_six (fine_of h'.1.2) (sndE o Γ G sc po h'.1.1) (sndE i Γ G sc pi h'.1.2) (sndE v Γ G sc pe h'.2)
        | _ => exact absurd h Bool.false_ne_true
      | [], h => exact absurd h Bool.false_ne_true
      | _ :: _ :: _, h => exact absurd h (by rename_i a b c; cases a <;> exact Bool.false_ne_true)
    | _ => exact absurd h Bool.false_ne_true
  | .iff c a b, Γ, G, sc, ps, h => by
    cases ps with
    | If pc pa pb p =>
      have h' : (chkT Γ.M Γ.N c sc pc && chkSs a Γ.M Γ.N sc pa && chkSs b Γ.M Γ.N sc pb) = true := h
      simp only [Bool.and_eq_true] at h'
      exact ss_iff (sndT c Γ G sc pc h'.1.1).1 (sndSs a Γ G sc pa h'.1.2) (sndSs b Γ G sc pb h'.2)
    | _ => exact absurd h Bool.false_ne_true
  | .for g it b, Γ, G, sc, ps, h => by
    cases ps with
    | For tg pit pb pe p =>
      cases pe with
      | nil =>
        have h' : (Γ.M.calm && it.tgB tg && exnOk Γ.M g && chkTg Γ.N (locB sc) g tg && chkI Γ.M Γ.N it sc pit && chkSs b Γ.M Γ.N sc pb) = true := h
        simp only [Bool.and_eq_true] at h'
        obtain ⟨⟨⟨⟨⟨h1, h2⟩, h3⟩, h4⟩, h5⟩, h6⟩ := h'
        exact ss_for G h1 h2 h3 h4 (fineI_of h5) (sndI it Γ G sc pit h5) (sndSs b Γ G sc pb h6)
      | cons _ _ => exact absurd h Bool.false_ne_true
    | _ => exact absurd h Bool.false_ne_true
  | .wh c b, Γ, G, sc, ps, h => by
    cases ps with
    | While pc pb pe p =>
      cases pe with
      | nil =>
        have h' : (chkT Γ.M Γ.N c sc pc && chkSs b Γ.M Γ.N sc pb) = true := h
        simp only [Bool.and_eq_true] at h'
        exact ss_wh (sndT c Γ G sc pc h'.1).1 (sndSs b Γ G sc pb h'.2)
      | cons _ _ => exact absurd h Bool.false_ne_true
    | _ => exact absurd h Bool.false_ne_true
  | .ret e, Γ, G, sc, ps, h => by
    cases ps with
    | Return po p =>
      cases po with
      | some pe => exact ss_ret (sndE e Γ G sc pe h)
      | none => cases e <;> first | exact ss_retN | exact absurd h Bool.false_ne_true
    | _ => exact absurd h Bool.false_ne_true
  | .pass, Γ, G, sc, ps, h => by cases ps <;> first | exact ss_pass | exact absurd h Bool.false_ne_true
  | .brk, Γ, G, sc, ps, h => by cases ps <;> first | exact ss_brk | exact absurd h Bool.false_ne_true
  | .cont, Γ, G, sc, ps, h => by cases ps <;> first | exact ss_cont | exact absurd h Bool.false_ne_true
  | .stop, Γ, G, sc, ps, h => ss_stop
theorem sndSs : ∀ (s : Ss) (Γ : Gam) (G : GOk Γ) (sc : Scope) (ps : List Stmt), chkSs s Γ.M Γ.N sc ps = true → SSs Γ sc s ps
  | .nil, Γ, G, sc, [], h => sss_nil
  | .nil, Γ, G, sc, _ :: _, h => absurd h Bool.false_ne_true
  | .cons s r, Γ, G, sc, [], h => absurd h Bool.false_ne_true
  | .cons s r, Γ, G, sc, ps :: pr, h => by
    have h' : (chkS s Γ.M Γ.N sc ps && chkSs r Γ.M Γ.N sc pr) = true := h
    rw [Bool.and_eq_true] at h'
    exact sss_cons (sndS s Γ G sc ps h'.1) (sndSs r Γ G sc pr h'.2)
end
end Q3

set_option Elab.async false
set_option linter.all false
set_option maxRecDepth 100000
set_option maxHeartbeats 4000000
/-! Q3z: what the written part says of classes, as truths. -/
namespace Q3
open PySem PySem.Spec PyProof.Rows L2
section
variable {K : PySem.W.Frag}
/-- an own class: fields, methods, whether it is made -/
structure Kc where
  c : Nat
  fs : List Nat
  ms : List Nat
  ini : Bool
def kcB (K : PySem.W.Frag) (t : Kc) : Bool := (He.Fa.glo (decS t.c)).ok K && (He.Fa.cls (decS t.c)).ok K && t.fs.all (fun f => (He.Fa.noat (decS t.c) (decS f)).ok K) && t.ms.all (fun m => (He.Fa.meth (decS t.c) (decS m)).ok K) && (!t.ini || (He.Fa.mkr (decS t.c)).ok K)
abbrev cA (K : PySem.W.Frag) (c : Nat) : Addr := He.ga K (decS c)
abbrev mA (K : PySem.W.Frag) (c m : Nat) : Addr := He.ma K (cA K c) (decS m)
structure KcOk (K : PySem.W.Frag) (t : Kc) : Prop where
  ns : PySem.W.nsIn K mainGlobals (decS t.c) = some (some (.ref (cA K t.c)))
  cl : Cls K (cA K t.c)
  na : ∀ f ∈ t.fs, NoAttr K (cA K t.c) (decS f)
  mt : ∀ m ∈ t.ms, Meth K (cA K t.c) (decS m) (mA K t.c m)
  mkr : t.ini = true → Mk K (cA K t.c) (He.ma K (cA K t.c) "__init__")
theorem kcB_ok {t : Kc} (h : kcB K t = true) : KcOk K t := by
  unfold kcB at h
  simp only [Bool.and_eq_true, Bool.or_eq_true, Bool.not_eq_true', List.all_eq_true] at h
  obtain ⟨⟨⟨⟨h1, h2⟩, h3⟩, h4⟩, h5⟩ := h
  exact ⟨He.eqO_ok h1, He.cls_ok h2, fun f hf => He.noat_ok (h3 f hf), fun m hm => He.meth_ok (h4 m hm), fun e => by
    rcases h5 with h5 | h5
    · rw [e] at h5; cases h5
    · exact He.mkr_ok h5⟩
/-- an own exception class: its fields and its base, if it has an own __init__ -/
abbrev Xd : Type := Str × Option (List Str × Option Str)
def oexB (K : PySem.W.Frag) (C : Addr) : Bool := (match K.lookup C with
  | some ⟨.type "type", _, .cls cd, sl⟩ => (match cd.mro, sl.toList with
    | .ref C' :: bm, [_, _, _, _, some (.builtin n), _] => C' == C && n == "ValueError.__new__" && !cd.hasDel && cd.hasDict && PySem.HandSPX.refsVE bm
    | _, _ => false)
  | _ => false) && decide (PySem.W.findIn K (.ref C) "__setattr__" = some (some (.builtin "object.__setattr__"))) && decide (PySem.W.subIn K (.ref C) (.type "BaseException") = some true) && decide (PySem.W.typeIn K (.ref C) = some (.type "type")) && PySem.W.keepIn K (.ref C)
theorem oexB_ok {C : Addr} (h : oexB K C = true) : OexC K C := by
  unfold oexB at h
  simp only [Bool.and_eq_true, decide_eq_true_eq] at h
  obtain ⟨⟨⟨⟨h1, h2⟩, h3⟩, h4⟩, h5⟩ := h
  refine ⟨?_, h2, h3, h4, h5⟩
  split at h1
  · rename_i dd cd sl ho
    split at h1
    · rename_i C' bm k0 k1 k2 k3 n k5 hm hs
      simp only [Bool.and_eq_true, beq_iff_eq, Bool.not_eq_true'] at h1
      obtain ⟨⟨⟨⟨rfl, rfl⟩, hdel⟩, hdc⟩, hr⟩ := h1
      obtain ⟨nm, bs, mro, ns, qn, hd, sn, sub, ab, col, del⟩ := cd
      dsimp only at hm hdel hdc
      subst hm hdel hdc
      have hsl : sl = #[k0, k1, k2, k3, some (.builtin "ValueError.__new__"), k5] := by
        obtain ⟨l⟩ := sl
        simp only at hs
        rw [hs]
      subst hsl
      exact ⟨nm, qn, ns, bs, bm, sn, sub, ab, col, dd, k0, k1, k2, k3, k5, ho, hr⟩
    · cases h1
  · cases h1
def vinB (K : PySem.W.Frag) (v : Value) : Bool := match PySem.W.findCls K v (.type "type") "__init__" with
  | some (.val (.builtin n)) => decide (n = "ValueError.__init__")
  | _ => false
theorem vinB_ok {v : Value} (h : vinB K v = true) : PySem.W.findCls K v (.type "type") "__init__" = some (.val (.builtin "ValueError.__init__")) := by
  unfold vinB at h
  split at h
  · rename_i n e
    rw [e, of_decide_eq_true h]
  · cases h
def basB (K : PySem.W.Frag) : Option Str → Bool
  | none => (He.Fa.free "ValueError").ok K && vinB K (.type "ValueError")
  | some x => (He.Fa.glo x).ok K && PySem.W.readsIn K (He.ga K x) (.type "type") && decide (PySem.W.specialIn K (.ref (He.ga K x)) "__getattribute__" = some (some (.builtin "type.__getattribute__"))) &&
    vinB K (.ref (He.ga K x))
theorem basB_ok {h : Heap} {mg : Str → Option Value} (X : K.In h) (G : h.Ns mainGlobals mg) {b : Option Str} (e : basB K b = true) : BasOk K mg b := by
  cases b with
  | none =>
    have e' : ((He.Fa.free "ValueError").ok K && vinB K (.type "ValueError")) = true := e
    rw [Bool.and_eq_true] at e'
    exact ⟨He.free_ok X G e'.1, vinB_ok e'.2⟩
  | some x =>
    have e' : ((He.Fa.glo x).ok K && PySem.W.readsIn K (He.ga K x) (.type "type") && decide (PySem.W.specialIn K (.ref (He.ga K x)) "__getattribute__" = some (some (.builtin "type.__getattribute__"))) && vinB K (.ref (He.ga K x))) = true := e
    simp only [Bool.and_eq_true, decide_eq_true_eq] at e'
    exact ⟨He.ga K x, He.glo_ok X G e'.1.1.1, e'.1.1.2, e'.1.2, vinB_ok e'.2⟩
def xdB (K : PySem.W.Frag) (t : Xd) : Bool := (He.Fa.glo t.1).ok K && excCB K (He.ga K t.1) && xfB K (He.ga K t.1) && (match t.2 with
  | none => (He.Fa.exc t.1).ok K
  | some (fs, b) => oexB K (He.ga K t.1) && fs.all (fun f => decide (PySem.W.findIn K (.ref (He.ga K t.1)) f = some none)) && basB K b &&
    decide (PySem.W.findIn K (.ref (He.ga K t.1)) "__init__" = some (some (.ref (He.ma K (He.ga K t.1) "__init__")))) && decide (PySem.W.typeIn K (.ref (He.ma K (He.ga K t.1) "__init__")) = some (.type "function")))
/-- the classes' values, built-in ones behind -/
def clOf (K : PySem.W.Frag) (xs : List Xd) (bs : List String) : List Value := xs.map (fun t => .ref (He.ga K t.1)) ++ bs.map .type
def subB (K : PySem.W.Frag) (xs : List Xd) (bs : List String) (tab : List (List Bool)) : Bool := (clOf K xs bs).zip tab |>.all fun r => ((clOf K xs bs).zip r.2).all fun q => decide (PySem.W.exmOne K r.1 q.1 = some q.2) && decide (PySem.W.kitOne K r.1 q.1 = some q.2)
theorem subB_ok {xs : List Xd} {bs : List String} {tab : List (List Bool)} (h : subB K xs bs tab = true) (hl : tab.length ≤ (clOf K xs bs).length) (hr : ∀ r ∈ tab, r.length ≤ (clOf K xs bs).length) (c d : Nat) (b : Bool) (e : subOf tab c d = some b) :
    ∃ v w, (clOf K xs bs)[c]? = some v ∧ (clOf K xs bs)[d]? = some w ∧ PySem.W.exmOne K v w = some b ∧ PySem.W.kitOne K v w = some b := by
  unfold subOf at e
  split at e
  · rename_i r er
    have hc : c < (clOf K xs bs).length := Nat.lt_of_lt_of_le (List.getElem?_eq_some_iff.mp er).1 hl
    have hrm := List.mem_of_getElem? er
    have hd : d < (clOf K xs bs).length := Nat.lt_of_lt_of_le (List.getElem?_eq_some_iff.mp e).1 (hr r hrm)
    refine ⟨_, _, List.getElem?_eq_getElem hc, List.getElem?_eq_getElem hd, ?_⟩
    unfold subB at h
    have h1 := List.all_eq_true.mp h ((clOf K xs bs)[c], r) (List.mem_of_getElem? (List.getElem?_zip_eq_some.mpr ⟨List.getElem?_eq_getElem hc, er⟩))
    have h2 := List.all_eq_true.mp h1 ((clOf K xs bs)[d], b) (List.mem_of_getElem? (List.getElem?_zip_eq_some.mpr ⟨List.getElem?_eq_getElem hd, e⟩))
    rw [Bool.and_eq_true, decide_eq_true_eq, decide_eq_true_eq] at h2
    exact h2
  · cases e
/-- all of it -/
structure Xt where
  kcs : List Kc := []
  xds : List Xd := []
  bs : List String := []
  tab : List (List Bool) := []
def xtB (K : PySem.W.Frag) (t : Xt) : Bool := t.kcs.all (kcB K) && t.xds.all (xdB K) && subB K t.xds t.bs t.tab
end
end Q3

set_option Elab.async false
set_option linter.all false
set_option maxRecDepth 100000
set_option maxHeartbeats 4000000
/-! Q3l: defs, constants, the law's end. -/
namespace Q3
open PySem PySem.Spec PyProof.Rows L2
/-! ### a def's scope -/
def fnScopeB (N ps : List Str) (sc : Scope) : Bool :=
  decide (sc.kind = .function) && !sc.isCoroutine && !sc.isGenerator && decide N.Nodup && decide (N.take ps.length = ps) && ps.all (fun x => match sc.names.lookup x with
    | some .local => true
    | some .cell => true
    | _ => false) && sc.names.all (fun y => match y.2 with
    | .free => false
    | _ => true)
theorem fnScope_of {N ps : List Str} {sc : Scope} (h : fnScopeB N ps sc = true) : FnScope N ps sc := by
  unfold fnScopeB at h
  simp only [Bool.and_eq_true, Bool.not_eq_true', decide_eq_true_eq] at h
  obtain ⟨⟨⟨⟨⟨⟨h1, h2⟩, h3⟩, h4⟩, h5⟩, h6⟩, h7⟩ := h
  refine ⟨h1, h2, h3, h4, h5, fun x hx => ?_, fun y hy e => ?_⟩
  · have q := List.all_eq_true.mp h6 x hx
    split at q
    · exact .inl (by assumption)
    · exact .inr (by assumption)
    · cases q
  · have q := List.all_eq_true.mp h7 y hy
    rw [e] at q
    cases q
/-! ### all defs keep what callN tells -/
structure DOk (K : PySem.W.Frag) (M : Nms) (d : Df) (fa : Addr) : Prop where
  ex : ∃ x qual params body scope N ps fd, FunD K x qual params body scope [] [] fa fd ∧ fnScopeB N ps scope = true ∧
    (∀ (kV doc pm : Value) (an : Option Addr) (cdv ct : Value) (us : List Value), us.length = ps.length → bindArgs (PySem.W.fnOf x qual params body scope .none kV doc pm an cdv ct) ⟨us, []⟩ = pure (ps.zip us)) ∧
    chkSs d.b M N scope body = true ∧ d.n = N.length ∧ d.a = ps.length
section
variable {P : Program} {w : World} {K : PySem.W.Frag} {mg : Str → Option Value} {base : Heap} {pr : Pr} {M : Nms} {cl : List Value}
abbrev gam (P : Program) (w : World) (K : PySem.W.Frag) (mg : Str → Option Value) (base : Heap) (pr : Pr) (M : Nms) (cl : List Value) (n : Nat) (N : List Str) (W : WX) : Gam := ⟨P, w, K, mg, base, n + 2, pr.cl n, M, N, cl, W⟩
theorem fn_len {n : Nat} {d : Df} {f : Nat} (hp : pr.P[f]? = some d) : ∀ ds st Q Xk, callN pr (n + 1) f ds st Q Xk → ds.length = d.a := fun ds st Q Xk h => by
  obtain ⟨d', e, h1, _⟩ := callN_succ.mp h
  rw [hp] at e
  cases e
  exact h1
theorem fn_okQ {n : Nat} {d : Df} {x qual : Str} {f : Nat} {params : Arguments} {body : List Stmt} {scope : Scope} {N ps : List Str} {fa : Addr} {fd : FuncData} (hp : pr.P[f]? = some d) (F : FunD K x qual params body scope [] [] fa fd) (hsc : fnScopeB N ps scope = true)
    (hck : chkSs d.b M N scope body = true) (hN : d.n = N.length) (ha : d.a = ps.length) (G : ∀ N, N.Nodup → ∀ W, GOk (gam P w K mg base pr M cl n N W)) :
    FnOk P w K mg base (L2.CX P w) (n + 3) fa fd ps (spOf K cl ps.length (callN pr (n + 1) f)) := by
  have S := fnScope_of hsc
  refine F.ok S (fun vs H Q E h => h.1) fun cdv A outer s H vs Q E hr h => ?_
  obtain ⟨hl, ρ, st, ds, Q', Xk, Ab', R, hc, O, OX⟩ := h
  obtain ⟨d', e, hda, hw⟩ := callN_succ.mp hc
  rw [hp] at e
  cases e
  obtain ⟨t, pt, rt⟩ := sndSs d.b (gam P w K mg base pr M cl n N (fun cls dd _ H => E cls dd H)) (G N S.nd _) scope body hck
  refine ⟨t, pt _ ?_, ?_⟩
  · have hroom : Room (n + 2) (A.deeper (envOfC qual scope s.heap.objs.size fa cdv)) := hr
    refine ⟨⟨rfl, rfl, rfl, rfl, rfl, rfl, rfl, fun _ => rfl, takes_of rfl rfl rfl rfl, ?_, fun _ => hroom, fun x e => by cases e⟩, rfl, rfl, passes_of rfl, fun _ => rfl⟩
    have := hroom.un
    show (A.deeper (envOfC qual scope s.heap.objs.size fa cdv)).units + 65 < cLine
    omega
  · have hlen : (ds.map some ++ List.replicate (d.n - d.a) none).length = (L2.start N vs).length := by
      unfold L2.start
      rw [List.length_append, List.length_append, List.length_map, List.length_map, List.length_replicate, List.length_replicate, R.length, hN, ha, hl]
    refine rt _ st _ H ρ _ _ _ Ab' ⟨⟨hlen, fun i e he => ?_⟩, fun x i e _ => by cases e⟩ ?_ hw ⟨fun en' st' σ' H' ρ' a e _ h => O .non st' .non H' ρ' a e (rep_non.mpr rfl) h, O, fun _ _ _ _ _ _ _ _ h => h.elim, fun _ _ _ _ _ _ _ _ h => h.elim⟩
    · have hi : i < ds.length := by
        by_cases hi : i < ds.length
        · exact hi
        · rw [List.getElem?_append_right (by simpa using hi), List.getElem?_replicate] at he
          split at he <;> cases he
      rw [List.getElem?_append_left (by simpa using hi), List.getElem?_map] at he
      cases q : ds[i]? with
      | none => rw [q] at he; cases he
      | some d0 =>
        rw [q] at he
        cases he
        obtain ⟨v, hv, rv⟩ := R.get q
        refine ⟨v, ?_, rv⟩
        unfold L2.start
        rw [List.getElem?_append_left (by rw [List.length_map, ← R.length]; exact hi), List.getElem?_map, hv]
        rfl
    · intro c fs cls dd en' σ' st' H' ρ' a e _ r h
      exact OX c fs cls dd st' H' ρ' a e r h
theorem fn_step {n : Nat} {d : Df} {f : Nat} {fa : Addr} (hp : pr.P[f]? = some d) (D : DOk K M d fa) (G : ∀ N, N.Nodup → ∀ W, GOk (gam P w K mg base pr M cl n N W)) :
    ∃ fd ps, PySem.W.keepIn K (.ref fa) = true ∧ Binds K fd ps [] ∧ (∀ ds st Q Xk, callN pr (n + 1) f ds st Q Xk → ds.length = ps.length) ∧
      FnOk P w K mg base (L2.CX P w) (n + 3) fa fd ps (spOf K cl ps.length (callN pr (n + 1) f)) := by
  obtain ⟨x, qual, params, body, scope, N, ps, fd, F, hsc, hb, hck, hN, ha⟩ := D.ex
  have hb2 := FunD.bindsA F hb
  exact ⟨fd, ps, F.kp, fun s us _ hl => by rw [List.append_nil] at hl ⊢; exact hb2 s us hl, fun ds st Q Xk h => by rw [← ha]; exact fn_len hp ds st Q Xk h, fn_okQ hp F hsc hck hN ha G⟩
/-- a def of which nothing is asked -/
theorem fn_none {d : Df} {fa : Addr} {c : List D → Sto → KD → KX → Prop} (D : DOk K M d fa) (hc : ∀ ds st Q Xk, ¬ c ds st Q Xk) (k : Nat) :
    ∃ fd ps, PySem.W.keepIn K (.ref fa) = true ∧ Binds K fd ps [] ∧ (∀ ds st Q Xk, c ds st Q Xk → ds.length = ps.length) ∧ FnOk P w K mg base (L2.CX P w) k fa fd ps (spOf K cl ps.length c) := by
  obtain ⟨x, qual, params, body, scope, N, ps, fd, F, hsc, hb, hck, _, _⟩ := D.ex
  have hb2 := FunD.bindsA F hb
  refine ⟨fd, ps, F.kp, fun s us _ hl => by rw [List.append_nil] at hl ⊢; exact hb2 s us hl, fun _ _ _ _ h => (hc _ _ _ _ h).elim, fun vs H Q E h => h.1, fun A outer s H args us vs Q E _ _ _ _ h => ?_⟩
  obtain ⟨_, _, _, _, _, _, _, _, h, _⟩ := h
  exact (hc _ _ _ _ h).elim
/-- what the written part says of the program's names -/
structure TxtOk (w : World) (K : PySem.W.Frag) (mg : Str → Option Value) (cl : List Value) (pr : Pr) (M : Nms) : Prop where
  gl : ∀ (k : Nat) x, M.Gn[k]? = some x → ∃ d u v, pr.G[k]? = some d ∧ mg x = some u ∧ RelV v u ∧ ∀ ρ H, Rep K ρ H d v
  bt : ∀ x ∈ M.B, mg x = none
  fn : ∀ (f : Nat) x, M.F[f]? = some x → ∃ d fa, pr.P[f]? = some d ∧ mg x = some (.ref fa) ∧ DOk K M d fa
  mt : ∀ (c m k : Nat), methOf pr.ms c m = some k → ∃ d C fa, pr.P[k]? = some d ∧ PySem.W.nsIn K mainGlobals (decS c) = some (some (.ref C)) ∧ Cls K C ∧ Meth K C (decS m) fa ∧ DOk K M d fa
  nw : ∀ (c k : Nat), pr.ini.lookup c = some k → ∃ d C fa, pr.P[k]? = some d ∧ PySem.W.nsIn K mainGlobals (decS c) = some (some (.ref C)) ∧ mg (decS c) = some (.ref C) ∧ Mk K C fa ∧ DOk K M d fa
  fd : ∀ (c f : Nat), fdB pr.fds c f = true → ∃ C, PySem.W.nsIn K mainGlobals (decS c) = some (some (.ref C)) ∧ Cls K C ∧ NoAttr K C (decS f)
  xn : ∀ (c : Nat) x, M.Xn[c]? = some x → ∃ v, cl[c]? = some v ∧ ((∃ C, v = .ref C ∧ mg x = some (.ref C)) ∨ (∃ T, v = .type T ∧ mg x = none ∧ bootBuiltins x = some (.type T) ∧ x ≠ "__name__"))
  xr : ∀ (c : Nat) x o, M.Xn[c]? = some x → pr.X[c]? = some o → ∃ C, cl[c]? = some (.ref C) ∧ mg x = some (.ref C) ∧ (match o with
    | none => PySem.W.excIn K C He.veBase "ValueError.__new__" = true ∧ PySem.W.keepIn K (.ref C) = true ∧ PySem.W.subIn K (.ref C) (.type "BaseException") = some true ∧ PySem.W.typeIn K (.ref C) = some (.type "type")
    | some fs => OexC K C ∧ fs.Nodup ∧ fs.length ≤ 900 ∧ fs ≠ [] ∧ ∃ fI fd x' qual params body sc b, PySem.W.findIn K (.ref C) "__init__" = some (some (.ref fI)) ∧ PySem.W.typeIn K (.ref fI) = some (.type "function") ∧
        FunD K x' qual params body sc [] [] fI fd ∧ fnScopeB (("self" : Str) :: fs) (("self" : Str) :: fs) sc = true ∧
        (∀ (kV doc pm : Value) (an : Option Addr) (cdv ct : Value) (us : List Value), us.length = (("self" : Str) :: fs).length → bindArgs (PySem.W.fnOf x' qual params body sc .none kV doc pm an cdv ct) ⟨us, []⟩ = pure ((("self" : Str) :: fs).zip us)) ∧
        chkXI b fs body = true ∧ nmOk sc "self" = true ∧ (∀ f ∈ fs, nmOk sc f = true ∧ PySem.W.findIn K (.ref C) f = some none) ∧ gloB sc (b.getD "ValueError") = true ∧ BasOk K mg b)
  xs : ∀ (c d : Nat) b, pr.sub c d = some b → ∃ v w, cl[c]? = some v ∧ cl[d]? = some w ∧ PySem.W.exmOne K v w = some b ∧ PySem.W.kitOne K v w = some b
  xe : ∀ (c : Nat) o, pr.X[c]? = some o → ∃ D, cl[c]? = some (.ref D) ∧ ExcC K D ∧ XfC K D ∧ ∀ fs, o = some fs → ∀ f ∈ fs, PySem.W.findIn K (.ref D) f = some none
  kd : ∀ (k : Nat) x, M.Kn[k]? = some x → ∃ d es n, mg x = some (.ref d) ∧ KDict K w d es n ∧ ∀ z o, kdAt pr.KD k (.str z) = some o → ∃ r, PySem.W.nsIn K d z = some r ∧ ((o = none ∧ r = none) ∨ ∃ dd u v, o = some dd ∧ r = some u ∧ RelV v u ∧ ∀ ρ H, Rep K ρ H dd v)
theorem xr_gok (T : TxtOk w K mg cl pr M) : ∀ (c : Nat) x o, M.Xn[c]? = some x → pr.X[c]? = some o → ∃ C, cl[c]? = some (.ref C) ∧ mg x = some (.ref C) ∧ (match o with
    | none => PySem.W.excIn K C He.veBase "ValueError.__new__" = true ∧ PySem.W.keepIn K (.ref C) = true ∧ PySem.W.subIn K (.ref C) (.type "BaseException") = some true ∧ PySem.W.typeIn K (.ref C) = some (.type "type")
    | some fs => OexC K C ∧ fs.Nodup ∧ fs.length ≤ 900 ∧ ∃ fI fd, PySem.W.findIn K (.ref C) "__init__" = some (some (.ref fI)) ∧ PySem.W.typeIn K (.ref fI) = some (.type "function") ∧ Binds K fd (("self" : Str) :: fs) [] ∧
        ∀ k, FnOk P w K mg base (L2.CX P w) (k + 1) fI fd (("self" : Str) :: fs) (spX C fs)) := by
  intro c x o h1 h2
  obtain ⟨C, hC, hm, hk⟩ := T.xr c x o h1 h2
  refine ⟨C, hC, hm, ?_⟩
  cases o with
  | none => exact hk
  | some fs =>
    obtain ⟨T1, hnd, hle, hne, fI, fd, x', qual, params, body, sc, b, iC, tI, F, hsc, hb, hck, hs, hf, hg, hB⟩ := hk
    have hb2 := FunD.bindsA F hb
    exact ⟨T1, hnd, hle, fI, fd, iC, tI, fun s us _ hl => by rw [List.append_nil] at hl ⊢; exact hb2 s us hl, fun k => xi_ok F (fnScope_of hsc) T1 hck hs hne hle hf hg hB k⟩
theorem gok (T : TxtOk w K mg cl pr M) : ∀ (n : Nat) (N : List Str), N.Nodup → ∀ W, GOk (gam P w K mg base pr M cl n N W)
  | 0, N, hN, W => ⟨hN, T.gl, T.bt, fun f x h => by
      obtain ⟨d, fa, hd, hm, D⟩ := T.fn f x h
      obtain ⟨fd, ps, z⟩ := fn_none D (c := callN pr 0 f) (fun _ _ _ _ => callN_zero) _
      exact ⟨fa, fd, ps, hm, z⟩, fun _ => rfl, Nat.le_refl _, fun c m k h => by
      obtain ⟨d, C, fa, hd, hC, cl, hm, D⟩ := T.mt c m k h
      obtain ⟨fd, ps, z1, z⟩ := fn_none D (c := callN pr 0 k) (fun _ _ _ _ => callN_zero) _
      exact ⟨C, fa, fd, ps, hC, cl, hm, z⟩, fun c k h => by
      obtain ⟨d, C, fa, hd, hC, hm, M, D⟩ := T.nw c k h
      obtain ⟨fd, ps, z1, z⟩ := fn_none D (c := callM pr 0 k) (fun _ _ _ _ h => by rw [callM_eq0] at h; exact h) _
      exact ⟨C, fa, fd, ps, hC, hm, M, z⟩, T.fd, T.xn, xr_gok T, T.xs, T.xe, T.kd⟩
  | n + 1, N, hN, W => ⟨hN, T.gl, T.bt, fun f x h => by
      obtain ⟨d, fa, hd, hm, D⟩ := T.fn f x h
      obtain ⟨fd, ps, z⟩ := fn_step hd D (gok T n)
      exact ⟨fa, fd, ps, hm, z⟩, fun _ => rfl, Nat.le_add_left _ _, fun c m k h => by
      obtain ⟨d, C, fa, hd, hC, cl, hm, D⟩ := T.mt c m k h
      obtain ⟨fd, ps, z1, z⟩ := fn_step hd D (gok T n)
      exact ⟨C, fa, fd, ps, hC, cl, hm, z⟩, fun c k h => by
      obtain ⟨d, C, fa, hd, hC, hm, M, D⟩ := T.nw c k h
      cases n with
      | zero =>
        obtain ⟨fd, ps, z1, z⟩ := fn_none D (c := callM pr 1 k) (fun _ _ _ _ h => by rw [callM_eq, callN_eq0] at h; exact h) _
        exact ⟨C, fa, fd, ps, hC, hm, M, z⟩
      | succ n =>
        obtain ⟨fd, ps, z1, z⟩ := fn_step hd D (gok T n)
        refine ⟨C, fa, fd, ps, hC, hm, M, z.1, ?_, ?_⟩
        · show ∀ ds st Q Xk, callM pr (n + 1 + 1) k ds st Q Xk → _
          rw [callM_eq]; exact z.2.1
        · show FnOk P w K mg base (L2.CX P w) (n + 1 + 1 + 2 - 1) fa fd ps (spOf K _ ps.length (callM pr (n + 1 + 1) k))
          rw [callM_eq]; exact z.2.2, T.fd, T.xn, xr_gok T, T.xs, T.xe, T.kd⟩
end
/-! ### constants -/
mutual
def repB (K : PySem.W.Frag) : D → Value → Bool
  | .non, .none => true
  | .bl b, .bool c => b == c
  | .int i, .int j _ => decide (i = j)
  | .str x, .str y _ => decide (x = y) && decide (x.length ≤ Lm)
  | .tup ds, .ref a => match K.lookup a with
    | some ⟨.type c, _, .seq its _, _⟩ => decide (c = "tuple") && (decide (its.size ≤ sizeLine) && repsB K ds its.toList)
    | _ => false
  | _, _ => false
def repsB (K : PySem.W.Frag) : List D → List Value → Bool
  | [], [] => true
  | d :: ds, u :: us => repB K d u && repsB K ds us
  | _, _ => false
end
mutual
theorem repB_ok {K : PySem.W.Frag} : ∀ (d : D) (u : Value), repB K d u = true → ∃ v, RelV v u ∧ ∀ ρ H, Rep K ρ H d v
  | .non, u, h => by
    cases u with
    | none => exact ⟨.non, rfl, fun _ _ => rep_non.mpr rfl⟩
    | _ => exact absurd h Bool.false_ne_true
  | .bl b, u, h => by
    cases u with
    | bool c =>
      have e : b = c := by have h' : (b == c) = true := h; exact eq_of_beq h'
      subst e
      exact ⟨.bl b, rfl, fun _ _ => rep_bl.mpr rfl⟩
    | _ => exact absurd h Bool.false_ne_true
  | .int i, u, h => by
    cases u with
    | int j t =>
      have e : i = j := of_decide_eq_true h
      subst e
      exact ⟨.int i, ⟨t, rfl⟩, fun _ _ => rep_int.mpr rfl⟩
    | _ => exact absurd h Bool.false_ne_true
  | .str x, u, h => by
    cases u with
    | str y t =>
      have h' : (decide (x = y) && decide (x.length ≤ Lm)) = true := h
      rw [Bool.and_eq_true, decide_eq_true_eq, decide_eq_true_eq] at h'
      obtain ⟨e, hl⟩ := h'
      subst e
      exact ⟨.str x, ⟨t, rfl⟩, fun _ _ => rep_str.mpr ⟨rfl, hl⟩⟩
    | _ => exact absurd h Bool.false_ne_true
  | .tup ds, u, h => by
    cases u with
    | ref a =>
      have h' : (match K.lookup a with
        | some ⟨.type c, _, .seq its _, _⟩ => decide (c = "tuple") && (decide (its.size ≤ sizeLine) && repsB K ds its.toList)
        | _ => false) = true := h
      cases q : K.lookup a with
      | none => rw [q] at h'; cases h'
      | some o =>
        obtain ⟨oc, od, dt, osl⟩ := o
        rw [q] at h'
        cases oc with
        | type c =>
          cases dt with
          | seq its n =>
            have h2 : (decide (c = "tuple") && (decide (its.size ≤ sizeLine) && repsB K ds its.toList)) = true := h'
            simp only [Bool.and_eq_true, decide_eq_true_eq] at h2
            obtain ⟨h3, h4, h5⟩ := h2
            obtain ⟨vs, rv, rp⟩ := repsB_ok ds its.toList h5
            exact ⟨.ref a, rfl, fun ρ H => rep_tup.mpr ⟨a, vs, rfl, .inr ⟨_, its, n, q, congrArg Value.type h3, rfl, h4, rv⟩, rp ρ H⟩⟩
          | _ => exact absurd h' Bool.false_ne_true
        | _ => cases dt <;> exact absurd h' Bool.false_ne_true
    | _ => exact absurd h Bool.false_ne_true
  | .ref n, u, h => by cases u <;> exact absurd h Bool.false_ne_true
theorem repsB_ok {K : PySem.W.Frag} : ∀ (ds : List D) (us : List Value), repsB K ds us = true → ∃ vs, Vals vs us ∧ ∀ ρ H, Reps K ρ H ds vs
  | [], [], _ => ⟨[], .nil, fun _ _ => reps_nil.mpr rfl⟩
  | [], _ :: _, h => absurd h Bool.false_ne_true
  | _ :: _, [], h => absurd h Bool.false_ne_true
  | d :: ds, u :: us, h => by
    have h' : (repB K d u && repsB K ds us) = true := h
    rw [Bool.and_eq_true] at h'
    obtain ⟨v, r1, p1⟩ := repB_ok d u h'.1
    obtain ⟨vs, r2, p2⟩ := repsB_ok ds us h'.2
    exact ⟨v :: vs, .cons r1 r2, fun ρ H => reps_cons.mpr ⟨v, vs, rfl, p1 ρ H, p2 ρ H⟩⟩
end
def conB (K : PySem.W.Frag) (c : Str × D) : Bool := match PySem.W.nsIn K mainGlobals c.1 with
  | some (some u) => repB K c.2 u
  | _ => false
theorem conB_ok {K : PySem.W.Frag} {h : Heap} {mg : Str → Option Value} (X : K.In h) (G : h.Ns mainGlobals mg) {c : Str × D} (q : conB K c = true) : ∃ u v, mg c.1 = some u ∧ RelV v u ∧ ∀ ρ H, Rep K ρ H c.2 v := by
  unfold conB at q
  cases e : PySem.W.nsIn K mainGlobals c.1 with
  | none => rw [e] at q; cases q
  | some r =>
    rw [e] at q
    cases r with
    | none => cases q
    | some u =>
      obtain ⟨v, h1, h2⟩ := repB_ok c.2 u q
      exact ⟨u, v, PySem.W.mg_of X G e, h1, h2⟩
/-! ### written dicts -/
abbrev Kd : Type := Str × List (Str × D)
def gaD (K : PySem.W.Frag) (x : Str) : Addr := match PySem.W.nsIn K mainGlobals x with
  | some (some (.ref a)) => a
  | _ => 0
def kdB (K : PySem.W.Frag) (t : Kd) : Bool := (match PySem.W.nsIn K mainGlobals t.1 with
  | some (some (.ref _)) => true
  | _ => false) && t.2.all fun q => match PySem.W.nsIn K (gaD K t.1) q.1 with
  | some (some u) => repB K q.2 u
  | _ => false
theorem kdB_ref {K : PySem.W.Frag} {t : Kd} (h : kdB K t = true) : PySem.W.nsIn K mainGlobals t.1 = some (some (.ref (gaD K t.1))) := by
  unfold kdB at h
  rw [Bool.and_eq_true] at h
  unfold gaD
  have h1 := h.1
  split at h1
  · rename_i a e
    rw [e]
  · cases h1
theorem he_find {es : List DictEntry} {P : Params} : ∀ {ks : List Str}, es.map He.keyOf = He.keysIn P ks → ∀ z, z ∉ ks → es.find? (·.key.isStr z) = none ∧ es.any (·.refKey) = false := by
  induction es with
  | nil => intro ks _ z _; exact ⟨rfl, rfl⟩
  | cons e r ih =>
    intro ks h z hz
    cases ks with
    | nil => cases h
    | cons k ks =>
      have h1 : He.keyOf e :: r.map He.keyOf = some (k, PyData.keyHash P k) :: He.keysIn P ks := h
      injection h1 with h2 h3
      rw [List.mem_cons, not_or] at hz
      obtain ⟨i1, i2⟩ := ih h3 z hz.2
      unfold He.keyOf at h2
      split at h2
      · rename_i x t q
        have h4 := Option.some.inj h2
        obtain ⟨h5, h6⟩ := Prod.mk.inj h4
        have e1 : e.key.isStr z = false := by
          rw [q]
          have : ¬ x = z := by rw [h5]; exact fun y => hz.1 y.symm
          show (x == z) = false
          simpa using this
        have e2 : e.refKey = false := by
          unfold DictEntry.refKey
          rw [q]
        exact ⟨by rw [List.find?_cons, e1]; exact i1, by rw [List.any_cons, e2, i2]; rfl⟩
      · cases h2
theorem kd_ok {K : PySem.W.Frag} {w : World} {h : Heap} {mg : Str → Option Value} (X : K.In h) (G : h.Ns mainGlobals mg) {t : Kd} (h1 : kdB K t = true) (h2 : He.dicW K (gaD K t.1) = some (He.keysIn w.params (t.2.map (·.1)))) {kd : List (List (Str × D))} {k : Nat} (hk : kd[k]? = some t.2) :
    ∃ d es n, mg t.1 = some (.ref d) ∧ KDict K w d es n ∧ ∀ z o, kdAt kd k (.str z) = some o → ∃ r, PySem.W.nsIn K d z = some r ∧ ((o = none ∧ r = none) ∨ ∃ dd u v, o = some dd ∧ r = some u ∧ RelV v u ∧ ∀ ρ H, Rep K ρ H dd v) := by
  obtain ⟨es, n, KD⟩ := He.dicW_ok h2
  refine ⟨gaD K t.1, es, n, PySem.W.mg_of X G (kdB_ref h1), KD, fun z o ho => ?_⟩
  have ho' : (kd[k]?).map (fun es => es.lookup z) = some o := ho
  rw [hk] at ho'
  have ho2 : t.2.lookup z = o := Option.some.inj ho'
  cases o with
  | some dd =>
    have hm : (z, dd) ∈ t.2 := by
      have go : ∀ (l : List (Str × D)), l.lookup z = some dd → (z, dd) ∈ l := by
        intro l
        induction l with
        | nil => intro h; cases h
        | cons p l ih =>
          intro h
          obtain ⟨a, b⟩ := p
          rw [List.lookup_cons] at h
          cases e : (z == a) with
          | true =>
            rw [e] at h
            have ez : z = a := eq_of_beq e
            cases h
            subst ez
            exact List.mem_cons_self
          | false =>
            rw [e] at h
            exact List.mem_cons_of_mem _ (ih h)
      exact go _ ho2
    unfold kdB at h1
    rw [Bool.and_eq_true] at h1
    have q := List.all_eq_true.mp h1.2 _ hm
    have q' : (match PySem.W.nsIn K (gaD K t.1) z with
      | some (some u) => repB K dd u
      | _ => false) = true := q
    split at q'
    · rename_i u e
      obtain ⟨v, r1, r2⟩ := repB_ok dd u q'
      exact ⟨some u, e, .inr ⟨dd, u, v, rfl, rfl, r1, r2⟩⟩
    · cases q'
  | none =>
    have hz : z ∉ t.2.map (·.1) := by
      have go : ∀ (l : List (Str × D)), l.lookup z = none → z ∉ l.map (·.1) := by
        intro l
        induction l with
        | nil => intro _ h; cases h
        | cons p l ih =>
          intro h
          obtain ⟨a, b⟩ := p
          rw [List.lookup_cons] at h
          cases e : (z == a) with
          | true => rw [e] at h; cases h
          | false =>
            rw [e] at h
            rw [List.map_cons, List.mem_cons, not_or]
            exact ⟨by simpa using e, ih h⟩
      exact go _ ho2
    have he : es.toList.map He.keyOf = He.keysIn w.params (t.2.map (·.1)) := by
      unfold He.dicW at h2
      rw [KD.at_] at h2
      have h3 : (match decide (("dict" : String) = "dict") && ((#[] : Array (Option Value)).isEmpty && !((gaD K t.1) == sysModules)) with
        | true => some (es.toList.map He.keyOf)
        | false => none) = some (He.keysIn w.params (t.2.map (·.1))) := h2
      rw [KD.low] at h3
      exact Option.some.inj h3
    obtain ⟨f1, f2⟩ := he_find he z hz
    refine ⟨none, ?_, .inl ⟨rfl, rfl⟩⟩
    unfold PySem.W.nsIn
    rw [KD.at_]
    show (match es.toList.find? (·.key.isStr z) with
      | some e => some (some e.val)
      | none => if es.toList.any (·.refKey) then none else some none) = some none
    rw [f1, f2]
    rfl
/-! ### the Hook -/
open He in
abbrev AlQ : Type := (AlD × Bool) × List (Option (List (Option (Str × Int))))
def obsQ (fa : List He.Fa) (fn : List He.DefD) (cs : List (Str × D)) (kd : List Kd) (xt : Xt) (K : PySem.W.Frag) : AlQ := ((He.obsD fa fn K, cs.all (conB K) && kd.all (kdB K) && xtB K xt), kd.map fun t => He.dicW K (gaD K t.1))
def valQ (fn : List He.DefD) (kd : List Kd) (w : World) : AlQ := ((He.valD fn, true), kd.map fun t => some (He.keysIn w.params (t.2.map (·.1))))
def SaysQ (fa : List He.Fa) (fn : List He.DefD) (cs : List (Str × D)) (kd : List Kd) (xt : Xt) (w : World) (K : PySem.W.Frag) : Prop := obsQ fa fn cs kd xt K = valQ fn kd w
def obsQG (n : Nat) (fa : List He.Fa) (fn : List He.DefD) (cs : List (Str × D)) (kd : List Kd) (xt : Xt) (g : Addr → Option Obj) : AlQ := obsQ fa fn cs kd xt (He.frG g (PySem.cStatics :: He.asD g n))
def hookQ (n : Nat) (fa : List He.Fa) (fn : List He.DefD) (cs : List (Str × D)) (kd : List Kd) (xt : Xt) : PySem.W.Hook where
  α := AlQ
  obs := fun s => obsQG n fa fn cs kd xt s.heap.get?
  val := fun w => valQ fn kd w
  says := fun w h => ∃ K : PySem.W.Frag, K.In h ∧ SaysQ fa fn cs kd xt w K
  of := fun _ _ e => ⟨_, He.frG_in, e⟩
  keeps := fun _ _ _ ⟨K, hK, c⟩ k => ⟨K, PySem.W.Frag.In.keeps hK k, c⟩
theorem obsQG_eq {n : Nat} {fa : List He.Fa} {fn : List He.DefD} {cs : List (Str × D)} {kd : List Kd} {xt : Xt} {g : Addr → Option Obj} {s : Shared} (h : ∀ a, g a = s.heap.get? a) : obsQG n fa fn cs kd xt g = (hookQ n fa fn cs kd xt).obs s := by
  have e : g = s.heap.get? := funext h
  rw [e] <;> rfl
section
variable {fa : List He.Fa} {fn : List He.DefD} {cs : List (Str × D)} {kd : List Kd} {xt : Xt} {w : World} {K : PySem.W.Frag}
theorem SaysQ.d (c : SaysQ fa fn cs kd xt w K) : He.SaysD fa fn K := congrArg (fun z : AlQ => z.1.1) c
theorem SaysQ.cb (c : SaysQ fa fn cs kd xt w K) : (cs.all (conB K) && kd.all (kdB K) && xtB K xt) = true := congrArg (fun z : AlQ => z.1.2) c
theorem SaysQ.c (c : SaysQ fa fn cs kd xt w K) : cs.all (conB K) = true := (Bool.and_eq_true_iff.mp (Bool.and_eq_true_iff.mp c.cb).1).1
theorem SaysQ.x (c : SaysQ fa fn cs kd xt w K) : xtB K xt = true := (Bool.and_eq_true_iff.mp c.cb).2
theorem SaysQ.dicts (c : SaysQ fa fn cs kd xt w K) {h : Heap} {mg : Str → Option Value} (X : K.In h) (G : h.Ns mainGlobals mg) : ∀ (k : Nat) x, (kd.map (·.1))[k]? = some x → ∃ d es n, mg x = some (.ref d) ∧ KDict K w d es n ∧ ∀ z o, kdAt (kd.map (·.2)) k (.str z) = some o → ∃ r, PySem.W.nsIn K d z = some r ∧ ((o = none ∧ r = none) ∨ ∃ dd u v, o = some dd ∧ r = some u ∧ RelV v u ∧ ∀ ρ H, Rep K ρ H dd v) := by
  intro k x hk
  rw [List.getElem?_map, Option.map_eq_some_iff] at hk
  obtain ⟨t, ht, rfl⟩ := hk
  have h1 := List.all_eq_true.mp (Bool.and_eq_true_iff.mp (Bool.and_eq_true_iff.mp c.cb).1).2 t (List.mem_of_getElem? ht)
  have e : kd.map (fun t => He.dicW K (gaD K t.1)) = kd.map fun t => some (He.keysIn w.params (t.2.map (·.1))) := congrArg (fun z : AlQ => z.2) c
  have e2 : (kd.map fun t => He.dicW K (gaD K t.1))[k]? = (kd.map fun t => some (He.keysIn w.params (t.2.map (·.1))))[k]? := by rw [e]
  rw [List.getElem?_map, List.getElem?_map, ht] at e2
  exact kd_ok X G h1 (Option.some.inj e2) (by rw [List.getElem?_map, ht]; rfl)
theorem SaysQ.kc (c : SaysQ fa fn cs kd xt w K) {t : Kc} (h : t ∈ xt.kcs) : KcOk K t := by
  have h1 := c.x
  unfold xtB at h1
  rw [Bool.and_eq_true, Bool.and_eq_true] at h1
  exact kcB_ok (List.all_eq_true.mp h1.1.1 t h)
theorem SaysQ.xd (c : SaysQ fa fn cs kd xt w K) {t : Xd} (h : t ∈ xt.xds) : xdB K t = true := by
  have h1 := c.x
  unfold xtB at h1
  rw [Bool.and_eq_true, Bool.and_eq_true] at h1
  exact List.all_eq_true.mp h1.1.2 t h
theorem SaysQ.sb (c : SaysQ fa fn cs kd xt w K) : subB K xt.xds xt.bs xt.tab = true := by
  have h1 := c.x
  unfold xtB at h1
  rw [Bool.and_eq_true, Bool.and_eq_true] at h1
  exact h1.2
/-- what the tables of classes must be like -/
structure XtFit (pr : Pr) (M : Nms) (xt : Xt) : Prop where
  Xn : M.Xn = xt.xds.map (·.1) ++ xt.bs.map Str.ofString
  X : pr.X = xt.xds.map fun t => t.2.map (·.1)
  sub : pr.sub = subOf xt.tab
  tl : xt.tab.length ≤ (xt.xds.length + xt.bs.length)
  tr : ∀ r ∈ xt.tab, r.length ≤ (xt.xds.length + xt.bs.length)
  bt : ∀ T ∈ xt.bs, Str.ofString T ∈ M.B ∧ bootBuiltins (Str.ofString T) = some (.type T) ∧ Str.ofString T ≠ "__name__"
  fds : pr.fds = xt.kcs.map fun t => (t.c, t.fs)
theorem clOf_len : (clOf K xt.xds xt.bs).length = xt.xds.length + xt.bs.length := by
  unfold clOf
  rw [List.length_append, List.length_map, List.length_map]
theorem mem_of_lookupN {α : Type} {l : List (Nat × α)} : ∀ {k : Nat} {v : α}, l.lookup k = some v → (k, v) ∈ l := by
  induction l with
  | nil => intro k v h; cases h
  | cons p l ih =>
    intro k v h
    obtain ⟨g, u⟩ := p
    rw [List.lookup_cons] at h
    cases e : (k == g) with
    | true =>
      rw [e] at h
      cases h
      have : k = g := by simpa using e
      rw [this]
      exact List.mem_cons_self
    | false => rw [e] at h; exact List.mem_cons_of_mem _ (ih h)
/-- the statements of a class -/
def clsSt (s : Stmt) : List Stmt := match s with
  | .ClassDef (body := ss) .. => ss
  | _ => []
theorem methOf_mem {ms : List (Nat × List (Nat × Nat))} {c m k : Nat} (h : methOf ms c m = some k) : ∃ t, (c, t) ∈ ms ∧ (m, k) ∈ t := by
  unfold methOf at h
  split at h
  · rename_i t e
    exact ⟨t, mem_of_lookupN e, mem_of_lookupN h⟩
  · cases h
/-- the rest of what the text says, but for the defs -/
theorem txt_of {h : Heap} {mg : Str → Option Value} {pr : Pr} {M : Nms} (X : K.In h) (G : h.Ns mainGlobals mg) (c : SaysQ fa fn cs kd xt w K) (F : XtFit pr M xt)
    (gl : ∀ (k : Nat) x, M.Gn[k]? = some x → ∃ d u v, pr.G[k]? = some d ∧ mg x = some u ∧ RelV v u ∧ ∀ ρ H, Rep K ρ H d v) (bt : ∀ x ∈ M.B, mg x = none)
    (hfn : ∀ (f : Nat) x, M.F[f]? = some x → ∃ d fa, pr.P[f]? = some d ∧ mg x = some (.ref fa) ∧ DOk K M d fa)
    (hms : ∀ (cc m k : Nat), methOf pr.ms cc m = some k → (∃ t ∈ xt.kcs, t.c = cc ∧ m ∈ t.ms) ∧ ∃ d, pr.P[k]? = some d ∧ DOk K M d (mA K cc m))
    (hnw : ∀ (cc k : Nat), pr.ini.lookup cc = some k → (∃ t ∈ xt.kcs, t.c = cc ∧ t.ini = true) ∧ ∃ d, pr.P[k]? = some d ∧ DOk K M d (He.ma K (cA K cc) "__init__"))
    (hxi : ∀ t ∈ xt.xds, ∀ fs b, t.2 = some (fs, b) → fs.Nodup ∧ fs.length ≤ 900 ∧ fs ≠ [] ∧ ∃ fd x' qual params body sc, FunD K x' qual params body sc [] [] (He.ma K (He.ga K t.1) "__init__") fd ∧ fnScopeB (("self" : Str) :: fs) (("self" : Str) :: fs) sc = true ∧
        (∀ (kV doc pm : Value) (an : Option Addr) (cdv ct : Value) (us : List Value), us.length = (("self" : Str) :: fs).length → bindArgs (PySem.W.fnOf x' qual params body sc .none kV doc pm an cdv ct) ⟨us, []⟩ = pure ((("self" : Str) :: fs).zip us)) ∧
        chkXI b fs body = true ∧ nmOk sc "self" = true ∧ (∀ f ∈ fs, nmOk sc f = true) ∧ gloB sc (b.getD "ValueError") = true)
    (kdx : ∀ (k : Nat) x, M.Kn[k]? = some x → ∃ d es n, mg x = some (.ref d) ∧ KDict K w d es n ∧ ∀ z o, kdAt pr.KD k (.str z) = some o → ∃ r, PySem.W.nsIn K d z = some r ∧ ((o = none ∧ r = none) ∨ ∃ dd u v, o = some dd ∧ r = some u ∧ RelV v u ∧ ∀ ρ H, Rep K ρ H dd v)) :
    TxtOk w K mg (clOf K xt.xds xt.bs) pr M := by
  have own : ∀ (n : Nat) t, xt.xds[n]? = some t → (clOf K xt.xds xt.bs)[n]? = some (.ref (He.ga K t.1)) := fun n t ht => by
    unfold clOf
    rw [List.getElem?_append_left (by rw [List.length_map]; exact (List.getElem?_eq_some_iff.mp ht).1), List.getElem?_map, ht]; rfl
  have xat : ∀ (n : Nat) o, pr.X[n]? = some o → ∃ t, xt.xds[n]? = some t ∧ o = t.2.map (·.1) := fun n o ho => by
    rw [F.X, List.getElem?_map, Option.map_eq_some_iff] at ho
    obtain ⟨t, ht, rfl⟩ := ho
    exact ⟨t, ht, rfl⟩
  have xparts : ∀ t ∈ xt.xds, mg t.1 = some (.ref (He.ga K t.1)) ∧ ExcC K (He.ga K t.1) ∧ XfC K (He.ga K t.1) ∧ (match t.2 with
    | none => (He.Fa.exc t.1).ok K
    | some (fs, b) => oexB K (He.ga K t.1) && fs.all (fun f => decide (PySem.W.findIn K (.ref (He.ga K t.1)) f = some none)) && basB K b &&
      decide (PySem.W.findIn K (.ref (He.ga K t.1)) "__init__" = some (some (.ref (He.ma K (He.ga K t.1) "__init__")))) && decide (PySem.W.typeIn K (.ref (He.ma K (He.ga K t.1) "__init__")) = some (.type "function"))) = true := fun t ht => by
    have h1 := c.xd ht
    unfold xdB at h1
    rw [Bool.and_eq_true, Bool.and_eq_true, Bool.and_eq_true] at h1
    exact ⟨He.glo_ok X G h1.1.1.1, excCB_ok h1.1.1.2, xfB_ok h1.1.2, h1.2⟩
  refine ⟨gl, bt, hfn, fun cc m k hk => ?_, fun cc k hk => ?_, fun cc f hf => ?_, fun n x hx => ?_, fun n x o hx ho => ?_, fun a b t ht => ?_, fun n o ho => ?_, kdx⟩
  · obtain ⟨⟨t, ht, rfl, hm⟩, d, hd, D⟩ := hms cc m k hk
    have q := c.kc ht
    exact ⟨d, _, _, hd, q.ns, q.cl, q.mt m hm, D⟩
  · obtain ⟨⟨t, ht, rfl, hm⟩, d, hd, D⟩ := hnw cc k hk
    have q := c.kc ht
    exact ⟨d, _, _, hd, q.ns, PySem.W.mg_of X G q.ns, q.mkr hm, D⟩
  · rw [F.fds] at hf
    unfold fdB at hf
    split at hf
    · rename_i l e
      have hm := mem_of_lookupN e
      obtain ⟨t, ht, e2⟩ := List.mem_map.mp hm
      cases e2
      have q := c.kc ht
      exact ⟨_, q.ns, q.cl, q.na f (List.mem_of_elem_eq_true hf)⟩
    · cases hf
  · rw [F.Xn] at hx
    by_cases hn : n < xt.xds.length
    · rw [List.getElem?_append_left (by rw [List.length_map]; exact hn), List.getElem?_map, List.getElem?_eq_getElem hn] at hx
      cases hx
      exact ⟨_, own n _ (List.getElem?_eq_getElem hn), .inl ⟨_, rfl, (xparts _ (List.getElem_mem hn)).1⟩⟩
    · rw [List.getElem?_append_right (by rw [List.length_map]; omega), List.length_map, List.getElem?_map, Option.map_eq_some_iff] at hx
      obtain ⟨T, hT, rfl⟩ := hx
      obtain ⟨b1, b2, b3⟩ := F.bt T (List.mem_of_getElem? hT)
      refine ⟨.type T, ?_, .inr ⟨T, rfl, bt _ b1, b2, b3⟩⟩
      unfold clOf
      rw [List.getElem?_append_right (by rw [List.length_map]; omega), List.length_map, List.getElem?_map, hT]; rfl
  · obtain ⟨t, ht, rfl⟩ := xat n o ho
    have hl : n < xt.xds.length := (List.getElem?_eq_some_iff.mp ht).1
    rw [F.Xn, List.getElem?_append_left (by rw [List.length_map]; exact hl), List.getElem?_map, ht] at hx
    cases hx
    have hm := List.mem_of_getElem? ht
    obtain ⟨x1, x2, x3, x4⟩ := xparts t hm
    refine ⟨_, own n t ht, x1, ?_⟩
    obtain ⟨tn, to⟩ := t
    cases to with
    | none => exact He.exc_ok x4
    | some q =>
      obtain ⟨fs, b⟩ := q
      have x5 : (oexB K (He.ga K tn) && fs.all (fun f => decide (PySem.W.findIn K (.ref (He.ga K tn)) f = some none)) && basB K b &&
        decide (PySem.W.findIn K (.ref (He.ga K tn)) "__init__" = some (some (.ref (He.ma K (He.ga K tn) "__init__")))) && decide (PySem.W.typeIn K (.ref (He.ma K (He.ga K tn) "__init__")) = some (.type "function"))) = true := x4
      simp only [Bool.and_eq_true, decide_eq_true_eq, List.all_eq_true] at x5
      obtain ⟨⟨⟨⟨y1, y2⟩, y3⟩, y4⟩, y5⟩ := x5
      obtain ⟨z1, z2, z3, fd, x', qual, params, body, sc, z4, z5, z6, z7, z8, z9, z10⟩ := hxi _ hm fs b rfl
      exact ⟨oexB_ok y1, z1, z2, z3, _, fd, x', qual, params, body, sc, b, y4, y5, z4, z5, z6, z7, z8, fun f hf => ⟨z9 f hf, y2 f hf⟩, z10, basB_ok X G y3⟩
  · rw [F.sub] at ht
    exact subB_ok c.sb (by rw [clOf_len]; exact F.tl) (fun r hr => by rw [clOf_len]; exact F.tr r hr) a b t ht
  · obtain ⟨t, ht, rfl⟩ := xat n o ho
    have hm := List.mem_of_getElem? ht
    obtain ⟨x1, x2, x3, x4⟩ := xparts t hm
    refine ⟨_, own n t ht, x2, x3, fun fs e f hf => ?_⟩
    obtain ⟨tn, to⟩ := t
    cases to with
    | none => cases e
    | some q =>
      obtain ⟨fs', b⟩ := q
      cases e
      have x5 : (oexB K (He.ga K tn) && fs'.all (fun f => decide (PySem.W.findIn K (.ref (He.ga K tn)) f = some none)) && basB K b &&
        decide (PySem.W.findIn K (.ref (He.ga K tn)) "__init__" = some (some (.ref (He.ma K (He.ga K tn) "__init__")))) && decide (PySem.W.typeIn K (.ref (He.ma K (He.ga K tn) "__init__")) = some (.type "function"))) = true := x4
      simp only [Bool.and_eq_true, decide_eq_true_eq, List.all_eq_true] at x5
      exact x5.1.1.1.2 f hf
end
/-- a world whose answer to one question stands written -/
def setF (w : World) (b : Bool) : World := { w with params := { w.params with followText := fun s => if s = "special-get-raises" then b else w.params.followText s } }
theorem setF_eq (w : World) : w = setF w (w.params.followText "special-get-raises") := by
  unfold setF
  have e : (fun s => if s = "special-get-raises" then w.params.followText "special-get-raises" else w.params.followText s) = w.params.followText := by
    funext s
    split
    · rename_i h; rw [h]
    · rfl
  rw [e]
/-! ### the law's end -/
/-- the script, frozen -/
def scr (ns : List Int) : Sto := [.fls (ns.map D.int)]
theorem reps_ints {K : PySem.W.Frag} {ρ : List Addr} {H : Hp} : ∀ ns : List Int, Reps K ρ H (ns.map D.int) (ns.map V.int)
  | [] => reps_nil.mpr rfl
  | n :: ns => reps_cons.mpr ⟨_, _, rfl, rep_int.mpr rfl, reps_ints ns⟩
theorem ab_scr {K : PySem.W.Frag} {H : Hp} {a : Addr} {ns : List Int} (hO : Only H) (hS : SqL K H a (ns.map V.int)) : Ab K [a] (scr ns) H := by
  have r : RepO K [a] H (.fls (ns.map D.int)) a := by
    refine ⟨ns.map V.int, ?_, reps_ints ns⟩
    rcases hS with (hS | ⟨o, hS⟩) | hS
    · rcases hO a with z | ⟨o, xs, z⟩
      · rw [hS] at z; cases z
      · rw [hS] at z; cases z
    · exact .inl ⟨o, hS⟩
    · exact .inr hS
  refine ⟨rfl, fun n o b h1 h2 => ?_, fun n m b o o' h1 h2 h3 h4 m1 m2 => ?_⟩
  · cases n with
    | zero => cases h1; cases h2; exact r
    | succ n => simp [scr] at h1
  · cases n with
    | zero => cases h3; cases m1
    | succ n => simp [scr] at h3
theorem sp_law {K : PySem.W.Frag} {H : Hp} {a : Addr} {ns : List Int} {cl : List Value} {c : List D → Sto → KD → KX → Prop} (hO : Only H) (hS : SqL K H a (ns.map V.int)) (h : c [.ref 0] (scr ns) (fun d _ => d = .bl true) noX) :
    spOf K cl 1 c [.ref a] H (fun v _ => v = .bl true) (fun _ _ _ => False) := by
  refine ⟨rfl, [a], scr ns, [.ref 0], _, _, ab_scr hO hS, reps_cons.mpr ⟨_, _, rfl, rep_ref.mpr ⟨a, rfl, rfl⟩, reps_nil.mpr rfl⟩, h, fun d st v H' ρ' _ _ r e => ?_, OutX.no⟩
  subst e
  exact rep_bl.mp r
theorem cx_no {P : Program} {w : World} {H : Hp} {s : Shared} {e : Value} {s' : Shared} (h : L2.CX P w [] H s (fun _ _ _ => False) e s') : False := by
  obtain ⟨_, _, _, _, _, _, _, _, _, _, _, _, z⟩ := h
  exact z
theorem walk_q {l : PySem.W.OpenLaw} {n k f : Nat} {q : Program} {loose : List Str} {XP : (Str → Option Value) → Heap → Prop} {d : DefRec} {j : Nat} {fa : List He.Fa} {fn : List He.DefD} {cs : List (Str × D)} {kd : List Kd} {xt : Xt} {pr : Pr} {M : Nms}
    (hn : l.most = some n) (hn2 : n ≤ sizeLine) (hdf : d.params.defaults = []) (hr : Room (k + 3) callerA)
    (T : ∀ {w : World} {K : PySem.W.Frag} {h : Heap} {mg : Str → Option Value}, K.In h → h.Ns mainGlobals mg → SaysQ fa fn cs kd xt w K → TxtOk w K mg (clOf K xt.xds xt.bs) pr M) (hf : M.F[f]? = some d.name)
    (main : ∀ ns : List Int, ns.length ≤ n → callN pr (k + 1) f [.ref 0] (scr ns) (fun d _ => d = .bl true) noX) :
    PySem.W.WalkO q loose XP (hookQ j fa fn cs kd xt).says l.row.toRowW d [] (fun f vs => PySem.call f vs) := by
  refine Att.attach_call hn hdf fun w s₀ s₁ mg mb fa' o pm cd doc a vs ns G Y ho hd hcd hmg hobj hints hlen hg => ?_
  obtain ⟨K, KX, c⟩ := Y
  have TX := T KX G.T.g c
  obtain ⟨d', fa2, hp, hm, D⟩ := TX.fn f d.name hf
  obtain ⟨x0, qual, params, body, scope, N, ps, fd, F, hsc, hb, hck, hN, ha⟩ := D.ex
  rw [hmg] at hm
  cases hm
  have hl1 : ps.length = 1 := by
    have := fn_len hp _ _ _ _ (main [] (Nat.zero_le _))
    rw [← ha, ← this]
    rfl
  obtain ⟨x, rfl⟩ : ∃ x, ps = [x] := List.length_eq_one_iff.mp hl1
  have hb2 := FunD.bindsA F hb
  refine law_call (x := x) (CX := L2.CX l.prog w) (sp := spOf K (clOf K xt.xds xt.bs) 1 (callN pr (k + 1) f)) KX G.T.g G.T.b G.T.builtins G.T.nolimit hg hobj hints (Nat.le_trans hlen hn2) hr (fun base hB hG => fn_okQ hp F hsc hck hN ha (gok (T hB hG c) k)) (fun s u => hb2 s [u] rfl) (fun H hO hS => sp_law hO hS (main ns hlen)) fun H e s' h => cx_no h
end Q3

set_option Elab.async false
set_option linter.all false
set_option maxRecDepth 100000
/-! Q3m: what the readings want: texts as lists of codes, loops, equality. -/
namespace Q3
open PySem PySem.Spec PyProof.Rows L2
abbrev Sx (l : List Nat) : Str := SX.S l
theorem S_tl (x : Str) : Sx x.cps.toList = x := SX.S_tl x
theorem S_ex (x : Str) : ∃ l, x = Sx l := ⟨x.cps.toList, (S_tl x).symm⟩
theorem S_inj {a b : List Nat} (h : Sx a = Sx b) : a = b := SX.S_inj h
theorem S_len (l : List Nat) : (Sx l).length = l.length := SX.S_len l
theorem S_app (a b : List Nat) : Sx a ++ Sx b = Sx (a ++ b) := SX.S_cat a b
theorem S_dec (a b : List Nat) : decide (Sx a = Sx b) = decide (a = b) := by
  by_cases h : a = b
  · subst h; simp
  · rw [decide_eq_false h, decide_eq_false fun e => h (S_inj e)]
theorem chars_S (l : List Nat) : chars (Sx l) = l.map fun c => D.str (Sx [c]) := rfl
theorem cutS_S (l : List Nat) (lo hi : Option Int) : cutS (Sx l) lo hi = Sx ((l.drop (HT.sIx l.length 0 lo)).take (HT.sIx l.length l.length hi - HT.sIx l.length 0 lo)) := by
  unfold cutS
  rw [S_len]
theorem cut_to (l : List Nat) (k : Nat) : cutS (Sx l) none (some (k : Int)) = Sx (l.take k) := by
  rw [cutS_S, HT.sIx_none, HT.sIx_nat, List.drop_zero, Nat.sub_zero]
  congr 1
  by_cases h : k ≤ l.length
  · rw [Nat.min_eq_left h]
  · rw [Nat.min_eq_right (by omega), List.take_length, List.take_of_length_le (by omega)]
theorem cut_from (l : List Nat) (k : Nat) : cutS (Sx l) (some (k : Int)) none = Sx (l.drop k) := by
  rw [cutS_S, HT.sIx_none, HT.sIx_nat]
  congr 1
  by_cases h : k ≤ l.length
  · rw [Nat.min_eq_left h, List.take_of_length_le (by rw [List.length_drop]; exact Nat.le_refl _)]
  · rw [Nat.min_eq_right (by omega), List.drop_length, List.drop_eq_nil_of_le (by omega), List.take_nil]
theorem cut_mid (l : List Nat) (i j : Nat) (h : j ≤ l.length) : cutS (Sx l) (some (i : Int)) (some (j : Int)) = Sx ((l.drop i).take (j - i)) := by
  rw [cutS_S, HT.sIx_nat, HT.sIx_nat, Nat.min_eq_left h]
  congr 1
  by_cases hi : i ≤ l.length
  · rw [Nat.min_eq_left hi]
  · rw [Nat.min_eq_right (by omega), List.drop_length, List.drop_eq_nil_of_le (by omega), List.take_nil, List.take_nil]
theorem cut_to1 (l : List Nat) : cutS (Sx l) none (some 1) = Sx (l.take 1) := cut_to l 1
theorem cut_from1 (l : List Nat) : cutS (Sx l) (some 1) none = Sx (l.drop 1) := cut_from l 1
theorem cut_from0 (l : List Nat) : cutS (Sx l) (some 0) none = Sx l := cut_from l 0
theorem S_eq {a b : List Nat} : Sx a = Sx b ↔ a = b := ⟨S_inj, fun h => by rw [h]⟩
theorem atI_S {α : Type} {xs : List α} {j : Nat} (h : j < xs.length) : atI xs (j : Int) = some xs[j] := atI_nat (List.getElem?_eq_getElem h)
theorem gOk_nil {st : Sto} : gOk [] st := fun _ h => by simp at h
theorem gOk_one {st : Sto} {a : Nat} {xs : List D} (h : lstAt st a = some xs) : gOk [(a, xs)] st := fun g hg => by
  rw [List.mem_singleton] at hg
  subst hg
  exact h
/-- the statements from the k-th on -/
def drop (k : Nat) (s : Ss) : Ss := match k, s with
  | 0, s => s
  | k + 1, .cons _ r => drop k r
  | _, .nil => .nil
/-- the body of the first loop -/
def forB : Ss → Ss
  | .cons (.for _ _ b) _ => b
  | .cons (.wh _ b) _ => b
  | _ => .nil
/-- the body of a choice -/
def iffA : Ss → Ss
  | .cons (.iff _ a _) _ => a
  | _ => .nil
def iffB : Ss → Ss
  | .cons (.iff _ _ b) _ => b
  | _ => .nil
/-! ### truths -/
theorem br {b : Bool} {A B : Prop} (h1 : b = true → A) (h2 : b = false → B) : Br b A B := by
  cases b with
  | true => exact h1 rfl
  | false => exact h2 rfl
theorem any_str (L : List Str) (w : Str) : (L.map D.str).any (fun z => eqF z (.str w)) = decide (w ∈ L) := by
  induction L with
  | nil => simp
  | cons x L ih =>
    rw [List.map_cons, List.any_cons, ih]
    show ((x == w) || _) = _
    by_cases h : x = w
    · subst h; simp
    · have : (x == w) = false := by simpa using h
      rw [this, Bool.false_or]
      have h' : ¬ w = x := fun e => h e.symm
      simp [h']
theorem in_strs {L : List Str} {w : Str} {st : Sto} {Q : Bool → Sto → Prop} (h : Q (decide (w ∈ L)) st) : (flat (.str w) = true ∧ (L.map D.str).all flat = true) ∧ Q ((L.map D.str).any fun z => eqF z (.str w)) st := by
  refine ⟨⟨rfl, ?_⟩, by rw [any_str]; exact h⟩
  rw [List.all_map, List.all_eq_true]
  exact fun _ _ => rfl
theorem any_int (L : List Int) (i : Int) : (L.map D.int).any (fun z => eqF z (.int i)) = decide (i ∈ L) := by
  induction L with
  | nil => simp
  | cons x L ih =>
    rw [List.map_cons, List.any_cons, ih]
    show ((x == i) || _) = _
    by_cases h : x = i
    · subst h; simp
    · have : (x == i) = false := by simpa using h
      rw [this, Bool.false_or]
      have h' : ¬ i = x := fun e => h e.symm
      simp [h']
/-! ### loops -/
/-- a scan that may end early -/
theorem loopF_scan {gs : List (Nat × List D)} {body : D → (En → Sto → Prop) → En → Sto → Prop} {K : En → Sto → Prop} {α : Type} {f : α → D} {st : Sto} (p : α → Bool) (E : En → Prop) (hg : gOk gs st) :
    ∀ (xs : List α), (∀ x ∈ xs, ∀ K' en, E en → (p x = true → ∀ en', E en' → K' en' st) → body (f x) K' en st) → ((∀ x ∈ xs, p x = true) → ∀ en, E en → K en st) → ∀ en, E en → loopF gs body (xs.map f) K en st
  | [], _, hK, en, he => ⟨hg, hK (by simp) en he⟩
  | x :: xs, hb, hK, en, he => ⟨hg, hb x List.mem_cons_self _ en he fun hx en' he' =>
      loopF_scan p E hg xs (fun y hy => hb y (List.mem_cons_of_mem _ hy)) (fun h => hK fun y hy => by
        rcases List.mem_cons.mp hy with rfl | hy
        · exact hx
        · exact h y hy) en' he'⟩
/-- a loop by its invariant over what is done and what is left -/
theorem loopF_inv {gs : List (Nat × List D)} {body : D → (En → Sto → Prop) → En → Sto → Prop} {K : En → Sto → Prop} {α : Type} {f : α → D} (I : List α → En → Sto → Prop) (all : List α)
    (hg : ∀ pre en st, I pre en st → gOk gs st)
    (hb : ∀ pre x post, all = pre ++ x :: post → ∀ K' en st, I pre en st → (∀ en' st', I (pre ++ [x]) en' st' → K' en' st') → body (f x) K' en st) (hK : ∀ en st, I all en st → K en st) :
    ∀ {en st}, I [] en st → loopF gs body (all.map f) K en st := by
  have go : ∀ (post pre : List α), all = pre ++ post → ∀ en st, I pre en st → loopF gs body (post.map f) K en st := by
    intro post
    induction post with
    | nil => intro pre e en st h; rw [List.append_nil] at e; subst e; exact ⟨hg _ en st h, hK en st h⟩
    | cons x post ih =>
      intro pre e en st h
      refine ⟨hg pre en st h, hb pre x post e _ en st h fun en' st' h' => ?_⟩
      exact ih (pre ++ [x]) (by rw [e, List.append_assoc]; rfl) en' st' h'
  exact fun {en st} h => go all [] rfl en st h
theorem rngL_eq (lo : Int) (n : Nat) : rngL lo n = (List.range n).map fun (k : Nat) => .int (lo + (k : Int)) := by unfold rngL; rfl
/-- a loop over a range -/
theorem loopF_rng {gs : List (Nat × List D)} {body : D → (En → Sto → Prop) → En → Sto → Prop} {K : En → Sto → Prop} {lo : Int} {n : Nat} (I : Nat → En → Sto → Prop)
    (hg : ∀ i en st, I i en st → gOk gs st) (hb : ∀ i : Nat, i < n → ∀ K' en st, I i en st → (∀ en' st', I (i + 1) en' st' → K' en' st') → body (.int (lo + (i : Int))) K' en st) (hK : ∀ en st, I n en st → K en st) {en : En} {st : Sto} (h : I 0 en st) :
    loopF gs body (rngL lo n) K en st := by
  rw [rngL_eq]
  refine loopF_inv (f := fun (k : Nat) => D.int (lo + (k : Int))) (fun pre en st => I pre.length en st) (List.range n) (fun pre en st h => hg _ en st h) (fun pre x post e K' en st h hK' => ?_) (fun en st h => ?_) h
  · have hx : x = pre.length ∧ pre.length < n := by
      have h1 : (List.range n)[pre.length]? = some x := by rw [e]; simp
      have h2 : pre.length < n := by
        have := congrArg List.length e
        rw [List.length_range, List.length_append, List.length_cons] at this
        omega
      rw [List.getElem?_range h2] at h1
      exact ⟨(Option.some.inj h1).symm, h2⟩
    obtain ⟨rfl, hlt⟩ := hx
    refine hb _ hlt K' en st h fun en' st' h' => hK' en' st' ?_
    rw [List.length_append, List.length_singleton]
    exact h'
  · rw [List.length_range] at h
    exact hK en st h
/-- a while by a word and a measure -/
theorem wh_inv {test : En → Sto → (Bool → Sto → Prop) → Prop} {body : (En → Sto → Prop) → En → Sto → Prop} {K : En → Sto → Prop} (I : En → Sto → Prop) (μ : En → Sto → Nat)
    (h : ∀ en st K', I en st → (∀ en' st', I en' st' → μ en' st' < μ en st → K' en' st') → test en st fun b st1 => Br b (body K' en st1) (K en st1)) {en : En} {st : Sto} (h0 : I en st) : ∃ n, loopW test body K n en st := by
  have go : ∀ n en st, I en st → μ en st < n → loopW test body K n en st := by
    intro n
    induction n with
    | zero => intro en st _ hl; omega
    | succ n ih =>
      intro en st hi hl
      exact h en st (loopW test body K n) hi fun en' st' hi' hl' => ih en' st' hi' (by omega)
  exact ⟨μ en st + 1, go _ en st h0 (Nat.lt_succ_self _)⟩
/-! ### the store -/
theorem at_last (st : Sto) (o : O) : (st ++ [o])[st.length]? = some o := by simp
theorem set_last (st : Sto) (o o' : O) : (st ++ [o]).set st.length o' = st ++ [o'] := by simp
theorem at_old {st : Sto} {o : O} {n : Nat} (h : n < st.length) : (st ++ [o])[n]? = st[n]? := List.getElem?_append_left h
/-- a comprehension that makes nothing else: map and filter -/
theorem loopC_map {gs : List (Nat × List D)} {body : D → Sto → (Sto → Prop) → Prop} {K : Sto → Prop} {α : Type} {f : α → D} {st : Sto} (g : α → Option D) (hg : ∀ acc, gOk gs (st ++ [.lst acc])) :
    ∀ (xs : List α) (acc : List D), (∀ x ∈ xs, ∀ acc K', (match g x with
      | some y => acc.length < Lm → K' (st ++ [.lst (acc ++ [y])])
      | none => K' (st ++ [.lst acc])) → acc.length < Lm → body (f x) (st ++ [.lst acc]) K') → acc.length + xs.length ≤ Lm → K (st ++ [.lst (acc ++ xs.filterMap g)]) → loopC gs body (xs.map f) (st ++ [.lst acc]) K
  | [], acc, _, _, hK => ⟨hg acc, by simpa using hK⟩
  | x :: xs, acc, hb, hl, hK => by
    rw [List.length_cons] at hl
    refine ⟨hg acc, hb x List.mem_cons_self acc _ ?_ (by omega)⟩
    have hb' : ∀ y ∈ xs, _ := fun y hy => hb y (List.mem_cons_of_mem _ hy)
    cases q : g x with
    | none =>
      show loopC gs body (xs.map f) (st ++ [.lst acc]) K
      refine loopC_map g hg xs acc hb' (by omega) ?_
      rw [List.filterMap_cons_none q] at hK
      exact hK
    | some y =>
      intro _
      show loopC gs body (xs.map f) (st ++ [.lst (acc ++ [y])]) K
      refine loopC_map g hg xs (acc ++ [y]) hb' (by rw [List.length_append, List.length_singleton]; omega) ?_
      rw [List.filterMap_cons_some q] at hK
      rw [List.append_assoc]
      exact hK
theorem len_lst {st : Sto} {a : Nat} {xs : List D} (h : lstAt st a = some xs) : lenD st (.ref a) = some xs.length := by
  show (match lstAt st a with
    | some xs => some xs.length
    | none => dicLen st (.ref a)) = _
  rw [h]
theorem mtOk_lst {m : Mt} {st : Sto} {a : Nat} {xs : List D} (hm : (!m.onStr && !m.onDic) = true) (h : lstAt st a = some xs) : mtOk m st (.ref a) = true := by
  rw [Bool.and_eq_true] at hm
  show (!m.onStr && (if m.onDic = true then (dicLen st (.ref a)).isSome else (lstAt st a).isSome)) = true
  rw [hm.1, if_neg (by have := hm.2; revert this; cases m.onDic <;> simp), h]; rfl
theorem lst_last (st : Sto) (xs : List D) : lstAt (st ++ [.lst xs]) st.length = some xs := by unfold lstAt; rw [at_last]
theorem lst_app {st : Sto} {a : Nat} {xs : List D} (e : Sto) (h : lstAt st a = some xs) : lstAt (st ++ e) a = some xs := by
  unfold lstAt at h ⊢
  by_cases hl : a < st.length
  · rw [List.getElem?_append_left hl]; exact h
  · rw [List.getElem?_eq_none (by omega)] at h; cases h
theorem lst_lt {st : Sto} {a : Nat} {xs : List D} (h : lstAt st a = some xs) : a < st.length := by
  unfold lstAt at h
  by_cases hl : a < st.length
  · exact hl
  · rw [List.getElem?_eq_none (by omega)] at h; cases h
theorem get_app {st : Sto} {a : Nat} {o : O} (e : Sto) (h : st[a]? = some o) : (st ++ e)[a]? = some o := by
  rw [List.getElem?_append_left (List.getElem?_eq_some_iff.mp h).1]; exact h
theorem set_app {st : Sto} {a : Nat} {o : O} (e : Sto) (h : a < st.length) : (st ++ e).set a o = st.set a o ++ e := by
  rw [List.set_append_left _ _ h]
/-! ### equality -/
theorem eqvAll_strs : ∀ (L M : List Str), PyData.eqvAll (L.map PyData.str) (M.map PyData.str) = decide (L = M)
  | [], [] => by simp [PyData.eqvAll]
  | [], _ :: _ => by simp [PyData.eqvAll]
  | _ :: _, [] => by simp [PyData.eqvAll]
  | x :: L, y :: M => by
    rw [List.map_cons, List.map_cons, PyData.eqvAll, eqvAll_strs L M]
    show (x == y && _) = _
    by_cases h : x = y
    · subst h; simp
    · have : (x == y) = false := by simpa using h
      rw [this]; simp [h]
theorem lay_strs : ∀ (L : List Str), (∀ x ∈ L, PyData.strOk x = true) → PyData.canLayAll0 (L.map PyData.str) = true
  | [], _ => by simp [PyData.canLayAll0]
  | x :: L, h => by
    rw [List.map_cons, PyData.canLayAll0, lay_strs L fun y hy => h y (List.mem_cons_of_mem _ hy)]
    rw [PyData.canLay0, h x List.mem_cons_self]; rfl
theorem depth_strs : ∀ (L : List Str), PyData.depthAll (L.map PyData.str) = 0
  | [] => by simp [PyData.depthAll]
  | x :: L => by rw [List.map_cons, PyData.depthAll, depth_strs L]; simp [PyData.depth]
theorem ok_S {l : List Nat} (h : ∀ c ∈ l, c < 128) : PyData.strOk (Sx l) = true := by
  unfold PyData.strOk
  rw [← Array.all_toList, List.all_eq_true]
  intro c hc
  have := h c hc
  exact decide_eq_true (by omega)
theorem mapM_eq {α β : Type} {f : α → Option β} {g : α → β} : ∀ (xs : List α), (∀ x ∈ xs, f x = some (g x)) → xs.mapM f = some (xs.map g)
  | [], _ => rfl
  | x :: xs, h => by
    rw [List.mapM_cons, h x List.mem_cons_self, mapM_eq xs fun y hy => h y (List.mem_cons_of_mem _ hy)]
    rfl
theorem toP_lst {n : Nat} {st : Sto} {a : Nat} {xs : List D} {ps : List PyData} (h : lstAt st a = some xs) (hp : xs.mapM (toP n st) = some ps) : toP (n + 1) st (.ref a) = some (.list ps) := by
  show (match lstAt st a with
    | some xs => (xs.mapM (toP n st)).map PyData.list
    | none => none) = _
  rw [h]
  show (xs.mapM (toP n st)).map PyData.list = _
  rw [hp]; rfl
theorem toP_strs {n : Nat} {st : Sto} {a : Nat} {L : List Str} (h : lstAt st a = some (L.map D.str)) : toP (n + 2) st (.ref a) = some (.list (L.map PyData.str)) := by
  refine toP_lst h ?_
  rw [mapM_eq (g := fun d => match d with | .str x => PyData.str x | _ => .none)]
  · rw [List.map_map]; rfl
  · intro x hx
    obtain ⟨y, _, rfl⟩ := List.mem_map.mp hx
    rfl
theorem wEq_strs {st : Sto} {a b : Nat} {L M : List Str} {Q : Bool → Sto → Prop} (ha : lstAt st a = some (L.map D.str)) (hb : lstAt st b = some (M.map D.str)) (hL : ∀ x ∈ L, PyData.strOk x = true) (hM : ∀ x ∈ M, PyData.strOk x = true) (h : Q (decide (L = M)) st) :
    wEq (.ref a) (.ref b) st Q := by
  refine .inr ?_
  rw [toP_strs (n := 64) ha, toP_strs (n := 64) hb]
  have sh : ∀ L : List Str, (∀ x ∈ L, PyData.strOk x = true) → SeqAt.shaped (.list (L.map PyData.str)) = true := fun L hL => by
    unfold SeqAt.shaped
    rw [PyData.canLay0, lay_strs L hL, PyData.depth, depth_strs]; rfl
  refine ⟨⟨sh L hL, sh M hM⟩, ?_⟩
  rw [PyData.eqv, eqvAll_strs]
  exact h
theorem wEq_same {x y : D} {st : Sto} {Q : Bool → Sto → Prop} {p : PyData} (hx : toP fuelP st x = some p) (hy : toP fuelP st y = some p) (hs : SeqAt.shaped p = true) (h : Q true st) : wEq x y st Q := by
  have gen : (match toP fuelP st x, toP fuelP st y with
    | some p, some q => (SeqAt.shaped p = true ∧ SeqAt.shaped q = true) ∧ Q (PyData.eqv p q) st
    | _, _ => False) := by
    rw [hx, hy]
    exact ⟨⟨hs, hs⟩, by rw [SeqAt.eqv_refl p (SeqAt.canLay_of_shaped hs)]; exact h⟩
  cases x <;> cases y <;> first
    | exact .inr gen
    | (cases hx; cases hy
       unfold wEq
       simpa using h)
theorem mapM_some {α : Type} {f : D → Option PyData} {g : α → D} {k : α → PyData} : ∀ (xs : List α), (∀ x ∈ xs, f (g x) = some (k x)) → (xs.map g).mapM f = some (xs.map k)
  | [], _ => rfl
  | x :: xs, h => by
    rw [List.map_cons, List.mapM_cons, h x List.mem_cons_self, mapM_some xs fun y hy => h y (List.mem_cons_of_mem _ hy)]
    rfl
theorem wIn_lst {st : Sto} {a : Nat} {L : List Str} {w : Str} {Q : Bool → Sto → Prop} (h : lstAt st a = some (L.map D.str)) (hq : Q (decide (w ∈ L)) st) : wIn (.str w) (.ref a) st Q := by
  have e : seqOf st (.ref a) = some (L.map D.str) := h
  have e2 : (flat (.str w) && (L.map D.str).all flat) = true := by
    rw [List.all_map]
    have : (L.all (flat ∘ D.str)) = true := List.all_eq_true.mpr fun _ _ => rfl
    rw [this]; rfl
  show (match seqOf st (.ref a) with
    | some ys => Br (flat (.str w) && ys.all flat) (Q (ys.any fun z => eqF z (.str w)) st) _
    | none => match dicGet st (.ref a) (.str w) with
      | some o => Q o.isSome st
      | none => False)
  rw [e]
  show Br (flat (.str w) && (L.map D.str).all flat) _ _
  rw [e2]
  show Q _ st
  rw [any_str]
  exact hq
theorem filterMap_if {α : Type} (xs : List α) (p : α → Bool) (f : α → D) : xs.filterMap (fun x => if p x = true then some (f x) else none) = (xs.filter p).map f := by
  induction xs with
  | nil => rfl
  | cons x xs ih =>
    by_cases h : p x = true
    · rw [List.filterMap_cons_some (by rw [if_pos h]), List.filter_cons_of_pos h, List.map_cons, ih]
    · rw [List.filterMap_cons_none (by rw [if_neg h]), List.filter_cons_of_neg h, ih]
theorem cIn_lst {st : Sto} {a : Nat} {L : List Str} {w : Str} {Q : Bool → Sto → Prop} (h : lstAt st a = some (L.map D.str)) (hq : Q (decide (w ∈ L)) st) : wCmp .isin (.str w) (.ref a) st Q := wIn_lst h hq
theorem cNotin_lst {st : Sto} {a : Nat} {L : List Str} {w : Str} {Q : Bool → Sto → Prop} (h : lstAt st a = some (L.map D.str)) (hq : Q (!decide (w ∈ L)) st) : wCmp .notin (.str w) (.ref a) st Q := wIn_lst (Q := fun b st' => Q (!b) st') h hq
theorem cEq_strs {st : Sto} {a b : Nat} {L M : List Str} {Q : Bool → Sto → Prop} (ha : lstAt st a = some (L.map D.str)) (hb : lstAt st b = some (M.map D.str)) (hL : ∀ x ∈ L, PyData.strOk x = true) (hM : ∀ x ∈ M, PyData.strOk x = true) (h : Q (decide (L = M)) st) :
    wCmp .eq (.ref a) (.ref b) st Q := wEq_strs ha hb hL hM h
theorem cEq_same {x y : D} {st : Sto} {Q : Bool → Sto → Prop} {p : PyData} (hx : toP fuelP st x = some p) (hy : toP fuelP st y = some p) (hs : SeqAt.shaped p = true) (h : Q true st) : wCmp .eq x y st Q := wEq_same hx hy hs h
theorem cNe_same {x y : D} {st : Sto} {Q : Bool → Sto → Prop} {p : PyData} (hx : toP fuelP st x = some p) (hy : toP fuelP st y = some p) (hs : SeqAt.shaped p = true) (h : Q false st) : wCmp .ne x y st Q := wEq_same (Q := fun b st' => Q (!b) st') hx hy hs h
theorem starts_one (w : List Nat) (c : Nat) : Txt.startswith (Sx w) (Sx [c]) = decide (w.take 1 = [c]) := by
  have h := StrLaws.subAt_one (Sx w) c 0
  unfold Txt.startswith
  rw [Bool.eq_iff_iff, Bool.and_eq_true, decide_eq_true_eq, decide_eq_true_eq]
  refine Iff.trans h ?_
  show w[0]? = some c ↔ _
  cases w with
  | nil => simp
  | cons a r => simp
theorem snocRec {α : Type} {motive : List α → Prop} (nil : motive []) (snoc : ∀ l a, motive l → motive (l ++ [a])) (l : List α) : motive l := by
  have go : ∀ r : List α, motive r.reverse := by
    intro r
    induction r with
    | nil => exact nil
    | cons a r ih => rw [List.reverse_cons]; exact snoc _ _ ih
  have := go l.reverse
  rwa [List.reverse_reverse] at this
/-! ### numbers as texts -/
theorem str_nat (n : Nat) : (toString ((n : Nat) : Int) : Str) = Sx (TL.numL n) := SX.num_S n
theorem str_neg (n : Nat) (h : 0 < n) : (toString (-((n : Nat) : Int)) : Str) = Sx (45 :: TL.numL n) := by
  obtain ⟨m, rfl⟩ : ∃ m, n = m + 1 := ⟨n - 1, by omega⟩
  have e : toString (-(((m + 1 : Nat)) : Int)) = "-" ++ toString ((((m + 1 : Nat)) : Int)) := rfl
  apply TL.ext_tl
  rw [e, TL.tl_ofString, String.toList_append, List.map_append]
  have e2 := TL.tl_num (m + 1)
  rw [TL.tl_ofString] at e2
  rw [e2]
  rfl
theorem dv_snoc (l : List Nat) (c : Nat) : NumText.digitsVal (l ++ [c]) = NumText.digitsVal l * 10 + (c - 48) := by
  unfold NumText.digitsVal
  rw [List.foldl_append]; rfl
theorem dv_lt : ∀ (l : List Nat), NumText.AllDigits l → NumText.digitsVal l < 10 ^ l.length := by
  intro l
  induction l using snocRec with
  | nil => intro _; decide
  | snoc l c ih =>
    intro h
    have h1 := ih fun d hd => h d (List.mem_append_left _ hd)
    have h2 := h c (by simp)
    rw [dv_snoc, List.length_append, List.length_singleton, Nat.pow_succ]
    omega
theorem log_ok {n : Nat} (h : n < 2 ^ 1000) : n.log2 < 1920 := by
  by_cases h0 : n = 0
  · subst h0; decide
  · have := (Nat.log2_lt h0).mpr h
    omega
theorem numL_len_le {n k : Nat} (hk : 0 < k) (h : n < 10 ^ k) : (TL.numL n).length ≤ k := TL.numL_len hk h
/-- the figures of a number, back: no nought ahead -/
theorem numL_dv : ∀ (l : List Nat), NumText.AllDigits l → l ≠ [] → (TL.numL (NumText.digitsVal l) = l ↔ (l[0]? ≠ some 48 ∨ l = [48])) := by
  intro l
  induction l using snocRec with
  | nil => intro _ h; exact absurd rfl h
  | snoc l c ih =>
    intro h _
    have hc := h c (by simp)
    have hd : NumText.AllDigits l := fun d hd => h d (List.mem_append_left _ hd)
    by_cases hl : l = []
    · subst hl
      rw [dv_snoc]
      show TL.numL (0 * 10 + (c - 48)) = [c] ↔ _
      rw [Nat.zero_mul, Nat.zero_add, TL.numL_lt (by omega)]
      constructor
      · intro _
        by_cases h48 : c = 48
        · exact .inr (by rw [h48]; rfl)
        · exact .inl (by simp; exact h48)
      · intro _
        rw [show 48 + (c - 48) = c by omega]
    · have ih' := ih hd hl
      rw [dv_snoc]
      have e0 : (l ++ [c])[0]? = l[0]? := by
        cases l with
        | nil => exact absurd rfl hl
        | cons a r => rfl
      have ne : l ++ [c] ≠ [48] := by
        intro e
        have := congrArg List.length e
        rw [List.length_append, List.length_singleton] at this
        have h1 : 0 < l.length := List.length_pos_iff.mpr hl
        have h2 : ([48] : List Nat).length = 1 := rfl
        omega
      rw [e0]
      by_cases hz : NumText.digitsVal l = 0
      · rw [hz, Nat.zero_mul, Nat.zero_add, TL.numL_lt (by omega)]
        constructor
        · intro e
          have := congrArg List.length e
          rw [List.length_append, List.length_singleton, List.length_singleton] at this
          have h1 : 0 < l.length := List.length_pos_iff.mpr hl
          omega
        · intro e
          rcases e with e | e
          · have := ih'.mpr (.inl e)
            rw [hz, TL.numL_lt (by omega)] at this
            rw [← this] at e
            exact absurd rfl e
          · exact absurd e ne
      · rw [TL.numL_step (by omega)]
        rw [show (NumText.digitsVal l * 10 + (c - 48)) / 10 = NumText.digitsVal l by omega, show 48 + (NumText.digitsVal l * 10 + (c - 48)) % 10 = c by omega]
        constructor
        · intro e
          have e2 : TL.numL (NumText.digitsVal l) = l := List.append_cancel_right e
          rcases ih'.mp e2 with q | q
          · exact .inl q
          · subst q
            exact absurd rfl hz
        · intro e
          rcases e with e | e
          · rw [ih'.mpr (.inl e)]
          · exact absurd e ne
theorem strInt (i : Int) {k : Nat} (hk : 0 < k) (h : i.natAbs < 10 ^ k) : (toString i : Str).length ≤ k + 1 ∧ (∀ c ∈ (toString i : Str).cps.toList, c < 128) := by
  by_cases h0 : 0 ≤ i
  · obtain ⟨n, rfl⟩ : ∃ n : Nat, i = (n : Int) := ⟨i.toNat, by omega⟩
    have hn : n < 10 ^ k := by omega
    rw [str_nat]
    refine ⟨by rw [S_len]; have := numL_len_le hk hn; omega, fun c hc => ?_⟩
    have := TL.numL_digits n c hc
    omega
  · obtain ⟨n, rfl⟩ : ∃ n : Nat, i = -((n : Nat) : Int) := ⟨(-i).toNat, by omega⟩
    have hn : n < 10 ^ k := by omega
    rw [str_neg n (by omega)]
    refine ⟨by rw [S_len, List.length_cons]; have := numL_len_le hk hn; omega, fun c hc => ?_⟩
    rcases List.mem_cons.mp (show c ∈ 45 :: TL.numL n from hc) with rfl | hc
    · omega
    · have := TL.numL_digits n c hc
      omega
theorem mem_cutS {z : Str} {lo hi : Option Int} {c : Nat} (h : c ∈ (L2.cutS z lo hi).cps.toList) : c ∈ z.cps.toList := by
  unfold L2.cutS at h
  exact List.mem_of_mem_drop (List.mem_of_mem_take h)
theorem app_len (a b : Str) : (a ++ b).length = a.length + b.length := by show (a.cps ++ b.cps).size = _; exact Array.size_append
theorem app_mem {a b : Str} {c : Nat} (h : c ∈ (a ++ b).cps.toList) : c ∈ a.cps.toList ∨ c ∈ b.cps.toList := by
  have e := TL.tl_append a b
  rw [show (a ++ b).cps.toList = _ from e] at h
  exact List.mem_append.mp h
end Q3

set_option Elab.async false
set_option linter.all false
set_option maxRecDepth 100000
set_option maxHeartbeats 2000000
/-! Q3n: a draw out of the script, as several laws have it. -/
namespace Q3
open PySem
open L2 (atI cutS)
local macro_rules | `(tactic| walk_at "w") => `(tactic| conv => whnf)
/-- slots: 0 script 1 k 2 many 3 cell 4 left 5 j 6 seed -/
def sDraw : Ss := (.cons
 (.asg (.nm 3) (.ite (.val (.cmp .gt (.bf .len (.cons (.var 0) .nil)) (.int 0))) (.ix (.var 0) (.bin .mod (.var 1) (.bf .len (.cons (.var 0) .nil)))) (.int 0))) (.cons
 (.asg (.nm 4) (.var 3)) (.cons
 (.iff (.val (.cmp .ge (.var 3) (.bin .pow (.int 10) (.int 18)))) (.cons
  (.for (.nm 5) (.rng1 (.bin .mod (.bin .fdiv (.var 1) (.bf .len (.cons (.var 0) .nil))) (.int 60))) (.cons
   (.asg (.nm 4) (.bin .fdiv (.var 4) (.int 1000003))) .nil)) (.cons
  (.iff (.val (.cmp .gt (.var 4) (.int 0))) (.cons
   (.ret (.bin .mod (.bin .mod (.bin .fdiv (.var 4) (.int 2)) (.int 500009)) (.var 2))) .nil) .nil) .nil)) .nil) (.cons
 (.asg (.nm 6) (.bin .add (.bin .add (.bin .mod (.var 3) (.int 1000003)) (.bin .mul (.bin .mul (.int 31) (.var 1)) (.var 1))) (.int 1))) (.cons
 (.ret (.bin .mod (.bin .mod (.bin .mul (.bin .mod (.bin .mul (.var 6) (.int 48271)) (.int 999983)) (.int 7919)) (.int 524287)) (.var 2))) .nil)))))
theorem draw_ok {p : Pr} {f n : Nat} (hp : p.P[f]? = some ⟨7, 3, sDraw⟩) {a : Nat} {ns : List Int} {st : Sto} (hs : lstAt st a = some (ns.map D.int)) (hns : ns.length ≤ 63) {k many : Int} (hk : 0 ≤ k ∧ k ≤ 1000000) (hm : 0 < many) {Q : KD} {X : KX}
    (hQ : ∀ v, 0 ≤ v → v < many → Q (.int v) st) : callN p (n + 1) f [.ref a, .int k, .int many] st Q X := by
  refine callN_run hp rfl ?_
  have fin : ∀ x : Int, Q (.int (x % many)) st := fun x => hQ _ (Int.emod_nonneg _ (by omega)) (Int.emod_lt_of_pos _ hm)
  have last : ∀ (c : Int) (o4 o5 o6 : Option D), wSs (drop 3 sDraw) (p.cl n) { nx := fun _ st' => Q .non st', rt := Q } (fun c fs _ st' => X c fs st') [some (.ref a), some (.int k), some (.int many), some (.int c), o4, o5, o6] st := by
    intro c o4 o5 o6
    walk_at "w"
    refine ⟨.inl (.inl (by decide)), ?_⟩
    walk_at "w"
    refine ⟨.inl (.inr (by omega)), ?_⟩
    walk_at "w"
    refine ⟨.inl (.inr (by decide)), ?_⟩
    walk_at "w"
    refine ⟨.inl (.inr (by decide)), ?_⟩
    walk_at "w"
    rw [decide_eq_true hm]
    exact fin _
  have main : ∀ c : Int, (c ≥ 10 ^ 18 → 0 < ns.length) → wSs (drop 1 sDraw) (p.cl n) { nx := fun _ st' => Q .non st', rt := Q } (fun c fs _ st' => X c fs st') [some (.ref a), some (.int k), some (.int many), some (.int c), none, none, none] st := by
    intro c hc
    walk_at "w"
    split
    · rename_i e
      have hl : 0 < ns.length := hc (of_decide_eq_true e)
      walk_at "w"
      rw [len_lst hs]
      walk_at "w"
      rw [List.length_map, dvOk_mk (by omega) (by omega)]
      walk_at "w"
      rw [dec62_mk (by have := Int.emod_nonneg (k / (ns.length : Int)) (b := 60) (by decide); omega) (by have := Int.emod_lt_of_pos (k / (ns.length : Int)) (b := 60) (by decide); omega)]
      walk_at "w"
      refine loopF_rng (fun _ en st' => st' = st ∧ ∃ l o5, en = [some (.ref a), some (.int k), some (.int many), some (.int c), some (.int l), o5, none]) (fun _ _ _ _ => gOk_nil) ?_ ?_ ⟨rfl, _, _, rfl⟩
      · rintro i hi K' en st' ⟨rfl, l, o5, rfl⟩ hK
        walk_at "w"
        exact hK _ _ ⟨rfl, _, _, rfl⟩
      · rintro en st' ⟨rfl, l, o5, rfl⟩
        walk_at "w"
        split
        · walk_at "w"
          rw [decide_eq_true hm]
          exact fin _
        · exact last _ _ _ _
    · exact last _ _ _ _
  walk_at "w"
  rw [len_lst hs]
  walk_at "w"
  rw [List.length_map]
  split
  · rename_i e
    have hl : 0 < ns.length := by have := of_decide_eq_true e; omega
    walk_at "w"
    rw [len_lst hs]
    walk_at "w"
    rw [List.length_map, decide_eq_true (show (0 : Int) < (ns.length : Int) by omega)]
    walk_at "w"
    rw [show seqOf st (D.ref a) = some (ns.map D.int) from hs]
    have hj : ∃ j : Nat, k % (ns.length : Int) = (j : Int) ∧ j < ns.length := by
      have h1 := Int.emod_nonneg k (b := (ns.length : Int)) (by omega)
      have h2 := Int.emod_lt_of_pos k (b := (ns.length : Int)) (by omega)
      exact ⟨(k % (ns.length : Int)).toNat, by omega, by omega⟩
    obtain ⟨j, hj1, hj2⟩ := hj
    rw [hj1]
    have hat : atI (ns.map D.int) (j : Int) = some (.int ns[j]) := by
      have h := atI_S (xs := ns.map D.int) (j := j) (by rw [List.length_map]; exact hj2)
      rw [h]; simp
    walk_at "w"
    rw [hat]
    exact main _ fun _ => hl
  · rename_i e
    exact main 0 fun h => absurd h (by decide)
end Q3

set_option Elab.async false
set_option linter.all false
set_option maxRecDepth 100000
set_option maxHeartbeats 2000000
/-! Q3p: more of the plain helpers. -/
namespace Q3
open PySem
open L2 (atI cutS)
theorem cut_len (z : Str) (lo hi : Option Int) : (cutS z lo hi).length ≤ z.length := L2.cutS_length z lo hi
theorem sign_of {t : String} (h : ∀ c ∈ (Str.ofString t).cps.toList, c < 128) {v : Int} (v0 : 0 ≤ v) (v1 : v < ((Str.ofString t).cps.toList.length : Nat)) : ∃ sg, atI (Str.ofString t).cps.toList v = some sg ∧ sg < 128 := by
  obtain ⟨j, rfl⟩ : ∃ j : Nat, v = (j : Int) := ⟨v.toNat, by omega⟩
  exact ⟨_, atI_S (by omega), h _ (List.getElem_mem _)⟩
theorem seq_last (st : Sto) (xs : List D) : seqOf (st ++ [.lst xs]) (.ref st.length) = some xs := lst_last _ _
theorem seq_app {st : Sto} {a : Nat} {xs : List D} (e : Sto) (h : seqOf st (.ref a) = some xs) : seqOf (st ++ e) (.ref a) = some xs := lst_app e h
theorem ne_bl {b : Bool} {st : Sto} {Q : Bool → Sto → Prop} (h : Q false st) : wCmp .ne (.bl b) (.bl b) st Q := by
  cases b <;> exact h
theorem ne_int {b : Int} {st : Sto} {Q : Bool → Sto → Prop} (h : Q false st) : wCmp .ne (.int b) (.int b) st Q := by
  show Q (!decide (b = b)) st
  rw [decide_eq_true rfl]; exact h
theorem ne_str {b : Str} {st : Sto} {Q : Bool → Sto → Prop} (h : Q false st) : wCmp .ne (.str b) (.str b) st Q := by
  show Q (!decide (b = b)) st
  rw [decide_eq_true rfl]; exact h
theorem strsOf_map : ∀ L : List Str, strsOf (L.map D.str) = some L
  | [] => rfl
  | x :: r => by
    show (strsOf (r.map D.str)).map (x :: ·) = _
    rw [strsOf_map r]; rfl
theorem joinL_nil : ∀ L : List (List Nat), TL.joinL [] L = L.flatten
  | [] => rfl
  | [x] => by simp [TL.joinL]
  | x :: y :: r => by
    have ih := joinL_nil (y :: r)
    simp only [TL.joinL] at ih ⊢
    rw [ih]; simp
theorem nil_S : (Str.ofString "") = Sx [] := by decide +kernel
/-- `''.join(..)` -/
theorem join_nil (L : List (List Nat)) : Txt.join (Str.ofString "") (L.map Sx) = Sx L.flatten := by
  rw [nil_S, SX.join_S, joinL_nil]
theorem toP_tup {n : Nat} {st : Sto} {xs : List D} {ps : List PyData} (hp : xs.mapM (toP n st) = some ps) : toP (n + 1) st (.tup xs) = some (.tuple ps) := by
  show Option.map PyData.tuple (xs.mapM (toP n st)) = _
  rw [hp]; rfl
theorem toP_str {n : Nat} {st : Sto} {x : Str} : toP (n + 1) st (.str x) = some (.str x) := rfl
theorem toP_int {n : Nat} {st : Sto} {x : Int} : toP (n + 1) st (.int x) = some (.int x) := rfl
theorem two_le (a b : D) : [a, b].length ≤ Lm := by
  show 2 ≤ 16777216
  decide
theorem one_le (a : D) : [a].length ≤ Lm := by
  show 1 ≤ 16777216
  decide
theorem four_le (a b c d : D) : [a, b, c, d].length ≤ Lm := by
  show 4 ≤ 16777216
  decide
theorem three_le (a b c : D) : [a, b, c].length ≤ Lm := by
  show 3 ≤ 16777216
  decide
/-- slot steps of a walk over the store's last list -/
theorem mt_last {m : Mt} (hm : (!m.onStr && !m.onDic) = true) (st : Sto) (xs : List D) : mtOk m (st ++ [.lst xs]) (.ref st.length) = true := mtOk_lst hm (lst_last _ _)
theorem sum_flat : ∀ L : List (List Nat), ((L.map Sx).map (·.length)).sum = L.flatten.length
  | [] => rfl
  | l :: L => by
    have ih := sum_flat L
    simp only [List.map_cons, List.sum_cons, List.flatten_cons, List.length_append, S_len] at ih ⊢
    rw [ih]
theorem strsOf_S (L : List (List Nat)) : strsOf (L.map fun l => D.str (Sx l)) = some (L.map Sx) := by
  rw [show L.map (fun l => D.str (Sx l)) = (L.map Sx).map D.str by simp, strsOf_map]
theorem join_le1 {L : List (List Nat)} (h : L.flatten.length ≤ Lm) : ((L.map Sx).map (·.length)).sum + (L.map Sx).length * (Str.ofString "").length ≤ Lm := by
  rw [sum_flat, show (Str.ofString "").length = 0 by decide, Nat.mul_zero]; exact h
theorem join_le2 {L : List (List Nat)} (h : L.flatten.length ≤ Lm) : (Txt.join (Str.ofString "") (L.map Sx)).length ≤ Lm := by
  rw [join_nil, S_len]; exact h
/-- a comprehension by its invariant over what is done and what is made -/
theorem loopC_inv {gs : List (Nat × List D)} {body : D → Sto → (Sto → Prop) → Prop} {K : Sto → Prop} {α : Type} {f : α → D} {st : Sto} (I : List α → List D → Prop) (all : List α) (hg : ∀ acc, gOk gs (st ++ [.lst acc]))
    (hb : ∀ pre x post, all = pre ++ x :: post → ∀ acc K', I pre acc → acc.length ≤ pre.length → (∀ acc', I (pre ++ [x]) acc' → acc'.length ≤ pre.length + 1 → K' (st ++ [.lst acc'])) → body (f x) (st ++ [.lst acc]) K') (hK : ∀ acc, I all acc → acc.length ≤ all.length → K (st ++ [.lst acc])) (h0 : I [] []) : loopC gs body (all.map f) (st ++ [.lst []]) K := by
  have go : ∀ (post pre : List α), all = pre ++ post → ∀ acc, I pre acc → acc.length ≤ pre.length → loopC gs body (post.map f) (st ++ [.lst acc]) K := by
    intro post
    induction post with
    | nil => intro pre e acc h hl; rw [List.append_nil] at e; subst e; exact ⟨hg acc, hK acc h hl⟩
    | cons x post ih =>
      intro pre e acc h hl
      refine ⟨hg acc, hb pre x post e acc _ h hl fun acc' h' hl' => ih (pre ++ [x]) (by rw [e]; simp) acc' h' (by simpa using hl')⟩
  exact go all [] rfl [] h0 (Nat.le_refl _)
theorem flat_one : ∀ l : List Nat, (l.map fun c => [c]).flatten = l
  | [] => rfl
  | c :: l => by rw [List.map_cons, List.flatten_cons, flat_one l]; rfl
theorem strsOf_one (l : List Nat) : strsOf (l.map fun c => D.str (Sx [c])) = some ((l.map fun c => [c]).map Sx) := by
  rw [← strsOf_S, List.map_map]; rfl
theorem lay_all : ∀ {xs : List PyData}, (∀ x ∈ xs, PyData.canLay0 x = true) → PyData.canLayAll0 xs = true
  | [], _ => by simp [PyData.canLayAll0]
  | x :: L, h => by
    rw [PyData.canLayAll0, h x List.mem_cons_self, lay_all fun y hy => h y (List.mem_cons_of_mem _ hy)]; rfl
theorem depth_all {k : Nat} : ∀ {xs : List PyData}, (∀ x ∈ xs, PyData.depth x ≤ k) → PyData.depthAll xs ≤ k
  | [], _ => by simp [PyData.depthAll]
  | x :: L, h => by
    rw [PyData.depthAll]
    have h1 := h x List.mem_cons_self
    have h2 := depth_all (k := k) (xs := L) fun y hy => h y (List.mem_cons_of_mem _ hy)
    omega
/-- plain data of a bounded depth -/
def Pl (k : Nat) (p : PyData) : Prop := PyData.canLay0 p = true ∧ PyData.depth p ≤ k
theorem pl_str {x : Str} (h : PyData.strOk x = true) (k : Nat) : Pl k (.str x) := ⟨by rw [PyData.canLay0]; exact h, by simp [PyData.depth]⟩
theorem pl_S {l : List Nat} (h : ∀ c ∈ l, c < 128) (k : Nat) : Pl k (.str (Sx l)) := pl_str (ok_S h) k
theorem pl_int (i : Int) (k : Nat) : Pl k (.int i) := ⟨by simp [PyData.canLay0], by simp [PyData.depth]⟩
theorem pl_bl (i : Bool) (k : Nat) : Pl k (.bool i) := ⟨by simp [PyData.canLay0], by simp [PyData.depth]⟩
theorem pl_non (k : Nat) : Pl k .none := ⟨by simp [PyData.canLay0], by simp [PyData.depth]⟩
theorem pl_lst {k : Nat} {xs : List PyData} (h : ∀ x ∈ xs, Pl k x) : Pl (k + 1) (.list xs) := ⟨by rw [PyData.canLay0]; exact lay_all fun x hx => (h x hx).1, by
  rw [PyData.depth]
  have := depth_all (k := k) (xs := xs) fun x hx => (h x hx).2
  omega⟩
theorem pl_tup {k : Nat} {xs : List PyData} (h : ∀ x ∈ xs, Pl k x) : Pl (k + 1) (.tuple xs) := ⟨by rw [PyData.canLay0]; exact lay_all fun x hx => (h x hx).1, by
  rw [PyData.depth]
  have := depth_all (k := k) (xs := xs) fun x hx => (h x hx).2
  omega⟩
theorem pl_shaped {k : Nat} {p : PyData} (h : Pl k p) (hk : k ≤ 64) : SeqAt.shaped p = true := by
  unfold SeqAt.shaped
  rw [h.1, Bool.true_and]
  exact decide_eq_true (by have := h.2; omega)
theorem eqv_same {p : PyData} (hs : SeqAt.shaped p = true) : PyData.eqv p p = true := SeqAt.eqv_refl p (SeqAt.canLay_of_shaped hs)
theorem ty_last (st : Sto) (xs : List D) : tyN (st ++ [.lst xs]) (.ref st.length) = some "list" := by
  show (match (st ++ [O.lst xs])[st.length]? with
    | some (.lst _) => some "list"
    | some (.fls _) => some "list"
    | some (.dK _) => some "dict"
    | some (.dT _) => some "dict"
    | _ => none) = _
  rw [at_last]
theorem mapM_cons2 {α β : Type} {f : α → Option β} {a : α} {b : β} {as : List α} {bs : List β} (h1 : f a = some b) (h2 : as.mapM f = some bs) : (a :: as).mapM f = some (b :: bs) := by
  rw [List.mapM_cons, h1, h2]; rfl
end Q3

set_option Elab.async false
set_option linter.all false
set_option maxRecDepth 100000
set_option maxHeartbeats 2000000
/-! Q3r: slices of lists, the middle of a store. -/
namespace Q3
open PySem
open L2 (cutS atI)
theorem cutD_to (l : List D) (k : Nat) : cutD l none (some (k : Int)) = l.take k := by
  unfold cutD
  rw [HT.sIx_none, HT.sIx_nat, List.drop_zero, Nat.sub_zero]
  by_cases h : k ≤ l.length
  · rw [Nat.min_eq_left h]
  · rw [Nat.min_eq_right (by omega), List.take_length, List.take_of_length_le (by omega)]
theorem cutD_from (l : List D) (k : Nat) : cutD l (some (k : Int)) none = l.drop k := by
  unfold cutD
  rw [HT.sIx_none, HT.sIx_nat]
  by_cases h : k ≤ l.length
  · rw [Nat.min_eq_left h, List.take_of_length_le (by rw [List.length_drop]; exact Nat.le_refl _)]
  · rw [Nat.min_eq_right (by omega), List.drop_length, List.drop_eq_nil_of_le (by omega), List.take_nil]
theorem cutD_mid (l : List D) (i j : Nat) (h : j ≤ l.length) : cutD l (some (i : Int)) (some (j : Int)) = (l.drop i).take (j - i) := by
  unfold cutD
  rw [HT.sIx_nat, HT.sIx_nat, Nat.min_eq_left h]
  by_cases hi : i ≤ l.length
  · rw [Nat.min_eq_left hi]
  · rw [Nat.min_eq_right (by omega), List.drop_length, List.drop_eq_nil_of_le (by omega), List.take_nil, List.take_nil]
theorem at_mid {A e g : Sto} {o : O} {a : Nat} (h : a = A.length + e.length) : (A ++ (e ++ [o] ++ g))[a]? = some o := by
  rw [← List.append_assoc, ← List.append_assoc, List.getElem?_append_left (by simp; omega), h, ← List.length_append]
  exact at_last _ _
theorem set_mid {A e g : Sto} {o o' : O} {a : Nat} (h : a = A.length + e.length) : (A ++ (e ++ [o] ++ g)).set a o' = A ++ (e ++ [o'] ++ g) := by
  rw [← List.append_assoc, ← List.append_assoc, List.set_append_left _ _ (by simp; omega), h, ← List.length_append, set_last]
  simp only [List.append_assoc]
theorem lst_mid {A e g : Sto} {xs : List D} {a : Nat} (h : a = A.length + e.length) : lstAt (A ++ (e ++ [.lst xs] ++ g)) a = some xs := by
  unfold lstAt
  rw [at_mid h]
theorem at_end {A e : Sto} {o : O} {a : Nat} (h : a = A.length + e.length) : (A ++ (e ++ [o]))[a]? = some o := by
  have := at_mid (g := []) (o := o) h
  rwa [List.append_nil] at this
theorem lst_end {A e : Sto} {xs : List D} {a : Nat} (h : a = A.length + e.length) : lstAt (A ++ (e ++ [.lst xs])) a = some xs := by
  unfold lstAt
  rw [at_end h]
theorem seq_end {A e : Sto} {xs : List D} {a : Nat} (h : a = A.length + e.length) : seqOf (A ++ (e ++ [.lst xs])) (.ref a) = some xs := lst_end h
theorem seq_mid {A e g : Sto} {xs : List D} {a : Nat} (h : a = A.length + e.length) : seqOf (A ++ (e ++ [.lst xs] ++ g)) (.ref a) = some xs := lst_mid h
end Q3

set_option Elab.async false
set_option linter.all false
set_option maxRecDepth 100000
set_option maxHeartbeats 2000000
set_option pp.maxSteps 1500
/-! Q3v: the feed of draws (a dict), as several laws have it. -/
namespace Q3
open PySem
open L2 (atI cutS)
local macro_rules | `(tactic| walk_at "w") => `(tactic| conv => whnf)
def sBegin : Ss := (.cons
 (.ret (.dct [.inr "script", .inr "at", .inr "left", .inr "rest", .inr "seed"] (.cons (.bin .add (.var 0) (.bin .mul (.lst (.cons (.int 0) .nil)) (.bf .int (.cons (.cmp .eq (.var 0) (.lst .nil)) .nil)))) (.cons (.int 0) (.cons (.int 0) (.cons (.int 0) (.cons (.int 1) .nil))))))) .nil)
/-- slots: 0 feed 1 many 2 script 3 cell 4 found -/
def sFDraw : Ss := (.cons
 (.asg (.nm 2) (.ix (.var 0) (.str "script"))) (.cons
 (.iff (.val (.cmp .eq (.ix (.var 0) (.str "left")) (.int 0))) (.cons
  (.asg (.nm 3) (.bin .add (.ix (.var 2) (.bin .mod (.ix (.var 0) (.str "at")) (.bf .len (.cons (.var 2) .nil)))) (.bin .fdiv (.ix (.var 0) (.str "at")) (.bf .len (.cons (.var 2) .nil))))) (.cons
  (.six (.var 0) (.str "at") (.bin .add (.ix (.var 0) (.str "at")) (.int 1))) (.cons
  (.six (.var 0) (.str "seed") (.bin .mod (.bin .add (.bin .add (.bin .mul (.ix (.var 0) (.str "seed")) (.int 31)) (.bin .mod (.var 3) (.int 1000003))) (.ix (.var 0) (.str "at"))) (.int 1000003))) (.cons
  (.six (.var 0) (.str "left") (.int 8)) (.cons
  (.six (.var 0) (.str "rest") (.int 0)) (.cons
  (.iff (.val (.cmp .ge (.var 3) (.bin .pow (.int 10) (.int 18)))) (.cons
   (.six (.var 0) (.str "rest") (.var 3)) .nil) .nil) .nil)))))) .nil) (.cons
 (.six (.var 0) (.str "left") (.bin .sub (.ix (.var 0) (.str "left")) (.int 1))) (.cons
 (.iff (.val (.cmp .gt (.ix (.var 0) (.str "rest")) (.int 0))) (.cons
  (.asg (.nm 4) (.bin .mod (.ix (.var 0) (.str "rest")) (.var 1))) (.cons
  (.six (.var 0) (.str "rest") (.bin .fdiv (.ix (.var 0) (.str "rest")) (.var 1))) (.cons
  (.ret (.var 4)) .nil))) .nil) (.cons
 (.six (.var 0) (.str "seed") (.bin .mod (.bin .add (.bin .add (.bin .mul (.ix (.var 0) (.str "seed")) (.ix (.var 0) (.str "seed"))) (.bin .mul (.int 7919) (.ix (.var 0) (.str "left")))) (.int 17)) (.int 999983))) (.cons
 (.ret (.bin .mod (.bin .fdiv (.bin .mod (.bin .mul (.ix (.var 0) (.str "seed")) (.int 48271)) (.int 2147483647)) (.int 7)) (.var 1))) .nil))))))
structure Fd where
  at_ : Int
  left : Int
  rest : Int
  seed : Int
structure Fd.ok (f : Fd) : Prop where
  l0 : 0 ≤ f.left
  l1 : f.left ≤ 8
  s0 : 0 ≤ f.seed
  s1 : f.seed ≤ 1000003
def feedD (f : Fd) : O := .dK [(.inr (Str.ofString "script"), .ref 5), (.inr (Str.ofString "at"), .int f.at_), (.inr (Str.ofString "left"), .int f.left), (.inr (Str.ofString "rest"), .int f.rest), (.inr (Str.ofString "seed"), .int f.seed)]
def feedS (ns : List Int) (f : Fd) : Sto := [.fls (ns.map D.int), feedD f, .lst [.int 0], .lst [], .lst (if ns = [] then [.int 0] else []), .lst ((if ns = [] then [0] else ns).map D.int)]
theorem begin_ok {p : Pr} {f n : Nat} (hp : p.P[f]? = some ⟨1, 1, sBegin⟩) {ns : List Int} (hns : ns.length ≤ 63) {Q : KD} {X : KX} (hQ : ∀ f : Fd, f.ok → Q (.ref 1) (feedS ns f)) : callN p (n + 1) f [.ref 0] [.fls (ns.map D.int)] Q X := by
  refine callN_run hp rfl ?_
  have h0 := hQ ⟨0, 0, 0, 1⟩ ⟨by decide, by decide, by decide, by decide⟩
  cases ns with
  | nil =>
    walk_at "w"
    refine .inl ⟨true, rfl, ?_⟩
    walk_at "w"
    refine ⟨⟨by decide, by decide, by decide⟩, ?_⟩
    walk_at "w"
    refine ⟨by decide, ?_⟩
    exact h0
  | cons i r =>
    walk_at "w"
    refine .inl ⟨false, rfl, ?_⟩
    walk_at "w"
    refine ⟨⟨by decide, by decide, by decide⟩, ?_⟩
    walk_at "w"
    refine ⟨by show ((i :: r).map D.int).length + 0 ≤ 16777216; rw [List.length_map]; omega, ?_⟩
    walk_at "w"
    rw [show (List.map D.int (i :: r) ++ (List.replicate (if false = true then (1 : Int) else 0).toNat [D.int 0]).flatten) = List.map D.int (i :: r) from by simp]
    exact h0
theorem fdraw_ok {p : Pr} {f n : Nat} (hp : p.P[f]? = some ⟨5, 2, sFDraw⟩) {ns : List Int} (hns : ns.length ≤ 63) {fd : Fd} (hf : fd.ok) {many : Int} (hm : 0 < many ∧ many ≤ 1000000) {e : Sto} {Q : KD} {X : KX}
    (hQ : ∀ v fd', 0 ≤ v → v < many → fd'.ok → Q (.int v) (feedS ns fd' ++ e)) : callN p (n + 1) f [.ref 1, .int many] (feedS ns fd ++ e) Q X := by
  refine callN_run hp rfl ?_
  obtain ⟨l0, l1, s0, s1⟩ := hf
  obtain ⟨at_, left, rest, seed⟩ := fd
  dsimp only at l0 l1 s0 s1
  have hdv : dvOk many = true := dvOk_mk (by omega) (by omega)
  obtain ⟨xs, hxs, hx0, hx1⟩ : ∃ xs : List Int, (if ns = [] then [0] else ns) = xs ∧ 0 < xs.length ∧ xs.length ≤ 63 := by
    cases ns with
    | nil => exact ⟨[0], rfl, by decide, by decide⟩
    | cons i r => exact ⟨_, rfl, by simp, hns⟩
  have tail : ∀ (at_ left rest seed : Int) (o3 o4 : Option D), 1 ≤ left → left ≤ 8 → 0 ≤ seed → seed ≤ 1000003 → wSs (drop 2 sFDraw) (p.cl n) { nx := fun _ st' => Q .non st', rt := Q } (fun c fs _ st' => X c fs st') [some (.ref 1), some (.int many), some (.ref 5), o3, o4] (feedS ns ⟨at_, left, rest, seed⟩ ++ e) := by
    intro at_ left rest seed o3 o4 h1 h2 h3 h4
    walk_at "w"
    by_cases hr : 0 < rest
    · rw [decide_eq_true hr]
      walk_at "w"
      rw [decide_eq_true hm.1]
      walk_at "w"
      rw [hdv]
      exact hQ _ ⟨at_, left - 1, rest / many, seed⟩ (Int.emod_nonneg _ (by omega)) (Int.emod_lt_of_pos _ hm.1) ⟨by show 0 ≤ left - 1; omega, by show left - 1 ≤ 8; omega, h3, h4⟩
    · rw [decide_eq_false hr]
      walk_at "w"
      dsimp only
      refine ⟨.inl (.inr (by omega)), ?_⟩
      walk_at "w"
      refine ⟨.inl (.inl (by decide)), ?_⟩
      walk_at "w"
      dsimp only
      refine ⟨.inl (.inr (by decide)), ?_⟩
      walk_at "w"
      rw [decide_eq_true hm.1]
      have b0 := Int.emod_nonneg (seed * seed + 7919 * (left - 1) + 17) (b := 999983) (by decide)
      have b1 := Int.emod_lt_of_pos (seed * seed + 7919 * (left - 1) + 17) (b := 999983) (by decide)
      exact hQ _ ⟨at_, left - 1, rest, (seed * seed + 7919 * (left - 1) + 17) % 999983⟩ (Int.emod_nonneg _ (by omega)) (Int.emod_lt_of_pos _ hm.1) ⟨by show 0 ≤ left - 1; omega, by show left - 1 ≤ 8; omega, b0, Int.le_trans (Int.le_of_lt b1) (by decide)⟩
  have hat : ∀ z : Int, 0 ≤ z → z < xs.length → ∃ c, atI (xs.map D.int) z = some (.int c) := fun z z0 z1 => by
    obtain ⟨j, rfl⟩ : ∃ j : Nat, z = j := ⟨z.toNat, by omega⟩
    have hj : j < xs.length := by omega
    exact ⟨xs[j], L2.atI_nat (by rw [List.getElem?_map, List.getElem?_eq_getElem hj]; rfl)⟩
  have hS : ∀ fd : Fd, feedS ns fd = [.fls (ns.map D.int), feedD fd, .lst [.int 0], .lst [], .lst (if ns = [] then [.int 0] else []), .lst (xs.map D.int)] := fun fd => by unfold feedS; rw [hxs]
  by_cases hl : left = 0
  · rw [hS]
    walk_at "w"
    rw [decide_eq_true hl]
    walk_at "w"
    rw [List.length_map, decide_eq_true (show (0 : Int) < (xs.length : Nat) from by omega)]
    walk_at "w"
    obtain ⟨c, hc⟩ := hat (at_ % (xs.length : Nat)) (Int.emod_nonneg _ (by omega)) (Int.emod_lt_of_pos _ (by omega))
    rw [hc]
    obtain ⟨c', hc'⟩ : ∃ c' : Int, c' = c + at_ / (xs.length : Nat) := ⟨_, rfl⟩
    walk_at "w"
    rw [List.length_map, dvOk_mk (show (0 : Int) < (xs.length : Nat) from by omega) (by omega)]
    walk_at "w"
    refine ⟨.inl (.inr (by decide)), ?_⟩
    walk_at "w"
    dsimp only
    rw [← hc']
    have b0 := Int.emod_nonneg (seed * 31 + c' % 1000003 + (at_ + 1)) (b := 1000003) (by decide)
    have b1 := Int.emod_lt_of_pos (seed * 31 + c' % 1000003 + (at_ + 1)) (b := 1000003) (by decide)
    split
    · have := tail (at_ + 1) 8 c' ((seed * 31 + c' % 1000003 + (at_ + 1)) % 1000003) (some (.int c')) none (by decide) (by decide) b0 (Int.le_of_lt b1)
      rw [hS] at this
      exact this
    · have := tail (at_ + 1) 8 0 ((seed * 31 + c' % 1000003 + (at_ + 1)) % 1000003) (some (.int c')) none (by decide) (by decide) b0 (Int.le_of_lt b1)
      rw [hS] at this
      exact this
  · walk_at "w"
    rw [decide_eq_false hl]
    exact tail at_ left rest seed none none (by omega) l1 s0 s1
end Q3

set_option Elab.async false
set_option linter.all false
set_option maxRecDepth 100000
set_option maxHeartbeats 2000000
set_option pp.maxSteps 1500
/-! Q3w: names out of the feed, as several laws have them. -/
namespace Q3
open PySem
open L2 (atI cutS)
local macro_rules | `(tactic| walk_at "w") => `(tactic| conv => whnf)
theorem loopC_sto {gs : List (Nat × List D)} {body : D → Sto → (Sto → Prop) → Prop} {K : Sto → Prop} {α : Type} {f : α → D} (I : List α → Sto → Prop) (all : List α) (hg : ∀ pre st, I pre st → gOk gs st)
    (hb : ∀ pre x post, all = pre ++ x :: post → ∀ K' st, I pre st → (∀ st', I (pre ++ [x]) st' → K' st') → body (f x) st K') (hK : ∀ st, I all st → K st) {st : Sto} (h : I [] st) : loopC gs body (all.map f) st K := by
  have go : ∀ (post pre : List α), all = pre ++ post → ∀ st, I pre st → loopC gs body (post.map f) st K := by
    intro post
    induction post with
    | nil => intro pre e st h; rw [List.append_nil] at e; subst e; exact ⟨hg _ _ h, hK st h⟩
    | cons x post ih =>
      intro pre e st h
      exact ⟨hg _ _ h, hb pre x post e _ st h fun st' h' => ih (pre ++ [x]) (by rw [e]; simp) st' h'⟩
  exact go all [] rfl st h
/-- slots: 0 feed 1 many 2 letters 3 base 4 size 5 first 6 k -/
def sNames (fd : Nat) : Ss := (.cons
 (.asg (.nm 2) (.str "abcdefghijklmnopqrstuvwxyz")) (.cons
 (.asg (.nm 3) (.mt .join (.str "") (.cons (.comp (.ix (.var 2) (.call fd (.cons (.var 0) (.cons (.int 26) .nil)))) (.nm 6) (.rng1 (.int 5)) .yes) .nil))) (.cons
 (.iff (.val (.cmp .eq (.call fd (.cons (.var 0) (.cons (.int 3) .nil))) (.int 0))) (.cons
  (.ret (.comp (.bin .add (.str "z") (.sl (.var 3) .no (.var 6))) (.nm 6) (.rng1 (.var 1)) .yes)) .nil) .nil) (.cons
 (.asg (.nm 4) (.call fd (.cons (.var 0) (.cons (.int 4) .nil)))) (.cons
 (.asg (.nm 5) (.call fd (.cons (.var 0) (.cons (.int 26) .nil)))) (.cons
 (.ret (.comp (.bin .add (.bin .add (.sl (.var 3) .no (.var 4)) (.str "q")) (.ix (.var 2) (.bin .mod (.bin .add (.var 5) (.var 6)) (.int 26)))) (.nm 6) (.rng1 (.var 1)) .yes)) .nil))))))
def abc : List Nat := [97, 98, 99, 100, 101, 102, 103, 104, 105, 106, 107, 108, 109, 110, 111, 112, 113, 114, 115, 116, 117, 118, 119, 120, 121, 122]
theorem abc_eq : (Str.ofString "abcdefghijklmnopqrstuvwxyz").cps.toList = abc := by decide +kernel
theorem abc_at {v : Int} (h0 : 0 ≤ v) (h1 : v < 26) : ∃ c, atI abc v = some c ∧ c < 128 := by
  obtain ⟨j, rfl⟩ : ∃ j : Nat, v = j := ⟨v.toNat, by omega⟩
  have hj : j < abc.length := by show j < 26; omega
  refine ⟨abc[j], L2.atI_nat (List.getElem?_eq_getElem hj), ?_⟩
  have : ∀ c ∈ abc, c < 128 := by decide
  exact this _ (List.getElem_mem hj)
theorem names_ok {p : Pr} {f fd n : Nat} (hp : p.P[f]? = some ⟨7, 2, sNames fd⟩) (hd : p.P[fd]? = some ⟨5, 2, sFDraw⟩) {ns : List Int} (hns : ns.length ≤ 63) {fe : Fd} (hf : fe.ok) {m : Nat} (hm : m ≤ 100) {e : Sto} {Q : KD} {X : KX}
    (hQ : ∀ (fe' : Fd) (zs : List (List Nat)) a g, fe'.ok → zs.length = m → (∀ z ∈ zs, z.length ≤ 10 ∧ ∀ c ∈ z, c < 128) → lstAt (feedS ns fe' ++ (e ++ g)) a = some (zs.map fun z => D.str (Sx z)) → Q (.ref a) (feedS ns fe' ++ (e ++ g))) : callN p (n + 2) f [.ref 1, .int m] (feedS ns fe ++ e) Q X := by
  refine callN_run hp rfl ?_
  walk_at "w"
  rw [rngL_eq]
  refine loopC_sto (f := fun (k : Nat) => D.int (0 + (k : Int))) (fun pre st' => ∃ fe' acc, fe'.ok ∧ acc.length = pre.length ∧ st' = feedS ns fe' ++ e ++ [.lst (acc.map fun c => D.str (Sx [c]))] ∧ ∀ c ∈ acc, c < 128) (List.range (Int.toNat 5)) (fun _ _ _ => gOk_nil) ?_ ?_ ⟨fe, [], hf, rfl, rfl, fun c h => nomatch h⟩
  · rintro pre x post he K' _ ⟨fe', acc, h1, h2, rfl, h3⟩ hK
    walk_at "w"
    rw [List.append_assoc]
    refine fdraw_ok hd hns h1 ⟨by decide, by decide⟩ fun v fe2 v0 v1 h5 => ?_
    obtain ⟨c, hc, hc1⟩ := abc_at v0 v1
    rw [← List.append_assoc]
    walk_at "w"
    rw [abc_eq, hc]
    walk_at "w"
    rw [show (feedS ns fe ++ e).length = (feedS ns fe2 ++ e).length from rfl, at_last]
    have hpl : pre.length < 5 := by
      have := congrArg List.length he
      rw [List.length_append, List.length_cons, List.length_range] at this
      have h5 : Int.toNat 5 = 5 := rfl
      omega
    refine ⟨by show (acc.map _).length < 16777216; rw [List.length_map]; omega, ?_⟩
    rw [set_last]
    refine hK _ ⟨fe2, acc ++ [c], h5, by simp [h2], ?_, ?_⟩
    · rw [List.map_append]; rfl
    · intro x hx
      rcases List.mem_append.mp hx with hx | hx
      · exact h3 x hx
      · rw [List.mem_singleton.mp hx]; exact hc1
  · rintro _ ⟨fe', acc, h1, h2, rfl, h3⟩
    have hl5 : acc.length = 5 := h2
    walk_at "w"
    rw [show (feedS ns fe ++ e).length = (feedS ns fe' ++ e).length from rfl, seq_last]
    walk_at "w"
    rw [show (acc.map fun c => D.str (Sx [c])) = ((acc.map fun c => [c]).map fun l => D.str (Sx l)) from by rw [List.map_map]; rfl, strsOf_S]
    have hfl : (acc.map fun c => [c]).flatten.length ≤ Lm := by rw [flat_one, hl5]; decide
    refine ⟨join_le1 hfl, join_le2 hfl, ?_⟩
    rw [join_nil, flat_one]
    rw [List.append_assoc]
    have fin : ∀ (fe' : Fd) (g : Sto) (zs : List (List Nat)) {xs : List D}, fe'.ok → zs.length = m → (∀ z ∈ zs, z.length ≤ 10 ∧ ∀ c ∈ z, c < 128) → xs = (zs.map fun z => D.str (Sx z)) → Q (.ref (feedS ns fe' ++ (e ++ g)).length) (feedS ns fe' ++ (e ++ g) ++ [.lst xs]) := by
      intro fe' g zs xs h1 h2 h3 h4
      rw [List.append_assoc (feedS ns fe'), List.append_assoc e]
      refine hQ fe' zs _ (g ++ [.lst xs]) h1 h2 h3 ?_
      rw [← List.append_assoc e, ← List.append_assoc (feedS ns fe'), ← h4]
      exact lst_last _ _
    walk_at "w"
    refine fdraw_ok hd hns h1 ⟨by decide, by decide⟩ fun v fe2 v0 v1 h5 => ?_
    walk_at "w"
    by_cases hv : v = 0
    · rw [decide_eq_true hv]
      walk_at "w"
      rw [dec62_mk (i := ((m : Nat) : Int)) (by omega) (by omega)]
      walk_at "w"
      rw [rngL_eq, Int.toNat_natCast]
      refine loopC_map (f := fun (k : Nat) => D.int (0 + (k : Int))) (fun k => some (.str (Sx ([122] ++ acc.take k)))) (fun _ => gOk_nil) (List.range m) [] (fun k hk ac K' hK' hac => ?_) (by rw [List.length_range]; show 0 + m ≤ 16777216; omega) ?_
      · dsimp only at hK'
        walk_at "w"
        rw [Int.zero_add, cut_to]
        refine ⟨by show 1 + (Sx (acc.take k)).length ≤ 16777216; rw [S_len, List.length_take]; omega, ?_⟩
        walk_at "w"
        rw [at_last]
        refine ⟨hac, ?_⟩
        rw [set_last, show Str.ofString "z" = Sx [122] from by decide +kernel, S_app]
        exact hK' hac
      · rw [List.nil_append]
        refine fin fe2 _ ((List.range m).map fun k => [122] ++ acc.take k) h5 (by simp) (fun z hz => ?_) (by rw [List.map_map]; simp [List.filterMap_eq_map])
        obtain ⟨k, _, rfl⟩ := List.mem_map.mp hz
        refine ⟨by rw [List.length_append, List.length_take]; show 1 + _ ≤ 10; omega, fun c hc => ?_⟩
        rcases List.mem_append.mp hc with hc | hc
        · rw [List.mem_singleton.mp hc]; decide
        · exact h3 c (List.mem_of_mem_take hc)
    · rw [decide_eq_false hv]
      walk_at "w"
      refine fdraw_ok hd hns h5 ⟨by decide, by decide⟩ fun v fe3 v0 v1 h6 => ?_
      walk_at "w"
      refine fdraw_ok hd hns h6 ⟨by decide, by decide⟩ fun u fe4 u0 u1 h7 => ?_
      walk_at "w"
      rw [dec62_mk (i := ((m : Nat) : Int)) (by omega) (by omega)]
      walk_at "w"
      obtain ⟨j, rfl⟩ : ∃ j : Nat, v = j := ⟨v.toNat, by omega⟩
      rw [rngL_eq, Int.toNat_natCast]
      refine loopC_map (f := fun (k : Nat) => D.int (0 + (k : Int))) (fun k => some (.str (Sx (acc.take j ++ [113] ++ [((atI abc ((u + (k : Int)) % 26)).getD 0)])))) (fun _ => gOk_nil) (List.range m) [] (fun k hk ac K' hK' hac => ?_) (by rw [List.length_range]; show 0 + m ≤ 16777216; omega) ?_
      · dsimp only at hK'
        obtain ⟨c, hc, hc1⟩ := abc_at (v := (u + (k : Int)) % 26) (Int.emod_nonneg _ (by decide)) (Int.emod_lt_of_pos _ (by decide))
        rw [hc] at hK'
        walk_at "w"
        rw [cut_to]
        refine ⟨by rw [S_len, List.length_take]; show _ + 1 ≤ 16777216; omega, ?_⟩
        walk_at "w"
        rw [Int.zero_add, abc_eq, hc]
        walk_at "w"
        rw [show Str.ofString "q" = Sx [113] from by decide +kernel, S_app]
        refine ⟨by rw [S_len, List.length_append, List.length_take]; show _ + 1 + 1 ≤ 16777216; omega, ?_⟩
        walk_at "w"
        rw [at_last]
        refine ⟨hac, ?_⟩
        rw [set_last]
        have := hK' hac
        rw [← S_app] at this
        exact this
      · rw [List.nil_append]
        refine fin fe4 _ ((List.range m).map fun (k : Nat) => acc.take j ++ [113] ++ [((atI abc ((u + (k : Int)) % 26)).getD 0)]) h7 (by simp) (fun z hz => ?_) (by rw [List.map_map]; simp [List.filterMap_eq_map])
        obtain ⟨k, _, rfl⟩ := List.mem_map.mp hz
        obtain ⟨c, hc, hc1⟩ := abc_at (v := (u + (k : Int)) % 26) (Int.emod_nonneg _ (by decide)) (Int.emod_lt_of_pos _ (by decide))
        rw [hc]
        refine ⟨by simp; omega, fun x hx => ?_⟩
        simp only [List.mem_append, List.mem_singleton] at hx
        rcases hx with (hx | rfl) | rfl
        · exact h3 x (List.mem_of_mem_take hx)
        · decide
        · exact hc1
end Q3

set_option Elab.async false
set_option linter.all false
set_option maxRecDepth 100000
set_option maxHeartbeats 2000000
set_option pp.maxSteps 1500
/-! TKm: the tokens of a text, for any program that has these defs. -/
namespace TK
open PySem Q3
open L2 (cutS atI)
local macro_rules | `(tactic| walk_at "w") => `(tactic| conv => whnf)
/-- slots: 0 text 1 at -/
def sGapEnd (g0 : Nat) : Ss := (.cons
 (.wh (.and (.val (.cmp .lt (.var 1) (.bf .len (.cons (.var 0) .nil)))) (.or (.val (.cmp .isin (.ix (.var 0) (.var 1)) (.glob g0))) (.val (.cmp .eq (.ix (.var 0) (.var 1)) (.str ";"))))) (.cons
  (.iff (.val (.cmp .eq (.ix (.var 0) (.var 1)) (.str ";"))) (.cons
   (.wh (.and (.val (.cmp .lt (.var 1) (.bf .len (.cons (.var 0) .nil)))) (.val (.cmp .ne (.ix (.var 0) (.var 1)) (.str "\n")))) (.cons
    (.asg (.nm 1) (.bin .add (.var 1) (.int 1))) .nil)) .nil) (.cons
   (.asg (.nm 1) (.bin .add (.var 1) (.int 1))) .nil)) .nil)) (.cons
 (.ret (.var 1)) .nil))
/-- slots: 0 text 1 at -/
def sWordEnd (g0 g1 : Nat) : Ss := (.cons
 (.iff (.val (.cmp .isin (.ix (.var 0) (.var 1)) (.glob g1))) (.cons
  (.ret (.bin .add (.var 1) (.int 1))) .nil) .nil) (.cons
 (.wh (.and (.val (.cmp .lt (.var 1) (.bf .len (.cons (.var 0) .nil)))) (.and (.val (.cmp .notin (.ix (.var 0) (.var 1)) (.glob g0))) (.and (.val (.cmp .notin (.ix (.var 0) (.var 1)) (.glob g1))) (.val (.cmp .ne (.ix (.var 0) (.var 1)) (.str ";")))))) (.cons
  (.asg (.nm 1) (.bin .add (.var 1) (.int 1))) .nil)) (.cons
 (.ret (.var 1)) .nil)))
/-- slots: 0 text 1 tokens 2 start 3 at 4 end -/
def sTokensOf (fg fw : Nat) : Ss := (.cons
 (.asg (.nm 1) (.lst .nil)) (.cons
 (.asg (.nm 2) (.int 0)) (.cons
 (.asg (.nm 3) (.call fg (.cons (.var 0) (.cons (.int 0) .nil)))) (.cons
 (.wh (.val (.cmp .lt (.var 3) (.bf .len (.cons (.var 0) .nil)))) (.cons
  (.asg (.nm 4) (.call fw (.cons (.var 0) (.cons (.var 3) .nil)))) (.cons
  (.ex (.mt .append (.var 1) (.cons (.tup (.cons (.sl (.var 0) (.var 2) (.var 3)) (.cons (.sl (.var 0) (.var 3) (.var 4)) .nil))) .nil))) (.cons
  (.asg (.nm 2) (.var 4)) (.cons
  (.asg (.nm 3) (.call fg (.cons (.var 0) (.cons (.var 4) .nil)))) .nil))))) (.cons
 (.ret (.tup (.cons (.var 1) (.cons (.sl (.var 0) (.var 2) .no) .nil)))) .nil)))))
/-- slots: 0 tokens 1 tail 2 gap 3 word -/
def sTextOf : Ss := (.cons
 (.ret (.bin .add (.mt .join (.str "") (.cons (.comp (.bin .add (.var 2) (.var 3)) (.tp [2, 3]) (.seq (.var 0)) .yes) .nil)) (.var 1))) .nil)
structure Has (p : Pr) (fg fw ft g0 g1 : Nat) : Prop where
  hfg : p.P[fg]? = some ⟨2, 2, sGapEnd g0⟩
  hfw : p.P[fw]? = some ⟨2, 2, sWordEnd g0 g1⟩
  hft : p.P[ft]? = some ⟨5, 1, sTokensOf fg fw⟩
  hg0 : p.G[g0]? = some (.str (Str.ofString " \n"))
  hg1 : p.G[g1]? = some (.str (Str.ofString "()"))
section
variable {p : Pr} {fg fw ft g0 g1 : Nat} (h : Has p fg fw ft g0 g1)
def isBl (c : Nat) : Bool := c == 32 || c == 10
def isBr (c : Nat) : Bool := c == 40 || c == 41
/-- how many signs of a gap stand ahead (within a remark or not) -/
def gE : Bool → List Nat → Nat
  | _, [] => 0
  | false, c :: r => if c = 59 then gE true r + 1 else if isBl c then gE false r + 1 else 0
  | true, c :: r => if c = 10 then gE false r + 1 else gE true r + 1
theorem gE_le : ∀ (l : List Nat) (b : Bool), gE b l ≤ l.length
  | [], b => by cases b <;> exact Nat.le_refl _
  | c :: r, false => by
    unfold gE
    have h1 := gE_le r true
    have h2 := gE_le r false
    rw [List.length_cons]
    split
    · omega
    · split
      · omega
      · omega
  | c :: r, true => by
    unfold gE
    have h1 := gE_le r true
    have h2 := gE_le r false
    rw [List.length_cons]
    split <;> omega
/-- how many signs of a word -/
def wE' : List Nat → Nat
  | [] => 0
  | c :: r => if isBl c || isBr c || c == 59 then 0 else wE' r + 1
theorem wE_le : ∀ l : List Nat, wE' l ≤ l.length
  | [] => Nat.le_refl _
  | c :: r => by
    unfold wE'
    have := wE_le r
    rw [List.length_cons]
    split <;> omega
theorem drop_at {w : List Nat} {i : Nat} (h : i < w.length) : w.drop i = w[i] :: w.drop (i + 1) := List.drop_eq_getElem_cons h
theorem blanks_eq : (Str.ofString " \n").cps.toList = [32, 10] := by decide +kernel
theorem brackets_eq : (Str.ofString "()").cps.toList = [40, 41] := by decide +kernel
theorem bl_mem (c : Nat) : decide (c ∈ (Str.ofString " \n").cps.toList) = isBl c := by
  rw [blanks_eq]
  unfold isBl
  rw [Bool.eq_iff_iff]
  simp
theorem br_mem (c : Nat) : decide (c ∈ (Str.ofString "()").cps.toList) = isBr c := by
  rw [brackets_eq]
  unfold isBr
  rw [Bool.eq_iff_iff]
  simp
theorem semi_eq (c : Nat) : decide ((⟨#[c]⟩ : Str) = Str.ofString ";") = decide (c = 59) := by
  rw [show (Str.ofString ";") = Sx [59] by decide +kernel, show (⟨#[c]⟩ : Str) = Sx [c] from rfl, S_dec]
  simp
theorem line_eq (c : Nat) : decide ((⟨#[c]⟩ : Str) = Str.ofString "\n") = decide (c = 10) := by
  rw [show (Str.ofString "\n") = Sx [10] by decide +kernel, show (⟨#[c]⟩ : Str) = Sx [c] from rfl, S_dec]
  simp
include h in
theorem gap_end_ok (n : Nat) (w : List Nat) (i : Nat) (hi : i ≤ w.length) (st : Sto) (Q : KD) (X : KX) (hQ : Q (.int ((i + gE false (w.drop i) : Nat) : Int)) st) : callN p (n+1) fg [.str (Sx w), .int (i : Int)] st Q X := by
  refine callN_run h.hfg rfl ?_
  walk_at "w"
  refine wh_inv (fun en st' => st = st' ∧ ∃ j : Nat, j ≤ w.length ∧ j + gE false (w.drop j) = i + gE false (w.drop i) ∧ en = [some (.str (Sx w)), some (.int (j : Int))]) (fun en _ => match en with
    | [_, some (.int j)] => w.length - j.toNat
    | _ => 0) ?_ ⟨rfl, i, hi, rfl, rfl⟩
  rintro en _ K' ⟨rfl, j, hj, hjs, rfl⟩ hK
  have hx : (w[j]?) = w[j]? := rfl
  rcases Nat.lt_or_ge j w.length with hlt | hge
  · have hat : atI w (j : Int) = some w[j] := atI_S hlt
    have hd := drop_at hlt
    generalize hc : w[j] = c at hat hd
    have hlen : decide ((j : Int) < ((Sx w).length : Int)) = true := decide_eq_true (by rw [S_len]; omega)
    by_cases h59 : c = 59
    · subst h59
      walk_at "w"
      rw [hlen]
      walk_at "w"
      rw [hat]
      walk_at "w"
      rw [h.hg0]
      walk_at "w"
      rw [hat]
      walk_at "w"
      rw [hat]
      walk_at "w"
      refine wh_inv (fun en st' => st = st' ∧ ∃ k : Nat, j ≤ k ∧ k ≤ w.length ∧ k + gE true (w.drop k) = i + gE false (w.drop i) ∧ en = [some (.str (Sx w)), some (.int (k : Int))]) (fun en _ => match en with
    | [_, some (.int j)] => w.length - j.toNat
    | _ => 0) ?_ ⟨rfl, j, Nat.le_refl _, hj, ?_, rfl⟩
      · rintro en _ K'' ⟨rfl, k, hjk, hk, hks, rfl⟩ hK'
        rcases Nat.lt_or_ge k w.length with klt | kge
        · have kat : atI w (k : Int) = some w[k] := atI_S klt
          have kd := drop_at klt
          have hj59 : k = j → w[k] = 59 := fun e => by subst e; exact hc
          generalize hc : w[k] = c2 at kat kd hj59
          have klen : decide ((k : Int) < ((Sx w).length : Int)) = true := decide_eq_true (by rw [S_len]; omega)
          walk_at "w"
          rw [klen]
          walk_at "w"
          rw [kat]
          walk_at "w"
          rw [line_eq]
          by_cases h10 : c2 = 10
          · rw [decide_eq_true h10]
            have hkj : k ≠ j := fun e => by have := hj59 e; omega
            walk_at "w"
            refine hK _ _ ⟨rfl, k, hk, ?_, rfl⟩ ?_
            · rw [← hks, kd, h10]
              rfl
            · show w.length - (k : Int).toNat < w.length - (j : Int).toNat
              omega
          · rw [decide_eq_false h10]
            walk_at "w"
            refine hK' _ _ ⟨rfl, k + 1, by omega, klt, ?_, rfl⟩ ?_
            · rw [← hks, kd]
              conv => rhs; unfold gE
              rw [if_neg h10]
              omega
            · show w.length - ((k : Int) + 1).toNat < w.length - (k : Int).toNat
              omega
        · have klen : decide ((k : Int) < ((Sx w).length : Int)) = false := decide_eq_false (by rw [S_len]; omega)
          walk_at "w"
          rw [klen]
          walk_at "w"
          refine hK _ _ ⟨rfl, k, hk, ?_, rfl⟩ ?_
          · rw [List.drop_of_length_le kge] at hks ⊢
            exact hks
          · show w.length - (k : Int).toNat < w.length - (j : Int).toNat
            omega
      · rw [← hjs, hd]
        rfl
    by_cases hb : isBl c = true
    · walk_at "w"
      rw [hlen]
      walk_at "w"
      rw [hat]
      walk_at "w"
      rw [h.hg0]
      walk_at "w"
      rw [bl_mem, hb]
      walk_at "w"
      rw [hat]
      walk_at "w"
      rw [semi_eq, decide_eq_false h59]
      walk_at "w"
      refine hK _ _ ⟨rfl, j + 1, hlt, ?_, rfl⟩ ?_
      · rw [← hjs, hd]
        conv => rhs; unfold gE
        rw [if_neg h59, if_pos hb]
        omega
      · show w.length - ((j : Int) + 1).toNat < w.length - (j : Int).toNat
        omega
    · have hb' : isBl c = false := by simpa using hb
      walk_at "w"
      rw [hlen]
      walk_at "w"
      rw [hat]
      walk_at "w"
      rw [h.hg0]
      walk_at "w"
      rw [bl_mem, hb']
      walk_at "w"
      rw [hat]
      walk_at "w"
      rw [semi_eq, decide_eq_false h59]
      walk_at "w"
      have e0 : gE false (c :: w.drop (j + 1)) = 0 := by unfold gE; rw [if_neg h59, if_neg hb]
      rw [hd, e0, Nat.add_zero] at hjs
      rw [← hjs] at hQ
      exact hQ
  · have hlen : decide ((j : Int) < ((Sx w).length : Int)) = false := decide_eq_false (by rw [S_len]; omega)
    walk_at "w"
    rw [hlen]
    walk_at "w"
    have hj' : j = w.length := by omega
    rw [List.drop_of_length_le hge] at hjs
    rw [← hjs] at hQ
    exact hQ
def wLen (l : List Nat) : Nat := match l with
  | [] => 0
  | c :: _ => if isBr c then 1 else wE' l
theorem wLen_cons (c : Nat) (r : List Nat) : wLen (c :: r) = if isBr c = true then 1 else wE' (c :: r) := rfl
include h in
theorem word_end_ok (n : Nat) (w : List Nat) (i : Nat) (hi : i < w.length) (st : Sto) (Q : KD) (X : KX) (hQ : Q (.int ((i + wLen (w.drop i) : Nat) : Int)) st) : callN p (n+1) fw [.str (Sx w), .int (i : Int)] st Q X := by
  refine callN_run h.hfw rfl ?_
  have hat : atI w (i : Int) = some w[i] := atI_S hi
  rw [drop_at hi] at hQ
  walk_at "w"
  rw [hat]
  walk_at "w"
  rw [h.hg1]
  walk_at "w"
  rw [br_mem]
  by_cases hb : isBr w[i] = true
  · rw [hb]
    walk_at "w"
    rw [wLen_cons, if_pos hb] at hQ
    exact hQ
  · rw [show isBr w[i] = false by simpa using hb]
    rw [wLen_cons, if_neg hb, ← drop_at hi] at hQ
    walk_at "w"
    refine wh_inv (fun en st' => st = st' ∧ ∃ j : Nat, j ≤ w.length ∧ j + wE' (w.drop j) = i + wE' (w.drop i) ∧ en = [some (.str (Sx w)), some (.int (j : Int))]) (fun en _ => match en with
      | [_, some (.int j)] => w.length - j.toNat
      | _ => 0) ?_ ⟨rfl, i, by omega, rfl, rfl⟩
    rintro en _ K' ⟨rfl, j, hj, hjs, rfl⟩ hK
    rcases Nat.lt_or_ge j w.length with hlt | hge
    · have hat : atI w (j : Int) = some w[j] := atI_S hlt
      have hd := drop_at hlt
      generalize hc : w[j] = c at hat hd
      have hlen : decide ((j : Int) < ((Sx w).length : Int)) = true := decide_eq_true (by rw [S_len]; omega)
      have stop : (isBl c || isBr c || c == 59) = true → Q (.int (j : Int)) st := fun h => by
        have : wE' (c :: w.drop (j + 1)) = 0 := by
          conv => lhs; unfold wE'
          rw [if_pos h]
        rw [hd, this, Nat.add_zero] at hjs
        rw [← hjs] at hQ
        exact hQ
      walk_at "w"
      rw [hlen]
      walk_at "w"
      rw [hat]
      walk_at "w"
      rw [h.hg0]
      walk_at "w"
      rw [bl_mem]
      cases h1 : isBl c
      · walk_at "w"
        rw [hat]
        walk_at "w"
        rw [h.hg1]
        walk_at "w"
        rw [br_mem]
        cases h2 : isBr c
        · walk_at "w"
          rw [hat]
          walk_at "w"
          rw [semi_eq]
          cases h3 : decide (c = 59)
          · walk_at "w"
            refine hK _ _ ⟨rfl, j + 1, hlt, ?_, rfl⟩ ?_
            · rw [← hjs, hd]
              conv => rhs; unfold wE'
              rw [h1, h2, if_neg (by simpa using h3)]
              omega
            · show w.length - ((j : Int) + 1).toNat < w.length - (j : Int).toNat
              omega
          · walk_at "w"
            exact stop (by rw [h1, h2]; simpa using h3)
        · walk_at "w"
          exact stop (by rw [h1, h2]; rfl)
      · walk_at "w"
        exact stop (by rw [h1]; rfl)
    · have hlen : decide ((j : Int) < ((Sx w).length : Int)) = false := decide_eq_false (by rw [S_len]; omega)
      walk_at "w"
      rw [hlen]
      walk_at "w"
      rw [List.drop_of_length_le hge] at hjs
      rw [← hjs] at hQ
      exact hQ
abbrev Tok := List Nat × List Nat
abbrev Due := List Tok × List Nat
def tokD (t : Tok) : D := .tup [.str (Sx t.1), .str (Sx t.2)]
abbrev pre (ts : List Tok) (d : Due) : Due := (ts ++ d.1, d.2)
/-- the tokens, as the law finds them, sign by sign -/
def due : List Nat → List Nat → List Nat → Bool → Due
  | [], g, wd, _ => if wd = [] then ([], g) else ([(g, wd)], [])
  | c :: r, g, wd, b =>
    if wd ≠ [] ∧ (((b || c == 59) && c != 10) || (isBl c || isBr c)) = true then pre [(g, wd)] (if (((b || c == 59) && c != 10) || isBl c) = true then due r [c] [] ((b || c == 59) && c != 10) else if isBr c = true then pre [([], [c])] (due r [] [] ((b || c == 59) && c != 10)) else due r [] [c] ((b || c == 59) && c != 10))
    else (if (((b || c == 59) && c != 10) || isBl c) = true then due r (g ++ [c]) wd ((b || c == 59) && c != 10) else if isBr c = true then pre [(g, [c])] (due r [] wd ((b || c == 59) && c != 10)) else due r g (wd ++ [c]) ((b || c == 59) && c != 10))
theorem due_gap : ∀ (l g : List Nat) (b : Bool), due l g [] b = due (l.drop (gE b l)) (g ++ l.take (gE b l)) [] false
  | [], g, b => by cases b <;> simp [gE, due]
  | c :: r, g, false => by
    unfold gE
    by_cases h59 : c = 59
    · subst h59
      rw [if_pos rfl]
      have ih := due_gap r (g ++ [59]) true
      show due (59 :: r) g [] false = due (r.drop (gE true r)) (g ++ 59 :: r.take (gE true r)) [] false
      rw [show g ++ 59 :: r.take (gE true r) = (g ++ [59]) ++ r.take (gE true r) by simp, ← ih]
      conv => lhs; unfold due
      rfl
    · rw [if_neg h59]
      by_cases hb : isBl c = true
      · rw [if_pos hb]
        have ih := due_gap r (g ++ [c]) false
        show due (c :: r) g [] false = due (r.drop (gE false r)) (g ++ c :: r.take (gE false r)) [] false
        rw [show g ++ c :: r.take (gE false r) = (g ++ [c]) ++ r.take (gE false r) by simp, ← ih]
        conv => lhs; unfold due
        have e1 : ((false || c == 59) && c != 10) = false := by simp [h59]
        rw [e1, if_neg (by simp), Bool.false_or, if_pos hb]
      · rw [if_neg hb]
        simp
  | c :: r, g, true => by
    unfold gE
    by_cases h10 : c = 10
    · subst h10
      rw [if_pos rfl]
      have ih := due_gap r (g ++ [10]) false
      show due (10 :: r) g [] true = due (r.drop (gE false r)) (g ++ 10 :: r.take (gE false r)) [] false
      rw [show g ++ 10 :: r.take (gE false r) = (g ++ [10]) ++ r.take (gE false r) by simp, ← ih]
      conv => lhs; unfold due
      rfl
    · rw [if_neg h10]
      have ih := due_gap r (g ++ [c]) true
      show due (c :: r) g [] true = due (r.drop (gE true r)) (g ++ c :: r.take (gE true r)) [] false
      rw [show g ++ c :: r.take (gE true r) = (g ++ [c]) ++ r.take (gE true r) by simp, ← ih]
      conv => lhs; unfold due
      have e1 : ((true || c == 59) && c != 10) = true := by simp [h10]
      rw [e1, if_neg (by simp), if_pos (by rfl)]
theorem due_word : ∀ (l g wd : List Nat), wd ≠ [] → due l g wd false = pre [(g, wd ++ l.take (wE' l))] (due (l.drop (wE' l)) [] [] false)
  | [], g, wd, h => by simp [wE', due, h]
  | c :: r, g, wd, h => by
    unfold wE'
    by_cases hs : (isBl c || isBr c || c == 59) = true
    · rw [if_pos hs]
      show due (c :: r) g wd false = pre [(g, wd ++ [])] (due (c :: r) [] [] false)
      rw [List.append_nil]
      conv => lhs; unfold due
      conv => rhs; unfold due
      have e1 : (((false || c == 59) && c != 10) || (isBl c || isBr c)) = true := by
        by_cases h59 : c = 59
        · subst h59; rfl
        · have : (c == 59) = false := by simpa using h59
          rw [this, Bool.or_false] at hs
          rw [hs, Bool.or_true]
      rw [if_pos ⟨h, e1⟩, if_neg (c := [] ≠ [] ∧ _) (by simp)]
      rfl
    · rw [if_neg hs]
      simp only [Bool.or_eq_true, not_or, Bool.not_eq_true] at hs
      obtain ⟨⟨h1, h2⟩, h3⟩ := hs
      have ih := due_word r g (wd ++ [c]) (by simp)
      show due (c :: r) g wd false = pre [(g, wd ++ c :: r.take (wE' r))] (due (r.drop (wE' r)) [] [] false)
      rw [show wd ++ c :: r.take (wE' r) = (wd ++ [c]) ++ r.take (wE' r) by simp, ← ih]
      conv => lhs; unfold due
      have e1 : ((false || c == 59) && c != 10) = false := by rw [h3]; rfl
      rw [e1, h1, h2, if_neg (by simp), if_neg (by simp), if_neg (by simp)]
/-- a token, off the text's front -/
theorem due_tok (c : Nat) (r g : List Nat) (hb : isBl c = false) (h59 : c ≠ 59) : due (c :: r) g [] false = pre [(g, (c :: r).take (wLen (c :: r)))] (due ((c :: r).drop (wLen (c :: r))) [] [] false) := by
  have e1 : ((false || c == 59) && c != 10) = false := by simp [h59]
  conv => lhs; unfold due
  rw [e1, if_neg (by simp), hb, if_neg (by simp)]
  rw [wLen_cons]
  cases h2 : isBr c
  · rw [if_neg (by simp), if_neg (by simp)]
    have h := due_word r g [c] (by simp)
    have e2 : wE' (c :: r) = wE' r + 1 := by
      conv => lhs; unfold wE'
      rw [hb, h2, if_neg (by simpa using h59)]
    rw [e2]
    exact h
  · rfl
theorem gE_stop : ∀ (l : List Nat) (b : Bool) (c : Nat) (r : List Nat), l.drop (gE b l) = c :: r → isBl c = false ∧ c ≠ 59
  | [], b, c, r, h => by cases b <;> simp [gE] at h
  | d :: l, false, c, r, h => by
    unfold gE at h
    split at h
    · exact gE_stop l true c r h
    · split at h
      · exact gE_stop l false c r h
      · rename_i h1 h2
        injection h with h3 _
        subst h3
        exact ⟨by simpa using h2, h1⟩
  | d :: l, true, c, r, h => by
    unfold gE at h
    split at h
    · exact gE_stop l false c r h
    · exact gE_stop l true c r h
theorem wLen_pos (c : Nat) (r : List Nat) (hb : isBl c = false) (h59 : c ≠ 59) : 1 ≤ wLen (c :: r) := by
  rw [wLen_cons]
  cases h2 : isBr c
  · rw [if_neg (by simp)]
    unfold wE'
    rw [hb, h2, if_neg (by simpa using h59)]
    omega
  · rw [if_pos rfl]
    exact Nat.le_refl _
theorem wLen_le : ∀ l : List Nat, wLen l ≤ l.length
  | [] => Nat.le_refl _
  | c :: r => by
    rw [wLen_cons]
    split
    · rw [List.length_cons]; omega
    · exact wE_le _
abbrev tokL (w : List Nat) : Due := due w [] [] false
include h in
theorem tokens_of_ok (n : Nat) (w : List Nat) (hw : w.length ≤ 100000) (st : Sto) (Q : KD) (X : KX) (hQ : Q (.tup [.ref st.length, .str (Sx (tokL w).2)]) (st ++ [.lst ((tokL w).1.map tokD)])) : callN p (n+2) ft [.str (Sx w)] st Q X := by
  refine callN_run h.hft rfl ?_
  walk_at "w"
  refine gap_end_ok h n w 0 (by omega) _ _ _ ?_
  walk_at "w"
  refine wh_inv (fun en st' => ∃ (ts : List Tok) (s : Nat) (o : Option D), st' = st ++ [.lst (ts.map tokD)] ∧ s ≤ w.length ∧ ts.length ≤ s ∧ tokL w = pre ts (tokL (w.drop s)) ∧ en = [some (.str (Sx w)), some (.ref st.length), some (.int (s : Int)), some (.int ((s + gE false (w.drop s) : Nat) : Int)), o]) (fun en _ => match en with
      | [_, _, some (.int j), _, _] => w.length - j.toNat
      | _ => 0) ?_ ⟨[], 0, none, rfl, by omega, Nat.le_refl _, by simp [pre], rfl⟩
  rintro en _ K' ⟨ts, s, o, rfl, hs, hts, hd, rfl⟩ hK
  have hg := gE_le (w.drop s) false
  rw [List.length_drop] at hg
  have dg := due_gap (w.drop s) [] false
  rw [List.nil_append, List.drop_drop] at dg
  generalize ha : s + gE false (w.drop s) = a at dg hK ⊢
  have haw : a ≤ w.length := by omega
  have hsa : s ≤ a := by omega
  have htk : (w.drop s).take (gE false (w.drop s)) = (w.drop s).take (a - s) := by rw [← ha]; congr 1; omega
  rw [htk] at dg
  rcases Nat.lt_or_ge a w.length with hlt | hge
  · have hlen : decide ((a : Int) < ((Sx w).length : Int)) = true := decide_eq_true (by rw [S_len]; omega)
    walk_at "w"
    rw [hlen]
    walk_at "w"
    refine word_end_ok h n w a hlt _ _ _ ?_
    have hda := drop_at hlt
    have hst := gE_stop (w.drop s) false w[a] (w.drop (a + 1)) (by rw [List.drop_drop, ha]; exact hda)
    have h1 := wLen_pos w[a] (w.drop (a + 1)) hst.1 hst.2
    have h2 := wLen_le (w.drop a)
    rw [List.length_drop] at h2
    have h3 := due_tok w[a] (w.drop (a + 1)) ((w.drop s).take (a - s)) hst.1 hst.2
    rw [← hda, List.drop_drop] at h3
    rw [← hda] at h1
    generalize hb : a + wLen (w.drop a) = b at h3 ⊢
    have hbw : b ≤ w.length := by omega
    have htb : (w.drop a).take (wLen (w.drop a)) = (w.drop a).take (b - a) := by congr 1; omega
    rw [htb] at h3
    walk_at "w"
    rw [mt_last rfl]
    walk_at "w"
    rw [cut_mid w s a haw, cut_mid w a b hbw]
    walk_at "w"
    rw [at_last]
    refine ⟨by rw [List.length_map]; show _ < 16777216; omega, ?_⟩
    rw [set_last]
    walk_at "w"
    refine gap_end_ok h n w b hbw _ _ _ ?_
    refine hK _ _ ⟨ts ++ [((w.drop s).take (a - s), (w.drop a).take (b - a))], b, _, ?_, hbw, ?_, ?_, rfl⟩ ?_
    · rw [List.map_append]; rfl
    · rw [List.length_append, List.length_singleton]; omega
    · rw [hd, show tokL (w.drop s) = _ from dg, h3]
      simp [pre]
    · show w.length - (b : Int).toNat < w.length - (s : Int).toNat
      omega
  · have hlen : decide ((a : Int) < ((Sx w).length : Int)) = false := decide_eq_false (by rw [S_len]; omega)
    walk_at "w"
    rw [hlen]
    walk_at "w"
    have e1 : (w.drop s).take (a - s) = w.drop s := List.take_of_length_le (by rw [List.length_drop]; omega)
    rw [e1, List.drop_of_length_le hge] at dg
    rw [hd, show tokL (w.drop s) = _ from dg] at hQ
    simp only [pre, due, if_pos, List.append_nil] at hQ
    rw [cut_from]
    exact hQ
/-- the text of tokens -/
def toksTxt (ts : List Tok) : List Nat := (ts.map fun t => t.1 ++ t.2).flatten
theorem due_txt : ∀ (l g wd : List Nat) (b : Bool), toksTxt (due l g wd b).1 ++ (due l g wd b).2 = g ++ wd ++ l
  | [], g, wd, b => by
    unfold due
    split
    · rename_i h; rw [h]; simp [toksTxt]
    · simp [toksTxt]
  | c :: r, g, wd, b => by
    unfold due
    have tp : ∀ (t : Tok) (d : Due), toksTxt (pre [t] d).1 ++ (pre [t] d).2 = t.1 ++ t.2 ++ (toksTxt d.1 ++ d.2) := fun t d => by simp [toksTxt, pre]
    split
    · rw [tp]
      split
      · rw [due_txt]; simp
      · split
        · rw [tp, due_txt]; simp
        · rw [due_txt]; simp
    · rename_i h0
      have hwd : (((b || c == 59) && c != 10) || (isBl c || isBr c)) = true → wd = [] := fun h => Decidable.byContradiction fun z => h0 ⟨z, h⟩
      split
      · rename_i h
        have := hwd (by rw [← Bool.or_assoc, h]; rfl)
        subst this
        rw [due_txt]; simp
      · split
        · rename_i h
          have := hwd (by rw [h]; simp)
          subst this
          rw [tp, due_txt]
          simp
        · rw [due_txt]; simp
theorem tok_len {ts : List Tok} {t : Tok} (h : t ∈ ts) : t.1.length + t.2.length ≤ (toksTxt ts).length := by
  unfold toksTxt
  obtain ⟨a, b, rfl⟩ := List.append_of_mem h
  simp
  omega
theorem sum_txt : ∀ ts : List Tok, ((ts.map fun t => Sx (t.1 ++ t.2)).map (·.length)).sum = (toksTxt ts).length
  | [] => rfl
  | t :: ts => by
    have ih := sum_txt ts
    simp only [List.map_cons, List.sum_cons, toksTxt, List.flatten_cons, List.length_append, S_len] at ih ⊢
    rw [ih]
theorem text_of_ok {f : Nat} (hp : p.P[f]? = some ⟨4, 2, sTextOf⟩) (n : Nat) (ts : List Tok) (tail : List Nat) (a : Nat) (h1 : (toksTxt ts).length ≤ 100000) (h2 : tail.length ≤ 100000) (h3 : ts.length ≤ 100000) (st : Sto) (hst : lstAt st a = some (ts.map tokD)) (Q : KD) (X : KX) (hQ : ∀ e, Q (.str (Sx (toksTxt ts ++ tail))) (st ++ e)) : callN p (n+1) f [.ref a, .str (Sx tail)] st Q X := by
  refine callN_run hp rfl ?_
  walk_at "w"
  rw [hst]
  refine loopC_map (fun t => some (.str (Sx (t.1 ++ t.2)))) (fun acc => gOk_one (lst_app _ hst)) ts [] (fun t ht acc K' hK hacc => ?_) (by simp; show _ ≤ 16777216; omega) ?_
  · have := tok_len ht
    walk_at "w"
    refine ⟨by rw [S_len, S_len]; show _ ≤ 16777216; omega, ?_⟩
    walk_at "w"
    rw [at_last]
    refine ⟨hacc, ?_⟩
    rw [set_last, S_app]
    exact hK hacc
  · rw [List.nil_append, show ts.filterMap (fun t => some (D.str (Sx (t.1 ++ t.2)))) = (ts.map fun t => t.1 ++ t.2).map (fun l => D.str (Sx l)) by simp]
    walk_at "w"
    rw [seq_last]
    walk_at "w"
    rw [strsOf_S]
    have hl : (ts.map fun t => t.1 ++ t.2).flatten.length ≤ Lm := by show (toksTxt ts).length ≤ 16777216; omega
    refine ⟨join_le1 hl, join_le2 hl, ?_⟩
    rw [join_nil]
    walk_at "w"
    refine ⟨by rw [S_len, S_len]; show (toksTxt ts).length + _ ≤ 16777216; omega, ?_⟩
    rw [S_app]
    exact hQ _
end
end TK

set_option Elab.async false
set_option linter.all false
set_option maxRecDepth 100000
/-! k38: tables, printed by prt.py -/
namespace Lk38
open PySem Q3
abbrev n_lay : Nat := 1994988
abbrev n_meet : Nat := 244937453
abbrev n_meeting : Nat := 456806792524525
abbrev n_pieces : Nat := 3978691179760
abbrev n_wrong : Nat := 27881372023
abbrev k_Row : Nat := 1963986
/-- slots: 0 text 1 at -/
def s_gap_end : Ss := (.cons
 (.wh (.and (.val (.cmp .lt (.var 1) (.bf .len (.cons (.var 0) .nil)))) (.or (.val (.cmp .isin (.ix (.var 0) (.var 1)) (.glob 0))) (.val (.cmp .eq (.ix (.var 0) (.var 1)) (.str ";"))))) (.cons
  (.iff (.val (.cmp .eq (.ix (.var 0) (.var 1)) (.str ";"))) (.cons
   (.wh (.and (.val (.cmp .lt (.var 1) (.bf .len (.cons (.var 0) .nil)))) (.val (.cmp .ne (.ix (.var 0) (.var 1)) (.str "\n")))) (.cons
    (.asg (.nm 1) (.bin .add (.var 1) (.int 1))) .nil)) .nil) (.cons
   (.asg (.nm 1) (.bin .add (.var 1) (.int 1))) .nil)) .nil)) (.cons
 (.ret (.var 1)) .nil))
abbrev f_gap_end : Nat := 0
/-- slots: 0 text 1 at -/
def s_word_end : Ss := (.cons
 (.iff (.val (.cmp .isin (.ix (.var 0) (.var 1)) (.glob 1))) (.cons
  (.ret (.bin .add (.var 1) (.int 1))) .nil) .nil) (.cons
 (.wh (.and (.val (.cmp .lt (.var 1) (.bf .len (.cons (.var 0) .nil)))) (.and (.val (.cmp .notin (.ix (.var 0) (.var 1)) (.glob 0))) (.and (.val (.cmp .notin (.ix (.var 0) (.var 1)) (.glob 1))) (.val (.cmp .ne (.ix (.var 0) (.var 1)) (.str ";")))))) (.cons
  (.asg (.nm 1) (.bin .add (.var 1) (.int 1))) .nil)) (.cons
 (.ret (.var 1)) .nil)))
abbrev f_word_end : Nat := 1
/-- slots: 0 text 1 tokens 2 start 3 at 4 end -/
def s_tokens_of : Ss := (.cons
 (.asg (.nm 1) (.lst .nil)) (.cons
 (.asg (.nm 2) (.int 0)) (.cons
 (.asg (.nm 3) (.call 0 (.cons (.var 0) (.cons (.int 0) .nil)))) (.cons
 (.wh (.val (.cmp .lt (.var 3) (.bf .len (.cons (.var 0) .nil)))) (.cons
  (.asg (.nm 4) (.call 1 (.cons (.var 0) (.cons (.var 3) .nil)))) (.cons
  (.ex (.mt .append (.var 1) (.cons (.tup (.cons (.sl (.var 0) (.var 2) (.var 3)) (.cons (.sl (.var 0) (.var 3) (.var 4)) .nil))) .nil))) (.cons
  (.asg (.nm 2) (.var 4)) (.cons
  (.asg (.nm 3) (.call 0 (.cons (.var 0) (.cons (.var 4) .nil)))) .nil))))) (.cons
 (.ret (.tup (.cons (.var 1) (.cons (.sl (.var 0) (.var 2) .no) .nil)))) .nil)))))
abbrev f_tokens_of : Nat := 2
/-- slots: 0 tokens 1 tail 2 gap 3 word -/
def s_text_of : Ss := (.cons
 (.ret (.bin .add (.mt .join (.str "") (.cons (.comp (.bin .add (.var 2) (.var 3)) (.tp [2, 3]) (.seq (.var 0)) .yes) .nil)) (.var 1))) .nil)
abbrev f_text_of : Nat := 3
/-- slots: 0 one 1 other -/
def s_run_together : Ss := (.cons
 (.ret (.and (.cmp .eq (.ix (.var 1) (.int 0)) (.str "")) (.and (.cmp .notin (.var 0) (.tup (.cons (.str "(") (.cons (.str ")") .nil)))) (.cmp .notin (.ix (.var 1) (.int 1)) (.tup (.cons (.str "(") (.cons (.str ")") .nil))))))) .nil)
abbrev f_run_together : Nat := 4
/-- slots: 0 edit 1 counts 2 part 3 at 4 many 5 text -/
def s_is_told : Ss := (.cons
 (.asg (.tp [2, 3, 4, 5]) (.var 0)) (.cons
 (.iff (.or (.val (.cmp .lt (.var 2) (.int 0))) (.or (.val (.cmp .ge (.var 2) (.bf .len (.cons (.var 1) .nil)))) (.or (.val (.cmp .lt (.var 3) (.int 0))) (.or (.val (.cmp .lt (.var 4) (.int 0))) (.val (.cmp .gt (.bin .add (.var 3) (.var 4)) (.ix (.var 1) (.var 2)))))))) (.cons
  (.ret (.bl false)) .nil) .nil) (.cons
 (.ret (.cmp .eq (.ix (.call 2 (.cons (.var 5) .nil)) (.int 1)) (.str ""))) .nil)))
abbrev f_is_told : Nat := 5
/-- slots: 0 edit 1 other -/
def s_is_behind : Ss := (.cons
 (.iff (.val (.cmp .ne (.ix (.var 0) (.int 0)) (.ix (.var 1) (.int 0)))) (.cons
  (.ret (.cmp .gt (.ix (.var 0) (.int 0)) (.ix (.var 1) (.int 0)))) .nil) .nil) (.cons
 (.ret (.cmp .ge (.ix (.var 0) (.int 1)) (.bin .add (.ix (.var 1) (.int 1)) (.ix (.var 1) (.int 2))))) .nil))
abbrev f_is_behind : Nat := 6
/-- slots: 0 counts 1 edits 2 number -/
def s_told_first : Ss := (.cons
 (.for (.nm 2) (.rng1 (.bf .len (.cons (.var 1) .nil))) (.cons
  (.iff (.not (.val (.call 5 (.cons (.ix (.var 1) (.var 2)) (.cons (.var 0) .nil))))) (.cons
   (.ret (.var 2)) .nil) .nil) (.cons
  (.iff (.and (.val (.cmp .gt (.var 2) (.int 0))) (.not (.val (.call 6 (.cons (.ix (.var 1) (.var 2)) (.cons (.ix (.var 1) (.bin .sub (.var 2) (.int 1))) .nil)))))) (.cons
   (.ret (.var 2)) .nil) .nil) .nil))) (.cons
 (.ret (.bf .len (.cons (.var 1) .nil))) .nil))
abbrev f_told_first : Nat := 7
/-- slots: 0 pieces 1 edits 2 row 3 at 4 number 5 edit -/
def s_laid_in : Ss := (.cons
 (.asg (.nm 2) (.new k_Row .nil)) (.cons
 (.asg (.nm 3) (.int 0)) (.cons
 (.for (.tp [4, 5]) (.seq (.var 1)) (.cons
  (.ex (.mth (.var 2) n_lay (.cons (.sl (.var 0) (.var 3) (.ix (.var 5) (.int 1))) .nil))) (.cons
  (.ex (.mth (.var 2) n_meet (.cons (.var 4) .nil))) (.cons
  (.ex (.mth (.var 2) n_lay (.cons (.ix (.call 2 (.cons (.ix (.var 5) (.int 3)) .nil)) (.int 0)) .nil))) (.cons
  (.ex (.mth (.var 2) n_meet (.cons (.var 4) .nil))) (.cons
  (.asg (.nm 3) (.bin .add (.ix (.var 5) (.int 1)) (.ix (.var 5) (.int 2)))) .nil)))))) (.cons
 (.ex (.mth (.var 2) n_lay (.cons (.sl (.var 0) (.var 3) .no) .nil))) (.cons
 (.ret (.tup (.cons (.fld (.var 2) n_pieces) (.cons (.fld (.var 2) n_wrong) .nil)))) .nil)))))
abbrev f_laid_in : Nat := 8
/-- slots: 0 program 1 edits 2 tokens 3 many 4 parts 5 wrong 6 number 7 own 8 pieces 9 first 10 name 11 text 12 told 13 rank -/
def s_edited : Ss := (.cons
 (.asg (.nm 2) (.comp (.call 2 (.cons (.var 11) .nil)) (.tp [10, 11]) (.seq (.var 0)) .yes)) (.cons
 (.asg (.nm 3) (.call 7 (.cons (.comp (.bf .len (.cons (.ix (.var 12) (.int 0)) .nil)) (.nm 12) (.seq (.var 2)) .yes) (.cons (.var 1) .nil)))) (.cons
 (.asg (.nm 4) (.lst .nil)) (.cons
 (.asg (.nm 5) (.lst .nil)) (.cons
 (.for (.nm 6) (.rng1 (.bf .len (.cons (.var 0) .nil))) (.cons
  (.asg (.nm 7) (.comp (.tup (.cons (.var 13) (.cons (.ix (.var 1) (.var 13)) .nil))) (.nm 13) (.rng1 (.var 3)) (.val (.cmp .eq (.ix (.ix (.var 1) (.var 13)) (.int 0)) (.var 6))))) (.cons
  (.asg (.tp [8, 9]) (.call 8 (.cons (.ix (.ix (.var 2) (.var 6)) (.int 0)) (.cons (.var 7) .nil)))) (.cons
  (.iff (.val (.cmp .isnt (.var 9) .non)) (.cons
   (.ex (.mt .append (.var 5) (.cons (.var 9) .nil))) .nil) .nil) (.cons
  (.ex (.mt .append (.var 4) (.cons (.tup (.cons (.ix (.ix (.var 0) (.var 6)) (.int 0)) (.cons (.call 3 (.cons (.var 8) (.cons (.ix (.ix (.var 2) (.var 6)) (.int 1)) .nil))) .nil))) .nil))) .nil))))) (.cons
 (.iff (.val (.cmp .lt (.var 3) (.bf .len (.cons (.var 1) .nil)))) (.cons
  (.ex (.mt .append (.var 5) (.cons (.var 3) .nil))) .nil) .nil) (.cons
 (.iff (.val (.cmp .gt (.bf .len (.cons (.var 5) .nil)) (.int 0))) (.cons
  (.rais 5 (.cons (.bf .min1 (.cons (.var 5) .nil)) .nil)) .nil) .nil) (.cons
 (.ret (.bf .tuple (.cons (.var 4) .nil))) .nil))))))))
abbrev f_edited : Nat := 9
/-- slots: 0 program 1 edits 2 tokens 3 found 4 shift 5 part 6 at 7 many 8 text 9 more 10 moved 11 name -/
def s_back_edits : Ss := (.cons
 (.ex (.call 9 (.cons (.var 0) (.cons (.var 1) .nil)))) (.cons
 (.asg (.nm 2) (.comp (.ix (.call 2 (.cons (.var 8) .nil)) (.int 0)) (.tp [11, 8]) (.seq (.var 0)) .yes)) (.cons
 (.asg (.nm 3) (.lst .nil)) (.cons
 (.asg (.nm 4) .dc0) (.cons
 (.for (.tp [5, 6, 7, 8]) (.seq (.var 1)) (.cons
  (.asg (.nm 9) (.bf .len (.cons (.ix (.call 2 (.cons (.var 8) .nil)) (.int 0)) .nil))) (.cons
  (.asg (.nm 10) (.mt .get (.var 4) (.cons (.var 5) (.cons (.int 0) .nil)))) (.cons
  (.ex (.mt .append (.var 3) (.cons (.tup (.cons (.var 5) (.cons (.bin .add (.var 6) (.var 10)) (.cons (.var 9) (.cons (.call 3 (.cons (.sl (.ix (.var 2) (.var 5)) (.var 6) (.bin .add (.var 6) (.var 7))) (.cons (.str "") .nil))) .nil))))) .nil))) (.cons
  (.six (.var 4) (.var 5) (.bin .sub (.bin .add (.var 10) (.var 9)) (.var 7))) .nil))))) (.cons
 (.ret (.var 3)) .nil))))))
abbrev f_back_edits : Nat := 10
/-- slots: 0 l_script -/
def s_l_begin : Ss := (.cons
 (.ret (.dct [.inr "script", .inr "at", .inr "left", .inr "rest", .inr "seed"] (.cons (.bin .add (.var 0) (.bin .mul (.lst (.cons (.int 0) .nil)) (.bf .int (.cons (.cmp .eq (.var 0) (.lst .nil)) .nil)))) (.cons (.int 0) (.cons (.int 0) (.cons (.int 0) (.cons (.int 1) .nil))))))) .nil)
abbrev f_l_begin : Nat := 11
/-- slots: 0 l_feed 1 l_many 2 l_script 3 l_cell 4 l_found -/
def s_l_draw : Ss := (.cons
 (.asg (.nm 2) (.ix (.var 0) (.str "script"))) (.cons
 (.iff (.val (.cmp .eq (.ix (.var 0) (.str "left")) (.int 0))) (.cons
  (.asg (.nm 3) (.bin .add (.ix (.var 2) (.bin .mod (.ix (.var 0) (.str "at")) (.bf .len (.cons (.var 2) .nil)))) (.bin .fdiv (.ix (.var 0) (.str "at")) (.bf .len (.cons (.var 2) .nil))))) (.cons
  (.six (.var 0) (.str "at") (.bin .add (.ix (.var 0) (.str "at")) (.int 1))) (.cons
  (.six (.var 0) (.str "seed") (.bin .mod (.bin .add (.bin .add (.bin .mul (.ix (.var 0) (.str "seed")) (.int 31)) (.bin .mod (.var 3) (.int 1000003))) (.ix (.var 0) (.str "at"))) (.int 1000003))) (.cons
  (.six (.var 0) (.str "left") (.int 8)) (.cons
  (.six (.var 0) (.str "rest") (.int 0)) (.cons
  (.iff (.val (.cmp .ge (.var 3) (.bin .pow (.int 10) (.int 18)))) (.cons
   (.six (.var 0) (.str "rest") (.var 3)) .nil) .nil) .nil)))))) .nil) (.cons
 (.six (.var 0) (.str "left") (.bin .sub (.ix (.var 0) (.str "left")) (.int 1))) (.cons
 (.iff (.val (.cmp .gt (.ix (.var 0) (.str "rest")) (.int 0))) (.cons
  (.asg (.nm 4) (.bin .mod (.ix (.var 0) (.str "rest")) (.var 1))) (.cons
  (.six (.var 0) (.str "rest") (.bin .fdiv (.ix (.var 0) (.str "rest")) (.var 1))) (.cons
  (.ret (.var 4)) .nil))) .nil) (.cons
 (.six (.var 0) (.str "seed") (.bin .mod (.bin .add (.bin .add (.bin .mul (.ix (.var 0) (.str "seed")) (.ix (.var 0) (.str "seed"))) (.bin .mul (.int 7919) (.ix (.var 0) (.str "left")))) (.int 17)) (.int 999983))) (.cons
 (.ret (.bin .mod (.bin .fdiv (.bin .mod (.bin .mul (.ix (.var 0) (.str "seed")) (.int 48271)) (.int 2147483647)) (.int 7)) (.var 1))) .nil))))))
abbrev f_l_draw : Nat := 12
/-- slots: 0 l_feed 1 l_many 2 l_letters 3 l_base 4 l_size 5 l_first 6 l_k -/
def s_l_names : Ss := (.cons
 (.asg (.nm 2) (.str "abcdefghijklmnopqrstuvwxyz")) (.cons
 (.asg (.nm 3) (.mt .join (.str "") (.cons (.comp (.ix (.var 2) (.call 12 (.cons (.var 0) (.cons (.int 26) .nil)))) (.nm 6) (.rng1 (.int 5)) .yes) .nil))) (.cons
 (.iff (.val (.cmp .eq (.call 12 (.cons (.var 0) (.cons (.int 3) .nil))) (.int 0))) (.cons
  (.ret (.comp (.bin .add (.str "z") (.sl (.var 3) .no (.var 6))) (.nm 6) (.rng1 (.var 1)) .yes)) .nil) .nil) (.cons
 (.asg (.nm 4) (.call 12 (.cons (.var 0) (.cons (.int 4) .nil)))) (.cons
 (.asg (.nm 5) (.call 12 (.cons (.var 0) (.cons (.int 26) .nil)))) (.cons
 (.ret (.comp (.bin .add (.bin .add (.sl (.var 3) .no (.var 4)) (.str "q")) (.ix (.var 2) (.bin .mod (.bin .add (.var 5) (.var 6)) (.int 26)))) (.nm 6) (.rng1 (.var 1)) .yes)) .nil))))))
abbrev f_l_names : Nat := 13
/-- slots: 0 l_feed 1 l_edits 2 l_counts 3 l_k 4 l_part 5 l_at 6 l_many 7 l_text 8 l_far 9 l_way 10 l_one -/
def s_l_bad : Ss := (.cons
 (.asg (.nm 3) (.call 12 (.cons (.var 0) (.cons (.bf .len (.cons (.var 1) .nil)) .nil)))) (.cons
 (.asg (.tp [4, 5, 6, 7]) (.ix (.var 1) (.var 3))) (.cons
 (.asg (.nm 8) (.bin .add (.int 1) (.bin .mul (.call 12 (.cons (.var 0) (.cons (.int 3) .nil))) (.bin .pow (.int 10) (.int 9))))) (.cons
 (.asg (.nm 9) (.call 12 (.cons (.var 0) (.cons (.int 9) .nil)))) (.cons
 (.asg (.nm 10) (.tup (.cons (.var 4) (.cons (.var 5) (.cons (.var 6) (.cons (.ix (.lst (.cons (.str "a ") (.cons (.str " ;x") (.cons (.str "(\n") (.cons (.str " ") (.cons (.str ";") .nil)))))) (.call 12 (.cons (.var 0) (.cons (.int 5) .nil)))) .nil)))))) (.cons
 (.iff (.val (.cmp .eq (.var 9) (.int 0))) (.cons
  (.asg (.nm 10) (.tup (.cons (.bin .sub (.int 0) (.var 8)) (.cons (.var 5) (.cons (.var 6) (.cons (.var 7) .nil)))))) .nil) (.cons
  (.iff (.val (.cmp .eq (.var 9) (.int 1))) (.cons
   (.asg (.nm 10) (.tup (.cons (.bin .add (.bin .sub (.bf .len (.cons (.var 2) .nil)) (.int 1)) (.var 8)) (.cons (.var 5) (.cons (.var 6) (.cons (.var 7) .nil)))))) .nil) (.cons
   (.iff (.val (.cmp .eq (.var 9) (.int 2))) (.cons
    (.asg (.nm 10) (.tup (.cons (.var 4) (.cons (.bin .sub (.int 0) (.var 8)) (.cons (.var 6) (.cons (.var 7) .nil)))))) .nil) (.cons
    (.iff (.val (.cmp .eq (.var 9) (.int 3))) (.cons
     (.asg (.nm 10) (.tup (.cons (.var 4) (.cons (.var 5) (.cons (.bin .sub (.int 0) (.var 8)) (.cons (.var 7) .nil)))))) .nil) (.cons
     (.iff (.val (.cmp .eq (.var 9) (.int 4))) (.cons
      (.asg (.nm 10) (.tup (.cons (.var 4) (.cons (.var 5) (.cons (.bin .add (.bin .sub (.ix (.var 2) (.var 4)) (.var 5)) (.var 8)) (.cons (.var 7) .nil)))))) .nil) (.cons
      (.iff (.val (.cmp .eq (.var 9) (.int 5))) (.cons
       (.asg (.nm 10) (.tup (.cons (.var 4) (.cons (.bin .add (.ix (.var 2) (.var 4)) (.var 8)) (.cons (.int 0) (.cons (.var 7) .nil)))))) .nil) (.cons
       (.iff (.and (.val (.cmp .eq (.var 9) (.int 6))) (.and (.val (.cmp .gt (.var 3) (.int 0))) (.val (.cmp .gt (.ix (.ix (.var 1) (.bin .sub (.var 3) (.int 1))) (.int 2)) (.int 0))))) (.cons
        (.asg (.nm 10) (.tup (.cons (.ix (.ix (.var 1) (.bin .sub (.var 3) (.int 1))) (.int 0)) (.cons (.ix (.ix (.var 1) (.bin .sub (.var 3) (.int 1))) (.int 1)) (.cons (.var 6) (.cons (.var 7) .nil)))))) (.cons
        (.iff (.val (.cmp .gt (.bin .add (.ix (.ix (.var 1) (.bin .sub (.var 3) (.int 1))) (.int 1)) (.var 6)) (.ix (.var 2) (.ix (.ix (.var 1) (.bin .sub (.var 3) (.int 1))) (.int 0))))) (.cons
         (.asg (.nm 10) (.tup (.cons (.ix (.ix (.var 1) (.bin .sub (.var 3) (.int 1))) (.int 0)) (.cons (.ix (.ix (.var 1) (.bin .sub (.var 3) (.int 1))) (.int 1)) (.cons (.int 0) (.cons (.var 7) .nil)))))) .nil) .nil) .nil)) (.cons
        (.iff (.and (.val (.cmp .eq (.var 9) (.int 7))) (.and (.val (.cmp .gt (.var 3) (.int 0))) (.val (.cmp .gt (.bin .add (.ix (.ix (.var 1) (.bin .sub (.var 3) (.int 1))) (.int 1)) (.ix (.ix (.var 1) (.bin .sub (.var 3) (.int 1))) (.int 2))) (.int 0))))) (.cons
         (.asg (.nm 10) (.tup (.cons (.ix (.ix (.var 1) (.bin .sub (.var 3) (.int 1))) (.int 0)) (.cons (.bf .max2 (.cons (.int 0) (.cons (.bin .sub (.ix (.ix (.var 1) (.bin .sub (.var 3) (.int 1))) (.int 1)) (.int 1)) .nil))) (.cons (.int 0) (.cons (.var 7) .nil)))))) .nil) (.cons
         (.iff (.and (.val (.cmp .eq (.var 9) (.int 8))) (.and (.val (.cmp .gt (.var 3) (.int 0))) (.val (.cmp .gt (.ix (.ix (.var 1) (.bin .sub (.var 3) (.int 1))) (.int 0)) (.int 0))))) (.cons
          (.asg (.nm 10) (.tup (.cons (.bin .sub (.ix (.ix (.var 1) (.bin .sub (.var 3) (.int 1))) (.int 0)) (.int 1)) (.cons (.int 0) (.cons (.int 0) (.cons (.var 7) .nil)))))) .nil) .nil) .nil)) .nil)) .nil)) .nil)) .nil)) .nil)) .nil)) .nil)) (.cons
 (.ret (.tup (.cons (.bin .add (.bin .add (.sl (.var 1) .no (.var 3)) (.lst (.cons (.var 10) .nil))) (.sl (.var 1) (.bin .add (.var 3) (.int 1)) .no)) (.cons (.var 3) .nil)))) .nil)))))))
abbrev f_l_bad : Nat := 14
/-- slots: 0 l_way 1 l_program 2 l_edits 3 l_number_here 4 e -/
def s_l_number : Ss := (.cons
 (.asg (.nm 3) .non) (.cons
 (.tryx (.cons
  (.iff (.val (.cmp .eq (.var 0) (.int 0))) (.cons
   (.ex (.call 9 (.cons (.var 1) (.cons (.var 2) .nil)))) .nil) (.cons
   (.ex (.call 10 (.cons (.var 1) (.cons (.var 2) .nil)))) .nil)) .nil) [0] (some 4) (.cons
  (.asg (.nm 3) (.neg (.int 1))) (.cons
  (.iff (.and (.val (.isx [5])) (.not (.val (.isx [7, 4, 2, 3, 1, 6])))) (.cons
   (.asg (.nm 3) (.exf "number")) .nil) .nil) .nil))) (.cons
 (.ret (.var 3)) .nil)))
abbrev f_l_number : Nat := 15
/-- slots: 0 l_script 1 l_feed 2 l_names_here 3 l_counts 4 l_program 5 l_edits 6 l_part 7 l_at 8 l_many 9 l_handed 10 l_k 11 l_bad_here 12 l_number_here 13 l_held 14 l_name -/
def s_law : Ss := (.cons
 (.asg (.nm 1) (.call 11 (.cons (.var 0) .nil))) (.cons
 (.asg (.nm 2) (.sl (.call 13 (.cons (.var 1) (.cons (.int 3) .nil))) .no (.bin .add (.int 1) (.call 12 (.cons (.var 1) (.cons (.int 3) .nil)))))) (.cons
 (.asg (.nm 3) (.comp (.bin .add (.int 1) (.call 12 (.cons (.var 1) (.cons (.int 12) .nil)))) (.nm 14) (.seq (.var 2)) .yes)) (.cons
 (.asg (.nm 4) (.bf .tuple (.cons (.comp (.tup (.cons (.ix (.var 2) (.var 10)) (.cons (.bin .add (.bin .mul (.str " a") (.ix (.var 3) (.var 10))) (.str "\n")) .nil))) (.nm 10) (.rng1 (.bf .len (.cons (.var 2) .nil))) .yes) .nil))) (.cons
 (.asg (.nm 5) (.lst .nil)) (.cons
 (.for (.nm 6) (.rng1 (.bf .len (.cons (.var 2) .nil))) (.cons
  (.asg (.nm 7) (.call 12 (.cons (.var 1) (.cons (.int 3) .nil)))) (.cons
  (.wh (.val (.cmp .le (.var 7) (.ix (.var 3) (.var 6)))) (.cons
   (.asg (.nm 8) (.bf .min2 (.cons (.bin .sub (.ix (.var 3) (.var 6)) (.var 7)) (.cons (.call 12 (.cons (.var 1) (.cons (.int 3) .nil))) .nil)))) (.cons
   (.ex (.mt .append (.var 5) (.cons (.tup (.cons (.var 6) (.cons (.var 7) (.cons (.var 8) (.cons (.ix (.lst (.cons (.str " b") (.cons (.str " b (c)") (.cons (.str "") .nil)))) (.call 12 (.cons (.var 1) (.cons (.int 3) .nil)))) .nil))))) .nil))) (.cons
   (.asg (.nm 7) (.bin .add (.bin .add (.var 7) (.bf .max2 (.cons (.int 1) (.cons (.var 8) .nil)))) (.call 12 (.cons (.var 1) (.cons (.int 6) .nil))))) .nil)))) .nil))) (.cons
 (.iff (.val (.cmp .eq (.var 5) (.lst .nil))) (.cons
  (.asg (.nm 5) (.lst (.cons (.tup (.cons (.int 0) (.cons (.int 0) (.cons (.int 1) (.cons (.str " b") .nil))))) .nil))) .nil) .nil) (.cons
 (.asg (.nm 9) (.bf .list (.cons (.var 5) .nil))) (.cons
 (.iff (.or (.val (.cmp .isnt (.call 15 (.cons (.int 0) (.cons (.var 4) (.cons (.var 9) .nil)))) .non)) (.val (.cmp .isnt (.call 15 (.cons (.int 1) (.cons (.var 4) (.cons (.var 9) .nil)))) .non))) (.cons
  (.ret (.bl false)) .nil) .nil) (.cons
 (.for (.nm 10) (.rng1 (.int 4)) (.cons
  (.asg (.tp [11, 12]) (.call 14 (.cons (.var 1) (.cons (.var 5) (.cons (.var 3) .nil))))) (.cons
  (.asg (.nm 13) (.bf .list (.cons (.var 11) .nil))) (.cons
  (.iff (.or (.val (.cmp .ne (.call 15 (.cons (.int 0) (.cons (.var 4) (.cons (.var 13) .nil)))) (.var 12))) (.or (.val (.cmp .ne (.call 15 (.cons (.int 1) (.cons (.var 4) (.cons (.var 13) .nil)))) (.var 12))) (.val (.cmp .ne (.var 13) (.var 11))))) (.cons
   (.ret (.bl false)) .nil) .nil) .nil)))) (.cons
 (.ret (.and (.cmp .eq (.var 9) (.var 5)) (.and (.cmp .isn (.call 15 (.cons (.int 0) (.cons (.var 4) (.cons (.lst .nil) .nil)))) .non) (.cmp .eq (.call 9 (.cons (.var 4) (.cons (.lst .nil) .nil))) (.var 4))))) .nil)))))))))))
abbrev f_law : Nat := 16
/-- slots: 0 self -/
def s_Row___init__ : Ss := (.cons
 (.fst (.var 0) n_pieces (.lst .nil)) (.cons
 (.fst (.var 0) n_meeting .non) (.cons
 (.fst (.var 0) n_wrong .non) .nil)))
abbrev f_Row___init__ : Nat := 17
/-- slots: 0 self 1 number -/
def s_Row_meet : Ss := (.cons
 (.iff (.val (.cmp .isn (.fld (.var 0) n_meeting) .non)) (.cons
  (.fst (.var 0) n_meeting (.var 1)) .nil) .nil) .nil)
abbrev f_Row_meet : Nat := 18
/-- slots: 0 self 1 pieces -/
def s_Row_lay : Ss := (.cons
 (.iff (.val (.cmp .gt (.bf .len (.cons (.var 1) .nil)) (.int 0))) (.cons
  (.iff (.and (.val (.cmp .isnt (.fld (.var 0) n_meeting) .non)) (.and (.val (.cmp .gt (.bf .len (.cons (.fld (.var 0) n_pieces) .nil)) (.int 0))) (.val (.cmp .isn (.fld (.var 0) n_wrong) .non)))) (.cons
   (.iff (.val (.call 4 (.cons (.ix (.ix (.fld (.var 0) n_pieces) (.neg (.int 1))) (.int 1)) (.cons (.ix (.var 1) (.int 0)) .nil)))) (.cons
    (.fst (.var 0) n_wrong (.fld (.var 0) n_meeting)) .nil) .nil) .nil) .nil) (.cons
  (.ex (.mt .extend (.fld (.var 0) n_pieces) (.cons (.var 1) .nil))) (.cons
  (.fst (.var 0) n_meeting .non) .nil))) .nil) .nil)
abbrev f_Row_lay : Nat := 19
abbrev c_BLANKS : D := (.str " \n")
abbrev c_BRACKETS : D := (.str "()")
def ms : List (Nat × List (Nat × Nat)) := [(k_Row, [(n_meet, f_Row_meet), (n_lay, f_Row_lay)])]
def ini : List (Nat × Nat) := [(k_Row, f_Row___init__)]
def fds : List (Nat × List Nat) := [(k_Row, [n_pieces, n_meeting, n_wrong])]
def tab : List (List Bool) := [[true, false, false, false, false, false, false, false, true], [true, true, false, false, false, false, false, false, true], [true, false, true, false, false, false, false, false, true], [true, false, false, true, false, false, false, false, true], [true, false, false, false, true, false, false, false, true], [true, false, false, false, false, true, false, false, true], [true, false, false, false, false, false, true, false, true], [true, false, false, false, false, false, false, true, true]]
abbrev x_TurnError : Nat := 0
abbrev x_NoTree : Nat := 1
abbrev x_NoProgram : Nat := 2
abbrev x_NoStep : Nat := 3
abbrev x_NoPaper : Nat := 4
abbrev x_NoEdit : Nat := 5
abbrev x_NoTurn : Nat := 6
abbrev x_NoLines : Nat := 7
abbrev x_ValueError : Nat := 8
def pr : Pr := { G := [c_BLANKS, c_BRACKETS], KD := [], P := [⟨2, 2, s_gap_end⟩, ⟨2, 2, s_word_end⟩, ⟨5, 1, s_tokens_of⟩, ⟨4, 2, s_text_of⟩, ⟨2, 2, s_run_together⟩, ⟨6, 2, s_is_told⟩, ⟨2, 2, s_is_behind⟩, ⟨3, 2, s_told_first⟩, ⟨6, 2, s_laid_in⟩, ⟨14, 2, s_edited⟩, ⟨12, 2, s_back_edits⟩, ⟨1, 1, s_l_begin⟩, ⟨5, 2, s_l_draw⟩, ⟨7, 2, s_l_names⟩, ⟨11, 3, s_l_bad⟩, ⟨5, 3, s_l_number⟩, ⟨15, 1, s_law⟩, ⟨1, 1, s_Row___init__⟩, ⟨2, 2, s_Row_meet⟩, ⟨2, 2, s_Row_lay⟩], X := [none, some ["at"], some ["part", "at"], none, some ["side", "number"], some ["number"], some ["word", "part", "at"], some ["row"]], sub := subOf tab, ms := ms, ini := ini, fds := fds }
end Lk38

set_option Elab.async false
set_option linter.all false
set_option maxRecDepth 100000
set_option maxHeartbeats 0
/-! k38: the walk, printed by prt.py -/
namespace Lk38
open PySem PySem.Spec PyProof.Rows L2 Q3
def top (i : Nat) : Stmt := PySem.Challenge.pw_turnsame_k38_edits_refused.main.body.getD i (.Pass ⟨0, 0, 0, 0⟩)
def M : Nms := { F := ["gap_end", "word_end", "tokens_of", "text_of", "run_together", "is_told", "is_behind", "told_first", "laid_in", "edited", "back_edits", "_law_begin", "_law_draw", "_law_names", "_law_bad", "_law_number", "law"], Gn := ["BLANKS", "BRACKETS"], B := ["ValueError", "int", "isinstance", "len", "list", "max", "min", "range", "tuple"], Kn := [], Xn := ["TurnError", "NoTree", "NoProgram", "NoStep", "NoPaper", "NoEdit", "NoTurn", "NoLines", "ValueError"] }
def kds : List Kd := []
def cs : List (Str × D) := [("BLANKS", c_BLANKS), ("BRACKETS", c_BRACKETS)]
def fa : List He.Fa := [.glo "gap_end", .glo "word_end", .glo "tokens_of", .glo "text_of", .glo "run_together", .glo "is_told", .glo "is_behind", .glo "told_first", .glo "laid_in", .glo "edited", .glo "back_edits", .glo "_law_begin", .glo "_law_draw", .glo "_law_names", .glo "_law_bad", .glo "_law_number", .glo "law", .free "ValueError", .free "int", .free "isinstance", .free "len", .free "list", .free "max", .free "min", .free "range", .free "tuple"]
def mtop (i j : Nat) : Stmt := (clsSt (top i)).getD j (.Pass ⟨0, 0, 0, 0⟩)
abbrev d_gap_end : He.DefD := ⟨("gap_end", none), "gap_end", "gap_end", defArgs (top 12), defBody (top 12), defScope (top 12), [], []⟩
abbrev d_word_end : He.DefD := ⟨("word_end", none), "word_end", "word_end", defArgs (top 13), defBody (top 13), defScope (top 13), [], []⟩
abbrev d_tokens_of : He.DefD := ⟨("tokens_of", none), "tokens_of", "tokens_of", defArgs (top 14), defBody (top 14), defScope (top 14), [], []⟩
abbrev d_text_of : He.DefD := ⟨("text_of", none), "text_of", "text_of", defArgs (top 15), defBody (top 15), defScope (top 15), [], []⟩
abbrev d_run_together : He.DefD := ⟨("run_together", none), "run_together", "run_together", defArgs (top 17), defBody (top 17), defScope (top 17), [], []⟩
abbrev d_is_told : He.DefD := ⟨("is_told", none), "is_told", "is_told", defArgs (top 18), defBody (top 18), defScope (top 18), [], []⟩
abbrev d_is_behind : He.DefD := ⟨("is_behind", none), "is_behind", "is_behind", defArgs (top 19), defBody (top 19), defScope (top 19), [], []⟩
abbrev d_told_first : He.DefD := ⟨("told_first", none), "told_first", "told_first", defArgs (top 20), defBody (top 20), defScope (top 20), [], []⟩
abbrev d_laid_in : He.DefD := ⟨("laid_in", none), "laid_in", "laid_in", defArgs (top 22), defBody (top 22), defScope (top 22), [], []⟩
abbrev d_edited : He.DefD := ⟨("edited", none), "edited", "edited", defArgs (top 23), defBody (top 23), defScope (top 23), [], []⟩
abbrev d_back_edits : He.DefD := ⟨("back_edits", none), "back_edits", "back_edits", defArgs (top 24), defBody (top 24), defScope (top 24), [], []⟩
abbrev d_l_begin : He.DefD := ⟨("_law_begin", none), "_law_begin", "_law_begin", defArgs (top 26), defBody (top 26), defScope (top 26), [], []⟩
abbrev d_l_draw : He.DefD := ⟨("_law_draw", none), "_law_draw", "_law_draw", defArgs (top 27), defBody (top 27), defScope (top 27), [], []⟩
abbrev d_l_names : He.DefD := ⟨("_law_names", none), "_law_names", "_law_names", defArgs (top 28), defBody (top 28), defScope (top 28), [], []⟩
abbrev d_l_bad : He.DefD := ⟨("_law_bad", none), "_law_bad", "_law_bad", defArgs (top 29), defBody (top 29), defScope (top 29), [], []⟩
abbrev d_l_number : He.DefD := ⟨("_law_number", none), "_law_number", "_law_number", defArgs (top 30), defBody (top 30), defScope (top 30), [], []⟩
abbrev d_law : He.DefD := ⟨("law", none), "law", "law", defArgs (top 31), defBody (top 31), defScope (top 31), [], []⟩
abbrev d_Row___init__ : He.DefD := ⟨(decS k_Row, some "__init__"), "__init__", "Row.__init__", defArgs (mtop 21 0), defBody (mtop 21 0), defScope (mtop 21 0), [], []⟩
abbrev d_Row_meet : He.DefD := ⟨(decS k_Row, some (decS n_meet)), "meet", "Row.meet", defArgs (mtop 21 1), defBody (mtop 21 1), defScope (mtop 21 1), [], []⟩
abbrev d_Row_lay : He.DefD := ⟨(decS k_Row, some (decS n_lay)), "lay", "Row.lay", defArgs (mtop 21 2), defBody (mtop 21 2), defScope (mtop 21 2), [], []⟩
abbrev d_NoTree_ini : He.DefD := ⟨("NoTree", some "__init__"), "__init__", "NoTree.__init__", defArgs (mtop 2 0), defBody (mtop 2 0), defScope (mtop 2 0), [], []⟩
abbrev d_NoProgram_ini : He.DefD := ⟨("NoProgram", some "__init__"), "__init__", "NoProgram.__init__", defArgs (mtop 3 0), defBody (mtop 3 0), defScope (mtop 3 0), [], []⟩
abbrev d_NoPaper_ini : He.DefD := ⟨("NoPaper", some "__init__"), "__init__", "NoPaper.__init__", defArgs (mtop 5 0), defBody (mtop 5 0), defScope (mtop 5 0), [], []⟩
abbrev d_NoEdit_ini : He.DefD := ⟨("NoEdit", some "__init__"), "__init__", "NoEdit.__init__", defArgs (mtop 6 0), defBody (mtop 6 0), defScope (mtop 6 0), [], []⟩
abbrev d_NoTurn_ini : He.DefD := ⟨("NoTurn", some "__init__"), "__init__", "NoTurn.__init__", defArgs (mtop 7 0), defBody (mtop 7 0), defScope (mtop 7 0), [], []⟩
abbrev d_NoLines_ini : He.DefD := ⟨("NoLines", some "__init__"), "__init__", "NoLines.__init__", defArgs (mtop 8 0), defBody (mtop 8 0), defScope (mtop 8 0), [], []⟩
def fn : List He.DefD := [d_gap_end, d_word_end, d_tokens_of, d_text_of, d_run_together, d_is_told, d_is_behind, d_told_first, d_laid_in, d_edited, d_back_edits, d_l_begin, d_l_draw, d_l_names, d_l_bad, d_l_number, d_law, d_Row___init__, d_Row_meet, d_Row_lay, d_NoTree_ini, d_NoProgram_ini, d_NoPaper_ini, d_NoEdit_ini, d_NoTurn_ini, d_NoLines_ini]
def kcs : List Kc := [⟨k_Row, [n_pieces, n_meeting, n_wrong], [n_meet, n_lay], true⟩]
def xds : List Xd := [("TurnError", none), ("NoTree", some (["at"], some "TurnError")), ("NoProgram", some (["part", "at"], some "TurnError")), ("NoStep", none), ("NoPaper", some (["side", "number"], some "TurnError")), ("NoEdit", some (["number"], some "TurnError")), ("NoTurn", some (["word", "part", "at"], some "TurnError")), ("NoLines", some (["row"], some "TurnError"))]
def xt : Xt := { kcs := kcs, xds := xds, bs := ["ValueError"], tab := tab }
abbrev l_n_gap_end : List Str := ["text", "at"]
theorem k_ok_gap_end : chkSs s_gap_end M l_n_gap_end (defScope (top 12)) (defBody (top 12)) = true := by decide +kernel
abbrev l_n_word_end : List Str := ["text", "at"]
theorem k_ok_word_end : chkSs s_word_end M l_n_word_end (defScope (top 13)) (defBody (top 13)) = true := by decide +kernel
abbrev l_n_tokens_of : List Str := ["text", "tokens", "start", "at", "end"]
theorem k_ok_tokens_of : chkSs s_tokens_of M l_n_tokens_of (defScope (top 14)) (defBody (top 14)) = true := by decide +kernel
abbrev l_n_text_of : List Str := ["tokens", "tail", "gap", "word"]
theorem k_ok_text_of : chkSs s_text_of M l_n_text_of (defScope (top 15)) (defBody (top 15)) = true := by decide +kernel
abbrev l_n_run_together : List Str := ["one", "other"]
theorem k_ok_run_together : chkSs s_run_together M l_n_run_together (defScope (top 17)) (defBody (top 17)) = true := by decide +kernel
abbrev l_n_is_told : List Str := ["edit", "counts", "part", "at", "many", "text"]
theorem k_ok_is_told : chkSs s_is_told M l_n_is_told (defScope (top 18)) (defBody (top 18)) = true := by decide +kernel
abbrev l_n_is_behind : List Str := ["edit", "other"]
theorem k_ok_is_behind : chkSs s_is_behind M l_n_is_behind (defScope (top 19)) (defBody (top 19)) = true := by decide +kernel
abbrev l_n_told_first : List Str := ["counts", "edits", "number"]
theorem k_ok_told_first : chkSs s_told_first M l_n_told_first (defScope (top 20)) (defBody (top 20)) = true := by decide +kernel
abbrev l_n_laid_in : List Str := ["pieces", "edits", "row", "at", "number", "edit"]
theorem k_ok_laid_in : chkSs s_laid_in M l_n_laid_in (defScope (top 22)) (defBody (top 22)) = true := by decide +kernel
abbrev l_n_edited : List Str := ["program", "edits", "tokens", "many", "parts", "wrong", "number", "own", "pieces", "first", "name", "text", "told", "rank"]
theorem k_ok_edited : chkSs s_edited M l_n_edited (defScope (top 23)) (defBody (top 23)) = true := by decide +kernel
abbrev l_n_back_edits : List Str := ["program", "edits", "tokens", "found", "shift", "part", "at", "many", "text", "more", "moved", "name"]
theorem k_ok_back_edits : chkSs s_back_edits M l_n_back_edits (defScope (top 24)) (defBody (top 24)) = true := by decide +kernel
abbrev l_n_l_begin : List Str := ["_law_script"]
theorem k_ok_l_begin : chkSs s_l_begin M l_n_l_begin (defScope (top 26)) (defBody (top 26)) = true := by decide +kernel
abbrev l_n_l_draw : List Str := ["_law_feed", "_law_many", "_law_script", "_law_cell", "_law_found"]
theorem k_ok_l_draw : chkSs s_l_draw M l_n_l_draw (defScope (top 27)) (defBody (top 27)) = true := by decide +kernel
abbrev l_n_l_names : List Str := ["_law_feed", "_law_many", "_law_letters", "_law_base", "_law_size", "_law_first", "_law_k"]
theorem k_ok_l_names : chkSs s_l_names M l_n_l_names (defScope (top 28)) (defBody (top 28)) = true := by decide +kernel
abbrev l_n_l_bad : List Str := ["_law_feed", "_law_edits", "_law_counts", "_law_k", "_law_part", "_law_at", "_law_many", "_law_text", "_law_far", "_law_way", "_law_one"]
theorem k_ok_l_bad : chkSs s_l_bad M l_n_l_bad (defScope (top 29)) (defBody (top 29)) = true := by decide +kernel
abbrev l_n_l_number : List Str := ["_law_way", "_law_program", "_law_edits", "_law_number_here", "e"]
theorem k_ok_l_number : chkSs s_l_number M l_n_l_number (defScope (top 30)) (defBody (top 30)) = true := by decide +kernel
abbrev l_n_law : List Str := ["_law_script", "_law_feed", "_law_names_here", "_law_counts", "_law_program", "_law_edits", "_law_part", "_law_at", "_law_many", "_law_handed", "_law_k", "_law_bad_here", "_law_number_here", "_law_held", "_law_name"]
theorem k_ok_law : chkSs s_law M l_n_law (defScope (top 31)) (defBody (top 31)) = true := by decide +kernel
abbrev l_n_Row___init__ : List Str := ["self"]
theorem k_ok_Row___init__ : chkSs s_Row___init__ M l_n_Row___init__ (defScope (mtop 21 0)) (defBody (mtop 21 0)) = true := by decide +kernel
abbrev l_n_Row_meet : List Str := ["self", "number"]
theorem k_ok_Row_meet : chkSs s_Row_meet M l_n_Row_meet (defScope (mtop 21 1)) (defBody (mtop 21 1)) = true := by decide +kernel
abbrev l_n_Row_lay : List Str := ["self", "pieces"]
theorem k_ok_Row_lay : chkSs s_Row_lay M l_n_Row_lay (defScope (mtop 21 2)) (defBody (mtop 21 2)) = true := by decide +kernel
section
variable {w : World} {K : PySem.W.Frag} {h : Heap} {mg : Str → Option Value}
theorem hgk : ∀ j : Fin cs.length, pr.G[j.1]? = (cs[j.1]?).map (·.2) := by
  intro j
  match j with
  | ⟨0, _⟩ => rfl
  | ⟨1, _⟩ => rfl
theorem txt (X : K.In h) (G : h.Ns mainGlobals mg) (c : SaysQ fa fn cs kds xt w K) : TxtOk w K mg (clOf K xt.xds xt.bs) pr M := by
  refine txt_of X G c ⟨rfl, rfl, rfl, by decide, by decide, (fun T hT => by
      have hT : T ∈ (["ValueError"] : List String) := hT
      simp only [List.mem_cons, List.not_mem_nil, or_false] at hT
      subst hT
      exact ⟨by decide, by decide +kernel, by decide⟩), rfl⟩ (fun k x e => ?_) (fun x hx => ?_) (fun f x e => ?_) (fun cc m k e => ?_) (fun cc k e => ?_) (fun t ht fs b e => ?_) (c.dicts X G)
  · have hc : ∀ i : Nat, ∀ p, cs[i]? = some p → M.Gn[i]? = some p.1 ∧ pr.G[i]? = some p.2 := by
      intro i p e
      have hi : i < cs.length := (List.getElem?_eq_some_iff.mp e).1
      have : ∀ j : Fin cs.length, M.Gn[j.1]? = (cs[j.1]?).map (·.1) ∧ pr.G[j.1]? = (cs[j.1]?).map (·.2) := by
        intro j; exact ⟨(by revert j; decide +kernel), (by revert j; exact hgk)⟩
      have q := this ⟨i, hi⟩
      rw [e] at q
      exact q
    have hk : k < cs.length := by
      have : k < M.Gn.length := (List.getElem?_eq_some_iff.mp e).1
      exact this
    obtain ⟨h1, h2⟩ := hc k cs[k] (List.getElem?_eq_getElem hk)
    rw [e] at h1
    obtain ⟨u, v, q1, q2, q3⟩ := conB_ok X G (List.all_eq_true.mp c.c cs[k] (List.getElem_mem hk))
    exact ⟨cs[k].2, u, v, h2, by rw [Option.some.inj h1]; exact q1, q2, q3⟩
  · have : ∀ y ∈ M.B, He.Fa.free y ∈ fa := by
      intro y hy
      simp only [M, List.mem_cons, List.not_mem_nil, or_false] at hy
      unfold fa
      rcases hy with rfl | rfl | rfl | rfl | rfl | rfl | rfl | rfl | rfl <;> simp
    have q := this x hx
    obtain ⟨i, hi⟩ := List.getElem?_of_mem q
    exact He.free_ok X G (c.d.fact i hi)
  · have hf : f < 17 := (List.getElem?_eq_some_iff.mp e).1
    match f, hf, e with
    | 0, _, e =>
      cases e
      obtain ⟨fd, F⟩ := c.d.def_ 0 (d := d_gap_end) rfl
      exact ⟨_, _, rfl, He.glo_ok X G (c.d.fact 0 rfl), ⟨⟨_, _, _, _, _, l_n_gap_end, ["text", "at"], fd, F, by decide +kernel, fun _ _ _ _ _ _ us hl => match us, hl with | [_, _], _ => rfl, k_ok_gap_end, rfl, rfl⟩⟩⟩
    | 1, _, e =>
      cases e
      obtain ⟨fd, F⟩ := c.d.def_ 1 (d := d_word_end) rfl
      exact ⟨_, _, rfl, He.glo_ok X G (c.d.fact 1 rfl), ⟨⟨_, _, _, _, _, l_n_word_end, ["text", "at"], fd, F, by decide +kernel, fun _ _ _ _ _ _ us hl => match us, hl with | [_, _], _ => rfl, k_ok_word_end, rfl, rfl⟩⟩⟩
    | 2, _, e =>
      cases e
      obtain ⟨fd, F⟩ := c.d.def_ 2 (d := d_tokens_of) rfl
      exact ⟨_, _, rfl, He.glo_ok X G (c.d.fact 2 rfl), ⟨⟨_, _, _, _, _, l_n_tokens_of, ["text"], fd, F, by decide +kernel, fun _ _ _ _ _ _ us hl => match us, hl with | [_], _ => rfl, k_ok_tokens_of, rfl, rfl⟩⟩⟩
    | 3, _, e =>
      cases e
      obtain ⟨fd, F⟩ := c.d.def_ 3 (d := d_text_of) rfl
      exact ⟨_, _, rfl, He.glo_ok X G (c.d.fact 3 rfl), ⟨⟨_, _, _, _, _, l_n_text_of, ["tokens", "tail"], fd, F, by decide +kernel, fun _ _ _ _ _ _ us hl => match us, hl with | [_, _], _ => rfl, k_ok_text_of, rfl, rfl⟩⟩⟩
    | 4, _, e =>
      cases e
      obtain ⟨fd, F⟩ := c.d.def_ 4 (d := d_run_together) rfl
      exact ⟨_, _, rfl, He.glo_ok X G (c.d.fact 4 rfl), ⟨⟨_, _, _, _, _, l_n_run_together, ["one", "other"], fd, F, by decide +kernel, fun _ _ _ _ _ _ us hl => match us, hl with | [_, _], _ => rfl, k_ok_run_together, rfl, rfl⟩⟩⟩
    | 5, _, e =>
      cases e
      obtain ⟨fd, F⟩ := c.d.def_ 5 (d := d_is_told) rfl
      exact ⟨_, _, rfl, He.glo_ok X G (c.d.fact 5 rfl), ⟨⟨_, _, _, _, _, l_n_is_told, ["edit", "counts"], fd, F, by decide +kernel, fun _ _ _ _ _ _ us hl => match us, hl with | [_, _], _ => rfl, k_ok_is_told, rfl, rfl⟩⟩⟩
    | 6, _, e =>
      cases e
      obtain ⟨fd, F⟩ := c.d.def_ 6 (d := d_is_behind) rfl
      exact ⟨_, _, rfl, He.glo_ok X G (c.d.fact 6 rfl), ⟨⟨_, _, _, _, _, l_n_is_behind, ["edit", "other"], fd, F, by decide +kernel, fun _ _ _ _ _ _ us hl => match us, hl with | [_, _], _ => rfl, k_ok_is_behind, rfl, rfl⟩⟩⟩
    | 7, _, e =>
      cases e
      obtain ⟨fd, F⟩ := c.d.def_ 7 (d := d_told_first) rfl
      exact ⟨_, _, rfl, He.glo_ok X G (c.d.fact 7 rfl), ⟨⟨_, _, _, _, _, l_n_told_first, ["counts", "edits"], fd, F, by decide +kernel, fun _ _ _ _ _ _ us hl => match us, hl with | [_, _], _ => rfl, k_ok_told_first, rfl, rfl⟩⟩⟩
    | 8, _, e =>
      cases e
      obtain ⟨fd, F⟩ := c.d.def_ 8 (d := d_laid_in) rfl
      exact ⟨_, _, rfl, He.glo_ok X G (c.d.fact 8 rfl), ⟨⟨_, _, _, _, _, l_n_laid_in, ["pieces", "edits"], fd, F, by decide +kernel, fun _ _ _ _ _ _ us hl => match us, hl with | [_, _], _ => rfl, k_ok_laid_in, rfl, rfl⟩⟩⟩
    | 9, _, e =>
      cases e
      obtain ⟨fd, F⟩ := c.d.def_ 9 (d := d_edited) rfl
      exact ⟨_, _, rfl, He.glo_ok X G (c.d.fact 9 rfl), ⟨⟨_, _, _, _, _, l_n_edited, ["program", "edits"], fd, F, by decide +kernel, fun _ _ _ _ _ _ us hl => match us, hl with | [_, _], _ => rfl, k_ok_edited, rfl, rfl⟩⟩⟩
    | 10, _, e =>
      cases e
      obtain ⟨fd, F⟩ := c.d.def_ 10 (d := d_back_edits) rfl
      exact ⟨_, _, rfl, He.glo_ok X G (c.d.fact 10 rfl), ⟨⟨_, _, _, _, _, l_n_back_edits, ["program", "edits"], fd, F, by decide +kernel, fun _ _ _ _ _ _ us hl => match us, hl with | [_, _], _ => rfl, k_ok_back_edits, rfl, rfl⟩⟩⟩
    | 11, _, e =>
      cases e
      obtain ⟨fd, F⟩ := c.d.def_ 11 (d := d_l_begin) rfl
      exact ⟨_, _, rfl, He.glo_ok X G (c.d.fact 11 rfl), ⟨⟨_, _, _, _, _, l_n_l_begin, ["_law_script"], fd, F, by decide +kernel, fun _ _ _ _ _ _ us hl => match us, hl with | [_], _ => rfl, k_ok_l_begin, rfl, rfl⟩⟩⟩
    | 12, _, e =>
      cases e
      obtain ⟨fd, F⟩ := c.d.def_ 12 (d := d_l_draw) rfl
      exact ⟨_, _, rfl, He.glo_ok X G (c.d.fact 12 rfl), ⟨⟨_, _, _, _, _, l_n_l_draw, ["_law_feed", "_law_many"], fd, F, by decide +kernel, fun _ _ _ _ _ _ us hl => match us, hl with | [_, _], _ => rfl, k_ok_l_draw, rfl, rfl⟩⟩⟩
    | 13, _, e =>
      cases e
      obtain ⟨fd, F⟩ := c.d.def_ 13 (d := d_l_names) rfl
      exact ⟨_, _, rfl, He.glo_ok X G (c.d.fact 13 rfl), ⟨⟨_, _, _, _, _, l_n_l_names, ["_law_feed", "_law_many"], fd, F, by decide +kernel, fun _ _ _ _ _ _ us hl => match us, hl with | [_, _], _ => rfl, k_ok_l_names, rfl, rfl⟩⟩⟩
    | 14, _, e =>
      cases e
      obtain ⟨fd, F⟩ := c.d.def_ 14 (d := d_l_bad) rfl
      exact ⟨_, _, rfl, He.glo_ok X G (c.d.fact 14 rfl), ⟨⟨_, _, _, _, _, l_n_l_bad, ["_law_feed", "_law_edits", "_law_counts"], fd, F, by decide +kernel, fun _ _ _ _ _ _ us hl => match us, hl with | [_, _, _], _ => rfl, k_ok_l_bad, rfl, rfl⟩⟩⟩
    | 15, _, e =>
      cases e
      obtain ⟨fd, F⟩ := c.d.def_ 15 (d := d_l_number) rfl
      exact ⟨_, _, rfl, He.glo_ok X G (c.d.fact 15 rfl), ⟨⟨_, _, _, _, _, l_n_l_number, ["_law_way", "_law_program", "_law_edits"], fd, F, by decide +kernel, fun _ _ _ _ _ _ us hl => match us, hl with | [_, _, _], _ => rfl, k_ok_l_number, rfl, rfl⟩⟩⟩
    | 16, _, e =>
      cases e
      obtain ⟨fd, F⟩ := c.d.def_ 16 (d := d_law) rfl
      exact ⟨_, _, rfl, He.glo_ok X G (c.d.fact 16 rfl), ⟨⟨_, _, _, _, _, l_n_law, ["_law_script"], fd, F, by decide +kernel, fun _ _ _ _ _ _ us hl => match us, hl with | [_], _ => rfl, k_ok_law, rfl, rfl⟩⟩⟩
  · obtain ⟨t, h1, h2⟩ := methOf_mem (ms := ms) e
    simp only [ms, List.mem_cons, Prod.mk.injEq, List.not_mem_nil, or_false] at h1
    rcases h1 with ⟨rfl, rfl⟩
    · simp only [List.mem_cons, Prod.mk.injEq, List.not_mem_nil, or_false] at h2
      rcases h2 with ⟨rfl, rfl⟩ | ⟨rfl, rfl⟩
      · obtain ⟨fd, F⟩ := c.d.def_ 18 (d := d_Row_meet) rfl
        exact ⟨⟨_, List.mem_of_getElem? (show kcs[0]? = some _ from rfl), rfl, List.mem_of_getElem? (i := 0) rfl⟩, _, rfl, ⟨⟨_, _, _, _, _, l_n_Row_meet, ["self", "number"], fd, F, by decide +kernel, fun _ _ _ _ _ _ us hl => match us, hl with | [_, _], _ => rfl, k_ok_Row_meet, rfl, rfl⟩⟩⟩
      · obtain ⟨fd, F⟩ := c.d.def_ 19 (d := d_Row_lay) rfl
        exact ⟨⟨_, List.mem_of_getElem? (show kcs[0]? = some _ from rfl), rfl, List.mem_of_getElem? (i := 1) rfl⟩, _, rfl, ⟨⟨_, _, _, _, _, l_n_Row_lay, ["self", "pieces"], fd, F, by decide +kernel, fun _ _ _ _ _ _ us hl => match us, hl with | [_, _], _ => rfl, k_ok_Row_lay, rfl, rfl⟩⟩⟩
  · have h1 := mem_of_lookupN (l := ini) e
    simp only [ini, List.mem_cons, Prod.mk.injEq, List.not_mem_nil, or_false] at h1
    rcases h1 with ⟨rfl, rfl⟩
    · obtain ⟨fd, F⟩ := c.d.def_ 17 (d := d_Row___init__) rfl
      exact ⟨⟨_, List.mem_of_getElem? (show kcs[0]? = some _ from rfl), rfl, rfl⟩, _, rfl, ⟨⟨_, _, _, _, _, l_n_Row___init__, ["self"], fd, F, by decide +kernel, fun _ _ _ _ _ _ us hl => match us, hl with | [_], _ => rfl, k_ok_Row___init__, rfl, rfl⟩⟩⟩
  · have ht : t ∈ xds := ht
    simp only [xds, List.mem_cons, List.not_mem_nil, or_false] at ht
    rcases ht with rfl | rfl | rfl | rfl | rfl | rfl | rfl | rfl
    · cases e
    · cases e
      obtain ⟨fd, F⟩ := c.d.def_ 20 (d := d_NoTree_ini) rfl
      exact ⟨by decide, by decide, by decide, fd, _, _, _, _, _, F, by decide +kernel, (fun _ _ _ _ _ _ us hl => match us, hl with | [_, _], _ => rfl), by decide +kernel, by decide +kernel, by decide +kernel, by decide +kernel⟩
    · cases e
      obtain ⟨fd, F⟩ := c.d.def_ 21 (d := d_NoProgram_ini) rfl
      exact ⟨by decide, by decide, by decide, fd, _, _, _, _, _, F, by decide +kernel, (fun _ _ _ _ _ _ us hl => match us, hl with | [_, _, _], _ => rfl), by decide +kernel, by decide +kernel, by decide +kernel, by decide +kernel⟩
    · cases e
    · cases e
      obtain ⟨fd, F⟩ := c.d.def_ 22 (d := d_NoPaper_ini) rfl
      exact ⟨by decide, by decide, by decide, fd, _, _, _, _, _, F, by decide +kernel, (fun _ _ _ _ _ _ us hl => match us, hl with | [_, _, _], _ => rfl), by decide +kernel, by decide +kernel, by decide +kernel, by decide +kernel⟩
    · cases e
      obtain ⟨fd, F⟩ := c.d.def_ 23 (d := d_NoEdit_ini) rfl
      exact ⟨by decide, by decide, by decide, fd, _, _, _, _, _, F, by decide +kernel, (fun _ _ _ _ _ _ us hl => match us, hl with | [_, _], _ => rfl), by decide +kernel, by decide +kernel, by decide +kernel, by decide +kernel⟩
    · cases e
      obtain ⟨fd, F⟩ := c.d.def_ 24 (d := d_NoTurn_ini) rfl
      exact ⟨by decide, by decide, by decide, fd, _, _, _, _, _, F, by decide +kernel, (fun _ _ _ _ _ _ us hl => match us, hl with | [_, _, _, _], _ => rfl), by decide +kernel, by decide +kernel, by decide +kernel, by decide +kernel⟩
    · cases e
      obtain ⟨fd, F⟩ := c.d.def_ 25 (d := d_NoLines_ini) rfl
      exact ⟨by decide, by decide, by decide, fd, _, _, _, _, _, F, by decide +kernel, (fun _ _ _ _ _ _ us hl => match us, hl with | [_, _], _ => rfl), by decide +kernel, by decide +kernel, by decide +kernel, by decide +kernel⟩
end
abbrev R : PySem.W.OpenRow := PySem.W.OpenLaw.row PySem.Challenge.rw_turnsame_k38_edits_refused
abbrev hk : PySem.W.Hook := hookQ 6 fa fn cs kds xt
def ob (s : PySem.W.SharedT) : AlQ := obsQG 6 fa fn cs kds xt (HandSHeadRun.getT s)
theorem ob_eq (s : PySem.W.SharedT) : ob s = hk.obs s.abs := obsQG_eq (HandSHeadRun.getT_eq s)
theorem run0 (w : World) (b : Bool) : HandSHeadRun.RunEq R (PySem.W.view R.prog [31]) hk ob 4000 ["__name__", "TurnError", "NoTree", "NoProgram", "NoStep", "NoPaper", "NoEdit", "NoTurn", "NoLines", "BLANKS", "BRACKETS", "gap_end", "word_end", "tokens_of", "text_of", "run_together", "is_told", "is_behind", "told_first", "Row", "laid_in", "edited", "back_edits", "_law_begin", "_law_draw", "_law_names", "_law_bad", "_law_number"] (Q3.setF w b) := by
  intro os
  cases b <;> kernel_rfl
theorem run (w : World) : HandSHeadRun.RunEq R (PySem.W.view R.prog [31]) hk ob 4000 ["__name__", "TurnError", "NoTree", "NoProgram", "NoStep", "NoPaper", "NoEdit", "NoTurn", "NoLines", "BLANKS", "BRACKETS", "gap_end", "word_end", "tokens_of", "text_of", "run_together", "is_told", "is_behind", "told_first", "Row", "laid_in", "edited", "back_edits", "_law_begin", "_law_draw", "_law_names", "_law_bad", "_law_number"] w := by
  rw [Q3.setF_eq w]
  exact run0 w _
end Lk38
open PySem PySem.W PySem.Calls PyProof.Rows
theorem Lk38.law_holds (k : Nat) (hr : L2.Room (k + 3) callerA) (main : ∀ ns : List Int, ns.length ≤ 63 → Q3.callN Lk38.pr (k + 1) Lk38.f_law [.ref 0] (Q3.scr ns) (fun d _ => d = .bl true) Q3.noX) : PySem.Challenge.rw_turnsame_k38_edits_refused.Holds := by
  w_on; o_law
  refine HandSHeadRun.head_any (r := OpenLaw.row PySem.Challenge.rw_turnsame_k38_edits_refused) (q := view (OpenLaw.row PySem.Challenge.rw_turnsame_k38_edits_refused).prog [31]) (H := Lk38.hk) (ob := Lk38.ob) (M := 4000) (loose := ["__name__", "TurnError", "NoTree", "NoProgram", "NoStep", "NoPaper", "NoEdit", "NoTurn", "NoLines", "BLANKS", "BRACKETS", "gap_end", "word_end", "tokens_of", "text_of", "run_together", "is_told", "is_behind", "told_first", "Row", "laid_in", "edited", "back_edits", "_law_begin", "_law_draw", "_law_names", "_law_bad", "_law_number"]) (d := HandSHeadRun.topDef (OpenLaw.row PySem.Challenge.rw_turnsame_k38_edits_refused).prog 31) (kwd := []) Lk38.ob_eq
    (by kernel_rfl) (fun s => by kernel_rfl) Lk38.run (by kernel_rfl) (by kernel_rfl) (by kernel_rfl) (by rfl) (by first | assumption | decide +kernel) (by decide +kernel) ⟨rfl, rfl, rfl, rfl, rfl, by decide +kernel⟩ ?hw ?hc
  case hw => w_witness2
  case hc => exact Q3.walk_q (l := PySem.Challenge.rw_turnsame_k38_edits_refused) (n := 63) (k := k) (f := Lk38.f_law) rfl (by decide) (by kernel_rfl) hr Lk38.txt rfl main

set_option Elab.async false
set_option linter.all false
set_option maxRecDepth 100000
set_option maxHeartbeats 2000000
set_option pp.maxSteps 1500
/-! TEm: edits in a text's tokens, for any program that has these defs at these places. -/
namespace TE
open PySem Q3 TK
open L2 (cutS atI)
local macro_rules | `(tactic| walk_at "w") => `(tactic| conv => whnf)
abbrev n_lay : Nat := 1994988
abbrev n_meet : Nat := 244937453
abbrev n_meeting : Nat := 456806792524525
abbrev n_pieces : Nat := 3978691179760
abbrev n_wrong : Nat := 27881372023
abbrev k_Row : Nat := 1963986
/-- slots: 0 one 1 other -/
def sRunT : Ss := (.cons
 (.ret (.and (.cmp .eq (.ix (.var 1) (.int 0)) (.str "")) (.and (.cmp .notin (.var 0) (.tup (.cons (.str "(") (.cons (.str ")") .nil)))) (.cmp .notin (.ix (.var 1) (.int 1)) (.tup (.cons (.str "(") (.cons (.str ")") .nil))))))) .nil)
/-- slots: 0 edit 1 counts 2 part 3 at 4 many 5 text -/
def sIsTold : Ss := (.cons
 (.asg (.tp [2, 3, 4, 5]) (.var 0)) (.cons
 (.iff (.or (.val (.cmp .lt (.var 2) (.int 0))) (.or (.val (.cmp .ge (.var 2) (.bf .len (.cons (.var 1) .nil)))) (.or (.val (.cmp .lt (.var 3) (.int 0))) (.or (.val (.cmp .lt (.var 4) (.int 0))) (.val (.cmp .gt (.bin .add (.var 3) (.var 4)) (.ix (.var 1) (.var 2)))))))) (.cons
  (.ret (.bl false)) .nil) .nil) (.cons
 (.ret (.cmp .eq (.ix (.call 2 (.cons (.var 5) .nil)) (.int 1)) (.str ""))) .nil)))
/-- slots: 0 edit 1 other -/
def sIsBehind : Ss := (.cons
 (.iff (.val (.cmp .ne (.ix (.var 0) (.int 0)) (.ix (.var 1) (.int 0)))) (.cons
  (.ret (.cmp .gt (.ix (.var 0) (.int 0)) (.ix (.var 1) (.int 0)))) .nil) .nil) (.cons
 (.ret (.cmp .ge (.ix (.var 0) (.int 1)) (.bin .add (.ix (.var 1) (.int 1)) (.ix (.var 1) (.int 2))))) .nil))
/-- slots: 0 counts 1 edits 2 number -/
def sToldFirst : Ss := (.cons
 (.for (.nm 2) (.rng1 (.bf .len (.cons (.var 1) .nil))) (.cons
  (.iff (.not (.val (.call 5 (.cons (.ix (.var 1) (.var 2)) (.cons (.var 0) .nil))))) (.cons
   (.ret (.var 2)) .nil) .nil) (.cons
  (.iff (.and (.val (.cmp .gt (.var 2) (.int 0))) (.not (.val (.call 6 (.cons (.ix (.var 1) (.var 2)) (.cons (.ix (.var 1) (.bin .sub (.var 2) (.int 1))) .nil)))))) (.cons
   (.ret (.var 2)) .nil) .nil) .nil))) (.cons
 (.ret (.bf .len (.cons (.var 1) .nil))) .nil))
/-- slots: 0 pieces 1 edits 2 row 3 at 4 number 5 edit -/
def sLaidIn : Ss := (.cons
 (.asg (.nm 2) (.new k_Row .nil)) (.cons
 (.asg (.nm 3) (.int 0)) (.cons
 (.for (.tp [4, 5]) (.seq (.var 1)) (.cons
  (.ex (.mth (.var 2) n_lay (.cons (.sl (.var 0) (.var 3) (.ix (.var 5) (.int 1))) .nil))) (.cons
  (.ex (.mth (.var 2) n_meet (.cons (.var 4) .nil))) (.cons
  (.ex (.mth (.var 2) n_lay (.cons (.ix (.call 2 (.cons (.ix (.var 5) (.int 3)) .nil)) (.int 0)) .nil))) (.cons
  (.ex (.mth (.var 2) n_meet (.cons (.var 4) .nil))) (.cons
  (.asg (.nm 3) (.bin .add (.ix (.var 5) (.int 1)) (.ix (.var 5) (.int 2)))) .nil)))))) (.cons
 (.ex (.mth (.var 2) n_lay (.cons (.sl (.var 0) (.var 3) .no) .nil))) (.cons
 (.ret (.tup (.cons (.fld (.var 2) n_pieces) (.cons (.fld (.var 2) n_wrong) .nil)))) .nil)))))
/-- slots: 0 program 1 edits 2 tokens 3 many 4 parts 5 wrong 6 number 7 own 8 pieces 9 first 10 name 11 text 12 told 13 rank -/
def sEdited (xe : Nat) : Ss := (.cons
 (.asg (.nm 2) (.comp (.call 2 (.cons (.var 11) .nil)) (.tp [10, 11]) (.seq (.var 0)) .yes)) (.cons
 (.asg (.nm 3) (.call 7 (.cons (.comp (.bf .len (.cons (.ix (.var 12) (.int 0)) .nil)) (.nm 12) (.seq (.var 2)) .yes) (.cons (.var 1) .nil)))) (.cons
 (.asg (.nm 4) (.lst .nil)) (.cons
 (.asg (.nm 5) (.lst .nil)) (.cons
 (.for (.nm 6) (.rng1 (.bf .len (.cons (.var 0) .nil))) (.cons
  (.asg (.nm 7) (.comp (.tup (.cons (.var 13) (.cons (.ix (.var 1) (.var 13)) .nil))) (.nm 13) (.rng1 (.var 3)) (.val (.cmp .eq (.ix (.ix (.var 1) (.var 13)) (.int 0)) (.var 6))))) (.cons
  (.asg (.tp [8, 9]) (.call 8 (.cons (.ix (.ix (.var 2) (.var 6)) (.int 0)) (.cons (.var 7) .nil)))) (.cons
  (.iff (.val (.cmp .isnt (.var 9) .non)) (.cons
   (.ex (.mt .append (.var 5) (.cons (.var 9) .nil))) .nil) .nil) (.cons
  (.ex (.mt .append (.var 4) (.cons (.tup (.cons (.ix (.ix (.var 0) (.var 6)) (.int 0)) (.cons (.call 3 (.cons (.var 8) (.cons (.ix (.ix (.var 2) (.var 6)) (.int 1)) .nil))) .nil))) .nil))) .nil))))) (.cons
 (.iff (.val (.cmp .lt (.var 3) (.bf .len (.cons (.var 1) .nil)))) (.cons
  (.ex (.mt .append (.var 5) (.cons (.var 3) .nil))) .nil) .nil) (.cons
 (.iff (.val (.cmp .gt (.bf .len (.cons (.var 5) .nil)) (.int 0))) (.cons
  (.rais xe (.cons (.bf .min1 (.cons (.var 5) .nil)) .nil)) .nil) .nil) (.cons
 (.ret (.bf .tuple (.cons (.var 4) .nil))) .nil))))))))
/-- slots: 0 program 1 edits 2 tokens 3 found 4 shift 5 part 6 at 7 many 8 text 9 more 10 moved 11 name -/
def sBackEdits : Ss := (.cons
 (.ex (.call 9 (.cons (.var 0) (.cons (.var 1) .nil)))) (.cons
 (.asg (.nm 2) (.comp (.ix (.call 2 (.cons (.var 8) .nil)) (.int 0)) (.tp [11, 8]) (.seq (.var 0)) .yes)) (.cons
 (.asg (.nm 3) (.lst .nil)) (.cons
 (.asg (.nm 4) .dc0) (.cons
 (.for (.tp [5, 6, 7, 8]) (.seq (.var 1)) (.cons
  (.asg (.nm 9) (.bf .len (.cons (.ix (.call 2 (.cons (.var 8) .nil)) (.int 0)) .nil))) (.cons
  (.asg (.nm 10) (.mt .get (.var 4) (.cons (.var 5) (.cons (.int 0) .nil)))) (.cons
  (.ex (.mt .append (.var 3) (.cons (.tup (.cons (.var 5) (.cons (.bin .add (.var 6) (.var 10)) (.cons (.var 9) (.cons (.call 3 (.cons (.sl (.ix (.var 2) (.var 5)) (.var 6) (.bin .add (.var 6) (.var 7))) (.cons (.str "") .nil))) .nil))))) .nil))) (.cons
  (.six (.var 4) (.var 5) (.bin .sub (.bin .add (.var 10) (.var 9)) (.var 7))) .nil))))) (.cons
 (.ret (.var 3)) .nil))))))
/-- slots: 0 self -/
def sRowInit : Ss := (.cons
 (.fst (.var 0) n_pieces (.lst .nil)) (.cons
 (.fst (.var 0) n_meeting .non) (.cons
 (.fst (.var 0) n_wrong .non) .nil)))
/-- slots: 0 self 1 number -/
def sRowMeet : Ss := (.cons
 (.iff (.val (.cmp .isn (.fld (.var 0) n_meeting) .non)) (.cons
  (.fst (.var 0) n_meeting (.var 1)) .nil) .nil) .nil)
/-- slots: 0 self 1 pieces -/
def sRowLay : Ss := (.cons
 (.iff (.val (.cmp .gt (.bf .len (.cons (.var 1) .nil)) (.int 0))) (.cons
  (.iff (.and (.val (.cmp .isnt (.fld (.var 0) n_meeting) .non)) (.and (.val (.cmp .gt (.bf .len (.cons (.fld (.var 0) n_pieces) .nil)) (.int 0))) (.val (.cmp .isn (.fld (.var 0) n_wrong) .non)))) (.cons
   (.iff (.val (.call 4 (.cons (.ix (.ix (.fld (.var 0) n_pieces) (.neg (.int 1))) (.int 1)) (.cons (.ix (.var 1) (.int 0)) .nil)))) (.cons
    (.fst (.var 0) n_wrong (.fld (.var 0) n_meeting)) .nil) .nil) .nil) .nil) (.cons
  (.ex (.mt .extend (.fld (.var 0) n_pieces) (.cons (.var 1) .nil))) (.cons
  (.fst (.var 0) n_meeting .non) .nil))) .nil) .nil)
structure HasE (p : Pr) (mi mm ml xe : Nat) : Prop where
  hk : Has p 0 1 2 0 1
  h3 : p.P[3]? = some ⟨4, 2, sTextOf⟩
  h4 : p.P[4]? = some ⟨2, 2, sRunT⟩
  h5 : p.P[5]? = some ⟨6, 2, sIsTold⟩
  h6 : p.P[6]? = some ⟨2, 2, sIsBehind⟩
  h7 : p.P[7]? = some ⟨3, 2, sToldFirst⟩
  h8 : p.P[8]? = some ⟨6, 2, sLaidIn⟩
  h9 : p.P[9]? = some ⟨14, 2, sEdited xe⟩
  h10 : p.P[10]? = some ⟨12, 2, sBackEdits⟩
  hi : p.P[mi]? = some ⟨1, 1, sRowInit⟩
  hm : p.P[mm]? = some ⟨2, 2, sRowMeet⟩
  hl : p.P[ml]? = some ⟨2, 2, sRowLay⟩
  hx : p.X[xe]? = some (some [Str.ofString "number"])
  hc : p.ini.lookup k_Row = some mi
  hmm : methOf p.ms k_Row n_meet = some mm
  hml : methOf p.ms k_Row n_lay = some ml
  f1 : fdB p.fds k_Row n_pieces = true
  f2 : fdB p.fds k_Row n_meeting = true
  f3 : fdB p.fds k_Row n_wrong = true
section
variable {p : Pr} {mi mm ml xe : Nat} (h : HasE p mi mm ml xe)
def brW (w : List Nat) : Bool := decide (w = [40]) || decide (w = [41])
def runT (one : List Nat) (o : TK.Tok) : Bool := decide (o.1 = []) && (!brW one && !brW o.2)
theorem brW_ok (w : List Nat) : ([D.str (Str.ofString "("), D.str (Str.ofString ")")].any fun z => eqF z (.str (Sx w))) = brW w := by
  rw [show [D.str (Str.ofString "("), D.str (Str.ofString ")")] = [Sx [40], Sx [41]].map D.str from by rw [show Sx [40] = Str.ofString "(" by decide +kernel, show Sx [41] = Str.ofString ")" by decide +kernel]; rfl, any_str]
  unfold brW
  simp [S_eq]
include h in
theorem runT_ok (n : Nat) (w : List Nat) (o : TK.Tok) (st : Sto) (Q : KD) (X : KX) (hQ : Q (.bl (runT w o)) st) : callN p (n + 1) 4 [.str (Sx w), tokD o] st Q X := by
  refine callN_run h.h4 rfl ?_
  obtain ⟨g, x⟩ := o
  unfold tokD
  walk_at "w"
  rw [nil_S, S_dec]
  unfold runT at hQ
  by_cases h1 : g = []
  · rw [decide_eq_true h1]
    rw [decide_eq_true h1] at hQ
    walk_at "w"
    rw [brW_ok]
    cases e1 : brW w with
    | true =>
      rw [e1] at hQ
      exact hQ
    | false =>
      rw [e1] at hQ
      walk_at "w"
      rw [brW_ok]
      exact hQ
  · rw [decide_eq_false h1]
    rw [decide_eq_false h1] at hQ
    exact hQ
/-- a row under way -/
structure Rw where
  pcs : List TK.Tok
  meet : Option Nat
  wrong : Option Nat
def oD : Option Nat → D
  | none => .non
  | some k => .int k
def rowO (pa : Nat) (r : Rw) : O := .ins k_Row [(n_pieces, .ref pa), (n_meeting, oD r.meet), (n_wrong, oD r.wrong)]
structure RS (st : Sto) (ra pa : Nat) (r : Rw) (st' : Sto) : Prop where
  ex : ∃ E, st' = st ++ E
  ro : st'[ra]? = some (rowO pa r)
  pi : st'[pa]? = some (.lst (r.pcs.map tokD))
  gr : st.length ≤ ra
  gp : st.length ≤ pa
theorem RS.ne {st st' : Sto} {ra pa : Nat} {r : Rw} (R : RS st ra pa r st') : ra ≠ pa := fun e => by
  have := R.ro
  rw [e, R.pi] at this
  cases this
def Rw.meet' (r : Rw) (k : Nat) : Rw := { r with meet := r.meet.or (some k) }
def Rw.lay (r : Rw) : List TK.Tok → Rw
  | [] => r
  | x :: xs => { pcs := r.pcs ++ x :: xs, meet := none, wrong := match r.wrong, r.meet, r.pcs.getLast? with
    | none, some k, some l => if runT l.2 x then some k else none
    | w, _, _ => w }
theorem RS.app {st st' : Sto} {ra pa : Nat} {r : Rw} (R : RS st ra pa r st') (e : Sto) : RS st ra pa r (st' ++ e) := by
  obtain ⟨E, hE⟩ := R.ex
  exact ⟨⟨E ++ e, by rw [hE, List.append_assoc]⟩, get_app e R.ro, get_app e R.pi, R.gr, R.gp⟩
theorem RS.putR {st st' : Sto} {ra pa : Nat} {r r' : Rw} (R : RS st ra pa r st') (hp : r'.pcs = r.pcs) : RS st ra pa r' (st'.set ra (rowO pa r')) := by
  obtain ⟨E, hE⟩ := R.ex
  refine ⟨⟨E.set (ra - st.length) (rowO pa r'), by rw [hE, List.set_append_right (s := st) _ _ R.gr]⟩, ?_, ?_, R.gr, R.gp⟩
  · exact List.getElem?_set_self (List.getElem?_eq_some_iff.mp R.ro).1
  · rw [List.getElem?_set_ne R.ne, hp]; exact R.pi
theorem RS.putP {st st' : Sto} {ra pa : Nat} {r r' : Rw} (R : RS st ra pa r st') (h1 : r'.meet = r.meet) (h2 : r'.wrong = r.wrong) : RS st ra pa r' (st'.set pa (.lst (r'.pcs.map tokD))) := by
  obtain ⟨E, hE⟩ := R.ex
  refine ⟨⟨E.set (pa - st.length) (.lst (r'.pcs.map tokD)), by rw [hE, List.set_append_right (s := st) _ _ R.gp]⟩, ?_, ?_, R.gr, R.gp⟩
  · rw [List.getElem?_set_ne (Ne.symm R.ne), R.ro]; unfold rowO; rw [h1, h2]
  · exact List.getElem?_set_self (List.getElem?_eq_some_iff.mp R.pi).1
include h in
theorem meet_ok (n k : Nat) {st st' : Sto} {ra pa : Nat} {r : Rw} (R : RS st ra pa r st') (Q : KD) (X : KX) (hQ : ∀ st'', RS st ra pa (r.meet' k) st'' → Q .non st'') : callN p (n + 1) mm [.ref ra, .int k] st' Q X := by
  refine callN_run h.hm rfl ?_
  have hi : insAt st' (.ref ra) = some (k_Row, [(n_pieces, .ref pa), (n_meeting, oD r.meet), (n_wrong, oD r.wrong)]) := by
    show (match st'[ra]? with | some (.ins c fs) => some (c, fs) | _ => none) = _
    rw [R.ro]; rfl
  walk_at "w"
  rw [hi]
  walk_at "w"
  rw [h.f2]
  walk_at "w"
  obtain ⟨pcs, meet, wrong⟩ := r
  cases meet with
  | none =>
    walk_at "w"
    rw [R.ro]
    walk_at "w"
    rw [h.f2]
    walk_at "w"
    exact hQ _ (R.putR (r' := ⟨pcs, some k, wrong⟩) rfl)
  | some j =>
    walk_at "w"
    exact hQ _ R
theorem atI_last (L : List D) (l : D) : atI (L ++ [l]) (-1) = some l := by
  unfold L2.atI L2.ixN
  rw [if_neg (by decide), if_pos (by simp; omega)]
  show (L ++ [l])[((-1 : Int) + ((L ++ [l]).length : Nat)).toNat]? = some l
  rw [show ((-1 : Int) + ((L ++ [l]).length : Nat)).toNat = L.length from by rw [List.length_append]; show ((-1 : Int) + ((L.length + 1 : Nat) : Int)).toNat = _; omega]
  simp
include h in
theorem lay_ok (n a : Nat) (xs : List TK.Tok) {st st' : Sto} {ra pa : Nat} {r : Rw} (R : RS st ra pa r st') (hx : lstAt st' a = some (xs.map tokD)) (hl : r.pcs.length + xs.length ≤ 100000) (hm : ∃ o, st'[a]? = some (.lst o)) (Q : KD) (X : KX) (hQ : ∀ st'', RS st ra pa (r.lay xs) st'' → Q .non st'') : callN p (n + 2) ml [.ref ra, .ref a] st' Q X := by
  refine callN_run h.hl rfl ?_
  obtain ⟨pcs, meet, wrong⟩ := r
  have hi : insAt st' (.ref ra) = some (k_Row, [(n_pieces, .ref pa), (n_meeting, oD meet), (n_wrong, oD wrong)]) := by
    show (match st'[ra]? with | some (.ins c fs) => some (c, fs) | _ => none) = _
    rw [R.ro]; rfl
  have hp : lstAt st' pa = some (pcs.map tokD) := by unfold lstAt; rw [R.pi]
  have ha : st'[a]? = some (.lst (xs.map tokD)) := by
    obtain ⟨o, ho⟩ := hm
    unfold lstAt at hx
    rw [ho] at hx ⊢
    cases hx
    rfl
  walk_at "w"
  rw [len_lst hx]
  walk_at "w"
  rw [List.length_map]
  cases xs with
  | nil =>
    walk_at "w"
    exact hQ _ R
  | cons x xs =>
    have last : ∀ (wrong' : Option Nat) (st2 : Sto), RS st ra pa ⟨pcs, meet, wrong'⟩ st2 → st2[a]? = some (.lst ((x :: xs).map tokD)) → (∀ st'', RS st ra pa ⟨pcs ++ x :: xs, none, wrong'⟩ st'' → Q .non st'') → wSs (.cons (.ex (.mt .extend (.fld (.var 0) n_pieces) (.cons (.var 1) .nil))) (.cons (.fst (.var 0) n_meeting .non) .nil)) (p.cl (n + 1)) { nx := fun _ st' => Q .non st', rt := Q } (fun c fs _ st' => X c fs st') [some (.ref ra), some (.ref a)] st2 := by
      intro wrong' st2 R2 ha2 hQ2
      have hi2 : insAt st2 (.ref ra) = some (k_Row, [(n_pieces, .ref pa), (n_meeting, oD meet), (n_wrong, oD wrong')]) := by
        show (match st2[ra]? with | some (.ins c fs) => some (c, fs) | _ => none) = _
        rw [R2.ro]; rfl
      have hp2 : lstAt st2 pa = some (pcs.map tokD) := by unfold lstAt; rw [R2.pi]
      have hpi : st2[pa]? = some (.lst (pcs.map tokD)) := R2.pi
      walk_at "w"
      rw [hi2]
      walk_at "w"
      rw [h.f1]
      walk_at "w"
      rw [mtOk_lst rfl hp2]
      walk_at "w"
      rw [hpi, ha2]
      refine ⟨by show ((pcs.map tokD).length + ((x :: xs).map tokD).length) ≤ 16777216; rw [List.length_map, List.length_map]; have : pcs.length + (x :: xs).length ≤ 100000 := hl; omega, ?_⟩
      rw [← List.map_append]
      have R3 : RS st ra pa ⟨pcs ++ x :: xs, meet, wrong'⟩ (st2.set pa (.lst ((pcs ++ x :: xs).map tokD))) := R2.putP (r' := ⟨pcs ++ x :: xs, meet, wrong'⟩) rfl rfl
      walk_at "w"
      rw [R3.ro]
      walk_at "w"
      rw [h.f2]
      exact hQ2 _ (R3.putR (r' := ⟨pcs ++ x :: xs, none, wrong'⟩) rfl)
    rw [show decide ((0:Int) < (((x :: xs).length : Nat) : Int)) = true from decide_eq_true (by simp)]
    walk_at "w"
    rw [hi]
    walk_at "w"
    rw [h.f2]
    walk_at "w"
    cases meet with
    | none => exact last wrong st' R ha fun st'' R'' => hQ st'' (by cases wrong <;> exact R'')
    | some k =>
      walk_at "w"
      rw [hi]
      walk_at "w"
      rw [h.f1]
      walk_at "w"
      rw [len_lst hp]
      walk_at "w"
      rw [List.length_map]
      rcases List.eq_nil_or_concat pcs with rfl | ⟨L, l, rfl⟩
      · exact last wrong st' R ha fun st'' R'' => hQ st'' (by cases wrong <;> exact R'')
      · rw [List.concat_eq_append] at *
        rw [show decide ((0:Int) < (((L ++ [l]).length : Nat) : Int)) = true from decide_eq_true (by simp)]
        walk_at "w"
        rw [hi]
        walk_at "w"
        rw [h.f3]
        walk_at "w"
        cases wrong with
        | some j => exact last (some j) st' R ha fun st'' R'' => hQ st'' R''
        | none =>
          walk_at "w"
          rw [hi]
          walk_at "w"
          rw [h.f1]
          walk_at "w"
          rw [show seqOf st' (.ref pa) = some ((L ++ [l]).map tokD) from hp]
          walk_at "w"
          rw [show atI ((L ++ [l]).map tokD) (-1) = some (tokD l) from by rw [List.map_append]; exact atI_last _ _]
          walk_at "w"
          rw [show seqOf st' (.ref a) = some ((x :: xs).map tokD) from hx]
          walk_at "w"
          rw [show atI ((x :: xs).map tokD) 0 = some (tokD x) from L2.atI_nat (xs := (x :: xs).map tokD) (j := 0) rfl]
          walk_at "w"
          refine runT_ok h n l.2 x st' _ _ ?_
          have hlay : Rw.lay ⟨L ++ [l], some k, none⟩ (x :: xs) = ⟨(L ++ [l]) ++ x :: xs, none, if runT l.2 x then some k else none⟩ := by
            unfold Rw.lay
            simp
          rw [hlay] at hQ
          walk_at "w"
          cases er : runT l.2 x with
          | false =>
            rw [er] at hQ
            exact last none st' R ha hQ
          | true =>
            rw [er] at hQ
            walk_at "w"
            rw [hi]
            walk_at "w"
            rw [h.f2]
            walk_at "w"
            rw [R.ro]
            walk_at "w"
            rw [h.f3]
            walk_at "w"
            have ne : a ≠ ra := fun e => by rw [e, R.ro] at ha; cases ha
            exact last (some k) _ (R.putR (r' := ⟨L ++ [l], some k, some k⟩) rfl) (by rw [List.getElem?_set_ne (Ne.symm ne)]; exact ha) hQ
end
end TE

set_option Elab.async false
set_option linter.all false
set_option maxRecDepth 100000
set_option maxHeartbeats 2000000
set_option pp.maxSteps 1500
namespace TE
open PySem Q3 TK
open L2 (cutS atI)
local macro_rules | `(tactic| walk_at "w") => `(tactic| conv => whnf)
section
variable {p : Pr} {mi mm ml xe : Nat} (h : HasE p mi mm ml xe)
structure Ed where
  part : Int
  at_ : Int
  many : Int
  text : List Nat
def edD (e : Ed) : D := .tup [.int e.part, .int e.at_, .int e.many, .str (Sx e.text)]
abbrev cntD (cs : List Nat) : List D := cs.map fun c => D.int ((c : Nat) : Int)
def isTold (cs : List Nat) (e : Ed) : Bool := !decide (e.part < 0) && (!decide ((cs.length : Int) ≤ e.part) && (!decide (e.at_ < 0) && (!decide (e.many < 0) && (match cs[e.part.toNat]? with
  | some c => !decide ((c : Int) < e.at_ + e.many)
  | none => false)))) && decide ((tokL e.text).2 = [])
def isBehind (e o : Ed) : Bool := if e.part = o.part then decide (o.at_ + o.many ≤ e.at_) else decide (o.part < e.part)
include h in
theorem is_told_ok (n a : Nat) (cs : List Nat) (e : Ed) (he : e.text.length ≤ 100000) (st : Sto) (hst : lstAt st a = some (cntD cs)) (Q : KD) (X : KX) (hQ : ∀ z, Q (.bl (isTold cs e)) (st ++ z)) : callN p (n + 3) 5 [edD e, .ref a] st Q X := by
  have hQ0 : Q (.bl (isTold cs e)) st := by have := hQ []; rwa [List.append_nil] at this
  refine callN_run h.h5 rfl ?_
  obtain ⟨part, at_, many, text⟩ := e
  unfold edD
  unfold isTold at hQ hQ0
  dsimp only at hQ hQ0
  walk_at "w"
  by_cases h1 : part < 0
  · rw [decide_eq_true h1]
    rw [decide_eq_true h1] at hQ0
    exact hQ0
  rw [decide_eq_false h1] at hQ hQ0 ⊢
  walk_at "w"
  rw [len_lst hst]
  walk_at "w"
  rw [List.length_map]
  by_cases h2 : (cs.length : Int) ≤ part
  · rw [decide_eq_true h2] at hQ0 ⊢
    exact hQ0
  rw [decide_eq_false h2] at hQ hQ0 ⊢
  walk_at "w"
  by_cases h3 : at_ < 0
  · rw [decide_eq_true h3] at hQ0 ⊢
    exact hQ0
  rw [decide_eq_false h3] at hQ hQ0 ⊢
  walk_at "w"
  by_cases h4 : many < 0
  · rw [decide_eq_true h4] at hQ0 ⊢
    exact hQ0
  rw [decide_eq_false h4] at hQ hQ0 ⊢
  walk_at "w"
  rw [show seqOf st (.ref a) = some (cntD cs) from hst]
  walk_at "w"
  obtain ⟨j, rfl⟩ : ∃ j : Nat, part = j := ⟨part.toNat, by omega⟩
  have hj : j < cs.length := by omega
  rw [show atI (cntD cs) (j : Int) = some (.int (cs[j] : Nat)) from L2.atI_nat (by rw [List.getElem?_map, List.getElem?_eq_getElem hj]; rfl)]
  rw [show ((j : Nat) : Int).toNat = j from rfl, List.getElem?_eq_getElem hj] at hQ hQ0
  dsimp only at hQ hQ0
  walk_at "w"
  by_cases h5 : ((cs[j] : Nat) : Int) < at_ + many
  · rw [decide_eq_true h5] at hQ0 ⊢
    exact hQ0
  rw [decide_eq_false h5] at hQ hQ0 ⊢
  walk_at "w"
  refine tokens_of_ok h.hk n text he st _ _ ?_
  walk_at "w"
  rw [nil_S, S_dec]
  exact hQ _
theorem dec_comm_int (a b : Int) : decide (a > b) = decide (b < a) := rfl
include h in
theorem is_behind_ok (n : Nat) (e o : Ed) (st : Sto) (Q : KD) (X : KX) (hQ : Q (.bl (isBehind e o)) st) : callN p (n + 1) 6 [edD e, edD o] st Q X := by
  refine callN_run h.h6 rfl ?_
  obtain ⟨part, at_, many, text⟩ := e
  obtain ⟨part', at', many', text'⟩ := o
  unfold edD
  unfold isBehind at hQ
  dsimp only at hQ
  walk_at "w"
  by_cases h1 : part = part'
  · rw [decide_eq_true h1]
    rw [if_pos h1] at hQ
    exact hQ
  · rw [decide_eq_false h1]
    rw [if_neg h1] at hQ
    exact hQ
def toldFrom (cs : List Nat) : Option Ed → List Ed → Nat → Nat
  | _, [], k => k
  | prev, e :: r, k => if isTold cs e = true then (match prev with
    | some o => if isBehind e o = true then toldFrom cs (some e) r (k + 1) else k
    | none => toldFrom cs (some e) r (k + 1)) else k
def prevOf (es : List Ed) : Nat → Option Ed
  | 0 => none
  | i + 1 => es[i]?
include h in
theorem told_first_ok (n a b : Nat) (cs : List Nat) (es : List Ed) (hes : ∀ e ∈ es, e.text.length ≤ 100000) (hel : es.length ≤ 100000) (st : Sto) (hst : lstAt st a = some (cntD cs)) (hb : lstAt st b = some (es.map edD)) (Q : KD) (X : KX) (hQ : ∀ z, Q (.int (toldFrom cs none es 0 : Nat)) (st ++ z)) : callN p (n + 4) 7 [.ref a, .ref b] st Q X := by
  refine callN_run h.h7 rfl ?_
  walk_at "w"
  rw [len_lst hb]
  dsimp only
  rw [List.length_map, dec62_mk (i := ((es.length : Nat) : Int)) (by omega) (by omega)]
  generalize hR : toldFrom cs none es 0 = R at hQ
  refine loopF_rng (fun i en st' => ∃ z o2, st' = st ++ z ∧ en = [some (.ref a), some (.ref b), o2] ∧ toldFrom cs (prevOf es i) (es.drop i) i = R) (fun _ _ _ _ => gOk_nil) ?_ ?_ ⟨[], none, (List.append_nil _).symm, rfl, hR⟩
  · rintro i hi K' en st' ⟨z, o2, rfl, rfl, hf⟩ hK
    replace hi : i < es.length := by simpa using hi
    have hd : es.drop i = es[i] :: es.drop (i + 1) := List.drop_eq_getElem_cons hi
    rw [hd] at hf
    have hs : seqOf (st ++ z) (.ref b) = some (es.map edD) := lst_app z hb
    have hat : atI (es.map edD) (0 + (i : Int)) = some (edD es[i]) := by
      rw [Int.zero_add]
      exact L2.atI_nat (by rw [List.getElem?_map, List.getElem?_eq_getElem hi]; rfl)
    have hte := hes es[i] (List.getElem_mem hi)
    have hpn : prevOf es (i + 1) = some es[i] := List.getElem?_eq_getElem hi
    unfold toldFrom at hf
    walk_at "w"
    rw [hs]
    walk_at "w"
    rw [hat]
    walk_at "w"
    refine is_told_ok h n a cs es[i] hte _ (lst_app z hst) _ _ fun z2 => ?_
    rw [List.append_assoc]
    walk_at "w"
    cases e1 : isTold cs es[i] with
    | false =>
      rw [e1] at hf
      rw [if_neg (by decide)] at hf
      subst hf
      walk_at "w"
      rw [Int.zero_add]
      exact hQ _
    | true =>
      rw [e1, if_pos rfl] at hf
      walk_at "w"
      cases i with
      | zero => exact hK _ _ ⟨z ++ z2, _, rfl, rfl, by rw [hpn]; exact hf⟩
      | succ k =>
        have hk : k < es.length := by omega
        have hpk : prevOf es (k + 1) = some es[k] := List.getElem?_eq_getElem hk
        rw [hpk] at hf
        dsimp only at hf
        rw [show decide ((0 : Int) < 0 + ((k + 1 : Nat) : Int)) = true from decide_eq_true (by omega)]
        have hs2 : seqOf (st ++ (z ++ z2)) (.ref b) = some (es.map edD) := lst_app _ hb
        have hat2 : atI (es.map edD) (0 + ((k + 1 : Nat) : Int) - 1) = some (edD es[k]) := by
          rw [show (0 + ((k + 1 : Nat) : Int) - 1) = (k : Int) from by omega]
          exact L2.atI_nat (by rw [List.getElem?_map, List.getElem?_eq_getElem hk]; rfl)
        walk_at "w"
        rw [hs2]
        walk_at "w"
        rw [hat]
        walk_at "w"
        rw [hs2]
        walk_at "w"
        rw [hat2]
        walk_at "w"
        refine is_behind_ok h (n + 2) es[k + 1] es[k] _ _ _ ?_
        walk_at "w"
        cases e2 : isBehind es[k + 1] es[k] with
        | false =>
          rw [e2, if_neg (by decide)] at hf
          subst hf
          walk_at "w"
          rw [Int.zero_add]
          exact hQ _
        | true =>
          rw [e2, if_pos rfl] at hf
          exact hK _ _ ⟨z ++ z2, _, rfl, rfl, by rw [hpn]; exact hf⟩
  · rintro en st' ⟨z, o2, rfl, rfl, hf⟩
    walk_at "w"
    rw [len_lst (lst_app z hb), List.length_map]
    rw [List.drop_eq_nil_of_le (by simp)] at hf
    have : R = es.length := hf.symm.trans (by show ((es.length : Nat) : Int).toNat = _; omega)
    rw [this] at hQ
    exact hQ z
end
end TE

set_option Elab.async false
set_option linter.all false
set_option maxRecDepth 100000
set_option maxHeartbeats 2000000
set_option pp.maxSteps 1500
namespace TE
open PySem Q3 TK
open L2 (cutS atI)
local macro_rules | `(tactic| walk_at "w") => `(tactic| conv => whnf)
section
variable {p : Pr} {mi mm ml xe : Nat} (h : HasE p mi mm ml xe)
theorem due_len : ∀ (l g wd : List Nat) (b : Bool), (due l g wd b).1.length ≤ l.length + wd.length
  | [], g, wd, b => by
    unfold due
    split
    · simp
    · rename_i h
      have : 0 < wd.length := List.length_pos_iff.mpr h
      simp; omega
  | c :: r, g, wd, b => by
    unfold due
    have tp : ∀ (t : TK.Tok) (d : TK.Due), (pre [t] d).1.length = d.1.length + 1 := fun t d => by simp [pre]
    split
    · rename_i h0
      have : 0 < wd.length := List.length_pos_iff.mpr h0.1
      rw [tp]
      split
      · have := due_len r [c] [] ((b || c == 59) && c != 10)
        simp at this ⊢; omega
      · split
        · rw [tp]
          have := due_len r [] [] ((b || c == 59) && c != 10)
          simp at this ⊢; omega
        · have := due_len r [] [c] ((b || c == 59) && c != 10)
          simp at this ⊢; omega
    · split
      · have := due_len r (g ++ [c]) wd ((b || c == 59) && c != 10)
        simp at this ⊢; omega
      · split
        · rw [tp]
          have := due_len r [] wd ((b || c == 59) && c != 10)
          simp at this ⊢; omega
        · have := due_len r g (wd ++ [c]) ((b || c == 59) && c != 10)
          simp at this ⊢; omega
theorem tok_le (w : List Nat) : (tokL w).1.length ≤ w.length := by simpa using due_len w [] [] false
def layTo (pcs : List TK.Tok) : List (Nat × Ed) → Nat → Rw → Rw
  | [], a, r => r.lay (pcs.drop a)
  | q :: rest, a, r => layTo pcs rest (q.2.at_ + q.2.many).toNat ((((r.lay ((pcs.drop a).take (q.2.at_.toNat - a))).meet' q.1).lay (tokL q.2.text).1).meet' q.1)
def ownD (q : Nat × Ed) : D := .tup [.int q.1, edD q.2]
def okOwn (m T : Nat) (q : Nat × Ed) : Prop := 0 ≤ q.2.at_ ∧ 0 ≤ q.2.many ∧ q.2.at_ + q.2.many ≤ (m : Int) ∧ q.2.text.length ≤ T
theorem lay_pcs (r : Rw) (xs : List TK.Tok) : (r.lay xs).pcs = r.pcs ++ xs := by
  cases xs with
  | nil => simp [Rw.lay]
  | cons x xs => rfl
include h in
theorem init_ok (n : Nat) (st : Sto) (Q : KD) (X : KX) (hQ : ∀ st'', RS st st.length (st.length + 1) ⟨[], none, none⟩ st'' → Q .non st'') : callM p (n + 2) mi [.ref st.length] (st ++ [.ins k_Row []]) Q X := by
  refine callM_run h.hi rfl ?_
  have e1 : ∀ (o : O) (g : Sto), (st ++ [o] ++ g)[st.length]? = some o := fun o g => by rw [List.append_assoc]; simp
  have e2 : ∀ (o o' : O) (g : Sto), (st ++ [o] ++ g).set st.length o' = st ++ [o'] ++ g := fun o o' g => by rw [List.append_assoc, List.append_assoc]; simp
  walk_at "w"
  rw [e1]
  walk_at "w"
  rw [h.f1, e2]
  walk_at "w"
  rw [e1]
  walk_at "w"
  rw [h.f2, e2]
  walk_at "w"
  rw [e1]
  walk_at "w"
  rw [h.f3, e2]
  refine hQ _ ⟨⟨_, List.append_assoc _ _ _⟩, ?_, ?_, Nat.le_refl _, by omega⟩
  · rw [e1, show (st ++ [O.ins k_Row []]).length = st.length + 1 from by simp]; rfl
  · rw [List.getElem?_append_right (by simp)]; simp
abbrev bodyL : Ss := forB (drop 2 sLaidIn)
include h in
theorem laid_turn (n T : Nat) (hT : T ≤ 100000) {a : Nat} {pcs : List TK.Tok} {st : Sto} (hst : lstAt st a = some (pcs.map tokD)) {ra pa : Nat} {r : Rw} {st' : Sto} (R : RS st ra pa r st') {i : Nat} {q : Nat × Ed} (hq : okOwn pcs.length T q) (hl : r.pcs.length + pcs.length + T ≤ 100000) {o1 : Option D} {N : Nd} {Xs : KS}
    (hK : ∀ st'' o4 o5, RS st ra pa ((((r.lay ((pcs.drop i).take (q.2.at_.toNat - i))).meet' q.1).lay (tokL q.2.text).1).meet' q.1) st'' → N.nx [some (.ref a), o1, some (.ref ra), some (.int ((q.2.at_ + q.2.many).toNat : Nat)), o4, o5] st'') :
    wSs bodyL (p.cl (n + 3)) N Xs [some (.ref a), o1, some (.ref ra), some (.int (i : Int)), some (.int q.1), some (edD q.2)] st' := by
  obtain ⟨k, part, at_, many, text⟩ := q
  obtain ⟨q1, q2, q3, q4⟩ := hq
  dsimp only at q1 q2 q3 q4 hK
  obtain ⟨j, rfl⟩ : ∃ j : Nat, at_ = j := ⟨at_.toNat, by omega⟩
  obtain ⟨m, rfl⟩ : ∃ m : Nat, many = m := ⟨many.toNat, by omega⟩
  rw [show ((j : Int) + (m : Int)).toNat = j + m from by omega, show ((j : Nat) : Int).toNat = j from rfl] at hK
  unfold edD
  obtain ⟨E, hE⟩ := R.ex
  have ha : lstAt st' a = some (pcs.map tokD) := by rw [hE]; exact lst_app E hst
  have hi : ∀ {r : Rw} {s : Sto}, RS st ra pa r s → insAt s (.ref ra) = some (k_Row, [(n_pieces, .ref pa), (n_meeting, oD r.meet), (n_wrong, oD r.wrong)]) := fun {r s} R => by
    show (match s[ra]? with | some (.ins c fs) => some (c, fs) | _ => none) = _
    rw [R.ro]; rfl
  have hj : j ≤ (pcs.map tokD).length := by rw [List.length_map]; omega
  walk_at "w"
  rw [hi R]
  walk_at "w"
  rw [h.hml]
  walk_at "w"
  rw [ha]
  walk_at "w"
  rw [cutD_mid _ i j hj, ← List.map_drop, ← List.map_take]
  refine lay_ok h (n + 1) st'.length _ (R.app _) (lst_last _ _) (by rw [List.length_take, List.length_drop]; omega) ⟨_, at_last _ _⟩ _ _ fun s1 R1 => ?_
  walk_at "w"
  rw [hi R1]
  walk_at "w"
  rw [h.hmm]
  walk_at "w"
  refine meet_ok h (n + 2) k R1 _ _ fun s2 R2 => ?_
  walk_at "w"
  rw [hi R2]
  walk_at "w"
  rw [h.hml]
  walk_at "w"
  refine tokens_of_ok h.hk (n + 1) text (by omega) _ _ _ ?_
  walk_at "w"
  refine lay_ok h (n + 1) s2.length _ (R2.app _) (lst_last _ _) ?_ ⟨_, at_last _ _⟩ _ _ fun s3 R3 => ?_
  · have := tok_le text
    show (r.lay _).pcs.length + _ ≤ _
    rw [lay_pcs, List.length_append, List.length_take, List.length_drop]; omega
  walk_at "w"
  rw [hi R3]
  walk_at "w"
  rw [h.hmm]
  walk_at "w"
  refine meet_ok h (n + 2) k R3 _ _ fun s4 R4 => ?_
  walk_at "w"
  exact hK _ _ _ R4
include h in
theorem laid_loop (n T : Nat) (hT : T ≤ 100000) {a b : Nat} {pcs : List TK.Tok} {st : Sto} (hst : lstAt st a = some (pcs.map tokD)) {ra pa : Nat} {all : List D} (hb : lstAt st b = some all) {N : Nd} {Xs : KS} {K : En → Sto → Prop} : ∀ (own : List (Nat × Ed)) (i : Nat) (r : Rw) (st' : Sto) (o4 o5 : Option D), RS st ra pa r st' → (∀ q ∈ own, okOwn pcs.length T q) → r.pcs.length + (own.length + 1) * (pcs.length + T) ≤ 100000 →
    (∀ i'' r'' st'' o4 o5, r''.lay (pcs.drop i'') = layTo pcs own i r → r''.pcs.length + pcs.length ≤ 100000 → RS st ra pa r'' st'' → K [some (.ref a), some (.ref b), some (.ref ra), some (.int ((i'' : Nat) : Int)), o4, o5] st'') →
    loopF [(b, all)] (fun d K en1 st2 => match bindT (.tp [4, 5]) d en1 with
      | some en2 => wSs bodyL (p.cl (n + 3)) (N.lp K) Xs en2 st2
      | none => False) (own.map ownD) K [some (.ref a), some (.ref b), some (.ref ra), some (.int (i : Int)), o4, o5] st'
  | [], i, r, st', o4, o5, R, ho, hl, hK => by
    obtain ⟨E, hE⟩ := R.ex
    exact ⟨gOk_one (by rw [hE]; exact lst_app _ hb), hK i r st' o4 o5 rfl (by simp at hl; omega) R⟩
  | q :: own, i, r, st', o4, o5, R, ho, hl, hK => by
    obtain ⟨E, hE⟩ := R.ex
    refine ⟨gOk_one (by rw [hE]; exact lst_app _ hb), ?_⟩
    have hq := ho q List.mem_cons_self
    have hl2 : (((q :: own).length + 1) * (pcs.length + T)) = (own.length + 1) * (pcs.length + T) + (pcs.length + T) := by rw [List.length_cons, Nat.succ_mul (own.length + 1)]
    refine laid_turn h n T hT (N := Nd.lp _ _) hst R hq (by omega) fun st'' o4 o5 R' => ?_
    refine laid_loop n T hT hst hb own _ _ st'' o4 o5 R' (fun q h => ho q (List.mem_cons_of_mem _ h)) ?_ hK
    have := tok_le q.2.text
    obtain ⟨q1, q2, q3, q4⟩ := hq
    show (((r.lay _).meet' q.1).lay _).pcs.length + _ ≤ _
    rw [lay_pcs, List.length_append]
    show (r.lay _).pcs.length + _ + _ ≤ _
    rw [lay_pcs, List.length_append, List.length_take, List.length_drop]
    omega
include h in
theorem laid_in_ok (n T : Nat) (hT : T ≤ 100000) {a b : Nat} {pcs : List TK.Tok} {own : List (Nat × Ed)} {st : Sto} (hst : lstAt st a = some (pcs.map tokD)) (hb : lstAt st b = some (own.map ownD)) (ho : ∀ q ∈ own, okOwn pcs.length T q) (hl : (own.length + 1) * (pcs.length + T) ≤ 100000) (Q : KD) (X : KX)
    (hQ : ∀ pa E, st.length ≤ pa → lstAt (st ++ E) pa = some ((layTo pcs own 0 ⟨[], none, none⟩).pcs.map tokD) → Q (.tup [.ref pa, oD (layTo pcs own 0 ⟨[], none, none⟩).wrong]) (st ++ E)) : callN p (n + 4) 8 [.ref a, .ref b] st Q X := by
  refine callN_run h.h8 rfl ?_
  walk_at "w"
  rw [h.hc]
  refine init_ok h (n + 1) st _ _ fun s R => ⟨rfl, ?_⟩
  have hbs : lstAt s b = some (own.map ownD) := by
    obtain ⟨E, hE⟩ := R.ex
    rw [hE]; exact lst_app E hb
  walk_at "w"
  rw [hbs]
  refine laid_loop h n T hT hst hb own 0 _ s _ _ R ho (by simpa using hl) fun i r st' o4 o5 er hr R' => ?_
  obtain ⟨E, hE⟩ := R'.ex
  have ha : lstAt st' a = some (pcs.map tokD) := by rw [hE]; exact lst_app E hst
  have hi : ∀ {r : Rw} {s : Sto}, RS st st.length (st.length + 1) r s → insAt s (.ref st.length) = some (k_Row, [(n_pieces, .ref (st.length + 1)), (n_meeting, oD r.meet), (n_wrong, oD r.wrong)]) := fun {r s} R => by
    show (match s[st.length]? with | some (.ins c fs) => some (c, fs) | _ => none) = _
    rw [R.ro]; rfl
  walk_at "w"
  rw [hi R']
  walk_at "w"
  rw [h.hml]
  walk_at "w"
  rw [ha]
  walk_at "w"
  rw [cutD_from, ← List.map_drop]
  refine lay_ok h (n + 1) st'.length _ (R'.app _) (lst_last _ _) (by rw [List.length_drop]; omega) ⟨_, at_last _ _⟩ _ _ fun s1 R1 => ?_
  rw [er] at R1
  walk_at "w"
  rw [hi R1]
  walk_at "w"
  rw [h.f1]
  walk_at "w"
  rw [hi R1]
  walk_at "w"
  rw [h.f3]
  obtain ⟨E1, hE1⟩ := R1.ex
  walk_at "w"
  have := hQ (st.length + 1) E1 (by omega) (by rw [← hE1]; unfold lstAt; rw [R1.pi])
  rw [← hE1] at this
  exact this
end
end TE

set_option Elab.async false
set_option linter.all false
set_option maxRecDepth 100000
set_option maxHeartbeats 2000000
set_option pp.maxSteps 1500
namespace TE
open PySem Q3 TK
open L2 (cutS atI)
local macro_rules | `(tactic| walk_at "w") => `(tactic| conv => whnf)
section
variable {p : Pr} {mi mm ml xe : Nat} (h : HasE p mi mm ml xe)
theorem loopC_st {gs : List (Nat × List D)} {body : D → Sto → (Sto → Prop) → Prop} {K : Sto → Prop} {α : Type} {f : α → D} (I : List α → Sto → Prop) (all : List α) (hg : ∀ pre st, I pre st → gOk gs st)
    (hb : ∀ pre x post, all = pre ++ x :: post → ∀ K' st, I pre st → (∀ st', I (pre ++ [x]) st' → K' st') → body (f x) st K') (hK : ∀ st, I all st → K st) {st : Sto} (h : I [] st) : loopC gs body (all.map f) st K := by
  have go : ∀ (post pre : List α), all = pre ++ post → ∀ st, I pre st → loopC gs body (post.map f) st K := by
    intro post
    induction post with
    | nil => intro pre e st h; rw [List.append_nil] at e; subst e; exact ⟨hg _ _ h, hK st h⟩
    | cons x post ih =>
      intro pre e st h
      exact ⟨hg _ _ h, hb pre x post e _ st h fun st' h' => ih (pre ++ [x]) (by rw [e]; simp) st' h'⟩
  exact go all [] rfl st h
theorem cell_at (st E : Sto) (o : O) : (st ++ o :: E)[st.length]? = some o := by simp
theorem cell_set (st E : Sto) (o o' : O) : (st ++ o :: E).set st.length o' = st ++ o' :: E := by simp
abbrev Part := Str × List Nat
def partD (q : Part) : D := .tup [.str q.1, .str (Sx q.2)]
def tkD (q : Nat × Part) : D := .tup [.ref q.1, .str (Sx (tokL q.2.2).2)]
structure TokS (st : Sto) (pre : List Part) (as : List Nat) (E : Sto) : Prop where
  len : as.length = pre.length
  at_ : ∀ q ∈ as.zip pre, ∃ j, q.1 = st.length + 1 + j ∧ E[j]? = some (.lst ((tokL q.2.2).1.map tokD))
include h in
theorem tok_step (n : Nat) {st E : Sto} {pre : List Part} {as : List Nat} (S : TokS st pre as E) (x : Part) (hx : x.2.length ≤ 100000) (Q : KD) (X : KX)
    (hQ : ∀ a E', TokS st (pre ++ [x]) (as ++ [a]) E' → lstAt (st ++ .lst ((as.zip pre).map tkD) :: E') a = some ((tokL x.2).1.map tokD) → Q (tkD (a, x)) (st ++ .lst ((as.zip pre).map tkD) :: E')) : callN p (n + 2) 2 [.str (Sx x.2)] (st ++ .lst ((as.zip pre).map tkD) :: E) Q X := by
  refine tokens_of_ok h.hk n x.2 hx _ _ _ ?_
  rw [List.append_assoc, List.cons_append]
  have hlen : (st ++ O.lst ((as.zip pre).map tkD) :: E).length = st.length + 1 + E.length := by simp; omega
  have S' : TokS st (pre ++ [x]) (as ++ [st.length + 1 + E.length]) (E ++ [.lst ((tokL x.2).1.map tokD)]) := by
    refine ⟨by simp [S.len], fun q hq => ?_⟩
    rw [List.zip_append S.len, List.mem_append] at hq
    rcases hq with hq | hq
    · obtain ⟨j, e1, e2⟩ := S.at_ q hq
      exact ⟨j, e1, get_app _ e2⟩
    · simp at hq
      subst hq
      exact ⟨E.length, rfl, at_last _ _⟩
  rw [hlen]
  refine hQ _ _ S' ?_
  unfold lstAt
  rw [← hlen, ← List.cons_append, ← List.append_assoc, at_last]
include h in
theorem toks_edited (n : Nat) (prog : List Part) (hp : ∀ q ∈ prog, q.2.length ≤ 100000) (hpl : prog.length ≤ 100000) (st : Sto) (en : En) (K : Sto → Prop) (Xs : KX) (hen : 11 < en.length)
    (hK : ∀ as E, TokS st prog as E → K (st ++ .lst ((as.zip prog).map tkD) :: E)) :
    loopC [] (fun d st2 K => match bindT (.tp [10, 11]) d (wipeE en [10, 11]) with
        | some en' => wT (p.cl (n + 2)) .yes en' st2 (fun t st3 => Br t (wE (p.cl (n + 2)) (.call 2 (.cons (.var 11) .nil)) en' st3 (fun y st4 => match st4[st.length]? with
            | some (.lst acc) => acc.length < Lm ∧ K (st4.set st.length (.lst (acc ++ [y])))
            | _ => False) noX) (K st3)) noX
        | none => False) (prog.map partD) (st ++ [.lst []]) K := by
  refine loopC_st (fun pre st' => ∃ as E, TokS st pre as E ∧ st' = st ++ .lst ((as.zip pre).map tkD) :: E) prog (fun _ _ _ => gOk_nil) ?_ ?_ ⟨[], [], ⟨rfl, fun q hq => by simp at hq⟩, rfl⟩
  · rintro pre x post e K' _ ⟨as, E, S, rfl⟩ hK'
    have hx : x.2.length ≤ 100000 := hp x (by rw [e]; simp)
    have h11 : ∀ en : En, 11 < en.length → (((wipeE en [10, 11]).set 10 (some (D.str x.1))).set 11 (some (D.str (Sx x.2))))[11]? = some (some (D.str (Sx x.2))) := fun en he => by
      rw [List.getElem?_set_self]
      show 11 < ((((en.set 11 none).set 10 none)).set 10 _).length
      simp only [List.length_set]; exact he
    show wE (p.cl (n + 2)) (.call 2 (.cons (.var 11) .nil)) _ _ _ _
    show (match (((wipeE en [10, 11]).set 10 (some (D.str x.1))).set 11 (some (D.str (Sx x.2))))[11]? with
      | some (some d) => _
      | _ => False)
    rw [h11 en hen]
    refine tok_step h n S x hx _ _ fun a E' S' hl => ?_
    show (match (st ++ O.lst ((as.zip pre).map tkD) :: E')[st.length]? with
      | some (.lst acc) => acc.length < Lm ∧ K' ((st ++ O.lst ((as.zip pre).map tkD) :: E').set st.length (.lst (acc ++ [tkD (a, x)])))
      | _ => False)
    rw [cell_at]
    have hle : as.length = pre.length := S.len
    have hpp : pre.length < prog.length := by rw [e]; simp
    refine ⟨by show ((as.zip pre).map tkD).length < 16777216; rw [List.length_map, List.length_zip]; omega, ?_⟩
    rw [cell_set]
    refine hK' _ ⟨as ++ [a], E', S', ?_⟩
    rw [List.zip_append S.len, List.map_append]
    rfl
  · rintro _ ⟨as, E, S, rfl⟩
    exact hK as E S
end
end TE

set_option Elab.async false
set_option linter.all false
set_option maxRecDepth 100000
set_option maxHeartbeats 2000000
set_option pp.maxSteps 1500
namespace TE
open PySem Q3 TK
open L2 (cutS atI)
local macro_rules | `(tactic| walk_at "w") => `(tactic| conv => whnf)
section
variable {p : Pr} {mi mm ml xe : Nat} (h : HasE p mi mm ml xe)
def ownOf (es : List Ed) (M k : Nat) : List (Nat × Ed) := (List.range M).filterMap fun i => match es[i]? with
  | some e => if e.part = (k : Int) then some (i, e) else none
  | none => none
def laidK (es : List Ed) (M k : Nat) (w : List Nat) : Rw := layTo (tokL w).1 (ownOf es M k) 0 ⟨[], none, none⟩
structure EP (st : Sto) (pa pb : Nat) (ps : List D) (wr : List Nat) (st' : Sto) : Prop where
  ex : ∃ E, st' = st ++ E
  a : st'[pa]? = some (.lst ps)
  b : st'[pb]? = some (.lst (cntD wr))
  ne : pa ≠ pb
  ga : st.length ≤ pa
  gb : st.length ≤ pb
theorem EP.app {st st' : Sto} {pa pb : Nat} {ps : List D} {wr : List Nat} (R : EP st pa pb ps wr st') (e : Sto) : EP st pa pb ps wr (st' ++ e) := by
  obtain ⟨E, hE⟩ := R.ex
  exact ⟨⟨E ++ e, by rw [hE, List.append_assoc]⟩, get_app e R.a, get_app e R.b, R.ne, R.ga, R.gb⟩
theorem EP.putA {st st' : Sto} {pa pb : Nat} {ps : List D} {wr : List Nat} (R : EP st pa pb ps wr st') (d : D) : EP st pa pb (ps ++ [d]) wr (st'.set pa (.lst (ps ++ [d]))) := by
  obtain ⟨E, hE⟩ := R.ex
  refine ⟨⟨E.set (pa - st.length) (.lst (ps ++ [d])), by rw [hE, List.set_append_right (s := st) _ _ R.ga]⟩, ?_, ?_, R.ne, R.ga, R.gb⟩
  · exact List.getElem?_set_self (List.getElem?_eq_some_iff.mp R.a).1
  · rw [List.getElem?_set_ne R.ne]; exact R.b
theorem EP.putB {st st' : Sto} {pa pb : Nat} {ps : List D} {wr : List Nat} (R : EP st pa pb ps wr st') (k : Nat) : EP st pa pb ps (wr ++ [k]) (st'.set pb (.lst (cntD wr ++ [.int (k : Nat)]))) := by
  obtain ⟨E, hE⟩ := R.ex
  refine ⟨⟨E.set (pb - st.length) (.lst (cntD wr ++ [.int (k : Nat)])), by rw [hE, List.set_append_right (s := st) _ _ R.gb]⟩, ?_, ?_, R.ne, R.ga, R.gb⟩
  · rw [List.getElem?_set_ne (Ne.symm R.ne)]; exact R.a
  · rw [List.getElem?_set_self (List.getElem?_eq_some_iff.mp R.b).1, show cntD (wr ++ [k]) = cntD wr ++ [.int (k : Nat)] from by simp [cntD]]
theorem EP.lst {st st' : Sto} {pa pb : Nat} {ps : List D} {wr : List Nat} (R : EP st pa pb ps wr st') {x : Nat} {v : List D} (h : lstAt st x = some v) (e : Sto) : lstAt (st' ++ e) x = some v := by
  obtain ⟨E, hE⟩ := R.ex
  rw [hE]; exact lst_app _ (lst_app _ h)
abbrev bodyE (xe : Nat) : Ss := forB (drop 4 (sEdited xe))
def partOut (q : Part) (r : Rw) : D := .tup [.str q.1, .str (Sx (toksTxt r.pcs ++ (tokL q.2).2))]
include h in
theorem edited_turn (n T : Nat) (hT : T ≤ 100000) {b c M k pa pb : Nat} {prog : List Part} {es : List Ed} {as : List Nat} {st st' : Sto} {ps : List D} {wr : List Nat}
    (hb : lstAt st b = some (es.map edD)) (hc : lstAt st c = some ((as.zip prog).map tkD)) (ht : ∀ q ∈ as.zip prog, lstAt st q.1 = some ((tokL q.2.2).1.map tokD)) (has : as.length = prog.length)
    {Mi : Int} (hMi : (M : Int) = Mi) (hM : M ≤ es.length) (hes : es.length ≤ 10000) (hk : k < prog.length) (hpl : ps.length ≤ 10000) (hwl : wr.length ≤ 10000)
    (hown : ∀ q ∈ ownOf es M k, okOwn (tokL prog[k].2).1.length T q) (hl : ((ownOf es M k).length + 1) * ((tokL prog[k].2).1.length + T) ≤ 100000)
    (hx : (toksTxt (laidK es M k prog[k].2).pcs).length ≤ 100000 ∧ (laidK es M k prog[k].2).pcs.length ≤ 100000 ∧ (tokL prog[k].2).2.length ≤ 100000)
    (R : EP st pa pb ps wr st') {N : Nd} {Xs : KS} {o0 o7 o8 o9 o10 o11 o12 o13 : Option D}
    (h0 : o0 = some (.tup (prog.map partD)))
    (hK : ∀ st'' o7 o8 o9, EP st pa pb (ps ++ [partOut prog[k] (laidK es M k prog[k].2)]) (wr ++ (laidK es M k prog[k].2).wrong.toList) st'' → N.nx [some (.tup (prog.map partD)), some (.ref b), some (.ref c), some (.int Mi), some (.ref pa), some (.ref pb), some (.int (0 + (k : Int))), o7, o8, o9, o10, o11, o12, o13] st'') :
    wSs (bodyE xe) (p.cl (n + 4)) N Xs [o0, some (.ref b), some (.ref c), some (.int Mi), some (.ref pa), some (.ref pb), some (.int (0 + (k : Int))), o7, o8, o9, o10, o11, o12, o13] st' := by
  subst h0
  have hbs : ∀ e, seqOf (st' ++ e) (.ref b) = some (es.map edD) := fun e => R.lst hb e
  have hka : k < as.length := by omega
  have hz : (as.zip prog)[k]? = some (as[k], prog[k]) := by rw [List.getElem?_eq_getElem (by simp; omega), List.getElem_zip]
  have hzm : (as[k], prog[k]) ∈ as.zip prog := List.mem_of_getElem? hz
  have hcs : ∀ e, seqOf (st' ++ e) (.ref c) = some ((as.zip prog).map tkD) := fun e => R.lst hc e
  have hck : atI ((as.zip prog).map tkD) (0 + (k : Int)) = some (tkD (as[k], prog[k])) := by
    rw [Int.zero_add]; exact L2.atI_nat (by rw [List.getElem?_map, hz]; rfl)
  have hpk : atI (prog.map partD) (0 + (k : Int)) = some (partD prog[k]) := by
    rw [Int.zero_add]; exact L2.atI_nat (by rw [List.getElem?_map, List.getElem?_eq_getElem hk]; rfl)
  walk_at "w"
  rw [dec62_mk (i := Mi) (by omega) (by omega)]
  walk_at "w"
  rw [rngL_eq]
  refine loopC_map (fun (i : Nat) => match es[i]? with
    | some e => if e.part = (k : Int) then some (ownD (i, e)) else none
    | none => none) (fun _ => gOk_nil) (List.range (Mi.toNat)) [] (fun i hi acc K' hK' hacc => ?_) (by simp; show _ ≤ 16777216; omega) ?_
  · have hi : i < es.length := by have := List.mem_range.mp hi; omega
    have hat : atI (es.map edD) (0 + (i : Int)) = some (edD es[i]) := by
      rw [Int.zero_add]
      exact L2.atI_nat (by rw [List.getElem?_map, List.getElem?_eq_getElem hi]; rfl)
    rw [List.getElem?_eq_getElem hi] at hK'
    dsimp only at hK'
    walk_at "w"
    rw [hbs]
    walk_at "w"
    rw [hat]
    walk_at "w"
    by_cases h1 : es[i].part = (k : Int)
    · rw [show decide (es[i].part = 0 + (k : Int)) = true from decide_eq_true (by rw [h1]; omega)]
      rw [if_pos h1] at hK'
      walk_at "w"
      rw [hbs]
      walk_at "w"
      rw [hat]
      walk_at "w"
      rw [at_last]
      refine ⟨hacc, ?_⟩
      rw [set_last]
      have := hK' hacc
      rw [show ownD (i, es[i]) = .tup [.int (0 + (i : Int)), edD es[i]] from by rw [Int.zero_add]; rfl] at this
      exact this
    · rw [show decide (es[i].part = 0 + (k : Int)) = false from decide_eq_false (by intro z; exact h1 (by omega))]
      rw [if_neg h1] at hK'
      exact hK'
  · rw [List.nil_append, show (List.range (Mi.toNat)).filterMap (fun (i : Nat) => match es[i]? with
      | some e => if e.part = (k : Int) then some (ownD (i, e)) else none
      | none => none) = (ownOf es M k).map ownD from ?_]
    · walk_at "w"
      rw [hcs]
      walk_at "w"
      rw [hck]
      walk_at "w"
      refine laid_in_ok h n T hT (R.lst (ht _ hzm) _) (lst_last _ _) hown hl _ _ fun pa' E' hge hpc => ?_
      unfold laidK at hx hK
      generalize layTo (tokL prog[k].2).1 (ownOf es M k) 0 ⟨[], none, none⟩ = L at hpc hx hK ⊢
      have R1 : EP st pa pb ps wr (st' ++ [O.lst ((ownOf es M k).map ownD)] ++ E') := (R.app _).app _
      have hc1 : seqOf (st' ++ [O.lst ((ownOf es M k).map ownD)] ++ E') (.ref c) = some ((as.zip prog).map tkD) := by rw [List.append_assoc]; exact hcs _
      have fin : ∀ (s2 : Sto) (wr' : List Nat) (o7 o9 : Option D), EP st pa pb ps wr' s2 → lstAt s2 pa' = some (L.pcs.map tokD) → (∀ st'' o7 o8 o9, EP st pa pb (ps ++ [partOut prog[k] L]) wr' st'' → N.nx [some (.tup (prog.map partD)), some (.ref b), some (.ref c), some (.int Mi), some (.ref pa), some (.ref pb), some (.int (0 + (k : Int))), o7, o8, o9, o10, o11, o12, o13] st'') →
          wSs (drop 3 (bodyE xe)) (p.cl (n + 4)) N Xs [some (.tup (prog.map partD)), some (.ref b), some (.ref c), some (.int Mi), some (.ref pa), some (.ref pb), some (.int (0 + (k : Int))), o7, some (.ref pa'), o9, o10, o11, o12, o13] s2 := by
        intro s2 wr' o7 o9 R2 hp2 hK2
        have hpa : lstAt s2 pa = some ps := by unfold lstAt; rw [R2.a]
        have hc2 : seqOf s2 (.ref c) = some ((as.zip prog).map tkD) := by have := R2.lst hc []; rwa [List.append_nil] at this
        walk_at "w"
        rw [mtOk_lst rfl hpa]
        walk_at "w"
        rw [hpk]
        walk_at "w"
        rw [hc2]
        walk_at "w"
        rw [hck]
        walk_at "w"
        refine text_of_ok h.h3 (n + 3) L.pcs (tokL prog[k].2).2 pa' hx.1 hx.2.2 hx.2.1 s2 hp2 _ _ fun e => ?_
        have R3 := R2.app e
        walk_at "w"
        rw [R3.a]
        refine ⟨by show ps.length < 16777216; omega, ?_⟩
        exact hK2 _ _ _ _ (R3.putA _)
      have hpb : lstAt (st' ++ [O.lst ((ownOf es M k).map ownD)] ++ E') pb = some (cntD wr) := by unfold lstAt; rw [R1.b]
      have hne : pb ≠ pa' := by
        have := (List.getElem?_eq_some_iff.mp R.b).1
        intro z
        rw [List.length_append] at hge
        omega
      cases hw : L.wrong with
      | none =>
        rw [hw] at hK
        exact fin _ wr _ _ R1 hpc (by simpa using hK)
      | some j =>
        rw [hw] at hK
        walk_at "w"
        rw [mtOk_lst rfl hpb]
        walk_at "w"
        rw [R1.b]
        refine ⟨by show (cntD wr).length < 16777216; rw [List.length_map]; omega, ?_⟩
        refine fin _ (wr ++ [j]) _ _ (R1.putB j) ?_ (by simpa using hK)
        unfold lstAt
        rw [List.getElem?_set_ne hne]
        exact hpc
    · rw [← hMi, Int.toNat_natCast]
      unfold ownOf
      rw [List.map_filterMap]
      congr 1
      funext i
      cases es[i]? with
      | none => rfl
      | some e =>
        dsimp only
        split <;> rfl
end
end TE

set_option Elab.async false
set_option linter.all false
set_option maxRecDepth 100000
set_option maxHeartbeats 2000000
set_option pp.maxSteps 1500
namespace TE
open PySem Q3 TK
open L2 (cutS atI)
local macro_rules | `(tactic| walk_at "w") => `(tactic| conv => whnf)
section
variable {p : Pr} {mi mm ml xe : Nat} (h : HasE p mi mm ml xe)
theorem txt_le (w : List Nat) : (toksTxt (tokL w).1).length + (tokL w).2.length ≤ w.length := by
  have := congrArg List.length (due_txt w [] [] false)
  simp only [List.length_append, List.nil_append] at this
  exact Nat.le_of_eq this
theorem txt_app (a b : List TK.Tok) : (toksTxt (a ++ b)).length = (toksTxt a).length + (toksTxt b).length := by
  unfold toksTxt; simp
theorem txt_sub {a b : List TK.Tok} (h : a.Sublist b) : (toksTxt a).length ≤ (toksTxt b).length := by
  have c : ∀ (t : TK.Tok) (r : List TK.Tok), (toksTxt (t :: r)).length = (t.1.length + t.2.length) + (toksTxt r).length := fun t r => by simp [toksTxt]; omega
  induction h with
  | slnil => exact Nat.le_refl _
  | cons t _ ih => rw [c]; omega
  | cons_cons t _ ih => rw [c, c]; omega
theorem layTo_len {pcs : List TK.Tok} {P T : Nat} (hp : (toksTxt pcs).length ≤ P ∧ pcs.length ≤ P) : ∀ (own : List (Nat × Ed)) (a : Nat) (r : Rw), (∀ q ∈ own, q.2.text.length ≤ T) →
    (toksTxt (layTo pcs own a r).pcs).length ≤ (toksTxt r.pcs).length + (own.length + 1) * (P + T) ∧ (layTo pcs own a r).pcs.length ≤ r.pcs.length + (own.length + 1) * (P + T)
  | [], a, r, _ => by
    unfold layTo
    rw [lay_pcs, txt_app, List.length_append, List.length_drop]
    have := txt_sub (List.drop_sublist a pcs)
    simp
    omega
  | q :: own, a, r, ho => by
    unfold layTo
    have ih := layTo_len hp own (q.2.at_ + q.2.many).toNat ((((r.lay ((pcs.drop a).take (q.2.at_.toNat - a))).meet' q.1).lay (tokL q.2.text).1).meet' q.1) (fun q h => ho q (List.mem_cons_of_mem _ h))
    have e : ((((r.lay ((pcs.drop a).take (q.2.at_.toNat - a))).meet' q.1).lay (tokL q.2.text).1).meet' q.1).pcs = r.pcs ++ (pcs.drop a).take (q.2.at_.toNat - a) ++ (tokL q.2.text).1 := by
      show (((r.lay _).meet' q.1).lay _).pcs = _
      rw [lay_pcs]
      show (r.lay _).pcs ++ _ = _
      rw [lay_pcs]
    rw [e, txt_app, txt_app, List.length_append, List.length_append] at ih
    have h1 := txt_sub ((List.take_sublist (q.2.at_.toNat - a) (pcs.drop a)).trans (List.drop_sublist a pcs))
    have h2 := txt_le q.2.text
    have h3 := tok_le q.2.text
    have h4 := ho q List.mem_cons_self
    have h5 : ((pcs.drop a).take (q.2.at_.toNat - a)).length ≤ pcs.length := by rw [List.length_take, List.length_drop]; omega
    have hl2 : (((q :: own).length + 1) * (P + T)) = (own.length + 1) * (P + T) + (P + T) := by rw [List.length_cons, Nat.succ_mul (own.length + 1)]
    rw [hl2]
    omega
theorem toldFrom_le (cs : List Nat) : ∀ (es : List Ed) (prev : Option Ed) (k : Nat), toldFrom cs prev es k ≤ k + es.length ∧ k ≤ toldFrom cs prev es k
  | [], prev, k => by unfold toldFrom; simp
  | e :: r, prev, k => by
    have ih := toldFrom_le cs r (some e) (k + 1)
    rw [List.length_cons]
    unfold toldFrom
    repeat' split
    all_goals omega
theorem toldFrom_told (cs : List Nat) : ∀ (es : List Ed) (prev : Option Ed) (k i : Nat) (e : Ed), es[i]? = some e → k + i < toldFrom cs prev es k → isTold cs e = true
  | [], prev, k, i, e, h, _ => by simp at h
  | e0 :: r, prev, k, i, e, h, hi => by
    unfold toldFrom at hi
    cases i with
    | zero =>
      simp at h
      subst h
      split at hi
      · assumption
      · omega
    | succ i =>
      simp at h
      split at hi
      · split at hi
        · split at hi
          · exact toldFrom_told cs r (some e0) (k + 1) i e h (by omega)
          · omega
        · exact toldFrom_told cs r (some e0) (k + 1) i e h (by omega)
      · omega
theorem isTold_iff {cs : List Nat} {e : Ed} (h : isTold cs e = true) {k : Nat} (hk : e.part = (k : Int)) : ∃ c, cs[k]? = some c ∧ 0 ≤ e.at_ ∧ 0 ≤ e.many ∧ e.at_ + e.many ≤ (c : Int) := by
  unfold isTold at h
  rw [hk, show ((k : Nat) : Int).toNat = k from rfl] at h
  simp only [Bool.and_eq_true, Bool.not_eq_true', decide_eq_false_iff_not] at h
  obtain ⟨⟨_, _, h1, h2, h3⟩, _⟩ := h
  cases hc : cs[k]? with
  | none => rw [hc] at h3; cases h3
  | some c =>
    rw [hc] at h3
    simp only [Bool.not_eq_true', decide_eq_false_iff_not] at h3
    exact ⟨c, rfl, by omega, by omega, by omega⟩
theorem own_mem {es : List Ed} {M k : Nat} {q : Nat × Ed} (h : q ∈ ownOf es M k) : q.1 < M ∧ es[q.1]? = some q.2 ∧ q.2.part = (k : Int) := by
  unfold ownOf at h
  rw [List.mem_filterMap] at h
  obtain ⟨i, hi, he⟩ := h
  split at he
  · rename_i e hei
    split at he
    · rename_i hp
      cases he
      exact ⟨List.mem_range.mp hi, hei, hp⟩
    · cases he
  · cases he
theorem own_len (es : List Ed) (M k : Nat) : (ownOf es M k).length ≤ M := by
  unfold ownOf
  have := List.length_filterMap_le (fun i => match es[i]? with
  | some e => if e.part = (k : Int) then some (i, e) else none
  | none => none) (List.range M)
  rwa [List.length_range] at this
def csOf (prog : List Part) : List Nat := prog.map fun q => (tokL q.2).1.length
def mOf (prog : List Part) (es : List Ed) : Nat := toldFrom (csOf prog) none es 0
def outs (es : List Ed) (M : Nat) : List Part → Nat → List D
  | [], _ => []
  | q :: r, k => partOut q (laidK es M k q.2) :: outs es M r (k + 1)
def wrs (es : List Ed) (M : Nat) : List Part → Nat → List Nat
  | [], _ => []
  | q :: r, k => (laidK es M k q.2).wrong.toList ++ wrs es M r (k + 1)
def wrAll (prog : List Part) (es : List Ed) : List Nat := wrs es (mOf prog es) prog 0 ++ (if mOf prog es < es.length then [mOf prog es] else [])
structure OkE (P T : Nat) (prog : List Part) (es : List Ed) : Prop where
  hp : ∀ q ∈ prog, q.2.length ≤ P
  he : ∀ e ∈ es, e.text.length ≤ T
  hl : (es.length + 1) * (P + T) ≤ 100000
  hn : prog.length ≤ 1000
  hT : 0 < T
theorem OkE.own {P T : Nat} {prog : List Part} {es : List Ed} (O : OkE P T prog es) {k : Nat} (hk : k < prog.length) :
    (∀ q ∈ ownOf es (mOf prog es) k, okOwn (tokL prog[k].2).1.length T q) ∧ ((ownOf es (mOf prog es) k).length + 1) * ((tokL prog[k].2).1.length + T) ≤ 100000 ∧
    ((toksTxt (laidK es (mOf prog es) k prog[k].2).pcs).length ≤ 100000 ∧ (laidK es (mOf prog es) k prog[k].2).pcs.length ≤ 100000 ∧ (tokL prog[k].2).2.length ≤ 100000) := by
  have hw := O.hp _ (List.getElem_mem hk)
  have hM := (toldFrom_le (csOf prog) es none 0).1
  have hol := own_len es (mOf prog es) k
  have h1 := tok_le prog[k].2
  have h2 := txt_le prog[k].2
  have hmem : ∀ q ∈ ownOf es (mOf prog es) k, q.2.text.length ≤ T := fun q hq => O.he _ (List.mem_of_getElem? (own_mem hq).2.1)
  have hb : ((ownOf es (mOf prog es) k).length + 1) * (P + T) ≤ 100000 := Nat.le_trans (Nat.mul_le_mul_right _ (by unfold mOf at hol ⊢; omega)) O.hl
  refine ⟨fun q hq => ?_, Nat.le_trans (Nat.mul_le_mul_left _ (by omega)) hb, ?_⟩
  · obtain ⟨m1, m2, m3⟩ := own_mem hq
    have ht := toldFrom_told (csOf prog) es none 0 q.1 q.2 m2 (by unfold mOf at m1; omega)
    obtain ⟨c, c1, c2, c3, c4⟩ := isTold_iff ht m3
    unfold csOf at c1
    rw [List.getElem?_map, List.getElem?_eq_getElem hk] at c1
    cases c1
    exact ⟨c2, c3, c4, hmem q hq⟩
  · have := layTo_len (pcs := (tokL prog[k].2).1) (P := P) (T := T) ⟨by omega, by omega⟩ (ownOf es (mOf prog es) k) 0 ⟨[], none, none⟩ hmem
    unfold laidK
    simp only [toksTxt, List.map_nil, List.flatten_nil, List.length_nil, Nat.zero_add] at this
    unfold toksTxt
    have hPT : P ≤ (es.length + 1) * (P + T) := Nat.le_trans (Nat.le_add_right P T) (Nat.le_mul_of_pos_left _ (by omega))
    have := O.hl
    omega
end
end TE

set_option Elab.async false
set_option linter.all false
set_option maxRecDepth 100000
set_option maxHeartbeats 2000000
set_option pp.maxSteps 1500
namespace TE
open PySem Q3 TK
open L2 (cutS atI)
local macro_rules | `(tactic| walk_at "w") => `(tactic| conv => whnf)
section
variable {p : Pr} {mi mm ml xe : Nat} (h : HasE p mi mm ml xe)
theorem intsOf_map : ∀ l : List Int, intsOf (l.map D.int) = some l
  | [] => rfl
  | i :: r => by
    show (intsOf (r.map D.int)).map (i :: ·) = _
    rw [intsOf_map r]; rfl
include h in
theorem edited_ok (n P T : Nat) (hP : P ≤ 100000) (hT : T ≤ 100000) {prog : List Part} {es : List Ed} (OE : OkE P T prog es) {b : Nat} {st : Sto} (hb : lstAt st b = some (es.map edD)) (hes : es.length ≤ 10000) (Q : KD) (X : KX)
    (hQ : wrAll prog es = [] → ∀ e, Q (.tup (outs es (mOf prog es) prog 0)) (st ++ e))
    (hX : wrAll prog es ≠ [] → ∀ e, X xe [(Str.ofString "number", .int (minI ((wrAll prog es).map fun (k : Nat) => (k : Int))))] (st ++ e)) : callN p (n + 5) 9 [.tup (prog.map partD), .ref b] st Q X := by
  refine callN_run h.h9 rfl ?_
  walk_at "w"
  refine toks_edited h (n + 2) prog (fun q hq => Nat.le_trans (OE.hp q hq) hP) (Nat.le_trans OE.hn (by omega)) st _ _ noX (show 11 < 14 by decide) fun as E S => ?_
  have hc : lstAt (st ++ O.lst ((as.zip prog).map tkD) :: E) st.length = some ((as.zip prog).map tkD) := by unfold lstAt; rw [cell_at]
  have ht : ∀ q ∈ as.zip prog, lstAt (st ++ O.lst ((as.zip prog).map tkD) :: E) q.1 = some ((tokL q.2.2).1.map tokD) := fun q hq => by
    obtain ⟨j, e1, e2⟩ := S.at_ q hq
    unfold lstAt
    rw [e1, List.getElem?_append_right (by omega), show st.length + 1 + j - st.length = j + 1 from by omega, List.getElem?_cons_succ, e2]
  have hb1 : lstAt (st ++ O.lst ((as.zip prog).map tkD) :: E) b = some (es.map edD) := lst_app _ hb
  have has := S.len
  generalize hst1 : st ++ O.lst ((as.zip prog).map tkD) :: E = st1 at hc ht hb1 ⊢
  walk_at "w"
  rw [hc]
  refine loopC_map (fun q => some (.int (tokL q.2.2).1.length)) (fun acc => gOk_one (lst_app _ hc)) (as.zip prog) [] (fun q hq acc K' hK' hacc => ?_) (by simp; have := OE.hn; show _ ≤ 16777216; omega) ?_
  · dsimp only at hK'
    walk_at "w"
    rw [len_lst (lst_app _ (ht q hq))]
    walk_at "w"
    rw [at_last]
    refine ⟨hacc, ?_⟩
    rw [set_last, List.length_map]
    exact hK' hacc
  · rw [List.nil_append, show (as.zip prog).filterMap (fun q => some (D.int ((tokL q.2.2).1.length : Nat))) = cntD (csOf prog) from ?_]
    · walk_at "w"
      refine told_first_ok h n st1.length b (csOf prog) es (fun e he => Nat.le_trans (OE.he e he) hT) (by omega) _ (lst_last _ _) (lst_app _ hb1) _ _ fun z => ?_
      have hM := toldFrom_le (csOf prog) es none 0
      obtain ⟨Mi, hMi⟩ : ∃ Mi : Int, ((toldFrom (csOf prog) none es 0 : Nat) : Int) = Mi := ⟨_, rfl⟩
      rw [hMi]
      have hc3 : lstAt (st1 ++ [O.lst (cntD (csOf prog))] ++ z) st.length = some ((as.zip prog).map tkD) := lst_app _ (lst_app _ hc)
      have ht3 : ∀ q ∈ as.zip prog, lstAt (st1 ++ [O.lst (cntD (csOf prog))] ++ z) q.1 = some ((tokL q.2.2).1.map tokD) := fun q hq => lst_app _ (lst_app _ (ht q hq))
      have hb3 : lstAt (st1 ++ [O.lst (cntD (csOf prog))] ++ z) b = some (es.map edD) := lst_app _ (lst_app _ hb1)
      obtain ⟨E3, hE3⟩ : ∃ E3, st1 ++ [O.lst (cntD (csOf prog))] ++ z = st ++ E3 := ⟨_, by rw [← hst1, List.append_assoc, List.append_assoc]⟩
      generalize st1 ++ [O.lst (cntD (csOf prog))] ++ z = st3 at hc3 ht3 hb3 hE3 ⊢
      walk_at "w"
      rw [dec62_mk (by rw [List.length_map]; have := OE.hn; omega) (by rw [List.length_map]; have := OE.hn; omega)]
      have R0 : EP st3 st3.length (st3 ++ [O.lst []]).length [] [] (st3 ++ [O.lst []] ++ [O.lst []]) := by
        refine ⟨⟨[.lst [], .lst []], by simp⟩, by simp, by simp, by simp, Nat.le_refl _, by simp⟩
      refine loopF_rng (fun i en st' => ∃ ps wr o7 o8 o9, EP st3 st3.length (st3 ++ [O.lst []]).length ps wr st' ∧ ps.length ≤ i ∧ wr.length ≤ i ∧ ps ++ outs es (mOf prog es) (prog.drop i) i = outs es (mOf prog es) prog 0 ∧ wr ++ wrs es (mOf prog es) (prog.drop i) i = wrs es (mOf prog es) prog 0 ∧ ∃ o6, en = [some (.tup (prog.map partD)), some (.ref b), some (.ref st.length), some (.int Mi), some (.ref st3.length), some (.ref (st3 ++ [O.lst []]).length), o6, o7, o8, o9, none, none, none, none]) (fun _ _ _ _ => gOk_nil) ?_ ?_ ⟨[], [], none, none, none, R0, Nat.le_refl _, Nat.le_refl _, rfl, rfl, none, rfl⟩
      · rintro i hi K' en st' ⟨ps, wr, o7, o8, o9, R, hpl, hwl, hps, hwr, o6, rfl⟩ hK
        have hi : i < prog.length := by simpa using hi
        have hd : prog.drop i = prog[i] :: prog.drop (i + 1) := List.drop_eq_getElem_cons hi
        rw [hd] at hps hwr
        obtain ⟨g1, g2, g3⟩ := OE.own hi
        have hnn := OE.hn
        refine edited_turn h n T hT (N := Nd.lp _ _) hb3 hc3 ht3 has hMi (by omega) hes hi (by omega) (by omega) g1 g2 g3 R rfl fun st'' o7 o8 o9 R' => ?_
        refine hK _ _ ⟨_, _, o7, o8, o9, R', by rw [List.length_append]; show _ + 1 ≤ _; omega, ?_, ?_, ?_, _, rfl⟩
        · rw [List.length_append]
          have : (laidK es (toldFrom (csOf prog) none es 0) i prog[i].2).wrong.toList.length ≤ 1 := by cases (laidK es (toldFrom (csOf prog) none es 0) i prog[i].2).wrong <;> simp
          omega
        · rw [List.append_assoc]; exact hps
        · rw [List.append_assoc]; exact hwr
      · rintro en st' ⟨ps, wr, o7, o8, o9, R, hpl, hwl, hps, hwr, o6, rfl⟩
        rw [List.drop_eq_nil_of_le (by simp)] at hps hwr
        rw [show outs es (mOf prog es) [] _ = [] from rfl, List.append_nil] at hps
        rw [show wrs es (mOf prog es) [] _ = [] from rfl, List.append_nil] at hwr
        subst hps hwr
        have hbe : lstAt st' b = some (es.map edD) := by have := R.lst hb3 []; rwa [List.append_nil] at this
        walk_at "w"
        rw [len_lst hbe]
        have last : ∀ (s2 : Sto) (wr2 : List Nat), EP st3 st3.length (st3 ++ [O.lst []]).length (outs es (mOf prog es) prog 0) wr2 s2 → wr2 = wrAll prog es → wSs (drop 6 (sEdited xe)) (p.cl (n + 4)) { nx := fun _ st' => Q .non st', rt := Q } (fun c fs _ st' => X c fs st') [some (.tup (prog.map partD)), some (.ref b), some (.ref st.length), some (.int Mi), some (.ref st3.length), some (.ref (st3 ++ [O.lst []]).length), o6, o7, o8, o9, none, none, none, none] s2 := by
          intro s2 wr2 R2 e2
          have hw2 : lstAt s2 (st3 ++ [O.lst []]).length = some (cntD wr2) := by unfold lstAt; rw [R2.b]
          obtain ⟨E4, hE4⟩ := R2.ex
          walk_at "w"
          rw [len_lst hw2]
          walk_at "w"
          rw [List.length_map]
          cases wr2 with
          | nil =>
            walk_at "w"
            rw [show seqOf s2 (.ref st3.length) = some (outs es (mOf prog es) prog 0) from by show lstAt _ _ = _; unfold lstAt; rw [R2.a]]
            rw [hE4, hE3, List.append_assoc]
            exact hQ e2.symm _
          | cons k r =>
            rw [show decide ((0:Int) < (((k :: r).length : Nat) : Int)) = true from decide_eq_true (by simp)]
            walk_at "w"
            rw [h.hx]
            walk_at "w"
            rw [show inL intsOf s2 (.ref (st3 ++ [O.lst []]).length) = some ((k :: r).map fun (k : Nat) => (k : Int)) from by
              show (lstAt s2 _).bind intsOf = _
              rw [hw2]
              show intsOf _ = _
              rw [show cntD (k :: r) = ((k :: r).map fun (k : Nat) => (k : Int)).map D.int from by simp [cntD], intsOf_map]]
            walk_at "w"
            refine ⟨rfl, ?_⟩
            have e5 : s2 = st ++ (E3 ++ E4) := by rw [hE4, hE3, List.append_assoc]
            have := hX (by rw [← e2]; exact List.cons_ne_nil _ _) (E3 ++ E4)
            rw [← e2, ← e5] at this
            exact this
        walk_at "w"
        rw [List.length_map]
        by_cases hlt : toldFrom (csOf prog) none es 0 < es.length
        · rw [show decide (Mi < ((es.length : Nat) : Int)) = true from decide_eq_true (by omega)]
          have hwl2 : lstAt st' (st3 ++ [O.lst []]).length = some (cntD (wrs es (mOf prog es) prog 0)) := by unfold lstAt; rw [R.b]
          walk_at "w"
          rw [mtOk_lst rfl hwl2]
          walk_at "w"
          rw [R.b]
          refine ⟨by show (cntD _).length < 16777216; rw [List.length_map]; have := OE.hn; simp at hwl; omega, ?_⟩
          have R2 := R.putB (mOf prog es)
          rw [show (((mOf prog es : Nat) : Int)) = Mi from hMi] at R2
          exact last _ _ R2 (by unfold wrAll; rw [if_pos (show mOf prog es < es.length from hlt)])
        · rw [show decide (Mi < ((es.length : Nat) : Int)) = false from decide_eq_false (by omega)]
          exact last _ _ R (by unfold wrAll; rw [if_neg (show ¬ mOf prog es < es.length from hlt), List.append_nil])
    · have : (as.zip prog).filterMap (fun q => some (D.int ((tokL q.2.2).1.length : Nat))) = (as.zip prog).map (fun q => D.int ((tokL q.2.2).1.length : Nat)) := by simp
      rw [this]
      unfold cntD csOf
      rw [List.map_map]
      have hz : ((as.zip prog).map Prod.snd) = prog := List.map_snd_zip (by omega)
      conv => rhs; rw [← hz]
      rw [List.map_map]
      rfl
end
end TE

set_option Elab.async false
set_option linter.all false
set_option maxRecDepth 100000
set_option maxHeartbeats 2000000
set_option pp.maxSteps 1500
namespace TE
open PySem Q3 TK
open L2 (cutS atI Key)
local macro_rules | `(tactic| walk_at "w") => `(tactic| conv => whnf)
section
variable {p : Pr} {mi mm ml xe : Nat} (h : HasE p mi mm ml xe)
theorem isTold_all {cs : List Nat} {e : Ed} (h : isTold cs e = true) : ∃ (k : Nat) (c : Nat), e.part = k ∧ cs[k]? = some c ∧ 0 ≤ e.at_ ∧ 0 ≤ e.many ∧ e.at_ + e.many ≤ (c : Int) := by
  have h0 : 0 ≤ e.part := by
    unfold isTold at h
    simp only [Bool.and_eq_true, Bool.not_eq_true', decide_eq_false_iff_not] at h
    omega
  obtain ⟨k, hk⟩ : ∃ k : Nat, e.part = k := ⟨e.part.toNat, by omega⟩
  obtain ⟨c, r⟩ := isTold_iff h hk
  exact ⟨k, c, hk, r⟩
/-- no edit refused: all are told -/
theorem all_told {prog : List Part} {es : List Ed} (h : wrAll prog es = []) : ∀ e ∈ es, isTold (csOf prog) e = true := by
  intro e he
  obtain ⟨i, hi⟩ := List.getElem?_of_mem he
  have hl := (List.getElem?_eq_some_iff.mp hi).1
  refine toldFrom_told (csOf prog) es none 0 i e hi ?_
  unfold wrAll at h
  have h2 := (List.append_eq_nil_iff.mp h).2
  split at h2
  · cases h2
  · rename_i hn
    unfold mOf at hn
    omega
def IntV (kvs : List (Key × D)) : Prop := ∀ q ∈ kvs, ∃ i, q.2 = .int i
theorem IntV.get {kvs : List (Key × D)} (h : IntV kvs) (k : Key) : ∃ i, (dGet kvs k).getD (.int 0) = .int i := by
  unfold dGet
  cases e : kvs.find? fun kv => decide (kv.1 = k) with
  | none => exact ⟨0, rfl⟩
  | some q => exact h q (List.mem_of_find?_eq_some e)
theorem IntV.put {kvs : List (Key × D)} (h : IntV kvs) (k : Key) (i : Int) : IntV (dPut kvs k (.int i)) ∧ (dPut kvs k (.int i)).length ≤ kvs.length + 1 := by
  unfold dPut
  split
  · refine ⟨fun q hq => ?_, by simp⟩
    obtain ⟨z, hz, rfl⟩ := List.mem_map.mp hq
    split
    · exact ⟨i, rfl⟩
    · exact h z hz
  · refine ⟨fun q hq => ?_, by simp⟩
    rcases List.mem_append.mp hq with hq | hq
    · exact h q hq
    · rw [List.mem_singleton.mp hq]; exact ⟨i, rfl⟩
structure BP (st : Sto) (pa pb : Nat) (fs : List D) (kvs : List (Key × D)) (st' : Sto) : Prop where
  ex : ∃ E, st' = st ++ E
  a : st'[pa]? = some (.lst fs)
  b : st'[pb]? = some (.dK kvs)
  ga : st.length ≤ pa
  gb : st.length ≤ pb
theorem BP.ne {st st' : Sto} {pa pb : Nat} {fs : List D} {kvs : List (Key × D)} (R : BP st pa pb fs kvs st') : pa ≠ pb := fun e => by
  have := R.a
  rw [e, R.b] at this
  cases this
theorem BP.app {st st' : Sto} {pa pb : Nat} {fs : List D} {kvs : List (Key × D)} (R : BP st pa pb fs kvs st') (e : Sto) : BP st pa pb fs kvs (st' ++ e) := by
  obtain ⟨E, hE⟩ := R.ex
  exact ⟨⟨E ++ e, by rw [hE, List.append_assoc]⟩, get_app e R.a, get_app e R.b, R.ga, R.gb⟩
theorem BP.putA {st st' : Sto} {pa pb : Nat} {fs : List D} {kvs : List (Key × D)} (R : BP st pa pb fs kvs st') (d : D) : BP st pa pb (fs ++ [d]) kvs (st'.set pa (.lst (fs ++ [d]))) := by
  obtain ⟨E, hE⟩ := R.ex
  refine ⟨⟨E.set (pa - st.length) (.lst (fs ++ [d])), by rw [hE, List.set_append_right (s := st) _ _ R.ga]⟩, ?_, ?_, R.ga, R.gb⟩
  · exact List.getElem?_set_self (List.getElem?_eq_some_iff.mp R.a).1
  · rw [List.getElem?_set_ne R.ne]; exact R.b
theorem BP.putB {st st' : Sto} {pa pb : Nat} {fs : List D} {kvs : List (Key × D)} (R : BP st pa pb fs kvs st') (kvs' : List (Key × D)) : BP st pa pb fs kvs' (st'.set pb (.dK kvs')) := by
  obtain ⟨E, hE⟩ := R.ex
  refine ⟨⟨E.set (pb - st.length) (.dK kvs'), by rw [hE, List.set_append_right (s := st) _ _ R.gb]⟩, ?_, ?_, R.ga, R.gb⟩
  · rw [List.getElem?_set_ne (Ne.symm R.ne)]; exact R.a
  · exact List.getElem?_set_self (List.getElem?_eq_some_iff.mp R.b).1
theorem BP.lst {st st' : Sto} {pa pb : Nat} {fs : List D} {kvs : List (Key × D)} (R : BP st pa pb fs kvs st') {x : Nat} {v : List D} (h : lstAt st x = some v) (e : Sto) : lstAt (st' ++ e) x = some v := by
  obtain ⟨E, hE⟩ := R.ex
  rw [hE]; exact lst_app _ (lst_app _ h)
abbrev bodyB : Ss := forB (drop 4 sBackEdits)
include h in
theorem back_turn (n P T : Nat) (hP : P ≤ 10000) (hT : T ≤ 10000) {b c k pa pb j m : Nat} {prog : List Part} {as : List Nat} {st st' : Sto} {fs : List D} {kvs : List (Key × D)} {text : List Nat}
    (hc : lstAt st c = some (as.map D.ref)) (ht : ∀ q ∈ as.zip prog, lstAt st q.1 = some ((tokL q.2.2).1.map tokD)) (has : as.length = prog.length)
    (hk : k < prog.length) (hw : prog[k].2.length ≤ P) (hj : j + m ≤ (tokL prog[k].2).1.length) (htx : text.length ≤ T) (hf : fs.length ≤ 10000) (hkv : IntV kvs) (hkl : kvs.length ≤ 10000)
    (R : BP st pa pb fs kvs st') {N : Nd} {Xs : KS} {o0 o9 o10 o11 : Option D}
    (hK : ∀ st'' fs' kvs' o9 o10, BP st pa pb fs' kvs' st'' → fs'.length = fs.length + 1 → IntV kvs' → kvs'.length ≤ kvs.length + 1 → N.nx [o0, some (.ref b), some (.ref c), some (.ref pa), some (.ref pb), some (.int (k : Int)), some (.int (j : Int)), some (.int (m : Int)), some (.str (Sx text)), o9, o10, o11] st'') :
    wSs bodyB (p.cl (n + 4)) N Xs [o0, some (.ref b), some (.ref c), some (.ref pa), some (.ref pb), some (.int (k : Int)), some (.int (j : Int)), some (.int (m : Int)), some (.str (Sx text)), o9, o10, o11] st' := by
  have hka : k < as.length := by omega
  have hz : (as.zip prog)[k]? = some (as[k], prog[k]) := by rw [List.getElem?_eq_getElem (by simp; omega), List.getElem_zip]
  have hzm : (as[k], prog[k]) ∈ as.zip prog := List.mem_of_getElem? hz
  have hck : atI (as.map D.ref) (k : Int) = some (.ref as[k]) := L2.atI_nat (by rw [List.getElem?_map, List.getElem?_eq_getElem hka]; rfl)
  obtain ⟨mv, hmv⟩ := hkv.get (.inl (k : Int))
  walk_at "w"
  refine tokens_of_ok h.hk (n + 2) text (by omega) _ _ _ ?_
  walk_at "w"
  rw [len_lst (lst_last _ _)]
  have R1 := R.app [.lst ((tokL text).1.map tokD)]
  generalize st' ++ [.lst ((tokL text).1.map tokD)] = s1 at R1 ⊢
  walk_at "w"
  rw [List.length_map]
  rw [show mtOk .get s1 (.ref pb) = true from by unfold mtOk; dsimp only; rw [show dicLen s1 (.ref pb) = some kvs.length from by unfold dicLen; dsimp only; rw [R1.b]]; rfl]
  walk_at "w"
  rw [show dicGet s1 (.ref pb) (.int (k : Int)) = some (dGet kvs (.inl (k : Int))) from by unfold dicGet; dsimp only; rw [R1.b]; rfl]
  walk_at "w"
  rw [hmv]
  have hfa : lstAt s1 pa = some fs := by unfold lstAt; rw [R1.a]
  have hc1 : seqOf s1 (.ref c) = some (as.map D.ref) := by have := R1.lst hc []; rwa [List.append_nil] at this
  have ht1 : lstAt s1 as[k] = some ((tokL prog[k].2).1.map tokD) := by have := R1.lst (ht _ hzm) []; rwa [List.append_nil] at this
  walk_at "w"
  rw [mtOk_lst rfl hfa]
  walk_at "w"
  rw [hc1]
  walk_at "w"
  rw [hck]
  walk_at "w"
  rw [ht1]
  walk_at "w"
  rw [show (j : Int) + (m : Int) = ((j + m : Nat) : Int) from by omega, cutD_mid _ j (j + m) (by rw [List.length_map]; exact hj), ← List.map_drop, ← List.map_take, nil_S]
  have g1 := txt_sub ((List.take_sublist (j + m - j) ((tokL prog[k].2).1.drop j)).trans (List.drop_sublist j _))
  have g2 := txt_le prog[k].2
  have g3 := tok_le prog[k].2
  refine text_of_ok h.h3 (n + 3) (((tokL prog[k].2).1.drop j).take (j + m - j)) [] s1.length (by omega) (by simp) (by rw [List.length_take, List.length_drop]; omega) _ (lst_last _ _) _ _ fun e => ?_
  have R2 := (R1.app [.lst ((((tokL prog[k].2).1.drop j).take (j + m - j)).map tokD)]).app e
  generalize s1 ++ [O.lst ((((tokL prog[k].2).1.drop j).take (j + m - j)).map tokD)] ++ e = s2 at R2 ⊢
  walk_at "w"
  rw [R2.a]
  refine ⟨by show fs.length < 16777216; omega, ?_⟩
  have R3 := R2.putA (.tup [.int (k : Int), .int ((j : Int) + mv), .int ((tokL text).1.length : Nat), .str (Sx (toksTxt (((tokL prog[k].2).1.drop j).take (j + m - j)) ++ []))])
  have hpv := hkv.put (.inl (k : Int)) (mv + ((tokL text).1.length : Nat) - (m : Nat))
  generalize s2.set pa (.lst (fs ++ [D.tup [.int (k : Int), .int ((j : Int) + mv), .int ((tokL text).1.length : Nat), .str (Sx (toksTxt (((tokL prog[k].2).1.drop j).take (j + m - j)) ++ []))]])) = s3 at R3 ⊢
  walk_at "w"
  rw [show Q3.putAt s3 pb (.int (k : Int)) (.int (mv + ((tokL text).1.length : Nat) - (m : Nat))) = some (s3.set pb (.dK (dPut kvs (.inl (k : Int)) (.int (mv + ((tokL text).1.length : Nat) - (m : Nat)))))) from by
    unfold Q3.putAt
    rw [R3.b]
    dsimp only
    unfold dicPut
    dsimp only
    rw [if_pos (by omega)]
    rfl]
  exact hK _ _ _ _ _ (R3.putB _) (by simp) hpv.1 hpv.2
end
end TE

set_option Elab.async false
set_option linter.all false
set_option maxRecDepth 100000
set_option maxHeartbeats 2000000
set_option pp.maxSteps 1500
namespace TE
open PySem Q3 TK
open L2 (cutS atI Key)
local macro_rules | `(tactic| walk_at "w") => `(tactic| conv => whnf)
section
variable {p : Pr} {mi mm ml xe : Nat} (h : HasE p mi mm ml xe)
include h in
theorem tok_step2 (n : Nat) {st E : Sto} {pre : List Part} {as : List Nat} (S : TokS st pre as E) (xs : List D) (x : Part) (hx : x.2.length ≤ 100000) (Q : KD) (X : KX)
    (hQ : ∀ a E', TokS st (pre ++ [x]) (as ++ [a]) E' → lstAt (st ++ .lst xs :: E') a = some ((tokL x.2).1.map tokD) → Q (.tup [.ref a, .str (Sx (tokL x.2).2)]) (st ++ .lst xs :: E')) : callN p (n + 2) 2 [.str (Sx x.2)] (st ++ .lst xs :: E) Q X := by
  refine tokens_of_ok h.hk n x.2 hx _ _ _ ?_
  rw [List.append_assoc, List.cons_append]
  have hlen : (st ++ O.lst xs :: E).length = st.length + 1 + E.length := by simp; omega
  have S' : TokS st (pre ++ [x]) (as ++ [st.length + 1 + E.length]) (E ++ [.lst ((tokL x.2).1.map tokD)]) := by
    refine ⟨by simp [S.len], fun q hq => ?_⟩
    rw [List.zip_append S.len, List.mem_append] at hq
    rcases hq with hq | hq
    · obtain ⟨j, e1, e2⟩ := S.at_ q hq
      exact ⟨j, e1, get_app _ e2⟩
    · simp at hq
      subst hq
      exact ⟨E.length, rfl, at_last _ _⟩
  rw [hlen]
  refine hQ _ _ S' ?_
  unfold lstAt
  rw [← hlen, ← List.cons_append, ← List.append_assoc, at_last]
include h in
theorem toks_back (n : Nat) (prog : List Part) (hp : ∀ q ∈ prog, q.2.length ≤ 100000) (hpl : prog.length ≤ 100000) (st : Sto) (en : En) (K : Sto → Prop) (Xs : KX) (hen : 11 < en.length)
    (hK : ∀ as E, TokS st prog as E → K (st ++ .lst (as.map D.ref) :: E)) :
    loopC [] (fun d st2 K => match bindT (.tp [11, 8]) d (wipeE en [11, 8]) with
        | some en' => wT (p.cl (n + 2)) .yes en' st2 (fun t st3 => Br t (wE (p.cl (n + 2)) (.ix (.call 2 (.cons (.var 8) .nil)) (.int 0)) en' st3 (fun y st4 => match st4[st.length]? with
            | some (.lst acc) => acc.length < Lm ∧ K (st4.set st.length (.lst (acc ++ [y])))
            | _ => False) noX) (K st3)) noX
        | none => False) (prog.map partD) (st ++ [.lst []]) K := by
  refine loopC_st (fun pre st' => ∃ as E, TokS st pre as E ∧ st' = st ++ .lst (as.map D.ref) :: E) prog (fun _ _ _ => gOk_nil) ?_ ?_ ⟨[], [], ⟨rfl, fun q hq => by simp at hq⟩, rfl⟩
  · rintro pre x post e K' _ ⟨as, E, S, rfl⟩ hK'
    have hx : x.2.length ≤ 100000 := hp x (by rw [e]; simp)
    have h11 : ∀ en : En, 11 < en.length → (((wipeE en [11, 8]).set 11 (some (D.str x.1))).set 8 (some (D.str (Sx x.2))))[8]? = some (some (D.str (Sx x.2))) := fun en he => by
      rw [List.getElem?_set_self]
      show 8 < ((((en.set 8 none).set 11 none)).set 11 _).length
      simp only [List.length_set]; omega
    show wE (p.cl (n + 2)) (.ix (.call 2 (.cons (.var 8) .nil)) (.int 0)) _ _ _ _
    show (match (((wipeE en [11, 8]).set 11 (some (D.str x.1))).set 8 (some (D.str (Sx x.2))))[8]? with
      | some (some d) => _
      | _ => False)
    rw [h11 en hen]
    refine tok_step2 h n S (as.map D.ref) x hx _ _ fun a E' S' hl => ?_
    show (match (st ++ O.lst (as.map D.ref) :: E')[st.length]? with
      | some (.lst acc) => acc.length < Lm ∧ K' ((st ++ O.lst (as.map D.ref) :: E').set st.length (.lst (acc ++ [D.ref a])))
      | _ => False)
    rw [cell_at]
    have hle : as.length = pre.length := S.len
    have hpp : pre.length < prog.length := by rw [e]; simp
    refine ⟨by show (as.map D.ref).length < 16777216; rw [List.length_map]; omega, ?_⟩
    rw [cell_set]
    refine hK' _ ⟨as ++ [a], E', S', ?_⟩
    rw [List.map_append]
    rfl
  · rintro _ ⟨as, E, S, rfl⟩
    exact hK as E S
include h in
theorem back_ok (n P T : Nat) (hP : P ≤ 10000) (hT : T ≤ 10000) {prog : List Part} {es : List Ed} (OE : OkE P T prog es) {b : Nat} {st : Sto} (hb : lstAt st b = some (es.map edD)) (hes : es.length ≤ 1000) (Q : KD) (X : KX)
    (hQ : wrAll prog es = [] → ∀ a e, Q (.ref a) (st ++ e))
    (hX : wrAll prog es ≠ [] → ∀ e, X xe [(Str.ofString "number", .int (minI ((wrAll prog es).map fun (k : Nat) => (k : Int))))] (st ++ e)) : callN p (n + 6) 10 [.tup (prog.map partD), .ref b] st Q X := by
  refine callN_run h.h10 rfl ?_
  walk_at "w"
  refine edited_ok h n P T (by omega) (by omega) OE hb (by omega) _ _ (fun hw e1 => ?_) (fun hw e => hX hw e)
  have hb1 : lstAt (st ++ e1) b = some (es.map edD) := lst_app _ hb
  have hQ1 : ∀ a e, Q (.ref a) (st ++ e1 ++ e) := fun a e => by rw [List.append_assoc]; exact hQ hw a _
  have htold := all_told hw
  generalize st ++ e1 = st1 at hb1 hQ1 ⊢
  walk_at "w"
  refine toks_back h (n + 3) prog (fun q hq => Nat.le_trans (OE.hp q hq) (by omega)) (Nat.le_trans OE.hn (by omega)) st1 _ _ noX (show 11 < 12 by decide) fun as E S => ?_
  have hc : lstAt (st1 ++ O.lst (as.map D.ref) :: E) st1.length = some (as.map D.ref) := by unfold lstAt; rw [cell_at]
  have ht : ∀ q ∈ as.zip prog, lstAt (st1 ++ O.lst (as.map D.ref) :: E) q.1 = some ((tokL q.2.2).1.map tokD) := fun q hq => by
    obtain ⟨j, g1, g2⟩ := S.at_ q hq
    unfold lstAt
    rw [g1, List.getElem?_append_right (by omega), show st1.length + 1 + j - st1.length = j + 1 from by omega, List.getElem?_cons_succ, g2]
  have hb2 : lstAt (st1 ++ O.lst (as.map D.ref) :: E) b = some (es.map edD) := lst_app _ hb1
  have has := S.len
  have hQ2 : ∀ a e, Q (.ref a) (st1 ++ O.lst (as.map D.ref) :: E ++ e) := fun a e => by rw [List.append_assoc]; exact hQ1 a _
  generalize st1 ++ O.lst (as.map D.ref) :: E = st2 at hc ht hb2 hQ2 ⊢
  walk_at "w"
  rw [show lstAt (st2 ++ [O.lst []] ++ [O.dK []]) b = some (es.map edD) from lst_app _ (lst_app _ hb2)]
  have R0 : BP st2 st2.length (st2 ++ [O.lst []]).length [] [] (st2 ++ [O.lst []] ++ [O.dK []]) := ⟨⟨[.lst [], .dK []], by simp⟩, by simp, by simp, Nat.le_refl _, by simp⟩
  refine loopF_inv (f := edD) (fun pre en st' => ∃ fs kvs o5 o6 o7 o8 o9 o10, BP st2 st2.length (st2 ++ [O.lst []]).length fs kvs st' ∧ fs.length ≤ pre.length ∧ IntV kvs ∧ kvs.length ≤ pre.length ∧ en = [some (.tup (prog.map partD)), some (.ref b), some (.ref st1.length), some (.ref st2.length), some (.ref (st2 ++ [O.lst []]).length), o5, o6, o7, o8, o9, o10, none]) es ?_ ?_ ?_ ⟨[], [], none, none, none, none, none, none, R0, Nat.le_refl _, fun q hq => (by cases hq), Nat.le_refl _, rfl⟩
  · rintro pre en st' ⟨fs, kvs, o5, o6, o7, o8, o9, o10, R, _⟩
    exact gOk_one (by have := R.lst hb2 []; rwa [List.append_nil] at this)
  · rintro pre e post he K' en st' ⟨fs, kvs, o5, o6, o7, o8, o9, o10, R, hfl, hkv, hkl, rfl⟩ hK
    have hm : e ∈ es := by rw [he]; simp
    obtain ⟨k, c, t1, t2, t3, t4, t5⟩ := isTold_all (htold e hm)
    obtain ⟨part, at_, many, text⟩ := e
    dsimp only at t1 t3 t4 t5
    have hk : k < prog.length := by
      have := (List.getElem?_eq_some_iff.mp t2).1
      unfold csOf at this
      rwa [List.length_map] at this
    unfold csOf at t2
    rw [List.getElem?_map, List.getElem?_eq_getElem hk] at t2
    have t6 : (tokL prog[k].2).1.length = c := Option.some.inj t2
    obtain ⟨j, rfl⟩ : ∃ j : Nat, at_ = j := ⟨at_.toNat, by omega⟩
    obtain ⟨m, rfl⟩ : ∃ m : Nat, many = m := ⟨many.toNat, by omega⟩
    subst t1
    have hpl : pre.length < es.length := by rw [he]; simp
    refine back_turn h (n + 1) P T hP hT (N := Nd.lp _ _) hc ht has hk (OE.hp _ (List.getElem_mem hk)) (by rw [t6]; omega) (OE.he _ hm) (by omega) hkv (by omega) R fun st'' fs' kvs' o9 o10 R' g1 g2 g3 => ?_
    refine hK _ _ ⟨fs', kvs', _, _, _, _, _, _, R', ?_, g2, ?_, rfl⟩
    · rw [List.length_append]; show _ ≤ _ + 1; omega
    · rw [List.length_append]; show _ ≤ _ + 1; omega
  · rintro en st' ⟨fs, kvs, o5, o6, o7, o8, o9, o10, R, hfl, hkv, hkl, rfl⟩
    obtain ⟨E, hE⟩ := R.ex
    walk_at "w"
    rw [hE]
    exact hQ2 _ _
end
end TE

set_option Elab.async false
set_option linter.all false
set_option maxRecDepth 100000
set_option maxHeartbeats 2000000
set_option pp.maxSteps 1500
namespace Nk38
open PySem Q3 Lk38
open TE (Ed edD Part partD OkE wrAll outs mOf)
open L2 (cutS atI)
local macro_rules | `(tactic| walk_at "w") => `(tactic| conv => whnf)
theorem hasE : TE.HasE pr 17 18 19 5 := ⟨⟨rfl, rfl, rfl, rfl, rfl⟩, rfl, rfl, rfl, rfl, rfl, rfl, rfl, rfl, rfl, rfl, rfl, rfl, rfl, rfl, rfl, rfl, rfl, rfl⟩
/-- what _law_number tells: None, or the number -/
def numD (prog : List Part) (es : List Ed) : D := if wrAll prog es = [] then .non else .int (minI ((wrAll prog es).map fun (k : Nat) => (k : Int)))
theorem number_ok (n P T : Nat) (hP : P ≤ 10000) (hT : T ≤ 10000) {prog : List Part} {es : List Ed} (OE : OkE P T prog es) {b : Nat} {st : Sto} (hb : lstAt st b = some (es.map edD)) (hes : es.length ≤ 1000) (way : Int) (Q : KD) (X : KX)
    (hQ : ∀ e, Q (numD prog es) (st ++ e)) : callN pr (n + 7) f_l_number [.int way, .tup (prog.map partD), .ref b] st Q X := by
  refine callN_run rfl rfl ?_
  have hX : wrAll prog es ≠ [] → ∀ e, Q (.int (minI ((wrAll prog es).map fun (k : Nat) => (k : Int)))) (st ++ e) := fun hw e => by
    have := hQ e
    unfold numD at this
    rwa [if_neg hw] at this
  have hN : wrAll prog es = [] → ∀ e, Q .non (st ++ e) := fun hw e => by
    have := hQ e
    unfold numD at this
    rwa [if_pos hw] at this
  walk_at "w"
  by_cases hw : way = 0
  · rw [decide_eq_true hw]
    walk_at "w"
    refine TE.edited_ok hasE (n + 1) P T (by omega) (by omega) OE hb (by omega) _ _ (fun hw e => ?_) (fun hw e => ?_)
    · exact hN hw e
    · walk_at "w"
      intro a d
      exact hX hw e
  · rw [decide_eq_false hw]
    walk_at "w"
    refine TE.back_ok hasE n P T hP hT OE hb hes _ _ (fun hw a e => ?_) (fun hw e => ?_)
    · exact hN hw e
    · walk_at "w"
      intro a d
      exact hX hw e
end Nk38

set_option Elab.async false
set_option linter.all false
set_option maxRecDepth 100000
set_option maxHeartbeats 2000000
set_option pp.maxSteps 1500
namespace Nk38
open PySem Q3 Lk38 TK
open TE (Ed edD Part partD OkE wrAll outs mOf isTold isBehind toldFrom csOf laidK layTo runT Rw ownOf wrs)
open L2 (cutS atI)
local macro_rules | `(tactic| walk_at "w") => `(tactic| conv => whnf)
def txtA (c : Nat) : List Nat := (List.replicate c [32, 97]).flatten ++ [10]
theorem txtA_s (c : Nat) : txtA (c + 1) = 32 :: 97 :: txtA c := by
  unfold txtA
  rw [List.replicate_succ, List.flatten_cons]; rfl
theorem due_a : ∀ c, due (txtA c) [32] [97] false = (List.replicate (c + 1) ([32], [97]), [10])
  | 0 => by rfl
  | c + 1 => by
    rw [txtA_s]
    have e : due (32 :: 97 :: txtA c) [32] [97] false = pre [([32], [97])] (due (txtA c) [32] [97] false) := by rfl
    rw [e, due_a c, List.replicate_succ (n := c + 1)]
    rfl
theorem tok_a (c : Nat) : tokL (txtA (c + 1)) = (List.replicate (c + 1) ([32], [97]), [10]) := by
  rw [txtA_s]
  have e : tokL (32 :: 97 :: txtA c) = due (txtA c) [32] [97] false := by rfl
  rw [e, due_a]
/-- the texts of good edits -/
def okT (t : List Nat) : Prop := t = [32, 98] ∨ t = [32, 98, 32, 40, 99, 41] ∨ t = []
/-- pieces whose first one has a gap -/
def gapped (xs : List TK.Tok) : Prop := ∀ x ∈ xs.head?, x.1 ≠ []
theorem okT_gap {t : List Nat} (h : okT t) : gapped (tokL t).1 ∧ (tokL t).2 = [] := by
  rcases h with rfl | rfl | rfl <;> exact ⟨fun x hx => by revert hx; revert x; decide, by decide⟩
theorem lay_right {r : Rw} {xs : List TK.Tok} (h : r.wrong = none) (hx : gapped xs) : (r.lay xs).wrong = none := by
  cases xs with
  | nil => exact h
  | cons x xs =>
    have hg : x.1 ≠ [] := hx x rfl
    have hr : ∀ w, runT w x = false := fun w => by unfold TE.runT; rw [decide_eq_false hg]; rfl
    show (match r.wrong, r.meet, r.pcs.getLast? with
      | none, some k, some l => if runT l.2 x then some k else none
      | w, _, _ => w) = none
    rw [h]
    split
    · rw [hr]; rfl
    · rfl
theorem gap_rep {n a b : Nat} : gapped (((List.replicate n (([32], [97]) : TK.Tok)).drop a).take b) := by
  intro x hx
  have := List.mem_replicate.mp (List.mem_of_mem_drop (List.mem_of_mem_take (List.mem_of_mem_head? hx)))
  rw [this.2]; decide
theorem layTo_right {n : Nat} : ∀ (own : List (Nat × Ed)) (a : Nat) (r : Rw), (∀ q ∈ own, okT q.2.text) → r.wrong = none → (layTo (List.replicate n ([32], [97])) own a r).wrong = none
  | [], a, r, _, h => lay_right h (by have := gap_rep (n := n) (a := a) (b := n); rwa [List.take_of_length_le (by simp)] at this)
  | q :: own, a, r, ho, h => by
    unfold TE.layTo
    refine layTo_right own _ _ (fun q h => ho q (List.mem_cons_of_mem _ h)) ?_
    show (((r.lay _).meet' q.1).lay _).wrong = none
    exact lay_right (lay_right h gap_rep) (okT_gap (ho q List.mem_cons_self)).1
end Nk38

set_option Elab.async false
set_option linter.all false
set_option maxRecDepth 100000
set_option maxHeartbeats 2000000
set_option pp.maxSteps 1500
namespace Nk38
open PySem Q3 Lk38 TK
open TE (Ed edD Part partD OkE wrAll outs mOf isTold isBehind toldFrom csOf laidK layTo runT Rw ownOf wrs)
open L2 (cutS atI)
def simpleP (prog : List Part) : Prop := ∀ q ∈ prog, ∃ c, q.2 = txtA (c + 1)
theorem wrs_nil {es : List Ed} {M : Nat} (he : ∀ i e, i < M → es[i]? = some e → okT e.text) : ∀ (ps : List Part) (k : Nat), simpleP ps → wrs es M ps k = []
  | [], k, _ => rfl
  | q :: ps, k, h => by
    show (laidK es M k q.2).wrong.toList ++ wrs es M ps (k + 1) = []
    rw [wrs_nil he ps (k + 1) fun q hq => h q (List.mem_cons_of_mem _ hq), List.append_nil]
    obtain ⟨c, hc⟩ := h q List.mem_cons_self
    unfold TE.laidK
    rw [hc, tok_a, layTo_right _ _ _ (fun q hq => ?_) rfl]
    · rfl
    · obtain ⟨m1, m2, _⟩ := TE.own_mem hq
      exact he _ _ m1 m2
/-- the edits up to a place are good, and follow one another -/
def chain (cs : List Nat) : Option Ed → List Ed → Prop
  | _, [] => True
  | prev, e :: r => isTold cs e = true ∧ (∀ o ∈ prev, isBehind e o = true) ∧ chain cs (some e) r
theorem toldFrom_app {cs : List Nat} : ∀ (a b : List Ed) (prev : Option Ed) (k : Nat), chain cs prev a → toldFrom cs prev (a ++ b) k = toldFrom cs (a.getLast?.or prev) b (k + a.length)
  | [], b, prev, k, _ => rfl
  | e :: r, b, prev, k, ⟨h1, h2, h3⟩ => by
    have ih := toldFrom_app r b (some e) (k + 1) h3
    have hl : ((e :: r).getLast?.or prev) = (r.getLast?.or (some e)) := by
      rw [List.getLast?_cons]
      cases r.getLast? <;> rfl
    rw [hl, show k + (e :: r).length = k + 1 + r.length from by rw [List.length_cons]; omega, ← ih, List.cons_append]
    conv => lhs; unfold TE.toldFrom
    rw [if_pos h1]
    cases prev with
    | none => rfl
    | some o => exact if_pos (h2 o rfl)
theorem chain_app {cs : List Nat} : ∀ (a b : List Ed) (prev : Option Ed), chain cs prev (a ++ b) ↔ chain cs prev a ∧ chain cs (a.getLast?.or prev) b
  | [], b, prev => by simp [chain]
  | e :: r, b, prev => by
    have hl : ((e :: r).getLast?.or prev) = (r.getLast?.or (some e)) := by
      rw [List.getLast?_cons]
      cases r.getLast? <;> rfl
    rw [hl, List.cons_append]
    show (_ ∧ _ ∧ chain cs (some e) (r ++ b)) ↔ (_ ∧ _ ∧ chain cs (some e) r) ∧ _
    rw [chain_app r b (some e)]
    simp only [and_assoc]
theorem told_good {cs : List Nat} {es : List Ed} (h : chain cs none es) : toldFrom cs none es 0 = es.length := by
  have := toldFrom_app es [] none 0 h
  rw [List.append_nil, Nat.zero_add] at this
  rw [this]
  rfl
theorem told_bad {cs : List Nat} {a b : List Ed} {e : Ed} (h : chain cs none a) (hb : isTold cs e = false ∨ ∃ o, a.getLast? = some o ∧ isBehind e o = false) : toldFrom cs none (a ++ e :: b) 0 = a.length := by
  rw [toldFrom_app a (e :: b) none 0 h, Nat.zero_add]
  unfold TE.toldFrom
  rcases hb with hb | ⟨o, ho, hb⟩
  · rw [hb]; rfl
  · rw [ho]
    by_cases h1 : isTold cs e = true
    · rw [if_pos h1]
      show (if isBehind e o = true then _ else _) = _
      rw [hb]; rfl
    · rw [if_neg h1]
/-- good edits: nothing is refused -/
theorem num_good {prog : List Part} {es : List Ed} (hp : simpleP prog) (ht : ∀ e ∈ es, okT e.text) (h : chain (csOf prog) none es) : wrAll prog es = [] := by
  unfold TE.wrAll
  have hm : mOf prog es = es.length := told_good h
  rw [wrs_nil (fun i e _ hi => ht e (List.mem_of_getElem? hi)) prog 0 hp, hm, if_neg (Nat.lt_irrefl _)]
  rfl
/-- a bad one behind good ones: its number -/
theorem num_bad {prog : List Part} {a b : List Ed} {e : Ed} (hp : simpleP prog) (ht : ∀ e ∈ a, okT e.text) (h : chain (csOf prog) none a) (hb : isTold (csOf prog) e = false ∨ ∃ o, a.getLast? = some o ∧ isBehind e o = false) : numD prog (a ++ e :: b) = .int (a.length : Nat) := by
  have hm : mOf prog (a ++ e :: b) = a.length := told_bad h hb
  have hw : wrAll prog (a ++ e :: b) = [a.length] := by
    unfold TE.wrAll
    rw [hm, wrs_nil (fun i e' hi he => ?_) prog 0 hp, if_pos (by simp)]
    · rfl
    · rw [List.getElem?_append_left hi] at he
      exact ht e' (List.mem_of_getElem? he)
  unfold numD
  rw [hw]
  rfl
end Nk38

set_option Elab.async false
set_option linter.all false
set_option maxRecDepth 100000
set_option maxHeartbeats 2000000
set_option pp.maxSteps 1500
namespace Nk38
open PySem Q3 Lk38 TK
open TE (Ed edD Part partD OkE wrAll outs mOf isTold isBehind toldFrom csOf cntD)
open L2 (cutS atI)
local macro_rules | `(tactic| walk_at "w") => `(tactic| conv => whnf)
def okC (t : List Nat) : Prop := t.length ≤ 20 ∧ ∀ c ∈ t, c < 128
theorem fdr {n : Nat} {ns : List Int} (hns : ns.length ≤ 63) {fd : Fd} (hf : fd.ok) {many : Int} (hm : 0 < many ∧ many ≤ 1000000) {e : Sto} {Q : KD} {X : KX}
    (hQ : ∀ v fd', 0 ≤ v → v < many → fd'.ok → Q (.int v) (feedS ns fd' ++ e)) : callN pr (n + 1) 12 [.ref 1, .int many] (feedS ns fd ++ e) Q X := fdraw_ok rfl hns hf hm hQ
theorem chain_told {cs : List Nat} : ∀ {es : List Ed} {prev : Option Ed}, chain cs prev es → ∀ e ∈ es, isTold cs e = true
  | [], _, _, e, h => nomatch h
  | e0 :: r, _, ⟨h1, _, h3⟩, e, h => by
    rcases List.mem_cons.mp h with rfl | h
    · exact h1
    · exact chain_told h3 e h
/-- one edit taken out for another one -/
theorem bad_ok (n : Nat) {ns : List Int} (hns : ns.length ≤ 63) {fd : Fd} (hf : fd.ok) {e : Sto} {b c : Nat} {es : List Ed} {cs : List Nat} (hb : lstAt (feedS ns fd ++ e) (6 + b) = some (es.map edD)) (hc : lstAt (feedS ns fd ++ e) (6 + c) = some (cntD cs)) (hes : 0 < es.length ∧ es.length ≤ 100) (hg : chain cs none es) (het : ∀ e ∈ es, okC e.text) (Q : KD) (X : KX)
    (hQ : ∀ (fd' : Fd) (k : Nat) (x : Ed) a g, fd'.ok → k < es.length → okC x.text → (isTold cs x = false ∨ ∃ o, (es.take k).getLast? = some o ∧ isBehind x o = false) → lstAt (feedS ns fd' ++ (e ++ g)) a = some ((es.take k ++ x :: es.drop (k + 1)).map edD) → Q (.tup [.ref a, .int (k : Nat)]) (feedS ns fd' ++ (e ++ g))) : callN pr (n + 2) f_l_bad [.ref 1, .ref (6 + b), .ref (6 + c)] (feedS ns fd ++ e) Q X := by
  refine callN_run rfl rfl ?_
  have hb' : ∀ fd' g, lstAt (feedS ns fd' ++ (e ++ g)) (6 + b) = some (es.map edD) := fun fd' g => by
    rw [← List.append_assoc]
    refine lst_app _ ?_
    have h1 : ∀ fd'', (feedS ns fd'' ++ e)[6 + b]? = e[b]? := fun fd'' => by
      rw [List.getElem?_append_right (by show 6 ≤ 6 + b; omega)]
      show e[6 + b - 6]? = _
      rw [Nat.add_sub_cancel_left]
    unfold lstAt at hb ⊢
    rw [h1] at hb ⊢
    exact hb
  have hc' : ∀ fd' g, lstAt (feedS ns fd' ++ (e ++ g)) (6 + c) = some (cntD cs) := fun fd' g => by
    rw [← List.append_assoc]
    refine lst_app _ ?_
    have h1 : ∀ fd'', (feedS ns fd'' ++ e)[6 + c]? = e[c]? := fun fd'' => by
      rw [List.getElem?_append_right (by show 6 ≤ 6 + c; omega)]
      show e[6 + c - 6]? = _
      rw [Nat.add_sub_cancel_left]
    unfold lstAt at hc ⊢
    rw [h1] at hc ⊢
    exact hc
  walk_at "w"
  rw [len_lst hb]
  walk_at "w"
  rw [List.length_map]
  refine fdr hns hf ⟨by omega, by omega⟩ fun k fd1 k0 k1 h1 => ?_
  obtain ⟨k, rfl⟩ : ∃ j : Nat, k = j := ⟨k.toNat, by omega⟩
  have hk : k < es.length := by omega
  have hat : atI (es.map edD) (k : Int) = some (edD es[k]) := L2.atI_nat (by rw [List.getElem?_map, List.getElem?_eq_getElem hk]; rfl)
  have hb0 : ∀ fd', seqOf (feedS ns fd' ++ e) (.ref (6 + b)) = some (es.map edD) := fun fd' => by have := hb' fd' []; rwa [List.append_nil] at this
  obtain ⟨⟨part, at_, many, text⟩, hx⟩ : ∃ x, es[k] = x := ⟨_, rfl⟩
  walk_at "w"
  rw [hb0]
  walk_at "w"
  rw [hat, hx]
  walk_at "w"
  refine fdr hns h1 ⟨by decide, by decide⟩ fun far fd2 f0 f1 h2 => ?_
  walk_at "w"
  refine ⟨.inl (.inl (by omega)), ?_⟩
  walk_at "w"
  refine fdr hns h2 ⟨by decide, by decide⟩ fun way fd3 w0 w1 h3 => ?_
  walk_at "w"
  rw [List.append_assoc]
  refine fdr hns h3 ⟨by decide, by decide⟩ fun z fd4 z0 z1 h4 => ?_
  have hbt : ∃ t : List Nat, (tokL t).2 ≠ [] ∧ okC t ∧ atI [D.str (Str.ofString "a "), D.str (Str.ofString " ;x"), D.str (Str.ofString "(\n"), D.str (Str.ofString " "), D.str (Str.ofString ";")] z = some (.str (Sx t)) := by
    have hc : z = 0 ∨ z = 1 ∨ z = 2 ∨ z = 3 ∨ z = 4 := by omega
    rcases hc with rfl | rfl | rfl | rfl | rfl
    · exact ⟨[97, 32], by decide, by unfold okC; decide, by rw [show Sx [97, 32] = Str.ofString "a " from by decide +kernel]; rfl⟩
    · exact ⟨[32, 59, 120], by decide, by unfold okC; decide, by rw [show Sx [32, 59, 120] = Str.ofString " ;x" from by decide +kernel]; rfl⟩
    · exact ⟨[40, 10], by decide, by unfold okC; decide, by rw [show Sx [40, 10] = Str.ofString "(\n" from by decide +kernel]; rfl⟩
    · exact ⟨[32], by decide, by unfold okC; decide, by rw [show Sx [32] = Str.ofString " " from by decide +kernel]; rfl⟩
    · exact ⟨[59], by decide, by unfold okC; decide, by rw [show Sx [59] = Str.ofString ";" from by decide +kernel]; rfl⟩
  obtain ⟨t, ht1, ht2, ht3⟩ := hbt
  rw [← List.append_assoc]
  walk_at "w"
  rw [show (feedS ns fd3 ++ e).length = (feedS ns fd4 ++ e).length from rfl]
  rw [show seqOf (feedS ns fd4 ++ e ++ [O.lst [D.str (Str.ofString "a "), D.str (Str.ofString " ;x"), D.str (Str.ofString "(\n"), D.str (Str.ofString " "), D.str (Str.ofString ";")]]) (.ref (feedS ns fd4 ++ e).length) = some [D.str (Str.ofString "a "), D.str (Str.ofString " ;x"), D.str (Str.ofString "(\n"), D.str (Str.ofString " "), D.str (Str.ofString ";")] from lst_last _ _]
  walk_at "w"
  rw [ht3]
  have e2 : ∀ (A B : O) (st : Sto), (st ++ [A] ++ [B])[st.length]? = some A := fun A B st => by rw [List.append_assoc]; simp
  have fin : ∀ (x : Ed) (o4 o5 o6 o7 o8 o9 : Option D), okC x.text → (isTold cs x = false ∨ ∃ o, (es.take k).getLast? = some o ∧ isBehind x o = false) → ∀ g, wSs (drop 6 s_l_bad) (pr.cl (n + 1)) { nx := fun _ st' => Q .non st', rt := Q } (fun c fs _ st' => X c fs st') [some (.ref 1), some (.ref (6 + b)), some (.ref (6 + c)), some (.int (k : Int)), o4, o5, o6, o7, o8, o9, some (edD x)] (feedS ns fd4 ++ (e ++ g)) := by
    intro x o4 o5 o6 o7 o8 o9 h5 h6 g
    have hb4 := hb' fd4 g
    obtain ⟨st, hst⟩ : ∃ st, st = feedS ns fd4 ++ (e ++ g) := ⟨_, rfl⟩
    have hend : ∀ a G, lstAt (st ++ G) a = some ((es.take k ++ x :: es.drop (k + 1)).map edD) → Q (.tup [.ref a, .int (k : Nat)]) (st ++ G) := fun a G hl => by
      rw [hst, List.append_assoc, List.append_assoc] at hl ⊢
      exact hQ fd4 k x a (g ++ G) h4 hk h5 h6 hl
    rw [← hst] at hb4 ⊢
    walk_at "w"
    rw [hb4]
    walk_at "w"
    rw [cutD_to, e2, at_last]
    refine ⟨by show ((es.map edD).take k).length + 1 ≤ 16777216; rw [List.length_take, List.length_map]; omega, ?_⟩
    walk_at "w"
    rw [show lstAt (st ++ [O.lst (List.take k (es.map edD))] ++ [O.lst [edD x]] ++ [O.lst (List.take k (es.map edD) ++ [edD x])]) (6 + b) = some (es.map edD) from lst_app _ (lst_app _ (lst_app _ hb4))]
    walk_at "w"
    rw [show (k : Int) + 1 = ((k + 1 : Nat) : Int) from by omega, cutD_from, e2, at_last]
    refine ⟨by show ((es.map edD).take k ++ [edD x]).length + ((es.map edD).drop (k + 1)).length ≤ 16777216; rw [List.length_append, List.length_take, List.length_drop, List.length_map]; show _ + 1 + _ ≤ _; omega, ?_⟩
    walk_at "w"
    have hfin : ∀ (A B C D' : O), st ++ [A] ++ [B] ++ [C] ++ [D'] ++ [O.lst ((es.map edD).take k ++ [edD x] ++ (es.map edD).drop (k + 1))] = st ++ [A, B, C, D', O.lst ((es.map edD).take k ++ [edD x] ++ (es.map edD).drop (k + 1))] := fun A B C D' => by simp
    rw [hfin]
    refine hend _ _ ?_
    rw [← hfin, lst_last]
    simp
  rw [List.append_assoc]
  have hxm : (⟨part, at_, many, text⟩ : Ed) ∈ es := by rw [← hx]; exact List.getElem_mem hk
  obtain ⟨kp, c0, t1, t2, t3, t4, t5⟩ := TE.isTold_all (chain_told hg _ hxm)
  dsimp only at t1 t3 t4 t5
  have hkp : kp < cs.length := (List.getElem?_eq_some_iff.mp t2).1
  have hcat : atI (cntD cs) part = some (.int (c0 : Nat)) := by
    rw [t1]
    exact L2.atI_nat (by rw [List.getElem?_map, t2]; rfl)
  have htx : okC text := het _ hxm
  walk_at "w"
  by_cases w0' : way = 0
  · rw [decide_eq_true w0']
    refine fin ⟨0 - (1 + far * 10 ^ 9), at_, many, text⟩ _ _ _ _ _ _ htx (.inl ?_) _
    unfold TE.isTold
    dsimp only
    rw [decide_eq_true (show (0 : Int) - (1 + far * 10 ^ 9) < 0 from by omega)]
    rfl
  rw [decide_eq_false w0']
  walk_at "w"
  by_cases w1' : way = 1
  · rw [decide_eq_true w1']
    walk_at "w"
    rw [len_lst (hc' _ _)]
    walk_at "w"
    rw [List.length_map]
    refine fin ⟨(cs.length : Nat) - 1 + (1 + far * 10 ^ 9), at_, many, text⟩ _ _ _ _ _ _ htx (.inl ?_) _
    unfold TE.isTold
    dsimp only
    rw [decide_eq_true (show (cs.length : Int) ≤ (cs.length : Nat) - 1 + (1 + far * 10 ^ 9) from by omega)]
    simp
  rw [decide_eq_false w1']
  walk_at "w"
  by_cases w2' : way = 2
  · rw [decide_eq_true w2']
    refine fin ⟨part, 0 - (1 + far * 10 ^ 9), many, text⟩ _ _ _ _ _ _ htx (.inl ?_) _
    unfold TE.isTold
    dsimp only
    rw [decide_eq_true (show (0 : Int) - (1 + far * 10 ^ 9) < 0 from by omega)]
    simp
  rw [decide_eq_false w2']
  walk_at "w"
  by_cases w3' : way = 3
  · rw [decide_eq_true w3']
    refine fin ⟨part, at_, 0 - (1 + far * 10 ^ 9), text⟩ _ _ _ _ _ _ htx (.inl ?_) _
    unfold TE.isTold
    dsimp only
    rw [decide_eq_true (show (0 : Int) - (1 + far * 10 ^ 9) < 0 from by omega)]
    simp
  rw [decide_eq_false w3']
  walk_at "w"
  by_cases w4' : way = 4
  · rw [decide_eq_true w4']
    walk_at "w"
    rw [show seqOf _ (.ref (6 + c)) = some (cntD cs) from hc' fd4 _]
    walk_at "w"
    rw [hcat]
    refine fin ⟨part, at_, (c0 : Nat) - at_ + (1 + far * 10 ^ 9), text⟩ _ _ _ _ _ _ htx (.inl ?_) _
    unfold TE.isTold
    dsimp only
    rw [t1, show ((kp : Nat) : Int).toNat = kp from rfl, t2]
    dsimp only
    rw [decide_eq_true (show ((c0 : Nat) : Int) < at_ + ((c0 : Nat) - at_ + (1 + far * 10 ^ 9)) from by omega)]
    simp
  rw [decide_eq_false w4']
  walk_at "w"
  by_cases w5' : way = 5
  · rw [decide_eq_true w5']
    walk_at "w"
    rw [show seqOf _ (.ref (6 + c)) = some (cntD cs) from hc' fd4 _]
    walk_at "w"
    rw [hcat]
    refine fin ⟨part, (c0 : Nat) + (1 + far * 10 ^ 9), 0, text⟩ _ _ _ _ _ _ htx (.inl ?_) _
    unfold TE.isTold
    dsimp only
    rw [t1, show ((kp : Nat) : Int).toNat = kp from rfl, t2]
    dsimp only
    rw [decide_eq_true (show ((c0 : Nat) : Int) < (c0 : Nat) + (1 + far * 10 ^ 9) + 0 from by omega)]
    simp
  rw [decide_eq_false w5']
  have hlast : ∀ g, wSs (drop 6 s_l_bad) (pr.cl (n + 1)) { nx := fun _ st' => Q .non st', rt := Q } (fun c fs _ st' => X c fs st') [some (.ref 1), some (.ref (6 + b)), some (.ref (6 + c)), some (.int (k : Int)), some (.int part), some (.int at_), some (.int many), some (.str (Sx text)), some (.int (1 + far * 10 ^ 9)), some (.int way), some (edD ⟨part, at_, many, t⟩)] (feedS ns fd4 ++ (e ++ g)) := fun g => fin ⟨part, at_, many, t⟩ _ _ _ _ _ _ ht2 (.inl (by
    unfold TE.isTold
    dsimp only
    rw [decide_eq_false ht1, Bool.and_false])) g
  walk_at "w"
  have hsb : ∀ g, seqOf (feedS ns fd4 ++ (e ++ g)) (.ref (6 + b)) = some (es.map edD) := fun g => hb' fd4 g
  have hsc : ∀ g, seqOf (feedS ns fd4 ++ (e ++ g)) (.ref (6 + c)) = some (cntD cs) := fun g => hc' fd4 g
  by_cases hk0 : 0 < k
  · obtain ⟨⟨pp, pa, pm, pt⟩, hpx⟩ : ∃ x, es[k - 1] = x := ⟨_, rfl⟩
    have hpm : (⟨pp, pa, pm, pt⟩ : Ed) ∈ es := by rw [← hpx]; exact List.getElem_mem _
    have hpa : atI (es.map edD) ((k : Int) - 1) = some (edD ⟨pp, pa, pm, pt⟩) := by
      rw [show (k : Int) - 1 = ((k - 1 : Nat) : Int) from by omega]
      exact L2.atI_nat (by rw [List.getElem?_map, List.getElem?_eq_getElem (show k - 1 < es.length by omega), hpx]; rfl)
    have hlo : (es.take k).getLast? = some ⟨pp, pa, pm, pt⟩ := by
      rw [List.getLast?_eq_getElem?, List.length_take, Nat.min_eq_left (by omega), List.getElem?_take, if_pos (by omega), List.getElem?_eq_getElem (by omega), hpx]
    obtain ⟨kq, cq, u1, u2, u3, u4, u5⟩ := TE.isTold_all (chain_told hg _ hpm)
    dsimp only at u1 u3 u4 u5
    have hcaq : atI (cntD cs) pp = some (.int (cq : Nat)) := by
      rw [u1]
      exact L2.atI_nat (by rw [List.getElem?_map, u2]; rfl)
    have hkk : decide ((0 : Int) < (k : Int)) = true := decide_eq_true (by omega)
    walk_at "w"
    by_cases w6' : way = 6
    · rw [decide_eq_true w6']
      walk_at "w"
      rw [hkk]
      walk_at "w"
      rw [hsb]
      walk_at "w"
      rw [hpa]
      walk_at "w"
      by_cases q : 0 < pm
      · rw [decide_eq_true q]
        have hbh : ∀ m', isBehind ⟨pp, pa, m', text⟩ ⟨pp, pa, pm, pt⟩ = false := fun m' => by
          unfold TE.isBehind
          dsimp only
          rw [if_pos rfl, decide_eq_false (by omega)]
        walk_at "w"
        repeat (first | (rw [hsb]; walk_at "w") | (rw [hpa]; walk_at "w"))
        rw [hsc]
        walk_at "w"
        rw [hcaq]
        walk_at "w"
        by_cases q2 : (cq : Int) < pa + many
        · rw [decide_eq_true q2]
          walk_at "w"
          repeat (first | (rw [hsb]; walk_at "w") | (rw [hpa]; walk_at "w"))
          exact fin ⟨pp, pa, 0, text⟩ _ _ _ _ _ _ htx (.inr ⟨_, hlo, hbh _⟩) _
        · rw [decide_eq_false q2]
          walk_at "w"
          exact fin ⟨pp, pa, many, text⟩ _ _ _ _ _ _ htx (.inr ⟨_, hlo, hbh _⟩) _
      · rw [decide_eq_false q]
        subst w6'
        walk_at "w"
        exact hlast _
    rw [decide_eq_false w6']
    walk_at "w"
    by_cases w7' : way = 7
    · rw [decide_eq_true w7']
      walk_at "w"
      rw [hkk]
      walk_at "w"
      repeat (first | (rw [hsb]; walk_at "w") | (rw [hpa]; walk_at "w"))
      by_cases q : 0 < pa + pm
      · rw [decide_eq_true q]
        walk_at "w"
        repeat (first | (rw [hsb]; walk_at "w") | (rw [hpa]; walk_at "w"))
        refine fin ⟨pp, if pa - 1 > 0 then pa - 1 else 0, 0, text⟩ _ _ _ _ _ _ htx (.inr ⟨_, hlo, ?_⟩) _
        unfold TE.isBehind
        dsimp only
        rw [if_pos rfl]
        refine decide_eq_false ?_
        split <;> omega
      · rw [decide_eq_false q]
        subst w7'
        walk_at "w"
        exact hlast _
    rw [decide_eq_false w7']
    walk_at "w"
    by_cases w8' : way = 8
    · rw [decide_eq_true w8']
      walk_at "w"
      rw [hkk]
      walk_at "w"
      repeat (first | (rw [hsb]; walk_at "w") | (rw [hpa]; walk_at "w"))
      by_cases q : 0 < pp
      · rw [decide_eq_true q]
        walk_at "w"
        repeat (first | (rw [hsb]; walk_at "w") | (rw [hpa]; walk_at "w"))
        refine fin ⟨pp - 1, 0, 0, text⟩ _ _ _ _ _ _ htx (.inr ⟨_, hlo, ?_⟩) _
        unfold TE.isBehind
        dsimp only
        rw [if_neg (by omega)]
        exact decide_eq_false (by omega)
      · rw [decide_eq_false q]
        exact hlast _
    rw [decide_eq_false w8']
    exact hlast _
  · have hkk : decide ((0 : Int) < (k : Int)) = false := decide_eq_false (by omega)
    walk_at "w"
    by_cases w6' : way = 6
    · rw [decide_eq_true w6']
      walk_at "w"
      rw [hkk]
      subst w6'
      walk_at "w"
      exact hlast _
    rw [decide_eq_false w6']
    walk_at "w"
    by_cases w7' : way = 7
    · rw [decide_eq_true w7']
      walk_at "w"
      rw [hkk]
      subst w7'
      walk_at "w"
      exact hlast _
    rw [decide_eq_false w7']
    walk_at "w"
    by_cases w8' : way = 8
    · rw [decide_eq_true w8']
      walk_at "w"
      rw [hkk]
      exact hlast _
    rw [decide_eq_false w8']
    exact hlast _
end Nk38

set_option Elab.async false
set_option linter.all false
set_option maxRecDepth 100000
set_option maxHeartbeats 2000000
set_option pp.maxSteps 1500
namespace Nk38
open PySem Q3 Lk38 TK
open TE (Ed edD Part partD OkE wrAll outs mOf isTold isBehind toldFrom csOf cntD)
open L2 (cutS atI)
local macro_rules | `(tactic| walk_at "w") => `(tactic| conv => whnf)
theorem foldl_app : ∀ (L : List (Array Nat)) (acc : Array Nat), (L.foldl (· ++ ·) acc).toList = acc.toList ++ (L.map Array.toList).flatten
  | [], acc => by simp
  | a :: L, acc => by
    rw [List.foldl_cons, foldl_app L]
    simp
theorem mul_S (l : List Nat) (c : Nat) : Txt.mul (Sx l) ((c + 1 : Nat) : Int) = Sx (List.replicate (c + 1) l).flatten := by
  refine (S_tl _).symm.trans (congrArg Sx ?_)
  unfold Txt.mul
  rw [if_neg (by omega)]
  split
  · rename_i h
    have h : c = 0 ∨ l = [] := by
      simp at h
      rcases h with h | h
      · exact .inl (by omega)
      · exact .inr (by have : (Sx l).length = 0 := h; rw [S_len] at this; exact List.length_eq_zero_iff.mp this)
    rcases h with rfl | rfl
    · show (Sx l).cps.toList = _
      have : (Sx l).cps.toList = l := rfl
      rw [this]
      simp
    · show (Sx []).cps.toList = _
      simp [Sx, SX.S]
  · show (List.foldl (fun (x1 x2 : Array Nat) => x1 ++ x2) #[] (List.replicate ((c + 1 : Nat) : Int).toNat (Sx l).cps)).toList = _
    rw [foldl_app]
    have : (Sx l).cps.toList = l := rfl
    rw [List.map_replicate, this]
    rfl
/-- the program of a law's names and counts -/
def progOf (zs : List (List Nat)) (cs : List Nat) : List Part := (zs.zip cs).map fun q => (Sx q.1, txtA q.2)
theorem lst_fd {ns : List Int} {f1 f2 : Fd} {e : Sto} {a : Nat} : lstAt (feedS ns f1 ++ e) a = lstAt (feedS ns f2 ++ e) a := by
  unfold lstAt
  match a with
  | 0 => rfl
  | 1 => rfl
  | 2 => rfl
  | 3 => rfl
  | 4 => rfl
  | 5 => rfl
  | a + 6 => rfl
theorem lst_fe {ns : List Int} {f1 f2 : Fd} {e g : Sto} {a : Nat} {xs : List D} (h : lstAt (feedS ns f1 ++ e) a = some xs) : lstAt (feedS ns f2 ++ (e ++ g)) a = some xs := by
  rw [← List.append_assoc]
  refine lst_app _ ?_
  rw [lst_fd (f2 := f1)]
  exact h
theorem cs_tok {zs : List (List Nat)} {cs : List Nat} (hl : zs.length = cs.length) (hc : ∀ c ∈ cs, 1 ≤ c) : csOf (progOf zs cs) = cs := by
  unfold TE.csOf progOf
  rw [List.map_map]
  induction zs generalizing cs with
  | nil => cases cs with
    | nil => rfl
    | cons c cs => cases hl
  | cons z zs ih => cases cs with
    | nil => cases hl
    | cons c cs =>
      rw [List.zip_cons_cons, List.map_cons, ih (by simpa using hl) fun c hc' => hc c (List.mem_cons_of_mem _ hc')]
      congr 1
      obtain ⟨d, rfl⟩ : ∃ d, c = d + 1 := ⟨c - 1, by have := hc c List.mem_cons_self; omega⟩
      show (tokL (txtA (d + 1))).1.length = _
      rw [tok_a]
      simp
theorem simple_prog {zs : List (List Nat)} {cs : List Nat} (hc : ∀ c ∈ cs, 1 ≤ c) : simpleP (progOf zs cs) := by
  intro q hq
  unfold progOf at hq
  obtain ⟨⟨z, c⟩, h1, rfl⟩ := List.mem_map.mp hq
  have := hc c (List.of_mem_zip h1).2
  exact ⟨c - 1, by show txtA c = _; rw [Nat.sub_add_cancel this]⟩
def edP (e : Ed) : PyData := .tuple [.int e.part, .int e.at_, .int e.many, .str (Sx e.text)]
theorem edP_ok (n : Nat) (st : Sto) (e : Ed) : toP (n + 2) st (edD e) = some (edP e) := by
  refine toP_tup ?_
  rfl
theorem edP_pl {e : Ed} (h : okC e.text) : Pl 1 (edP e) := pl_tup fun x hx => by
  simp only [List.mem_cons, List.not_mem_nil, or_false] at hx
  rcases hx with rfl | rfl | rfl | rfl
  · exact pl_int _ _
  · exact pl_int _ _
  · exact pl_int _ _
  · exact pl_S h.2 _
theorem wEq_eds {st : Sto} {a b : Nat} {es : List Ed} {Q : Bool → Sto → Prop} (ha : lstAt st a = some (es.map edD)) (hb : lstAt st b = some (es.map edD)) (he : ∀ e ∈ es, okC e.text) (h : Q true st) : wEq (.ref a) (.ref b) st Q :=
  wEq_same (p := .list (es.map edP)) (toP_lst ha (mapM_some _ fun e _ => edP_ok _ _ e)) (toP_lst hb (mapM_some _ fun e _ => edP_ok _ _ e)) (pl_shaped (k := 2) (pl_lst fun x hx => by
    obtain ⟨e, h1, rfl⟩ := List.mem_map.mp hx
    exact edP_pl (he e h1)) (by decide)) h
theorem wNe_eds {st : Sto} {a b : Nat} {es : List Ed} {Q : Bool → Sto → Prop} (ha : lstAt st a = some (es.map edD)) (hb : lstAt st b = some (es.map edD)) (he : ∀ e ∈ es, okC e.text) (h : Q false st) : wCmp .ne (.ref a) (.ref b) st Q :=
  wEq_eds (Q := fun b st' => Q (!b) st') ha hb he h
theorem txtA_len (c : Nat) : (txtA c).length = 2 * c + 1 := by
  unfold txtA
  rw [List.length_append]
  induction c with
  | zero => rfl
  | succ c ih => rw [List.replicate_succ, List.flatten_cons, List.length_append]; show 2 + _ + _ = _; rw [Nat.add_assoc, ih]; omega
theorem txtA_lt (c : Nat) : ∀ x ∈ txtA c, x < 128 := by
  intro x hx
  unfold txtA at hx
  rcases List.mem_append.mp hx with h | h
  · obtain ⟨l, h1, h2⟩ := List.mem_flatten.mp h
    rw [(List.mem_replicate.mp h1).2] at h2
    simp only [List.mem_cons, List.not_mem_nil, or_false] at h2
    rcases h2 with rfl | rfl <;> decide
  · rw [List.mem_singleton.mp h]; decide
theorem okE_of {zs : List (List Nat)} {cs : List Nat} {es : List Ed} (hz : zs.length ≤ 3) (hc : ∀ c ∈ cs, c ≤ 12) (he : ∀ e ∈ es, okC e.text) (hl : es.length ≤ 100) : OkE 25 20 (progOf zs cs) es where
  hp := fun q hq => by
    unfold progOf at hq
    obtain ⟨⟨z, c⟩, h1, rfl⟩ := List.mem_map.mp hq
    have := hc c (List.of_mem_zip h1).2
    show (txtA c).length ≤ 25
    rw [txtA_len]; omega
  he := fun e h => (he e h).1
  hl := Nat.le_trans (Nat.mul_le_mul_right _ (show es.length + 1 ≤ 101 by omega)) (by decide)
  hn := by unfold progOf; rw [List.length_map, List.length_zip]; omega
  hT := by decide
end Nk38

set_option Elab.async false
set_option linter.all false
set_option maxRecDepth 100000
set_option maxHeartbeats 2000000
set_option pp.maxSteps 1500
namespace Nk38
open PySem Q3 Lk38 TK
open TE (Ed edD Part partD OkE wrAll outs mOf isTold isBehind toldFrom csOf cntD)
open L2 (cutS atI)
local macro_rules | `(tactic| walk_at "w") => `(tactic| conv => whnf)
theorem fm_range {α : Type} (f : α → D) (l : List α) : (List.range l.length).filterMap (fun k => (l[k]?).map f) = l.map f := by
  induction l using snocRec with
  | nil => rfl
  | snoc l a ih =>
    rw [List.length_append, List.length_singleton, List.range_succ, List.filterMap_append, List.map_append]
    congr 1
    · rw [← ih]
      have : ∀ (r : List Nat) (f g : Nat → Option D), (∀ k ∈ r, f k = g k) → r.filterMap f = r.filterMap g := fun r f g h => by
        induction r with
        | nil => rfl
        | cons k r ih => rw [List.filterMap_cons, List.filterMap_cons, h k List.mem_cons_self, ih fun k hk => h k (List.mem_cons_of_mem _ hk)]
      refine this _ _ _ fun k hk => ?_
      rw [List.getElem?_append_left (List.mem_range.mp hk)]
    · simp
theorem feed_len {ns : List Int} {fd : Fd} {G : Sto} : (feedS ns fd ++ G).length = 6 + G.length := by
  rw [List.length_append]; rfl
theorem mulOk_a {c : Nat} (h : c ≤ 12) : MulOk (Str.ofString " a") (c : Int) := by
  have : c = 0 ∨ c = 1 ∨ c = 2 ∨ c = 3 ∨ c = 4 ∨ c = 5 ∨ c = 6 ∨ c = 7 ∨ c = 8 ∨ c = 9 ∨ c = 10 ∨ c = 11 ∨ c = 12 := by omega
  rcases this with rfl | rfl | rfl | rfl | rfl | rfl | rfl | rfl | rfl | rfl | rfl | rfl | rfl <;> exact ⟨by decide +kernel, by decide +kernel, by decide +kernel⟩
/-- names, counts and the program are made -/
theorem law_begin (n : Nat) (ns : List Int) (hns : ns.length ≤ 63) (Q : KD)
    (hQ : ∀ (fd : Fd) (zs : List (List Nat)) (cs : List Nat) (G : Sto) (a c : Nat), fd.ok → zs.length = cs.length → 0 < cs.length → cs.length ≤ 3 → (∀ z ∈ zs, ∀ x ∈ z, x < 128) → (∀ x ∈ cs, 1 ≤ x ∧ x ≤ 12) → lstAt (feedS ns fd ++ G) a = some (zs.map fun z => D.str (Sx z)) → lstAt (feedS ns fd ++ G) (6 + c) = some (cntD cs) → 
      wSs (drop 4 s_law) (pr.cl (n + 15)) { nx := fun _ st' => Q .non st', rt := Q } (fun c fs _ st' => noX c fs st') [some (.ref 0), some (.ref 1), some (.ref a), some (.ref (6 + c)), some (.tup ((progOf zs cs).map partD)), none, none, none, none, none, none, none, none, none, none] (feedS ns fd ++ G)) : callN pr (n + 16) f_law [.ref 0] [.fls (ns.map D.int)] Q noX := by
  refine callN_run rfl rfl ?_
  walk_at "w"
  refine begin_ok rfl hns fun fd h1 => ?_
  walk_at "w"
  have hf0 : feedS ns fd = feedS ns fd ++ [] := by simp
  rw [hf0]
  refine names_ok rfl rfl hns h1 (m := 3) (by decide) fun fe zs a g h2 hzl hz ha => ?_
  rw [List.nil_append] at ha ⊢
  walk_at "w"
  refine fdr hns h2 ⟨by decide, by decide⟩ fun v fe2 v0 v1 h3 => ?_
  obtain ⟨v, rfl⟩ : ∃ j : Nat, v = j := ⟨v.toNat, by omega⟩
  rw [lst_fd (f2 := fe2)] at ha
  walk_at "w"
  rw [ha]
  walk_at "w"
  rw [lst_last, show (1 : Int) + (v : Nat) = ((1 + v : Nat) : Int) from by omega, cutD_to, ← List.map_take]
  have hml : (zs.take (1 + v)).length = 1 + v := by rw [List.length_take]; omega
  have hmz : ∀ z ∈ zs.take (1 + v), ∀ x ∈ z, x < 128 := fun z h => (hz z (List.mem_of_mem_take h)).2
  generalize zs.take (1 + v) = ms at hml hmz ⊢
  walk_at "w"
  rw [List.append_assoc]
  obtain ⟨G1, hG1⟩ : ∃ G1, G1 = g ++ [O.lst (ms.map fun z => D.str (Sx z))] := ⟨_, rfl⟩
  have hm1 : ∀ fd e, lstAt (feedS ns fd ++ (G1 ++ e)) (feedS ns fe2 ++ g).length = some (ms.map fun z => D.str (Sx z)) := fun fd e => by
    rw [hG1]
    refine lst_fe (f1 := fe2) ?_
    rw [← List.append_assoc]
    exact lst_last _ _
  rw [← hG1]
  obtain ⟨A, hA⟩ : ∃ A, A = (feedS ns fe2 ++ g).length := ⟨_, rfl⟩
  rw [← hA] at hm1 ⊢
  refine loopC_sto (f := fun z => D.str (Sx z)) (fun pre st' => ∃ fe' cs, fe'.ok ∧ cs.length = pre.length ∧ st' = feedS ns fe' ++ (G1 ++ [.lst (cntD cs)]) ∧ ∀ c ∈ cs, 1 ≤ c ∧ c ≤ 12) ms (fun pre st' h => ?_) ?_ ?_ ⟨fe2, [], h3, rfl, by rw [List.append_assoc]; rfl, fun c h => nomatch h⟩
  · obtain ⟨fe', cs, h1, h2, rfl, h3⟩ := h
    exact gOk_one (hm1 _ _)
  · rintro pre x post he K' _ ⟨fe', cs, h1, h2, rfl, h3⟩ hK
    walk_at "w"
    refine fdr hns h1 ⟨by decide, by decide⟩ fun u fe3 u0 u1 h5 => ?_
    walk_at "w"
    rw [at_end (by rw [List.length_append]; rfl)]
    have hpl : pre.length < ms.length := by rw [he]; simp
    refine ⟨by show (cntD cs).length < 16777216; rw [List.length_map]; omega, ?_⟩
    rw [← List.append_assoc, show (feedS ns fe2 ++ G1).length = (feedS ns fe3 ++ G1).length from rfl, set_last, List.append_assoc]
    refine hK _ ⟨fe3, cs ++ [(1 + u).toNat], h5, by simp [h2], ?_, ?_⟩
    · unfold cntD; rw [List.map_append, List.map_singleton, show (((1 + u).toNat : Nat) : Int) = 1 + u from by omega]
    · intro c hc
      rcases List.mem_append.mp hc with hc | hc
      · exact h3 c hc
      · rw [List.mem_singleton.mp hc]; omega
  · rintro _ ⟨fe3, cs, h4, h5, rfl, h6⟩
    walk_at "w"
    rw [len_lst (hm1 _ _), List.length_map]
    dsimp only
    rw [dec62_mk (by omega) (by omega)]
    walk_at "w"
    have hc3 : lstAt (feedS ns fe3 ++ (G1 ++ [O.lst (cntD cs)])) (feedS ns fe2 ++ G1).length = some (cntD cs) := lst_end (by rw [List.length_append]; rfl)
    have hm3 := hm1 fe3 [O.lst (cntD cs)]
    rw [show (feedS ns fe2 ++ G1).length = 6 + G1.length from feed_len] at hc3 ⊢
    rw [rngL_eq]
    refine loopC_map (f := fun (k : Nat) => D.int (0 + (k : Int))) (fun k => ((progOf ms cs)[k]?).map TE.partD) (fun _ => gOk_nil) (List.range ((ms.length : Nat) : Int).toNat) [] (fun k hk ac K' hK' hac => ?_) (by rw [List.length_range]; show 0 + _ ≤ 16777216; omega) ?_
    · have hk : k < ms.length := by simpa using hk
      have hkc : k < cs.length := by omega
      have hpk : (progOf ms cs)[k]? = some (Sx ms[k], txtA cs[k]) := by
        unfold progOf
        rw [List.getElem?_map, List.getElem?_eq_getElem (by rw [List.length_zip]; omega), List.getElem_zip]
        rfl
      obtain ⟨d, hd, hd2⟩ : ∃ d, cs[k] = d + 1 ∧ d + 1 ≤ 12 := ⟨cs[k] - 1, by have := h6 _ (List.getElem_mem hkc); omega, by have := h6 _ (List.getElem_mem hkc); omega⟩
      rw [hpk] at hK'
      dsimp only [Option.map_some] at hK'
      rw [hd] at hK'
      walk_at "w"
      rw [show seqOf (feedS ns fe3 ++ (G1 ++ [O.lst (cntD cs)]) ++ [O.lst ac]) (D.ref A) = some (ms.map fun z => D.str (Sx z)) from lst_app _ hm3]
      walk_at "w"
      rw [Int.zero_add, L2.atI_nat (by rw [List.getElem?_map, List.getElem?_eq_getElem hk]; rfl)]
      walk_at "w"
      rw [show seqOf (feedS ns fe3 ++ (G1 ++ [O.lst (cntD cs)]) ++ [O.lst ac]) (D.ref (6 + G1.length)) = some (cntD cs) from lst_app _ hc3]
      walk_at "w"
      rw [L2.atI_nat (by rw [List.getElem?_map, List.getElem?_eq_getElem hkc]; rfl)]
      walk_at "w"
      rw [hd, show Str.ofString " a" = Sx [32, 97] from by decide +kernel, mul_S]
      have hfl : ((List.replicate (d + 1) [32, 97]).flatten).length = 2 * (d + 1) := by
        have := txtA_len (d + 1)
        unfold txtA at this
        rw [List.length_append] at this
        simp only [List.length_singleton] at this
        omega
      refine ⟨⟨by rw [show Sx [32, 97] = Str.ofString " a" from by decide +kernel]; exact mulOk_a hd2, by rw [S_len, hfl]; show _ ≤ 16777216; omega⟩, ?_⟩
      walk_at "w"
      refine ⟨by rw [S_len, hfl]; show _ + 1 ≤ 16777216; omega, ?_⟩
      walk_at "w"
      rw [at_last]
      refine ⟨hac, ?_⟩
      rw [set_last, show Str.ofString "\n" = Sx [10] from by decide +kernel, S_app]
      exact hK' hac
    · rw [List.nil_append]
      walk_at "w"
      rw [seq_last]
      have hl : ((ms.length : Nat) : Int).toNat = (progOf ms cs).length := by unfold progOf; rw [List.length_map, List.length_zip]; show ms.length = _; omega
      rw [hl, fm_range]
      rw [List.append_assoc]
      refine hQ fe3 ms cs _ A G1.length h4 (by omega) (by omega) (by omega) hmz h6 ?_ ?_
      · rw [← List.append_assoc]; exact lst_app _ hm3
      · rw [← List.append_assoc]; exact lst_app _ hc3
end Nk38

set_option Elab.async false
set_option linter.all false
set_option maxRecDepth 100000
set_option maxHeartbeats 2000000
set_option pp.maxSteps 1500
namespace Nk38
open PySem Q3 Lk38 TK
open TE (Ed edD Part OkE wrAll outs mOf isTold isBehind toldFrom csOf cntD)
open L2 (cutS atI)
local macro_rules | `(tactic| walk_at "w") => `(tactic| conv => whnf)
structure GE (cs : List Nat) (i : Nat) (at_ : Int) (es : List Ed) : Prop where
  ch : chain cs none es
  ok : ∀ e ∈ es, okT e.text
  la : ∀ o ∈ es.getLast?, o.part < (i : Int) ∨ o.part = (i : Int) ∧ o.at_ + o.many ≤ at_
  l1 : (es.length : Int) ≤ 13 * i + at_
  l2 : es.length ≤ 13 * i + 13
theorem okT_tail {t : List Nat} (h : okT t) : (tokL t).2 = [] := (okT_gap h).2
theorem ge_next {cs : List Nat} {i : Nat} (hi : i < cs.length) {at_ m : Int} {es : List Ed} (R : GE cs i at_ es) (h0 : 0 ≤ at_) (hm : 0 ≤ m) (h1 : at_ + m ≤ (cs[i] : Nat)) (hc : cs[i] ≤ 12) {t : List Nat} (ht : okT t) {b : Int} (hb1 : at_ + 1 ≤ b) (hb2 : at_ + m ≤ b) : GE cs i b (es ++ [⟨i, at_, m, t⟩]) where
  ch := by
    rw [chain_app]
    refine ⟨R.ch, ?_, ?_, trivial⟩
    · unfold TE.isTold
      dsimp only
      rw [show ((i : Nat) : Int).toNat = i from rfl, List.getElem?_eq_getElem hi, okT_tail ht]
      dsimp only
      rw [decide_eq_false (show ¬ ((i : Nat) : Int) < 0 from by omega), decide_eq_false (show ¬ ((cs.length : Nat) : Int) ≤ (i : Nat) from by omega), decide_eq_false (show ¬ at_ < 0 from by omega), decide_eq_false (show ¬ m < 0 from by omega), decide_eq_false (show ¬ ((cs[i] : Nat) : Int) < at_ + m from by omega)]
      rfl
    · intro o ho
      have ho : o ∈ es.getLast? := by
        cases h : es.getLast? with
        | none => rw [h] at ho; cases ho
        | some x => rw [h] at ho; exact ho
      unfold TE.isBehind
      dsimp only
      rcases R.la o ho with h | ⟨h, h2⟩
      · rw [if_neg (by omega)]; exact decide_eq_true (by omega)
      · rw [if_pos h.symm]; exact decide_eq_true h2
  ok := fun e he => by
    rcases List.mem_append.mp he with he | he
    · exact R.ok e he
    · rw [List.mem_singleton.mp he]; exact ht
  la := fun o ho => by
    rw [List.getLast?_append] at ho
    cases ho
    exact .inr ⟨rfl, hb2⟩
  l1 := by have := R.l1; rw [List.length_append, List.length_singleton]; omega
  l2 := by have := R.l1; rw [List.length_append, List.length_singleton]; omega
def muA (en : En) : Nat := match en[7]? with
  | some (some (D.int x)) => (13 - x).toNat
  | _ => 0
theorem three_at {v : Int} (h0 : 0 ≤ v) (h1 : v < 3) : ∃ t, okT t ∧ atI [D.str (Str.ofString " b"), D.str (Str.ofString " b (c)"), D.str (Str.ofString "")] v = some (.str (Sx t)) := by
  have : v = 0 ∨ v = 1 ∨ v = 2 := by omega
  rcases this with rfl | rfl | rfl
  · exact ⟨_, .inl rfl, by rw [show Sx [32, 98] = Str.ofString " b" from by decide +kernel]; rfl⟩
  · exact ⟨_, .inr (.inl rfl), by rw [show Sx [32, 98, 32, 40, 99, 41] = Str.ofString " b (c)" from by decide +kernel]; rfl⟩
  · exact ⟨_, .inr (.inr rfl), by rw [show Sx [] = Str.ofString "" from by decide +kernel]; rfl⟩
theorem law_edits (n : Nat) {ns : List Int} (hns : ns.length ≤ 63) {fd : Fd} (hf : fd.ok) {zs : List (List Nat)} {cs : List Nat} {G : Sto} {a c : Nat} (hzc : zs.length = cs.length) (h0 : 0 < cs.length) (h3 : cs.length ≤ 3) (hcs : ∀ x ∈ cs, 1 ≤ x ∧ x ≤ 12) (ha : lstAt (feedS ns fd ++ G) a = some (zs.map fun z => D.str (Sx z))) (hc : lstAt (feedS ns fd ++ G) (6 + c) = some (cntD cs)) {pd : D} (Q : KD)
    (hQ : ∀ fd' X es o6 o7 o8, fd'.ok → GE cs cs.length 0 es → wSs (drop 6 s_law) (pr.cl (n + 15)) { nx := fun _ st' => Q .non st', rt := Q } (fun c fs _ st' => noX c fs st') [some (.ref 0), some (.ref 1), some (.ref a), some (.ref (6 + c)), some pd, some (.ref (6 + G.length)), o6, o7, o8, none, none, none, none, none, none] (feedS ns fd' ++ (G ++ [.lst (es.map edD)] ++ X))) :
    wSs (drop 4 s_law) (pr.cl (n + 15)) { nx := fun _ st' => Q .non st', rt := Q } (fun c fs _ st' => noX c fs st') [some (.ref 0), some (.ref 1), some (.ref a), some (.ref (6 + c)), some pd, none, none, none, none, none, none, none, none, none, none] (feedS ns fd ++ G) := by
  walk_at "w"
  rw [List.append_assoc, len_lst (lst_fe ha), List.length_map]
  dsimp only
  rw [dec62_mk (by omega) (by omega)]
  walk_at "w"
  rw [feed_len]
  refine loopF_rng (fun i en st' => ∃ fd' X es o6 o7 o8, fd'.ok ∧ GE cs i 0 es ∧ st' = feedS ns fd' ++ (G ++ [.lst (es.map edD)] ++ X) ∧ en = [some (.ref 0), some (.ref 1), some (.ref a), some (.ref (6 + c)), some pd, some (.ref (6 + G.length)), o6, o7, o8, none, none, none, none, none, none]) (fun _ _ _ _ => gOk_nil) ?_ ?_ ⟨fd, [], [], none, none, none, hf, ⟨trivial, (fun e h => by cases h), (fun o h => by cases h), (by simp), (by simp)⟩, (by simp), rfl⟩
  · rintro i hi K' en st' ⟨fd1, X, es, o6, o7, o8, hf1, R, rfl, rfl⟩ hK
    have hi : i < cs.length := by simp at hi; omega
    walk_at "w"
    refine fdr hns hf1 ⟨by decide, by decide⟩ fun v fd2 v0 v1 h5 => ?_
    have hR : GE cs i v es := ⟨R.ch, R.ok, fun o ho => (R.la o ho).imp id fun ⟨p, q⟩ => ⟨p, by omega⟩, by have := R.l1; omega, R.l2⟩
    clear R
    walk_at "w"
    rw [Int.zero_add]
    have hci := hcs _ (List.getElem_mem hi)
    have hcat : atI (cntD cs) (i : Int) = some (.int (cs[i] : Nat)) := L2.atI_nat (by rw [List.getElem?_map, List.getElem?_eq_getElem hi]; rfl)
    refine wh_inv (fun en st' => ∃ fd' X es at_ o8, fd'.ok ∧ GE cs i at_ es ∧ 0 ≤ at_ ∧ st' = feedS ns fd' ++ (G ++ [.lst (es.map edD)] ++ X) ∧ en = [some (.ref 0), some (.ref 1), some (.ref a), some (.ref (6 + c)), some pd, some (.ref (6 + G.length)), some (.int (i : Int)), some (.int at_), o8, none, none, none, none, none, none]) (fun en _ => muA en) ?_ ⟨fd2, X, es, v, o8, h5, hR, v0, rfl, rfl⟩
    rintro en st' K2 ⟨fd3, X, es, x, o8, h6, R, x0, rfl, rfl⟩ hK2
    have hcl : ∀ fd' X', seqOf (feedS ns fd' ++ (G ++ X')) (.ref (6 + c)) = some (cntD cs) := fun fd' X' => lst_fe hc
    walk_at "w"
    rw [List.append_assoc, hcl]
    walk_at "w"
    rw [hcat]
    walk_at "w"
    by_cases hx : x ≤ (cs[i] : Nat)
    · rw [decide_eq_true hx]
      walk_at "w"
      rw [hcl]
      walk_at "w"
      rw [hcat]
      walk_at "w"
      refine fdr hns h6 ⟨by decide, by decide⟩ fun u fd4 u0 u1 h7 => ?_
      walk_at "w"
      obtain ⟨m, hm⟩ : ∃ m, m = if u < ↑cs[i] - x then u else ↑cs[i] - x := ⟨_, rfl⟩
      have hm0 : 0 ≤ m ∧ x + m ≤ (cs[i] : Nat) := by rw [hm]; split <;> omega
      rw [← hm]
      rw [show mtOk .append (feedS ns fd4 ++ (G ++ ([O.lst (es.map edD)] ++ X))) (.ref (6 + G.length)) = true from mtOk_lst rfl (by rw [← List.append_assoc G]; exact lst_mid rfl)]
      walk_at "w"
      rw [show ∀ (A : O), feedS ns fd4 ++ (G ++ ([O.lst (es.map edD)] ++ X)) ++ [A] = feedS ns fd4 ++ (G ++ ([O.lst (es.map edD)] ++ (X ++ [A]))) from fun A => by simp]
      refine fdr hns h7 ⟨by decide, by decide⟩ fun w fd5 w0 w1 h8 => ?_
      obtain ⟨t, ht, hta⟩ := three_at w0 w1
      walk_at "w"
      rw [show (feedS ns fd4 ++ (G ++ ([O.lst (es.map edD)] ++ X))).length = (feedS ns fd5 ++ (G ++ ([O.lst (es.map edD)] ++ X))).length from rfl]
      rw [show ∀ (A : O), feedS ns fd5 ++ (G ++ ([O.lst (es.map edD)] ++ (X ++ [A]))) = feedS ns fd5 ++ (G ++ ([O.lst (es.map edD)] ++ X)) ++ [A] from fun A => by simp]
      rw [seq_last]
      walk_at "w"
      rw [hta]
      walk_at "w"
      rw [show ∀ (A : O), feedS ns fd5 ++ (G ++ ([O.lst (es.map edD)] ++ X)) ++ [A] = feedS ns fd5 ++ (G ++ [O.lst (es.map edD)] ++ (X ++ [A])) from fun A => by simp]
      rw [at_mid (a := 6 + G.length) (A := feedS ns fd5) rfl]
      have hll := R.l2
      refine ⟨by show (es.map edD).length < 16777216; rw [List.length_map]; omega, ?_⟩
      rw [set_mid (a := 6 + G.length) (A := feedS ns fd5) rfl]
      walk_at "w"
      refine fdr hns h8 ⟨by decide, by decide⟩ fun y fd6 y0 y1 h9 => ?_
      rw [show es.map edD ++ [D.tup [D.int (i : Int), D.int x, D.int m, D.str (Sx t)]] = (es ++ [(⟨i, x, m, t⟩ : Ed)]).map edD from by rw [List.map_append]; rfl]
      obtain ⟨b, hb⟩ : ∃ b, b = x + (if m > 1 then m else 1) + y := ⟨_, rfl⟩
      have hb1 : x + 1 ≤ b ∧ x + m ≤ b := by rw [hb]; split <;> omega
      refine hK2 _ _ ⟨fd6, _, _, b, _, h9, ge_next hi R x0 hm0.1 hm0.2 hci.2 ht hb1.1 hb1.2, by omega, rfl, by rw [hb]; rfl⟩ ?_
      show (13 - (x + (if m > 1 then m else 1) + y)).toNat < (13 - x).toNat
      rw [← hb]
      omega
    · rw [decide_eq_false hx]
      refine hK _ _ ⟨fd3, X, es, _, _, _, h6, ⟨R.ch, R.ok, fun o ho => .inl ?_, ?_, ?_⟩, by simp, rfl⟩
      · rcases R.la o ho with h | ⟨h, _⟩ <;> omega
      · have := R.l2; omega
      · have := R.l2; omega
  · rintro en st' ⟨fd', X, es, o6, o7, o8, h1, R, rfl, rfl⟩
    have : ((zs.length : Nat) : Int).toNat = cs.length := by rw [hzc]; rfl
    rw [this] at R
    exact hQ fd' X es o6 o7 o8 h1 R
end Nk38

set_option Elab.async false
set_option linter.all false
set_option maxRecDepth 100000
set_option maxHeartbeats 2000000
set_option pp.maxSteps 1500
namespace Nk38
open PySem Q3 Lk38 TK
open TE (Ed edD Part OkE wrAll outs mOf isTold isBehind toldFrom csOf cntD)
open L2 (cutS atI)
local macro_rules | `(tactic| walk_at "w") => `(tactic| conv => whnf)
abbrev QT : KD := fun d _ => d = .bl true
theorem okT_C {t : List Nat} (h : okT t) : okC t := by
  rcases h with rfl | rfl | rfl <;> (unfold okC; decide)
/-- edits that are let -/
structure GO (cs : List Nat) (es : List Ed) : Prop where
  ch : chain cs none es
  ok : ∀ e ∈ es, okT e.text
  l : es.length ≤ 52
theorem outs_none : ∀ (ps : List Part) (k : Nat), outs [] 0 ps k = ps.map TE.partD
  | [], _ => rfl
  | q :: ps, k => by
    show TE.partOut q _ :: outs [] 0 ps (k + 1) = _
    rw [outs_none ps]
    have : (TE.laidK [] 0 k q.2).pcs = (tokL q.2).1 := by
      show ((⟨[], none, none⟩ : TE.Rw).lay _).pcs = _
      rw [TE.lay_pcs]
      simp
    unfold TE.partOut
    rw [this, show toksTxt (tokL q.2).1 ++ (tokL q.2).2 = q.2 from by have := due_txt q.2 [] [] false; simpa using this]
    rfl
theorem prog_pl {zs : List (List Nat)} {cs : List Nat} (hza : ∀ z ∈ zs, ∀ x ∈ z, x < 128) (st : Sto) : ∃ p, toP fuelP st (.tup ((progOf zs cs).map TE.partD)) = some p ∧ SeqAt.shaped p = true := by
  refine ⟨.tuple ((progOf zs cs).map fun q => .tuple [.str q.1, .str (Sx q.2)]), toP_tup (mapM_some _ fun q _ => toP_tup rfl), pl_shaped (k := 2) (pl_tup fun x hx => ?_) (by decide)⟩
  obtain ⟨q, hq, rfl⟩ := List.mem_map.mp hx
  unfold progOf at hq
  obtain ⟨⟨z, c⟩, h1, rfl⟩ := List.mem_map.mp hq
  refine pl_tup fun x hx => ?_
  simp only [List.mem_cons, List.not_mem_nil, or_false] at hx
  rcases hx with rfl | rfl
  · exact pl_S (hza z (List.of_mem_zip h1).1) _
  · exact pl_S (txtA_lt c) _
theorem law_two (n : Nat) {ns : List Int} (hns : ns.length ≤ 63) {fd : Fd} (hf : fd.ok) {zs : List (List Nat)} {cs : List Nat} {G : Sto} {a b c : Nat} (hzc : zs.length = cs.length) (h0 : 0 < cs.length) (h3 : cs.length ≤ 3) (hza : ∀ z ∈ zs, ∀ x ∈ z, x < 128) (hcs : ∀ x ∈ cs, 1 ≤ x ∧ x ≤ 12) (hc : lstAt (feedS ns fd ++ G) (6 + c) = some (cntD cs)) {es : List Ed} (he : 0 < es.length) (R : GO cs es) (hb : lstAt (feedS ns fd ++ G) (6 + b) = some (es.map edD)) {o6 o7 o8 : Option D} :
    wSs (drop 7 s_law) (pr.cl (n + 15)) { nx := fun _ st' => QT .non st', rt := QT } (fun c fs _ st' => noX c fs st') [some (.ref 0), some (.ref 1), some (.ref a), some (.ref (6 + c)), some (.tup ((progOf zs cs).map TE.partD)), some (.ref (6 + b)), o6, o7, o8, none, none, none, none, none, none] (feedS ns fd ++ G) := by
  have hSP : simpleP (progOf zs cs) := simple_prog fun c h => (hcs c h).1
  have hcso : csOf (progOf zs cs) = cs := cs_tok hzc fun c h => (hcs c h).1
  have hgood : ∀ es, GO cs es → numD (progOf zs cs) es = .non := fun es R => by
    unfold numD
    rw [if_pos (num_good hSP R.ok (by rw [hcso]; exact R.ch))]
  have hOE : ∀ es, (∀ e ∈ es, okC e.text) → es.length ≤ 52 → OkE 25 20 (progOf zs cs) es := fun es h h2 => okE_of (by omega) (fun c h => (hcs c h).2) h (by omega)
  have hokc : ∀ e ∈ es, okC e.text := fun e h => okT_C (R.ok e h)
  have hl := R.l
  walk_at "w"
  rw [show seqOf (feedS ns fd ++ G) (.ref (6 + b)) = some (es.map edD) from hb]
  walk_at "w"
  rw [feed_len, List.append_assoc]
  have hh : lstAt (feedS ns fd ++ (G ++ [.lst (es.map edD)])) (6 + G.length) = some (es.map edD) := lst_end rfl
  refine number_ok (n + 8) 25 20 (by decide) (by decide) (hOE es hokc hl) hh (by omega) _ _ _ fun x => ?_
  rw [hgood es R]
  walk_at "w"
  rw [List.append_assoc]
  refine number_ok (n + 8) 25 20 (by decide) (by decide) (hOE es hokc hl) (lst_fe hh) (by omega) _ _ _ fun y => ?_
  rw [hgood es R]
  walk_at "w"
  rw [List.append_assoc, List.append_assoc (G ++ _)]
  obtain ⟨H, hH⟩ : ∃ H, H = G ++ [.lst (es.map edD)] ++ (x ++ y) := ⟨_, rfl⟩
  rw [← hH]
  have hcG : ∀ fd' e, lstAt (feedS ns fd' ++ (H ++ e)) (6 + c) = some (cntD cs) := fun fd' e => by
    rw [hH, List.append_assoc, List.append_assoc]
    exact lst_fe hc
  have hbG : ∀ fd' e, lstAt (feedS ns fd' ++ (H ++ e)) (6 + b) = some (es.map edD) := fun fd' e => by
    rw [hH, List.append_assoc, List.append_assoc]
    exact lst_fe hb
  have hhG : ∀ fd' e, lstAt (feedS ns fd' ++ (H ++ e)) (6 + G.length) = some (es.map edD) := fun fd' e => by
    rw [hH, List.append_assoc]
    exact lst_fe hh
  refine loopF_rng (fun i en st' => ∃ fd' X o10 o11 o12 o13, fd'.ok ∧ st' = feedS ns fd' ++ (H ++ X) ∧ en = [some (.ref 0), some (.ref 1), some (.ref a), some (.ref (6 + c)), some (.tup ((progOf zs cs).map TE.partD)), some (.ref (6 + b)), o6, o7, o8, some (.ref (6 + G.length)), o10, o11, o12, o13, none]) (fun _ _ _ _ => gOk_nil) ?_ ?_ ⟨fd, [], _, _, _, _, hf, by rw [List.append_nil], rfl⟩
  · rintro i hi K' en st' ⟨fd', X, o10, o11, o12, o13, hf', rfl, rfl⟩ hK
    walk_at "w"
    refine bad_ok (n + 13) hns hf' (hbG _ _) (hcG _ _) ⟨he, by omega⟩ R.ch hokc _ _ fun fd2 k e2 p g hf2 hk hx hbad hp => ?_
    walk_at "w"
    rw [show seqOf _ (.ref p) = _ from hp]
    walk_at "w"
    have hes2 : ∀ e ∈ es.take k ++ e2 :: es.drop (k + 1), okC e.text := fun e he => by
      rcases List.mem_append.mp he with he | he
      · exact hokc e (List.mem_of_mem_take he)
      · rcases List.mem_cons.mp he with rfl | he
        · exact hx
        · exact hokc e (List.mem_of_mem_drop he)
    have hln : (es.take k ++ e2 :: es.drop (k + 1)).length ≤ 52 := by
      rw [List.length_append, List.length_take, List.length_cons, List.length_drop]; omega
    have hch : chain cs none (es.take k) := by
      have := R.ch
      rw [← List.take_append_drop k es, chain_app] at this
      exact this.1
    have hnum : numD (progOf zs cs) (es.take k ++ e2 :: es.drop (k + 1)) = .int (k : Nat) := by
      rw [num_bad hSP (fun e h => R.ok e (List.mem_of_mem_take h)) (by rw [hcso]; exact hch) (by rw [hcso]; exact hbad), List.length_take, Nat.min_eq_left (by omega)]
    generalize es.take k ++ e2 :: es.drop (k + 1) = es2 at hp hes2 hln hnum ⊢
    have hp2 := lst_last (feedS ns fd2 ++ (H ++ X ++ g)) (es2.map edD)
    have hp1 := lst_app [O.lst (es2.map edD)] hp
    have hE : ∀ e, feedS ns fd2 ++ (H ++ X ++ g) ++ [O.lst (es2.map edD)] ++ e = feedS ns fd2 ++ (H ++ (X ++ g ++ [O.lst (es2.map edD)] ++ e)) := fun e => by simp
    refine number_ok (n + 8) 25 20 (by decide) (by decide) (hOE es2 hes2 hln) hp2 (by omega) _ _ _ fun x => ?_
    rw [hnum]
    walk_at "w"
    rw [decide_eq_true (rfl : (k : Int) = k)]
    walk_at "w"
    refine number_ok (n + 8) 25 20 (by decide) (by decide) (hOE es2 hes2 hln) (lst_app x hp2) (by omega) _ _ _ fun y => ?_
    rw [hnum]
    walk_at "w"
    rw [decide_eq_true (rfl : (k : Int) = k)]
    walk_at "w"
    refine wEq_eds (lst_app _ (lst_app _ hp2)) (lst_app _ (lst_app _ hp1)) hes2 ?_
    walk_at "w"
    rw [List.append_assoc _ x y, hE]
    exact hK _ _ ⟨fd2, _, _, _, _, _, hf2, rfl, rfl⟩
  · rintro en st' ⟨fd', X, o10, o11, o12, o13, hf', rfl, rfl⟩
    walk_at "w"
    refine wEq_eds (hhG _ _) (hbG _ _) hokc ?_
    walk_at "w"
    have hR0 : GO cs [] := ⟨trivial, (fun e h => by cases h), (by simp)⟩
    refine number_ok (n + 8) 25 20 (by decide) (by decide) (hOE [] (fun e h => by cases h) (by simp)) (lst_last _ _) (by simp) _ _ _ fun x => ?_
    rw [hgood [] hR0]
    walk_at "w"
    refine TE.edited_ok hasE (n + 10) 25 20 (by decide) (by decide) (hOE [] (fun e h => by cases h) (by simp)) (lst_last _ _) (by simp) _ _ (fun hw e => ?_) (fun hw e => absurd (num_good (es := []) hSP (fun e h => by cases h) trivial) hw)
    have hm0 : mOf (progOf zs cs) [] = 0 := rfl
    rw [hm0, outs_none]
    obtain ⟨p, hp1, hp2⟩ := prog_pl (cs := cs) hza (feedS ns fd' ++ (H ++ X) ++ [O.lst []] ++ x ++ [O.lst []] ++ e)
    refine wEq_same hp1 hp1 hp2 ?_
    rfl
theorem law_ok (n : Nat) (ns : List Int) (hns : ns.length ≤ 63) : callN pr (n + 16) f_law [.ref 0] [.fls (ns.map D.int)] (fun d _ => d = .bl true) noX := by
  refine law_begin n ns hns _ fun fd zs cs G a c hf hzc h0 h3 hza hcs ha hc => ?_
  refine law_edits n hns hf hzc h0 h3 hcs ha hc _ fun fd' X es o6 o7 o8 hf' R => ?_
  have hce : ∀ e, lstAt (feedS ns fd' ++ (G ++ e)) (6 + c) = some (cntD cs) := fun e => lst_fe hc
  have hes : lstAt (feedS ns fd' ++ (G ++ [.lst (es.map edD)] ++ X)) (6 + G.length) = some (es.map edD) := lst_mid rfl
  have hl2 := R.l1
  have hes2 : seqOf (feedS ns fd' ++ (G ++ [.lst (es.map edD)] ++ X)) (.ref (6 + G.length)) = some (es.map edD) := hes
  walk_at "w"
  refine .inl ⟨es.isEmpty, ?_, ?_⟩
  · show (match lstAt _ _, lstAt _ _ with
      | some xs, some ys => _
      | _, _ => _) = _
    rw [lst_app _ hes, lst_last]
    cases es with
    | nil => rfl
    | cons e r => rfl
  · cases es with
    | cons e r =>
      walk_at "w"
      rw [List.append_assoc]
      refine law_two n hns hf' hzc h0 h3 hza hcs (by rw [List.append_assoc, List.append_assoc]; exact hce _) (es := e :: r) (by simp) ⟨R.ch, R.ok, by omega⟩ ?_
      rw [← List.append_assoc]
      exact lst_app _ hes
    | nil =>
      walk_at "w"
      rw [List.append_assoc (feedS ns fd') _ [O.lst []], feed_len, List.append_assoc (feedS ns fd')]
      obtain ⟨c0, r, rfl⟩ : ∃ c0 r, cs = c0 :: r := by
        cases cs with
        | nil => simp at h0
        | cons c0 r => exact ⟨_, _, rfl⟩
      have hc0 := hcs c0 List.mem_cons_self
      refine law_two n hns hf' hzc h0 h3 hza hcs ?_ (es := [⟨0, 0, 1, [32, 98]⟩]) (by simp) ⟨⟨?_, (fun o h => by cases h), trivial⟩, (fun e h => by rw [List.mem_singleton.mp h]; exact .inl rfl), (by simp)⟩ ?_
      · simp only [List.append_assoc]
        exact hce _
      · unfold TE.isTold
        dsimp only
        rw [show (0 : Int).toNat = 0 from rfl]
        dsimp only [List.getElem?_cons_zero]
        rw [decide_eq_false (show ¬ (((c0 :: r).length : Nat) : Int) ≤ 0 from by simp), decide_eq_false (show ¬ ((c0 : Nat) : Int) < 0 + 1 from by omega), show (tokL [32, 98]).2 = [] from by decide]
        rfl
      · refine lst_end ?_
        rfl
end Nk38

theorem Lk38.main (ns : List Int) (h : ns.length ≤ 63) : Q3.callN Lk38.pr 17 Lk38.f_law [.ref 0] (Q3.scr ns) (fun d _ => d = .bl true) Q3.noX := Nk38.law_ok 1 ns h

theorem PySem.Challenge.cw_turnsame_k38_edits_refused_holds : PySem.Challenge.rw_turnsame_k38_edits_refused.Holds := by
  exact Lk38.law_holds 16 ⟨rfl, by decide, by decide⟩ fun ns h => Lk38.main ns h
